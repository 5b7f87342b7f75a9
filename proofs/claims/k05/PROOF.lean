import PyProof.Rows.All
import Wide.All
import OpenK.AllK
import Wide.FinOn
import KE.KExcSuper
import HandS.ForMost
import HandS.ForExc
import HandS.Defaults
import HandS.IsInst
import HandS.ExcField
import HandS.ExcInit
import KE.KExcIs
import HandS.ExcIs
import HandS.Wide
import HandS.MakeKw
import HandS.MakeKwOnly
import HandS.CallSlots
import HandS.HeadEnd
import HandS.HeadHook2
import HandS.Head2
import HandS.OwnEq
import KE.KOpsOwn
import HandS.Lambda
import HandS.EndTab
import HandS.Iter
import KE.GoesEnum
import HandS.RevRange
import HandS.Zip
import HandS.TupAny
import HandS.DeepEq
import HandS.TupLe
import HandS.Small
import OpenK.KDescr
import HandS.Style
import KE.KCallOwn
import HandS.More
import PyProof.NoPylong
import HandS.Dict
import HandS.Text
import HandS.Codes
import PySem.Challenge.RW_momentrows_k05_ratio_texts
set_option Elab.async false
set_option linter.all false
set_option maxRecDepth 100000
set_option maxHeartbeats 4000000
/-! MR: an own error whose __init__(self, p) says super().__init__(p); self.p = p, below MeansError(ValueError) -/
namespace MR
open PySem PySem.W PySem.Calls PyProof.Rows PySem.HandSPX
/-- the facts of the error class at C, its __init__ at fI with the parameter p -/
structure SupC (prog : Program) (K : Frag) (C fI : Addr) (p : Str) : Prop where
  cls : ∃ nm q N bs bm sn sub ab col dd k0 k1 k2 k3 k5, K.lookup C = some (excClassObj nm q C N bs bm true sn sub ab col dd k0 k1 k2 k3 k5 "ValueError.__new__") ∧ refsVE bm = true ∧
    alongIn K "__init__" bm = some (some (.builtin "ValueError.__init__"))
  sa : findIn K (.ref C) "__setattr__" = some (some (.builtin "object.__setattr__"))
  no : findIn K (.ref C) p = some none
  ini : findIn K (.ref C) "__init__" = some (some (.ref fI))
  tfn : typeIn K (.ref fI) = some (.type "function")
  kC : keepIn K (.ref C) = true
  exC : subIn K (.ref C) (.type "BaseException") = some true
  veC : subIn K (.ref C) (.type "ValueError") = some true
  tyC : typeIn K (.ref C) = some (.type "type")
  selfC : mroIn K C (.ref C) = some true
  opq : nsIn K cStatics "thirdparty.any" = some none
  sup : nsIn K mainGlobals "super" = some none
  top : (prog.main.scope.names.lookup ("super" : Str)).isSome = false
  fn : ∃ (oc : Value) (od : Option Addr) (osl : Array (Option Value)) (fd : FuncData) (a1 a2 : Arg) (q1 q2 q3 q4 q5 q6 q7 q8 q9 q10 : Pos) (cda cc : Addr) (ccl : Value) (cdd : Option Addr) (vs : Array Value) (ccs : Array (Option Value)) (file : Str) (tf : Tok) (cl : Value) (cld : Option Addr) (csl : Array (Option Value)),
    K.lookup fI = some ⟨oc, od, .func fd, osl⟩ ∧ codeIn K fd.code fd.qualname = true ∧
    fd.params = { posonlyargs := [], args := [a1, a2], vararg := none, kwonlyargs := [], kw_defaults := [], kwarg := none, defaults := [] } ∧ a1.arg = "self" ∧ a2.arg = p ∧
    fd.body = .stmts [.Expr (.Call (.Attribute (.Call (.Name "super" q1) [] [] q2) "__init__" q3) [.Name p q4] [] q5) q6, .Assign [.Attribute (.Name "self" q7) p q8] (.Name p q9) q10] ∧
    fd.scope = { kind := .function, names := [("self", .local), (p, .local), ("__class__", .free), ("super", .globalImplicit)], isGenerator := false, isCoroutine := false, more := [] } ∧
    fd.globals = mainGlobals ∧ fd.builtins = builtinsNs ∧ fd.closure = [(("__class__" : Str), cc)] ∧ fd.defaults = .none ∧ fd.code = .ref cda ∧
    K.lookup cda = some ⟨ccl, cdd, .fields vs, ccs⟩ ∧ vs[2]? = some (.str file tf) ∧ ((prog.main.file : Str) == file) = true ∧
    K.lookup cc = some ⟨cl, cld, .cell (some (.ref C)), csl⟩ ∧ (q3.endLine == q5.line) = true
/-- a good parameter's name -/
structure PName (p : Str) : Prop where
  n1 : ¬ p = ("self" : Str)
  n2 : ¬ p = ("__class__" : Str)
  n3 : ¬ p = ("super" : Str)
  n4 : (p == ("__debug__" : Str)) = false
  n5 : (p == ("__classdict__" : Str)) = false
  bnd : ∀ (n1 n2 : Str) (an1 : Option Expr) (ap1 : Pos) (an2 : Option Expr) (ap2 : Pos) (b : FuncBody) (sc : Scope) (gl : Addr) (clo : List (Str × Addr)) (n9 n10 n11 : Value) (n12 : Option Addr) (n13 n14 : Value) (n15 : Addr) (u v : Value),
    bindArgs ⟨n1, n2, { posonlyargs := [], args := [⟨"self", an1, ap1⟩, ⟨p, an2, ap2⟩], vararg := none, kwonlyargs := [], kw_defaults := [], kwarg := none, defaults := [] }, b, sc, gl, clo, .none, n9, n10, n11, n12, n13, n14, n15⟩ ⟨[u, v], []⟩ = pure [(("self" : Str), u), (p, v)]
structure InitEnd (h h' : Heap) (x C dx : Addr) (p : Str) (v : Value) : Prop where
  keep : ∀ b o, b ≠ x → h.get? b = some o → h'.get? b = some o
  obj : ∃ t1, h'.get? x = some { cls := .ref C, dict := some dx, data := .fields #[.ref t1, .none, .none, .none, .bool false, .none] }
  dbig : h.objs.size ≤ dx
  dne : dx ≠ x
  ns : h'.Ns1 dx (fun y => if y = p then some v else none)
theorem qDr : PName "word" := ⟨by decide +kernel, by decide +kernel, by decide +kernel, by decide +kernel, by decide +kernel, fun _ _ _ _ _ _ _ _ _ _ _ _ _ _ _ _ _ _ _ => rfl⟩
theorem qMi {o : Expr} {name : Str} {apos pos : Pos} {env : Env} {a : Expr} (h : (apos.endLine == pos.line) = true) (hs : starEach [a] env = [(false, eval a env)]) :
    eval (.Call (.Attribute o name apos) [a] [] pos) env = (do
      let ov ← attributeBase o name env (eval o env)
      standAt apos.atName
      let (f, first) ← holding [ov] (getMethod ov name (do return (← importBound o env).getD true))
      callWith pos f first (backTo pos (starEach [a] env)) []) := by
  have e0 : eval (.Call (.Attribute o name apos) [a] [] pos) env = (do
      let ov ← attributeBase o name env (eval o env)
      standAt apos.atName
      methodCall o name apos pos env ov 1 (backTo pos (starEach [a] env)) []) := rfl
  have e1 : methodCallPos true o env apos pos = pure pos := by
    unfold methodCallPos
    rw [h]
    rfl
  have e2 : methodCallForm 1 (backTo pos (starEach [a] env)) [] = true := by rw [hs]; rfl
  rw [e0]
  unfold methodCall
  rw [e2]
  simp only [e1, pure_bind]
  rfl
/-- the bound ValueError.__init__ called -/
theorem qKd {prog : Program} {w : World} {A : Around} {E : Value → Shared → Prop} {s : Shared} {C u x t0 : Addr} {nm q : Str} {N : Addr} {bs bm : List Value} {hdct : Bool} {sn : List Str} {sub : List Value} {ab : Bool} {col : Option Bool} {dd : Option Addr} {k0 k1 k2 k3 k5 : Option Value} {Q : Value → Shared → Prop}
    (hC : s.heap.get? C = some (excClassObj nm q C N bs bm hdct sn sub ab col dd k0 k1 k2 k3 k5 "ValueError.__new__")) (hu : s.heap.get? u = some (kxs_mw "ValueError.__init__" x)) (hx : s.heap.get? x = some (excO C t0)) {rest : List Value} (hz : rest.length ≤ sizeLine)
    (h : ∀ h' t1, (∀ b o, b ≠ x → s.heap.get? b = some o → h'.get? b = some o) → h'.get? x = some (excO C t1) → Q .none { s with heap := h' }) : wpAny (model prog w) A (call (.ref u) rest) Q E s := by
  have f1 : (Value.type "method-wrapper" == Value.type "method" || Value.type "method-wrapper" == Value.type "builtin_function_or_method" || Value.type "method-wrapper" == Value.type "method-wrapper") = true := by decide
  obtain ⟨hh, g, d, tk, os⟩ := s
  refine wpAny_call (codeAny_of_tree ?_)
  show wpAny _ A.in1 (callAny (Value.ref u) ⟨rest, []⟩) _ _ _
  unfold callAny
  refine wpAny_bind (wpAny_load hu ?_)
  dsimp only [kxs_mw]
  rw [if_pos f1]
  refine KFB.if_so (by decide) ?_
  refine wpAny_bind (check_bound_init F.excBase_ValueError.toExcCallFacts hC hx rfl ?_)
  refine wpAny_bind (wpAny_pure (wpAny_pure ⟨plainId_quiet F.excBase_ValueError.init.plain _, codeAny_builtin F.excBase_ValueError.initEntry ?_⟩))
  refine exc_init_tree (cls := .ref C) (t0 := t0) (dv := none) (c2 := .none) (c3 := .none) (b4 := .bool false) hx hz ?_
  intro h' k e1 e2
  exact h h' _ k e1
section
variable {prog : Program} {w : World} {A : Around} {E : Value → Shared → Prop} {R : Result → Shared → Prop} {s : Shared} {K : Frag} {C fI : Addr} {p : Str}
theorem qNy (T : SupC prog K C fI p) (hp : PName p) {x t0 : Addr} {v : Value} {mg mb : Str → Option Value} (X : K.In s.heap) (G : s.heap.Ns mainGlobals mg) (B : s.heap.Ns builtinsNs mb) (hB : ∀ x : Str, x ≠ "__name__" → mb x = bootBuiltins x)
    (hlim : s.heap.NoLimit) (hx : s.heap.get? x = some (excO C t0)) (hnx : K.lookup x = none) (hroom : A.depth < recursionLimit)
    (hq : ∀ h' tk dx, InitEnd s.heap h' x C dx p v → R (.ok (.ret .none)) { s with heap := h', toks := tk }) :
    codeAny (model prog w) A (.call (.ref fI) ⟨[.ref x, v], []⟩) R s := by
  obtain ⟨oc, od, osl, fd, a1, a2, q1, q2, q3, q4, q5, q6, q7, q8, q9, q10, cda, cc, ccl, cdd, vs, ccs, file, tf, cl, cld, csl, hf, hcd, hpar, ha1, ha2, hbody, hsc, hgl, hbt, hclo, hdf, hcode, hcda, hvs, hfile, hcell, hq35⟩ := T.fn
  obtain ⟨nm, q, N, bs, bm, sn, sub, ab, col, dd, k0, k1, k2, k3, k5, hC, hbm, hal⟩ := T.cls
  have hcl : clsIn K C = some { name := nm, bases := bs, mro := .ref C :: bm, ns := N, qualname := q, hasDict := true, slotNames := sn, subclasses := sub, abstract := ab, collection := col, hasDel := false } := by unfold clsIn; rw [hC] <;> rfl
  obtain ⟨n1, n2, n3, n4, n5, n6, n7, n8, n9, n10, n11, n12, n13, n14, n15⟩ := fd
  obtain ⟨aa1, an1, ap1⟩ := a1
  obtain ⟨aa2, an2, ap2⟩ := a2
  dsimp only at hcd hpar ha1 ha2 hbody hsc hgl hbt hclo hdf hcode
  subst hpar ha1 ha2 hbody hsc hgl hbt hclo hdf hcode
  have e1 : ¬ aa2 = ("self" : Str) := hp.n1
  have b1 : (aa2 == ("self" : Str)) = false := by simpa using e1
  have b2 : (aa2 == ("__class__" : Str)) = false := by simpa using hp.n2
  have b3 : (aa2 == ("super" : Str)) = false := by simpa using hp.n3
  have b4 : (("self" : Str) == aa2) = false := by simpa using Ne.symm e1
  have b5 : (("__class__" : Str) == aa2) = false := by simpa using Ne.symm hp.n2
  have b6 : (("super" : Str) == aa2) = false := by simpa using Ne.symm hp.n3
  have ls : ([(("self" : Str), NameKind.local), (aa2, NameKind.local), (("__class__" : Str), NameKind.free), (("super" : Str), NameKind.globalImplicit)] : List (Str × NameKind)).lookup ("self" : Str) = some .local := by simp [List.lookup]
  have lp : ([(("self" : Str), NameKind.local), (aa2, NameKind.local), (("__class__" : Str), NameKind.free), (("super" : Str), NameKind.globalImplicit)] : List (Str × NameKind)).lookup aa2 = some .local := by simp [List.lookup, b1]
  have lc : ([(("self" : Str), NameKind.local), (aa2, NameKind.local), (("__class__" : Str), NameKind.free), (("super" : Str), NameKind.globalImplicit)] : List (Str × NameKind)).lookup ("__class__" : Str) = some .free := by
    simp [List.lookup, b5, show (("__class__" : Str) == ("self" : Str)) = false by decide +kernel]
  have lu : ([(("self" : Str), NameKind.local), (aa2, NameKind.local), (("__class__" : Str), NameKind.free), (("super" : Str), NameKind.globalImplicit)] : List (Str × NameKind)).lookup ("super" : Str) = some .globalImplicit := by
    simp [List.lookup, b6, show (("super" : Str) == ("self" : Str)) = false by decide +kernel, show (("super" : Str) == ("__class__" : Str)) = false by decide +kernel]
  refine ks_codeAny_call_defAt (binds := [(("self" : Str), .ref x), (aa2, v)]) hroom (X _ _ hf) rfl hlim (codeRec_of X hcd) rfl (BindsTo.of_eq (hp.bnd _ _ _ _ _ _ _ _ _ _ _ _ _ _ _ _ _ _ _)) ?cell ?loc ?body rfl rfl rfl
  case cell => simp
  case loc =>
    intro y hy
    rcases List.mem_cons.mp hy with rfl | hy
    · exact ls
    · rcases List.mem_cons.mp hy with rfl | hy
      · exact lp
      · cases hy
  case body =>
    intro h₁ hn k
    have X₁ : K.In h₁ := X.keeps k
    have hx₁ := k _ _ hx
    have G₁ : h₁.Ns mainGlobals mg := G.keepsP k
    have B₁ : h₁.Ns builtinsNs mb := B.keepsP k
    have hm1 : (fun y => ([(("self" : Str), Value.ref x), (aa2, v)] : List (Str × Value)).reverse.lookup y) ("self" : Str) = some (.ref x) := by simp [List.lookup, b4]
    have hm2 : (fun y => ([(("self" : Str), Value.ref x), (aa2, v)] : List (Str × Value)).reverse.lookup y) aa2 = some v := by simp [List.lookup]
    have hsup : mg "super" = none := mg_none_of X G T.sup
    have hC1 := X₁ _ _ hC
    refine ks_wpAt_execs_cons (ks_wpAt_Expr_any ?_ rfl rfl)
    refine ks_wpAt_MethodCall ?_ (qMi hq35 rfl)
    refine ks_wpAt_super_base (env := callEnv _ _ _) lu lc (by decide +kernel) rfl (X₁ _ _ hf) rfl rfl rfl (X₁ _ _ hcda) rfl hvs hfile T.top ?_
    refine ks_loadName_global rfl lu (loadGlobal_builtin (env := callEnv _ _ _) G₁ hsup B₁ ((hB _ (by decide +kernel)).trans (by decide +kernel)) ⟨rfl, ?_⟩)
    refine wpAny_loadName_free rfl lc rfl ⟨_, X₁ _ _ hcell, rfl⟩ ?_
    refine wpAny_loadName_local rfl ls hn hm1 ?_
    refine ks_wpAny_isType_cls hC1 rfl ⟨rfl, ?_⟩
    refine ks_wpAny_call_super hC1 rfl hx₁ rfl (fun c e => by cases e) (looks_mroIn X₁ T.selfC) (fun h₂ e₂ k₂ => ?_)
    have X₂ : K.In h₂ := X₁.keeps k₂
    have hx₂ := k₂ _ _ hx₁
    have hC2 := X₂ _ _ hC
    have I₂ : InstAt h₂ x (excO C t0) C none := ⟨hx₂, rfl, rfl, trivial⟩
    have hxC : x ≠ C := fun z => by rw [z, hC2] at hx₂; cases hx₂
    have hI2 : Looks (model prog w) h₂ (isInstance (.ref x) (.type "ValueError")) true := I₂.type.andThen (looks_subIn X₂ T.veC)
    refine kxs_getMethod kxs_ValueError (l₀ := .ref C :: bm) (l := bm) e₂ (looks_opaque X₂ T.opq) ((looks_clsIn X₂ hcl).andThen .now) (by simp [List.dropWhile_cons]) X₂ hal hI2 hxC (by decide +kernel) ?_
    dsimp only
    refine kxs_callWith (i := "ValueError.__init__") (x := x) rfl (evalArgs_plain (spliced_cons ?_))
    have kw : ∀ b o, h₂.get? b = some o → (h₂.push (kxs_mw "ValueError.__init__" x)).get? b = some o := fun b o e => Heap.get?_push_of_some _ e
    have hn₂ : (h₂.push (kxs_mw "ValueError.__init__" x)).Ns s.heap.objs.size (fun y => ([(("self" : Str), Value.ref x), (aa2, v)] : List (Str × Value)).reverse.lookup y) := (hn.keepsP k₂).keepsP kw
    refine wpAny_Name (wpAny_loadName_local rfl lp hn₂ hm2 ?_) hp.n4
    refine spliced_nil ⟨Heap.get?_push_at rfl rfl, ?_⟩
    refine qKd (x := x) (t0 := t0) (kw _ _ hC2) (Heap.get?_push_at rfl rfl) (kw _ _ hx₂) (by rw [sizeLine_eq]; exact (by decide : 1 ≤ 16777216)) fun h₃ t1 k₃ hx₃ => ?_
    have hsz : s.heap.objs.size ≠ x := Nat.ne_of_gt (Heap.lt_size hx)
    have old : ∀ b o, b ≠ x → h₁.get? b = some o → h₃.get? b = some o := fun b o hb e => k₃ b o hb (kw b o (k₂ b o e))
    have X₃ : K.In h₃ := fun a o e => old a o (fun z => by rw [z, hnx] at e; cases e) (X₁ _ _ e)
    have hn₃ : h₃.Ns s.heap.objs.size (fun y => ([(("self" : Str), Value.ref x), (aa2, v)] : List (Str × Value)).reverse.lookup y) := by
      obtain ⟨o, es, ep, ho, r⟩ := hn
      exact ⟨o, es, ep, old _ _ hsz ho, r⟩
    refine ks_wpAt_execs_cons (ks_wpAt_Assign_Attr (wpAt_of_wpAny ?_) rfl)
    refine wpAny_Name (wpAny_loadName_local rfl lp hn₃ hm2 ?_) hp.n4
    refine wpAny_Name (wpAny_loadName_local rfl ls hn₃ hm1 ?_) (by decide +kernel)
    refine set_plain X₃ (ox := excO C t1) (od := none) ⟨hx₃, rfl, rfl, trivial⟩ T.sa ?_
    refine exc_osa X₃ hx₃ hcl (show refsVE (.ref C :: bm) = true from hbm) rfl T.no (fun h₄ tk₄ dx k₄ dn dne hx₄ hn₄ => ?_)
    refine wpAt_of_wpAny (wpAny_execs_nil (hq h₄ tk₄ dx ⟨fun b o hb e => k₄ b o hb (old b o hb (k b o e)), ⟨t1, hx₄⟩, Nat.le_of_lt (Nat.lt_of_lt_of_le hn₃.lt dn), dne, hn₄⟩))

/-- a made error -/
structure OwnMade (h h' : Heap) (e C d : Addr) (p : Str) (v : Value) : Prop where
  keep : ∀ b o, h.get? b = some o → h'.get? b = some o
  new : h.objs.size ≤ e
  obj : ∃ oe vs, h'.get? e = some oe ∧ oe.cls = .ref C ∧ oe.dict = some d ∧ oe.data = .fields vs ∧ vs[1]? = some .none
  dbig : h.objs.size ≤ d
  dne : d ≠ e
  ns : h'.Ns1 d (fun y => if y = p then some v else none)
theorem qNz (T : SupC prog K C fI p) (hp : PName p) {v : Value} {mg mb : Str → Option Value} (X : K.In s.heap) (G : s.heap.Ns mainGlobals mg) (B : s.heap.Ns builtinsNs mb) (hB : ∀ x : Str, x ≠ "__name__" → mb x = bootBuiltins x)
    (hlim : s.heap.NoLimit) (hroom : A.depth + 1 < recursionLimit)
    (hq : ∀ h' tk e d, OwnMade s.heap h' e C d p v → R (.ok (.ret (.ref e))) { s with heap := h', toks := tk }) :
    codeAny (model prog w) A (.call (.ref C) ⟨[v], []⟩) R s := by
  obtain ⟨nm, q, N, bs, bm, sn, sub, ab, col, dd, k0, k1, k2, k3, k5, hC, hbm, _⟩ := T.cls
  obtain ⟨hp', g, dr, tk, os⟩ := s
  have k : ∀ b o, hp'.get? b = some o → ((hp'.push (kdv_tup [v])).push (excO C hp'.objs.size)).get? b = some o := fun b o e => Heap.get?_push_of_some _ (Heap.get?_push_of_some _ e)
  have hget : ((hp'.push (kdv_tup [v])).push (excO C hp'.objs.size)).get? (hp'.objs.size + 1) = some (excO C hp'.objs.size) := by heap_get
  have hnx : K.lookup (hp'.objs.size + 1) = none := by
    cases e : K.lookup (hp'.objs.size + 1) with
    | none => rfl
    | some o => exact absurd (Nat.lt_of_succ_lt (Heap.lt_size (show hp'.get? (hp'.objs.size + 1) = some o from X _ _ e))) (Nat.lt_irrefl _)
  refine call_own F.excBase_ValueError (fun X => refsVE_contains X bm hbm) (X _ _ hC) (looks_findIn X T.ini) (fun self => bind_fn X self T.tfn) (by rw [sizeLine_eq]; exact (by decide : 1 ≤ 16777216)) ?_
  refine qNy (s := ⟨(hp'.push (kdv_tup [v])).push (excO C hp'.objs.size), g, dr, tk, os⟩) T hp (X.keeps k) (G.keepsP k) (B.keepsP k) hB (hlim.keeps k) hget hnx ?_ fun h' tk' dx ⟨k', ⟨t1, hx⟩, dn, dne, hns⟩ => ?_
  · show A.depth + 1 < recursionLimit
    exact hroom
  · have old : ∀ b o, hp'.get? b = some o → h'.get? b = some o := fun b o e => k' b o (Nat.ne_of_lt (Nat.lt_succ_of_lt (Heap.lt_size e))) (k b o e)
    have z : hp'.objs.size + 1 + 1 ≤ dx := by
      have q := dn
      simp only [Heap.size_push] at q
      exact q
    exact ⟨rfl, hq h' tk' (hp'.objs.size + 1) dx ⟨old, Nat.le_succ _, ⟨_, _, hx, rfl, rfl, rfl, rfl⟩, (by show hp'.objs.size ≤ dx; omega), dne, hns⟩⟩
end
end MR
namespace MR
open PySem PySem.Spec PyProof.Rows L2
theorem qM7 {p : Str} {v : V} {v' : Value} (r : RelV v v') (f : Str) : RelO (List.lookup f [(p, v)]) (if f = p then some v' else none) := by
  by_cases hw : f = p
  · subst hw
    rw [if_pos rfl]
    have q : List.lookup f [(f, v)] = some v := by simp [List.lookup]
    rw [q]
    exact r
  · rw [if_neg hw]
    have qw : (f == p) = false := by simpa using hw
    have q2 : List.lookup f [(p, v)] = none := by simp [List.lookup, qw]
    rw [q2]
    trivial
section
variable {X : Cx} {C fI : Addr} {p : Str}
/-- C(e): the error, its dict d new -/
def qVa (C : Addr) (p : Str) (ta : TA) : L2.St → Hp → XK → Prop := fun σ H Q => ta σ H fun vs H1 => ∃ v, vs = [v] ∧ ∀ d, H1 d = none → Q (.ref C) (some d) (upd H1 d (.xd [(p, v)]))
theorem qPm {a : Expr} {ta : TA} {x : Str} {p1 pos : Pos} {k : Nat} (T : SupC X.prog X.K C fI p) (hp : PName p) (gC : X.mg x = some (.ref C)) (hr : Room k X.A) (ha : PA X [a] ta) (hg : Gl X x := by rfl)
    (hdb : (x == ("__debug__" : Str)) = false := by decide)
    (he : starEach (a :: []) X.env = (false, eval a X.env) :: starEach [] X.env := by rfl) (hpl : (backTo pos (starEach [] X.env)).any (·.1) = false := by rfl) :
    PMk X (.Call (.Name x p1) [a] [] pos) (qVa C p ta) := by
  intro pins s σ H Q I h
  refine wpAny_Call_Name_kw (ld_glob I hg gC ?_ hdb)
  refine PySem.W.callWith_K (h₀ := X.base) I.ok.mod.kin T.kC (thn (ha.run pos pins s σ H _ I h) fun us s1 hh => ?_) he hpl
  obtain ⟨vs, H1, I1, r1, v, ev, q1⟩ := hh
  subst ev
  refine ⟨I1.kIn, ?_⟩
  cases r1 with
  | cons rv rn =>
    rename_i v' us'
    cases rn
    show wpAny _ _ (call (.ref C) [v']) _ _ _
    have hlim := I1.nolimit
    have GG : s1.heap.Ns mainGlobals X.mg := I1.ok.mod.glob.keepsP I1.bk
    obtain ⟨mb, BB, hB⟩ := I1.ok.mod.blt
    have BB1 : s1.heap.Ns builtinsNs mb := BB.keepsP I1.bk
    obtain ⟨hp', g, dr, tk, os⟩ := s1
    refine wpAny_call (qNz T hp I1.kIn GG BB1 hB hlim (by have := hr.dp; omega) fun h' tk' e d M => ?_)
    show MkP X pins σ Q (.ref e) ⟨h', g, dr, tk', os⟩
    obtain ⟨oe, fv, hoe, hc, hd, hdat, h1⟩ := M.obj
    have hns := M.ns
    obtain ⟨G', g1, g2⟩ := restrict h' fun b => decide (b ≠ e)
    have gk : ∀ b, b ≠ e → G'.get? b = h'.get? b := fun b hb => g1 b (decide_eq_true hb)
    have ge : G'.get? e = none := g2 e (by simp)
    have old : ∀ b o, hp'.get? b = some o → G'.get? b = some o := fun b o q => (gk b (Nat.ne_of_lt (Nat.lt_of_lt_of_le (Heap.lt_size q) M.new))).trans (M.keep b o q)
    have ob : ObjOk X.prog X.w (upd H1 d (.xd [(p, v)])) G' d (.xd [(p, v)]) := ⟨_, hns.at (fun o q => (gk d M.dne).trans q), fun f => qM7 rv f⟩
    have J : Inv X pins σ (upd H1 d (.xd [(p, v)])) ⟨G', g, dr, tk', os⟩ := I1.laid (t' := tk') old M.dbig ob
    refine ⟨e, oe, fv, ⟨G', g, dr, tk', os⟩, _, .ref C, some d, rfl, J, fun b o q => ?_, ge, hoe, ⟨hc, hd⟩, hdat, h1, ?_, rfl, I1.bare, raises_own T.exC T.tyC, q1 d (I1.hok.fresh M.dbig)⟩
    · by_cases hb : b = e
      · have q' : G'.get? b = some o := q
        rw [hb, ge] at q'; cases q'
      · exact (gk b hb).symm.trans q
    · rw [upd_ne (Ne.symm M.dne)]
      exact I1.hok.fresh M.new
/-- raise C(e) -/
def qCx (C : Addr) (p : Str) (W : WX) (ta : TA) : TS := fun _ σ H => qVa C p ta σ H fun cls d H' => W cls d σ H'
theorem qB6 {a : Expr} {ta : TA} {W : WX} {x : Str} {p1 pos pos2 : Pos} {k : Nat} (hc : X.calm = true) (T : SupC X.prog X.K C fI p) (hp : PName p) (gC : X.mg x = some (.ref C)) (hr : Room k X.A) (tk : Takes X W) (ha : PA X [a] ta) (hg : Gl X x := by rfl)
    (hdb : (x == ("__debug__" : Str)) = false := by decide)
    (he : starEach (a :: []) X.env = (false, eval a X.env) :: starEach [] X.env := by rfl) (hpl : (backTo pos (starEach [] X.env)).any (·.1) = false := by rfl) :
    PS X (.Raise (some (.Call (.Name x p1) [a] [] pos)) none pos2) (qCx C p W ta) := ps_raise hc tk (qPm T hp gC hr ha hg hdb he hpl)
end
end MR

set_option Elab.async false
set_option linter.all false
set_option maxRecDepth 100000
set_option maxHeartbeats 4000000
/-! MR: isinstance of the error that a suite holds, whether it has a dict or not -/
namespace MR
open PySem PySem.Spec PyProof.Rows L2
end MR

set_option Elab.async false
set_option linter.all false
set_option maxRecDepth 100000
set_option maxHeartbeats 4000000
/-! MR: rules in the form that the program's walks take -/
namespace MR
open PySem PySem.Spec PyProof.Rows L2
/-! ### a def, a method, a class as the walk takes it -/
abbrev CXX (P : Program) (w : World) : CXT := L2.CX P w
/-- the module's name x is a def that keeps sp; dvs: the defaults of the last parameters -/
def qE9 (P : Program) (w : World) (K : PySem.W.Frag) (mg : Str → Option Value) (base : Heap) (k : Nat) (x : Str) (dvs : List V) (sp : Sp) : Prop :=
  ∃ (f : Addr) (fd : FuncData) (ps : List Str) (ds : List Value), mg x = some (.ref f) ∧ PySem.W.keepIn K (.ref f) = true ∧ FnOk P w K mg base (CXX P w) k f fd ps sp ∧ Binds K fd ps ds ∧ Vals dvs ds
def qJ1 (P : Program) (w : World) (K : PySem.W.Frag) (mg : Str → Option Value) (base : Heap) (k : Nat) (C : Addr) (m : Str) (dvs : List V) (sp : Sp) : Prop :=
  ∃ (f : Addr) (fd : FuncData) (ps : List Str) (ds : List Value), Cls K C ∧ Meth K C m f ∧ FnOk P w K mg base (CXX P w) k f fd ps sp ∧ Binds K fd ps ds ∧ Vals dvs ds
def qK8 (P : Program) (w : World) (K : PySem.W.Frag) (mg : Str → Option Value) (base : Heap) (k : Nat) (x : Str) (C : Addr) (dvs : List V) (sp : Sp) : Prop :=
  ∃ (f : Addr) (fd : FuncData) (ps : List Str) (ds : List Value), mg x = some (.ref C) ∧ Mk K C f ∧ FnOk P w K mg base (CXX P w) k f fd ps sp ∧ Binds K fd ps ds ∧ Vals dvs ds
section
variable {X : Cx} {k : Nat} {C : Addr} {sp : Sp} {dvs : List V} {E : XK} {x m : Str} {p pos apos : Pos} {e o : Expr} {es : List Expr} {ta : TE} {t : TA}
theorem qAk (D : qE9 X.prog X.w X.K X.mg X.base k x dvs sp) (hr : Room k X.A) (hg : Gl X x) (hx : Passes (CXX X.prog X.w) X E)
    (ha : PA X (e :: es) t) (hdb : (x == ("__debug__" : Str)) = false := by decide) (he : starEach (e :: es) X.env = (false, eval e X.env) :: starEach es X.env := by rfl) (hpl : (backTo pos (starEach es X.env)).any (·.1) = false := by rfl) :
    PE X (.Call (.Name x p) (e :: es) [] pos) (tCall sp dvs E t) := by
  obtain ⟨f, fd, ps, ds, h1, h2, h3, h4, h5⟩ := D
  exact pe_call h3 hr hg h1 h2 h4 h5 hx ha hdb he hpl
theorem qEd (D : qK8 X.prog X.w X.K X.mg X.base k x C dvs sp) (hr : Room (k + 1) X.A) (hg : Gl X x) (hx : Passes (CXX X.prog X.w) X E)
    (ha : PA X (e :: es) t) (hdb : (x == ("__debug__" : Str)) = false := by decide) (he : starEach (e :: es) X.env = (false, eval e X.env) :: starEach es X.env := by rfl) (hpl : (backTo pos (starEach es X.env)).any (·.1) = false := by rfl) :
    PE X (.Call (.Name x p) (e :: es) [] pos) (tMake C sp dvs E t) := by
  obtain ⟨f, fd, ps, ds, h1, h2, h3, h4, h5⟩ := D
  exact pe_make h2 h3 hr hg h1 h4 h5 hx ha hdb he hpl
theorem qD6 {pl : Sem Bool} (he : PE X o ta) (D : qJ1 X.prog X.w X.K X.mg X.base k C m dvs sp) (hr : Room k X.A) (hx : Passes (CXX X.prog X.w) X E)
    (ht : eval (.Call (.Attribute o m apos) [] [] pos) X.env = (do
      let ov ← eval o X.env
      standAt apos.atName
      let (f, first) ← holding [ov] (getMethod ov m pl)
      callWith pos f first (backTo pos (starEach [] X.env)) (backToKw pos (keywordEach [] X.env))) := by rfl) :
    PE X (.Call (.Attribute o m apos) [] [] pos) (tMeth C m sp dvs E ta tNil) := by
  obtain ⟨f, fd, ps, ds, h1, h2, h3, h4, h5⟩ := D
  exact pe_meth0 he h1 h2 h3 hr h4 h5 hx ht
/-- what leaves a def's body by a call -/
theorem qMe {W : WX} (tk : Takes X W) (hW : ∀ cls d σ H, E cls d H → W cls d σ H) : Passes (CXX X.prog X.w) X E := passes_call tk hW
end
/-! ### ints -/
/-- no bound is asked -/
def Sml (_ : Int) : Prop := True
instance {b : Int} : Decidable (Sml b) := .isTrue trivial
theorem sml (b : Int) : Sml b := trivial
def qNs (_ j : Int) : Prop := j ≠ 0
theorem cdiv {i j : Int} (h : j ≠ 0) : qNs i j := h
section
variable {X : Cx}
/-- xs[i] read on the way of xs[i] += e -/
theorem qJ0 : PGet X (fun x y H Q => ∃ p xs i v, x = .ref p ∧ y = .int i ∧ 0 ≤ i ∧ SqL X.K H p xs ∧ xs[i.toNat]? = some v ∧ Q v H) := by
  intro pins s σ H x y v u Q I rx ry h
  obtain ⟨p, xs, i, z, rfl, rfl, h0, hq, he, q⟩ := h
  cases rx
  obtain ⟨t, rfl⟩ := ry
  obtain ⟨its, r, pl, hz⟩ := I.list hq
  obtain ⟨w, ew, rw'⟩ := r.get he
  have hn := line63
  have hlt : i.toNat < xs.length := (List.getElem?_eq_some_iff.mp he).1
  exact wpAny_getItem_list pl.isList h0 (by omega) (by simpa using ew) ⟨z, H, I, rw', q⟩
end
end MR
namespace MR
open PySem PySem.Spec PyProof.Rows L2
/-! ### short names of readings -/
abbrev qE5 : R2 := rI0 fun i j => .int (i + j)
abbrev qMa : R2 := rI0 fun i j => .int (i - j)
abbrev qEj : R2 := rI IntMulOk fun i j => .int (i * j)
abbrev qGi : R2 := rI qNs fun i j => .int (i.fdiv j)
abbrev qIg : R2 := rI (fun _ j => j ≠ 0) fun i j => .int (i.fmod j)
abbrev qIe : R2 := rI CPow fun i j => .int (i ^ j.toNat)
abbrev qSz : R2 := rI0 fun i j => .bl (decide (i < j))
abbrev qS3 : R2 := rI0 fun i j => .bl (decide (j < i))
abbrev qUj : R2 := rI0 fun i j => .bl (decide (j ≤ i))
abbrev qPz : V → Hp → VK → Prop := rU fun i => .int (-i)
abbrev qBt : R2 := fun x y H Q => ∃ i j, x = .str i ∧ y = .str j ∧ i.length + j.length ≤ sizeLine ∧ Q (.str (i ++ j)) H
abbrev qMq : List V → Hp → VK → Prop := fun xs H Q => ∃ i, xs = [.int i] ∧ Q (.int (if i < 0 then -i else i)) H
abbrev qT3 : List V → Hp → VK → Prop := fun xs H Q => ∃ i j, xs = [.int i, .int j] ∧ Q (.int (if j > i then j else i)) H
abbrev qJc : List V → Hp → VK → Prop := fun xs H Q => (∃ i, xs = [.int i] ∧ Q (.int i) H) ∨ ∃ k, xs = [.bl k] ∧ Q (.int (if k then 1 else 0)) H
abbrev qQ9 (K : PySem.W.Frag) : V → V → Hp → VK → Prop := fun x y H Q => ∃ p xs i v, x = .ref p ∧ y = .int i ∧ 0 ≤ i ∧ SqL K H p xs ∧ xs[i.toNat]? = some v ∧ Q v H
abbrev qUt (K : PySem.W.Frag) : List V → Hp → VK → Prop := fun xs H Q => ∃ x n, xs = [x] ∧ LenV K x H n ∧ Q (.int n) H
theorem qBy {X : Cx} : OpR X (binaryOp .Mult) qEj := opI fun _ _ _ _ _ _ _ hc q => mul_int q hc
/-! ### sizes -/
theorem qLq {i j : Int} {a b : Nat} (ha : i.natAbs < 2 ^ a) (hb : j.natAbs < 2 ^ b) (h0 : 0 < a) (h1 : 0 < b) (h : a + b ≤ 1000000) : IntMulOk i j := (wide_mul ha hb h0 h1 h).ok
theorem qG1 {i j : Int} (h : i.natAbs < 2 ^ 64) : IntMulOk i j := CMul.ok (.inl (by omega))
theorem qPt {i j : Int} (h : j.natAbs < 2 ^ 64) : IntMulOk i j := CMul.ok (.inr (by omega))
/-! ### heaps -/
theorem qG0 {H : Hp} {p : Addr} {o : HO} (h : H p = none) : Same H (upd H p o) := fun b u e => by
  rw [upd_ne (ne_of_none e h)]
  exact e
/-- all but f is as it was -/
def Keep (f : Addr) (H H' : Hp) : Prop := ∀ b o, H b = some o → b ≠ f → H' b = some o
theorem Keep.refl (f : Addr) (H : Hp) : Keep f H H := fun _ _ h _ => h
theorem Keep.trans {f : Addr} {H H1 H2 : Hp} (a : Keep f H H1) (b : Keep f H1 H2) : Keep f H H2 := fun c o h n => b c o (a c o h n) n
theorem Same.keep {f : Addr} {H H1 : Hp} (a : Same H H1) : Keep f H H1 := fun c o h _ => a c o h
theorem qB0 {f : Addr} {H : Hp} {o : HO} : Keep f H (upd H f o) := fun b u e n => by rw [upd_ne n]; exact e
end MR

/-! MR: the mathematics of fractions -/
namespace MR
theorem qHn {a b : Int} (hb : 0 < b) : a.fdiv (a.gcd b : Int) = (Rat.divInt a b).num := by
  have hg : (a.gcd b : Int) ∣ a := Int.gcd_dvd_left ..
  rw [Rat.num_divInt, Int.fdiv_eq_ediv_of_dvd hg, Int.sign_eq_one_of_pos hb, Int.one_mul, Int.gcd_comm]
theorem qHe {a b : Int} (hb : 0 < b) : b.fdiv (a.gcd b : Int) = ((Rat.divInt a b).den : Int) := by
  have hg : (a.gcd b : Int) ∣ b := Int.gcd_dvd_right ..
  have hn : b ≠ 0 := by omega
  rw [Rat.den_divInt, if_neg hn, Int.fdiv_eq_ediv_of_dvd hg, Int.gcd_comm, Int.natCast_ediv]
  congr 1
  omega
theorem qLp {a b : Int} (hb : b < 0) : a.fdiv (-(a.gcd b : Int)) = (Rat.divInt a b).num := by
  have h := qHn (a := -a) (b := -b) (by omega)
  rw [Rat.neg_divInt_neg, Int.gcd_neg, Int.neg_gcd] at h
  have e := Int.neg_fdiv_neg (-a) (a.gcd b : Int)
  rw [Int.neg_neg] at e
  rw [e, h]
theorem qL1 {a b : Int} (hb : b < 0) : b.fdiv (-(a.gcd b : Int)) = ((Rat.divInt a b).den : Int) := by
  have h := qHe (a := -a) (b := -b) (by omega)
  rw [Rat.neg_divInt_neg, Int.gcd_neg, Int.neg_gcd] at h
  have e := Int.neg_fdiv_neg (-b) (a.gcd b : Int)
  rw [Int.neg_neg] at e
  rw [e, h]
theorem qEx {a b : Int} (hb : b ≠ 0) : ∃ m : Int, m ≠ 0 ∧ a = (Rat.divInt a b).num * m ∧ b = ((Rat.divInt a b).den : Int) * m := by
  obtain ⟨m, h1, h2, h3⟩ := Rat.divInt_num_den (n := a) (d := b) (n' := (Rat.divInt a b).num) (d' := (Rat.divInt a b).den) (z' := (Rat.divInt a b).den_nz) (c := (Rat.divInt a b).reduced) hb rfl
  exact ⟨m, h1, h2, h3⟩
theorem qOa {a b : Int} (hb : b ≠ 0) : (Rat.divInt a b).num.natAbs ≤ a.natAbs := by
  obtain ⟨m, h1, h2, _⟩ := qEx (a := a) hb
  have e : a.natAbs = (Rat.divInt a b).num.natAbs * m.natAbs := by
    rw [← Int.natAbs_mul, ← h2]
  rw [e]
  exact Nat.le_mul_of_pos_right _ (by omega)
theorem qOk {a b : Int} (hb : b ≠ 0) : (Rat.divInt a b).den ≤ b.natAbs := by
  obtain ⟨m, h1, _, h3⟩ := qEx (a := a) hb
  have e : b.natAbs = ((Rat.divInt a b).den : Int).natAbs * m.natAbs := by
    rw [← Int.natAbs_mul, ← h3]
  rw [e, Int.natAbs_natCast]
  exact Nat.le_mul_of_pos_right _ (by omega)
end MR

set_option Elab.async false
set_option linter.all false
set_option maxRecDepth 100000
set_option maxHeartbeats 4000000
/-! MR: is_integer, common_part, Ratio() -/
namespace MR
open PySem PySem.Spec PyProof.Rows L2
/-- b is the answer to: is x an integer? -/
def IntQ (K : PySem.W.Frag) (H : Hp) (x : V) (b : Bool) : Prop := ∃ (t : Value) (b1 : Bool), TyX K H x t ∧ PySem.W.kitOne K t (.type "int") = some b1 ∧ (b1 = false → b = false) ∧ (b1 = true → ∃ b2, PySem.W.kitOne K t (.type "bool") = some b2 ∧ b = !b2)
theorem qJz {K : PySem.W.Frag} {H : Hp} {i : Int} : IntQ K H (.int i) true := ⟨_, true, .base (.int i), kit_ty (by decide +kernel), fun z => (by cases z), fun _ => ⟨false, kit_ty (by decide +kernel), rfl⟩⟩
/-- what the written part says of an own class without surprises -/
structure OwnC (K : PySem.W.Frag) (C : Addr) : Prop where
  cl : Cls K C
  ha : PySem.W.findIn K (.ref C) "__class__" = some (some (.builtin "object.__class__"))
  hn : PySem.W.specialIn K (.builtin "object.__class__") "__get__" = some (some (.builtin "getset_descriptor.__get__"))
  ht : PySem.W.takesIn K (.builtin "object.__class__") = some true
  hm : PySem.W.mroIn K C (.type "object") = some true
  ki : PySem.W.kitOne K (.ref C) (.type "int") = some false
theorem OwnC.ty {K : PySem.W.Frag} {H : Hp} {C a dx : Addr} {fs : List (Str × V)} (T : OwnC K C) (h : H a = some (.ins C dx fs)) : TyX K H (.ref a) (.ref C) := .base (.ins h T.cl T.ha T.hn T.ht T.hm)
def qDq (K : PySem.W.Frag) : Sp := fun vs H Q _ => ∃ (x : V) (b : Bool), vs = [x] ∧ IntQ K H x b ∧ Q (.bl b) H
def qE4 (K : PySem.W.Frag) : TS :=
  (tRet (tAndV (tCB (rIsi K) (tCons (tVar 0) (tCons (tC (.ty "int")) tNil))) (tNotV (tCB (rIsi K) (tCons (tVar 0) (tCons (tC (.ty "bool")) tNil))))))
theorem qF1 {K : PySem.W.Frag} (vs : List V) (H : Hp) (Q : VK) (E : XK) (h : qDq K vs H Q E) : qE4 K { nx := fun _ H' => Q .non H', rt := Q } (start ["value"] vs) H := by
  obtain ⟨x, b, rfl, ⟨t, b1, ty, k1, c1, c2⟩, q⟩ := h
  refine ⟨_, rfl, x, _, t, _, b1, rfl, .ty "int", ty, k1, b1, rfl, ?_⟩
  cases b1 with
  | false =>
    rw [c1 rfl] at q
    exact iteF q
  | true =>
    obtain ⟨b2, k2, rfl⟩ := c2 rfl
    exact iteT ⟨_, rfl, x, _, t, _, b2, rfl, .ty "bool", ty, k2, b2, rfl, q⟩
def qKf : Sp := fun vs H Q _ => ∃ a b : Int, vs = [.int a, .int b] ∧ Q (.int (a.gcd b : Nat)) H
def qD2 (K : PySem.W.Frag) : TS :=
  (tSeq (tPar 0 1 (tCons (tCB qMq (tCons (tVar 0) tNil)) (tCons (tCB qMq (tCons (tVar 1) tNil)) tNil)))
  (tSeq (tWhile (tTest (tOp qS3 (tVar 1) (tC (.int 0)))) (tPar 0 1 (tCons (tVar 1) (tCons (tOp qIg (tVar 0) (tVar 1)) tNil))))
  (tRet (tVar 0))))
theorem qJq (i : Int) : (if i < 0 then -i else i) = (i.natAbs : Int) := by omega
theorem qFa {K : PySem.W.Frag} (vs : List V) (H : Hp) (Q : VK) (E : XK) (h : qKf vs H Q E) : qD2 K { nx := fun _ H' => Q .non H', rt := Q } (start ["one", "other"] vs) H := by
  obtain ⟨a, b, rfl, q⟩ := h
  refine ⟨_, rfl, _, rfl, _, rfl, _, rfl, _, _, rfl, ?_⟩
  rw [qJq, qJq]
  refine while_by (fun σ H' => H' = H ∧ ∃ x y : Nat, σ = [some (.int x), some (.int y)] ∧ x.gcd y = a.gcd b) (fun σ _ => match σ with | [_, some (.int y)] => y.toNat | _ => 0) ⟨rfl, _, _, rfl, rfl⟩ ?_ ?_
  · rintro σ H' ⟨rfl, x, y, rfl, hg⟩
    refine ⟨_, rfl, _, _, rfl, rfl, _, rfl, ?_⟩
    refine ite2 (fun c => ?_) (fun c => ?_)
    · have hy : 0 < y := by
        have := of_decide_eq_true c
        omega
      refine ⟨_, rfl, _, rfl, _, rfl, _, _, rfl, rfl, (by omega), _, _, rfl, ⟨rfl, y, x % y, ?_, ?_⟩, ?_⟩
      · show [some (V.int y), some (V.int ((x : Int).fmod y))] = _
        rw [Int.fmod_eq_emod_of_nonneg _ (by omega)]
        rfl
      · rw [← hg, Nat.gcd_comm x y, Nat.gcd_rec y x, Nat.gcd_comm]
      · show ((x : Int).fmod y).toNat < (y : Int).toNat
        rw [Int.fmod_eq_emod_of_nonneg _ (by omega)]
        have := Nat.mod_lt x hy
        omega
    · have hy : y = 0 := by
        rw [decide_eq_true_eq] at c
        omega
      subst hy
      refine ⟨_, rfl, ?_⟩
      rw [Nat.gcd_zero_right] at hg
      rw [hg]
      exact q
  · rintro σ H' Q1 Q2 hq ⟨v, e1, i, j, e2, e3, k, e4, h4⟩
    exact ⟨v, e1, i, j, e2, e3, k, e4, hq _ _ h4⟩
/-! ### Ratio(top, bottom) -/
abbrev CR (K : PySem.W.Frag) : Addr := He.ga K "Ratio"
/-- the fields of a fraction -/
def qNa (q : Rat) : List (Str × V) := [("top", .int q.num), ("bottom", .int (q.den : Nat))]
def IsRat (K : PySem.W.Frag) (H : Hp) (p : Addr) (q : Rat) : Prop := ∃ dx, H p = some (.ins (CR K) dx (qNa q))
theorem IsRat.same {K : PySem.W.Frag} {H H' : Hp} {p : Addr} {q : Rat} (h : IsRat K H p q) (s : Same H H') : IsRat K H' p q := let ⟨dx, e⟩ := h; ⟨dx, s _ _ e⟩
theorem qRd : ¬ (("bottom" : Str) = "top") := by decide +kernel
theorem qM2 (q : Rat) : (qNa q).lookup ("top" : Str) = some (.int q.num) := by simp [qNa, List.lookup]
theorem qM4 (q : Rat) : (qNa q).lookup ("bottom" : Str) = some (.int (q.den : Nat)) := by
  have h : (("bottom" : Str) == ("top" : Str)) = false := by decide +kernel
  simp [qNa, List.lookup, h]
/-- what the walk asks of the class Ratio -/
structure RTxt (K : PySem.W.Frag) : Prop where
  own : OwnC K (CR K)
  nT : NoAttr K (CR K) "top"
  nB : NoAttr K (CR K) "bottom"
/-- an error of the class at C with the field p = v -/
def Err (K : PySem.W.Frag) (C p w : Str) (H : Hp) (E : XK) : Prop := ∀ d : Addr, H d = none → E (.ref (He.ga K C)) (some d) (upd H d (.xd [(p, .str w)]))
def qBi (K : PySem.W.Frag) : Sp := fun vs H Q E => ∃ (p dx : Addr) (x y : V) (bx : Bool), vs = [.ref p, x, y] ∧ H p = some (.ins (CR K) dx []) ∧ IntQ K H x bx ∧ (bx = false → Err K "NoRatio" "word" "top" H E) ∧
  (bx = true → ∃ bY, IntQ K H y bY ∧ (bY = false → Err K "NoRatio" "word" "bottom" H E) ∧ (bY = true → ∃ a b : Int, x = .int a ∧ y = .int b ∧ (b = 0 → Err K "NoRatio" "word" "zero" H E) ∧
    (b ≠ 0 → Sml b ∧ Q .non (upd H p (.ins (CR K) dx (qNa (Rat.divInt a b)))))))
def qEz (K : PySem.W.Frag) (E : XK) : TS :=
  (tSeq (tIfS (tNot (tB (tCall (qDq K) [] E0 (tCons (tVar 1) tNil)))) (qCx (He.ga K "NoRatio") "word" (fun cls d _ H => E cls d H) (tCons (tC (.str "top")) tNil)) tNext)
  (tSeq (tIfS (tNot (tB (tCall (qDq K) [] E0 (tCons (tVar 2) tNil)))) (qCx (He.ga K "NoRatio") "word" (fun cls d _ H => E cls d H) (tCons (tC (.str "bottom")) tNil)) tNext)
  (tSeq (tIfS (tTest (tOp rEq (tVar 2) (tC (.int 0)))) (qCx (He.ga K "NoRatio") "word" (fun cls d _ H => E cls d H) (tCons (tC (.str "zero")) tNil)) tNext)
  (tSeq (tAsg (tCall qKf [] E0 (tCons (tVar 1) (tCons (tVar 2) tNil))) (gName 3))
  (tSeq (tIfS (tTest (tOp qSz (tVar 2) (tC (.int 0)))) (tAsg (tUn qPz (tVar 3)) (gName 3)) tNext)
  (tSeq (sFld K (tVar 0) (tOp qGi (tVar 1) (tVar 3)) "top")
  (sFld K (tVar 0) (tOp qGi (tVar 2) (tVar 3)) "bottom")))))))
theorem qMf {a b : Int} (hb : b ≠ 0) (h : Sml b) : a.gcd b ≠ 0 ∧ True := by
  have h1 : a.gcd b ≤ b.natAbs := Nat.le_of_dvd (by omega) (Int.gcd_dvd_natAbs_right a b)
  have h2 : a.gcd b ≠ 0 := fun e => hb (Int.gcd_eq_zero_iff.mp e).2
  exact ⟨h2, trivial⟩
theorem qFt {K : PySem.W.Frag} (T : RTxt K) (vs : List V) (H : Hp) (Q : VK) (E : XK) (h : qBi K vs H Q E) : qEz K E { nx := fun _ H' => Q .non H', rt := Q } (start ["self", "top", "bottom", "divisor"] vs) H := by
  obtain ⟨p, dx, x, y, bx, rfl, hp, ix, e1, k1⟩ := h
  refine ⟨_, rfl, x, bx, rfl, ix, _, rfl, ?_⟩
  cases bx with
  | false => exact iteT ⟨_, rfl, e1 rfl⟩
  | true =>
    refine iteF ?_
    obtain ⟨bY, iy, e2, k2⟩ := k1 rfl
    refine ⟨_, rfl, y, bY, rfl, iy, _, rfl, ?_⟩
    cases bY with
    | false => exact iteT ⟨_, rfl, e2 rfl⟩
    | true =>
      refine iteF ?_
      obtain ⟨a, b, rfl, rfl, e3, k3⟩ := k2 rfl
      refine ⟨_, rfl, rfl, _, rfl, ?_⟩
      refine ite2 (fun c => ?_) (fun c => ?_)
      · have hb : b = 0 := by
          have := of_decide_eq_true c
          injection this
        exact ⟨_, rfl, e3 hb⟩
      · have hb : b ≠ 0 := fun z => c (by rw [z]; exact decide_eq_true rfl)
        obtain ⟨hs, q⟩ := k3 hb
        obtain ⟨g0, g9⟩ := qMf (a := a) hb hs
        refine ⟨_, rfl, _, rfl, a, b, rfl, ?_⟩
        refine ⟨_, rfl, _, _, rfl, rfl, _, rfl, ?_⟩
        have fin : ∀ d : Int, d ≠ 0 → Sml d → a.fdiv d = (Rat.divInt a b).num → b.fdiv d = ((Rat.divInt a b).den : Nat) →
            tSeq (sFld K (tVar 0) (tOp qGi (tVar 1) (tVar 3)) "top") (sFld K (tVar 0) (tOp qGi (tVar 2) (tVar 3)) "bottom") { nx := fun _ H' => Q .non H', rt := Q } [some (.ref p), some (.int a), some (.int b), some (.int d)] H := by
          intro d d0 d9 en ed
          refine ⟨_, rfl, _, rfl, _, _, rfl, rfl, cdiv d0, _, rfl, p, CR K, dx, [], rfl, hp, T.own.cl, T.nT, (by show 0 < 1000; decide), ?_⟩
          refine ⟨_, rfl, _, rfl, _, _, rfl, rfl, cdiv d0, _, rfl, p, CR K, dx, _, rfl, upd_same, T.own.cl, T.nB, (by show 1 < 1000; decide), ?_⟩
          rw [upd_upd]
          dsimp only
          rw [en, ed]
          have ef : putF "bottom" (V.int ((Rat.divInt a b).den : Nat)) (putF "top" (V.int (Rat.divInt a b).num) []) = qNa (Rat.divInt a b) := by
            show (if ("top" : Str) = "bottom" then _ else _ :: putF "bottom" _ []) = _
            rw [if_neg (fun z => qRd z.symm)]
            rfl
          rw [ef]
          exact q
        refine ite2 (fun c => ?_) (fun c => ?_)
        · have hn : b < 0 := of_decide_eq_true c
          refine ⟨_, rfl, _, rfl, ?_⟩
          exact fin (-(a.gcd b : Int)) (by omega) trivial (qLp hn) (qL1 hn)
        · have hn : 0 < b := by
            rw [decide_eq_true_eq] at c
            omega
          exact fin (a.gcd b : Int) (by omega) trivial (qHn hn) (qHe hn)
/-- Ratio(a, b), a fraction comes out: all that was stands, the new object holds it -/
theorem qRa {K : PySem.W.Frag} {H : Hp} {R : Hp → Prop} {E : XK} {a b : Int} {x dx : Addr} (nx : H x = none) (nd : H dx = none) (hb : b ≠ 0) (hs : Sml b) (k : ∀ H', Same H H' → IsRat K H' x (Rat.divInt a b) → R H') :
    qBi K [.ref x, .int a, .int b] (upd (upd H dx (.own x)) x (.ins (CR K) dx [])) (fun v H2 => v = .non ∧ R H2) E := by
  refine ⟨x, dx, _, _, true, rfl, upd_same, qJz, fun z => (by cases z), fun _ => ⟨true, qJz, fun z => (by cases z), fun _ => ⟨a, b, rfl, rfl, fun z => absurd z hb, fun _ => ⟨hs, rfl, ?_⟩⟩⟩⟩
  rw [upd_upd]
  refine k _ (fun c o e => ?_) ⟨dx, upd_same⟩
  rw [upd_ne (ne_of_none e nx), upd_ne (ne_of_none e nd)]
  exact e
theorem qNw {K : PySem.W.Frag} {H H' : Hp} {x : V} {t : Value} (s : Same H H') (h : TyX K H x t) : TyX K H' x t := by
  cases h with
  | base h =>
    refine .base ?_
    cases h with
    | non => exact .non
    | bl x => exact .bl x
    | int i => exact .int i
    | str x => exact .str x
    | flt x => exact .flt x
    | lst e => exact .lst (s _ _ e)
    | frz e => exact .frz (s _ _ e)
    | tup e => exact .tup (s _ _ e)
    | dK e => exact .dK (s _ _ e)
    | dT e => exact .dT (s _ _ e)
    | ins e cl ha hn htk hm => exact .ins (s _ _ e) cl ha hn htk hm
  | byt b => exact .byt b
  | set e => exact .set (s _ _ e)
  | kList e c => exact .kList e c
  | kTuple e c => exact .kTuple e c
  | kDict e c => exact .kDict e c
  | fTuple e => exact .fTuple (s _ _ e)
  | fDict e => exact .fDict (s _ _ e)
theorem IntQ.same {K : PySem.W.Frag} {H H' : Hp} {x : V} {b : Bool} (h : IntQ K H x b) (s : Same H H') : IntQ K H' x b := let ⟨t, b1, h1, h2⟩ := h; ⟨t, b1, qNw s h1, h2⟩
theorem qNx {K : PySem.W.Frag} {H H' : Hp} {f : Addr} {x : V} {t : Value} (s : Keep f H H') (n : x ≠ .ref f) (h : TyX K H x t) : TyX K H' x t := by
  have nn : ∀ {a : Addr}, V.ref a ≠ .ref f → a ≠ f := fun h e => h (by rw [e])
  cases h with
  | base h =>
    refine .base ?_
    cases h with
    | non => exact .non
    | bl x => exact .bl x
    | int i => exact .int i
    | str x => exact .str x
    | flt x => exact .flt x
    | lst e => exact .lst (s _ _ e (nn n))
    | frz e => exact .frz (s _ _ e (nn n))
    | tup e => exact .tup (s _ _ e (nn n))
    | dK e => exact .dK (s _ _ e (nn n))
    | dT e => exact .dT (s _ _ e (nn n))
    | ins e cl ha hn htk hm => exact .ins (s _ _ e (nn n)) cl ha hn htk hm
  | byt b => exact .byt b
  | set e => exact .set (s _ _ e (nn n))
  | kList e c => exact .kList e c
  | kTuple e c => exact .kTuple e c
  | kDict e c => exact .kDict e c
  | fTuple e => exact .fTuple (s _ _ e (nn n))
  | fDict e => exact .fDict (s _ _ e (nn n))
theorem IntQ.keep {K : PySem.W.Frag} {H H' : Hp} {f : Addr} {x : V} {b : Bool} (h : IntQ K H x b) (s : Keep f H H') (n : x ≠ .ref f) : IntQ K H' x b := let ⟨t, b1, h1, h2⟩ := h; ⟨t, b1, qNx s n h1, h2⟩
end MR

set_option Elab.async false
set_option linter.all false
set_option maxRecDepth 100000
set_option maxHeartbeats 4000000
/-! MR: facts of the head, each a Bool of the written part -/
namespace MR
open PySem PySem.Spec PyProof.Rows L2 He
abbrev Fct : Type := PySem.W.Frag → Bool
abbrev AlM : Type := Bool × List FnW
def qUy (bs : List Fct) (fn : List DefD) (K : PySem.W.Frag) : AlM := ((bs.all fun f => f K) && fn.all fun d => d.ok K, fn.map fun d => fnW K d.at_)
def qOd (fn : List DefD) : AlM := (true, fn.map DefD.val)
def SaysM (bs : List Fct) (fn : List DefD) (K : PySem.W.Frag) : Prop := qUy bs fn K = qOd fn
section
variable {bs : List Fct} {fn : List DefD} {K : PySem.W.Frag}
theorem SaysM.one (c : SaysM bs fn K) : (bs.all fun f => f K) = true ∧ (fn.all fun d => d.ok K) = true := ba (congrArg (fun z : AlM => z.1) c)
theorem SaysM.fact (c : SaysM bs fn K) (i : Nat) {f : Fct} (h : bs[i]? = some f := by rfl) : f K = true := List.all_eq_true.mp c.one.1 f (List.mem_of_getElem? h)
theorem SaysM.def_ (c : SaysM bs fn K) (i : Nat) {d : DefD} (h : fn[i]? = some d := by rfl) : ∃ fd, FunD K d.name d.qual d.params d.body d.scope (d.dvs K) (d.kws K) (fAd K d.at_) fd := by
  have e2 : (fn.map fun d => fnW K d.at_)[i]? = (fn.map DefD.val)[i]? := congrArg (fun z : AlM => z.2[i]?) c
  rw [List.getElem?_map, List.getElem?_map, h] at e2
  exact DefD.funD (Option.some.inj e2) (List.all_eq_true.mp c.one.2 d (List.mem_of_getElem? h))
end
/-! ### checks -/
def qHc {α : Type} [DecidableEq α] (a : Option α) (b : α) : Bool := decide (a = some b)
theorem qBa {α : Type} [DecidableEq α] {a : Option α} {b : α} (h : qHc a b = true) : a = some b := of_decide_eq_true h
def own (x : Str) : PySem.W.Frag → Value := fun K => .ref (ga K x)
/-- an own class without surprises -/
def qVd (x : Str) : Fct := fun K => (Fa.cls x).ok K && (eqO (PySem.W.findIn K (.ref (ga K x)) "__class__") (some (some (.builtin "object.__class__"))) && (eqO (PySem.W.specialIn K (.builtin "object.__class__") "__get__") (some (some (.builtin "getset_descriptor.__get__"))) &&
  (qHc (PySem.W.takesIn K (.builtin "object.__class__")) true && (qHc (PySem.W.mroIn K (ga K x) (.type "object")) true && qHc (PySem.W.kitOne K (.ref (ga K x)) (.type "int")) false))))
theorem qMj {K : PySem.W.Frag} {x : Str} (h : qVd x K = true) : OwnC K (ga K x) := by
  obtain ⟨h1, h⟩ := ba h
  obtain ⟨h2, h⟩ := ba h
  obtain ⟨h3, h⟩ := ba h
  obtain ⟨h4, h⟩ := ba h
  obtain ⟨h5, h6⟩ := ba h
  exact ⟨cls_ok h1, eqO_ok h2, eqO_ok h3, qBa h4, qBa h5, qBa h6⟩
/-- an error class, as isinstance asks it in a suite -/
def qVh (x : Str) : Fct := fun K => eqO (PySem.W.findIn K (.ref (ga K x)) "__getattribute__") (some (some (.builtin "BaseException.__getattribute__"))) && (eqO (PySem.W.findIn K (.ref (ga K x)) "__getattr__") (some none) && (qHc (PySem.W.subIn K (.ref (ga K x)) (.type "BaseException")) true && (PySem.W.hasDictIn K (ga K x) &&
  (eqO (PySem.W.findIn K (.ref (ga K x)) "__class__") (some (some (.builtin "object.__class__"))) && (eqO (PySem.W.specialIn K (.builtin "object.__class__") "__get__") (some (some (.builtin "getset_descriptor.__get__"))) && (qHc (PySem.W.takesIn K (.builtin "object.__class__")) true && qHc (PySem.W.mroIn K (ga K x) (.type "object")) true))))))
theorem qPd {K : PySem.W.Frag} {x : Str} (h : qVh x K = true) : ExcC K (ga K x) := by
  obtain ⟨h1, h⟩ := ba h
  obtain ⟨h2, h⟩ := ba h
  obtain ⟨h3, h⟩ := ba h
  obtain ⟨h4, h⟩ := ba h
  obtain ⟨h5, h⟩ := ba h
  obtain ⟨h6, h⟩ := ba h
  obtain ⟨h7, h8⟩ := ba h
  exact ⟨eqO_ok h1, eqO_ok h2, qBa h3, h4, eqO_ok h5, eqO_ok h6, qBa h7, qBa h8⟩
def xfF (x : Str) : Fct := fun K => xfB K (ga K x)
/-! ### an error whose __init__ says super().__init__(p); self.p = p -/
def qQq (p : Str) : FuncBody → Bool
  | .stmts [.Expr (.Call (.Attribute (.Call (.Name s _) [] [] _) i q3) [.Name a _] [] q5) _, .Assign [.Attribute (.Name sf _) b _] (.Name c _) _] =>
    decide (s = "super") && (decide (i = "__init__") && (decide (a = p) && (decide (sf = "self") && (decide (b = p) && (decide (c = p) && (q3.endLine == q5.line))))))
  | _ => false
theorem qNp {p : Str} {b : FuncBody} (h : qQq p b = true) : ∃ q1 q2 q3 q4 q5 q6 q7 q8 q9 q10 : Pos, b = .stmts [.Expr (.Call (.Attribute (.Call (.Name "super" q1) [] [] q2) "__init__" q3) [.Name p q4] [] q5) q6, .Assign [.Attribute (.Name "self" q7) p q8] (.Name p q9) q10] ∧ (q3.endLine == q5.line) = true := by
  unfold qQq at h
  split at h
  · obtain ⟨h1, h⟩ := ba h
    obtain ⟨h2, h⟩ := ba h
    obtain ⟨h3, h⟩ := ba h
    obtain ⟨h4, h⟩ := ba h
    obtain ⟨h5, h⟩ := ba h
    obtain ⟨h6, h7⟩ := ba h
    have e1 := of_decide_eq_true h1
    have e2 := of_decide_eq_true h2
    have e3 := of_decide_eq_true h3
    have e4 := of_decide_eq_true h4
    have e5 := of_decide_eq_true h5
    have e6 := of_decide_eq_true h6
    subst e1 e2 e4
    rw [e3, e5, e6]
    exact ⟨_, _, _, _, _, _, _, _, _, _, rfl, h7⟩
  · cases h
def qT9 (p : Str) : Arguments → Bool
  | ⟨[], [a1, a2], none, [], [], none, []⟩ => decide (a1.arg = "self") && decide (a2.arg = p)
  | _ => false
theorem qPv {p : Str} {a : Arguments} (h : qT9 p a = true) : ∃ a1 a2 : Arg, a = { posonlyargs := [], args := [a1, a2], vararg := none, kwonlyargs := [], kw_defaults := [], kwarg := none, defaults := [] } ∧ a1.arg = "self" ∧ a2.arg = p := by
  unfold qT9 at h
  split at h
  · obtain ⟨h1, h2⟩ := ba h
    exact ⟨_, _, rfl, of_decide_eq_true h1, of_decide_eq_true h2⟩
  · cases h
def scB (p : Str) : Scope → Bool
  | ⟨.function, [(x1, .local), (x2, .local), (x3, .free), (x4, .globalImplicit)], false, false, []⟩ => decide (x1 = "self") && (decide (x2 = p) && (decide (x3 = "__class__") && decide (x4 = "super")))
  | _ => false
theorem qRs {p : Str} {s : Scope} (h : scB p s = true) : s = { kind := .function, names := [("self", .local), (p, .local), ("__class__", .free), ("super", .globalImplicit)], isGenerator := false, isCoroutine := false, more := [] } := by
  unfold scB at h
  split at h
  · obtain ⟨h1, h⟩ := ba h
    obtain ⟨h2, h⟩ := ba h
    obtain ⟨h3, h4⟩ := ba h
    rw [of_decide_eq_true h1, of_decide_eq_true h2, of_decide_eq_true h3, of_decide_eq_true h4]
  · cases h
/-- the function object of such an __init__ -/
def qOz (prog : Program) (p : Str) (K : PySem.W.Frag) (C f : Addr) : Bool := match K.lookup f with
  | some ⟨_, _, .func fd, _⟩ => PySem.W.codeIn K fd.code fd.qualname && (qT9 p fd.params && (qQq p fd.body && (scB p fd.scope && (decide (fd.globals = mainGlobals) && (decide (fd.builtins = builtinsNs) && (decide (fd.defaults = .none) && (match fd.closure, fd.code with
    | [(n, cc)], .ref cda => decide (n = "__class__") && ((match K.lookup cda with
      | some ⟨_, _, .fields vs, _⟩ => (match (vs[2]? : Option Value) with
        | some (.str file _) => (prog.main.file : Str) == file
        | _ => false)
      | _ => false) && (match K.lookup cc with
      | some ⟨_, _, .cell (some (.ref D)), _⟩ => decide (D = C)
      | _ => false))
    | _, _ => false)))))))
  | _ => false
theorem qNr {prog : Program} {p : Str} {K : PySem.W.Frag} {C f : Addr} (h : qOz prog p K C f = true) :
    ∃ (oc : Value) (od : Option Addr) (osl : Array (Option Value)) (fd : FuncData) (a1 a2 : Arg) (q1 q2 q3 q4 q5 q6 q7 q8 q9 q10 : Pos) (cda cc : Addr) (ccl : Value) (cdd : Option Addr) (vs : Array Value) (ccs : Array (Option Value)) (file : Str) (tf : Tok) (cl : Value) (cld : Option Addr) (csl : Array (Option Value)),
    K.lookup f = some ⟨oc, od, .func fd, osl⟩ ∧ PySem.W.codeIn K fd.code fd.qualname = true ∧
    fd.params = { posonlyargs := [], args := [a1, a2], vararg := none, kwonlyargs := [], kw_defaults := [], kwarg := none, defaults := [] } ∧ a1.arg = "self" ∧ a2.arg = p ∧
    fd.body = .stmts [.Expr (.Call (.Attribute (.Call (.Name "super" q1) [] [] q2) "__init__" q3) [.Name p q4] [] q5) q6, .Assign [.Attribute (.Name "self" q7) p q8] (.Name p q9) q10] ∧
    fd.scope = { kind := .function, names := [("self", .local), (p, .local), ("__class__", .free), ("super", .globalImplicit)], isGenerator := false, isCoroutine := false, more := [] } ∧
    fd.globals = mainGlobals ∧ fd.builtins = builtinsNs ∧ fd.closure = [(("__class__" : Str), cc)] ∧ fd.defaults = .none ∧ fd.code = .ref cda ∧
    K.lookup cda = some ⟨ccl, cdd, .fields vs, ccs⟩ ∧ vs[2]? = some (.str file tf) ∧ ((prog.main.file : Str) == file) = true ∧
    K.lookup cc = some ⟨cl, cld, .cell (some (.ref C)), csl⟩ ∧ (q3.endLine == q5.line) = true := by
  unfold qOz at h
  split at h
  · rename_i oc od fd osl hf
    obtain ⟨h1, h⟩ := ba h
    obtain ⟨h2, h⟩ := ba h
    obtain ⟨h3, h⟩ := ba h
    obtain ⟨h4, h⟩ := ba h
    obtain ⟨h5, h⟩ := ba h
    obtain ⟨h6, h⟩ := ba h
    obtain ⟨h7, h⟩ := ba h
    obtain ⟨a1, a2, e2, e2a, e2b⟩ := qPv h2
    obtain ⟨q1, q2, q3, q4, q5, q6, q7, q8, q9, q10, e3, e3b⟩ := qNp h3
    split at h
    · rename_i n cc cda hclo hcode
      obtain ⟨h8, h⟩ := ba h
      obtain ⟨h9, h10⟩ := ba h
      have e8 := of_decide_eq_true h8
      subst e8
      split at h9
      · rename_i ccl cdd vs ccs hcda
        split at h9
        · rename_i file tf hvs
          split at h10
          · rename_i cl cld D csl hcell
            have e10 := of_decide_eq_true h10
            subst e10
            exact ⟨oc, od, osl, fd, a1, a2, q1, q2, q3, q4, q5, q6, q7, q8, q9, q10, cda, cc, ccl, cdd, vs, ccs, file, tf, cl, cld, csl, hf, h1, e2, e2a, e2b, e3, qRs h4, of_decide_eq_true h5, of_decide_eq_true h6, hclo, of_decide_eq_true h7, hcode, hcda, hvs, h9, hcell, e3b⟩
          · cases h10
        · cases h9
      · cases h9
    · cases h
  · cases h
def qLm (K : PySem.W.Frag) (C : Addr) : Bool := match K.lookup C with
  | some ⟨.type t, _, .cls cd, sl⟩ => decide (t = "type") && (match cd.mro, sl.toList with
    | .ref D :: bm, [_, _, _, _, some (.builtin n), _] => decide (D = C) && (decide (n = "ValueError.__new__") && (!cd.hasDel && (cd.hasDict && (HandSPX.refsVE bm && eqO (PySem.W.alongIn K "__init__" bm) (some (some (.builtin "ValueError.__init__")))))))
    | _, _ => false)
  | _ => false
theorem qMu {K : PySem.W.Frag} {C : Addr} (h : qLm K C = true) : ∃ nm q N bs bm sn sub ab col dd k0 k1 k2 k3 k5, K.lookup C = some (excClassObj nm q C N bs bm true sn sub ab col dd k0 k1 k2 k3 k5 "ValueError.__new__") ∧ HandSPX.refsVE bm = true ∧
    PySem.W.alongIn K "__init__" bm = some (some (.builtin "ValueError.__init__")) := by
  unfold qLm at h
  split at h
  · rename_i t dd cd sl ho
    obtain ⟨h0, hh⟩ := ba h
    clear h
    have e0 := of_decide_eq_true h0
    subst e0
    split at hh
    · rename_i D bm k0 k1 k2 k3 n k5 hm hs
      obtain ⟨h1, h⟩ := ba hh
      obtain ⟨h2, h⟩ := ba h
      obtain ⟨h3, h⟩ := ba h
      obtain ⟨h4, h⟩ := ba h
      obtain ⟨h5, h6⟩ := ba h
      have e1 := of_decide_eq_true h1
      have e2 := of_decide_eq_true h2
      subst e1 e2
      obtain ⟨nm, bs, mro, ns, qn, hd, sn, sb, ab, col, del⟩ := cd
      dsimp only at hm h3 h4
      subst hm h4
      have e3 : del = false := by simpa using h3
      subst e3
      refine ⟨nm, qn, ns, bs, bm, sn, sb, ab, col, dd, k0, k1, k2, k3, k5, ?_, h5, eqO_ok h6⟩
      rw [ho]
      have e : sl = #[k0, k1, k2, k3, some (.builtin "ValueError.__new__"), k5] := by
        rw [← Array.toArray_toList (xs := sl), hs]
      rw [e]
    · cases hh
  · cases h
/-- all that SupC asks -/
def qU7 (prog : Program) (x p : Str) : Fct := fun K => qLm K (ga K x) && (qOz prog p K (ga K x) (ma K (ga K x) "__init__") && (eqO (PySem.W.findIn K (.ref (ga K x)) "__setattr__") (some (some (.builtin "object.__setattr__"))) && (eqO (PySem.W.findIn K (.ref (ga K x)) p) (some none) &&
  (eqO (PySem.W.findIn K (.ref (ga K x)) "__init__") (some (some (.ref (ma K (ga K x) "__init__")))) && (qHc (PySem.W.typeIn K (.ref (ma K (ga K x) "__init__"))) (.type "function") && (PySem.W.keepIn K (.ref (ga K x)) && (qHc (PySem.W.subIn K (.ref (ga K x)) (.type "BaseException")) true &&
  (qHc (PySem.W.subIn K (.ref (ga K x)) (.type "ValueError")) true && (qHc (PySem.W.typeIn K (.ref (ga K x))) (.type "type") && (qHc (PySem.W.mroIn K (ga K x) (.ref (ga K x))) true && (eqO (PySem.W.nsIn K cStatics "thirdparty.any") (some none) && (eqO (PySem.W.nsIn K mainGlobals "super") (some none) &&
  !(prog.main.scope.names.lookup ("super" : Str)).isSome))))))))))))
theorem qP8 {prog : Program} {K : PySem.W.Frag} {x p : Str} (h : qU7 prog x p K = true) : SupC prog K (ga K x) (ma K (ga K x) "__init__") p := by
  obtain ⟨h1, h⟩ := ba h
  obtain ⟨h2, h⟩ := ba h
  obtain ⟨h3, h⟩ := ba h
  obtain ⟨h4, h⟩ := ba h
  obtain ⟨h5, h⟩ := ba h
  obtain ⟨h6, h⟩ := ba h
  obtain ⟨h7, h⟩ := ba h
  obtain ⟨h8, h⟩ := ba h
  obtain ⟨h9, h⟩ := ba h
  obtain ⟨h10, h⟩ := ba h
  obtain ⟨h11, h⟩ := ba h
  obtain ⟨h12, h⟩ := ba h
  obtain ⟨h13, h14⟩ := ba h
  exact ⟨qMu h1, eqO_ok h3, eqO_ok h4, eqO_ok h5, qBa h6, h7, qBa h8, qBa h9, qBa h10, qBa h11, eqO_ok h12, eqO_ok h13, by simpa using h14, qNr h2⟩
theorem qNo {K : PySem.W.Frag} {x q : Str} {p : Arguments} {b : List Stmt} {sc : Scope} {dvs : List V} {kws : List (Str × V)} {f : Addr} {fd fd' : FuncData} (F : FunD K x q p b sc dvs kws f fd) (F' : FunD K x q p b sc dvs kws f fd') : fd = fd' := by
  obtain ⟨_, _, _, _, _, _, _, _, _, _, _, h, _⟩ := F.ex
  obtain ⟨_, _, _, _, _, _, _, _, _, _, _, h', _⟩ := F'.ex
  have e := h.symm.trans h'
  simp only [Option.some.injEq, Obj.mk.injEq, Data.func.injEq] at e
  exact e.2.2.1
end MR

set_option Elab.async false
set_option linter.all false
set_option maxRecDepth 100000
set_option maxHeartbeats 4000000
/-! MR: operators that an own class defines -/
namespace MR
open PySem PySem.Spec PyProof.Rows PySem.W
/-- the int's own operator hands back NotImplemented for an instance -/
structure IntDecl (name : Str) (id : String) (B : Builtin) : Prop where
  slot : Slot "int" name id
  entry : entryFor table id = some B
  args : ∀ a b, argsOk id ⟨[a, b], []⟩
  dec : ∀ (prog : Program) (w : World) (A : Around) (E : Value → Shared → Prop) (s : Shared) (a : Int) (t : Tok) (x C dx : Addr) (P : Fin → Shared → Prop), s.heap.get? x = some (instObj C dx) → P (.done (.ret .notImplemented)) s → wpAny (model prog w) A (B ⟨[.int a t, .ref x], []⟩) P E s
/-- a call of it -/
theorem IntDecl.call {name : Str} {id : String} {B : Builtin} (D : IntDecl name id B) {prog : Program} {w : World} {A : Around} {E : Value → Shared → Prop} {s : Shared} {a : Int} {t : Tok} {x C dx : Addr} {Q : Value → Shared → Prop} (hx : s.heap.get? x = some (instObj C dx)) (h : Q .notImplemented s) :
    wpAny (model prog w) A (PySem.call (.builtin id) [.int a t, .ref x]) Q E s :=
  wpAny_call_entry D.slot (typeIs_int s a t) D.entry (D.dec prog w _ _ s a t x C dx _ hx ⟨_, rfl, h⟩) (D.args _ _)
section
variable {prog : Program} {w : World} {A : Around} {E : Value → Shared → Prop} {s : Shared} {K : Frag} {x C dx f : Addr} {od : Option Obj} {n : Int} {t : Tok}
end
end MR

set_option Elab.async false
set_option linter.all false
set_option maxRecDepth 100000
set_option maxHeartbeats 4000000
/-! MR: .. as rules of the layer -/
namespace MR
open PySem PySem.Spec PyProof.Rows L2
/-- what the written part says of an own class's operator nm -/
structure OpC (K : PySem.W.Frag) (C : Addr) (nm : String) : Prop where
  sf : PySem.W.selfFirst K C = true
  sub : PySem.W.subIn K (.type "int") (.ref C) = some false
  subR : PySem.W.subIn K (.ref C) (.type "int") = some false
  fo : ∃ fo ro rc, PySem.W.findIn K (.type "int") (PySem.dunder nm) = some fo ∧ PySem.W.findIn K (.type "int") (dunderR nm) = some ro ∧ PySem.W.findIn K (.ref C) (dunderR nm) = some rc ∧ (rc = none ∨ ∃ g : Addr, rc = some (.ref g))
theorem qMr {X : Cx} {pins : List (Addr × Obj)} {σ : L2.St} {H : Hp} {s : Shared} {p C dx : Addr} {fs : List (Str × V)} (I : Inv X pins σ H s) (e : H p = some (.ins C dx fs)) : ∃ od, PySem.W.InstAt s.heap p (PySem.W.instObj C dx) C (some od) := by
  obtain ⟨mA, O, _⟩ := ins_get I.hok e
  obtain ⟨od, h, _⟩ := O.look
  exact ⟨od, h⟩
theorem qQd {X : Cx} {pins : List (Addr × Obj)} {σ : L2.St} {Q : VK} {v : Value} {s : Shared} (h : EP X pins σ Q v s) : PySem.W.CmpBack (EP X pins σ Q) v s := by
  obtain ⟨x, H, I, r, q⟩ := h
  cases v with
  | notImplemented =>
    cases x <;> first | exact nomatch (show Value.notImplemented = _ from r) | (obtain ⟨_, e⟩ := r; cases e) | cases r
  | _ => exact ⟨x, H, I, r, q⟩
section
variable {X : Cx} {k : Nat} {C : Addr} {sp : Sp} {E : XK}
/-- x op y: x an instance of C, y another or an int -/
def qSb (C : Addr) (sp : Sp) (E : XK) : R2 := fun x y H Q => ∃ p dx fs, x = .ref p ∧ H p = some (.ins C dx fs) ∧ ((∃ n, y = .int n) ∨ ∃ q dy gs, y = .ref q ∧ H q = some (.ins C dy gs)) ∧ sp [x, y] H Q E
theorem qQk {op : CmpOp} (D : qJ1 X.prog X.w X.K X.mg X.base k C (cmpInfo op).2.1 [] sp) (O : OpC X.K C "add") (hr : Room k X.A) (hx : Passes (CXX X.prog X.w) X E) (ho : compareOp op = richCompare op := by rfl) : OpR X (compareOp op) (qSb C sp E) := by
  rw [ho]
  obtain ⟨f, fd, ps, ds, h1, h2, h3, h4, h5⟩ := D
  intro pins s σ H x y v u Q I rx ry h
  obtain ⟨p, dx, fs, rfl, e, hy, q⟩ := h
  cases rx
  cases h5
  obtain ⟨od, J⟩ := qMr I e
  obtain ⟨m, Fm⟩ := I.fr
  have run : wpAny (model X.prog X.w) X.A (call (.ref f) [.ref p, u]) (PySem.W.CmpBack (EP X pins σ Q)) X.xe s :=
    thn (run_fn (us := [.ref p, u]) (vs := [.ref p, y]) h3 hr h4 .nil hx I (.cons rfl (.cons ry .nil)) q) fun _ _ z => qQd z
  rcases hy with ⟨n, rfl⟩ | ⟨r, dy, gs, rfl, ey⟩
  · obtain ⟨t, rfl⟩ := ry
    have nf : PySem.W.notFirst X.K C (.type "int") = true := by
      unfold PySem.W.notFirst
      rw [O.sub]
      simp
    exact PySem.W.cmp_K hr.units0 Fm I.mod.kin J (PySem.W.Looks.of_pure (show typeOf (.int n t) = pure (.type "int") from rfl)) nf h2.at_ h2.fn run
  · cases ry
    obtain ⟨od2, J2⟩ := qMr I ey
    have nf : PySem.W.notFirst X.K C (.ref C) = true := by
      unfold PySem.W.notFirst
      simp
    exact PySem.W.cmp_K hr.units0 Fm I.mod.kin J J2.type nf h2.at_ h2.fn run
end
end MR

set_option Elab.async false
set_option linter.all false
set_option maxRecDepth 100000
set_option maxHeartbeats 4000000
/-! MR: facts of own operators -/
namespace MR
open PySem PySem.Spec PyProof.Rows L2 He
def opF (x : Str) (nm : String) : Fct := fun K => PySem.W.selfFirst K (ga K x) && (qHc (PySem.W.subIn K (.type "int") (.ref (ga K x))) false && (qHc (PySem.W.subIn K (.ref (ga K x)) (.type "int")) false && ((PySem.W.findIn K (.type "int") (PySem.dunder nm)).isSome && ((PySem.W.findIn K (.type "int") (dunderR nm)).isSome &&
  (match PySem.W.findIn K (.ref (ga K x)) (dunderR nm) with
    | some none => true
    | some (some (.ref _)) => true
    | _ => false)))))
theorem qRv {K : PySem.W.Frag} {x : Str} {nm : String} (h : opF x nm K = true) : OpC K (ga K x) nm := by
  obtain ⟨h1, h⟩ := ba h
  obtain ⟨h2, h⟩ := ba h
  obtain ⟨h3, h⟩ := ba h
  obtain ⟨h4, h⟩ := ba h
  obtain ⟨h5, h6⟩ := ba h
  obtain ⟨fo, e4⟩ := Option.isSome_iff_exists.mp h4
  obtain ⟨ro, e5⟩ := Option.isSome_iff_exists.mp h5
  refine ⟨h1, qBa h2, qBa h3, fo, ro, ?_⟩
  split at h6
  · rename_i e
    exact ⟨none, e4, e5, e, .inl rfl⟩
  · rename_i g e
    exact ⟨some (.ref g), e4, e5, e, .inr ⟨g, rfl⟩⟩
  · cases h6
end MR

set_option Elab.async false
set_option linter.all false
set_option maxRecDepth 100000
set_option maxHeartbeats 4000000
/-! MR: a lambda handed to a def of the law, which catches what it raises -/
namespace MR
open PySem PySem.Spec PyProof.Rows L2 LamX
section
variable {X : Cx} {pins : List (Addr × Obj)} {σ σ0 : L2.St} {H HZ : Hp} {s s1 : Shared}
end
section
variable {X : Cx}
end
/-! ### what the def makes of it: the word of the error, or an empty one -/
/-! ### the code objects and their tables -/
/-! ### the end of a law with lambdas -/
def qRh : Option Obj → Bool
  | some ⟨.none, none, .fields vs, sl⟩ => vs.isEmpty && sl.isEmpty
  | _ => false
theorem qOt {a : Addr} {o : Obj} : ∀ {l : PySem.W.Frag}, l.lookup a = some o → (a, o) ∈ l
  | [], e => by cases e
  | (b, u) :: r, e => by
    rw [List.lookup_cons] at e
    cases hb : a == b with
    | true =>
      rw [hb] at e
      cases e
      rw [beq_iff_eq.mp hb]
      exact .head _
    | false =>
      rw [hb] at e
      exact .tail _ (qOt e)
end MR

set_option Elab.async false
set_option linter.all false
set_option maxRecDepth 100000
set_option maxHeartbeats 4000000
/-! MR: the head's run, looked at in parts -/
namespace MR
open PySem PySem.Spec PyProof.Rows L2 He
section
variable {α β γ : Type} {o : Option α} {fr : α → PySem.W.Frag}
def qM5 (o : Option α) (fr : α → PySem.W.Frag) (bs : List Fct) : Prop := o.map (fun s => bs.all fun f => f (fr s)) = some true
def qNg (o : Option α) (fr : α → PySem.W.Frag) (fn : List DefD) : Prop := o.map (fun s => (fn.all fun d => d.ok (fr s), fn.map fun d => fnW (fr s) d.at_)) = some (true, fn.map DefD.val)
end
end MR

set_option Elab.async false
set_option linter.all false
set_option maxRecDepth 100000
set_option maxHeartbeats 4000000
/-! MR: the written part, gathered quickly (a number as the set of the places seen) -/
namespace MR
open PySem PySem.Spec PyProof.Rows L2 He
/-- the places of l that the set m lacks, each once; k goes on with the set -/
def ddU (k : Nat → List Addr → List Addr) : List Addr → Nat → List Addr → List Addr
  | [], m, acc => k m acc
  | a :: l, m, acc => match Nat.beq (Nat.land (Nat.shiftRight m a) 1) 0 with
    | true => ddU k l (Nat.lor m (Nat.shiftLeft 1 a)) (a :: acc)
    | false => ddU k l m acc
def qVr (g : Addr → Option Obj) (as : List Addr) : List Addr := as.flatMap fun a => match g a with
  | some o => refsD o
  | none => []
def asU (g : Addr → Option Obj) : Nat → Nat → List Addr → List Addr
  | 0, _, _ => []
  | n + 1, m, fr => ddU (fun m' nf => nf ++ asU g n m' nf) (qVr g fr) m []
/-- the written part: what the module's names reach in n steps, without empty tables -/
def frU (g : Addr → Option Obj) (n : Nat) : PySem.W.Frag := (He.frG g (sysModules :: mainGlobals :: cStatics :: asU g n (Nat.lor (Nat.shiftLeft 1 mainGlobals) (Nat.lor (Nat.shiftLeft 1 cStatics) (Nat.shiftLeft 1 sysModules))) [mainGlobals, cStatics])).filter fun p => !qRh (some p.2)
theorem qSa {n : Nat} {h : Heap} : (frU h.get? n).In h := fun a o e => by
  have hm0 := qOt e
  unfold frU at hm0
  have hm := (List.mem_filter.mp hm0).1
  unfold He.frG at hm
  obtain ⟨b, _, hb⟩ := List.mem_filterMap.mp hm
  cases hg : h.get? b with
  | none =>
    rw [hg] at hb
    cases hb
  | some u =>
    rw [hg] at hb
    cases hb
    exact hg
end MR

set_option Elab.async false
set_option linter.all false
set_option maxRecDepth 100000
set_option maxHeartbeats 4000000
/-! MR: the draws that the laws make of their script -/
namespace MR
open PySem PySem.Spec PyProof.Rows L2
/-- the list at f is the law's feed: cells at c, place, rest, left, count, sum -/
structure FeedAt (K : PySem.W.Frag) (H : Hp) (f c : Addr) (ns : List Int) (p b l n s : Int) : Prop where
  ob : H f = some (.lst [.ref c, .int p, .int b, .int l, .int n, .int s])
  cs : SqL K H c (ns.map V.int)
  ne : c ≠ f
  nn : ∀ x ∈ ns, 0 ≤ x
  p0 : 0 ≤ p
  b0 : 0 ≤ b
  l0 : 0 ≤ l
  n0 : 0 ≤ n
  s0 : 0 ≤ s
def Feed (K : PySem.W.Frag) (H : Hp) (f : Addr) : Prop := ∃ c ns p b l n s, FeedAt K H f c ns p b l n s
theorem qK3 {K : PySem.W.Frag} {H H' : Hp} {f a : Addr} {xs : List V} (k : Keep f H H') (ne : a ≠ f) (h : SqL K H a xs) : SqL K H' a xs := by
  rcases h with (h | ⟨o, h⟩) | h
  · exact .inl (.inl (k _ _ h ne))
  · exact .inl (.inr ⟨o, k _ _ h ne⟩)
  · exact .inr h
theorem FeedAt.upd {K : PySem.W.Frag} {H : Hp} {f c : Addr} {ns : List Int} {p b l n s p' b' l' n' s' : Int} (F : FeedAt K H f c ns p b l n s) (h1 : 0 ≤ p') (h2 : 0 ≤ b') (h3 : 0 ≤ l') (h4 : 0 ≤ n') (h5 : 0 ≤ s') :
    FeedAt K (upd H f (.lst [.ref c, .int p', .int b', .int l', .int n', .int s'])) f c ns p' b' l' n' s' := ⟨upd_same, qK3 qB0 F.ne F.cs, F.ne, F.nn, h1, h2, h3, h4, h5⟩
theorem FeedAt.same {K : PySem.W.Frag} {H H' : Hp} {f c : Addr} {ns : List Int} {p b l n s : Int} (F : FeedAt K H f c ns p b l n s) (h : Same H H') : FeedAt K H' f c ns p b l n s := ⟨h _ _ F.ob, h.seq F.cs, F.ne, F.nn, F.p0, F.b0, F.l0, F.n0, F.s0⟩
theorem Feed.same {K : PySem.W.Frag} {H H' : Hp} {f : Addr} (F : Feed K H f) (h : Same H H') : Feed K H' f := let ⟨c, ns, p, b, l, n, s, G⟩ := F; ⟨c, ns, p, b, l, n, s, G.same h⟩
def qLn (K : PySem.W.Frag) : TS :=
  (tSeq (tIfS (tTest (tOp qS3 (tOp (rIxL K) (tVar 0) (tC (.int 2))) (tC (.int 0)))) (tSeq (tAsg (tOp qIg (tCB qJc (tCons (tOp (rIxL K) (tVar 0) (tC (.int 2))) tNil)) (tVar 1)) (gName 4))
  (tSeq (tAsg (tOp qGi (tOp (rIxL K) (tVar 0) (tC (.int 2))) (tVar 1)) (gSub (tVar 0) (tC (.int 2)) rSetL))
  (tRet (tVar 4)))) tNext)
  (tSeq (tAsg (tCB qT3 (tCons (tC (.int 0)) (tCons (tOp qMa (tOp (rIxL K) (tVar 0) (tC (.int 3))) (tC (.int 1))) tNil))) (gSub (tVar 0) (tC (.int 3)) rSetL))
  (tSeq (tAsg (tOp qIg (tCB qJc (tCons (tOp qEj (tOp qE5 (tOp qE5 (tOp (rIxL K) (tVar 0) (tC (.int 5))) (tOp qEj (tC (.int 7919)) (tOp (rIxL K) (tVar 0) (tC (.int 4))))) (tC (.int 1))) (tC (.int 48271))) tNil)) (tC (.int 2147483647))) (gName 2))
  (tSeq (tAsg (tOp qIg (tCB qJc (tCons (tOp qEj (tVar 2) (tOp qE5 (tOp qGi (tVar 2) (tC (.int 1009))) (tC (.int 69621)))) tNil)) (tC (.int 2147483647))) (gName 2))
  (tSeq (tAsg (tOp qIg (tCB qJc (tCons (tOp qEj (tVar 2) (tOp qE5 (tOp qGi (tVar 2) (tC (.int 2003))) (tC (.int 40692)))) tNil)) (tC (.int 2147483399))) (gName 2))
  (tRet (tOp qIg (tVar 2) (tVar 1))))))))
def qDs (K : PySem.W.Frag) : TS :=
  (tSeq (tAugS (tVar 0) (tC (.int 4)) (tC (.int 1)) (qQ9 K) (ipI fun i j => i + j) rSetL)
  (tSeq (tIfS (tAnd (tTest (tOp rEq (tOp (rIxL K) (tVar 0) (tC (.int 2))) (tC (.int 0)))) (tAnd (tTest (tOp rEq (tOp (rIxL K) (tVar 0) (tC (.int 3))) (tC (.int 0)))) (tTest (tOp qSz (tOp (rIxL K) (tVar 0) (tC (.int 1))) (tCB (qUt K) (tCons (tOp (rIxL K) (tVar 0) (tC (.int 0))) tNil)))))) (tSeq (tAsg (tOp (rIxL K) (tOp (rIxL K) (tVar 0) (tC (.int 0))) (tOp (rIxL K) (tVar 0) (tC (.int 1)))) (gName 3))
  (tSeq (tAugS (tVar 0) (tC (.int 1)) (tC (.int 1)) (qQ9 K) (ipI fun i j => i + j) rSetL)
  (tIfS (tTest (tOp qUj (tVar 3) (tOp qIe (tC (.int 10)) (tC (.int 18))))) (tAsg (tVar 3) (gSub (tVar 0) (tC (.int 2)) rSetL)) (tSeq (tAsg (tC (.int 7)) (gSub (tVar 0) (tC (.int 3)) rSetL))
  (tAsg (tOp qE5 (tOp (rIxL K) (tVar 0) (tC (.int 5))) (tVar 3)) (gSub (tVar 0) (tC (.int 5)) rSetL)))))) tNext)
  (qLn K)))
theorem qEw {a z : Int} (h : 0 < z) : 0 ≤ a.fmod z ∧ a.fmod z < z := by
  rw [Int.fmod_eq_emod_of_nonneg _ (by omega)]
  exact ⟨Int.emod_nonneg _ (by omega), Int.emod_lt_of_pos _ h⟩
/-! ### _law_feed(script) -/
def qFz (K : PySem.W.Frag) : TS :=
  (tRet (tLst (tCons (tLc (iList K (tSl (rSlL K) (tVar 0) tNoPart (tPart (tC (.int 63))))) (gName 1) tYes (tCB qMq (tCons (tCB qJc (tCons (tVar 1) tNil)) tNil)) [1]) (tCons (tC (.int 0)) (tCons (tC (.int 0)) (tCons (tC (.int 0)) (tCons (tC (.int 0)) (tCons (tC (.int 0)) tNil))))))))
theorem qNi (ns : List Int) (lo hi : Option Int) : ∃ ms : List Int, cutV (ns.map V.int) lo hi = ms.map V.int ∧ ms.length ≤ ns.length := by
  unfold cutV
  refine ⟨(ns.drop (HT.sIx (ns.map V.int).length 0 lo)).take (HT.sIx (ns.map V.int).length (ns.map V.int).length hi - HT.sIx (ns.map V.int).length 0 lo), ?_, ?_⟩
  · rw [List.map_take, List.map_drop]
  · rw [List.length_take, List.length_drop]
    omega
theorem qQr {ms : List Int} {i : Nat} {x : V} (h : (ms.map V.int)[i]? = some x) : ∃ z, ms[i]? = some z ∧ x = .int z := by
  rw [List.getElem?_map] at h
  cases e : ms[i]? with
  | none =>
    rw [e] at h
    cases h
  | some z =>
    rw [e] at h
    exact ⟨z, rfl, (Option.some.inj h).symm⟩
theorem qGx {α : Type} {l : List α} {i : Nat} {x : α} (h : l[i]? = some x) : l.take (i + 1) = l.take i ++ [x] := by
  rw [List.take_add_one, h]
  rfl
/-! ### _law_divisor(a, b): four hundred turns are enough -/
/-- behind i turns -/
structure Eu (g P i x y : Nat) : Prop where
  gc : x.gcd y = g
  lt : 1 ≤ i → y < x ∨ y = 0
  pr : x * y * 2 ^ (i - 1) ≤ P
theorem Eu.fin {g P x y : Nat} (h : Eu g P 400 x y) (hP : P < 2 ^ 399) : y = 0 := by
  rcases Nat.eq_zero_or_pos y with e | hy
  · exact e
  · exfalso
    have hx : 0 < x := by
      rcases h.lt (by decide) with z | z <;> omega
    have h1 : 1 ≤ x * y := Nat.mul_pos hx hy
    have h2 := h.pr
    have h3 : 1 * 2 ^ (400 - 1) ≤ x * y * 2 ^ (400 - 1) := Nat.mul_le_mul_right _ h1
    rw [Nat.one_mul, show 400 - 1 = 399 by decide] at h3
    rw [show 400 - 1 = 399 by decide] at h2
    exact absurd (Nat.lt_of_le_of_lt (Nat.le_trans h3 h2) hP) (Nat.lt_irrefl _)
end MR

set_option Elab.async false
set_option linter.all false
set_option maxRecDepth 100000
set_option maxHeartbeats 4000000
/-! MR: enumerate over a tuple; a walk over a list or a tuple -/
namespace PySem
section
variable {prog : Program} {w : World} {A : Around} {E : Value → Shared → Prop} {s : Shared}
end
end PySem
namespace MR
open PySem PySem.Spec PyProof.Rows L2
theorem PI.or {X : Cx} {tg it : Expr} {w w' : TI} (h : PI X tg it w) (h' : PI X tg it w') : PI X tg it (fun σ H R => w σ H R ∨ w' σ H R) :=
  ⟨fun pins s σ H R I q => q.elim (h.run pins s σ H R I) (h'.run pins s σ H R I)⟩
end MR

set_option exponentiation.threshold 20000
/-! MR: the mathematics of fractions: operators, sizes -/
namespace MR
theorem qOh (q : Rat) : ((q.den : Int) : Rat) ≠ 0 := by
  rw [Rat.intCast_natCast]
  exact fun h => q.den_nz (Rat.natCast_eq_zero_iff.mp h)
theorem qL3 (q : Rat) : ((q.num : Int) : Rat) / ((q.den : Int) : Rat) = q := by
  rw [← Rat.divInt_eq_div, Rat.num_divInt_den]
theorem qQx (a b : Rat) : Rat.divInt (a.num * b.den + b.num * a.den) (a.den * b.den) = a + b := by
  have h1 := qOh a
  have h2 := qOh b
  have e1 := qL3 a
  have e2 := qL3 b
  rw [Rat.divInt_eq_div, Rat.intCast_add, Rat.intCast_mul, Rat.intCast_mul, Rat.intCast_mul]
  grind
theorem den_pos (a : Rat) : (0 : Int) < a.den := by
  have := a.den_nz
  omega
/-! ### sizes: below 2 ^ n above and below the bar -/
structure Sz (n : Nat) (q : Rat) : Prop where
  num : q.num.natAbs < 2 ^ n
  den : q.den < 2 ^ n
theorem Sz.mono {n m : Nat} {q : Rat} (h : Sz n q) (hn : n ≤ m) : Sz m q := ⟨Nat.lt_of_lt_of_le h.num (Nat.pow_le_pow_right (by decide) hn), Nat.lt_of_lt_of_le h.den (Nat.pow_le_pow_right (by decide) hn)⟩
theorem Sz.pos {n : Nat} {q : Rat} (h : Sz n q) : 0 < n := by
  rcases Nat.eq_zero_or_pos n with e | e
  · have := h.den
    rw [e] at this
    have := q.den_nz
    omega
  · exact e
theorem qOc {a b : Int} {n : Nat} (hb : b ≠ 0) (h1 : a.natAbs < 2 ^ n) (h2 : b.natAbs < 2 ^ n) : Sz n (Rat.divInt a b) := ⟨Nat.lt_of_le_of_lt (qOa hb) h1, Nat.lt_of_le_of_lt (qOk hb) h2⟩
theorem qKo {x y a b : Nat} (h1 : x < 2 ^ a) (h2 : y < 2 ^ b) : x * y < 2 ^ (a + b) := by
  rw [Nat.pow_add]
  exact Nat.mul_lt_mul'' h1 h2
theorem absmul {x : Int} {y a b : Nat} (h1 : x.natAbs < 2 ^ a) (h2 : y < 2 ^ b) : (x * (y : Int)).natAbs < 2 ^ (a + b) := by
  rw [Int.natAbs_mul, Int.natAbs_natCast]
  exact qKo h1 h2
theorem absadd {x y : Int} {n : Nat} (h1 : x.natAbs < 2 ^ n) (h2 : y.natAbs < 2 ^ n) : (x + y).natAbs < 2 ^ (n + 1) := by
  rw [Nat.pow_succ]
  omega
theorem Sz.add {n m : Nat} {a b : Rat} (h1 : Sz n a) (h2 : Sz m b) : Sz (n + m + 1) (a + b) := by
  rw [← qQx]
  refine qOc (Int.ne_of_gt (Int.mul_pos (den_pos a) (den_pos b))) (absadd (absmul h1.num h2.den) ?_) ?_
  · have := absmul h2.num h1.den
    rw [Nat.add_comm m n] at this
    exact this
  · have := absmul (x := (a.den : Int)) (by rw [Int.natAbs_natCast]; exact h1.den) h2.den
    exact Nat.lt_of_lt_of_le this (Nat.pow_le_pow_right (by decide) (by omega))
theorem Sz.neg {n : Nat} {a : Rat} (h : Sz n a) : Sz n (-a) := ⟨by rw [Rat.neg_num, Int.natAbs_neg]; exact h.num, by rw [Rat.neg_den]; exact h.den⟩
theorem Sz.sub {n m : Nat} {a b : Rat} (h1 : Sz n a) (h2 : Sz m b) : Sz (n + m + 1) (a - b) := by
  rw [Rat.sub_eq_add_neg]
  exact h1.add h2.neg
end MR

set_option Elab.async false
set_option linter.all false
set_option maxRecDepth 100000
set_option maxHeartbeats 4000000
/-! MR: rows of rationals, plain -/
namespace MR
def coef (cs : List Rat) (k : Nat) : Rat := cs[k]?.getD 0
theorem qPi {cs : List Rat} {k : Nat} (h : k < cs.length) : cs[k]? = some (coef cs k) := by
  unfold coef
  rw [List.getElem?_eq_getElem h]
  rfl
theorem qP5 {cs : List Rat} {k : Nat} (h : cs.length ≤ k) : coef cs k = 0 := by
  unfold coef
  rw [List.getElem?_eq_none h]
  rfl
/-- the size without the zeros at the end of the first n -/
def szN (f : Nat → Rat) : Nat → Nat
  | 0 => 0
  | n + 1 => if f n = 0 then szN f n else n + 1
def strip (cs : List Rat) : List Rat := cs.take (szN (coef cs) cs.length)
/-- no zero at the end -/
def Nrm (cs : List Rat) : Prop := strip cs = cs
/-- the last one, or 0 -/
def qOn (cs : List Rat) : Rat := coef cs (cs.length - 1)
/-! ### sums -/
def qU9 (cs : List Rat) : List Rat := cs.map fun c => -c
/-! ### products -/
/-- the first i rows of the product at k -/
def conv (f g : Nat → Rat) : Nat → Nat → Rat
  | 0, _ => 0
  | i + 1, k => conv f g i k + if i ≤ k then f i * g (k - i) else 0
end MR

set_option Elab.async false
set_option linter.all false
set_option maxRecDepth 100000
set_option maxHeartbeats 4000000
set_option exponentiation.threshold 20000
/-! FL: a layer without a heap: data, what represents them -/
namespace MR
open PySem PySem.Spec PyProof.Rows L2 LamX
/-- a datum -/
inductive D where
  | non | bl (b : Bool) | int (i : Int) | str (x : Str) | rat (q : Rat) | poly (cs : List Rat)
  | lst (ds : List D) | tup (ds : List D) | ins (C : Str) (ns : List Str) (ds : List D) | feed | exc | adr (a : Addr) | scr (ns : List Int)
  | dct (ks : List Key) (ds : List D) | exn (C : Str) (ns : List Str) (ds : List D)
/-- an exception: its class, its fields -/
structure Exn where
  cls : Str
  fs : List (Str × D)
abbrev Env := List (Option D)
def FeedC (K : PySem.W.Frag) (H : Hp) (f c : Addr) : Prop := ∃ ns p b l n s o, FeedAt K H f c ns p b l n s ∧ H c = some (.lst o)
/-- places that change: the feed's, and those of the tables of code objects -/
structure Fd where
  f : Option Addr
  T : List (Addr × Str)
def Fd.no (F : Fd) (p : Addr) : Prop := F.f ≠ some p ∧ ∀ q, q ∈ F.T → q.1 ≠ p
/-- an object that is none of the tables' -/
def Pl : HO → Prop
  | .lst _ => True
  | .ins _ _ _ => True
  | .dK _ => True
  | _ => False
theorem qF0 {T : List (Addr × Str)} {H H' : Hp} (t : Tabs T H) (h : ∀ b o, H b = some o → ¬ Pl o → H' b = some o) : Tabs T H' := fun p hp => by
  obtain ⟨ps, h1, h2, h3⟩ := t p hp
  refine ⟨ps, h _ _ h1 (fun z => z), h2, fun pos cv hc => ?_⟩
  obtain ⟨c, e1, e2⟩ := h3 pos cv hc
  exact ⟨c, e1, h _ _ e2 (fun z => z)⟩
theorem qJk {T : List (Addr × Str)} {H : Hp} {p : Addr} {o u : HO} (t : Tabs T H) (h : H p = some o) (hp : Pl o) : Tabs T (upd H p u) := qF0 t fun b v e n => by
  rw [upd_ne (fun z => n (by rw [z, h] at e; cases e; exact hp))]
  exact e
theorem qP0 {T : List (Addr × Str)} {H : Hp} {p : Addr} {f : Option Addr} (t : Tabs T H) (h : H p = none) (hf : f ≠ some p) : Fd.no ⟨f, T⟩ p := ⟨hf, fun q hq z => by
  obtain ⟨ps, h1, _⟩ := t q hq
  rw [z, h] at h1; cases h1⟩
/-- the place p may be used: it is not the feed's, nobody owns it -/
def Ok (F : Fd) (M : Addr → Prop) (p : Addr) : Prop := F.no p ∧ ¬ M p
/-- the script: a list that is only read -/
def Scr (K : PySem.W.Frag) (F : Fd) (M : Addr → Prop) (H : Hp) (ns : List Int) (a : Addr) : Prop :=
  (∃ o, Ok F M a ∧ H a = some o ∧ (o = .lst (ns.map V.int) ∨ ∃ f, o = .frz f (.lst (ns.map V.int)))) ∨
    ∃ (o : Obj) (its : Array Value) (n : Nat), K.lookup a = some o ∧ o.cls = .type "list" ∧ o.dict = none ∧ o.data = .seq its n ∧ its.size ≤ sizeLine ∧ Vals (ns.map V.int) its.toList
theorem Scr.of {K : PySem.W.Frag} {F : Fd} {M : Addr → Prop} {H : Hp} {ns : List Int} {a : Addr} (h : SqL K H a (ns.map V.int)) (ok : Ok F M a) : Scr K F M H ns a := by
  rcases h with (h | ⟨f, h⟩) | h
  · exact .inl ⟨_, ok, h, .inl rfl⟩
  · exact .inl ⟨_, ok, h, .inr ⟨f, rfl⟩⟩
  · exact .inr h
section
variable (K : PySem.W.Frag) (F : Fd) (M : Addr → Prop) (H : Hp)
def RRat (q : Rat) (v : V) : Prop := ∃ p, v = .ref p ∧ Ok F M p ∧ IsRat K H p q
def RRats : List Rat → List V → Prop
  | [], vs => vs = []
  | q :: qs, vs => ∃ v us, vs = v :: us ∧ RRat K F M H q v ∧ RRats qs us
abbrev CP (K : PySem.W.Frag) : Addr := He.ga K "Poly"
def qKa (t l : Addr) (n : Nat) : List (Str × V) := [("coefficients", .ref t), ("degree", .int ((n : Int) - 1)), ("lead", .ref l)]
mutual
/-- v is the datum -/
def Rep : D → V → Prop
  | .non, v => v = .non
  | .bl b, v => v = .bl b
  | .int i, v => v = .int i
  | .str x, v => v = .str x
  | .rat q, v => RRat K F M H q v
  | .poly cs, v => ∃ p dx t l vs, v = .ref p ∧ Ok F M p ∧ H p = some (.ins (CP K) dx (qKa t l cs.length)) ∧ Ok F M t ∧ H t = some (.tup vs) ∧ RRats K F M H cs vs ∧ RRat K F M H (qOn cs) (.ref l) ∧ Nrm cs
  | .lst ds, v => ∃ p vs, v = .ref p ∧ Ok F M p ∧ H p = some (.lst vs) ∧ Reps ds vs
  | .tup ds, v => ∃ p vs, v = .ref p ∧ Ok F M p ∧ H p = some (.tup vs) ∧ Reps ds vs
  | .ins C ns ds, v => ∃ p dx gs, v = .ref p ∧ Ok F M p ∧ H p = some (.ins (He.ga K C) dx gs) ∧ gs.map Prod.fst = ns ∧ Reps ds (gs.map Prod.snd)
  | .feed, v => ∃ f, F.f = some f ∧ v = .ref f
  | .exc, v => ∃ a, v = .ref a
  | .adr a, v => v = .ref a
  | .scr ns, v => ∃ a, v = .ref a ∧ Scr K F M H ns a
  | .dct ks ds, v => ∃ p kvs, v = .ref p ∧ Ok F M p ∧ H p = some (.dK kvs) ∧ kvs.map Prod.fst = ks ∧ Reps ds (kvs.map Prod.snd)
  | .exn C ns ds, v => ∃ e dx gs, v = .ref e ∧ Ok F M e ∧ H e = some (exo e (He.ga K C) dx) ∧ (∀ d, dx = some d → Ok F M d ∧ H d = some (.xd gs)) ∧ (dx = none → gs = []) ∧ gs.map Prod.fst = ns ∧ Reps ds (gs.map Prod.snd)
def Reps : List D → List V → Prop
  | [], vs => vs = []
  | d :: ds, vs => ∃ v us, vs = v :: us ∧ Rep d v ∧ Reps ds us
end
/-- an object that one name alone holds -/
def RepO : D → HO → Prop
  | .lst ds, o => ∃ vs, o = .lst vs ∧ Reps K F M H ds vs
  | .ins C ns ds, o => ∃ dx gs, o = .ins (He.ga K C) dx gs ∧ gs.map Prod.fst = ns ∧ Reps K F M H ds (gs.map Prod.snd)
  | .dct ks ds, o => ∃ kvs, o = .dK kvs ∧ kvs.map Prod.fst = ks ∧ Reps K F M H ds (kvs.map Prod.snd)
  | _, _ => False
end
section
variable {K : PySem.W.Frag} {F : Fd} {M M' : Addr → Prop} {H H' : Hp}
/-- what was usable stands, and is usable -/
def Goes (F : Fd) (M : Addr → Prop) (H : Hp) (M' : Addr → Prop) (H' : Hp) : Prop := ∀ p o, H p = some o → F.no p → ¬ M p → H' p = some o ∧ ¬ M' p
theorem RRat.goes (g : Goes F M H M' H') {q : Rat} {v : V} (h : RRat K F M H q v) : RRat K F M' H' q v := by
  obtain ⟨p, rfl, ok, dx, e⟩ := h
  obtain ⟨e', n⟩ := g p _ e ok.1 ok.2
  exact ⟨p, rfl, ⟨ok.1, n⟩, dx, e'⟩
theorem RRats.goes (g : Goes F M H M' H') : ∀ {qs : List Rat} {vs : List V}, RRats K F M H qs vs → RRats K F M' H' qs vs
  | [], _, h => h
  | _ :: _, _, h => by
    obtain ⟨v, us, rfl, h1, h2⟩ := h
    exact ⟨v, us, rfl, h1.goes g, RRats.goes g h2⟩
mutual
theorem Rep.goes (g : Goes F M H M' H') : ∀ (d : D) (v : V), Rep K F M H d v → Rep K F M' H' d v
  | .non, v, h => h
  | .bl b, v, h => h
  | .int i, v, h => h
  | .str x, v, h => h
  | .feed, v, h => h
  | .exc, v, h => h
  | .adr a, v, h => h
  | .scr ns, v, h => by
    obtain ⟨a, rfl, ⟨o, ok, e, z⟩ | z⟩ := h
    · obtain ⟨e', n1⟩ := g a _ e ok.1 ok.2
      exact ⟨a, rfl, .inl ⟨o, ⟨ok.1, n1⟩, e', z⟩⟩
    · exact ⟨a, rfl, .inr z⟩
  | .rat q, v, h => RRat.goes g h
  | .poly cs, v, h => by
    obtain ⟨p, dx, t, l, vs, rfl, ok, e, okt, et, r, rl, n⟩ := h
    obtain ⟨e', n1⟩ := g p _ e ok.1 ok.2
    obtain ⟨et', n2⟩ := g t _ et okt.1 okt.2
    exact ⟨p, dx, t, l, vs, rfl, ⟨ok.1, n1⟩, e', ⟨okt.1, n2⟩, et', r.goes g, rl.goes g, n⟩
  | .lst ds, v, h => by
    obtain ⟨p, vs, rfl, ok, e, r⟩ := h
    obtain ⟨e', n1⟩ := g p _ e ok.1 ok.2
    exact ⟨p, vs, rfl, ⟨ok.1, n1⟩, e', Reps.goes g ds vs r⟩
  | .tup ds, v, h => by
    obtain ⟨p, vs, rfl, ok, e, r⟩ := h
    obtain ⟨e', n1⟩ := g p _ e ok.1 ok.2
    exact ⟨p, vs, rfl, ⟨ok.1, n1⟩, e', Reps.goes g ds vs r⟩
  | .ins C ns ds, v, h => by
    obtain ⟨p, dx, gs, rfl, ok, e, en, r⟩ := h
    obtain ⟨e', n1⟩ := g p _ e ok.1 ok.2
    exact ⟨p, dx, gs, rfl, ⟨ok.1, n1⟩, e', en, Reps.goes g ds _ r⟩
  | .dct ks ds, v, h => by
    obtain ⟨p, gs, rfl, ok, e, en, r⟩ := h
    obtain ⟨e', n1⟩ := g p _ e ok.1 ok.2
    exact ⟨p, gs, rfl, ⟨ok.1, n1⟩, e', en, Reps.goes g ds _ r⟩
  | .exn C ns ds, v, h => by
    obtain ⟨p, dx, gs, rfl, ok, e, hd, hn, en, r⟩ := h
    obtain ⟨e', n1⟩ := g p _ e ok.1 ok.2
    exact ⟨p, dx, gs, rfl, ⟨ok.1, n1⟩, e', fun d z => let ⟨okd, ed⟩ := hd d z; let ⟨e2, n2⟩ := g d _ ed okd.1 okd.2; ⟨⟨okd.1, n2⟩, e2⟩, hn, en, Reps.goes g ds _ r⟩
theorem Reps.goes (g : Goes F M H M' H') : ∀ (ds : List D) (vs : List V), Reps K F M H ds vs → Reps K F M' H' ds vs
  | [], _, h => h
  | d :: ds, _, h => by
    obtain ⟨v, us, rfl, h1, h2⟩ := h
    exact ⟨v, us, rfl, Rep.goes g d v h1, Reps.goes g ds us h2⟩
end
theorem RepO.pl {d : D} {o : HO} (h : RepO K F M H d o) : Pl o := by
  cases d with
  | lst ds => obtain ⟨vs, rfl, r⟩ := h; trivial
  | ins C ns ds => obtain ⟨dx, gs, rfl, en, r⟩ := h; trivial
  | dct ks ds => obtain ⟨gs, rfl, en, r⟩ := h; trivial
  | _ => exact h.elim
theorem RepO.goes (g : Goes F M H M' H') {d : D} {o : HO} (h : RepO K F M H d o) : RepO K F M' H' d o := by
  cases d with
  | lst ds => obtain ⟨vs, rfl, r⟩ := h; exact ⟨vs, rfl, Reps.goes g _ _ r⟩
  | ins C ns ds => obtain ⟨dx, gs, rfl, en, r⟩ := h; exact ⟨dx, gs, rfl, en, Reps.goes g _ _ r⟩
  | dct ks ds => obtain ⟨gs, rfl, en, r⟩ := h; exact ⟨gs, rfl, en, Reps.goes g _ _ r⟩
  | _ => exact h.elim
mutual
/-- no list within -/
def D.noL : D → Bool
  | .lst _ => false
  | .tup ds => D.noLs ds
  | .ins _ _ ds => D.noLs ds
  | .feed => false
  | .exc => false
  | .adr _ => false
  | .scr _ => false
  | .dct _ _ => false
  | .exn _ _ ds => D.noLs ds
  | _ => true
def D.noLs : List D → Bool
  | [] => true
  | d :: ds => d.noL && D.noLs ds
end
/-- M' has lists only -/
def Lists (M' : Addr → Prop) (H : Hp) : Prop := ∀ p, M' p → ∃ xs, H p = some (.lst xs)
theorem RRat.noL (g : Lists M' H) {q : Rat} {v : V} (h : RRat K F M H q v) : RRat K F (fun p => M p ∨ M' p) H q v := by
  obtain ⟨p, rfl, ok, dx, e⟩ := h
  refine ⟨p, rfl, ⟨ok.1, fun z => z.elim ok.2 fun m => ?_⟩, dx, e⟩
  obtain ⟨xs, y⟩ := g p m
  rw [e] at y; cases y
theorem RRats.noL (g : Lists M' H) : ∀ {qs : List Rat} {vs : List V}, RRats K F M H qs vs → RRats K F (fun p => M p ∨ M' p) H qs vs
  | [], _, h => h
  | _ :: _, _, h => by
    obtain ⟨v, us, rfl, h1, h2⟩ := h
    exact ⟨v, us, rfl, h1.noL g, RRats.noL g h2⟩
theorem qGo (g : Lists M' H) {p : Addr} {o : HO} (ok : Ok F M p) (e : H p = some o) (n : ∀ xs, o ≠ .lst xs) : Ok F (fun p => M p ∨ M' p) p := ⟨ok.1, fun z => z.elim ok.2 fun m => by
  obtain ⟨xs, y⟩ := g p m
  rw [e] at y
  exact n xs (Option.some.inj y)⟩
mutual
theorem Rep.noL (g : Lists M' H) : ∀ (d : D) (v : V), d.noL = true → Rep K F M H d v → Rep K F (fun p => M p ∨ M' p) H d v
  | .non, v, _, h => h
  | .bl b, v, _, h => h
  | .int i, v, _, h => h
  | .str x, v, _, h => h
  | .feed, v, n, h => h
  | .exc, v, n, h => h
  | .adr a, v, n, h => h
  | .scr ns, v, n, h => by simp [D.noL] at n
  | .rat q, v, _, h => RRat.noL g h
  | .poly cs, v, _, h => by
    obtain ⟨p, dx, t, l, vs, rfl, ok, e, okt, et, r, rl, n⟩ := h
    exact ⟨p, dx, t, l, vs, rfl, qGo g ok e (fun _ z => by cases z), e, qGo g okt et (fun _ z => by cases z), et, r.noL g, rl.noL g, n⟩
  | .lst ds, v, n, h => by simp [D.noL] at n
  | .tup ds, v, n, h => by
    obtain ⟨p, vs, rfl, ok, e, r⟩ := h
    exact ⟨p, vs, rfl, qGo g ok e (fun _ z => by cases z), e, Reps.noL g ds vs (by simpa [D.noL] using n) r⟩
  | .ins C ns ds, v, n, h => by
    obtain ⟨p, dx, gs, rfl, ok, e, en, r⟩ := h
    exact ⟨p, dx, gs, rfl, qGo g ok e (fun _ z => by cases z), e, en, Reps.noL g ds _ (by simpa [D.noL] using n) r⟩
  | .dct ks ds, v, n, h => by simp [D.noL] at n
  | .exn C ns ds, v, n, h => by
    obtain ⟨p, dx, gs, rfl, ok, e, hd, hn, en, r⟩ := h
    exact ⟨p, dx, gs, rfl, qGo g ok e (fun _ z => by have z' : HO.ext _ = HO.lst _ := z; cases z'), e, fun d z => let ⟨okd, ed⟩ := hd d z; ⟨qGo g okd ed (fun _ z => by cases z), ed⟩, hn, en, Reps.noL g ds _ (by simpa [D.noL] using n) r⟩
theorem Reps.noL (g : Lists M' H) : ∀ (ds : List D) (vs : List V), D.noLs ds = true → Reps K F M H ds vs → Reps K F (fun p => M p ∨ M' p) H ds vs
  | [], _, _, h => h
  | d :: ds, _, n, h => by
    obtain ⟨v, us, rfl, h1, h2⟩ := h
    simp only [D.noLs, Bool.and_eq_true] at n
    exact ⟨v, us, rfl, Rep.noL g d v n.1 h1, Reps.noL g ds us n.2 h2⟩
end
/-! ### lists of data -/
theorem Reps.length : ∀ {ds : List D} {vs : List V}, Reps K F M H ds vs → vs.length = ds.length
  | [], _, h => by rw [show _ = [] from h]; rfl
  | d :: ds, _, h => by
    obtain ⟨v, us, rfl, _, h2⟩ := h
    rw [List.length_cons, List.length_cons, Reps.length h2]
theorem Reps.get : ∀ {ds : List D} {vs : List V} {i : Nat} {d : D}, Reps K F M H ds vs → ds[i]? = some d → ∃ v, vs[i]? = some v ∧ Rep K F M H d v
  | [], _, i, d, _, h => by simp at h
  | e :: ds, _, i, d, h, hi => by
    obtain ⟨v, us, rfl, h1, h2⟩ := h
    cases i with
    | zero => simp at hi; subst hi; exact ⟨v, rfl, h1⟩
    | succ i =>
      simp at hi
      obtain ⟨w, e1, e2⟩ := Reps.get h2 hi
      exact ⟨w, by simpa using e1, e2⟩
theorem Reps.append : ∀ {ds es : List D} {vs ws : List V}, Reps K F M H ds vs → Reps K F M H es ws → Reps K F M H (ds ++ es) (vs ++ ws)
  | [], _, _, _, h, h' => by rw [show _ = [] from h]; exact h'
  | d :: ds, _, _, _, h, h' => by
    obtain ⟨v, us, rfl, h1, h2⟩ := h
    exact ⟨v, us ++ _, rfl, h1, Reps.append h2 h'⟩
theorem Reps.one {d : D} {v : V} (h : Rep K F M H d v) : Reps K F M H [d] [v] := ⟨v, [], rfl, h, rfl⟩
theorem Reps.cons {d : D} {v : V} {ds : List D} {vs : List V} (h : Rep K F M H d v) (h' : Reps K F M H ds vs) : Reps K F M H (d :: ds) (v :: vs) := ⟨v, vs, rfl, h, h'⟩
theorem Reps.set : ∀ {ds : List D} {vs : List V} {i : Nat} {d : D} {v : V}, Reps K F M H ds vs → Rep K F M H d v → Reps K F M H (ds.set i d) (vs.set i v)
  | [], _, i, d, v, h, _ => by rw [show _ = [] from h]; exact rfl
  | e :: ds, _, i, d, v, h, hd => by
    obtain ⟨w, us, rfl, h1, h2⟩ := h
    cases i with
    | zero => exact ⟨v, us, rfl, hd, h2⟩
    | succ i => exact ⟨w, us.set i v, rfl, h1, Reps.set h2 hd⟩
theorem Reps.drop : ∀ {ds : List D} {vs : List V} (n : Nat), Reps K F M H ds vs → Reps K F M H (ds.drop n) (vs.drop n)
  | _, _, 0, h => h
  | [], _, n + 1, h => by rw [show _ = [] from h]; exact rfl
  | e :: ds, _, n + 1, h => by
    obtain ⟨w, us, rfl, h1, h2⟩ := h
    exact Reps.drop n h2
theorem Reps.take : ∀ {ds : List D} {vs : List V} (n : Nat), Reps K F M H ds vs → Reps K F M H (ds.take n) (vs.take n)
  | _, _, 0, h => rfl
  | [], _, n + 1, h => by rw [show _ = [] from h]; exact rfl
  | e :: ds, _, n + 1, h => by
    obtain ⟨w, us, rfl, h1, h2⟩ := h
    exact ⟨w, us.take n, rfl, h1, Reps.take n h2⟩
theorem Reps.ints : ∀ {ns : List Int} {vs : List V}, Reps K F M H (ns.map D.int) vs → vs = ns.map V.int
  | [], _, h => h
  | n :: ns, _, h => by
    obtain ⟨w, us, rfl, h1, h2⟩ := h
    rw [show w = V.int n from h1, Reps.ints h2]
    rfl
theorem RRats.reps : ∀ {qs : List Rat} {vs : List V}, RRats K F M H qs vs → Reps K F M H (qs.map D.rat) vs
  | [], _, h => h
  | q :: qs, _, h => by
    obtain ⟨w, us, rfl, h1, h2⟩ := h
    exact ⟨w, us, rfl, h1, RRats.reps h2⟩
theorem RRats.of : ∀ {qs : List Rat} {vs : List V}, Reps K F M H (qs.map D.rat) vs → RRats K F M H qs vs
  | [], _, h => h
  | q :: qs, _, h => by
    obtain ⟨w, us, rfl, h1, h2⟩ := h
    exact ⟨w, us, rfl, h1, RRats.of h2⟩
end
/-! ### heaps -/
/-- all but the feed stands, the feed is one -/
structure Gr (K : PySem.W.Frag) (F : Fd) (H H' : Hp) : Prop where
  old : ∀ b o, H b = some o → F.no b → H' b = some o
  feed : ∀ f c, F.f = some f → FeedC K H f c → FeedC K H' f c
  tab : Tabs F.T H → Tabs F.T H'
theorem FeedC.same {K : PySem.W.Frag} {H H' : Hp} {f c : Addr} (s : Same H H') (h : FeedC K H f c) : FeedC K H' f c := let ⟨ns, p, b, l, n, z, o, G, e⟩ := h; ⟨ns, p, b, l, n, z, o, G.same s, s _ _ e⟩
theorem Gr.refl {K : PySem.W.Frag} {F : Fd} {H : Hp} : Gr K F H H := ⟨fun _ _ h _ => h, fun _ _ _ h => h, fun h => h⟩
theorem Gr.trans {K : PySem.W.Frag} {F : Fd} {H H1 H2 : Hp} (a : Gr K F H H1) (b : Gr K F H1 H2) : Gr K F H H2 := ⟨fun c o h n => b.old c o (a.old c o h n) n, fun f c e h => b.feed f c e (a.feed f c e h), fun h => b.tab (a.tab h)⟩
theorem Gr.same {K : PySem.W.Frag} {F : Fd} {H H' : Hp} (s : Same H H') : Gr K F H H' := ⟨fun b o h _ => s b o h, fun _ _ _ h => h.same s, fun h => h.ext s⟩
theorem Gr.new {K : PySem.W.Frag} {F : Fd} {H : Hp} {p : Addr} {o : HO} (n : H p = none) : Gr K F H (upd H p o) := .same (qG0 n)
theorem Gr.goes {K : PySem.W.Frag} {F : Fd} {H H' : Hp} {M : Addr → Prop} (g : Gr K F H H') : Goes F M H M H' := fun p o h n m => ⟨g.old p o h n, m⟩
theorem FeedC.keep {K : PySem.W.Frag} {H : Hp} {f c p : Addr} {o : HO} (h : FeedC K H f c) (n : p ≠ f) (m : p ≠ c) : FeedC K (upd H p o) f c := by
  obtain ⟨ns, x, b, l, k, s, o', G, e⟩ := h
  refine ⟨ns, x, b, l, k, s, o', ⟨by rw [upd_ne (Ne.symm n)]; exact G.ob, ?_, G.ne, G.nn, G.p0, G.b0, G.l0, G.n0, G.s0⟩, by rw [upd_ne (Ne.symm m)]; exact e⟩
  exact qK3 (f := p) qB0 (Ne.symm m) G.cs
/-! ### the names of a def -/
/-- the places that the names of ow hold -/
def Mo (ow : List Nat) (σ : L2.St) (p : Addr) : Prop := ∃ i, i ∈ ow ∧ σ[i]? = some (some (.ref p))
def Sl (R : D → V → Prop) : Option (Option D) → Option (Option V) → Prop
  | some (some d), some (some v) => R d v
  | some none, some none => True
  | none, none => True
  | _, _ => False
/-- a world: the feed's place, what the callers own, the heap at the start -/
structure Wd where
  F : Fd
  M : Addr → Prop
  H0 : Hp
abbrev Wd.Mx (w : Wd) (ow : List Nat) (σ : L2.St) (p : Addr) : Prop := w.M p ∨ Mo ow σ p
structure REnv (K : PySem.W.Frag) (Ta : List (Addr × Str)) (w : Wd) (ow : List Nat) (H : Hp) (σ : L2.St) (ρ : Env) : Prop where
  gr : Gr K w.F w.H0 H
  live : ∀ p, w.M p → ∃ o, w.H0 p = some o
  nf : ∀ p, w.M p → w.F.no p
  imm : ∀ i, i ∉ ow → Sl (Rep K w.F (w.Mx ow σ) H) ρ[i]? σ[i]?
  own : ∀ i, i ∈ ow → ∃ p o d, σ[i]? = some (some (.ref p)) ∧ ρ[i]? = some (some d) ∧ H p = some o ∧ RepO K w.F (w.Mx ow σ) H d o ∧ w.F.no p ∧ w.H0 p = none
  inj : ∀ i, i ∈ ow → ∀ j, j ∈ ow → i ≠ j → ∀ p, σ[i]? = some (some (.ref p)) → σ[j]? ≠ some (some (.ref p))
  feed : ∀ f, w.F.f = some f → ∃ c, FeedC K H f c ∧ ¬ w.Mx ow σ c
  tab : Tabs w.F.T H
  ts : w.F.T = Ta
theorem Sl.mono {R R' : D → V → Prop} (h : ∀ d v, R d v → R' d v) : ∀ {a : Option (Option D)} {b : Option (Option V)}, Sl R a b → Sl R' a b
  | some (some d), some (some v), z => h d v z
  | some none, some none, z => z
  | none, none, z => z
section
variable {K : PySem.W.Frag} {w : Wd} {ow ow' : List Nat} {H H' : Hp} {σ : L2.St} {ρ : Env}
theorem REnv.grow (e : REnv K Ta w ow H σ ρ) (g : Gr K w.F H H') : REnv K Ta w ow H' σ ρ where
  gr := e.gr.trans g
  live := e.live
  nf := e.nf
  imm i hi := (e.imm i hi).mono fun d v => Rep.goes g.goes d v
  own i hi := by
    obtain ⟨p, o, d, h1, h2, h3, h4, h5, h6⟩ := e.own i hi
    exact ⟨p, o, d, h1, h2, g.old _ _ h3 h5, h4.goes g.goes, h5, h6⟩
  inj := e.inj
  feed f hf := by
    obtain ⟨c, h1, h2⟩ := e.feed f hf
    exact ⟨c, g.feed f c hf h1, h2⟩
  tab := g.tab e.tab
  ts := e.ts
/-- names of ow are let go -/
theorem REnv.free (e : REnv K Ta w ow H σ ρ) (hs : ∀ i, i ∈ ow' → i ∈ ow) : REnv K Ta w ow' H σ ρ := by
  have sub : ∀ p, w.Mx ow' σ p → w.Mx ow σ p := fun p h => h.elim .inl fun ⟨i, h1, h2⟩ => .inr ⟨i, hs i h1, h2⟩
  have go : Goes w.F (w.Mx ow σ) H (w.Mx ow' σ) H := fun p o h _ m => ⟨h, fun z => m (sub p z)⟩
  refine ⟨e.gr, e.live, e.nf, fun i hi => ?_, fun i hi => ?_, fun i hi j hj => e.inj i (hs i hi) j (hs j hj), fun f hf => ?_, e.tab, e.ts⟩
  · by_cases hm : i ∈ ow
    · obtain ⟨p, o, d, h1, h2, h3, h4, h5, h6⟩ := e.own i hm
      rw [h1, h2]
      have nm : ¬ w.Mx ow' σ p := fun z => by
        rcases z with z | ⟨j, hj, z⟩
        · obtain ⟨o', y⟩ := e.live p z
          rw [h6] at y; cases y
        · by_cases hij : i = j
          · rw [hij] at hi; exact hi hj
          · exact e.inj i hm j (hs j hj) hij p h1 z
      have h4 := h4.goes go
      cases d with
      | lst ds => obtain ⟨vs, rfl, r⟩ := h4; exact ⟨p, vs, rfl, ⟨h5, nm⟩, h3, r⟩
      | ins C ns ds => obtain ⟨dx, gs, rfl, en, r⟩ := h4; exact ⟨p, dx, gs, rfl, ⟨h5, nm⟩, h3, en, r⟩
      | dct ks ds => obtain ⟨gs, rfl, en, r⟩ := h4; exact ⟨p, gs, rfl, ⟨h5, nm⟩, h3, en, r⟩
      | _ => exact h4.elim
    · exact (e.imm i hm).mono fun d v => Rep.goes go d v
  · obtain ⟨p, o, d, h1, h2, h3, h4, h5⟩ := e.own i (hs i hi)
    exact ⟨p, o, d, h1, h2, h3, h4.goes go, h5⟩
  · obtain ⟨c, h1, h2⟩ := e.feed f hf
    exact ⟨c, h1, fun z => h2 (sub c z)⟩
end
end MR

set_option Elab.async false
set_option linter.all false
set_option maxRecDepth 100000
set_option maxHeartbeats 4000000
set_option exponentiation.threshold 20000
/-! FL: readings without a heap, expressions -/
namespace MR
open PySem PySem.Spec PyProof.Rows L2
abbrev XP := Exn → Prop
abbrev FE := Env → (D → Prop) → XP → Prop
abbrev FT := Env → (Bool → Prop) → XP → Prop
abbrev FA := Env → (List D → Prop) → XP → Prop
def RepXs (K : PySem.W.Frag) (F : Fd) (H : Hp) : List (Str × D) → List (Str × V) → Prop
  | [], gs => gs = []
  | (n, d) :: r, gs => ∃ v gr, gs = (n, v) :: gr ∧ Rep K F (fun _ => False) H d v ∧ RepXs K F H r gr
/-- an exception as it lies there -/
def RepX (K : PySem.W.Frag) (F : Fd) (H : Hp) (cls : Value) (dd : Option Addr) (x : Exn) : Prop :=
  cls = .ref (He.ga K x.cls) ∧ ((x.fs = [] ∧ dd = none) ∨ ∃ a gs, dd = some a ∧ F.no a ∧ H a = some (.xd gs) ∧ RepXs K F H x.fs gs)
abbrev Post (K : PySem.W.Frag) (F : Fd) (M : Addr → Prop) (H : Hp) (P : D → Prop) (Q : VK) : Prop := ∀ d v H', P d → Gr K F H H' → Rep K F M H' d v → Q v H'
abbrev PostX (K : PySem.W.Frag) (F : Fd) (H : Hp) (X : XP) (E : XK) : Prop := ∀ x cls dd H', X x → Gr K F H H' → RepX K F H' cls dd x → E cls dd H'
def SE (K : PySem.W.Frag) (Ta : List (Addr × Str)) (ow : List Nat) (E : L2.St → XK) (ta : TE) (fa : FE) : Prop :=
  ∀ (w : Wd) (H : Hp) (σ : L2.St) (ρ : Env) (P : D → Prop) (X : XP) (Q : VK), REnv K Ta w ow H σ ρ → fa ρ P X → Post K w.F (w.Mx ow σ) H P Q → PostX K w.F H X (E σ) → ta σ H Q
def STt (K : PySem.W.Frag) (Ta : List (Addr × Str)) (ow : List Nat) (E : L2.St → XK) (ta : TT) (fa : FT) : Prop :=
  ∀ (w : Wd) (H : Hp) (σ : L2.St) (ρ : Env) (P : Bool → Prop) (X : XP) (Q : Bool → Hp → Prop), REnv K Ta w ow H σ ρ → fa ρ P X → (∀ b H', P b → Gr K w.F H H' → Q b H') → PostX K w.F H X (E σ) → ta σ H Q
def SA (K : PySem.W.Frag) (Ta : List (Addr × Str)) (ow : List Nat) (E : L2.St → XK) (ta : TA) (fa : FA) : Prop :=
  ∀ (w : Wd) (H : Hp) (σ : L2.St) (ρ : Env) (P : List D → Prop) (X : XP) (Q : List V → Hp → Prop), REnv K Ta w ow H σ ρ → fa ρ P X → (∀ ds vs H', P ds → Gr K w.F H H' → Reps K w.F (w.Mx ow σ) H' ds vs → Q vs H') → PostX K w.F H X (E σ) → ta σ H Q
/-- all of M and the feed is there -/
structure Lv (K : PySem.W.Frag) (F : Fd) (M : Addr → Prop) (H : Hp) : Prop where
  m : ∀ p, M p → ∃ o, H p = some o
  f : ∀ f, F.f = some f → ∃ c, FeedC K H f c ∧ ¬ M c
  nf : ∀ p, M p → F.no p
  t : LamX.Tabs F.T H
section
variable {K : PySem.W.Frag} {F : Fd} {M : Addr → Prop} {H H' : Hp}
theorem FeedC.some {f c : Addr} (h : FeedC K H f c) : ∃ o, H f = some o := let ⟨_, _, _, _, _, _, _, G, _⟩ := h; ⟨_, G.ob⟩
theorem Lv.ok (l : Lv K F M H) {p : Addr} (n : H p = none) : Ok F M p := by
  refine ⟨qP0 l.t n fun z => ?_, fun z => ?_⟩
  · obtain ⟨c, h, _⟩ := l.f p z
    obtain ⟨o, e⟩ := h.some
    rw [n] at e; cases e
  · obtain ⟨o, e⟩ := l.m p z
    rw [n] at e; cases e
theorem Lv.gr (l : Lv K F M H) (g : Gr K F H H') : Lv K F M H' := ⟨fun p m => let ⟨o, e⟩ := l.m p m; ⟨o, g.old _ _ e (l.nf p m)⟩, fun f e => let ⟨c, h, n⟩ := l.f f e; ⟨c, g.feed f c e h, n⟩, l.nf, g.tab l.t⟩
end
section
variable {K : PySem.W.Frag} {w : Wd} {ow : List Nat} {H H' : Hp} {σ : L2.St} {ρ : Env} {E : L2.St → XK}
theorem REnv.lv (e : REnv K Ta w ow H σ ρ) : Lv K w.F (w.Mx ow σ) H := by
  refine ⟨fun p m => ?_, e.feed, fun p m => ?_, e.tab⟩
  · rcases m with m | ⟨i, hi, z⟩
    · obtain ⟨o, h⟩ := e.live p m
      exact ⟨o, e.gr.old _ _ h (e.nf p m)⟩
    · obtain ⟨p', o, d, h1, _, h3, _⟩ := e.own i hi
      rw [h1] at z; cases z
      exact ⟨o, h3⟩
  · rcases m with m | ⟨i, hi, z⟩
    · exact e.nf p m
    · obtain ⟨p', o, d, h1, _, h3, _, h5, _⟩ := e.own i hi
      rw [h1] at z; cases z
      exact h5
theorem PostX.gr {F : Fd} {X : XP} {E : XK} (h : PostX K F H X E) (g : Gr K F H H') : PostX K F H' X E := fun x cls dd H2 hx g2 r => h x cls dd H2 hx (g.trans g2) r
/-! ### names, constants -/
def qAi (i : Nat) : FE := fun ρ P _ => ∃ d, ρ[i]? = some (some d) ∧ P d
theorem qAb {i : Nat} (hi : i ∉ ow) : SE K Ta ow E (tVar i) (qAi i) := by
  intro w H σ ρ P X Q e h q x
  obtain ⟨d, hd, p⟩ := h
  have := e.imm i hi
  rw [hd] at this
  cases hv : σ[i]? with
  | none => rw [hv] at this; exact this.elim
  | some o =>
    rw [hv] at this
    cases o with
    | none => exact this.elim
    | some v => exact ⟨v, hv, q d v H p .refl this⟩
def fC (d : D) : FE := fun _ P _ => P d
theorem qAf {i : Int} : SE K Ta ow E (tC (.int i)) (fC (.int i)) := fun w H σ ρ P X Q e h q x => q _ _ _ h .refl rfl
theorem qGw {i : Bool} : SE K Ta ow E (tC (.bl i)) (fC (.bl i)) := fun w H σ ρ P X Q e h q x => q _ _ _ h .refl rfl
theorem qAj {i : Str} : SE K Ta ow E (tC (.str i)) (fC (.str i)) := fun w H σ ρ P X Q e h q x => q _ _ _ h .refl rfl
theorem qRw : SE K Ta ow E (tC .non) (fC .non) := fun w H σ ρ P X Q e h q x => q _ _ _ h .refl rfl
/-! ### operators by values -/
abbrev O2 := D → D → (D → Prop) → XP → Prop
abbrev O1 := D → (D → Prop) → XP → Prop
abbrev OL := List D → (D → Prop) → XP → Prop
def OpS (K : PySem.W.Frag) (E : XK) (r : R2) (o : O2) : Prop := ∀ (F : Fd) (M : Addr → Prop) (H : Hp) (x y : V) (a b : D) (P : D → Prop) (X : XP) (Q : VK), Lv K F M H → Rep K F M H a x → Rep K F M H b y → o a b P X → Post K F M H P Q → PostX K F H X E → r x y H Q
def UnS (K : PySem.W.Frag) (E : XK) (r : V → Hp → VK → Prop) (o : O1) : Prop := ∀ (F : Fd) (M : Addr → Prop) (H : Hp) (x : V) (a : D) (P : D → Prop) (X : XP) (Q : VK), Lv K F M H → Rep K F M H a x → o a P X → Post K F M H P Q → PostX K F H X E → r x H Q
def LsS (K : PySem.W.Frag) (E : XK) (r : List V → Hp → VK → Prop) (o : OL) : Prop := ∀ (F : Fd) (M : Addr → Prop) (H : Hp) (xs : List V) (as : List D) (P : D → Prop) (X : XP) (Q : VK), Lv K F M H → Reps K F M H as xs → o as P X → Post K F M H P Q → PostX K F H X E → r xs H Q
def fOp (o : O2) (fa fb : FE) : FE := fun ρ P X => fa ρ (fun a => fb ρ (fun b => o a b P X) X) X
def fUn (o : O1) (fa : FE) : FE := fun ρ P X => fa ρ (fun a => o a P X) X
def fLs (o : OL) (fa : FA) : FE := fun ρ P X => fa ρ (fun as => o as P X) X
theorem qAd {r : R2} {o : O2} {ta tb : TE} {fa fb : FE} (ho : ∀ σ, OpS K (E σ) r o) (ha : SE K Ta ow E ta fa) (hb : SE K Ta ow E tb fb) : SE K Ta ow E (tOp r ta tb) (fOp o fa fb) := by
  intro w H σ ρ P X Q e h q x
  refine ha w H σ ρ _ X _ e h (fun a va H1 h1 g1 r1 => ?_) x
  refine hb w H1 σ ρ _ X _ (e.grow g1) h1 (fun b vb H2 h2 g2 r2 => ?_) (x.gr g1)
  exact ho σ _ _ H2 _ _ _ _ P X Q ((e.grow g1).grow g2).lv (Rep.goes g2.goes _ _ r1) r2 h2 (fun d v H3 hd g3 r3 => q d v H3 hd ((g1.trans g2).trans g3) r3) (x.gr (g1.trans g2))
theorem qUn {r : V → Hp → VK → Prop} {o : O1} {ta : TE} {fa : FE} (ho : ∀ σ, UnS K (E σ) r o) (ha : SE K Ta ow E ta fa) : SE K Ta ow E (tUn r ta) (fUn o fa) := by
  intro w H σ ρ P X Q e h q x
  refine ha w H σ ρ _ X _ e h (fun a va H1 h1 g1 r1 => ?_) x
  exact ho σ _ _ H1 _ _ P X Q (e.grow g1).lv r1 h1 (fun d v H3 hd g3 r3 => q d v H3 hd (g1.trans g3) r3) (x.gr g1)
theorem qCq {r : List V → Hp → VK → Prop} {o : OL} {ta : TA} {fa : FA} (ho : ∀ σ, LsS K (E σ) r o) (ha : SA K Ta ow E ta fa) : SE K Ta ow E (tCB r ta) (fLs o fa) := by
  intro w H σ ρ P X Q e h q x
  refine ha w H σ ρ _ X _ e h (fun a va H1 h1 g1 r1 => ?_) x
  exact ho σ _ _ H1 _ _ P X Q (e.grow g1).lv r1 h1 (fun d v H3 hd g3 r3 => q d v H3 hd (g1.trans g3) r3) (x.gr g1)
/-! ### arguments -/
def qBb : FA := fun _ P _ => P []
def qAc (fa : FE) (fr : FA) : FA := fun ρ P X => fa ρ (fun a => fr ρ (fun as => P (a :: as)) X) X
theorem qAe : SA K Ta ow E tNil qBb := fun w H σ ρ P X Q e h q x => q _ _ _ h .refl rfl
theorem qAa {ta : TE} {tr : TA} {fa : FE} {fr : FA} (ha : SE K Ta ow E ta fa) (hr : SA K Ta ow E tr fr) : SA K Ta ow E (tCons ta tr) (qAc fa fr) := by
  intro w H σ ρ P X Q e h q x
  refine ha w H σ ρ _ X _ e h (fun a va H1 h1 g1 r1 => ?_) x
  refine hr w H1 σ ρ _ X _ (e.grow g1) h1 (fun b vb H2 h2 g2 r2 => ?_) (x.gr g1)
  exact q _ _ H2 h2 (g1.trans g2) (.cons (Rep.goes g2.goes _ _ r1) r2)
/-! ### truth -/
def toB (k : Bool → Prop) : D → Prop
  | .bl b => k b
  | _ => False
theorem qHt {k : Bool → Prop} {d : D} (h : toB k d) : ∃ b, d = .bl b ∧ k b := by
  cases d with
  | bl b => exact ⟨b, rfl, h⟩
  | _ => exact h.elim
def fB (fa : FE) : FT := fun ρ P X => fa ρ (toB P) X
theorem qKk {ta : TE} {fa : FE} (ha : SE K Ta ow E ta fa) : STt K Ta ow E (tB ta) (fB fa) := by
  intro w H σ ρ P X Q e h q x
  refine ha w H σ ρ _ X _ e h (fun a va H1 h1 g1 r1 => ?_) x
  obtain ⟨b, rfl, p⟩ := qHt h1
  exact ⟨b, r1, q b H1 p g1⟩
theorem qBq {ta : TE} {fa : FE} (ha : SE K Ta ow E ta fa) : STt K Ta ow E (tTest ta) (fB fa) := by
  intro w H σ ρ P X Q e h q x
  refine ha w H σ ρ _ X _ e h (fun a va H1 h1 g1 r1 => ?_) x
  obtain ⟨b, rfl, p⟩ := qHt h1
  exact ⟨b, r1, q b H1 p g1⟩
def qIu (fa : FT) : FT := fun ρ P X => fa ρ (fun b => P (!b)) X
theorem qDl {ta : TT} {fa : FT} (ha : STt K Ta ow E ta fa) : STt K Ta ow E (tNot ta) (qIu fa) := by
  intro w H σ ρ P X Q e h q x
  exact ha w H σ ρ _ X _ e h (fun b H1 h1 g1 => q _ H1 h1 g1) x
def qS1 (fa fb : FT) : FT := fun ρ P X => fa ρ (fun c => if c = true then fb ρ P X else P false) X
theorem qRz {ta tb : TT} {fa fb : FT} (ha : STt K Ta ow E ta fa) (hb : STt K Ta ow E tb fb) : STt K Ta ow E (tAnd ta tb) (qS1 fa fb) := by
  intro w H σ ρ P X Q e h q x
  refine ha w H σ ρ _ X _ e h (fun b H1 h1 g1 => ?_) x
  cases b with
  | true => exact hb w H1 σ ρ _ X _ (e.grow g1) h1 (fun b2 H2 h2 g2 => q _ H2 h2 (g1.trans g2)) (x.gr g1)
  | false => exact q _ H1 h1 g1
def fOr (fa fb : FT) : FT := fun ρ P X => fa ρ (fun c => if c = true then P true else fb ρ P X) X
theorem qH3 {ta tb : TT} {fa fb : FT} (ha : STt K Ta ow E ta fa) (hb : STt K Ta ow E tb fb) : STt K Ta ow E (tOr ta tb) (fOr fa fb) := by
  intro w H σ ρ P X Q e h q x
  refine ha w H σ ρ _ X _ e h (fun b H1 h1 g1 => ?_) x
  cases b with
  | false => exact hb w H1 σ ρ _ X _ (e.grow g1) h1 (fun b2 H2 h2 g2 => q _ H2 h2 (g1.trans g2)) (x.gr g1)
  | true => exact q _ H1 h1 g1
def qIw (fa fb : FE) : FE := fun ρ P X => fa ρ (toB fun c => if c = true then fb ρ P X else P (.bl false)) X
theorem qF2 {ta tb : TE} {fa fb : FE} (ha : SE K Ta ow E ta fa) (hb : SE K Ta ow E tb fb) : SE K Ta ow E (tAndV ta tb) (qIw fa fb) := by
  intro w H σ ρ P X Q e h q x
  refine ha w H σ ρ _ X _ e h (fun a va H1 h1 g1 r1 => ?_) x
  obtain ⟨b, rfl, p⟩ := qHt h1
  refine ⟨b, r1, ?_⟩
  cases b with
  | true => exact hb w H1 σ ρ _ X _ (e.grow g1) p (fun d v H2 h2 g2 r2 => q _ _ H2 h2 (g1.trans g2) r2) (x.gr g1)
  | false => exact q _ _ H1 p g1 rfl
def qUp (fa fb : FE) : FE := fun ρ P X => fa ρ (toB fun c => if c = true then P (.bl true) else fb ρ P X) X
theorem qRo {ta tb : TE} {fa fb : FE} (ha : SE K Ta ow E ta fa) (hb : SE K Ta ow E tb fb) : SE K Ta ow E (tOrV ta tb) (qUp fa fb) := by
  intro w H σ ρ P X Q e h q x
  refine ha w H σ ρ _ X _ e h (fun a va H1 h1 g1 r1 => ?_) x
  obtain ⟨b, rfl, p⟩ := qHt h1
  refine ⟨b, r1, ?_⟩
  cases b with
  | false => exact hb w H1 σ ρ _ X _ (e.grow g1) p (fun d v H2 h2 g2 r2 => q _ _ H2 h2 (g1.trans g2) r2) (x.gr g1)
  | true => exact q _ _ H1 p g1 rfl
def qPh (fa : FE) : FE := fun ρ P X => fa ρ (toB fun c => P (.bl (!c))) X
theorem qO0 {ta : TE} {fa : FE} (ha : SE K Ta ow E ta fa) : SE K Ta ow E (tNotV ta) (qPh fa) := by
  intro w H σ ρ P X Q e h q x
  refine ha w H σ ρ _ X _ e h (fun a va H1 h1 g1 r1 => ?_) x
  obtain ⟨b, rfl, p⟩ := qHt h1
  exact ⟨b, r1, q _ _ H1 p g1 rfl⟩
def fIf (fc : FT) (fa fb : FE) : FE := fun ρ P X => fc ρ (fun c => if c = true then fa ρ P X else fb ρ P X) X
def qQt : D → Option Bool
  | .non => some false
  | .bl b => some b
  | .int i => some (i != 0)
  | .lst ds => some !ds.isEmpty
  | .tup ds => some !ds.isEmpty
  | _ => none
def qV0 (fa : FE) : FT := fun ρ P X => fa ρ (fun d => ∃ k, qQt d = some k ∧ P k) X
/-! ### displays -/
def qMx (fa : FA) : FE := fun ρ P X => fa ρ (fun ds => ds.length ≤ sizeLine ∧ P (.lst ds)) X
def qVq (fa : FA) : FE := fun ρ P X => fa ρ (fun ds => ds.length ≤ sizeLine ∧ P (.tup ds)) X
theorem qNv {F : Fd} {M : Addr → Prop} {p : Addr} {ds : List D} {vs : List V} (l : Lv K F M H) (np : H p = none) (r : Reps K F M H ds vs) : Rep K F M (upd H p (.lst vs)) (.lst ds) (.ref p) :=
  ⟨p, vs, rfl, l.ok np, upd_same, Reps.goes (Gr.new (K := K) np).goes _ _ r⟩
theorem qNq {F : Fd} {M : Addr → Prop} {p : Addr} {ds : List D} {vs : List V} (l : Lv K F M H) (np : H p = none) (r : Reps K F M H ds vs) : Rep K F M (upd H p (.tup vs)) (.tup ds) (.ref p) :=
  ⟨p, vs, rfl, l.ok np, upd_same, Reps.goes (Gr.new (K := K) np).goes _ _ r⟩
theorem qId {ta : TA} {fa : FA} (ha : SA K Ta ow E ta fa) : SE K Ta ow E (tLst ta) (qMx fa) := by
  intro w H σ ρ P X Q e h q x
  refine ha w H σ ρ _ X _ e h (fun ds vs H1 h1 g1 r1 => ⟨by rw [r1.length]; exact h1.1, fun p np => ?_⟩) x
  exact q _ _ _ h1.2 (g1.trans (.new np)) (qNv (e.grow g1).lv np r1)
/-! ### calls -/
abbrev FSp := List D → (D → Prop) → XP → Prop
/-- the promise that a heapless promise means -/
def lift (K : PySem.W.Frag) (fsp : FSp) : Sp := fun vs H Q E => ∃ (F : Fd) (M : Addr → Prop) (ds : List D) (P : D → Prop) (X : XP), Lv K F M H ∧ Reps K F M H ds vs ∧ fsp ds P X ∧ Post K F M H P Q ∧ PostX K F H X E
def Lift (K : PySem.W.Frag) (sp : Sp) (fsp : FSp) : Prop := ∀ vs H Q E, lift K fsp vs H Q E → sp vs H Q E
theorem Lift.refl {fsp : FSp} : Lift K (lift K fsp) fsp := fun _ _ _ _ h => h
def qHr (fsp : FSp) (es : List D) (fa : FA) : FE := fun ρ P X => fa ρ (fun ds => fsp (ds ++ es) P X) X
def qAw (fsp : FSp) (es : List D) (fa : FA) : FE := fun ρ P X => fa ρ (fun ds => fsp (ds ++ es) P (fun _ => False)) X
/-- constants -/
def Cst : List D → List V → Prop
  | [], vs => vs = []
  | d :: ds, vs => ∃ v us, vs = v :: us ∧ (∀ (F : Fd) (M : Addr → Prop) (H : Hp), Rep K F M H d v) ∧ Cst ds us
theorem Cst.reps {F : Fd} {M : Addr → Prop} {H : Hp} : ∀ {ds : List D} {vs : List V}, Cst (K := K) ds vs → Reps K F M H ds vs
  | [], _, h => h
  | _ :: _, _, h => by obtain ⟨v, us, rfl, h1, h2⟩ := h; exact ⟨v, us, rfl, h1 F M H, Cst.reps h2⟩
theorem qAo : Cst (K := K) [] [] := rfl
theorem qP3 {i : Int} {ds : List D} {vs : List V} (h : Cst (K := K) ds vs) : Cst (K := K) (.int i :: ds) (.int i :: vs) := ⟨_, _, rfl, fun _ _ _ => rfl, h⟩
theorem qAn {sp : Sp} {fsp : FSp} {dvs : List V} {es : List D} {ta : TA} {fa : FA} (L : Lift K sp fsp) (c : Cst (K := K) es dvs) (ha : SA K Ta ow E ta fa) : SE K Ta ow E (tCall sp dvs E0 ta) (qAw fsp es fa) := by
  intro w H σ ρ P X Q e h q x
  refine ha w H σ ρ _ X _ e h (fun ds vs H1 h1 g1 r1 => L _ _ _ _ ?_) x
  exact ⟨_, _, _, P, _, (e.grow g1).lv, r1.append c.reps, h1, fun d v H2 hd g2 r2 => q d v H2 hd (g1.trans g2) r2, fun x' _ _ _ z _ _ => z⟩
/-- within a try -/
theorem qN8 {sp : Sp} {fsp : FSp} {dvs : List V} {es : List D} {ta : TA} {fa : FA} (L : Lift K sp fsp) (c : Cst (K := K) es dvs) (ha : SA K Ta ow E ta fa) : SE K Ta ow E (tCallSD sp dvs E ta) (qHr fsp es fa) := by
  intro w H σ ρ P X Q e h q x
  refine ha w H σ ρ _ X _ e h (fun ds vs H1 h1 g1 r1 => L _ _ _ _ ?_) x
  exact ⟨_, _, _, P, X, (e.grow g1).lv, r1.append c.reps, h1, fun d v H2 hd g2 r2 => q d v H2 hd (g1.trans g2) r2, x.gr g1⟩
/-- C(..): what the class's maker promises -/
def MkL (K : PySem.W.Frag) (C : Addr) (sp : Sp) (fsp : FSp) : Prop := ∀ (F : Fd) (M : Addr → Prop) (H : Hp) (ds : List D) (vs : List V) (P : D → Prop) (X : XP) (Q : VK) (E : XK) (x dx : Addr), Lv K F M H → Reps K F M H ds vs → fsp ds P X → Post K F M H P Q → PostX K F H X E → H x = none → H dx = none → dx ≠ x →
  sp (.ref x :: vs) (upd (upd H dx (.own x)) x (.ins C dx [])) (fun v H2 => v = .non ∧ Q (.ref x) H2) E
theorem qLx {C : Addr} {sp : Sp} {fsp : FSp} {dvs : List V} {es : List D} {ta : TA} {fa : FA} {E1 : XK} (L : MkL K C sp fsp) (c : Cst (K := K) es dvs) (ha : SA K Ta ow (fun _ => E1) ta fa) : SE K Ta ow (fun _ => E1) (tMake C sp dvs E1 ta) (qHr fsp es fa) := by
  intro w H σ ρ P X Q e h q x
  refine ha w H σ ρ _ X _ e h (fun ds vs H1 h1 g1 r1 xx dx n1 n2 ne => ?_) x
  exact L _ _ H1 _ _ P X Q _ xx dx (e.grow g1).lv (r1.append c.reps) h1 (fun d v H2 hd g2 r2 => q d v H2 hd (g1.trans g2) r2) (x.gr g1) n1 n2 ne
theorem qHo {C : Addr} {sp : Sp} {fsp : FSp} {dvs : List V} {es : List D} {ta : TA} {fa : FA} (L : MkL K C sp fsp) (c : Cst (K := K) es dvs) (ha : SA K Ta ow E ta fa) : SE K Ta ow E (tMake C sp dvs E0 ta) (qAw fsp es fa) := by
  intro w H σ ρ P X Q e h q x
  refine ha w H σ ρ _ X _ e h (fun ds vs H1 h1 g1 r1 xx dx n1 n2 ne => ?_) x
  exact L _ _ H1 _ _ P _ Q _ xx dx (e.grow g1).lv (r1.append c.reps) h1 (fun d v H2 hd g2 r2 => q d v H2 hd (g1.trans g2) r2) (fun x' _ _ _ z _ _ => z) n1 n2 ne
/-- the datum is an instance of the class C, without an attribute m -/
def InsD (C m : Str) : D → Prop
  | .rat _ => C = "Ratio" ∧ m ≠ "top" ∧ m ≠ "bottom"
  | .poly _ => C = "Poly" ∧ m ≠ "coefficients" ∧ m ≠ "degree" ∧ m ≠ "lead"
  | .ins C' ns _ => C' = C ∧ m ∉ ns
  | _ => False
theorem qCg {m : Str} : ∀ {gs : List (Str × V)}, m ∉ gs.map Prod.fst → gs.lookup m = none
  | [], _ => rfl
  | (n, v) :: gs, h => by
    simp only [List.map_cons, List.mem_cons, not_or] at h
    have hb : (m == n) = false := beq_eq_false_iff_ne.mpr h.1
    simp only [List.lookup, hb]
    exact qCg h.2
theorem InsD.at {C m : Str} {F : Fd} {M : Addr → Prop} {d : D} {v : V} (h : InsD C m d) (r : Rep K F M H d v) : ∃ a dx fs, v = .ref a ∧ H a = some (.ins (He.ga K C) dx fs) ∧ fs.lookup m = none := by
  cases d with
  | rat q =>
    obtain ⟨rfl, n1, n2⟩ := h
    obtain ⟨p, rfl, _, dx, e⟩ := r
    exact ⟨p, dx, _, rfl, e, qCg (by simp [qNa, n1, n2])⟩
  | poly cs =>
    obtain ⟨rfl, n1, n2, n3⟩ := h
    obtain ⟨p, dx, t, l, vs, rfl, _, e, _⟩ := r
    exact ⟨p, dx, _, rfl, e, qCg (by simp [qKa, n1, n2, n3])⟩
  | ins C' ns ds =>
    obtain ⟨rfl, n1⟩ := h
    obtain ⟨p, dx, gs, rfl, _, e, en, _⟩ := r
    exact ⟨p, dx, _, rfl, e, qCg (by rw [en]; exact n1)⟩
  | _ => exact h.elim
def qTn (C m : Str) (fsp : FSp) (fo : FE) (fa : FA) : FE := fun ρ P X => fo ρ (fun o => InsD C m o ∧ fa ρ (fun ds => fsp (o :: ds) P X) X) X
def qGl (C m : Str) (fsp : FSp) (fo : FE) (fa : FA) : FE := fun ρ P X => fo ρ (fun o => InsD C m o ∧ fa ρ (fun ds => fsp (o :: ds) P (fun _ => False)) X) X
theorem qFi {C m : Str} {sp : Sp} {fsp : FSp} {to : TE} {ta : TA} {fo : FE} {fa : FA} (L : Lift K sp fsp) (ho : SE K Ta ow E to fo) (ha : SA K Ta ow E ta fa) : SE K Ta ow E (tMeth (He.ga K C) m sp [] E0 to ta) (qGl C m fsp fo fa) := by
  intro w H σ ρ P X Q e h q x
  refine ho w H σ ρ _ X _ e h (fun o vo H1 h1 g1 r1 => ?_) x
  obtain ⟨a, dx, fs, e1, e2, e3⟩ := h1.1.at r1
  refine ⟨a, dx, fs, e1, e2, e3, ha w H1 σ ρ _ X _ (e.grow g1) h1.2 (fun ds vs H2 h2 g2 r2 => L _ _ _ _ ?_) (x.gr g1)⟩
  refine ⟨_, _, _, P, _, ((e.grow g1).grow g2).lv, .cons (Rep.goes g2.goes _ _ r1) (by rw [List.append_nil]; exact r2), h2, fun d v H2 hd g3 r2 => q d v H2 hd ((g1.trans g2).trans g3) r2, fun x' _ _ _ z _ _ => z⟩
/-! ### fields -/
def qOp (f : Str) : D → Option D
  | .rat q => if f = "top" then some (.int q.num) else if f = "bottom" then some (.int (q.den : Nat)) else none
  | .poly cs => if f = "coefficients" then some (.tup (cs.map D.rat)) else if f = "degree" then some (.int ((cs.length : Int) - 1)) else if f = "lead" then some (.rat (qOn cs)) else none
  | .ins _ ns ds => (ns.zip ds).lookup f
  | _ => none
def qHk : D → Option Str
  | .rat _ => some "Ratio"
  | .poly _ => some "Poly"
  | .ins C _ _ => some C
  | _ => none
theorem qGp {F : Fd} {M : Addr → Prop} {f : Str} {d : D} : ∀ {gs : List (Str × V)} {ds : List D}, Reps K F M H ds (gs.map Prod.snd) → ((gs.map Prod.fst).zip ds).lookup f = some d → ∃ v, gs.lookup f = some v ∧ Rep K F M H d v
  | [], _, _, h => by simp at h
  | (n, v) :: gs, [], r, h => by simp at h
  | (n, v) :: gs, e :: ds, r, h => by
    obtain ⟨u, us, e1, r1, r2⟩ := r
    simp only [List.map_cons, List.cons.injEq] at e1
    obtain ⟨rfl, rfl⟩ := e1
    simp only [List.map_cons, List.zip_cons_cons, List.lookup] at h ⊢
    split at h
    · cases h
      exact ⟨v, rfl, r1⟩
    · exact qGp r2 h
/-- what is asked to read fields f of instances of C -/
structure FldOk (K : PySem.W.Frag) (C f : Str) : Prop where
  cl : Cls K (He.ga K C)
  na : NoAttr K (He.ga K C) f
theorem qRn {C f : Str} {F : Fd} {M : Addr → Prop} {a d : D} {x : V} (T : FldOk K C f) (hc : qHk a = some C) (hf : qOp f a = some d) (r : Rep K F M H a x) :
    ∃ (ad : Addr) (Ca dx : Addr) (fs : List (Str × V)) (v : V), x = .ref ad ∧ H ad = some (.ins Ca dx fs) ∧ Cls K Ca ∧ NoAttr K Ca f ∧ fs.lookup f = some v ∧ Rep K F M H d v := by
  cases a with
  | rat q =>
    cases hc
    obtain ⟨p, rfl, ok, dx, e⟩ := r
    refine ⟨p, CR K, dx, qNa q, ?_⟩
    simp only [qOp] at hf
    split at hf
    · rename_i h1
      cases hf
      exact ⟨_, rfl, e, T.cl, T.na, by rw [h1]; exact qM2 q, rfl⟩
    · split at hf
      · rename_i h1 h2
        cases hf
        exact ⟨_, rfl, e, T.cl, T.na, by rw [h2]; exact qM4 q, rfl⟩
      · cases hf
  | poly cs =>
    cases hc
    obtain ⟨p, dx, t, l, vs, rfl, ok, e, okt, et, rs, rl, n⟩ := r
    refine ⟨p, CP K, dx, qKa t l cs.length, ?_⟩
    have n1 : (("degree" : Str) == ("coefficients" : Str)) = false := by decide +kernel
    have n2 : (("lead" : Str) == ("coefficients" : Str)) = false := by decide +kernel
    have n3 : (("lead" : Str) == ("degree" : Str)) = false := by decide +kernel
    simp only [qOp] at hf
    split at hf
    · rename_i h1
      cases hf
      exact ⟨_, rfl, e, T.cl, T.na, by rw [h1]; simp [qKa, List.lookup], t, vs, rfl, okt, et, rs.reps⟩
    · split at hf
      · rename_i h1 h2
        cases hf
        exact ⟨_, rfl, e, T.cl, T.na, by rw [h2]; simp [qKa, List.lookup, n1], rfl⟩
      · split at hf
        · rename_i h1 h2 h3
          cases hf
          exact ⟨_, rfl, e, T.cl, T.na, by rw [h3]; simp [qKa, List.lookup, n2, n3], rl⟩
        · cases hf
  | ins C' ns ds =>
    cases hc
    obtain ⟨p, dx, gs, rfl, ok, e, en, rs⟩ := r
    subst en
    obtain ⟨v, h1, h2⟩ := qGp rs hf
    exact ⟨p, _, dx, gs, v, rfl, e, T.cl, T.na, h1, h2⟩
  | _ => cases hc
def qHv (C f : Str) (fa : FE) : FE := fun ρ P X => fa ρ (fun a => qHk a = some C ∧ ∃ d, qOp f a = some d ∧ P d) X
theorem qB8 {C f : Str} {ta : TE} {fa : FE} (T : FldOk K C f) (ha : SE K Ta ow E ta fa) : SE K Ta ow E (tFld K ta f) (qHv C f fa) := by
  intro w H σ ρ P X Q e h q x
  refine ha w H σ ρ _ X _ e h (fun a va H1 h1 g1 r1 => ?_) x
  obtain ⟨hc, d, hd, p⟩ := h1
  obtain ⟨ad, Ca, dx, fs, v, z1, z2, z3, z4, z5, z6⟩ := qRn T hc hd r1
  exact ⟨ad, Ca, dx, fs, v, z1, z2, z3, z4, z5, q d v H1 p g1 z6⟩
/-- all is let go for an expression whose value has no list -/
def qU8 (fa : FE) : FE := fun ρ P X => fa ρ (fun d => d.noL = true ∧ P d) X
/-- the names of ow hold lists -/
theorem REnv.lists {w : Wd} {σ : L2.St} {ρ : Env} (e : REnv K Ta w ow H σ ρ) (hl : ∀ i, i ∈ ow → ∃ ds, ρ[i]? = some (some (.lst ds))) : Lists (Mo ow σ) H := fun p ⟨i, hi, z⟩ => by
  obtain ⟨p', o, d, h1, h2, h3, h4, _⟩ := e.own i hi
  obtain ⟨ds, h5⟩ := hl i hi
  rw [h1] at z; cases z
  rw [h2] at h5; cases h5
  obtain ⟨vs, rfl, _⟩ := h4
  exact ⟨vs, h3⟩
def qUu (ow : List Nat) (ρ : Env) : Prop := ∀ i, i ∈ ow → ∃ ds, ρ[i]? = some (some (.lst ds))
end
end MR

set_option Elab.async false
set_option linter.all false
set_option maxRecDepth 100000
set_option maxHeartbeats 4000000
set_option exponentiation.threshold 20000
/-! FL: statements without a heap -/
namespace MR
open PySem PySem.Spec PyProof.Rows L2
structure FEnds where
  nx : Env → Prop
  rt : D → Prop
  bk : Env → Prop
  ct : Env → Prop
  ex : Exn → Env → Prop
  rf : D → Prop
abbrev FS := FEnds → Env → Prop
/-- v is a new object that nobody else knows -/
def New (K : PySem.W.Frag) (F : Fd) (M : Addr → Prop) (H0 H : Hp) (d : D) (v : V) : Prop := ∃ p o, v = .ref p ∧ H0 p = none ∧ F.no p ∧ H p = some o ∧ RepO K F (fun q => M q ∨ q = p) H d o
structure EOk (K : PySem.W.Frag) (Ta : List (Addr × Str)) (w : Wd) (ow' owb owx : List Nat) (E : L2.St → XK) (N : L2.Ends) (FD : FEnds) : Prop where
  nx : ∀ ρ σ H, FD.nx ρ → REnv K Ta w ow' H σ ρ → N.nx σ H
  rt : ∀ d v H, FD.rt d → Gr K w.F w.H0 H → Rep K w.F w.M H d v → N.rt v H
  bk : ∀ ρ σ H, FD.bk ρ → REnv K Ta w owb H σ ρ → N.bk σ H
  ct : ∀ ρ σ H, FD.ct ρ → REnv K Ta w owb H σ ρ → N.ct σ H
  ex : ∀ x ρ σ H cls dd, FD.ex x ρ → REnv K Ta w owx H σ ρ → RepX K w.F H cls dd x → E σ cls dd H
  rf : ∀ d v H, FD.rf d → Gr K w.F w.H0 H → New K w.F w.M w.H0 H d v → N.rt v H
def SS (K : PySem.W.Frag) (Ta : List (Addr × Str)) (ow ow' owb owx : List Nat) (E : L2.St → XK) (ts : TS) (fs : FS) : Prop :=
  ∀ (w : Wd) (H : Hp) (σ : L2.St) (ρ : Env) (N : L2.Ends) (FD : FEnds), REnv K Ta w ow H σ ρ → fs FD ρ → EOk K Ta w ow' owb owx E N FD → ts N σ H
section
variable {K : PySem.W.Frag} {w : Wd} {ow ow' ow1 owb owx : List Nat} {H H' : Hp} {σ : L2.St} {ρ : Env} {E : L2.St → XK} {N : L2.Ends} {FD : FEnds}
abbrev Sub (a b : List Nat) : Prop := ∀ i, i ∈ a → i ∈ b
theorem EOk.px (k : EOk K Ta w ow' owb owx E N FD) (e : REnv K Ta w ow H σ ρ) (hs : Sub owx ow) : PostX K w.F H (fun x => FD.ex x ρ) (E σ) := fun x cls dd H' hx g r => k.ex x ρ σ H' cls dd hx ((e.grow g).free hs) r
def qBu : FS := fun FD ρ => FD.nx ρ
theorem qA9 (hs : Sub ow' ow) : SS K Ta ow ow' owb owx E tNext qBu := fun w H σ ρ N FD e h k => k.nx ρ σ H h (e.free hs)
def qBn (f g : FS) : FS := fun FD ρ => f { FD with nx := g FD } ρ
theorem qAh {t u : TS} {f g : FS} (h1 : SS K Ta ow ow1 owb owx E t f) (h2 : SS K Ta ow1 ow' owb owx E u g) : SS K Ta ow ow' owb owx E (tSeq t u) (qBn f g) :=
  fun w H σ ρ N FD e h k => h1 w H σ ρ _ _ e h ⟨fun ρ' σ' H' h' e' => h2 w H' σ' ρ' N FD e' h' k, k.rt, k.bk, k.ct, k.ex, k.rf⟩
theorem qP6 {t : TS} {f : FS} (hs : Sub ow1 ow) (h : SS K Ta ow1 ow' owb owx E t f) : SS K Ta ow ow' owb owx E t f := fun w H σ ρ N FD e q k => h w H σ ρ N FD (e.free hs) q k
/-! ### a store into a name -/
theorem qAx {α : Type} {l : List α} {i j : Nat} {x : α} : (l.set i x)[j]? = if i = j then (if j < l.length then some x else none) else l[j]? := by
  rw [List.getElem?_set]
  split
  · rename_i h; subst h; rfl
  · rfl
theorem qMw {i : Nat} {x : Option V} (hi : i ∉ ow) (p : Addr) : Mo ow (σ.set i x) p ↔ Mo ow σ p := by
  have : ∀ j, j ∈ ow → (σ.set i x)[j]? = σ[j]? := fun j hj => by
    rw [qAx, if_neg (fun z => hi (by rw [z]; exact hj))]
  exact ⟨fun ⟨j, hj, z⟩ => ⟨j, hj, by rw [← this j hj]; exact z⟩, fun ⟨j, hj, z⟩ => ⟨j, hj, by rw [this j hj]; exact z⟩⟩
theorem Sl.len {R : D → V → Prop} {i : Nat} (h : Sl R ρ[i]? σ[i]?) : i < ρ.length ↔ i < σ.length := by
  cases h1 : ρ[i]? with
  | none =>
    cases h2 : σ[i]? with
    | none =>
      have := List.getElem?_eq_none_iff.mp h1
      have := List.getElem?_eq_none_iff.mp h2
      omega
    | some b => rw [h1, h2] at h; exact h.elim
  | some a =>
    cases h2 : σ[i]? with
    | none => rw [h1, h2] at h; cases a <;> exact h.elim
    | some b =>
      have := (List.getElem?_eq_some_iff.mp h1).1
      have := (List.getElem?_eq_some_iff.mp h2).1
      omega
theorem REnv.put {i : Nat} {d : D} {v : V} (e : REnv K Ta w ow H σ ρ) (hi : i ∉ ow) (r : Rep K w.F (w.Mx ow σ) H d v) : REnv K Ta w ow H (σ.set i (some v)) (ρ.set i (some d)) := by
  have mm : ∀ p, w.Mx ow (σ.set i (some v)) p ↔ w.Mx ow σ p := fun p => or_congr .rfl (qMw hi p)
  have go : Goes w.F (w.Mx ow σ) H (w.Mx ow (σ.set i (some v))) H := fun p o h _ m => ⟨h, fun z => m ((mm p).mp z)⟩
  have same : ∀ j, j ∈ ow → (σ.set i (some v))[j]? = σ[j]? ∧ (ρ.set i (some d))[j]? = ρ[j]? := fun j hj => by
    have : i ≠ j := fun z => hi (by rw [z]; exact hj)
    rw [qAx, qAx, if_neg this, if_neg this]
    exact ⟨rfl, rfl⟩
  refine ⟨e.gr, e.live, e.nf, fun j hj => ?_, fun j hj => ?_, fun j hj k hk n p => ?_, fun f hf => ?_, e.tab, e.ts⟩
  · rw [qAx, qAx]
    have z := e.imm j hj
    split
    · rename_i h
      have hl := z.len
      by_cases hlt : j < ρ.length
      · rw [if_pos hlt, if_pos (hl.mp hlt)]
        exact Rep.goes go d v r
      · rw [if_neg hlt, if_neg (fun y => hlt (hl.mpr y))]
        trivial
    · exact z.mono fun d' v' => Rep.goes go d' v'
  · obtain ⟨p, o, d', h1, h2, h3, h4, h5⟩ := e.own j hj
    exact ⟨p, o, d', by rw [(same j hj).1]; exact h1, by rw [(same j hj).2]; exact h2, h3, h4.goes go, h5⟩
  · rw [(same j hj).1, (same k hk).1]
    exact e.inj j hj k hk n p
  · obtain ⟨c, h1, h2⟩ := e.feed f hf
    exact ⟨c, h1, fun z => h2 ((mm c).mp z)⟩
/-- a new object is taken by the name i -/
theorem REnv.take {i : Nat} {d : D} {p : Addr} {o : HO} (e : REnv K Ta w ow H σ ρ) (hi : i ∉ ow) (hl : i < σ.length) (np : H p = none) (g : Gr K w.F H H') (ho : H' p = some o) (r : RepO K w.F (fun q => w.Mx ow σ q ∨ q = p) H' d o) : REnv K Ta w (i :: ow) H' (σ.set i (some (.ref p))) (ρ.set i (some d)) := by
  have ok := e.lv.ok np
  have n0 : w.H0 p = none := by
    cases z : w.H0 p with
    | none => rfl
    | some o' => rw [e.gr.old _ _ z ok.1] at np; cases np
  have mm : ∀ q, w.Mx (i :: ow) (σ.set i (some (.ref p))) q → w.Mx ow σ q ∨ q = p := fun q h => by
    rcases h with h | ⟨j, hj, z⟩
    · exact .inl (.inl h)
    · rw [qAx] at z
      by_cases hij : i = j
      · rw [if_pos hij, if_pos (by rw [← hij]; exact hl)] at z
        cases z; exact .inr rfl
      · rw [if_neg hij] at z
        exact .inl (.inr ⟨j, (List.mem_cons.mp hj).elim (fun y => absurd y.symm hij) id, z⟩)
  have e' := e.grow g
  have dif : ∀ q u, H q = some u → q ≠ p := fun q u h z => by rw [z, np] at h; cases h
  have go : Goes w.F (w.Mx ow σ) H (w.Mx (i :: ow) (σ.set i (some (.ref p)))) H' := fun q u h nf m => ⟨g.old _ _ h nf, fun z => (mm q z).elim m (dif q u h)⟩
  refine ⟨e'.gr, e.live, e.nf, fun j hj => ?_, fun j hj => ?_, fun j hj k hk n q => ?_, fun f hf => ?_, e'.tab, e.ts⟩
  · have hij : i ≠ j := fun z => hj (by rw [z]; exact List.mem_cons_self)
    rw [qAx, qAx, if_neg hij, if_neg hij]
    exact (e.imm j fun z => hj (List.mem_cons_of_mem _ z)).mono fun d' v' => Rep.goes go d' v'
  · by_cases hij : i = j
    · subst hij
      have hlr : i < ρ.length := (e.imm i hi).len.mpr hl
      refine ⟨p, o, d, by rw [qAx, if_pos rfl, if_pos hl], by rw [qAx, if_pos rfl, if_pos hlr], ho, ?_, ok.1, n0⟩
      exact r.goes fun q u hq nf m => ⟨hq, fun z => m (mm q z)⟩
    · have hj' : j ∈ ow := (List.mem_cons.mp hj).elim (fun y => absurd y.symm hij) id
      obtain ⟨p', o', d', h1, h2, h3, h4, h5⟩ := e.own j hj'
      exact ⟨p', o', d', by rw [qAx, if_neg hij]; exact h1, by rw [qAx, if_neg hij]; exact h2, g.old _ _ h3 h5.1, h4.goes go, h5⟩
  · have at_ : ∀ k, k ∈ i :: ow → i ≠ k → k ∈ ow ∧ (σ.set i (some (.ref p)))[k]? = σ[k]? := fun k hk n => ⟨(List.mem_cons.mp hk).elim (fun y => absurd y.symm n) id, by rw [qAx, if_neg n]⟩
    have me : (σ.set i (some (V.ref p)))[i]? = some (some (.ref p)) := by rw [qAx, if_pos rfl, if_pos hl]
    have ne : ∀ k, k ∈ ow → σ[k]? ≠ some (some (.ref p)) := fun k hk z => by
      obtain ⟨p', o', d', h1, h2, h3, _⟩ := e.own k hk
      rw [h1] at z; cases z
      rw [np] at h3; cases h3
    by_cases hj' : i = j
    · subst hj'
      obtain ⟨k1, k2⟩ := at_ k hk n
      rw [me, k2]
      intro z; cases z
      exact ne k k1
    · obtain ⟨j1, j2⟩ := at_ j hj hj'
      by_cases hk' : i = k
      · subst hk'
        rw [me, j2]
        intro z y; cases y
        exact ne j j1 z
      · obtain ⟨k1, k2⟩ := at_ k hk hk'
        rw [j2, k2]
        exact e.inj j j1 k k1 n q
  · obtain ⟨c, h1, h2⟩ := e.feed f hf
    refine ⟨c, g.feed f c hf h1, fun z => (mm c z).elim h2 fun y => ?_⟩
    subst y
    obtain ⟨ns, a1, a2, a3, a4, a5, o', G, z'⟩ := h1
    rw [np] at z'; cases z'
/-- an owned object is changed -/
theorem REnv.chg {i : Nat} {d : D} {p : Addr} {o : HO} (e : REnv K Ta w ow H σ ρ) (hi : i ∈ ow) (hp : σ[i]? = some (some (.ref p))) (r : RepO K w.F (w.Mx ow σ) H d o) : REnv K Ta w ow (upd H p o) σ (ρ.set i (some d)) := by
  obtain ⟨p', o', d', h1, h2, h3, h4, h5, h6⟩ := e.own i hi
  have pe : p' = p := by
    rw [h1] at hp
    cases hp; rfl
  subst pe
  have mp : w.Mx ow σ p' := .inr ⟨i, hi, h1⟩
  have go : Goes w.F (w.Mx ow σ) H (w.Mx ow σ) (upd H p' o) := fun q u h nf m => ⟨by rw [upd_ne (fun z => m (by rw [z]; exact mp))]; exact h, m⟩
  have hlr : i < ρ.length := (List.getElem?_eq_some_iff.mp h2).1
  have fd : ∀ f, w.F.f = some f → p' ≠ f := fun f hf z => h5.1 (by rw [hf, z])
  refine ⟨⟨fun b u h n => ?_, fun f c hf h => ?_, fun z => qJk (e.gr.tab z) h3 h4.pl⟩, e.live, e.nf, fun j hj => ?_, fun j hj => ?_, e.inj, fun f hf => ?_, qJk e.tab h3 h4.pl, e.ts⟩
  · rw [upd_ne (fun z => by rw [z, h6] at h; cases h)]
    exact e.gr.old b u h n
  · obtain ⟨c', k1, k2⟩ := e.feed f hf
    have k3 := e.gr.feed f c hf h
    have : c' = c := by
      obtain ⟨_, _, _, _, _, _, _, G, _⟩ := k1
      obtain ⟨_, _, _, _, _, _, _, G', _⟩ := k3
      have z := G.ob.symm.trans G'.ob
      simp only [Option.some.injEq, HO.lst.injEq, List.cons.injEq, V.ref.injEq] at z
      exact z.1
    subst this
    exact k3.keep (fd f hf) fun z => k2 (by rw [← z]; exact mp)
  · have hij : i ≠ j := fun z => hj (by rw [← z]; exact hi)
    rw [qAx, if_neg hij]
    exact (e.imm j hj).mono fun d' v' => Rep.goes go d' v'
  · by_cases hij : i = j
    · subst hij
      exact ⟨p', o, d, h1, by rw [qAx, if_pos rfl, if_pos hlr], upd_same, r.goes go, h5, h6⟩
    · obtain ⟨q, u, d2, k1, k2, k3, k4, k5⟩ := e.own j hj
      refine ⟨q, u, d2, k1, by rw [qAx, if_neg hij]; exact k2, ?_, k4.goes go, k5⟩
      rw [upd_ne (fun z => e.inj i hi j hj hij p' h1 (by rw [k1, z]))]
      exact k3
  · obtain ⟨c, k1, k2⟩ := e.feed f hf
    exact ⟨c, k1.keep (fd f hf) fun z => k2 (by rw [← z]; exact mp), k2⟩
/-! ### a new base -/
open Classical in
noncomputable def Wd.re (w : Wd) (M : Addr → Prop) (H : Hp) : Wd := { w with H0 := fun p => if M p then none else H p }
theorem qJs {f c c' : Addr} (k1 : FeedC K H f c') (k3 : FeedC K H f c) : c' = c := by
  obtain ⟨_, _, _, _, _, _, _, G, _⟩ := k1
  obtain ⟨_, _, _, _, _, _, _, G', _⟩ := k3
  have z := G.ob.symm.trans G'.ob
  simp only [Option.some.injEq, HO.lst.injEq, List.cons.injEq, V.ref.injEq] at z
  exact z.1
theorem qQp {M : Addr → Prop} {p : Addr} (h : M p) : (w.re M H).H0 p = none := if_pos h
theorem qDi {M : Addr → Prop} {p : Addr} (h : ¬ M p) : (w.re M H).H0 p = H p := if_neg h
theorem REnv.nM (e : REnv K Ta w ow H σ ρ) {p : Addr} {o : HO} (h : w.H0 p = some o) : ¬ Mo ow σ p := fun ⟨i, hi, z⟩ => by
  obtain ⟨p', o', d', h1, _, _, _, _, h6⟩ := e.own i hi
  rw [h1] at z; cases z
  rw [h6] at h; cases h
theorem FeedC.re {M : Addr → Prop} {f c : Addr} (h : FeedC K H f c) (h1 : ¬ M f) (h2 : ¬ M c) : FeedC K (w.re M H).H0 f c := by
  obtain ⟨ns, a1, a2, a3, a4, a5, o', G, e⟩ := h
  refine ⟨ns, a1, a2, a3, a4, a5, o', ⟨by rw [qDi h1]; exact G.ob, ?_, G.ne, G.nn, G.p0, G.b0, G.l0, G.n0, G.s0⟩, by rw [qDi h2]; exact e⟩
  rcases G.cs with (h | ⟨o, h⟩) | h
  · exact .inl (.inl (by rw [qDi h2]; exact h))
  · exact .inl (.inr ⟨o, by rw [qDi h2]; exact h⟩)
  · exact .inr h
theorem REnv.re (e : REnv K Ta w ow H σ ρ) : REnv K Ta (w.re (Mo ow σ) H) ow H σ ρ := by
  refine ⟨⟨fun b o h n => ?_, fun f c hf h => ?_, fun _ => e.tab⟩, fun p m => ?_, e.nf, e.imm, fun i hi => ?_, e.inj, e.feed, e.tab, e.ts⟩
  · by_cases hm : Mo ow σ b
    · rw [qQp hm] at h; cases h
    · rw [qDi hm] at h; exact h
  · obtain ⟨ns, a1, a2, a3, a4, a5, o', G, e'⟩ := h
    have out : ∀ {b : Addr} {u : HO}, (w.re (Mo ow σ) H).H0 b = some u → H b = some u := fun {b u} h => by
      by_cases hm : Mo ow σ b
      · rw [qQp hm] at h; cases h
      · rw [qDi hm] at h; exact h
    refine ⟨ns, a1, a2, a3, a4, a5, o', ⟨out G.ob, ?_, G.ne, G.nn, G.p0, G.b0, G.l0, G.n0, G.s0⟩, out e'⟩
    rcases G.cs with (h | ⟨o, h⟩) | h
    · exact .inl (.inl (out h))
    · exact .inl (.inr ⟨o, out h⟩)
    · exact .inr h
  · obtain ⟨o, h⟩ := e.live p m
    rw [qDi (e.nM h)]
    exact ⟨o, e.gr.old _ _ h (e.nf p m)⟩
  · obtain ⟨p, o, d, h1, h2, h3, h4, h5, h6⟩ := e.own i hi
    exact ⟨p, o, d, h1, h2, h3, h4, h5, qQp ⟨i, hi, h1⟩⟩
theorem REnv.tabRe (e : REnv K Ta w ow H σ ρ) : LamX.Tabs w.F.T (w.re (Mo ow σ) H).H0 := qF0 e.tab fun b o h n => by
  rw [qDi]
  · exact h
  · rintro ⟨i, hi, z⟩
    obtain ⟨p', o', d', h1, _, h3, h4, _⟩ := e.own i hi
    rw [h1] at z; cases z
    rw [h] at h3; cases h3
    exact n h4.pl
theorem qMs (e : REnv K Ta w ow H σ ρ) : Gr K w.F w.H0 (w.re (Mo ow σ) H).H0 := by
  refine ⟨fun b o h n => ?_, fun f c hf h => ?_, fun _ => e.tabRe⟩
  · rw [qDi (e.nM h)]
    exact e.gr.old b o h n
  · have k := e.gr.feed f c hf h
    obtain ⟨c', k1, k2⟩ := e.feed f hf
    have := qJs k1 k
    subst this
    refine k.re (fun ⟨i, hi, z⟩ => ?_) fun z => k2 (.inr z)
    obtain ⟨p', o', d', h1, _, _, _, h5, _⟩ := e.own i hi
    rw [h1] at z; cases z
    exact h5.1 hf
theorem REnv.un {H2 : Hp} {σ2 : L2.St} {ρ2 : Env} {ow2 : List Nat} (e : REnv K Ta w ow H σ ρ) (e2 : REnv K Ta (w.re (Mo ow σ) H) ow2 H2 σ2 ρ2) : REnv K Ta w ow2 H2 σ2 ρ2 := by
  refine ⟨(qMs e).trans e2.gr, e.live, e.nf, e2.imm, fun i hi => ?_, e2.inj, e2.feed, e2.tab, e.ts⟩
  obtain ⟨p, o, d, h1, h2, h3, h4, h5, h6⟩ := e2.own i hi
  refine ⟨p, o, d, h1, h2, h3, h4, h5, ?_⟩
  cases z : w.H0 p with
  | none => rfl
  | some o' =>
    rw [(qMs e).old p o' z h5] at h6
    cases h6
theorem New.un {H2 : Hp} {d : D} {v : V} (e : REnv K Ta w ow H σ ρ) (h : New K w.F w.M (w.re (Mo ow σ) H).H0 H2 d v) : New K w.F w.M w.H0 H2 d v := by
  obtain ⟨p, o, rfl, h0, hn, h1, h2⟩ := h
  refine ⟨p, o, rfl, ?_, hn, h1, h2⟩
  cases z : w.H0 p with
  | none => rfl
  | some o' =>
    rw [(qMs e).old p o' z hn] at h0
    cases h0
/-- what stood apart from the owned still stands -/
theorem REnv.goes {H2 : Hp} {σ2 : L2.St} {ρ2 : Env} {ow2 : List Nat} (e2 : REnv K Ta (w.re (Mo ow σ) H) ow2 H2 σ2 ρ2) : Goes w.F (w.Mx ow σ) H (w.Mx ow2 σ2) H2 := by
  intro p o h nf m
  have n : ¬ Mo ow σ p := fun z => m (.inr z)
  have h0 : (w.re (Mo ow σ) H).H0 p = some o := by rw [qDi n]; exact h
  refine ⟨e2.gr.old p o h0 nf, fun z => ?_⟩
  rcases z with z | z
  · exact m (.inl z)
  · exact e2.nM h0 z
end
end MR

set_option Elab.async false
set_option linter.all false
set_option maxRecDepth 100000
set_option maxHeartbeats 4000000
set_option exponentiation.threshold 20000
/-! FL: statements and loops without a heap -/
namespace MR
open PySem PySem.Spec PyProof.Rows L2
/-- an expression that makes a new object -/
def SF (K : PySem.W.Frag) (Ta : List (Addr × Str)) (ow : List Nat) (E : L2.St → XK) (ta : TE) (fa : FE) : Prop :=
  ∀ (w : Wd) (H : Hp) (σ : L2.St) (ρ : Env) (P : D → Prop) (X : XP) (Q : VK), REnv K Ta w ow H σ ρ → fa ρ P X →
    (∀ d p o H', P d → Gr K w.F H H' → H p = none → H' p = some o → RepO K w.F (fun q => w.Mx ow σ q ∨ q = p) H' d o → Q (.ref p) H') → PostX K w.F H X (E σ) → ta σ H Q
section
variable {K : PySem.W.Frag} {w : Wd} {ow ow' ow1 owb owx : List Nat} {H H' : Hp} {σ : L2.St} {ρ : Env} {E : L2.St → XK} {N : L2.Ends} {FD : FEnds}
theorem RepO.rep {F : Fd} {M : Addr → Prop} {d : D} {o : HO} {p : Addr} (r : RepO K F M H d o) (ok : Ok F M p) (h : H p = some o) : Rep K F M H d (.ref p) := by
  cases d with
  | lst ds => obtain ⟨vs, rfl, r⟩ := r; exact ⟨p, vs, rfl, ok, h, r⟩
  | ins C ns ds => obtain ⟨dx, gs, rfl, en, r⟩ := r; exact ⟨p, dx, gs, rfl, ok, h, en, r⟩
  | dct ks ds => obtain ⟨gs, rfl, en, r⟩ := r; exact ⟨p, gs, rfl, ok, h, en, r⟩
  | _ => exact r.elim
theorem qR4 {ta : TA} {fa : FA} (ha : SA K Ta ow E ta fa) : SF K Ta ow E (tLst ta) (qMx fa) := by
  intro w H σ ρ P X Q e h q x
  refine ha w H σ ρ _ X _ e h (fun ds vs H1 h1 g1 r1 => ⟨by rw [r1.length]; exact h1.1, fun p np => ?_⟩) x
  have n0 : H p = none := by
    cases z : H p with
    | none => rfl
    | some o => rw [g1.old p o z ((e.grow g1).lv.ok np).1] at np; cases np
  refine q _ p _ _ h1.2 (g1.trans (.new np)) n0 upd_same ⟨vs, rfl, Reps.goes (fun a u h nf m => ?_) _ _ r1⟩
  have ne : a ≠ p := fun z => by rw [z, np] at h; cases h
  exact ⟨by rw [upd_ne ne]; exact h, fun z => z.elim m ne⟩
/-! ### stores -/
def qDz (i : Nat) (fe : FE) : FS := fun FD ρ => fe ρ (fun d => FD.nx (ρ.set i (some d))) (fun x => FD.ex x ρ)
theorem qBk {i : Nat} {te : TE} {fe : FE} (hi : i ∉ ow) (hs : Sub owx ow) (he : SE K Ta ow E te fe) : SS K Ta ow ow owb owx E (tAsg te (gName i)) (qDz i fe) := by
  intro w H σ ρ N FD e h k
  exact he w H σ ρ _ _ _ e h (fun d v H' hd g r => k.nx _ _ _ hd ((e.grow g).put hi r)) (k.px e hs)
/-- the name i takes a new object -/
theorem qR1 {i : Nat} {te : TE} {fe : FE} (hi : i ∉ ow) (hs : Sub owx ow) (he : SF K Ta ow E te fe) : SS K Ta ow (i :: ow) owb owx E (tAsg te (gName i)) (fun FD ρ => i < ρ.length ∧ qDz i fe FD ρ) := by
  intro w H σ ρ N FD e h k
  have hl : i < σ.length := (e.imm i hi).len.mp h.1
  exact he w H σ ρ _ _ _ e h.2 (fun d p o H' hd g np ho r => k.nx _ _ _ hd (e.take hi hl np g ho r)) (k.px e hs)
def qV2 (i j : Nat) (fa : FA) : FS := fun FD ρ => fa ρ (fun ds => ∃ a b, ds = [a, b] ∧ FD.nx ((ρ.set i (some a)).set j (some b))) (fun x => FD.ex x ρ)
def qEc (fe : FE) : FS := fun FD ρ => fe ρ FD.rt (fun x => FD.ex x ρ)
theorem qBg {te : TE} {fe : FE} (hs : Sub owx ow) (he : SE K Ta [] E te fe) : SS K Ta ow ow' owb owx E (tRet te) (qEc fe) := by
  intro w H σ ρ N FD e h k
  refine he w H σ ρ _ _ _ (e.free (fun _ z => nomatch z)) h (fun d v H' hd g r => k.rt d v H' hd (e.gr.trans g) ?_) (k.px e hs)
  exact Rep.goes (fun p o h _ m => ⟨h, fun z => m (.inl z)⟩) _ _ r
def qUh : FS := fun FD _ => FD.rt .non
def qQi (fe : FE) : FS := fun FD ρ => fe ρ (fun _ => FD.nx ρ) (fun x => FD.ex x ρ)
theorem qQn {te : TE} {fe : FE} (hs : Sub owx ow) (he : SE K Ta ow E te fe) : SS K Ta ow ow owb owx E (tDrop te) (qQi fe) := by
  intro w H σ ρ N FD e h k
  exact he w H σ ρ _ _ _ e h (fun d v H' hd g r => k.nx _ _ _ hd (e.grow g)) (k.px e hs)
def qEl (fc : FT) (f g : FS) : FS := fun FD ρ => fc ρ (fun b => if b = true then f FD ρ else g FD ρ) (fun x => FD.ex x ρ)
theorem qC1 {tc : TT} {t u : TS} {fc : FT} {f g : FS} (hs : Sub owx ow) (hc : STt K Ta ow E tc fc) (h1 : SS K Ta ow ow' owb owx E t f) (h2 : SS K Ta ow ow' owb owx E u g) : SS K Ta ow ow' owb owx E (tIfS tc t u) (qEl fc f g) := by
  intro w H σ ρ N FD e h k
  refine hc w H σ ρ _ _ _ e h (fun b H' hb g => ?_) (k.px e hs)
  cases b with
  | true => exact h1 w H' σ ρ N FD (e.grow g) hb k
  | false => exact h2 w H' σ ρ N FD (e.grow g) hb k
def qS2 : FS := fun FD ρ => FD.bk ρ
def qV4 : FS := fun FD ρ => FD.ct ρ
theorem qRe (hs : Sub owb ow) : SS K Ta ow ow' owb owx E tBreak qS2 := fun w H σ ρ N FD e h k => k.bk ρ σ H h (e.free hs)
def qV5 : FS := fun _ _ => False
/-! ### owned lists -/
theorem REnv.lstAt {i : Nat} {ds : List D} (e : REnv K Ta w ow H σ ρ) (hi : i ∈ ow) (hd : ρ[i]? = some (some (.lst ds))) : ∃ p vs, σ[i]? = some (some (.ref p)) ∧ H p = some (.lst vs) ∧ Reps K w.F (w.Mx ow σ) H ds vs := by
  obtain ⟨p, o, d, h1, h2, h3, h4, h5, h6⟩ := e.own i hi
  rw [h2] at hd; cases hd
  obtain ⟨vs, rfl, r⟩ := h4
  exact ⟨p, vs, h1, h3, r⟩
def qKw (i : Nat) (fe : FE) : FS := fun FD ρ => ∃ ds, ρ[i]? = some (some (.lst ds)) ∧ fe ρ (fun d => ds.length < sizeLine ∧ FD.nx (ρ.set i (some (.lst (ds ++ [d]))))) (fun x => FD.ex x ρ)
theorem qDn {i : Nat} {te : TE} {fe : FE} (hi : i ∈ ow) (hs : Sub owx ow) (he : SE K Ta ow E te fe) : SS K Ta ow ow owb owx E (tDrop (tBM K "list" rAppend (tVar i) (tCons te tNil))) (qKw i fe) := by
  intro w H σ ρ N FD e h k
  obtain ⟨ds, hd, h⟩ := h
  obtain ⟨p, vs, h1, h2, h3⟩ := e.lstAt hi hd
  refine ⟨_, h1, .inl ⟨rfl, _, SqL.of h2⟩, ?_⟩
  refine he w H σ ρ _ _ _ e h (fun d v H' hd' g r => ?_) (k.px e hs)
  have e' := e.grow g
  obtain ⟨p', vs', k1, k2, k3⟩ := e'.lstAt hi hd
  rw [h1] at k1; cases k1
  refine ⟨p, vs', v, rfl, rfl, k2, by rw [k3.length]; exact hd'.1, k.nx _ _ _ hd'.2 (e'.chg hi h1 ⟨_, rfl, k3.append (.one r)⟩)⟩
/-- x[j] = e -/
def qU5 (i : Nat) (fe fj : FE) : FS := fun FD ρ => fe ρ (fun d => fj ρ (fun j => ∃ ds n m, ρ[i]? = some (some (.lst ds)) ∧ j = .int n ∧ ixN ds.length n = some m ∧ FD.nx (ρ.set i (some (.lst (ds.set m d))))) (fun x => FD.ex x ρ)) (fun x => FD.ex x ρ)
/-- x[j], x owned -/
def oIx : O2 := fun a b P _ => ∃ ds n d, (a = .lst ds ∨ a = .tup ds) ∧ b = .int n ∧ atI ds n = some d ∧ P d
theorem qO4 {F : Fd} {M : Addr → Prop} {ds : List D} {vs : List V} {n : Int} {d : D} (r : Reps K F M H ds vs) (h : atI ds n = some d) : ∃ v, atI vs n = some v ∧ Rep K F M H d v := by
  unfold atI at h ⊢
  rw [r.length]
  cases z : ixN ds.length n with
  | none => rw [z] at h; cases h
  | some j =>
    rw [z] at h
    exact r.get h
/-! ### for -/
abbrev FI := Env → (List D → Prop) → XP → Prop
abbrev FG := D → Env → (Env → Prop) → Prop
/-- the iterator yields the data ds, as long as what was usable at the start stands -/
def qVm (K : PySem.W.Frag) (F : Fd) (M : Addr → Prop) (H1 : Hp) (J : It) (ds : List D) : Prop :=
  ∀ (M2 : Addr → Prop) (H2 : Hp) (i : Nat), Goes F M H1 M2 H2 → Lv K F M2 H2 → (ds.length ≤ i → J.stop i H2) ∧ (∀ d, ds[i]? = some d → J.go i H2 ∧ ∀ x H3, J.yld i H2 x H3 → Gr K F H2 H3 ∧ Rep K F M2 H3 d x)
def SI (K : PySem.W.Frag) (Ta : List (Addr × Str)) (ow : List Nat) (E : L2.St → XK) (wi : TI) (fi : FI) : Prop :=
  ∀ (w : Wd) (H : Hp) (σ : L2.St) (ρ : Env) (P : List D → Prop) (X : XP) (R : It → Hp → Prop), REnv K Ta w ow H σ ρ → fi ρ P X → (∀ ds J H1, P ds → Gr K w.F H H1 → qVm K w.F (w.Mx ow σ) H1 J ds → R J H1) → PostX K w.F H X (E σ) → wi σ H R
/-- a target; sl: its slots -/
def SG (K : PySem.W.Frag) (Ta : List (Addr × Str)) (ow sl : List Nat) (g : TG) (g' : FG) : Prop :=
  ∀ (w : Wd) (H : Hp) (σ : L2.St) (ρ : Env) (d : D) (v : V) (R : Env → Prop) (Q : L2.St → Hp → Prop), REnv K Ta w ow H σ ρ → Rep K w.F (w.Mx ow σ) H d v → g' d ρ R → (∀ ρ' σ', R ρ' → REnv K Ta w ow H σ' ρ' → σ'.length = σ.length → (∀ i, i ∉ sl → σ'[i]? = σ[i]?) → Q σ' H) → g v σ H Q
def qFr (i : Nat) : FG := fun d ρ R => R (ρ.set i (some d))
theorem qFm {i : Nat} (hi : i ∉ ow) : SG K Ta ow [i] (gName i) (qFr i) := by
  intro w H σ ρ d v R Q e r h k
  refine k _ _ h (e.put hi r) (by rw [List.length_set]) fun j hj => ?_
  rw [qAx, if_neg (fun z => hj (by rw [z]; exact List.mem_singleton_self _))]
abbrev FGs := List D → Env → (Env → Prop) → Prop
def SGs (K : PySem.W.Frag) (Ta : List (Addr × Str)) (ow sl : List Nat) (g : TGs) (g' : FGs) : Prop :=
  ∀ (w : Wd) (H : Hp) (σ : L2.St) (ρ : Env) (ds : List D) (vs : List V) (R : Env → Prop) (Q : L2.St → Hp → Prop), REnv K Ta w ow H σ ρ → Reps K w.F (w.Mx ow σ) H ds vs → g' ds ρ R → (∀ ρ' σ', R ρ' → REnv K Ta w ow H σ' ρ' → σ'.length = σ.length → (∀ i, i ∉ sl → σ'[i]? = σ[i]?) → Q σ' H) → g vs σ H Q
def qGk : List Nat → FGs
  | [] => fun ds ρ R => ds = [] ∧ R ρ
  | i :: is => fun ds ρ R => ∃ d r, ds = d :: r ∧ qGk is r (ρ.set i (some d)) R
theorem qP9 : SGs K Ta ow [] gNil (qGk []) := by
  intro w H σ ρ ds vs R Q e r h k
  obtain ⟨rfl, h⟩ := h
  exact ⟨r, k _ _ h e rfl fun _ _ => rfl⟩
theorem qG5 {i : Nat} {is : List Nat} {g : TGs} (hi : i ∉ ow) (hg : SGs K Ta ow is g (qGk is)) : SGs K Ta ow (i :: is) (gCons (gName i) g) (qGk (i :: is)) := by
  intro w H σ ρ ds vs R Q e r h k
  obtain ⟨d, rr, rfl, h⟩ := h
  obtain ⟨v, us, rfl, r1, r2⟩ := r
  refine ⟨v, us, rfl, hg w H _ _ rr us R Q (e.put hi r1) (Reps.goes (fun p o h _ m => ⟨h, fun z => m ?_⟩) _ _ r2) h fun ρ' σ' a1 a2 a3 a4 => k ρ' σ' a1 a2 (by rw [a3, List.length_set]) fun j hj => ?_⟩
  · exact z.elim .inl fun y => .inr ((qMw hi p).mp y)
  · simp only [List.mem_cons, not_or] at hj
    rw [a4 j hj.2, qAx, if_neg (Ne.symm hj.1)]
def qMv (is : List Nat) : FG := fun d ρ R => ∃ ds, d = .tup ds ∧ ds.length = is.length ∧ qGk is ds ρ R
theorem qQw {is : List Nat} {n : Nat} {g : TGs} (hn : is.length = n) (hg : SGs K Ta ow is g (qGk is)) : SG K Ta ow is (gTup K n g) (qMv is) := by
  intro w H σ ρ d v R Q e r h k
  obtain ⟨ds, rfl, hl, h⟩ := h
  obtain ⟨p, vs, rfl, ok, hp, r⟩ := r
  exact ⟨p, vs, rfl, SqT.of hp, by rw [r.length, hl, hn], hg w H σ ρ ds vs R Q e r h k⟩
/-- the turns -/
def qCr (g : FG) (fb : FS) (FD : FEnds) : List D → Env → Prop
  | [], ρ => FD.nx ρ
  | d :: ds, ρ => g d ρ fun ρ' => fb { FD with nx := qCr g fb FD ds, ct := qCr g fb FD ds, bk := FD.nx } ρ'
def qLu (fi : FI) (g : FG) (fb : FS) : FS := fun FD ρ => fi ρ (fun ds => qCr g fb FD ds ρ) (fun x => FD.ex x ρ)
theorem qH7 {wi : TI} {g : TG} {tb : TS} {fi : FI} {g' : FG} {fb : FS} {sl : List Nat} (hs : Sub owx ow) (hi : SI K Ta ow E wi fi) (hg : SG K Ta ow sl g g') (hb : SS K Ta ow ow ow owx E tb fb) : SS K Ta ow ow owb owx E (tFor wi g tb) (qLu fi g' fb) := by
  intro w H σ ρ N FD e h k
  refine hi w H σ ρ _ _ _ e h (fun ds J H1 hd g1 it => ?_) (k.px e hs)
  have e1 := e.grow g1
  refine ⟨fun i m σ2 H2 => ∃ ρ2, REnv K Ta (w.re (Mo ow σ) H1) ow H2 σ2 ρ2 ∧ m = ds.length - i ∧ i ≤ ds.length ∧ qCr g' fb FD (ds.drop i) ρ2, ⟨ds.length, ρ, e1.re, rfl, Nat.zero_le _, hd⟩, ?_⟩
  rintro i m σ2 H2 ⟨ρ2, e2, rfl, hle, go⟩
  obtain ⟨st, yl⟩ := it _ H2 i e2.goes e2.lv
  by_cases hlt : i < ds.length
  · right
    obtain ⟨dd, hdd⟩ : ∃ dd, ds[i]? = some dd := ⟨_, List.getElem?_eq_getElem hlt⟩
    obtain ⟨j1, j2⟩ := yl dd hdd
    have hdrop : ds.drop i = dd :: ds.drop (i + 1) := by
      rw [List.drop_eq_getElem_cons hlt]
      rw [List.getElem?_eq_getElem hlt] at hdd
      cases hdd; rfl
    rw [hdrop] at go
    refine ⟨j1, fun σ' H' => ∃ ρ', REnv K Ta (w.re (Mo ow σ) H1) ow H' σ' ρ' ∧ qCr g' fb FD (ds.drop (i + 1)) ρ', fun σ' H' ⟨ρ', a, b⟩ => ⟨ds.length - (i + 1), by omega, ρ', a, rfl, hlt, b⟩, fun x H3 y => ?_⟩
    obtain ⟨g3, r3⟩ := j2 x H3 y
    refine hg _ H3 σ2 ρ2 dd x _ _ (e2.grow g3) r3 go fun ρ' σ' hr e3 _ _ => ?_
    refine hb _ H3 σ' ρ' _ _ e3 hr ⟨fun ρ4 σ4 H4 h4 e4 => ⟨ρ4, e4, h4⟩, fun d v H4 h4 g4 r4 => k.rt d v H4 h4 ((qMs e1).trans g4) r4, fun ρ4 σ4 H4 h4 e4 => k.nx _ _ _ h4 (e1.un e4), fun ρ4 σ4 H4 h4 e4 => ⟨ρ4, e4, h4⟩, fun x ρ4 σ4 H4 cls dd h4 e4 r4 => k.ex x ρ4 σ4 H4 cls dd h4 (e1.un e4) r4, fun d v H4 h4 g4 r4 => k.rf d v H4 h4 ((qMs e1).trans g4) (r4.un e1)⟩
  · left
    have : i = ds.length := by omega
    rw [this, List.drop_length] at go
    exact ⟨st (by omega), k.nx _ _ _ go (e1.un e2)⟩
/-! ### while -/
/-! ### what a loop walks -/
def itD : D → Option (List D)
  | .lst ds => some ds
  | .tup ds => some ds
  | _ => none
def fIt (fe : FE) : FI := fun ρ P X => fe ρ (fun d => ∃ ds, itD d = some ds ∧ P ds) X
def qS7 (fe : FE) : FI := fun ρ P X => fe ρ (fun d => ∃ ds, d = .lst ds ∧ P ds) X
def qVx (fe : FE) : FI := fun ρ P X => fe ρ (fun d => ∃ ds, d = .tup ds ∧ P ds) X
theorem qMc {te : TE} {fe : FE} (he : SE K Ta ow E te fe) : SI K Ta ow E (iList K te) (qS7 fe) := by
  intro w H σ ρ P X R e h k x
  refine he w H σ ρ _ X _ e h (fun d v H1 hd g r => ?_) x
  obtain ⟨ds, rfl, p⟩ := hd
  obtain ⟨a, vs, rfl, ok, ha, rs⟩ := r
  refine ⟨a, rfl, ⟨vs, SqL.of ha⟩, k ds _ H1 p g fun M2 H2 i go lv => ?_⟩
  obtain ⟨ha2, _⟩ := go a _ ha ok.1 ok.2
  have rs2 := Reps.goes go _ _ rs
  refine ⟨fun hl => ⟨vs, SqL.of ha2, by rw [rs.length]; exact hl⟩, fun d hd => ?_⟩
  obtain ⟨v, hv, rv⟩ := rs2.get hd
  refine ⟨⟨vs, v, SqL.of ha2, hv⟩, fun y H3 hy => ?_⟩
  obtain ⟨rfl, hy⟩ := hy
  have := hy vs (SqL.of ha2)
  rw [hv] at this; cases this
  exact ⟨.refl, rv⟩
def qOe (lo : Int) (n : Nat) : List D := (List.range n).map fun (k : Nat) => D.int (lo + (k : Int))
theorem qO9 {lo : Int} {n i : Nat} {d : D} (h : (qOe lo n)[i]? = some d) : i < n ∧ d = .int (lo + (i : Int)) := by
  unfold qOe at h
  rw [List.getElem?_map] at h
  by_cases hi : i < n
  · rw [List.getElem?_range hi] at h
    cases h; exact ⟨hi, rfl⟩
  · rw [List.getElem?_eq_none (by simp; omega)] at h
    cases h
def qL8 (fa : FA) : FI := fun ρ P X => fa ρ (fun as => ∃ j : Int, as = [.int j] ∧ -(2 ^ 62) ≤ j ∧ j < 2 ^ 62 ∧ P (qOe 0 j.toNat)) X
theorem qMm {ta : TA} {fa : FA} (ha : SA K Ta ow E ta fa) : SI K Ta ow E (iRng1 ta) (qL8 fa) := by
  intro w H σ ρ P X R e h k x
  refine ha w H σ ρ _ X _ e h (fun ds vs H1 hd g r => ?_) x
  obtain ⟨j, rfl, j0, j1, p⟩ := hd
  have := Reps.ints (ns := [j]) r
  refine ⟨j, this, j0, j1, k _ _ H1 p g fun M2 H2 i go lv => ⟨fun hl => ?_, fun d hd => ?_⟩⟩
  · simp only [qOe, List.length_map, List.length_range] at hl; exact hl
  · obtain ⟨h1, rfl⟩ := qO9 hd
    exact ⟨h1, fun y H3 ⟨h3, hy⟩ => by subst h3; exact ⟨.refl, hy⟩⟩
end
end MR

set_option Elab.async false
set_option linter.all false
set_option maxRecDepth 100000
set_option maxHeartbeats 4000000
/-! MR: lists or tuples -/
namespace MR
open PySem PySem.Spec PyProof.Rows L2
end MR

set_option Elab.async false
set_option linter.all false
set_option maxRecDepth 100000
set_option maxHeartbeats 4000000
set_option exponentiation.threshold 20000
/-! FL: iterations, comprehensions, slices -/
namespace MR
open PySem PySem.Spec PyProof.Rows L2
section
variable {K : PySem.W.Frag} {w : Wd} {ow ow' ow1 owb owx : List Nat} {H H' : Hp} {σ : L2.St} {ρ : Env} {E : L2.St → XK} {N : L2.Ends} {FD : FEnds}
/-! ### slices -/
abbrev FO := Env → (Option Int → Prop) → XP → Prop
def SO (K : PySem.W.Frag) (Ta : List (Addr × Str)) (ow : List Nat) (E : L2.St → XK) (to : TO) (fo : FO) : Prop :=
  ∀ (w : Wd) (H : Hp) (σ : L2.St) (ρ : Env) (P : Option Int → Prop) (X : XP) (Q : Option Int → Hp → Prop), REnv K Ta w ow H σ ρ → fo ρ P X → (∀ i H', P i → Gr K w.F H H' → Q i H') → PostX K w.F H X (E σ) → to σ H Q
def qEn : FO := fun _ P _ => P none
def qKq (fe : FE) : FO := fun ρ P X => fe ρ (fun d => ∃ i, d = .int i ∧ P (some i)) X
theorem qIs : SO K Ta ow E tNoPart qEn := fun w H σ ρ P X Q e h q x => q _ _ h .refl
theorem qIq {te : TE} {fe : FE} (he : SE K Ta ow E te fe) : SO K Ta ow E (tPart te) (qKq fe) := by
  intro w H σ ρ P X Q e h q x
  refine he w H σ ρ _ X _ e h (fun d v H1 hd g r => ?_) x
  obtain ⟨i, rfl, p⟩ := hd
  exact ⟨i, r, q _ H1 p g⟩
def qTr {α : Type} (xs : List α) (lo hi : Option Int) : List α := (xs.drop (HT.sIx xs.length 0 lo)).take (HT.sIx xs.length xs.length hi - HT.sIx xs.length 0 lo)
end
end MR

set_option Elab.async false
set_option linter.all false
set_option maxRecDepth 100000
set_option maxHeartbeats 4000000
set_option exponentiation.threshold 20000
/-! FL: comprehensions, slices, operators -/
namespace MR
open PySem PySem.Spec PyProof.Rows L2
section
variable {K : PySem.W.Frag} {w : Wd} {ow ow' ow1 owb owx : List Nat} {H H' : Hp} {σ : L2.St} {ρ : Env} {E : L2.St → XK} {N : L2.Ends} {FD : FEnds}
/-! ### comprehensions -/
theorem REnv.clr {i : Nat} (e : REnv K Ta w ow H σ ρ) (hi : i ∉ ow) : REnv K Ta w ow H (σ.set i none) (ρ.set i none) := by
  have mm : ∀ p, w.Mx ow (σ.set i none) p ↔ w.Mx ow σ p := fun p => or_congr .rfl (qMw hi p)
  have go : Goes w.F (w.Mx ow σ) H (w.Mx ow (σ.set i none)) H := fun p o h _ m => ⟨h, fun z => m ((mm p).mp z)⟩
  have same : ∀ j, j ∈ ow → (σ.set i none)[j]? = σ[j]? ∧ (ρ.set i none)[j]? = ρ[j]? := fun j hj => by
    have : i ≠ j := fun z => hi (by rw [z]; exact hj)
    rw [qAx, qAx, if_neg this, if_neg this]
    exact ⟨rfl, rfl⟩
  refine ⟨e.gr, e.live, e.nf, fun j hj => ?_, fun j hj => ?_, fun j hj k hk n p => ?_, fun f hf => ?_, e.tab, e.ts⟩
  · rw [qAx, qAx]
    have z := e.imm j hj
    split
    · rename_i h
      have hl := z.len
      by_cases hlt : j < ρ.length
      · rw [if_pos hlt, if_pos (hl.mp hlt)]
        trivial
      · rw [if_neg hlt, if_neg (fun y => hlt (hl.mpr y))]
        trivial
    · exact z.mono fun d' v' => Rep.goes go d' v'
  · obtain ⟨p, o, d', h1, h2, h3, h4, h5⟩ := e.own j hj
    exact ⟨p, o, d', by rw [(same j hj).1]; exact h1, by rw [(same j hj).2]; exact h2, h3, h4.goes go, h5⟩
  · rw [(same j hj).1, (same k hk).1]
    exact e.inj j hj k hk n p
  · obtain ⟨c, h1, h2⟩ := e.feed f hf
    exact ⟨c, h1, fun z => h2 ((mm c).mp z)⟩
abbrev X0 : XP := fun _ => False
def qPj (g : FG) (ft : FT) (fe : FE) (ρ0 : Env) (P : D → Prop) : List D → List D → Prop
  | [], acc => P (.lst acc)
  | d :: ds, acc => g d ρ0 fun ρ2 => ft ρ2 (fun b => if b = true then fe ρ2 (fun y => acc.length < sizeLine ∧ qPj g ft fe ρ0 P ds (acc ++ [y])) X0 else qPj g ft fe ρ0 P ds acc) X0
def qQu : FT := fun _ P _ => P true
end
end MR

set_option Elab.async false
set_option linter.all false
set_option maxRecDepth 100000
set_option maxHeartbeats 4000000
/-! MR: X(), X an own exception class without an __init__ of its own -/
namespace MR
open PySem PySem.Spec PyProof.Rows L2
end MR

set_option Elab.async false
set_option linter.all false
set_option maxRecDepth 100000
set_option maxHeartbeats 4000000
set_option exponentiation.threshold 20000
/-! FL: slices, operators by values -/
namespace MR
open PySem PySem.Spec PyProof.Rows L2
section
variable {K : PySem.W.Frag} {w : Wd} {ow ow' ow1 owb owx : List Nat} {H H' : Hp} {σ : L2.St} {ρ : Env} {E : L2.St → XK} {E1 : XK} {N : L2.Ends} {FD : FEnds} {F : Fd} {M : Addr → Prop}
/-! ### slices of lists -/
theorem Reps.cut {ds : List D} {vs : List V} {lo hi : Option Int} (r : Reps K F M H ds vs) : Reps K F M H (qTr ds lo hi) (cutV vs lo hi) := by
  unfold qTr cutV
  rw [r.length]
  exact (r.drop _).take _
def fSl (fe : FE) (fl fh : FO) : FE := fun ρ P X => fe ρ (fun d => fl ρ (fun l => fh ρ (fun h => ∃ ds, d = .lst ds ∧ P (.lst (qTr ds l h))) X) X) X
/-! ### ints -/
def oI (C : Int → Int → Prop) (g : Int → Int → D) : O2 := fun a b P _ => match a, b with
  | .int i, .int j => C i j ∧ P (g i j)
  | _, _ => False
def oI0 (g : Int → Int → D) : O2 := fun a b P _ => match a, b with
  | .int i, .int j => P (g i j)
  | _, _ => False
theorem qS6 {C : Int → Int → Prop} {g : Int → Int → V} {g' : Int → Int → D} (hg : ∀ i j (F : Fd) (M : Addr → Prop) (H : Hp), Rep K F M H (g' i j) (g i j)) : OpS K E1 (rI C g) (oI C g') := by
  intro F M H x y a b P X Q lv ra rb h q x'
  cases a <;> cases b <;> first | exact h.elim | skip
  exact ⟨_, _, ra, rb, h.1, q _ _ _ h.2 .refl (hg _ _ _ _ _)⟩
theorem qMh {g : Int → Int → V} {g' : Int → Int → D} (hg : ∀ i j (F : Fd) (M : Addr → Prop) (H : Hp), Rep K F M H (g' i j) (g i j)) : OpS K E1 (rI0 g) (oI0 g') := by
  intro F M H x y a b P X Q lv ra rb h q x'
  cases a <;> cases b <;> first | exact h.elim | skip
  exact ⟨_, _, ra, rb, q _ _ _ h .refl (hg _ _ _ _ _)⟩
abbrev qQ0 : O2 := oI0 fun i j => .int (i + j)
abbrev qTv : O2 := oI0 fun i j => .int (i - j)
abbrev qL6 : O2 := oI IntMulOk fun i j => .int (i * j)
abbrev qSk : O2 := oI qNs fun i j => .int (i.fdiv j)
abbrev qT2 : O2 := oI (fun _ j => j ≠ 0) fun i j => .int (i.fmod j)
abbrev qS8 : O2 := oI CPow fun i j => .int (i ^ j.toNat)
abbrev oLt : O2 := oI0 fun i j => .bl (decide (i < j))
abbrev oGt : O2 := oI0 fun i j => .bl (decide (j < i))
abbrev oGe : O2 := oI0 fun i j => .bl (decide (j ≤ i))
theorem qJ6 : OpS K E1 qE5 qQ0 := qMh fun _ _ _ _ _ => rfl
theorem qOx : OpS K E1 qMa qTv := qMh fun _ _ _ _ _ => rfl
theorem qE2 : OpS K E1 qEj qL6 := qS6 fun _ _ _ _ _ => rfl
theorem qOq : OpS K E1 qGi qSk := qS6 fun _ _ _ _ _ => rfl
theorem qQ3 : OpS K E1 qIg qT2 := qS6 fun _ _ _ _ _ => rfl
theorem qLi : OpS K E1 qIe qS8 := qS6 fun _ _ _ _ _ => rfl
theorem qUl : OpS K E1 qSz oLt := qMh fun _ _ _ _ _ => rfl
theorem qTj : OpS K E1 qS3 oGt := qMh fun _ _ _ _ _ => rfl
theorem qTe : OpS K E1 qUj oGe := qMh fun _ _ _ _ _ => rfl
def eqD : D → D → Option Bool
  | .int i, .int j => some (decide (i = j))
  | .str i, .str j => some (decide (i = j))
  | .bl i, .bl j => some (decide (i = j))
  | .non, .non => some true
  | .non, .int _ => some false
  | .int _, .non => some false
  | .non, .str _ => some false
  | .str _, .non => some false
  | .non, .bl _ => some false
  | .bl _, .non => some false
  | .int _, .str _ => some false
  | .str _, .int _ => some false
  | _, _ => none
theorem qLf {a b : D} {x y : V} {k : Bool} (ra : Rep K F M H a x) (rb : Rep K F M H b y) (h : eqD a b = some k) : scal x y = true ∧ decide (x = y) = k := by
  cases a <;> cases b <;> first | (cases h; done) | skip
  all_goals
    simp only [Rep] at ra rb
    subst ra rb
    simp only [eqD, Option.some.injEq] at h
    subst h
    refine ⟨rfl, ?_⟩
    simp
def oEq : O2 := fun a b P _ => ∃ k, eqD a b = some k ∧ P (.bl k)
def oNe : O2 := fun a b P _ => ∃ k, eqD a b = some k ∧ P (.bl !k)
theorem qDp : OpS K E1 rEq oEq := by
  intro F M H x y a b P X Q lv ra rb h q x'
  obtain ⟨k, hk, p⟩ := h
  obtain ⟨h1, h2⟩ := qLf ra rb hk
  exact ⟨h1, by rw [h2]; exact q _ _ _ p .refl rfl⟩
theorem qMg : OpS K E1 rNe oNe := by
  intro F M H x y a b P X Q lv ra rb h q x'
  obtain ⟨k, hk, p⟩ := h
  obtain ⟨h1, h2⟩ := qLf ra rb hk
  exact ⟨h1, by rw [h2]; exact q _ _ _ p .refl rfl⟩
def isN : D → Bool
  | .non => true
  | _ => false
def qV6 : O2 := fun a b P _ => b = .non ∧ P (.bl (isN a))
def qTx : O2 := fun a b P _ => b = .non ∧ P (.bl (!isN a))
def qS0 : O1 := fun a P _ => match a with
  | .int i => P (.int (-i))
  | _ => False
theorem qRc : UnS K E1 qPz qS0 := by
  intro F M H x a P X Q lv ra h q x'
  cases a <;> first | exact h.elim | skip
  exact ⟨_, ra, q _ _ _ h .refl rfl⟩
/-! ### subscripts -/
theorem qBz : OpS K E1 (rIxL K) (fun a b P X => (∃ ds, a = .lst ds) ∧ oIx a b P X) := by
  intro F M H x y a b P X Q lv ra rb h q x'
  obtain ⟨⟨_, rfl⟩, ds, n, d, hl, rfl, ha, p⟩ := h
  rcases hl with z | z <;> cases z
  obtain ⟨p', vs, rfl, ok, hp, rs⟩ := ra
  obtain ⟨v, h1, h2⟩ := qO4 rs ha
  exact ⟨p', vs, n, v, rfl, rb, SqL.of hp, h1, q _ _ _ p .refl h2⟩
/-! ### built-ins -/
def qTw : OL := fun as P _ => match as with
  | [.int i] => P (.int (i.natAbs : Nat))
  | _ => False
theorem qH5 {ds : D} {vs : List V} (r : Reps K F M H [ds] vs) : ∃ v, vs = [v] ∧ Rep K F M H ds v := by
  obtain ⟨v, us, rfl, h, z⟩ := r
  rw [show us = [] from z]
  exact ⟨v, rfl, h⟩
theorem qRg {a b : D} {vs : List V} (r : Reps K F M H [a, b] vs) : ∃ v u, vs = [v, u] ∧ Rep K F M H a v ∧ Rep K F M H b u := by
  obtain ⟨v, us, rfl, h, z⟩ := r
  obtain ⟨u, rfl, h2⟩ := qH5 z
  exact ⟨v, u, rfl, h, h2⟩
theorem qSv : LsS K E1 qMq qTw := by
  intro F M H xs as P X Q lv ra h q x'
  match as, h with
  | [.int i], h =>
    obtain ⟨v, rfl, r⟩ := qH5 ra
    exact ⟨i, by rw [show v = .int i from r], by rw [qJq]; exact q _ _ _ h .refl rfl⟩
def qVy : OL := fun as P _ => match as with
  | [.int i, .int j] => P (.int (max i j))
  | _ => False
def qVp : OL := fun as P _ => match as with
  | [.int i, .int j] => P (.int (min i j))
  | _ => False
def qS5 : OL := fun as P _ => match as with
  | [.int i] => P (.int i)
  | [.bl b] => P (.int (if b then 1 else 0))
  | _ => False
theorem qRq : LsS K E1 qJc qS5 := by
  intro F M H xs as P X Q lv ra h q x'
  match as, h with
  | [.int i], h =>
    obtain ⟨v, rfl, r⟩ := qH5 ra
    exact .inl ⟨i, by rw [show v = .int i from r], q _ _ _ h .refl rfl⟩
  | [.bl i], h =>
    obtain ⟨v, rfl, r⟩ := qH5 ra
    exact .inr ⟨i, by rw [show v = .bl i from r], q _ _ _ h .refl rfl⟩
def qVf : OL := fun as P _ => match as with
  | [.lst ds] => P (.int (ds.length : Nat))
  | [.tup ds] => P (.int (ds.length : Nat))
  | [.str x] => x.length ≤ sizeLine ∧ P (.int (x.length : Nat))
  | _ => False
def qTt : OL := fun as P _ => match as with
  | [.lst ds] => P (.lst ds)
  | [.tup ds] => P (.lst ds)
  | _ => False
def qRt : OL := fun as P _ => match as with
  | [.lst ds] => P (.tup ds)
  | [.tup ds] => P (.tup ds)
  | _ => False
def qVs : O2 := fun a b P _ => match a, b with
  | .lst x, .lst y => x.length + y.length ≤ sizeLine ∧ P (.lst (x ++ y))
  | _, _ => False
theorem Reps.rep {ds : List D} {vs : List V} (r : Reps K F M H ds vs) : ∀ n : Nat, Reps K F M H (List.replicate n ds).flatten (List.replicate n vs).flatten
  | 0 => rfl
  | n + 1 => by
    rw [List.replicate_succ, List.replicate_succ, List.flatten_cons, List.flatten_cons]
    exact r.append (Reps.rep r n)
/-! ### isinstance -/
inductive Cl where
  | ty (n : String) | own (C : Str)
def Cl.v (K : PySem.W.Frag) : Cl → V
  | .ty n => .ty n
  | .own C => .ref (He.ga K C)
def Cl.u (K : PySem.W.Frag) : Cl → Value
  | .ty n => .type n
  | .own C => .ref (He.ga K C)
def tyN : D → Option String
  | .non => some "NoneType"
  | .bl _ => some "bool"
  | .int _ => some "int"
  | .str _ => some "str"
  | .lst _ => some "list"
  | .tup _ => some "tuple"
  | .dct _ _ => some "dict"
  | _ => none
def qVc (a b : String) : Bool := a == b || (a == "bool" && b == "int")
def isD (cs : List Str) (c : Cl) (d : D) : Option Bool :=
  match tyN d with
  | some t => (match c with
    | .ty n => if n ∈ ["int", "bool", "str", "list", "tuple"] then some (qVc t n) else none
    | .own C => if C ∈ cs then some false else none)
  | none => (match qHk d with
    | some C => if C ∈ cs then (match c with
      | .ty n => if n ∈ ["int", "bool", "str", "list", "tuple"] then some false else none
      | .own C' => if C' ∈ cs then some (decide (C = C')) else none) else none
    | none => none)
/-- what the written part says of the own classes cs -/
structure KT (K : PySem.W.Frag) (cs : List Str) : Prop where
  own : ∀ C, C ∈ cs → OwnC K (He.ga K C)
  ob : ∀ C, C ∈ cs → ∀ n, n ∈ ["int", "bool", "str", "list", "tuple"] → PySem.W.kitOne K (.ref (He.ga K C)) (.type n) = some false
  bo : ∀ C, C ∈ cs → ∀ n, n ∈ ["NoneType", "int", "bool", "str", "list", "tuple", "dict"] → PySem.W.kitOne K (.type n) (.ref (He.ga K C)) = some false
  oo : ∀ C, C ∈ cs → ∀ C', C' ∈ cs → PySem.W.kitOne K (.ref (He.ga K C)) (.ref (He.ga K C')) = some (decide (C = C'))
theorem qOy {d : D} {v : V} {t : String} (r : Rep K F M H d v) (h : tyN d = some t) : TyX K H v (.type t) ∧ t ∈ ["NoneType", "int", "bool", "str", "list", "tuple", "dict"] := by
  cases d <;> first | (cases h; done) | skip
  · cases h; rw [show v = .non from r]; exact ⟨.base .non, by simp⟩
  · cases h; rw [show v = _ from r]; exact ⟨.base (.bl _), by simp⟩
  · cases h; rw [show v = _ from r]; exact ⟨.base (.int _), by simp⟩
  · cases h; rw [show v = _ from r]; exact ⟨.base (.str _), by simp⟩
  · cases h; obtain ⟨p, vs, rfl, _, e, _⟩ := r; exact ⟨.base (.lst e), by simp⟩
  · cases h; obtain ⟨p, vs, rfl, _, e, _⟩ := r; exact ⟨.base (.tup e), by simp⟩
  · cases h; obtain ⟨p, gs, rfl, _, e, _⟩ := r; exact ⟨.base (.dK e), by simp⟩
theorem qLe {cs : List Str} {d : D} {v : V} {C : Str} (T : KT K cs) (r : Rep K F M H d v) (h : qHk d = some C) (hC : C ∈ cs) : TyX K H v (.ref (He.ga K C)) := by
  cases d <;> first | (cases h; done) | skip
  · cases h; obtain ⟨p, rfl, _, dx, e⟩ := r; exact (T.own _ hC).ty e
  · cases h; obtain ⟨p, dx, t, l, vs, rfl, _, e, _⟩ := r; exact (T.own _ hC).ty e
  · cases h; obtain ⟨p, dx, gs, rfl, _, e, _⟩ := r; exact (T.own _ hC).ty e
theorem qOr {a b : String} (ha : a ∈ ["NoneType", "int", "bool", "str", "list", "tuple", "dict"]) (hb : b ∈ ["int", "bool", "str", "list", "tuple"]) : PySem.W.kitOne K (.type a) (.type b) = some (qVc a b) := by
  simp only [List.mem_cons, List.not_mem_nil, or_false] at ha hb
  rcases ha with rfl | rfl | rfl | rfl | rfl | rfl | rfl <;> rcases hb with rfl | rfl | rfl | rfl | rfl <;> exact kit_ty (by decide +kernel)
theorem qOs {cs : List Str} {c : Cl} {d : D} {v : V} {b : Bool} (T : KT K cs) (r : Rep K F M H d v) (h : isD cs c d = some b) : ∃ t, TyX K H v t ∧ PySem.W.kitOne K t (c.u K) = some b := by
  unfold isD at h
  cases ht : tyN d with
  | some t =>
    rw [ht] at h
    obtain ⟨h1, h2⟩ := qOy r ht
    cases c with
    | ty n =>
      dsimp only at h
      split at h
      · rename_i hn
        cases h
        exact ⟨_, h1, qOr h2 hn⟩
      · cases h
    | own C =>
      dsimp only at h
      split at h
      · rename_i hn
        cases h
        exact ⟨_, h1, T.bo C hn t h2⟩
      · cases h
  | none =>
    rw [ht] at h
    dsimp only at h
    cases hc : qHk d with
    | none => rw [hc] at h; cases h
    | some C =>
      rw [hc] at h
      dsimp only at h
      split at h
      · rename_i hC
        have h1 := qLe T r hc hC
        cases c with
        | ty n =>
          dsimp only at h
          split at h
          · rename_i hn
            cases h
            exact ⟨_, h1, T.ob C hC n hn⟩
          · cases h
        | own C' =>
          dsimp only at h
          split at h
          · rename_i hn
            cases h
            exact ⟨_, h1, T.oo C hC C' hn⟩
          · cases h
      · cases h
def qOb (cs : List Str) (c : Cl) (fe : FE) : FE := fun ρ P X => fe ρ (fun d => ∃ b, isD cs c d = some b ∧ P (.bl b)) X
theorem qQj (c : Cl) : ClsV (c.v K) (c.u K) := by
  cases c with
  | ty n => exact .ty n
  | own C => exact .own _
theorem qGj {cs : List Str} {c : Cl} {te : TE} {fe : FE} (T : KT K cs) (he : SE K Ta ow E te fe) : SE K Ta ow E (tCB (rIsi K) (tCons te (tCons (tC (c.v K)) tNil))) (qOb cs c fe) := by
  intro w H σ ρ P X Q e h q x
  refine he w H σ ρ _ X _ e h (fun d v H1 hd g r => ?_) x
  obtain ⟨b, hb, p⟩ := hd
  obtain ⟨t, h1, h2⟩ := qOs T r hb
  exact ⟨v, _, t, c.u K, b, rfl, qQj c, h1, h2, q _ _ _ p g rfl⟩
/-- isinstance(e, (list, tuple)) -/
def qTq (cs : List Str) (fe : FE) : FE := fun ρ P X => fe ρ (fun d => ∃ b b', isD cs (.ty "list") d = some b ∧ isD cs (.ty "tuple") d = some b' ∧ P (.bl (b || b'))) X
theorem qPr {cs : List Str} {c c' : Cl} {d : D} {v : V} {b b' : Bool} (T : KT K cs) (r : Rep K F M H d v) (h : isD cs c d = some b) (h' : isD cs c' d = some b') : ∃ t, TyX K H v t ∧ PySem.W.kitOne K t (c.u K) = some b ∧ PySem.W.kitOne K t (c'.u K) = some b' := by
  have key : ∀ {c : Cl} {b : Bool}, isD cs c d = some b → (∃ t, tyN d = some t) ∨ ∃ C, C ∈ cs ∧ qHk d = some C := fun {c b} h => by
    unfold isD at h
    cases ht : tyN d with
    | some t => exact .inl ⟨t, rfl⟩
    | none =>
      rw [ht] at h
      dsimp only at h
      cases hc : qHk d with
      | none => rw [hc] at h; cases h
      | some C =>
        rw [hc] at h
        dsimp only at h
        split at h
        · rename_i hC; exact .inr ⟨C, hC, rfl⟩
        · cases h
  have uniq : ∃ t, TyX K H v t ∧ ∀ {c : Cl} {b : Bool}, isD cs c d = some b → PySem.W.kitOne K t (c.u K) = some b := by
    rcases key h with ⟨t, ht⟩ | ⟨C, hC, hc⟩
    · obtain ⟨h1, h2⟩ := qOy r ht
      refine ⟨_, h1, fun {c b} h => ?_⟩
      unfold isD at h
      rw [ht] at h
      cases c with
      | ty n =>
        dsimp only at h
        split at h
        · rename_i hn; cases h; exact qOr h2 hn
        · cases h
      | own C =>
        dsimp only at h
        split at h
        · rename_i hn; cases h; exact T.bo C hn t h2
        · cases h
    · refine ⟨_, qLe T r hc hC, fun {c b} h => ?_⟩
      have ht : tyN d = none := by cases d <;> first | rfl | cases hc
      unfold isD at h
      rw [ht, hc] at h
      dsimp only at h
      rw [if_pos hC] at h
      cases c with
      | ty n =>
        dsimp only at h
        split at h
        · rename_i hn; cases h; exact T.ob C hC n hn
        · cases h
      | own C' =>
        dsimp only at h
        split at h
        · rename_i hn; cases h; exact T.oo C hC C' hn
        · cases h
  obtain ⟨t, h1, h2⟩ := uniq
  exact ⟨t, h1, h2 h, h2 h'⟩
end
end MR

set_option Elab.async false
set_option linter.all false
set_option maxRecDepth 100000
set_option maxHeartbeats 4000000
set_option exponentiation.threshold 20000
/-! FL: own operators, raise, try, whole defs -/
namespace MR
open PySem PySem.Spec PyProof.Rows L2
section
variable {K : PySem.W.Frag} {w : Wd} {ow ow' ow1 owb owx : List Nat} {H H' : Hp} {σ : L2.St} {ρ : Env} {E : L2.St → XK} {E1 : XK} {N : L2.Ends} {FD : FEnds} {F : Fd} {M : Addr → Prop}
theorem qMl {d : D} {v : V} {C : Str} (r : Rep K F M H d v) (h : qHk d = some C) : ∃ p dx fs, v = .ref p ∧ H p = some (.ins (He.ga K C) dx fs) := by
  cases d <;> first | (cases h; done) | skip
  · cases h; obtain ⟨p, rfl, _, dx, e⟩ := r; exact ⟨p, dx, _, rfl, e⟩
  · cases h; obtain ⟨p, dx, t, l, vs, rfl, _, e, _⟩ := r; exact ⟨p, dx, _, rfl, e⟩
  · cases h; obtain ⟨p, dx, gs, rfl, _, e, _⟩ := r; exact ⟨p, dx, _, rfl, e⟩
def qNt : D → Prop
  | .int _ => True
  | _ => False
def qVl (C : Str) (fsp : FSp) : O2 := fun a b P X => qHk a = some C ∧ (qNt b ∨ qHk b = some C) ∧ fsp [a, b] P X
def qKh (C : Str) (fsp : FSp) : O2 := fun a b P X => qHk a = some C ∧ (qNt b ∨ qHk b = some C) ∧ fsp [a, b] P X0
def qQ1 (C : Str) (fsp : FSp) : O2 := fun a b P X => qNt a ∧ qHk b = some C ∧ fsp [b, a] P X0
theorem qM1 {b : D} {y : V} (h : qNt b) (r : Rep K F M H b y) : ∃ n, y = .int n := by
  cases b <;> first | exact h.elim | skip
  exact ⟨_, r⟩
theorem qQy {C : Str} {sp : Sp} {fsp : FSp} (L : Lift K sp fsp) : OpS K E1 (qSb (He.ga K C) sp E1) (qVl C fsp) := by
  intro F M H x y a b P X Q lv ra rb h q x'
  obtain ⟨h1, h2, h3⟩ := h
  obtain ⟨p, dx, fs, rfl, e⟩ := qMl ra h1
  refine ⟨p, dx, fs, rfl, e, ?_, L _ _ _ _ ⟨F, M, [a, b], P, X, lv, .cons ra (.one rb), h3, q, x'⟩⟩
  rcases h2 with h2 | h2
  · exact .inl (qM1 h2 rb)
  · obtain ⟨p', dx', fs', rfl, e'⟩ := qMl rb h2
    exact .inr ⟨p', dx', fs', rfl, e'⟩
theorem px0 : PostX K F H X0 E0 := fun x cls dd H' hx _ _ => hx
theorem qO8 {C : Str} {sp : Sp} {fsp : FSp} (L : Lift K sp fsp) : OpS K E1 (qSb (He.ga K C) sp E0) (qKh C fsp) := fun F M H x y a b P X Q lv ra rb h q _ => qQy (E1 := E0) L F M H x y a b P X0 Q lv ra rb h q px0
def qSg (C : Str) (fsp : FSp) : O1 := fun a P X => qHk a = some C ∧ fsp [a] P X0
def qTm (C : Str) (fsp : FSp) : OL := fun as P X => ∃ a, as = [a] ∧ qHk a = some C ∧ fsp [a] P X0
/-! ### a chain of two comparisons -/
def qQz (o o' : O2) (fa fb fc : FE) : FE := fun ρ P X => fa ρ (fun a => fb ρ (fun b => o a b (toB fun k => if k = true then fc ρ (fun c => o' b c P X) X else P (.bl false)) X) X) X
/-! ### raise -/
def qD9 (C p : Str) (fe : FE) : FS := fun FD ρ => fe ρ (fun d => FD.ex ⟨C, [(p, d)]⟩ ρ) (fun x => FD.ex x ρ)
theorem qFf {C p : Str} {te : TE} {fe : FE} (hs : Sub owx ow) (he : SE K Ta ow E te fe) : SS K Ta ow ow' owb owx E (qCx (He.ga K C) p (fun cls d σ H => E σ cls d H) (tCons te tNil)) (qD9 C p fe) := by
  intro w H σ ρ N FD e h k
  refine he w H σ ρ _ _ _ e h (fun d v H1 hd g r => ?_) (k.px e hs)
  refine ⟨v, rfl, fun a na => ?_⟩
  have e1 := e.grow g
  have g2 : Gr K w.F H1 (upd H1 a (.xd [(p, v)])) := .new na
  refine k.ex _ ρ σ _ _ _ hd ((e1.grow g2).free hs) ⟨rfl, .inr ⟨a, _, rfl, (e1.lv.ok na).1, upd_same, v, [], rfl, ?_, rfl⟩⟩
  exact Rep.goes (fun q o h nf m => ⟨h, fun z => z⟩) _ _ (Rep.goes g2.goes _ _ r)
def qPp (C : Str) : FS := fun FD ρ => FD.ex ⟨C, []⟩ ρ
/-! ### try -/
/-- of which own classes x.cls is: by names -/
abbrev qKy := List (Str × Str × Bool)
def XOk (K : PySem.W.Frag) (T : qKy) : Prop := ∀ a b k, (a, b, k) ∈ T → PySem.W.exmOne K (.ref (He.ga K a)) (.ref (He.ga K b)) = some k
/-- an expression of an except suite; the error at a, named by slot i -/
def SEH (K : PySem.W.Frag) (Ta : List (Addr × Str)) (ow : List Nat) (i : Nat) (a : Addr) (cls : Value) (dd : Option Addr) (x : Exn) (ta : TE) (fa : FE) : Prop :=
  ∀ (w : Wd) (H : Hp) (σ : L2.St) (ρ : Env) (P : D → Prop) (Q : VK), REnv K Ta w ow H σ ρ → RepX K w.F H cls dd x → σ[i]? = some (some (.ref a)) → fa ρ P X0 → Post K w.F (w.Mx ow σ) H P Q → ta σ H Q
def flat : D → Prop
  | .int _ => True
  | .str _ => True
  | .bl _ => True
  | .non => True
  | _ => False
theorem Rep.flat {M' : Addr → Prop} {d : D} {v : V} (hd : flat d) (r : Rep K F M H d v) : Rep K F M' H d v := by
  cases d <;> first | exact hd.elim | exact r
theorem qOo {f : Str} {d : D} : ∀ {fs : List (Str × D)} {gs : List (Str × V)}, RepXs K F H fs gs → fs.lookup f = some d → ∃ v, gs.lookup f = some v ∧ Rep K F (fun _ => False) H d v
  | [], _, _, h => by cases h
  | (n, e) :: r, gs, h, hl => by
    obtain ⟨v, gr, rfl, r1, r2⟩ := h
    simp only [List.lookup] at hl ⊢
    split at hl
    · cases hl; exact ⟨v, rfl, r1⟩
    · exact qOo r2 hl
def fXf (x : Exn) (C f : Str) : FE := fun ρ P _ => x.cls = C ∧ ∃ d, x.fs.lookup f = some d ∧ flat d ∧ P d
theorem qT4 {i : Nat} {a : Addr} {cls : Value} {dd : Option Addr} {x : Exn} {C f : Str} : SEH K Ta ow i a cls dd x (tXf a cls dd (He.ga K C) f (tVar i)) (fXf x C f) := by
  intro w H σ ρ P Q e r hi h q
  obtain ⟨hc, d, hd, fl, p⟩ := h
  obtain ⟨r1, r2⟩ := r
  refine ⟨_, hi, rfl, by rw [r1, hc], ?_⟩
  rcases r2 with ⟨r2, _⟩ | ⟨ad, gs, r2, r3, r4, r5⟩
  · rw [r2] at hd; cases hd
  · obtain ⟨v, h1, h2⟩ := qOo r5 hd
    exact ⟨ad, gs, v, r2, r4, h1, q _ _ _ p .refl (h2.flat fl)⟩
def qLg (T : qKy) (C : Str) (i j : Nat) (fb : FS) (fh : Exn → FE) : FS := fun FD ρ => fb { FD with ex := fun x ρ' => (x.cls, C, true) ∈ T ∧ fh x (ρ'.set i (some .exc)) (fun d => FD.nx (((ρ'.set i (some .exc)).set j (some d)).set i none)) X0 } ρ
theorem qNu {T : qKy} {C : Str} {i j : Nat} {tb : WX → TS} {te : Addr → Value → Option Addr → TE} {fb : FS} {fh : Exn → FE} (XT : XOk K T) (hi : i ∉ ow') (hj : j ∉ ow')
    (hb : ∀ W : WX, SS K Ta ow ow' owb ow' (WE W) (tb W) fb)
    (hh : ∀ (a : Addr) (cls : Value) (dd : Option Addr) (x : Exn), SEH K Ta ow' i a cls dd x (te a cls dd) (fun ρ P X => i < ρ.length ∧ fh x ρ P X)) :
    SS K Ta ow ow' owb owx E (fun D => tb (wAs K (.ref (He.ga K C)) i (fun a cls dd => tAsg (te a cls dd) (gName j)) (fun _ _ _ _ => False) D) D) (fun FD ρ => qLg T C i j fb (fun x ρ P X => i < ρ.length ∧ fh x ρ P X) FD ρ) := by
  intro w H σ ρ N FD e h k
  refine hb _ w H σ ρ N _ e h ⟨k.nx, k.rt, k.bk, k.ct, fun x ρ' σ' H1 cls dd hx e' r => ?_, k.rf⟩
  obtain ⟨hT, hx⟩ := hx
  refine ⟨true, by rw [r.1]; exact XT _ _ _ hT, fun _ a na => ?_, fun z => by cases z⟩
  have e2 := e'.put (d := .exc) (v := .ref a) hi ⟨a, rfl⟩
  have hlt : i < σ'.length := by
    have := (e2.imm i hi).len.mp hx.1
    rwa [List.length_set] at this
  refine hh a cls dd x w H1 _ _ _ _ e2 r (by rw [qAx, if_pos rfl, if_pos hlt]) hx (fun d v H2 hd g2 r2 => ?_)
  exact k.nx _ _ _ hd (((e2.grow g2).put hj r2).clr hi)
/-! ### whole defs -/
def qB7 (n : Nat) (ds : List D) : Env := ds.map some ++ List.replicate (n - ds.length) none
def qIo (P : D → Prop) (X : XP) : FEnds := ⟨fun _ => P .non, P, fun _ => False, fun _ => False, fun x _ => X x, P⟩
theorem qJx {R : D → V → Prop} : ∀ {ds : List D} {vs : List V} (k i : Nat), Reps K F M H ds vs → (∀ d v, Rep K F M H d v → R d v) → Sl R (ds.map some ++ List.replicate k none)[i]? (vs.map some ++ List.replicate k none)[i]?
  | [], vs, k, i, r, h => by
    rw [show vs = [] from r]
    simp only [List.map_nil, List.nil_append]
    rw [List.getElem?_replicate, List.getElem?_replicate]
    split
    · trivial
    · trivial
  | d :: ds, vs, k, i, r, h => by
    obtain ⟨v, us, rfl, r1, r2⟩ := r
    cases i with
    | zero => exact h d v r1
    | succ i =>
      simp only [List.map_cons, List.cons_append, List.getElem?_cons_succ]
      exact qJx k i r2 h
theorem New.rep {H0 : Hp} {d : D} {v : V} (lv : Lv K F M H0) (h : New K F M H0 H d v) : Rep K F M H d v := by
  obtain ⟨p, o, rfl, h0, hn, h1, h2⟩ := h
  have ok : Ok F M p := ⟨hn, fun m => by obtain ⟨u, z⟩ := lv.m p m; rw [h0] at z; cases z⟩
  exact RepO.rep (h2.goes fun q u hq _ m => ⟨hq, fun z => m (.inl z)⟩) ok h1
theorem qHy {names : List Str} {n : Nat} {ds : List D} {vs : List V} (lv : Lv K F M H) (r : Reps K F M H ds vs) (hn : names.length = n) : REnv K F.T ⟨F, M, H⟩ [] H (start names vs) (qB7 n ds) := by
  refine ⟨.refl, lv.m, lv.nf, fun i _ => ?_, fun i hi => (nomatch hi), fun i hi => (nomatch hi), fun f hf => ?_, lv.t, rfl⟩
  · unfold L2.start qB7
    rw [hn, r.length]
    exact qJx _ _ r fun d v h => Rep.goes (fun p o h _ m => ⟨h, fun z => m (z.elim id fun ⟨_, y, _⟩ => (nomatch y))⟩) _ _ h
  · obtain ⟨c, h1, h2⟩ := lv.f f hf
    exact ⟨c, h1, fun z => h2 (z.elim id fun ⟨_, y, _⟩ => (nomatch y))⟩
theorem qUs {names : List Str} {n : Nat} {fsp : FSp} {t : XK → TS} {fb : FS} (hn : names.length = n) (h : ∀ {Ta : List (Addr × Str)} (E : XK), SS K Ta [] [] [] [] (fun _ => E) (t E) fb) (pure : ∀ ds P X, fsp ds P X → fb (qIo P X) (qB7 n ds)) (vs : List V) (H : Hp) (Q : VK) (E : XK) (l : lift K fsp vs H Q E) :
    t E { nx := fun _ H' => Q .non H', rt := Q } (start names vs) H := by
  obtain ⟨F, M, ds, P, X, lv, r, hs, q, x⟩ := l
  refine h E ⟨F, M, H⟩ H _ _ _ _ (qHy lv r hn) (pure ds P X hs) ⟨fun ρ σ H' hp e => q _ _ _ hp e.gr rfl, fun d v H' hd g r => q d v H' hd g r, fun _ _ _ z => z.elim, fun _ _ _ z => z.elim, fun x' ρ σ H' cls dd hx e r => x x' cls dd H' hx e.gr r, fun d v H' hd g r => q d v H' hd g (New.rep lv r)⟩
theorem qEa {names : List Str} {n : Nat} {fsp : FSp} {t : TS} {fb : FS} (hn : names.length = n) (h : ∀ {Ta : List (Addr × Str)}, SS K Ta [] [] [] [] (fun _ => E0) t fb) (pure : ∀ ds P X, fsp ds P X → fb (qIo P X0) (qB7 n ds)) (vs : List V) (H : Hp) (Q : VK) (E : XK) (l : lift K fsp vs H Q E) :
    t { nx := fun _ H' => Q .non H', rt := Q } (start names vs) H := by
  obtain ⟨F, M, ds, P, X, lv, r, hs, q, x⟩ := l
  refine h ⟨F, M, H⟩ H _ _ _ _ (qHy lv r hn) (pure ds P X hs) ⟨fun ρ σ H' hp e => q _ _ _ hp e.gr rfl, fun d v H' hd g r => q d v H' hd g r, fun _ _ _ z => z.elim, fun _ _ _ z => z.elim, fun x' ρ σ H' cls dd hx e r => hx.elim, fun d v H' hd g r => q d v H' hd g (New.rep lv r)⟩
/-! ### Ratio(..) -/
theorem qIr : MkL K (CR K) (qBi K) (fun ds P X => ∃ a b : Int, ds = [.int a, .int b] ∧ b ≠ 0 ∧ Sml b ∧ P (.rat (Rat.divInt a b))) := by
  intro F M H ds vs P X Q E x dx lv r h q px nx nd ne
  obtain ⟨a, b, rfl, hb, h9, p⟩ := h
  have := Reps.ints (ns := [a, b]) r
  subst this
  refine qRa nx nd hb h9 fun H' s R => q _ _ _ p (.same s) ⟨x, rfl, lv.ok nx, R⟩
/-! ### fields of an object in the making -/
end
end MR

set_option Elab.async false
set_option linter.all false
set_option maxRecDepth 100000
set_option maxHeartbeats 4000000
/-! MR: static methods of own classes -/
namespace MR
open PySem PySem.Spec PyProof.Rows L2 He
/-- where a static method's def stands -/
def qKz (K : PySem.W.Frag) (p : Str × Option Str) : Addr := match PySem.W.recIn K (fAd K p) "staticmethod" with
  | some (.ref f :: _) => f
  | _ => 0
def qSx (K : PySem.W.Frag) (p : Str × Option Str) : FnW := match K.lookup (qKz K p) with
  | some ⟨_, _, .func fd, _⟩ => some (fd.name, fd.qualname, fd.params, fd.body, fd.scope, fd.globals, fd.closure, fd.builtins)
  | _ => none
def okS (K : PySem.W.Frag) (d : DefD) : Bool := PySem.W.keepIn K (.ref (qKz K d.at_)) && (match K.lookup (qKz K d.at_) with
  | some ⟨_, _, .func fd, _⟩ => PySem.W.codeIn K fd.code d.qual && (dflB K fd.defaults (d.dvs K) && kwdB K fd.kwdefaults (d.kws K))
  | _ => false)
theorem qTl {K : PySem.W.Frag} {d : DefD} (e : qSx K d.at_ = d.val) (c : okS K d = true) : ∃ fd, FunD K d.name d.qual d.params d.body d.scope (d.dvs K) (d.kws K) (qKz K d.at_) fd := by
  obtain ⟨kp, c2⟩ := ba c
  unfold qSx at e
  cases q : K.lookup (qKz K d.at_) with
  | none => rw [q] at c2; cases c2
  | some o =>
    obtain ⟨oc, od, dt, osl⟩ := o
    rw [q] at c2 e
    cases dt with
    | func fd =>
      obtain ⟨m1, m2, m3, m4, m5, m6, m7, m8, m9, m10, m11, m12, m13, m14, m15⟩ := fd
      have e2 : (some (m1, m2, m3, m4, m5, m6, m7, m15) : FnW) = some (d.name, d.qual, d.params, .stmts d.body, d.scope, mainGlobals, [], builtinsNs) := e
      simp only [Option.some.injEq, Prod.mk.injEq] at e2
      obtain ⟨a1, a2, a3, a4, a5, a6, a7, a8⟩ := e2
      subst a1 a2 a3 a4 a5 a6 a7 a8
      have c3 : (PySem.W.codeIn K m13 d.qual && (dflB K m8 (d.dvs K) && kwdB K m9 (d.kws K))) = true := c2
      obtain ⟨k1, k2⟩ := ba c3
      obtain ⟨k3, k4⟩ := ba k2
      exact ⟨_, ⟨oc, od, m8, m9, m10, m11, m12, m13, m14, osl, rfl, q, k1, dflB_ok k3, kwdB_ok k4⟩, kp⟩
    | _ => cases c2
abbrev AlS : Type := AlM × AlM
def qK1 (st : List DefD) (K : PySem.W.Frag) : AlM := (st.all fun d => okS K d, st.map fun d => qSx K d.at_)
def SaysST (st : List DefD) (K : PySem.W.Frag) : Prop := qK1 st K = qOd st
theorem SaysST.def_ {st : List DefD} {K : PySem.W.Frag} (c : SaysST st K) (i : Nat) {d : DefD} (h : st[i]? = some d := by rfl) : ∃ fd, FunD K d.name d.qual d.params d.body d.scope (d.dvs K) (d.kws K) (qKz K d.at_) fd := by
  have e1 : (st.all fun d => okS K d) = true := congrArg (fun z : AlM => z.1) c
  have e2 : (st.map fun d => qSx K d.at_)[i]? = (st.map DefD.val)[i]? := congrArg (fun z : AlM => z.2[i]?) c
  rw [List.getElem?_map, List.getElem?_map, h] at e2
  exact qTl (Option.some.inj e2) (List.all_eq_true.mp e1 d (List.mem_of_getElem? h))
def qUq (n : Nat) (bs : List Fct) (fn st : List DefD) (g : Addr → Option Obj) : AlS := (qUy bs fn (frU g n), qK1 st (frU g n))
def qRr (n : Nat) (bs : List Fct) (fn st : List DefD) : PySem.W.Hook where
  α := AlS
  obs := fun s => qUq n bs fn st s.heap.get?
  val := fun _ => (qOd fn, qOd st)
  says := fun _ h => ∃ K : PySem.W.Frag, K.In h ∧ SaysM bs fn K ∧ SaysST st K
  of := fun _ _ e => ⟨_, qSa, congrArg Prod.fst e, congrArg Prod.snd e⟩
  keeps := fun _ _ _ ⟨K, hK, c⟩ k => ⟨K, PySem.W.Frag.In.keeps hK k, c⟩
theorem qO5 {n : Nat} {bs : List Fct} {fn st : List DefD} {g : Addr → Option Obj} {s : Shared} (h : ∀ a, g a = s.heap.get? a) : qUq n bs fn st g = (qRr n bs fn st).obs s := by
  rw [show g = s.heap.get? from funext h]
  rfl
section
variable {α β : Type} {o : Option α} {fr : α → PySem.W.Frag}
def qN6 (o : Option α) (fr : α → PySem.W.Frag) (st : List DefD) : Prop := o.map (fun s => qK1 st (fr s)) = some (qOd st)
theorem qTi {l : α → Bool} {q : α → β} {x : β} {bs : List Fct} {fn st : List DefD} (h : o.map (fun s => (l s, q s)) = some (true, x)) (hb : qM5 o fr bs) (hd : qNg o fr fn) (hs : qN6 o fr st) : o.map (fun s => (l s, q s, (qUy bs fn (fr s), qK1 st (fr s)))) = some (true, x, (qOd fn, qOd st)) := by
  unfold qM5 qNg qN6 at *
  cases o with
  | none => cases h
  | some s =>
    have e1 := Prod.mk.inj (Option.some.inj h)
    have e2 : (bs.all fun f => f (fr s)) = true := Option.some.inj hb
    have e3 := Prod.mk.inj (Option.some.inj hd)
    have e4 := Option.some.inj hs
    show some (_, _, (((_ && _), _), _)) = some (true, x, ((true, _), _))
    rw [e1.1, e1.2, e2, e3.1, e3.2, show qK1 st (fr s) = qOd st from e4]
    rfl
end
/-! ### the call -/
structure StatC (K : PySem.W.Frag) (C : Addr) (m : Str) (f : Addr) : Prop where
  ga : PySem.W.specialIn K (.ref C) "__getattribute__" = some (some (.builtin "type.__getattribute__"))
  rd : PySem.W.readsIn K C (.type "type") = true
  fc : ∃ p rest, PySem.W.findCls K (.ref C) (.type "type") m = some (.get (.builtin "staticmethod.__get__") (.ref p) .none (.ref C)) ∧ PySem.W.recIn K p "staticmethod" = some (.ref f :: rest)
def qRx (x m : Str) : Fct := fun K => decide (PySem.W.specialIn K (.ref (ga K x)) "__getattribute__" = some (some (.builtin "type.__getattribute__"))) && (PySem.W.readsIn K (ga K x) (.type "type") &&
  ((match PySem.W.findCls K (.ref (ga K x)) (.type "type") m with
    | some (.get (.builtin g) (.ref p) .none (.ref D)) => decide (g = "staticmethod.__get__") && (decide (p = ma K (ga K x) m) && decide (D = ga K x))
    | _ => false) && (match PySem.W.recIn K (ma K (ga K x) m) "staticmethod" with
    | some (.ref _ :: _) => true
    | _ => false)))
theorem qNk {K : PySem.W.Frag} {x m : Str} (h : qRx x m K = true) : StatC K (ga K x) m (qKz K (x, some m)) := by
  obtain ⟨h1, h⟩ := ba h
  obtain ⟨h2, h⟩ := ba h
  obtain ⟨h3, h4⟩ := ba h
  refine ⟨of_decide_eq_true h1, h2, ma K (ga K x) m, ?_⟩
  have r4 : ∃ f rest, PySem.W.recIn K (ma K (ga K x) m) "staticmethod" = some (.ref f :: rest) := by
    split at h4
    · rename_i f rest e
      exact ⟨f, rest, e⟩
    · cases h4
  obtain ⟨f, rest, e4⟩ := r4
  have ef : qKz K (x, some m) = f := by
    unfold qKz
    show (match PySem.W.recIn K (ma K (ga K x) m) "staticmethod" with | some (.ref f :: _) => f | _ => 0) = f
    rw [e4]
  rw [ef]
  refine ⟨rest, ?_, e4⟩
  split at h3
  · rename_i g p D e
    obtain ⟨a1, a2⟩ := ba h3
    obtain ⟨a3, a4⟩ := ba a2
    rw [e, of_decide_eq_true a1, of_decide_eq_true a3, of_decide_eq_true a4]
  · cases h3
section
variable {X : Cx} {k : Nat} {C f : Addr} {fd : FuncData} {ps : List Str} {ds : List Value} {dvs : List V} {CX : CXT} {E : XK} {sp : Sp} {m : Str} {pos apos : Pos} {e o : Expr} {es : List Expr} {t : TA}
theorem qPl {pl : Sem Bool} (he : PE X o (tC (.ref C))) (S : StatC X.K C m f) (kp : PySem.W.keepIn X.K (.ref f) = true) (F : FnOk X.prog X.w X.K X.mg X.base CX k f fd ps sp) (hr : Room k X.A) (hb : Binds X.K fd ps ds) (hd : Vals dvs ds) (hx : Passes CX X E) (ha : PA X (e :: es) t)
    (hst : starEach (e :: es) X.env = (false, eval e X.env) :: starEach es X.env := by rfl) (hpl : (backTo pos (starEach es X.env)).any (·.1) = false := by rfl)
    (ht : eval (.Call (.Attribute o m apos) (e :: es) [] pos) X.env = (do
      let ov ← eval o X.env
      standAt apos.atName
      let (f, first) ← holding [ov] (getMethod ov m pl)
      callWith pos f first (backTo pos (starEach (e :: es) X.env)) (backToKw pos (keywordEach [] X.env))) := by rfl) :
    PE X (.Call (.Attribute o m apos) (e :: es) [] pos) (tCall sp dvs E t) := by
  refine ⟨fun pins s σ H Q I h => ?_⟩
  refine PySem.W.methodCall_KW (pl := pl) (thn (he.run pins s σ H (fun x H1 => x = .ref C ∧ tCall sp dvs E t σ H1 Q) I ⟨rfl, h⟩) fun u s1 ⟨x, H1, I1, rx, ex, q⟩ => ?_) ht
  subst ex
  obtain rfl : u = Value.ref C := rx
  obtain ⟨p, rest, fc, rc⟩ := S.fc
  refine PySem.W.method_cls I1.kIn S.ga (PySem.W.cls_bind I1.kIn S.rd fc (wpAny_call (PySem.W.sm_get (s := { s1 with toks := s1.toks + 1 }) I1.kIn rc (PySem.W.handed_on rfl ?_))))
  refine PySem.W.callWith_K (first := []) (h₀ := X.base) I.ok.mod.kin kp (thn (ha.run pos pins _ σ H1 _ (I1.tok _) q) fun us s2 ⟨vs, H2, I2, r, q2⟩ => ⟨I2.kIn, ?_⟩) hst hpl
  exact run_fn F hr hb hd hx I2 r q2
theorem qNc {E : L2.St → XK} {pl : Sem Bool} (he : PE X o (tC (.ref C))) (S : StatC X.K C m f) (kp : PySem.W.keepIn X.K (.ref f) = true) (F : FnOk X.prog X.w X.K X.mg X.base CX k f fd ps sp) (hr : Room k X.A) (hb : Binds X.K fd ps ds) (hd : Vals dvs ds) (hx : ∀ σ, PassesAt CX X σ (E σ)) (ha : PA X (e :: es) t)
    (hst : starEach (e :: es) X.env = (false, eval e X.env) :: starEach es X.env := by rfl) (hpl : (backTo pos (starEach es X.env)).any (·.1) = false := by rfl)
    (ht : eval (.Call (.Attribute o m apos) (e :: es) [] pos) X.env = (do
      let ov ← eval o X.env
      standAt apos.atName
      let (f, first) ← holding [ov] (getMethod ov m pl)
      callWith pos f first (backTo pos (starEach (e :: es) X.env)) (backToKw pos (keywordEach [] X.env))) := by rfl) :
    PE X (.Call (.Attribute o m apos) (e :: es) [] pos) (tCallSD sp dvs E t) := by
  refine ⟨fun pins s σ H Q I h => ?_⟩
  refine PySem.W.methodCall_KW (pl := pl) (thn (he.run pins s σ H (fun x H1 => x = .ref C ∧ tCallSD sp dvs E t σ H1 Q) I ⟨rfl, h⟩) fun u s1 ⟨x, H1, I1, rx, ex, q⟩ => ?_) ht
  subst ex
  obtain rfl : u = Value.ref C := rx
  obtain ⟨p, rest, fc, rc⟩ := S.fc
  refine PySem.W.method_cls I1.kIn S.ga (PySem.W.cls_bind I1.kIn S.rd fc (wpAny_call (PySem.W.sm_get (s := { s1 with toks := s1.toks + 1 }) I1.kIn rc (PySem.W.handed_on rfl ?_))))
  refine PySem.W.callWith_K (first := []) (h₀ := X.base) I.ok.mod.kin kp (thn (ha.run pos pins _ σ H1 _ (I1.tok _) q) fun us s2 ⟨vs, H2, I2, r, q2⟩ => ⟨I2.kIn, ?_⟩) hst hpl
  exact run_fnSD F hr hb hd (hx σ) I2 r q2
end
/-- a static method that may be called -/
def qLc (P : Program) (w : World) (K : PySem.W.Frag) (mg : Str → Option Value) (base : Heap) (k : Nat) (C : Addr) (m : Str) (dvs : List V) (sp : Sp) : Prop := ∃ (f : Addr) (fd : FuncData) (ps : List Str) (ds : List Value), StatC K C m f ∧ PySem.W.keepIn K (.ref f) = true ∧ FnOk P w K mg base (CXX P w) k f fd ps sp ∧ Binds K fd ps ds ∧ Vals dvs ds
section
variable {X : Cx} {k : Nat} {C : Addr} {dvs : List V} {sp : Sp} {m : Str} {pos apos : Pos} {e o : Expr} {es : List Expr} {t : TA}
theorem qMn {E : XK} {pl : Sem Bool} (D : qLc X.prog X.w X.K X.mg X.base k C m dvs sp) (he : PE X o (tC (.ref C))) (hr : Room k X.A) (hx : Passes (CXX X.prog X.w) X E) (ha : PA X (e :: es) t)
    (hst : starEach (e :: es) X.env = (false, eval e X.env) :: starEach es X.env := by rfl) (hpl : (backTo pos (starEach es X.env)).any (·.1) = false := by rfl)
    (ht : eval (.Call (.Attribute o m apos) (e :: es) [] pos) X.env = (do
      let ov ← eval o X.env
      standAt apos.atName
      let (f, first) ← holding [ov] (getMethod ov m pl)
      callWith pos f first (backTo pos (starEach (e :: es) X.env)) (backToKw pos (keywordEach [] X.env))) := by rfl) :
    PE X (.Call (.Attribute o m apos) (e :: es) [] pos) (tCall sp dvs E t) := by
  obtain ⟨f, fd, ps, ds, h1, h2, h3, h4, h5⟩ := D
  exact qPl (pl := pl) he h1 h2 h3 hr h4 h5 hx ha hst hpl ht
theorem qO6 {E : L2.St → XK} {pl : Sem Bool} (D : qLc X.prog X.w X.K X.mg X.base k C m dvs sp) (he : PE X o (tC (.ref C))) (hr : Room k X.A) (hx : ∀ σ, PassesAt (CXX X.prog X.w) X σ (E σ)) (ha : PA X (e :: es) t)
    (hst : starEach (e :: es) X.env = (false, eval e X.env) :: starEach es X.env := by rfl) (hpl : (backTo pos (starEach es X.env)).any (·.1) = false := by rfl)
    (ht : eval (.Call (.Attribute o m apos) (e :: es) [] pos) X.env = (do
      let ov ← eval o X.env
      standAt apos.atName
      let (f, first) ← holding [ov] (getMethod ov m pl)
      callWith pos f first (backTo pos (starEach (e :: es) X.env)) (backToKw pos (keywordEach [] X.env))) := by rfl) :
    PE X (.Call (.Attribute o m apos) (e :: es) [] pos) (tCallSD sp dvs E t) := by
  obtain ⟨f, fd, ps, ds, h1, h2, h3, h4, h5⟩ := D
  exact qNc (pl := pl) he h1 h2 h3 hr h4 h5 hx ha hst hpl ht
end
end MR

set_option Elab.async false
set_option linter.all false
set_option maxRecDepth 100000
set_option maxHeartbeats 4000000
set_option exponentiation.threshold 20000
/-! FL: the draws -/
namespace MR
open PySem PySem.Spec PyProof.Rows L2
def qPw (K : PySem.W.Frag) (H : Hp) (f c : Addr) : Prop := ∃ ns p b l n s, FeedAt K H f c ns p b l n s
def qMk (K : PySem.W.Frag) : Sp := fun vs H Q _ => ∃ (f : Addr) (z : Int) (c : Addr), vs = [.ref f, .int z] ∧ qPw K H f c ∧ 0 < z ∧ Sml z ∧ ∀ (d : Int) (H' : Hp), 0 ≤ d → d < z → qPw K H' f c → Keep f H H' → Q (.int d) H'
theorem qC5 {K : PySem.W.Frag} {H H0 : Hp} {f c : Addr} {ns : List Int} {p b l n s z : Int} {v2 v3 v4 : Option V} {D : L2.Ends} (F : FeedAt K H f c ns p b l n s) (hz : 0 < z) (hz9 : Sml z) (kp : Keep f H0 H)
    (k : ∀ (d : Int) (H' : Hp), 0 ≤ d → d < z → qPw K H' f c → Keep f H0 H' → D.rt (.int d) H') : qLn K D [some (.ref f), some (.int z), v2, v3, v4] H := by
  have ob := F.ob
  refine ⟨_, rfl, f, _, _, _, rfl, rfl, SqL.of ob, rfl, _, _, rfl, rfl, _, rfl, ?_⟩
  refine ite2 (fun c1 => ?_) (fun c1 => ?_)
  · refine ⟨_, rfl, f, _, _, _, rfl, rfl, SqL.of ob, rfl, .inl ⟨_, rfl, _, rfl, _, _, rfl, rfl, (by omega), ?_⟩⟩
    refine ⟨_, rfl, f, _, _, _, rfl, rfl, SqL.of ob, rfl, _, rfl, _, _, rfl, rfl, cdiv (by omega), _, rfl, f, _, _, 2, rfl, rfl, ob, rfl, ?_⟩
    refine ⟨_, rfl, ?_⟩
    have hq : 0 ≤ b.fdiv z := Int.fdiv_nonneg F.b0 (by omega)
    exact k _ _ (qEw hz).1 (qEw hz).2 ⟨ns, p, b.fdiv z, l, n, s, F.upd F.p0 hq F.l0 F.n0 F.s0⟩ (kp.trans qB0)
  · refine ⟨_, rfl, f, _, _, _, rfl, rfl, SqL.of ob, rfl, _, _, rfl, rfl, _, _, rfl, _, rfl, f, _, _, 3, rfl, rfl, ob, rfl, ?_⟩
    have hl : 0 ≤ (if l - 1 > 0 then l - 1 else 0) := by omega
    have F1 := F.upd F.p0 F.b0 hl F.n0 F.s0
    have k1 : Keep f H0 _ := kp.trans (qB0 (f := f) (H := H) (o := .lst [.ref c, .int p, .int b, .int (if l - 1 > 0 then l - 1 else 0), .int n, .int s]))
    have ob1 := F1.ob
    have m7 : ∀ x : Int, IntMulOk 7919 x := fun x => qG1 (by decide)
    have m4 : ∀ x : Int, IntMulOk x 48271 := fun x => qPt (by decide)
    refine ⟨_, rfl, f, _, _, _, rfl, rfl, SqL.of ob1, rfl, _, rfl, f, _, _, _, rfl, rfl, SqL.of ob1, rfl, _, _, rfl, rfl, m7 _, _, _, rfl, rfl, _, _, rfl, rfl, _, _, rfl, rfl, m4 _, .inl ⟨_, rfl, _, _, rfl, rfl, (by decide : (2147483647 : Int) ≠ 0), ?_⟩⟩
    have step : ∀ (y m1 m2 m3 : Int), 0 ≤ y → y < 2147483647 → 0 < m1 → 0 < m2 → 0 ≤ y.fdiv m1 + m2 ∧ IntMulOk y (y.fdiv m1 + m2) := fun y m1 m2 m3 h0 h1 h2 h3 => by
      have hq : 0 ≤ y.fdiv m1 := Int.fdiv_nonneg h0 (by omega)
      exact ⟨by omega, qG1 (by omega)⟩
    have hy2 := qEw (a := (s + 7919 * n + 1) * 48271) (z := 2147483647) (by decide)
    refine ⟨_, rfl, _, rfl, _, _, rfl, rfl, cdiv (by decide), _, _, rfl, rfl, _, _, rfl, rfl, (step _ 1009 69621 0 hy2.1 hy2.2 (by decide) (by decide)).2, .inl ⟨_, rfl, _, _, rfl, rfl, (by decide : (2147483647 : Int) ≠ 0), ?_⟩⟩
    have hu2 := qEw (a := ((s + 7919 * n + 1) * 48271).fmod 2147483647 * ((((s + 7919 * n + 1) * 48271).fmod 2147483647).fdiv 1009 + 69621)) (z := 2147483647) (by decide)
    refine ⟨_, rfl, _, rfl, _, _, rfl, rfl, cdiv (by decide), _, _, rfl, rfl, _, _, rfl, rfl, (step _ 2003 40692 0 hu2.1 hu2.2 (by decide) (by decide)).2, .inl ⟨_, rfl, _, _, rfl, rfl, (by decide : (2147483399 : Int) ≠ 0), ?_⟩⟩
    refine ⟨_, rfl, _, rfl, _, _, rfl, rfl, (by omega), ?_⟩
    exact k _ _ (qEw hz).1 (qEw hz).2 ⟨ns, _, _, _, _, _, F1⟩ k1
theorem qKc {K : PySem.W.Frag} (vs : List V) (H : Hp) (Q : VK) (E : XK) (h : qMk K vs H Q E) : qDs K { nx := fun _ H' => Q .non H', rt := Q } (start ["_law_feed_here", "_law_size_here", "_law_number_here", "_law_cell", "_law_digit"] vs) H := by
  obtain ⟨f, z, c, rfl, ⟨ns, p, b, l, n, s, F⟩, hz, hz9, k⟩ := h
  refine ⟨_, rfl, f, _, _, _, rfl, rfl, (by decide), SqL.of F.ob, rfl, _, _, rfl, rfl, f, _, _, 4, rfl, rfl, F.ob, rfl, ?_⟩
  have F1 := F.upd F.p0 F.b0 F.l0 (n' := n + 1) (by have := F.n0; omega) F.s0
  have k1 : Keep f H _ := qB0 (f := f) (H := H) (o := .lst [.ref c, .int p, .int b, .int l, .int (n + 1), .int s])
  have ob := F1.ob
  refine ⟨_, rfl, f, _, _, _, rfl, rfl, SqL.of ob, rfl, rfl, _, rfl, ?_⟩
  refine ite2 (fun _ => ?_) (fun _ => iteF (qC5 F1 hz hz9 k1 k))
  refine ⟨_, rfl, f, _, _, _, rfl, rfl, SqL.of ob, rfl, rfl, _, rfl, ?_⟩
  refine ite2 (fun _ => ?_) (fun _ => iteF (qC5 F1 hz hz9 k1 k))
  refine ⟨_, rfl, f, _, _, _, rfl, rfl, SqL.of ob, rfl, _, rfl, f, _, _, _, rfl, rfl, SqL.of ob, rfl, .ref c, (ns.map V.int).length, rfl, .inl ⟨_, F1.cs, rfl⟩, _, _, rfl, rfl, _, rfl, ?_⟩
  refine ite2 (fun c3 => ?_) (fun _ => qC5 F1 hz hz9 k1 k)
  have hlt : p < ns.length := by
    have e := of_decide_eq_true c3
    rw [List.length_map] at e
    exact e
  have p0 := F.p0
  obtain ⟨x, hx⟩ : ∃ x, ns[p.toNat]? = some x := ⟨_, List.getElem?_eq_getElem (by omega)⟩
  have hx0 : 0 ≤ x := F.nn x (List.mem_of_getElem? hx)
  have hat : atI (ns.map V.int) p = some (.int x) := by
    have e : p = ((p.toNat : Nat) : Int) := by omega
    rw [e]
    exact atI_nat (by rw [List.getElem?_map, hx]; rfl)
  refine ⟨_, rfl, f, _, _, _, rfl, rfl, SqL.of ob, rfl, _, rfl, f, _, _, _, rfl, rfl, SqL.of ob, rfl, c, _, p, _, rfl, rfl, F1.cs, hat, ?_⟩
  refine ⟨_, rfl, f, _, _, _, rfl, rfl, (by decide), SqL.of ob, rfl, _, _, rfl, rfl, f, _, _, 1, rfl, rfl, ob, rfl, ?_⟩
  have F2 := F1.upd (p' := p + 1) (by omega) F.b0 F.l0 F1.n0 F.s0
  have k2 := k1.trans (qB0 (f := f) (H := _) (o := .lst [.ref c, .int (p + 1), .int b, .int l, .int (n + 1), .int s]))
  have ob2 := F2.ob
  refine ⟨_, rfl, _, _, rfl, rfl, ⟨by decide, by decide, by decide⟩, _, _, rfl, rfl, _, rfl, ?_⟩
  refine ite2 (fun _ => ?_) (fun _ => ?_)
  · refine ⟨_, rfl, _, rfl, f, _, _, 2, rfl, rfl, ob2, rfl, ?_⟩
    exact qC5 (F2.upd F2.p0 hx0 F.l0 F1.n0 F.s0) hz hz9 (k2.trans qB0) k
  · refine ⟨_, rfl, f, _, _, 3, rfl, rfl, ob2, rfl, ?_⟩
    have F3 := F2.upd F2.p0 F.b0 (l' := 7) (by decide) F1.n0 F.s0
    refine ⟨_, rfl, f, _, _, _, rfl, rfl, SqL.of F3.ob, rfl, _, rfl, _, _, rfl, rfl, _, rfl, f, _, _, 5, rfl, rfl, F3.ob, rfl, ?_⟩
    exact qC5 (F3.upd F2.p0 F.b0 F3.l0 F1.n0 (s' := s + x) (by have := F.s0; omega)) hz hz9 ((k2.trans qB0).trans qB0) k
/-- _law_take(feed, size) -/
def qB4 : FSp := fun ds P _ => ∃ z : Int, ds = [.feed, .int z] ∧ 0 < z ∧ Sml z ∧ ∀ d : Int, 0 ≤ d → d < z → P (.int d)
theorem qLw {K : PySem.W.Frag} : Lift K (qMk K) qB4 := by
  intro vs H Q E h
  obtain ⟨F, M, ds, P, X, lv, r, ⟨z, rfl, hz, h9, hp⟩, q, x⟩ := h
  obtain ⟨v, u, rfl, r1, r2⟩ := qRg r
  obtain ⟨f, hf, rfl⟩ := r1
  obtain ⟨c, ⟨ns, a1, a2, a3, a4, a5, o, G, e⟩, hc⟩ := lv.f f hf
  refine ⟨f, z, c, by rw [show u = .int z from r2], ⟨ns, a1, a2, a3, a4, a5, G⟩, hz, h9, fun d H' d0 d1 X' kp => q _ _ _ (hp d d0 d1) ⟨fun b o h n => kp b o h (fun y => n.1 (by rw [y]; exact hf)), fun f' c' hf' h' => ?_, fun t => qF0 t fun b o h n => kp b o h (fun y => n (by rw [y, G.ob] at h; cases h; trivial))⟩ rfl⟩
  have ef : f' = f := by rw [hf] at hf'; cases hf'; rfl
  subst ef
  have hcc : c' = c := qJs h' ⟨ns, a1, a2, a3, a4, a5, o, G, e⟩
  subst hcc
  obtain ⟨ns', b1, b2, b3, b4, b5, G'⟩ := X'
  exact ⟨ns', b1, b2, b3, b4, b5, o, G', kp _ _ e G.ne⟩
theorem qFp {K : PySem.W.Frag} (vs : List V) (H : Hp) (Q : VK) (E : XK) (h : lift K qB4 vs H Q E) : qDs K { nx := fun _ H' => Q .non H', rt := Q } (start ["_law_feed_here", "_law_size_here", "_law_number_here", "_law_cell", "_law_digit"] vs) H := qKc vs H Q E (qLw vs H Q E h)
def qEv (K : PySem.W.Frag) : Sp := fun vs H Q _ => ∃ (a : Addr) (ns : List Int), vs = [.ref a] ∧ SqL K H a (ns.map V.int) ∧ ns.length ≤ 63 ∧ ∀ (f : Addr) (H' : Hp), H f = none → Same H H' → (∃ c, FeedC K H' f c) → Q (.ref f) H'
theorem qKi {K : PySem.W.Frag} (vs : List V) (H : Hp) (Q : VK) (E : XK) (h : qEv K vs H Q E) : qFz K { nx := fun _ H' => Q .non H', rt := Q } (start ["_law_script", "_law_cell"] vs) H := by
  obtain ⟨a, ns, rfl, hS, hl, k⟩ := h
  refine ⟨_, rfl, _, rfl, a, _, rfl, hS, fun p0 np => ?_⟩
  obtain ⟨ms, em, hm⟩ := qNi ns none (some 63)
  rw [em]
  have s0 : Same H (upd H p0 (.lst (ms.map V.int))) := qG0 np
  refine ⟨p0, rfl, ⟨_, SqL.of upd_same⟩, fun D hD => ?_⟩
  have nD : H D = none := s0.free hD
  have ne : D ≠ p0 := fun e => by rw [e, upd_same] at hD; cases hD
  refine lc_list (K := K) (a := p0) (xs := ms.map V.int) (fun i H' => Same H H' ∧ H' p0 = some (.lst (ms.map V.int)) ∧ H' D = some (.lst ((ms.take i).map fun z => V.int (z.natAbs : Nat))))
    ⟨fun b o e => ?_, ?_, upd_same⟩ (fun i H' _ q => SqL.of q.2.1) ?_ ?_
  · rw [upd_ne (ne_of_none e nD)]
    exact s0 b o e
  · rw [upd_ne (Ne.symm ne), upd_same]
  · rintro i x H' hx ⟨s1, q1, q2⟩
    obtain ⟨z, hz, rfl⟩ := qQr hx
    have hi : i < ms.length := (List.getElem?_eq_some_iff.mp hz).1
    refine ⟨rfl, _, rfl, .inl ⟨_, rfl, _, rfl, _, q2, ?_, ?_, ?_, ?_⟩⟩
    · rw [List.length_map, List.length_take]
      exact small1000 (by omega)
    · intro b o e
      rw [upd_ne (ne_of_none e nD)]
      exact s1 b o e
    · rw [upd_ne (Ne.symm ne)]
      exact q1
    · rw [upd_same, qGx hz, List.map_append, qJq]
      rfl
  · rintro H' ⟨s1, q1, q2⟩
    rw [List.length_map, List.take_length] at q2
    refine ⟨(by show 6 ≤ sizeLine; decide), fun f nf => ?_⟩
    have s2 : Same H' _ := qG0 (o := .lst [.ref D, .int 0, .int 0, .int 0, .int 0, .int 0]) nf
    refine k f _ (s1.free nf) (s1.trans s2) ⟨D, ms.map (fun z => ((z.natAbs : Nat) : Int)), 0, 0, 0, 0, 0, _, ⟨upd_same, ?_, ne_of_none q2 nf, ?_, by decide, by decide, by decide, by decide, by decide⟩, s2 _ _ q2⟩
    · rw [List.map_map]
      exact SqL.of (s2 _ _ q2)
    · intro x hx
      obtain ⟨z, _, rfl⟩ := List.mem_map.mp hx
      omega
def qM3 (K : PySem.W.Frag) : Sp := fun vs H Q _ => ∃ (a : Addr) (ns : List Int), vs = [.ref a] ∧ SqL K H a (ns.map V.int) ∧ ns.length ≤ 63 ∧ ∀ H', Q (.bl true) H'
def yes : D → Prop := fun d => d = .bl true
/-- .. with tables of code objects -/
def qSu (K : PySem.W.Frag) (T : List (Addr × Str)) : Sp := fun vs H Q _ => ∃ (a : Addr) (ns : List Int), vs = [.ref a] ∧ SqL K H a (ns.map V.int) ∧ ns.length ≤ 63 ∧ LamX.Tabs T H ∧ ∀ H', Q (.bl true) H'
theorem qO7 {K : PySem.W.Frag} {T : List (Addr × Str)} {names : List Str} {n : Nat} {t : TS} {f : FS} (hn : names.length = n + 2) (hs : SS K T [] [] [] [] (fun _ => E0) t f) (hp : f (qIo yes X0) (some .exc :: some .feed :: List.replicate n none)) (vs : List V) (H : Hp) (Q : VK) (E : XK) (h : qSu K T vs H Q E) :
    tSeq (tAsg (tCall (qEv K) [] E0 (tCons (tVar 0) tNil)) (gName 1)) t { nx := fun _ H' => Q .non H', rt := Q } (start names vs) H := by
  obtain ⟨a, ns, rfl, hS, hl, ht, q⟩ := h
  have es : L2.start names [.ref a] = some (.ref a) :: none :: List.replicate n none := by
    unfold L2.start
    rw [hn]
    show some (V.ref a) :: List.replicate (n + 1) none = _
    rw [List.replicate_succ]
  rw [es]
  refine ⟨_, rfl, a, ns, rfl, hS, hl, fun fa H' nf sm ⟨c, hc⟩ => ?_⟩
  have ht' : LamX.Tabs T H' := ht.ext sm
  have lv : Lv K ⟨some fa, T⟩ (fun _ => False) H' := ⟨fun _ z => z.elim, fun f' hf => by cases hf; exact ⟨c, hc, fun z => z⟩, fun _ z => z.elim, ht'⟩
  refine hs ⟨⟨some fa, T⟩, fun _ => False, H'⟩ H' _ _ _ _ ?_ hp ⟨fun ρ σ H2 hx e => ?_, fun d v H2 hd g r => ?_, fun _ _ _ z => z.elim, fun _ _ _ z => z.elim, fun _ _ _ _ _ _ z => z.elim, fun d v H2 hd _ r => ?_⟩
  · refine ⟨.refl, lv.m, lv.nf, fun i _ => ?_, fun i hi => (nomatch hi), fun i hi => (nomatch hi), fun f' hf => ?_, ht', rfl⟩
    · show Sl _ (some D.exc :: some D.feed :: List.replicate n none)[i]? (some (V.ref a) :: some (V.ref fa) :: List.replicate n none)[i]?
      match i with
      | 0 => exact ⟨a, rfl⟩
      | 1 => exact ⟨fa, rfl, rfl⟩
      | i + 2 =>
        simp only [List.getElem?_cons_succ]
        rw [List.getElem?_replicate, List.getElem?_replicate]
        split <;> trivial
    · cases hf
      exact ⟨c, hc, fun z => z.elim id fun ⟨_, y, _⟩ => (nomatch y)⟩
  · cases hx
  · cases hd
    rw [show v = .bl true from r]
    exact q H2
  · cases hd
    obtain ⟨_, _, _, _, _, _, r⟩ := r
    exact r.elim
theorem qRk {K : PySem.W.Frag} {names : List Str} {n : Nat} {t : TS} {f : FS} (hn : names.length = n + 2) (hs : SS K [] [] [] [] [] (fun _ => E0) t f) (hp : f (qIo yes X0) (some .exc :: some .feed :: List.replicate n none)) (vs : List V) (H : Hp) (Q : VK) (E : XK) (h : qM3 K vs H Q E) :
    tSeq (tAsg (tCall (qEv K) [] E0 (tCons (tVar 0) tNil)) (gName 1)) t { nx := fun _ H' => Q .non H', rt := Q } (start names vs) H := by
  obtain ⟨a, ns, rfl, hS, hl, q⟩ := h
  exact qO7 (T := []) hn hs hp _ _ _ E ⟨a, ns, rfl, hS, hl, (fun _ z => nomatch z), q⟩
end MR

set_option Elab.async false
set_option linter.all false
set_option maxRecDepth 100000
set_option maxHeartbeats 4000000
set_option exponentiation.threshold 20000
/-! FL: further rules -/
namespace MR
open PySem PySem.Spec PyProof.Rows L2
def fBr (ow : List Nat) (fa : FE) : FE := fun ρ P X => qUu ow ρ ∧ qU8 fa ρ P X
def qVb (i : Nat) (fe : FE) : FS := fun FD ρ => i < ρ.length ∧ qDz i fe FD ρ
def qHh : O2 := fun a b P X => (∃ ds, a = .lst ds) ∧ oIx a b P X
def qVv : O2 := fun a b P X => (∃ ds, a = .tup ds) ∧ oIx a b P X
def qJw (C : Str) : List Str :=
  if C = "Ratio" then ["top", "bottom"] else if C = "Poly" then ["coefficients", "degree", "lead"] else if C = "Place" then ["low", "high"] else if C = "Lot" then ["poly", "begin", "count"] else if C = "Bar" then ["factor", "base", "other"] else []
structure KF (K : PySem.W.Frag) (cs : List Str) : Prop extends KT K cs where
  fld : ∀ C, C ∈ cs → ∀ f, f ∈ qJw C → FldOk K C f
section
variable {K : PySem.W.Frag} {w : Wd} {ow ow' ow1 owb owx : List Nat} {H H' : Hp} {σ : L2.St} {ρ : Env} {E : L2.St → XK} {E1 : XK} {N : L2.Ends} {FD : FEnds} {F : Fd} {M : Addr → Prop}
def qUx (fe : FE) (g : FG) : FS := fun FD ρ => fe ρ (fun d => g d ρ FD.nx) (fun x => FD.ex x ρ)
theorem qSr {te : TE} {fe : FE} {g : TG} {g' : FG} {sl : List Nat} (hs : Sub owx ow) (he : SE K Ta ow E te fe) (hg : SG K Ta ow sl g g') : SS K Ta ow ow owb owx E (tAsg te g) (qUx fe g') := by
  intro w H σ ρ N FD e h k
  exact he w H σ ρ _ _ _ e h (fun d v H' hd g r => hg w H' σ ρ d v _ _ (e.grow g) r hd fun ρ' σ' h' e' _ _ => k.nx _ _ _ h' e') (k.px e hs)
def qVz (i : Nat) (g : Int → Int → Int) (fe : FE) : FS := fun FD ρ => ∃ a, ρ[i]? = some (some (.int a)) ∧ fe ρ (fun d => ∃ b, d = .int b ∧ FD.nx (ρ.set i (some (.int (g a b))))) (fun x => FD.ex x ρ)
def qV3 : O2 := fun a b P _ => match a, b with
  | .bl i, .bl j => P (.bl (decide (i = j)))
  | _, _ => False
def qTc : O2 := fun a b P _ => match a, b with
  | .bl i, .bl j => P (.bl (!decide (i = j)))
  | _, _ => False
def qB3 : O2 := fun a b P _ => match a, b with
  | .str i, .str j => i.length + j.length ≤ sizeLine ∧ P (.str (i ++ j))
  | _, _ => False
theorem qA1 : OpS K E1 qBt qB3 := by
  intro F M H x y a b P X Q lv ra rb h q x'
  cases a <;> cases b <;> first | exact h.elim | skip
  exact ⟨_, _, ra, rb, h.1, q _ _ _ h.2 .refl rfl⟩
/-! ### except suites -/
section
variable {i : Nat} {a : Addr} {cls : Value} {dd : Option Addr} {x : Exn}
def qUw (i : Nat) (fe : FE) : FE := fun ρ P X => i < ρ.length ∧ fe ρ P X
theorem SEH.len {ta : TE} {fa : FE} (h : SEH K Ta ow i a cls dd x ta fa) : SEH K Ta ow i a cls dd x ta (qUw i fa) := fun w H σ ρ P Q e r hi hf q => h w H σ ρ P Q e r hi hf.2 q
theorem RepXs.gr (g : Gr K F H H') : ∀ {fs : List (Str × D)} {gs : List (Str × V)}, RepXs K F H fs gs → RepXs K F H' fs gs
  | [], _, h => h
  | (n, d) :: r, _, h => by
    obtain ⟨v, gr, rfl, r1, r2⟩ := h
    exact ⟨v, gr, rfl, Rep.goes g.goes _ _ r1, RepXs.gr g r2⟩
theorem RepX.gr (g : Gr K F H H') (h : RepX K F H cls dd x) : RepX K F H' cls dd x := by
  refine ⟨h.1, ?_⟩
  rcases h.2 with h | ⟨ad, gs, h1, h2, h3, h4⟩
  · exact .inl h
  · exact .inr ⟨ad, gs, h1, h2, g.old _ _ h3 h2, h4.gr g⟩
/-- isinstance(e, C): the table, by names -/
def IOk (K : PySem.W.Frag) (T : qKy) : Prop := ∀ c b k, (c, b, k) ∈ T → ExcC K (He.ga K c) ∧ PySem.W.kitOne K (.ref (He.ga K c)) (.ref (He.ga K b)) = some k
end
end
end MR

set_option Elab.async false
set_option linter.all false
set_option maxRecDepth 100000
set_option maxHeartbeats 4000000
/-! MR: calls with keywords -/
namespace MR
open PySem PySem.Spec PyProof.Rows L2
section
variable {X : Cx} {k n : Nat} {sp : Sp} {E : XK} {x : Str} {p pos : Pos} {e : Expr} {es : List Expr} {kws : List Keyword} {t tk : TA} {ks : List Str} {gV : List V → List V → List V}
end
section
variable {K : PySem.W.Frag} {ow : List Nat} {E : L2.St → XK} {E1 : XK}
end
theorem qBo {K : PySem.W.Frag} {fsp : FSp} {n : Nat} (h : ∀ ds P X, fsp ds P X → ds.length = n) {vs : List V} {H : Hp} {Q : VK} {E : XK} (l : lift K fsp vs H Q E) : vs.length = n := by
  obtain ⟨F, M, ds, P, X, lv, r, hs, _⟩ := l
  rw [r.length]
  exact h ds P X hs
end MR

set_option Elab.async false
set_option linter.all false
set_option maxRecDepth 100000
set_option maxHeartbeats 4000000
/-! FL: facts of the head -/
namespace MR
open PySem PySem.Spec PyProof.Rows L2 He
def ktF (cs : List Str) : Fct := fun K => cs.all fun C => qVd C K && ((["int", "bool", "str", "list", "tuple"].all fun n => qHc (PySem.W.kitOne K (.ref (ga K C)) (.type n)) false) && ((["NoneType", "int", "bool", "str", "list", "tuple", "dict"].all fun n => qHc (PySem.W.kitOne K (.type n) (.ref (ga K C))) false) &&
  ((cs.all fun C' => qHc (PySem.W.kitOne K (.ref (ga K C)) (.ref (ga K C'))) (decide (C = C'))) && (qJw C).all fun f => (Fa.noat C f).ok K)))
theorem qR7 {K : PySem.W.Frag} {cs : List Str} (h : ktF cs K = true) : KF K cs := by
  have h := List.all_eq_true.mp h
  refine ⟨⟨fun C hC => ?_, fun C hC n hn => ?_, fun C hC n hn => ?_, fun C hC C' hC' => ?_⟩, fun C hC f hf => ?_⟩ <;> obtain ⟨h1, h2⟩ := ba (h C hC) <;> obtain ⟨h2, h3⟩ := ba h2 <;> obtain ⟨h3, h4⟩ := ba h3 <;> obtain ⟨h4, h5⟩ := ba h4
  · exact qMj h1
  · exact qBa (List.all_eq_true.mp h2 n hn)
  · exact qBa (List.all_eq_true.mp h3 n hn)
  · exact qBa (List.all_eq_true.mp h4 C' hC')
  · exact ⟨(qMj h1).cl, noat_ok (List.all_eq_true.mp h5 f hf)⟩
def xoF (T : qKy) : Fct := fun K => T.all fun t => qHc (PySem.W.exmOne K (.ref (ga K t.1)) (.ref (ga K t.2.1))) t.2.2
theorem qRm {K : PySem.W.Frag} {T : qKy} (h : xoF T K = true) : XOk K T := fun a b k hm => qBa (List.all_eq_true.mp h (a, b, k) hm)
def ioF (T : qKy) : Fct := fun K => T.all fun t => qVh t.1 K && qHc (PySem.W.kitOne K (.ref (ga K t.1)) (.ref (ga K t.2.1))) t.2.2
theorem qRy {K : PySem.W.Frag} {T : qKy} (h : ioF T K = true) : IOk K T := fun a b k hm => by
  obtain ⟨h1, h2⟩ := ba (List.all_eq_true.mp h (a, b, k) hm)
  exact ⟨qPd h1, qBa h2⟩
abbrev bmV : List Value := [.type "ValueError", .type "Exception", .type "BaseException", .type "object"]
/-- an error class without an __init__ of its own -/
structure Ex0 (K : PySem.W.Frag) (C : Addr) : Prop where
  xin : PySem.W.excIn K C bmV "ValueError.__new__" = true
  kp : PySem.W.keepIn K (.ref C) = true
  bs : PySem.W.subIn K (.ref C) (.type "BaseException") = some true
  ty : PySem.W.typeIn K (.ref C) = some (.type "type")
end MR

set_option Elab.async false
set_option linter.all false
set_option maxRecDepth 100000
set_option maxHeartbeats 4000000
/-! MR: a call of an instance whose class has a __call__ -/
namespace MR
open PySem PySem.Spec PyProof.Rows L2
section
open PySem.W PySem.Calls
variable {M : Model} {A : Around} {E : Value → Shared → Prop} {s : Shared} {K : Frag} {env : PySem.Env} {pos : Pos} {x C : Addr} {first : List Value} {Q : Value → Shared → Prop}
end
section
variable {X : Cx} {k : Nat} {C : Addr} {sp : Sp} {E : XK} {pos : Pos} {fe e : Expr} {es : List Expr} {tf : TE} {t : TA}
end
end MR

set_option Elab.async false
set_option linter.all false
set_option maxRecDepth 100000
set_option maxHeartbeats 4000000
/-! MR: operators between instances of two own classes -/
namespace MR
open PySem PySem.Spec PyProof.Rows L2
section
open PySem.W
variable {prog : Program} {w : World} {A : Around} {E : Value → Shared → Prop} {s : Shared} {K : Frag} {x y C C2 L f g : Addr} {h₀ : Heap} {m : Str → Option Value} {ox oy : Obj} {od od2 : Option Obj}
end
/-- what the written part says of two classes and an operator -/
structure Op2C (K : PySem.W.Frag) (C C2 : Addr) (nm : String) : Prop where
  ne : C ≠ C2
  sf : PySem.W.selfFirst K C = true
  sf2 : PySem.W.selfFirst K C2 = true
  sub : PySem.W.subIn K (.ref C2) (.ref C) = some false
  rc : ∃ rc, PySem.W.findIn K (.ref C) (dunderR nm) = some rc ∧ (rc = none ∨ ∃ g : Addr, rc = some (.ref g))
  s2 : ∃ g : Addr, PySem.W.findIn K (.ref C2) (PySem.dunder nm) = some (some (.ref g))
  rc2 : ∃ rc, PySem.W.findIn K (.ref C2) (dunderR nm) = some rc ∧ (rc = none ∨ ∃ g : Addr, rc = some (.ref g))
open He in
open He in
section
variable {X : Cx} {k : Nat} {C C2 : Addr} {sp : Sp} {E : XK}
end
end MR

set_option Elab.async false
set_option linter.all false
set_option maxRecDepth 100000
set_option maxHeartbeats 4000000
/-! MR: an operator that declines, and the other side's reflected one -/
namespace MR
open PySem PySem.Spec PyProof.Rows L2
/-- the end of a call that hands back NotImplemented -/
def CEN (outer : List PySem.Env) (P : Program) (w : World) (H : Hp) (s : Shared) (Q : VK) (u : Value) (s' : Shared) : Prop :=
  ∃ H', s'.os = s.os ∧ AllBare s'.gens ∧ Un (frs outer) [] H H' s.heap s'.heap ∧ HOk P w H' s'.heap ∧ u = .notImplemented ∧ Q .non H'
def CRN (CX : CXT) (outer : List PySem.Env) (P : Program) (w : World) (H : Hp) (s : Shared) (Q : VK) (E : XK) (r : Result) (s' : Shared) : Prop :=
  match r with
  | .ok (.ret u) => CEN outer P w H s Q u s'
  | .ok _ => False
  | .error e => CX outer H s E e s'
structure NiOk (P : Program) (w : World) (K : PySem.W.Frag) (mg : Str → Option Value) (base : Heap) (CX : CXT) (k : Nat) (f : Addr) (fd : FuncData) (ps : List Str) (sp : Sp) : Prop where
  len : ∀ vs H Q E, sp vs H Q E → vs.length = ps.length
  run : ∀ (A : Around) (outer : List PySem.Env) (s : Shared) (H : Hp) (args : Args) (us : List Value) (vs : List V) (Q : VK) (E : XK), Room k A → Env0 P w K mg base A outer s H → BindsTo s fd args (ps.zip us) → Vals vs us → sp vs H Q E →
    codeAny (model P w) A (.call (.ref f) args) (CRN CX outer P w H s Q E) s
section
variable {X : Cx} {CX : CXT} {k : Nat} {f C C2 : Addr} {fd : FuncData} {ps : List Str} {sp sp2 : Sp} {E : XK}
end
section
open PySem.W
variable {prog : Program} {w : World} {A : Around} {E : Value → Shared → Prop} {s : Shared} {K : Frag} {x y C C2 L f g f2 : Addr} {h₀ : Heap} {m : Str → Option Value} {ox oy : Obj} {od od2 : Option Obj}
end
section
variable {X : Cx} {k : Nat} {C C2 : Addr} {sp sp2 : Sp} {E : XK}
end
end MR

set_option Elab.async false
set_option linter.all false
set_option maxRecDepth 100000
set_option maxHeartbeats 4000000
/-! MR: x in y by an own class; == of what may be None -/
namespace MR
open PySem PySem.Spec PyProof.Rows L2
section
variable {X : Cx} {k k2 : Nat} {C : Addr} {sp spN : Sp} {E : XK}
end
/-- the class and NoneType are strangers -/
structure NonC (K : PySem.W.Frag) (C : Addr) : Prop where
  sub : PySem.W.subIn K (.type "NoneType") (.ref C) = some false
  subR : PySem.W.subIn K (.ref C) (.type "NoneType") = some false
open He in
open He in
section
open PySem.W
variable {prog : Program} {w : World} {A : Around} {E : Value → Shared → Prop} {s : Shared} {K : Frag} {x C dx f : Addr} {od : Option Obj}
end
section
variable {X : Cx} {k k2 : Nat} {C : Addr} {sp spN : Sp}
end
end MR

set_option Elab.async false
set_option linter.all false
set_option maxRecDepth 100000
set_option maxHeartbeats 4000000
/-! MR: != of two instances of an own class that has __eq__ and no __ne__ -/
namespace MR
open PySem PySem.Spec PyProof.Rows L2
structure NeC (K : PySem.W.Frag) (C : Addr) : Prop where
  ne : PySem.W.findIn K (.ref C) "__ne__" = some (some (.builtin "object.__ne__"))
  ob : PySem.W.mroIn K C (.type "object") = some true
open He in
open He in
section
open PySem.W
variable {M : Model} {prog : Program} {w : World} {A : Around} {E : Value → Shared → Prop} {s : Shared} {K : Frag} {x y C f : Addr} {ox oy : Obj} {od od2 : Option Obj}
end
section
variable {X : Cx} {CX : CXT} {k : Nat} {C f : Addr} {fd : FuncData} {ps : List Str} {sp : Sp} {E : XK}
end
end MR

set_option Elab.async false
set_option linter.all false
set_option maxRecDepth 100000
set_option maxHeartbeats 4000000
/-! MR: a // b of numbers of any size -/
namespace MR
open PySem PySem.Spec PyProof.Rows L2
/-- nothing watches how _pylong is taken in -/
structure SeeC (K : PySem.W.Frag) : Prop where
  st : PySem.W.nsOkIn K cStatics = true
  st1 : PySem.W.nsIn K cStatics "sys.audit-hooks" = some none
  st2 : PySem.W.nsIn K cStatics "sys.dict" = some none
  sm : PySem.W.nsOkIn K sysModules = true
  sm1 : PySem.W.nsIn K sysModules "_pylong" = some none
  mn : ∃ bm ob, PySem.W.nsIn K mainGlobals "__builtins__" = some (some (.ref bm)) ∧ K.lookup bm = some ob ∧ ob.cls = .type "module" ∧ ob.dict = some builtinsNs
def qTd (K : PySem.W.Frag) : Bool := match PySem.W.nsIn K mainGlobals "__builtins__" with
  | some (some (.ref bm)) => (match K.lookup bm with
    | some ob => decide (ob.cls = .type "module") && decide (ob.dict = some builtinsNs)
    | none => false)
  | _ => false
open He in
def qU6 : Fct := fun K => PySem.W.nsOkIn K cStatics && (decide (PySem.W.nsIn K cStatics "sys.audit-hooks" = some none) && (decide (PySem.W.nsIn K cStatics "sys.dict" = some none) && (PySem.W.nsOkIn K sysModules && (decide (PySem.W.nsIn K sysModules "_pylong" = some none) && qTd K))))
theorem qO2 {K : PySem.W.Frag} (h : qTd K = true) : ∃ bm ob, PySem.W.nsIn K mainGlobals "__builtins__" = some (some (.ref bm)) ∧ K.lookup bm = some ob ∧ ob.cls = .type "module" ∧ ob.dict = some builtinsNs := by
  unfold qTd at h
  split at h
  · rename_i bm e
    split at h
    · rename_i ob e2
      obtain ⟨h1, h2⟩ := Bool.and_eq_true_iff.mp h
      exact ⟨bm, ob, e, e2, of_decide_eq_true h1, of_decide_eq_true h2⟩
    · cases h
  · cases h
open He in
theorem qQa {K : PySem.W.Frag} (h : qU6 K = true) : SeeC K := by
  obtain ⟨h1, h⟩ := Bool.and_eq_true_iff.mp h
  obtain ⟨h2, h⟩ := Bool.and_eq_true_iff.mp h
  obtain ⟨h3, h⟩ := Bool.and_eq_true_iff.mp h
  obtain ⟨h4, h⟩ := Bool.and_eq_true_iff.mp h
  obtain ⟨h5, h⟩ := Bool.and_eq_true_iff.mp h
  exact ⟨h1, of_decide_eq_true h2, of_decide_eq_true h3, h4, of_decide_eq_true h5, qO2 h⟩
theorem SeeC.base {K : PySem.W.Frag} {mg : Str → Option Value} {base : Heap} (S : SeeC K) (M : Mod K mg base) : base.NoSeer where
  statics := ⟨_, .of_isNs (PySem.W.isNs_of_in M.kin S.st), PySem.W.nsMap_none_of_in M.kin S.st S.st1, PySem.W.nsMap_none_of_in M.kin S.st S.st2⟩
  mods := ⟨_, .of_isNs (PySem.W.isNs_of_in M.kin S.sm), PySem.W.nsMap_none_of_in M.kin S.sm S.sm1⟩
  imp := M.blt
  main := by
    obtain ⟨bm, ob, h1, h2, h3, h4⟩ := S.mn
    exact ⟨mg, bm, ob, M.glob, PySem.W.mg_of M.kin M.glob h1, M.kin _ _ h2, h3, h4⟩
section
variable {X : Cx}
theorem qNf (S : SeeC X.K) (ht : X.prog.given.tree = none) (hr : Room 32 X.A) {e : PySem.Env} {l : List PySem.Env} (hk : X.stack = e :: l) (hg : e.scope.isGenerator = false) (hc : e.scope.isCoroutine = false) (hb : e.builtins = builtinsNs) (hgl : e.globals = mainGlobals) {pins : List (Addr × Obj)} {σ : L2.St} {H : Hp} {s : Shared} (I : Inv X pins σ H s) : PylongRoom (model X.prog X.w) X.A s :=
  PylongRoom.of I.nolimit (by have := hr.dp; show X.A.depth + 100 < _; omega) (SeerAt.of ((S.base I.ok.mod).keeps I.bk) ht (by rw [I.ok.frames, hk]) hg hc hb hgl)
/-- i // j of any size -/
theorem qCp (S : SeeC X.K) (ht : X.prog.given.tree = none) (hr : Room 32 X.A) {e : PySem.Env} {l : List PySem.Env} (hk : X.stack = e :: l := by rfl) (hg : e.scope.isGenerator = false := by rfl) (hc : e.scope.isCoroutine = false := by rfl) (hb : e.builtins = builtinsNs := by rfl) (hgl : e.globals = mainGlobals := by rfl) : OpR X (binaryOp .FloorDiv) (rI qNs fun i j => .int (i.fdiv j)) := by
  intro pins s σ H x y v u Q I rx ry h
  obtain ⟨i, j, rfl, rfl, hj, q⟩ := h
  obtain ⟨t, rfl⟩ := rx
  obtain ⟨t', rfl⟩ := ry
  exact floordiv_int hj ⟨.int _, H, I.tok _, ⟨_, rfl⟩, q⟩ (.inr (qNf S ht hr hk hg hc hb hgl I))
end
end MR

set_option Elab.async false
set_option linter.all false
set_option maxRecDepth 100000
set_option maxHeartbeats 4000000
set_option exponentiation.threshold 20000
namespace MR
open PySem PySem.Spec PyProof.Rows L2
def top (i : Nat) : Stmt := PySem.Challenge.pw_momentrows_k05_ratio_texts.main.body.getD i (.Pass ⟨0, 0, 0, 0⟩)
abbrev qAt : Stmt := top 6
abbrev qAm : Stmt := top 7
abbrev qAr : Stmt := inClass (top 8) 0
abbrev qA5 : Stmt := inClass (top 8) 1
abbrev qA4 : Stmt := top 9
abbrev qAq : Stmt := inClass (top 8) 23
abbrev qAu : Stmt := inClass (top 8) 22
abbrev qAg : Stmt := top 14
abbrev qAv : Stmt := top 15
abbrev qAz : Stmt := top 16
abbrev qAl : Stmt := top 17
abbrev qA8 : Stmt := top 19
abbrev qAy : Stmt := top 20
abbrev qAs : Stmt := top 21
abbrev qAp : Stmt := top 22
abbrev qDm : Stmt := top 23
def qEg : He.DefD := ⟨("is_integer", none), "is_integer", "is_integer", defArgs qAt, defBody qAt, defScope qAt, [], []⟩
def qDo : He.DefD := ⟨("common_part", none), "common_part", "common_part", defArgs qAm, defBody qAm, defScope qAm, [], []⟩
def qEe : He.DefD := ⟨("Ratio", some "__init__"), "__init__", "Ratio.__init__", defArgs qAr, defBody qAr, defScope qAr, [.int 1], []⟩
def qF3 : He.DefD := ⟨("Ratio", some "__eq__"), "__eq__", "Ratio.__eq__", defArgs qA5, defBody qA5, defScope qA5, [], []⟩
def qFq : He.DefD := ⟨("is_plain", none), "is_plain", "is_plain", defArgs qA4, defBody qA4, defScope qA4, [], []⟩
def qD5 : He.DefD := ⟨("Ratio", some "read"), "read", "Ratio.read", defArgs qAq, defBody qAq, defScope qAq, [], []⟩
def qEh : He.DefD := ⟨("Ratio", some "text"), "text", "Ratio.text", defArgs qAu, defBody qAu, defScope qAu, [], []⟩
def qCa : He.DefD := ⟨("_law_is_integer", none), "_law_is_integer", "_law_is_integer", defArgs qAg, defBody qAg, defScope qAg, [], []⟩
def qE0 : He.DefD := ⟨("_law_feed", none), "_law_feed", "_law_feed", defArgs qAv, defBody qAv, defScope qAv, [], []⟩
def qE3 : He.DefD := ⟨("_law_take", none), "_law_take", "_law_take", defArgs qAz, defBody qAz, defScope qAz, [], []⟩
def qDk : He.DefD := ⟨("_law_number", none), "_law_number", "_law_number", defArgs qAl, defBody qAl, defScope qAl, [], []⟩
def qGm : He.DefD := ⟨("_law_is", none), "_law_is", "_law_is", defArgs qA8, defBody qA8, defScope qA8, [], []⟩
def qEy : He.DefD := ⟨("_law_lowest", none), "_law_lowest", "_law_lowest", defArgs qAy, defBody qAy, defScope qAy, [], []⟩
def qD7 : He.DefD := ⟨("_law_refused", none), "_law_refused", "_law_refused", defArgs qAs, defBody qAs, defScope qAs, [], []⟩
def qEb : He.DefD := ⟨("_law_spoiled", none), "_law_spoiled", "_law_spoiled", defArgs qAp, defBody qAp, defScope qAp, [], []⟩
def qOj : He.DefD := ⟨("law", none), "law", "law", defArgs qDm, defBody qDm, defScope qDm, [], []⟩
def fn0 : List He.DefD := [qEg, qDo, qEe, qF3, qFq, qEh, qCa, qE0, qE3, qDk, qGm, qEy, qD7, qEb, qOj]
def stL : List He.DefD := [qD5]
def fnL : List He.DefD := fn0
abbrev csL : List Str := ["Ratio"]
abbrev xtL : qKy := [("NoRatio", "NoRatio", true)]
def bs0 : List Fct := [(fun K => (He.Fa.free "isinstance").ok K),
  (fun K => (He.Fa.free "int").ok K),
  (fun K => (He.Fa.free "bool").ok K),
  (fun K => (He.Fa.free "abs").ok K),
  (fun K => (He.Fa.free "len").ok K),
  (fun K => (He.Fa.free "str").ok K),
  (fun K => (He.Fa.free "max").ok K),
  (fun K => (He.Fa.free "range").ok K),
  (fun K => (He.Fa.glo "is_integer").ok K),
  (fun K => (He.Fa.glo "common_part").ok K),
  (fun K => (He.Fa.glo "NoRatio").ok K),
  (fun K => (He.Fa.glo "Ratio").ok K),
  (fun K => (He.Fa.glo "is_plain").ok K),
  (fun K => (He.Fa.glo "_law_is_integer").ok K),
  (fun K => (He.Fa.glo "_law_feed").ok K),
  (fun K => (He.Fa.glo "_law_take").ok K),
  (fun K => (He.Fa.glo "_law_number").ok K),
  (fun K => (He.Fa.glo "_law_is").ok K),
  (fun K => (He.Fa.glo "_law_lowest").ok K),
  (fun K => (He.Fa.glo "_law_refused").ok K),
  (fun K => (He.Fa.glo "_law_spoiled").ok K),
  (fun K => (He.Fa.glo "law").ok K),
  (qU7 PySem.Challenge.pw_momentrows_k05_ratio_texts "NoRatio" "word"),
  (xfF "NoRatio"),
  (ktF csL),
  (xoF xtL),
  (ioF xtL),
  qU6,
  (opF "Ratio" "add"),
  (fun K => (He.Fa.int "MOST_DIGITS" 40).ok K),
  (fun K => (He.Fa.mkr "Ratio").ok K),
  (fun K => (He.Fa.meth "Ratio" "__eq__").ok K),
  (qRx "Ratio" "read"),
  (fun K => (He.Fa.meth "Ratio" "text").ok K)]
def bsL : List Fct := bs0
def qSn : List Str := ["_wall", "__name__", "MeansError", "NoRatio", "MOST_DIGITS", "is_integer", "common_part", "Ratio", "is_plain", "floor_of", "power_of", "whole_power", "_law_is_integer", "_law_feed", "_law_take", "_law_number", "_law_pair", "_law_is", "_law_lowest", "_law_refused", "_law_spoiled"]
def qJr : List Str := qSn
abbrev hk : PySem.W.Hook := qRr 5 bsL fnL stL
def ob (s : PySem.W.SharedT) : AlS := qUq 5 bsL fnL stL (HandSHeadRun.getT s)
theorem qT5 (s : PySem.W.SharedT) : ob s = hk.obs s.abs := qO5 (HandSHeadRun.getT_eq s)
section
open PySem PySem.W PySem.Calls PyProof.Rows HandSHeadRun
theorem qPk (w : World) (os : OsState) : (HandSHeadRun.endF (HandSHeadRun.stepQ (HandSHeadRun.denQ HandSHeadRun.tabQ) (PySem.W.OpenLaw.row PySem.Challenge.rw_momentrows_k05_ratio_texts).prog w) 12000 (PySem.W.OpenLaw.row PySem.Challenge.rw_momentrows_k05_ratio_texts).prog w os).map (fun s => (looksF (PySem.W.OpenLaw.row PySem.Challenge.rw_momentrows_k05_ratio_texts).prog (boot_heap w.params) s.abs, seenQ (PySem.W.view (PySem.W.OpenLaw.row PySem.Challenge.rw_momentrows_k05_ratio_texts).prog [23]) qJr (importedModules (PySem.W.OpenLaw.row PySem.Challenge.rw_momentrows_k05_ratio_texts).prog.main.body) (fun s => xlAt (PySem.W.view (PySem.W.OpenLaw.row PySem.Challenge.rw_momentrows_k05_ratio_texts).prog [23]) [] s && recOk (PySem.W.OpenLaw.row PySem.Challenge.rw_momentrows_k05_ratio_texts).toRowW.records s) s.abs)) = some (true, openGood (PySem.W.view (PySem.W.OpenLaw.row PySem.Challenge.rw_momentrows_k05_ratio_texts).prog [23]) qJr) := by kernel_rfl
theorem qRi (w : World) (os : OsState) : qM5 (HandSHeadRun.endF (HandSHeadRun.stepQ (HandSHeadRun.denQ HandSHeadRun.tabQ) (PySem.W.OpenLaw.row PySem.Challenge.rw_momentrows_k05_ratio_texts).prog w) 12000 (PySem.W.OpenLaw.row PySem.Challenge.rw_momentrows_k05_ratio_texts).prog w os) (fun s => frU (HandSHeadRun.getT s) 5) bs0 := by
  unfold qM5
  kernel_rfl
theorem qR2 (w : World) (os : OsState) : qNg (HandSHeadRun.endF (HandSHeadRun.stepQ (HandSHeadRun.denQ HandSHeadRun.tabQ) (PySem.W.OpenLaw.row PySem.Challenge.rw_momentrows_k05_ratio_texts).prog w) 12000 (PySem.W.OpenLaw.row PySem.Challenge.rw_momentrows_k05_ratio_texts).prog w os) (fun s => frU (HandSHeadRun.getT s) 5) fn0 := by
  unfold qNg
  kernel_rfl
theorem qTk (w : World) (os : OsState) : qN6 (HandSHeadRun.endF (HandSHeadRun.stepQ (HandSHeadRun.denQ HandSHeadRun.tabQ) (PySem.W.OpenLaw.row PySem.Challenge.rw_momentrows_k05_ratio_texts).prog w) 12000 (PySem.W.OpenLaw.row PySem.Challenge.rw_momentrows_k05_ratio_texts).prog w os) (fun s => frU (HandSHeadRun.getT s) 5) stL := by
  unfold qN6
  kernel_rfl
theorem run (w : World) : HandSHeadRun.RunEq (PySem.W.OpenLaw.row PySem.Challenge.rw_momentrows_k05_ratio_texts) (PySem.W.view (PySem.W.OpenLaw.row PySem.Challenge.rw_momentrows_k05_ratio_texts).prog [23]) hk ob 12000 qJr w := by
  intro os
  exact qTi (qPk w os) (qRi w os) (qR2 w os) (qTk w os)
end
end MR

set_option Elab.async false
set_option linter.all false
set_option maxRecDepth 100000
set_option maxHeartbeats 4000000
/-! MR: lambdas, with all that stays told -/
namespace MR
open PySem PySem.Spec PyProof.Rows L2 LamX
section
variable {X : Cx} {pins : List (Addr × Obj)} {σ : L2.St} {H : Hp} {s : Shared}
end
end MR

set_option Elab.async false
set_option linter.all false
set_option maxRecDepth 100000
set_option maxHeartbeats 4000000
/-! FL: lambdas handed to a def of the law -/
namespace MR
open PySem PySem.Spec PyProof.Rows L2 LamX
section
variable {K : PySem.W.Frag} {Ta : List (Addr × Str)} {w : Wd} {ow : List Nat} {H H1 : Hp} {σ : L2.St} {ρ : Env} {E : L2.St → XK}
/-! ### a def that catches, whose suite asks only of which class the error is -/
end
end MR

set_option linter.all false
/-! FL: what readings are at known data -/
namespace MR
open PySem PySem.Spec PyProof.Rows L2
section
variable {P : D → Prop} {X : XP} {fsp : FSp} {ρ : Env} {R : Env → Prop} {a b c d : D} {q r : Rat} {cs es : List Rat} {n : Int} {C : Str} {i j k : Nat}
theorem qN4 : qHk (.rat q) = some ("Ratio" : Str) := rfl
theorem qL2 : qHk (.poly cs) = some ("Poly" : Str) := rfl
theorem qR3 : qKh "Ratio" fsp (.rat q) (.rat r) P X ↔ fsp [.rat q, .rat r] P X0 := ⟨fun h => h.2.2, fun h => ⟨rfl, .inr rfl, h⟩⟩
theorem qSw : qKh "Ratio" fsp (.rat q) (.int n) P X ↔ fsp [.rat q, .int n] P X0 := ⟨fun h => h.2.2, fun h => ⟨rfl, .inl trivial, h⟩⟩
theorem qSq : qKh "Poly" fsp (.poly cs) (.poly es) P X ↔ fsp [.poly cs, .poly es] P X0 := ⟨fun h => h.2.2, fun h => ⟨rfl, .inr rfl, h⟩⟩
theorem qQ2 : qKh "Poly" fsp (.poly cs) (.int n) P X ↔ fsp [.poly cs, .int n] P X0 := ⟨fun h => h.2.2, fun h => ⟨rfl, .inl trivial, h⟩⟩
theorem qR5 : qQ1 "Ratio" fsp (.int n) (.rat q) P X ↔ fsp [.rat q, .int n] P X0 := ⟨fun h => h.2.2, fun h => ⟨trivial, rfl, h⟩⟩
theorem qR0 : qQ1 "Poly" fsp (.int n) (.poly cs) P X ↔ fsp [.poly cs, .int n] P X0 := ⟨fun h => h.2.2, fun h => ⟨trivial, rfl, h⟩⟩
theorem qU3 : qSg "Ratio" fsp (.rat q) P X ↔ fsp [.rat q] P X0 := ⟨fun h => h.2, fun h => ⟨rfl, h⟩⟩
theorem qUi : qSg "Poly" fsp (.poly cs) P X ↔ fsp [.poly cs] P X0 := ⟨fun h => h.2, fun h => ⟨rfl, h⟩⟩
theorem qUm : qTm "Ratio" fsp [.rat q] P X ↔ fsp [.rat q] P X0 := ⟨fun ⟨_, h1, h⟩ => by cases h1; exact h.2, fun h => ⟨_, rfl, rfl, h⟩⟩
theorem qTb : qMv [i, j] (.tup [a, b]) ρ R ↔ R ((ρ.set i (some a)).set j (some b)) := by
  constructor
  · rintro ⟨ds, h, _, d1, r1, h1, d2, r2, h2, h3, hR⟩
    cases h; cases h1; cases h2; exact hR
  · exact fun h => ⟨_, rfl, rfl, _, _, rfl, _, _, rfl, rfl, h⟩
theorem qUe {l : Nat} : qMv [i, j, k, l] (.tup [a, b, c, d]) ρ R ↔ R ((((ρ.set i (some a)).set j (some b)).set k (some c)).set l (some d)) := by
  constructor
  · rintro ⟨ds, h, _, d1, r1, h1, d2, r2, h2, d3, r3, h3, d4, r4, h4, h5, hR⟩
    cases h; cases h1; cases h2; cases h3; cases h4; exact hR
  · exact fun h => ⟨_, rfl, rfl, _, _, rfl, _, _, rfl, _, _, rfl, _, _, rfl, rfl, h⟩
/-- x = e with a datum known at slot i -/
theorem qU4 {ds : List D} {Q : List D → Prop} : (∃ es, D.lst ds = D.lst es ∧ Q es) ↔ Q ds := by
  constructor
  · rintro ⟨es, h, q⟩; cases h; exact q
  · exact fun h => ⟨_, rfl, h⟩
theorem qT6 {ds : List D} {Q : List D → Prop} : (∃ es, D.tup ds = D.tup es ∧ Q es) ↔ Q ds := by
  constructor
  · rintro ⟨es, h, q⟩; cases h; exact q
  · exact fun h => ⟨_, rfl, h⟩
theorem qU1 {ds : List D} : (∃ es, D.lst ds = D.lst es) ↔ True := ⟨fun _ => trivial, fun _ => ⟨_, rfl⟩⟩
theorem qU0 {ds : List D} : (∃ es, D.tup ds = D.tup es) ↔ True := ⟨fun _ => trivial, fun _ => ⟨_, rfl⟩⟩
theorem qTf {Q : Int → Prop} : (∃ i, D.int n = D.int i ∧ Q i) ↔ Q n := by
  constructor
  · rintro ⟨es, h, q⟩; cases h; exact q
  · exact fun h => ⟨_, rfl, h⟩
theorem qQv {ds : List D} {Q : List D → Prop} : (∃ es, [D.lst ds] = [D.lst es] ∧ Q es) ↔ Q ds := by
  constructor
  · rintro ⟨es, h, q⟩; cases h; exact q
  · exact fun h => ⟨_, rfl, h⟩
theorem qSj {ds fs : List D} {Q : List D → List D → Prop} : (∃ es gs, [D.lst ds, D.lst fs] = [D.lst es, D.lst gs] ∧ Q es gs) ↔ Q ds fs := by
  constructor
  · rintro ⟨es, gs, h, q⟩; cases h; exact q
  · exact fun h => ⟨_, _, rfl, h⟩
theorem qR6 {Q : Int → Prop} : (∃ i, [D.int n] = [D.int i] ∧ Q i) ↔ Q n := by
  constructor
  · rintro ⟨es, h, q⟩; cases h; exact q
  · exact fun h => ⟨_, rfl, h⟩
theorem qQ8 {m : Int} {Q : Int → Int → Prop} : (∃ i j, [D.int n, D.int m] = [D.int i, D.int j] ∧ Q i j) ↔ Q n m := by
  constructor
  · rintro ⟨es, gs, h, q⟩; cases h; exact q
  · exact fun h => ⟨_, _, rfl, h⟩
theorem qUf {Q : List D → Prop} : (∃ d ds, [a] = [d] ∧ itD d = some ds ∧ Q ds) ↔ ∃ ds, itD a = some ds ∧ Q ds := by
  constructor
  · rintro ⟨d, ds, h, q⟩; cases h; exact ⟨ds, q⟩
  · exact fun ⟨ds, h⟩ => ⟨_, ds, rfl, h⟩
theorem qM0 {ds : List D} {P : D → Prop} {X : XP} : qVf [.lst ds] P X ↔ P (.int (ds.length : Nat)) := Iff.rfl
theorem qMy {ds : List D} {P : D → Prop} {X : XP} : qVf [.tup ds] P X ↔ P (.int (ds.length : Nat)) := Iff.rfl
theorem qPx {ds : List D} : qQt (.lst ds) = some !ds.isEmpty := rfl
theorem qQo {ds : List D} : qQt (.tup ds) = some !ds.isEmpty := rfl
theorem qQg : qQt (.int n) = some (n != 0) := rfl
theorem qSc {b : Bool} : qQt (.bl b) = some b := rfl
theorem qPo : qQt .non = some false := rfl
theorem qRf {ds : List D} : itD (.lst ds) = some ds := rfl
theorem qSt {ds : List D} : itD (.tup ds) = some ds := rfl
theorem qUz {ds : List D} {Q : List D → Int → Nat → Prop} : (∃ es m l, D.lst ds = D.lst es ∧ D.int n = D.int m ∧ ixN es.length m = some l ∧ Q es m l) ↔ ∃ l, ixN ds.length n = some l ∧ Q ds n l := by
  constructor
  · rintro ⟨es, m, l, h1, h2, h3, q⟩; cases h1; cases h2; exact ⟨l, h3, q⟩
  · exact fun ⟨l, h, q⟩ => ⟨_, _, l, rfl, rfl, h, q⟩
end
end MR

local macro_rules | `(tactic| simp_arith [$ls,*]) => `(tactic| simp only [MR.qBn, MR.qEl, MR.fB, MR.qOb, MR.qAi, MR.fC, MR.fOp, MR.fUn, MR.fLs, MR.qEc, MR.qUh, MR.qHr, MR.qAw, MR.qAc, MR.qBb, MR.qBu, MR.qV5, MR.qHv, MR.qDz, MR.qVb, MR.qQi, MR.qUx, MR.qV2, MR.qIu, MR.qS1, MR.fOr, MR.qIw, MR.qUp, MR.qPh, MR.fIf, MR.qV0, MR.qMx, MR.qVq, MR.qTn, MR.qGl, MR.qFr, MR.qD9, MR.qPp, MR.fBr, MR.qU8, MR.qKw, MR.qU5, MR.qVz, MR.qQz, MR.qQu, MR.fSl, MR.qEn, MR.qKq, MR.qS7, MR.qVx, MR.fIt, MR.qTq, MR.qS2, MR.qV4, MR.qIo, MR.qB7, MR.toB, MR.oI, MR.oI0, MR.qS0, MR.qTw, MR.qVy, MR.qVp, MR.qS5, MR.qM0, MR.qMy, MR.qTt, MR.qRt, MR.qVs, MR.qV3, MR.qTc, MR.oEq, MR.oNe, MR.eqD, MR.qV6, MR.qTx, MR.isN, MR.qR3, MR.qSw, MR.qSq, MR.qQ2, MR.qR5, MR.qR0, MR.qU3, MR.qUi, MR.qUm, MR.qPx, MR.qQo, MR.qQg, MR.qSc, MR.qPo, MR.qTb, MR.qUe, MR.qU4, MR.qT6, MR.qU1, MR.qU0, MR.qTf, MR.qQv, MR.qSj, MR.qR6, MR.qQ8, MR.qUf, MR.qUz, MR.qRf, MR.qSt, MR.qHh, MR.qVv, MR.InsD, List.map_cons, List.map_nil, List.cons_append, List.nil_append, List.length_cons, List.length_nil, List.getElem?_cons_zero, List.getElem?_cons_succ, List.set_cons_zero, List.set_cons_succ, List.replicate_succ, List.replicate_zero, Option.some.injEq, exists_eq_left', MR.qN4, MR.qL2, if_true, if_false, List.append_nil, true_and, and_true, true_or, or_true, Bool.false_eq_true, Bool.true_eq_false, reduceCtorEq, Nat.add_one_sub_one, Nat.reduceSub, Nat.reduceAdd, Nat.sub_self, Nat.zero_add, Nat.add_sub_cancel, $ls,*])
set_option Elab.async false
set_option linter.all false
set_option maxRecDepth 100000
set_option maxHeartbeats 4000000
/-! FL: operators of two own classes; new objects that a def hands back; a def that catches -/
namespace MR
open PySem PySem.Spec PyProof.Rows L2 LamX
section
variable {K : PySem.W.Frag} {E1 : XK} {F : Fd} {M : Addr → Prop} {H : Hp}
end
section
variable {P : D → Prop} {X : XP} {fsp : FSp} {cs es : List Rat} {q : Rat} {n : Int}
end
/-! ### new objects -/
section
variable {K : PySem.W.Frag} {Ta : List (Addr × Str)} {w : Wd} {ow ow' ow1 owb owx : List Nat} {H H' : Hp} {σ : L2.St} {ρ : Env} {E : L2.St → XK} {N : L2.Ends} {FD : FEnds} {F : Fd} {M : Addr → Prop}
end
/-! ### a def that asks of which class the error is -/
end MR

set_option Elab.async false
set_option linter.all false
set_option maxRecDepth 100000
set_option maxHeartbeats 4000000
/-! FL: calls of instances, xs[::-1] -/
namespace MR
open PySem PySem.Spec PyProof.Rows L2
section
variable {K : PySem.W.Frag} {Ta : List (Addr × Str)} {ow : List Nat} {E : L2.St → XK} {E1 : XK}
theorem Reps.reverse {F : Fd} {M : Addr → Prop} {H : Hp} : ∀ {ds : List D} {vs : List V}, Reps K F M H ds vs → Reps K F M H ds.reverse vs.reverse
  | [], _, h => by rw [show _ = [] from h]; exact rfl
  | d :: ds, _, h => by
    obtain ⟨v, us, rfl, h1, h2⟩ := h
    rw [List.reverse_cons, List.reverse_cons]
    exact (Reps.reverse h2).append (.one h1)
end
section
variable {P : D → Prop} {X : XP} {fsp : FSp} {ρ : Env}
end
end MR

set_option Elab.async false
set_option linter.all false
set_option maxRecDepth 100000
set_option maxHeartbeats 4000000
/-! FL: an operator that declines; the reflected one -/
namespace MR
open PySem PySem.Spec PyProof.Rows L2 LamX
section
variable {K : PySem.W.Frag} {E1 : XK} {F : Fd} {M : Addr → Prop} {H : Hp}
end
section
variable {P : D → Prop} {X : XP} {fni fr : FSp} {cs : List Rat} {q : Rat} {n : Int}
end
end MR

set_option Elab.async false
set_option linter.all false
set_option maxRecDepth 100000
set_option maxHeartbeats 4000000
set_option exponentiation.threshold 20000
/-! FR: Ratio, without a heap -/
namespace MR
open PySem PySem.Spec PyProof.Rows L2
def qNb : FSp := fun ds P X => ∃ a b : Int, ds = [.int a, .int b] ∧ b ≠ 0 ∧ Sml b ∧ P (.rat (Rat.divInt a b))
theorem qLb {K : PySem.W.Frag} : MkL K (CR K) (qBi K) qNb := qIr
def qSd (cs : List Str) (d : D) : Option Bool := match isD cs (.ty "int") d with
  | some true => (isD cs (.ty "bool") d).map fun b => !b
  | some false => some false
  | none => none
def qCj (cs : List Str) : FSp := fun ds P _ => ∃ d b, ds = [d] ∧ qSd cs d = some b ∧ P (.bl b)
theorem qPe {K : PySem.W.Frag} {cs : List Str} {F : Fd} {M : Addr → Prop} {H : Hp} {d : D} {v : V} {b : Bool} (T : KT K cs) (r : Rep K F M H d v) (h : qSd cs d = some b) : IntQ K H v b := by
  unfold qSd at h
  cases h1 : isD cs (.ty "int") d with
  | none => rw [h1] at h; cases h
  | some b1 =>
    rw [h1] at h
    cases b1 with
    | false =>
      cases h
      obtain ⟨t, ty, k⟩ := qOs T r h1
      exact ⟨t, false, ty, k, fun _ => rfl, fun z => by cases z⟩
    | true =>
      cases h2 : isD cs (.ty "bool") d with
      | none => rw [h2] at h; cases h
      | some b2 =>
        rw [h2] at h
        have hb : (!b2) = b := Option.some.inj h
        subst hb
        obtain ⟨t, ty, k1, k2⟩ := qPr T r h1 h2
        exact ⟨t, true, ty, k1, (fun z => by cases z), fun _ => ⟨b2, k2, rfl⟩⟩
theorem qKj {K : PySem.W.Frag} {cs : List Str} (T : KT K cs) : Lift K (qDq K) (qCj cs) := by
  intro vs H Q E h
  obtain ⟨F, M, ds, P, X, lv, r, ⟨d, b, rfl, hb, p⟩, q, x⟩ := h
  obtain ⟨v, rfl, rv⟩ := qH5 r
  exact ⟨v, b, rfl, qPe T rv hb, q _ _ _ p .refl rfl⟩
def qQs (a b : Rat) : Prop := ∃ n m, Sz n a ∧ Sz m b ∧ n + m ≤ 900000
def fRB (f : Rat → Rat → Bool) : FSp := fun ds P _ => match ds with
  | [.rat a, .rat b] => qQs a b ∧ P (.bl (f a b))
  | [.rat a, .int n] => qQs a n ∧ P (.bl (f a n))
  | _ => False
def qDu (K : PySem.W.Frag) (cs : List Str) : TS :=
  (tSeq (tIfS (tB (tCB (rIsi K) (tCons (tVar 1) (tCons (tC (.ref (He.ga K "Ratio"))) tNil)))) (tRet (tAndV (tOp rEq (tFld K (tVar 0) "top") (tFld K (tVar 1) "top")) (tOp rEq (tFld K (tVar 0) "bottom") (tFld K (tVar 1) "bottom")))) tNext)
  (tSeq (tIfS (tB (tCall (qDq K) [] E0 (tCons (tVar 1) tNil))) (tRet (tAndV (tOp rEq (tFld K (tVar 0) "bottom") (tC (.int 1))) (tOp rEq (tFld K (tVar 0) "top") (tVar 1)))) tNext)
  (tRet (tC (.bl false)))))
def qDe (cs : List Str) : FS :=
  (qBn (qEl (fB (qOb cs (.own "Ratio") (qAi 1))) (qEc (qIw (fOp oEq (qHv "Ratio" "top" (qAi 0)) (qHv "Ratio" "top" (qAi 1))) (fOp oEq (qHv "Ratio" "bottom" (qAi 0)) (qHv "Ratio" "bottom" (qAi 1))))) qBu)
  (qBn (qEl (fB (qAw (qCj cs) [] (qAc (qAi 1) qBb))) (qEc (qIw (fOp oEq (qHv "Ratio" "bottom" (qAi 0)) (fC (.int 1))) (fOp oEq (qHv "Ratio" "top" (qAi 0)) (qAi 1)))) qBu)
  (qEc (fC (.bl false)))))
theorem qKm {K : PySem.W.Frag} {cs : List Str} (T : KF K cs) (hRatio : ("Ratio" : Str) ∈ cs) : SS K Ta [] [] [] [] (fun _ => E0) (qDu K cs) (qDe cs) :=
  (qAh (ow1 := []) (qC1 (by decide) (qKk (qGj (c := (.own "Ratio")) T.toKT (qAb (by decide)))) (qBg (by decide) (qF2 (qAd (fun _ => qDp) (qB8 (T.fld _ hRatio _ (by decide)) (qAb (by decide))) (qB8 (T.fld _ hRatio _ (by decide)) (qAb (by decide)))) (qAd (fun _ => qDp) (qB8 (T.fld _ hRatio _ (by decide)) (qAb (by decide))) (qB8 (T.fld _ hRatio _ (by decide)) (qAb (by decide)))))) (qA9 (by decide)))
  (qAh (ow1 := []) (qC1 (by decide) (qKk (qAn (qKj T.toKT) qAo (qAa (qAb (by decide)) qAe))) (qBg (by decide) (qF2 (qAd (fun _ => qDp) (qB8 (T.fld _ hRatio _ (by decide)) (qAb (by decide))) qAf) (qAd (fun _ => qDp) (qB8 (T.fld _ hRatio _ (by decide)) (qAb (by decide))) (qAb (by decide))))) (qA9 (by decide)))
  (qBg (by decide) qGw)))
theorem qIx {cs : List Str} (h : ("Ratio" : Str) ∈ cs) (q : Rat) : isD cs (.own "Ratio") (.rat q) = some true := by
  simp only [isD, tyN, qHk, if_pos h, decide_true]
theorem qLa {cs : List Str} (h : ("Ratio" : Str) ∈ cs) (i : Int) : isD cs (.own "Ratio") (.int i) = some false := by
  simp only [isD, tyN, if_pos h]
theorem qJ2 (cs : List Str) (i : Int) : qSd cs (.int i) = some true := rfl
theorem qEt {cs : List Str} {i : Int} {P : D → Prop} {X : XP} : qCj cs [.int i] P X ↔ P (.bl true) := by
  constructor
  · rintro ⟨d, b, h, hb, p⟩
    cases h
    rw [qJ2] at hb
    cases hb
    exact p
  · exact fun p => ⟨_, _, rfl, qJ2 cs i, p⟩
theorem qGv (q : Rat) : qOp "top" (.rat q) = some (.int q.num) := by simp [qOp]
theorem qG2 (q : Rat) : qOp "bottom" (.rat q) = some (.int (q.den : Nat)) := by
  have h : ¬ (("bottom" : Str) = "top") := qRd
  simp only [qOp, if_neg h, if_true]
theorem qVe {a b : Int} {P : D → Prop} {X : XP} : qNb [.int a, .int b] P X ↔ (b ≠ 0 ∧ Sml b ∧ P (.rat (Rat.divInt a b))) := by
  constructor
  · rintro ⟨a', b', h, h1, h2, h3⟩
    cases h
    exact ⟨h1, h2, h3⟩
  · exact fun ⟨h1, h2, h3⟩ => ⟨a, b, rfl, h1, h2, h3⟩
theorem dsz {n : Nat} {a : Rat} (h : Sz n a) : ((a.den : Nat) : Int).natAbs < 2 ^ n := by rw [Int.natAbs_natCast]; exact h.den
theorem qVo (a : Rat) : ((a.den : Nat) : Int) ≠ 0 := Int.ne_of_gt (den_pos a)
theorem qEu (a b : Rat) : a = b ↔ a.num = b.num ∧ a.den = b.den := ⟨fun h => by rw [h]; exact ⟨rfl, rfl⟩, fun ⟨h1, h2⟩ => Rat.ext h1 h2⟩
theorem qLt (a : Rat) (k : Int) : a = (k : Rat) ↔ a.den = 1 ∧ a.num = k := by
  rw [qEu, Rat.num_intCast, Rat.den_intCast]
  exact And.comm
theorem ifP {P : D → Prop} {c : Bool} {x y z : D} (h1 : c = true → x = z) (h2 : c = false → y = z) (p : P z) : if c = true then P x else P y := by
  cases c with
  | true => rw [if_pos rfl, h1 rfl]; exact p
  | false => rw [if_neg (by decide), h2 rfl]; exact p
theorem qKe {cs : List Str} (hR : ("Ratio" : Str) ∈ cs) (ds : List D) (P : D → Prop) (X : XP) (h : fRB (fun a b => decide (a = b)) ds P X) : qDe cs (qIo P X0) (qB7 2 ds) := by
  match ds, h with
  | [.rat a, .rat b], ⟨⟨n, m, ha, hb, hs⟩, p⟩ =>
    simp_arith [qDe, qIx hR, qLa hR, qEt, qGv, qG2, qVe]
    refine ifP (fun h => ?_) (fun h => ?_) p
    · have h := of_decide_eq_true h
      congr 1
      exact decide_eq_decide.mpr (by rw [qEu]; constructor
                                     · intro z; exact ⟨h, by omega⟩
                                     · intro z; omega)
    · have h := of_decide_eq_false h
      congr 1
      exact (decide_eq_false (by rw [qEu]; exact fun z => h z.1)).symm
  | [.rat a, .int k], ⟨⟨n, m, ha, hb, hs⟩, p⟩ =>
    simp_arith [qDe, qIx hR, qLa hR, qEt, qGv, qG2, qVe]
    refine ifP (fun h => ?_) (fun h => ?_) p
    · have h := of_decide_eq_true h
      congr 1
      exact decide_eq_decide.mpr (by rw [qLt]; constructor
                                     · intro z; exact ⟨by omega, z⟩
                                     · intro z; exact z.2)
    · have h := of_decide_eq_false h
      congr 1
      exact (decide_eq_false (by rw [qLt]; exact fun z => h (by omega))).symm
theorem qH8 {K : PySem.W.Frag} {cs : List Str} (vs : List V) (H : Hp) (Q : VK) (E : XK) (h : (lift K (fRB fun a b => decide (a = b))) vs H Q E) : vs.length = 2 := qBo (fun ds P X h => by unfold fRB at h; first | ((repeat (first | (obtain ⟨rfl, _⟩ := h; exact rfl) | obtain ⟨_, h⟩ := h)); done) | (split at h <;> first | rfl | exact h.elim)) h
theorem qI8 {K : PySem.W.Frag} {cs : List Str} (T : KF K cs) (hRatio : ("Ratio" : Str) ∈ cs) (vs : List V) (H : Hp) (Q : VK) (E : XK) (h : (lift K (fRB fun a b => decide (a = b))) vs H Q E) : qDu K cs { nx := fun _ H' => Q .non H', rt := Q } (start ["self", "other"] vs) H :=
  qEa rfl (qKm T hRatio) (qKe hRatio) vs H Q E h
end MR

set_option Elab.async false
set_option linter.all false
set_option maxRecDepth 100000
set_option maxHeartbeats 4000000
/-! FL: in, == of what may be None, C(word=..) -/
namespace MR
open PySem PySem.Spec PyProof.Rows L2 LamX
section
variable {K : PySem.W.Frag} {Ta : List (Addr × Str)} {ow : List Nat} {E : L2.St → XK} {E1 : XK} {F : Fd} {M : Addr → Prop} {H : Hp}
end
end MR

set_option Elab.async false
set_option linter.all false
set_option maxRecDepth 100000
set_option maxHeartbeats 4000000
/-! MR: calls of methods inside try, by words; xs[::k] -/
namespace MR
open PySem PySem.Spec PyProof.Rows L2
section
variable {X : Cx} {k : Nat} {C : Addr} {sp : Sp} {dvs : List V} {x m : Str} {p pos apos : Pos} {e o : Expr} {es : List Expr} {ta : TE} {t : TA}
end
end MR

set_option Elab.async false
set_option linter.all false
set_option maxRecDepth 100000
set_option maxHeartbeats 4000000
/-! FL: methods inside try, by words, that hand back new lists; xs[::k]; an int in a list -/
namespace MR
open PySem PySem.Spec PyProof.Rows L2 LamX
section
variable {K : PySem.W.Frag} {Ta : List (Addr × Str)} {ow : List Nat} {E : L2.St → XK} {E1 : XK} {C m : Str} {sp : Sp} {fsp : FSp} {to : TE} {ta tk : TA} {fo : FE} {fa fk : FA}
end
end MR

set_option Elab.async false
set_option linter.all false
set_option maxRecDepth 100000
set_option maxHeartbeats 4000000
set_option exponentiation.threshold 20000
/-! FP: Poly, without a heap -/
namespace MR
open PySem PySem.Spec PyProof.Rows L2
theorem qNh (lo : Int) (n : Nat) : qOe lo (n + 1) = .int lo :: qOe (lo + 1) n := by
  unfold qOe
  rw [List.range_succ_eq_map, List.map_cons, List.map_map]
  congr 1
  · congr 1; omega
  · refine List.map_congr_left fun k _ => ?_
    show D.int (lo + ((k + 1 : Nat) : Int)) = D.int (lo + 1 + (k : Int))
    congr 1; omega
/-- the sizes of a row -/
def SzL (n : Nat) (cs : List Rat) : Prop := ∀ c, c ∈ cs → Sz n c
theorem qQl : Sz 1 (0 : Rat) := ⟨by decide, by decide⟩
theorem SzL.coef {n : Nat} {cs : List Rat} (h : SzL n cs) (hn : 0 < n) (k : Nat) : Sz n (coef cs k) := by
  by_cases hk : k < cs.length
  · exact h _ (List.mem_of_getElem? (qPi hk))
  · rw [qP5 (by omega)]
    exact qQl.mono hn
/-- sizes for a product of two rows, sum by sum -/
structure MulSz (cs es : List Rat) : Prop where
  prod : ∀ i j, i < cs.length → j < es.length → qQs (coef cs i) (coef es j)
  sum : ∀ i j, i < cs.length → j < es.length → qQs (conv (coef cs) (coef es) i (i + j)) (coef cs i * coef es j)
/-! ### multiplied -/
/-- row after the first i rows and of row i the first j places -/
def cell (f g : Nat → Rat) (i j k : Nat) : Rat := conv f g i k + if i ≤ k ∧ k < i + j then f i * g (k - i) else 0
/-! ### values -/
/-! ### operators -/
theorem SzL.neg {n : Nat} {cs : List Rat} (h : SzL n cs) : SzL n (qU9 cs) := fun c hc => by
  unfold qU9 at hc
  obtain ⟨d, hd, rfl⟩ := List.mem_map.mp hc
  exact (h d hd).neg
/-! ### Poly(..) -/
end MR

set_option Elab.async false
set_option linter.all false
set_option maxRecDepth 100000
set_option maxHeartbeats 4000000
set_option exponentiation.threshold 20000
/-! FLE: == of two lists (or tuples) of Ratios, the answer True -/
namespace MR
open PySem PySem.Spec PyProof.Rows L2
section
variable {X : Cx} {k : Nat} {E : XK}
end
section
variable {K : PySem.W.Frag} {E1 : XK}
/-! ### sum of a list of ints -/
end
end MR

set_option Elab.async false
set_option linter.all false
set_option maxRecDepth 100000
set_option maxHeartbeats 4000000
/-! MR: == of two tuples, the answer either -/
namespace MR
namespace TQ
open PySem PySem.SeqAt GQ
open AutoSeq1 (wpAny_loadPart')
open MeetsSeq MeetsSeq2 MeetsSeq3 SeqRoads2
section
variable {prog : Program} {w : World} {A : Around} {R : Result → Shared → Prop}
end
end TQ
end MR
namespace MR
open PySem PySem.Spec PyProof.Rows L2
section
variable {X : Cx} {k : Nat} {E : XK}
/-- a tuple's items are these Ratios -/
def Rts (K : PySem.W.Frag) (H : Hp) (xs : List V) (qs : List Rat) : Prop := xs.length = qs.length ∧ ∀ (i : Nat) x q, xs[i]? = some x → qs[i]? = some q → ∃ p, x = .ref p ∧ IsRat K H p q
theorem Rts.ext {K : PySem.W.Frag} {H H' : Hp} {xs : List V} {qs : List Rat} (h : Rts K H xs qs) (e : Ext H H') : Rts K H' xs qs := ⟨h.1, fun i x q h1 h2 => let ⟨p, hx, dx, z⟩ := h.2 i x q h1 h2; ⟨p, hx, dx, e _ _ z⟩⟩
end
end MR

set_option Elab.async false
set_option linter.all false
set_option maxRecDepth 100000
set_option maxHeartbeats 4000000
/-! FL: == of two tuples of Ratios, either answer -/
namespace MR
open PySem PySem.Spec PyProof.Rows L2 LamX
section
variable {K : PySem.W.Frag} {E1 : XK}
/-! ### lists that + and * make -/
end
end MR

set_option Elab.async false
set_option linter.all false
set_option maxRecDepth 100000
set_option maxHeartbeats 4000000
/-! MR: != of two lists whose items are equal -/
namespace MR
namespace TQ
open PySem PySem.SeqAt GQ
open AutoSeq1 (wpAny_loadPart')
open MeetsSeq MeetsSeq2 MeetsSeq3 SeqRoads2
section
variable {prog : Program} {w : World} {A : Around} {R : Result → Shared → Prop}
end
/-! ### lists compared, the answer either -/
section
variable {prog : Program} {w : World} {A : Around} {R : Result → Shared → Prop}
end
end TQ
open PySem PySem.Spec PyProof.Rows L2
section
variable {X : Cx} {k : Nat} {E : XK}
/-- two numbers inside a list: both ints, or both Ratios -/
def NumQ (K : PySem.W.Frag) (H : Hp) (x y : V) (b : Bool) : Prop :=
  (∃ i j : Int, x = .int i ∧ y = .int j ∧ b = decide (i = j)) ∨ ∃ p q a c, x = .ref p ∧ y = .ref q ∧ IsRat K H p a ∧ IsRat K H q c ∧ qQs a c ∧ b = decide (a = c)
theorem NumQ.ext {K : PySem.W.Frag} {H H' : Hp} {x y : V} {b : Bool} (h : NumQ K H x y b) (e : Ext H H') : NumQ K H' x y b := by
  rcases h with h | ⟨p, q, a, c, h1, h2, ⟨dx, h3⟩, ⟨dy, h4⟩, h5⟩
  · exact .inl h
  · exact .inr ⟨p, q, a, c, h1, h2, ⟨dx, e _ _ h3⟩, ⟨dy, e _ _ h4⟩, h5⟩
end
end MR

set_option Elab.async false
set_option linter.all false
set_option maxRecDepth 100000
set_option maxHeartbeats 4000000
/-! FL: == and != of two lists of numbers; {}; tuples joined and cut -/
namespace MR
open PySem PySem.Spec PyProof.Rows L2 LamX
section
variable {K : PySem.W.Frag} {E1 : XK} {F : Fd} {M : Addr → Prop} {H : Hp}
/-- two numbers: is the one the other, if they are of one kind and small -/
inductive NumE : D → D → Bool → Prop where
  | int (i j : Int) : NumE (.int i) (.int j) (decide (i = j))
  | rat (a c : Rat) (h : qQs a c) : NumE (.rat a) (.rat c) (decide (a = c))
/-! ### {} -/
/-! ### t + u -/
/-! ### x != y by the class's own == -/
/-! ### one of two ways -/
end
end MR

set_option Elab.async false
set_option linter.all false
set_option maxRecDepth 100000
set_option maxHeartbeats 4000000
/-! FL: == and != of plain data; the script's cells; not in; any -/
namespace MR
open PySem PySem.Spec PyProof.Rows L2 LamX
section
variable {K : PySem.W.Frag} {E1 : XK} {F : Fd} {M : Addr → Prop} {H : Hp}
/-! ### the script -/
/-! ### not in -/
/-! ### any -/
/-! ### C(x, word=..) -/
end
section
variable {X : Cx} {k n : Nat} {C : Addr} {sp : Sp} {E : XK} {x : Str} {p pos : Pos} {e : Expr} {es : List Expr} {t : TA}
end
end MR

set_option Elab.async false
set_option linter.all false
set_option maxRecDepth 100000
set_option maxHeartbeats 4000000
/-! FTx: texts in the heapless layer -/
namespace MR
open PySem PySem.Spec PyProof.Rows L2 LamX
section
variable {K : PySem.W.Frag} {Ta : List (Addr × Str)} {ow : List Nat} {E : L2.St → XK} {E1 : XK} {F : Fd} {M : Addr → Prop} {H : Hp}
/-! ### str(i), int(a), len(a) -/
def qEp : List V → Hp → VK → Prop := fun xs H Q => ∃ i : Int, xs = [.int i] ∧ i.natAbs.log2 < 1920 ∧ Q (.str (toString i)) H
def qE6 : OL := fun as P _ => ∃ i : Int, as = [.int i] ∧ i.natAbs.log2 < 1920 ∧ P (.str (toString i))
theorem qBp {X : Cx} : CallR X (.type "str") qEp := call_str_int
theorem qCm : LsS K E1 qEp qE6 := by
  intro F M H xs as P X Q lv ra h q x'
  obtain ⟨i, rfl, hi, p⟩ := h
  obtain ⟨v, rfl, r⟩ := qH5 ra
  exact ⟨i, by rw [show v = .int i from r], hi, q _ _ _ p .refl rfl⟩
def qJa : List V → Hp → VK → Prop := fun xs H Q => ∃ a n, xs = [.str a] ∧ PySem.intText? a = some n ∧ a.length ≤ 640 ∧ Q (.int n) H
def qE7 : OL := fun as P _ => ∃ a n, as = [.str a] ∧ PySem.intText? a = some n ∧ a.length ≤ 640 ∧ P (.int n)
theorem qC2 {X : Cx} : CallR X (.type "int") qJa := call_int_str
theorem qFl : LsS K E1 qJa qE7 := by
  intro F M H xs as P X Q lv ra h q x'
  obtain ⟨a, n, rfl, ha, hl, p⟩ := h
  obtain ⟨v, rfl, r⟩ := qH5 ra
  exact ⟨a, n, by rw [show v = .str a from r], ha, hl, q _ _ _ p .refl rfl⟩
def qL0 : List V → Hp → VK → Prop := fun xs H Q => ∃ z : Str, xs = [.str z] ∧ z.length ≤ sizeLine ∧ Q (.int z.length) H
def qMd : OL := fun as P _ => ∃ z : Str, as = [.str z] ∧ z.length ≤ sizeLine ∧ P (.int z.length)
theorem qFu {X : Cx} : CallR X (.builtin "len") qL0 := call_len_str
theorem qIv : LsS K E1 qL0 qMd := by
  intro F M H xs as P X Q lv ra h q x'
  obtain ⟨z, rfl, hz, p⟩ := h
  obtain ⟨v, rfl, r⟩ := qH5 ra
  exact ⟨z, by rw [show v = .str z from r], hz, q _ _ _ p .refl rfl⟩
/-! ### signs -/
def qPb (neg : Bool) : V → V → Hp → VK → Prop := fun x y H Q => ∃ (c : Nat) (z : Str), x = .str ⟨#[c]⟩ ∧ y = .str z ∧ Q (.bl (neg != decide (c ∈ z.cps.toList))) H
def qP7 (neg : Bool) : O2 := fun a b P _ => ∃ (c : Nat) (z : Str), a = .str ⟨#[c]⟩ ∧ b = .str z ∧ P (.bl (neg != decide (c ∈ z.cps.toList)))
theorem qNd {X : Cx} : OpR X (compareOp .NotIn) (qPb true) := by
  intro pins s σ H x y v u Q I rx ry h
  obtain ⟨c, z, e1, e2, q⟩ := h
  exact op_notIn_sign pins s σ H x y v u Q I rx ry ⟨c, z, e1, e2, by simpa using q⟩
theorem qQm {neg : Bool} : OpS K E1 (qPb neg) (qP7 neg) := by
  intro F M H x y a b P X Q lv ra rb h q _
  obtain ⟨c, z, rfl, rfl, p⟩ := h
  exact ⟨c, z, ra, rb, q _ _ _ p .refl rfl⟩
def qS4 : V → V → Hp → VK → Prop := fun x y H Q => ∃ z i c, x = .str z ∧ y = .int i ∧ 0 ≤ i ∧ i < 2 ^ 63 ∧ i < z.length ∧ z.cps[i.toNat]? = some c ∧ Q (.str ⟨#[c]⟩) H
def qUr : O2 := fun a b P _ => ∃ (z : Str) (i : Int) (c : Nat), a = .str z ∧ b = .int i ∧ 0 ≤ i ∧ i < 2 ^ 63 ∧ i < z.length ∧ z.cps[i.toNat]? = some c ∧ P (.str ⟨#[c]⟩)
theorem qOg {X : Cx} {a b : Expr} {ta tb : TE} {pos : Pos} (ha : PE X a ta) (hb : PE X b tb) (hs : PlainIxT b) : PE X (.Subscript a b pos) (tOp qS4 ta tb) := pe_item_str ha hb hs
theorem qOm : OpS K E1 qS4 qUr := by
  intro F M H x y a b P X Q lv ra rb h q _
  obtain ⟨z, i, c, rfl, rfl, h0, h1, h2, h3, p⟩ := h
  exact ⟨z, i, c, ra, rb, h0, h1, h2, h3, q _ _ _ p .refl rfl⟩
/-! ### a.m(b) of texts -/
def fM1 (o : O2) (fo fe : FE) : FE := fun ρ P X => fo ρ (fun a => (∃ s, a = .str s) ∧ fe ρ (fun b => o a b P X) X) X
theorem qRj {r : V → List V → Hp → VK → Prop} {o : O2} {to te : TE} {fo fe : FE} (hr : ∀ σ, OpS K (E σ) (fun x y => r x [y]) o) (ho : SE K Ta ow E to fo) (he : SE K Ta ow E te fe) : SE K Ta ow E (tM1 r to te) (fM1 o fo fe) := by
  intro w H σ ρ P X Q e h q x
  refine ho w H σ ρ _ X _ e h (fun a va H1 h1 g1 r1 => ?_) x
  obtain ⟨⟨s, es⟩, h1⟩ := h1
  refine ⟨⟨s, by subst es; exact r1⟩, he w H1 σ ρ _ X _ (e.grow g1) h1 (fun b vb H2 h2 g2 r2 => ?_) (x.gr g1)⟩
  exact hr σ _ _ H2 _ _ _ _ P X Q ((e.grow g1).grow g2).lv (Rep.goes g2.goes _ _ r1) r2 h2 (fun d v H3 hd g3 r3 => q d v H3 hd ((g1.trans g2).trans g3) r3) (x.gr (g1.trans g2))
def qSf : V → List V → Hp → VK → Prop := fun x xs H Q => ∃ a b : Str, x = .str a ∧ xs = [.str b] ∧ (b.length == 0) = false ∧ a.length ≤ sizeLine ∧ ∀ p, H p = none → Q (.ref p) (upd H p (.tup [.str (Txt.partition a b).1, .str (Txt.partition a b).2.1, .str (Txt.partition a b).2.2]))
def qPa : O2 := fun x y P _ => ∃ a b : Str, x = .str a ∧ y = .str b ∧ (b.length == 0) = false ∧ a.length ≤ sizeLine ∧ P (.tup [.str (Txt.partition a b).1, .str (Txt.partition a b).2.1, .str (Txt.partition a b).2.2])
theorem qP2 : OpS K E1 (fun x y => qSf x [y]) qPa := by
  intro F M H x y a b P X Q lv ra rb h q _
  obtain ⟨u, v, rfl, rfl, h0, h1, p⟩ := h
  exact ⟨u, v, ra, by rw [show y = .str v from rb], h0, h1, fun z hz => q _ _ _ p (.new hz) (qNq lv hz (.cons rfl (.cons rfl (.one rfl))))⟩
def qIp : V → List V → Hp → VK → Prop := fun x xs H Q => ∃ a b, x = .str a ∧ xs = [.str b] ∧ Q (.bl (Txt.startswith a b)) H
def qHg : O2 := fun x y P _ => ∃ a b, x = .str a ∧ y = .str b ∧ P (.bl (Txt.startswith a b))
theorem qK0 : OpS K E1 (fun x y => qIp x [y]) qHg := by
  intro F M H x y a b P X Q lv ra rb h q _
  obtain ⟨u, v, rfl, rfl, p⟩ := h
  exact ⟨u, v, ra, by rw [show y = .str v from rb], q _ _ _ p .refl rfl⟩
theorem qMo {X : Cx} : MtR X "str.startswith" qIp := mt_startswith
def qNj (ys : List Str) : List D := ys.map D.str
/-! ### slices of texts -/
def qPq (fe : FE) (fl fh : FO) : FE := fun ρ P X => fe ρ (fun d => fl ρ (fun l => fh ρ (fun h => ∃ z : Str, d = .str z ∧ z.length ≤ sizeLine ∧ P (.str (Txt.slice z l h))) X) X) X
theorem qLy {te : TE} {tl th : TO} {fe : FE} {fl fh : FO} (he : SE K Ta ow E te fe) (hl : SO K Ta ow E tl fl) (hh : SO K Ta ow E th fh) : SE K Ta ow E (tSl C8.rSlX te tl th) (qPq fe fl fh) := by
  intro w H σ ρ P X Q e h q x
  refine he w H σ ρ _ X _ e h (fun d v H1 hd g1 r => ?_) x
  have e1 := e.grow g1
  refine hl w H1 σ ρ _ X _ e1 hd (fun l H2 hd2 g2 => ?_) (x.gr g1)
  have e2 := e1.grow g2
  refine hh w H2 σ ρ _ X _ e2 hd2 (fun hh H3 hd3 g3 => ?_) (x.gr (g1.trans g2))
  obtain ⟨z, rfl, hz, p⟩ := hd3
  unfold C8.rSlX
  exact ⟨z, r, hz, q _ _ H3 p ((g1.trans g2).trans g3) rfl⟩
/-! ### the signs of a text, one by one -/
def qUo (fe : FE) : FI := fun ρ P X => fe ρ (fun d => ∃ z : Str, d = .str z ∧ P (z.cps.toList.map fun c => D.str ⟨#[c]⟩)) X
theorem qSh {te : TE} {fe : FE} (he : SE K Ta ow E te fe) : SI K Ta ow E (iStr te) (qUo fe) := by
  intro w H σ ρ P X R e h k x
  refine he w H σ ρ _ X _ e h (fun d v H1 hd g r => ?_) x
  obtain ⟨z, rfl, p⟩ := hd
  refine ⟨z, r, k _ _ H1 p g ?_⟩
  intro M2 H2 i go lv
  have sz : (z.cps.toList.map fun c => D.str ⟨#[c]⟩).length = z.cps.size := by rw [List.length_map, Array.length_toList]
  refine ⟨fun hl => by rw [sz] at hl; exact hl, fun d hd => ?_⟩
  rw [List.getElem?_map] at hd
  cases hc : z.cps.toList[i]? with
  | none => rw [hc] at hd; cases hd
  | some c =>
    rw [hc] at hd
    cases hd
    have hc' : z.cps[i]? = some c := by rw [← Array.getElem?_toList]; exact hc
    refine ⟨?_, fun y H3 hy => ?_⟩
    · have := (Array.getElem?_eq_some_iff.mp hc').1
      exact this
    · obtain ⟨rfl, c', h1, rfl⟩ := hy
      rw [hc'] at h1
      cases h1
      exact ⟨.refl, rfl⟩
/-! ### in, not in, index among texts -/
/-! ### a text several times -/
def qM6 (x : Str) (n : Nat) : Str := ⟨(List.replicate n x.cps.toList).flatten.toArray⟩
def qE8 : V → V → Hp → VK → Prop := fun x y H Q => ∃ (a : Str) (n : Int), x = .str a ∧ y = .int n ∧ a.length = 1 ∧ 0 ≤ n ∧ n ≤ 100000 ∧ Q (.str (qM6 a n.toNat)) H
theorem qM8 (l : List (Array Nat)) : ∀ b : Array Nat, (l.foldl (· ++ ·) b) = (b.toList ++ (l.map Array.toList).flatten).toArray := by
  induction l with
  | nil => intro b; simp
  | cons a l ih =>
    intro b
    rw [List.foldl_cons, ih]
    simp
theorem qNe {a : Str} (l1 : a.length = 1) : qM6 a 1 = a := by
  unfold qM6
  rw [List.replicate_one, List.flatten_singleton]
theorem qL9 (a : Str) (n : Nat) : (⟨(List.replicate n a.cps).foldl (· ++ ·) #[]⟩ : Str) = qM6 a n := by
  rw [qM8]
  unfold qM6
  simp
theorem qN7 {a : Str} (l1 : a.length = 1) (n : Nat) : (qM6 a n).length = n := by
  have e : a.cps.toList.length = 1 := by rw [Array.length_toList]; exact l1
  show (List.replicate n a.cps.toList).flatten.toArray.size = n
  rw [List.size_toArray, List.length_flatten, List.map_replicate, e, List.sum_replicate_nat]
  omega
theorem qDy {X : Cx} : OpR X (binaryOp .Mult) qE8 := by
  intro pins s σ H x y v u Q I rx ry h
  obtain ⟨a, n, rfl, rfl, l1, h0, h1, q⟩ := h
  obtain ⟨t, rfl⟩ := rx
  obtain ⟨t', rfl⟩ := ry
  have ea : (n < 1) ∨ (n = 1) ∨ (1 < n) := by omega
  have big : (100000 : Nat) ≤ sizeLine := by rw [sizeLine_eq]; decide
  refine PySem.P.mul_str ?_ ?_ ?_ ?_
  · rw [decide_eq_false (by omega), decide_eq_false (by omega)]; rfl
  · intro z1 z2 z3
    rw [l1] at z3
    have : (1 : Int) ≤ (2 ^ 63 - 1) / n := (Int.le_ediv_iff_mul_le (by omega)).mpr (by omega)
    omega
  · intro z1 z2
    rw [l1, Nat.one_mul]
    exact decide_eq_false (by omega)
  · rcases ea with e | e | e
    · rw [if_pos e]
      obtain rfl : n = 0 := by omega
      exact ⟨by show 0 ≤ sizeLine; omega, ⟨.str _, H, I.tok _, ⟨_, rfl⟩, q⟩⟩
    · rw [if_neg (by omega), if_pos (by rw [e]; rfl)]
      subst e
      rw [show (1 : Int).toNat = 1 from rfl, qNe l1] at q
      exact ⟨.str _, H, I, ⟨_, rfl⟩, q⟩
    · rw [if_neg (by omega), if_neg (by rw [l1]; simp; omega), qL9]
      exact ⟨by rw [qN7 l1]; omega, ⟨.str _, H, I.tok _, ⟨_, rfl⟩, q⟩⟩
def qHd : O2 := fun a b P _ => ∃ (x : Str) (n : Int), a = .str x ∧ b = .int n ∧ x.length = 1 ∧ 0 ≤ n ∧ n ≤ 100000 ∧ P (.str (qM6 x n.toNat))
theorem qDv : OpS K E1 qE8 qHd := by
  intro F M H x y a b P X Q lv ra rb h q _
  obtain ⟨u, n, rfl, rfl, l1, h0, h1, p⟩ := h
  exact ⟨u, n, ra, rb, l1, h0, h1, q _ _ _ p .refl rfl⟩
/-! ### a try whose suite is never reached -/
end
end MR

set_option Elab.async false
set_option linter.all false
set_option maxRecDepth 100000
set_option maxHeartbeats 4000000
set_option exponentiation.threshold 20000
namespace MR
open PySem PySem.Spec PyProof.Rows L2
end MR

set_option Elab.async false
set_option linter.all false
set_option maxRecDepth 100000
set_option maxHeartbeats 4000000
set_option exponentiation.threshold 20000
namespace MR
open PySem PySem.Spec PyProof.Rows L2
def qCw : FSp := fun ds P _ => ∃ z : Int, ds = [.feed, .int z] ∧ 0 < z ∧ Sml z ∧ ∀ d : Int, -z < d → d < z → P (.int d)
def fIs : FSp := fun ds P _ => ∃ q a b n m, ds = [.rat q, .int a, .int b] ∧ b ≠ 0 ∧ Sz n q ∧ a.natAbs < 2 ^ m ∧ b.natAbs < 2 ^ m ∧ n + m ≤ 1000000 ∧ P (.bl (decide (q = Rat.divInt a b)))
def qVg (p q : Int × Int) : Int × Int := if p.1 = 0 then q else if q.1 = 0 then p else if p.2 = q.2 then (p.1 + q.1, p.2) else (p.1 * q.2 + q.1 * p.2, p.2 * q.2)
def qTa (p q : Int × Int) : Int × Int := (p.1 * q.1, p.2 * q.2)
structure SzP (n : Nat) (p : Int × Int) : Prop where
  a : p.1.natAbs < 2 ^ n
  b : p.2.natAbs < 2 ^ n
  pos : 0 < p.2
def qBr (K : PySem.W.Frag) (cs : List Str) : TS :=
  (tRet (tAndV (tCB (rIsi K) (tCons (tVar 0) (tCons (tC (.ty "int")) tNil))) (tNotV (tCB (rIsi K) (tCons (tVar 0) (tCons (tC (.ty "bool")) tNil))))))
def qBv (cs : List Str) : FS :=
  (qEc (qIw (qOb cs (.ty "int") (qAi 0)) (qPh (qOb cs (.ty "bool") (qAi 0)))))
theorem qEs {K : PySem.W.Frag} {cs : List Str} (T : KF K cs) (hRatio : ("Ratio" : Str) ∈ cs) : SS K Ta [] [] [] [] (fun _ => E0) (qBr K cs) (qBv cs) :=
  (qBg (by decide) (qF2 (qGj (c := (.ty "int")) T.toKT (qAb (by decide))) (qO0 (qGj (c := (.ty "bool")) T.toKT (qAb (by decide))))))
def qCi (K : PySem.W.Frag) (cs : List Str) : TS :=
  (tSeq (tAsg (tOp qMa (tC (.int 1)) (tOp qEj (tC (.int 2)) (tCall (lift K qB4) [] E0 (tCons (tVar 0) (tCons (tC (.int 2)) tNil))))) (gName 2))
  (tRet (tOp qEj (tVar 2) (tCall (lift K qB4) [] E0 (tCons (tVar 0) (tCons (tVar 1) tNil))))))
def qCo (cs : List Str) : FS :=
  (qBn (qDz 2 (fOp qTv (fC (.int 1)) (fOp qL6 (fC (.int 2)) (qAw qB4 [] (qAc (qAi 0) (qAc (fC (.int 2)) qBb))))))
  (qEc (fOp qL6 (qAi 2) (qAw qB4 [] (qAc (qAi 0) (qAc (qAi 1) qBb))))))
theorem qGs {K : PySem.W.Frag} {cs : List Str} (T : KF K cs) (hRatio : ("Ratio" : Str) ∈ cs) : SS K Ta [] [] [] [] (fun _ => E0) (qCi K cs) (qCo cs) :=
  (qAh (ow1 := []) (qBk (by decide) (by decide) (qAd (fun _ => qOx) qAf (qAd (fun _ => qE2) qAf (qAn Lift.refl qAo (qAa (qAb (by decide)) (qAa qAf qAe))))))
  (qBg (by decide) (qAd (fun _ => qE2) (qAb (by decide)) (qAn Lift.refl qAo (qAa (qAb (by decide)) (qAa (qAb (by decide)) qAe))))))
def qEo (K : PySem.W.Frag) (cs : List Str) : TS :=
  (tSeq (tIfS (tOr (tNot (tB (tCB (rIsi K) (tCons (tVar 0) (tCons (tC (.ref (He.ga K "Ratio"))) tNil))))) (tOr (tNot (tB (tCall (lift K (qCj cs)) [] E0 (tCons (tFld K (tVar 0) "top") tNil)))) (tNot (tB (tCall (lift K (qCj cs)) [] E0 (tCons (tFld K (tVar 0) "bottom") tNil)))))) (tRet (tC (.bl false))) tNext)
  (tRet (tAndV (tOp qUj (tFld K (tVar 0) "bottom") (tC (.int 1))) (tOp rEq (tOp qEj (tFld K (tVar 0) "top") (tVar 2)) (tOp qEj (tVar 1) (tFld K (tVar 0) "bottom"))))))
def qFy (cs : List Str) : FS :=
  (qBn (qEl (fOr (qIu (fB (qOb cs (.own "Ratio") (qAi 0)))) (fOr (qIu (fB (qAw (qCj cs) [] (qAc (qHv "Ratio" "top" (qAi 0)) qBb)))) (qIu (fB (qAw (qCj cs) [] (qAc (qHv "Ratio" "bottom" (qAi 0)) qBb)))))) (qEc (fC (.bl false))) qBu)
  (qEc (qIw (fOp oGe (qHv "Ratio" "bottom" (qAi 0)) (fC (.int 1))) (fOp oEq (fOp qL6 (qHv "Ratio" "top" (qAi 0)) (qAi 2)) (fOp qL6 (qAi 1) (qHv "Ratio" "bottom" (qAi 0)))))))
theorem qK9 {K : PySem.W.Frag} {cs : List Str} (T : KF K cs) (hRatio : ("Ratio" : Str) ∈ cs) : SS K Ta [] [] [] [] (fun _ => E0) (qEo K cs) (qFy cs) :=
  (qAh (ow1 := []) (qC1 (by decide) (qH3 (qDl (qKk (qGj (c := (.own "Ratio")) T.toKT (qAb (by decide))))) (qH3 (qDl (qKk (qAn Lift.refl qAo (qAa (qB8 (T.fld _ hRatio _ (by decide)) (qAb (by decide))) qAe)))) (qDl (qKk (qAn Lift.refl qAo (qAa (qB8 (T.fld _ hRatio _ (by decide)) (qAb (by decide))) qAe)))))) (qBg (by decide) qGw) (qA9 (by decide)))
  (qBg (by decide) (qF2 (qAd (fun _ => qTe) (qB8 (T.fld _ hRatio _ (by decide)) (qAb (by decide))) qAf) (qAd (fun _ => qDp) (qAd (fun _ => qE2) (qB8 (T.fld _ hRatio _ (by decide)) (qAb (by decide))) (qAb (by decide))) (qAd (fun _ => qE2) (qAb (by decide)) (qB8 (T.fld _ hRatio _ (by decide)) (qAb (by decide))))))))
theorem qEq {cs : List Str} (hR : ("Ratio" : Str) ∈ cs) (ds : List D) (P : D → Prop) (X : XP) (h : qCj cs ds P X) : qBv cs (qIo P X0) (qB7 1 ds) := by
  obtain ⟨d, b, rfl, hb, p⟩ := h
  simp_arith [qBv]
  unfold qSd at hb
  cases h1 : isD cs (.ty "int") d with
  | none => rw [h1] at hb; cases hb
  | some k =>
    rw [h1] at hb
    refine ⟨k, rfl, ?_⟩
    cases k with
    | false => cases hb; exact p
    | true =>
      cases h2 : isD cs (.ty "bool") d with
      | none => rw [h2] at hb; cases hb
      | some k2 =>
        rw [h2] at hb
        have : (!k2) = b := Option.some.inj hb
        subst this
        exact ⟨k2, rfl, p⟩
theorem qLl {z : Int} {P : D → Prop} {X : XP} (h0 : 0 < z) (h9 : Sml z) (h : ∀ d : Int, 0 ≤ d → d < z → P (.int d)) : qB4 [.feed, .int z] P X := ⟨z, rfl, h0, h9, h⟩
theorem qG4 {cs : List Str} (hR : ("Ratio" : Str) ∈ cs) (ds : List D) (P : D → Prop) (X : XP) (h : qCw ds P X) : qCo cs (qIo P X0) (qB7 3 ds) := by
  obtain ⟨z, rfl, z0, z9, p⟩ := h
  simp_arith [qCo]
  refine qLl (by decide) (by decide) fun d d0 d1 => ?_
  simp_arith []
  refine ⟨qG1 (by decide), ?_⟩
  refine qLl z0 z9 fun e e0 e1 => ?_
  simp_arith []
  refine ⟨qG1 (by omega), ?_⟩
  have : d = 0 ∨ d = 1 := by omega
  rcases this with rfl | rfl
  · have := p e (by omega) e1
    rw [show (1 - 2 * 0 : Int) * e = e by omega]
    exact this
  · have := p (-e) (by omega) (by omega)
    rw [show (1 - 2 * 1 : Int) * e = -e by omega]
    exact this
theorem qNn {q : Rat} {a b : Int} (hb : b ≠ 0) : q.num * b = a * (q.den : Nat) ↔ q = Rat.divInt a b := by
  have h1 : Rat.divInt q.num (q.den : Nat) = Rat.divInt a b ↔ q.num * b = a * (q.den : Nat) := Rat.divInt_eq_divInt_iff (qVo q) hb
  rw [Rat.num_divInt_den] at h1
  exact h1.symm
theorem qLr {cs : List Str} (hR : ("Ratio" : Str) ∈ cs) (ds : List D) (P : D → Prop) (X : XP) (h : fIs ds P X) : qFy cs (qIo P X0) (qB7 3 ds) := by
  obtain ⟨q, a, b, n, m, rfl, hb, hq, ha, hb2, hs, p⟩ := h
  have d1 : decide ((1 : Int) ≤ ((q.den : Nat) : Int)) = true := decide_eq_true (by have := q.den_nz; omega)
  simp_arith [qFy, qIx hR, qEt, qGv, qG2, Bool.not_true, d1]
  have m0 : 0 < m := by
    rcases Nat.eq_zero_or_pos m with e | e
    · subst e; omega
    · exact e
  refine ⟨qLq hq.num hb2 hq.pos m0 (by omega), qLq ha (dsz hq) m0 hq.pos (by omega), ?_⟩
  rw [decide_eq_decide.mpr (qNn hb)]
  exact p
theorem qLd {i j : Int} {n m : Nat} (hi : i.natAbs < 2 ^ n) (hj : j.natAbs < 2 ^ m) (hs : n + m ≤ 900000) : IntMulOk i j := by
  refine qLq (a := n + 1) (b := m + 1) (Nat.lt_of_lt_of_le hi (Nat.pow_le_pow_right (by decide) (by omega))) (Nat.lt_of_lt_of_le hj (Nat.pow_le_pow_right (by decide) (by omega))) (by omega) (by omega) (by omega)
theorem SzP.mono {n m : Nat} {p : Int × Int} (h : SzP n p) (hn : n ≤ m) : SzP m p := ⟨Nat.lt_of_lt_of_le h.a (Nat.pow_le_pow_right (by decide) hn), Nat.lt_of_lt_of_le h.b (Nat.pow_le_pow_right (by decide) hn), h.pos⟩
theorem qDt {K : PySem.W.Frag} {cs : List Str} (vs : List V) (H : Hp) (Q : VK) (E : XK) (h : (lift K (qCj cs)) vs H Q E) : vs.length = 1 := qBo (fun ds P X h => by unfold qCj at h; first | ((repeat (first | (obtain ⟨rfl, _⟩ := h; exact rfl) | obtain ⟨_, h⟩ := h)); done) | (split at h <;> first | rfl | exact h.elim)) h
theorem qD1 {K : PySem.W.Frag} {cs : List Str} (T : KF K cs) (hRatio : ("Ratio" : Str) ∈ cs) (vs : List V) (H : Hp) (Q : VK) (E : XK) (h : (lift K (qCj cs)) vs H Q E) : qBr K cs { nx := fun _ H' => Q .non H', rt := Q } (start ["_law_value"] vs) H :=
  qEa rfl (qEs T hRatio) (qEq hRatio) vs H Q E h
theorem qF5 {K : PySem.W.Frag} {cs : List Str} (vs : List V) (H : Hp) (Q : VK) (E : XK) (h : (lift K qCw) vs H Q E) : vs.length = 2 := qBo (fun ds P X h => by unfold qCw at h; first | ((repeat (first | (obtain ⟨rfl, _⟩ := h; exact rfl) | obtain ⟨_, h⟩ := h)); done) | (split at h <;> first | rfl | exact h.elim)) h
theorem qGc {K : PySem.W.Frag} {cs : List Str} (T : KF K cs) (hRatio : ("Ratio" : Str) ∈ cs) (vs : List V) (H : Hp) (Q : VK) (E : XK) (h : (lift K qCw) vs H Q E) : qCi K cs { nx := fun _ H' => Q .non H', rt := Q } (start ["_law_feed_here", "_law_size", "_law_sign"] vs) H :=
  qEa rfl (qGs T hRatio) (qG4 hRatio) vs H Q E h
theorem qIt {K : PySem.W.Frag} {cs : List Str} (vs : List V) (H : Hp) (Q : VK) (E : XK) (h : (lift K fIs) vs H Q E) : vs.length = 3 := qBo (fun ds P X h => by unfold fIs at h; first | ((repeat (first | (obtain ⟨rfl, _⟩ := h; exact rfl) | obtain ⟨_, h⟩ := h)); done) | (split at h <;> first | rfl | exact h.elim)) h
theorem qKu {K : PySem.W.Frag} {cs : List Str} (T : KF K cs) (hRatio : ("Ratio" : Str) ∈ cs) (vs : List V) (H : Hp) (Q : VK) (E : XK) (h : (lift K fIs) vs H Q E) : qEo K cs { nx := fun _ H' => Q .non H', rt := Q } (start ["_law_value", "_law_top", "_law_bottom"] vs) H :=
  qEa rfl (qK9 T hRatio) (qLr hRatio) vs H Q E h
end MR

set_option Elab.async false
set_option linter.all false
set_option maxRecDepth 100000
set_option maxHeartbeats 4000000
set_option exponentiation.threshold 20000
namespace MR
open PySem PySem.Spec PyProof.Rows L2
/-! ### pairs: products and sums of rows -/
def qSp (ps : List (Int × Int)) (k : Nat) : Int × Int := ps.getD k (0, 1)
theorem qN3 {ps : List (Int × Int)} {k : Nat} (h : k < ps.length) : ps[k]? = some (qSp ps k) := by
  unfold qSp
  rw [List.getD_eq_getElem?_getD, List.getElem?_eq_getElem h]
  rfl
theorem qJn {ps : List (Int × Int)} {k : Nat} (h : k < ps.length) : qSp ps k ∈ ps := List.mem_of_getElem? (qN3 h)
/-- the cell k when i rows are done -/
def prC (ps qs : List (Int × Int)) : Nat → Nat → Int × Int
  | 0, _ => (0, 1)
  | i + 1, k => if i ≤ k ∧ k < i + qs.length then qVg (prC ps qs i k) (qTa (qSp ps i) (qSp qs (k - i))) else prC ps qs i k
/-- sizes that a sum of products goes through -/
structure SumS (ps qs : List (Int × Int)) (S : Nat → Int × Int → Prop) : Prop where
  zero : S 0 (0, 1)
  mono : ∀ c r, S c r → S (c + 1) r
  step : ∀ c r p q, c < qs.length → S c r → p ∈ ps → q ∈ qs → (∃ n m, SzP n p ∧ SzP m q ∧ n + m ≤ 900000) ∧ (∃ n m, SzP n r ∧ SzP m (qTa p q) ∧ n + m ≤ 900000) ∧ S (c + 1) (qVg r (qTa p q))
section
variable {ps qs : List (Int × Int)} {S : Nat → Int × Int → Prop}
/-- how many products are in the cell -/
def qPu (m i k : Nat) : Nat := min i (k + 1) - min i (k + 1 - m)
theorem SumS.le (h : SumS ps qs S) {c d : Nat} (hc : c ≤ d) {r : Int × Int} (hr : S c r) : S d r := by
  obtain ⟨e, rfl⟩ := Nat.exists_eq_add_of_le hc
  induction e with
  | zero => exact hr
  | succ e ih => exact h.mono _ _ (ih (by omega))
theorem SumS.cell (h : SumS ps qs S) : ∀ i k, i ≤ ps.length → S (qPu qs.length i k) (prC ps qs i k)
  | 0, k, _ => h.le (Nat.zero_le _) h.zero
  | i + 1, k, hi => by
    have ih := h.cell i k (by omega)
    unfold prC
    by_cases hc : i ≤ k ∧ k < i + qs.length
    · rw [if_pos hc]
      have e : qPu qs.length (i + 1) k = qPu qs.length i k + 1 := by unfold qPu; omega
      rw [e]
      have hlt : qPu qs.length i k < qs.length := by unfold qPu; omega
      exact (h.step _ _ _ _ hlt ih (qJn (by omega)) (qJn (by omega))).2.2
    · rw [if_neg hc]
      refine h.le ?_ ih
      unfold qPu; omega
end
/-! ### their values -/
end MR

set_option Elab.async false
set_option linter.all false
set_option maxRecDepth 100000
set_option maxHeartbeats 4000000
set_option exponentiation.threshold 20000
namespace MR
open PySem PySem.Spec PyProof.Rows L2
structure SzQ (m : Nat) (p : Int × Int) : Prop where
  a : p.1.natAbs < 2 ^ m
  b : p.2.natAbs < 2 ^ m
  ne : p.2 ≠ 0
theorem SzP.q {m : Nat} {p : Int × Int} (h : SzP m p) : SzQ m p := ⟨h.a, h.b, Int.ne_of_gt h.pos⟩
section
variable {ps : List (Int × Int)} {m : Nat} {FD : FEnds}
end
end MR

set_option Elab.async false
set_option linter.all false
set_option maxRecDepth 100000
set_option maxHeartbeats 4000000
set_option exponentiation.threshold 20000
namespace MR
open PySem PySem.Spec PyProof.Rows L2
/-! ### places -/
section
variable {K : PySem.W.Frag} {Ta : List (Addr × Str)} {w : Wd} {H : Hp} {σ : L2.St} {ρ : Env} {M : Addr → Prop} {x : Addr}
end
end MR

set_option linter.all false
/-! NSeq: sequences of numbers, how moving acts on them; values over a common bottom -/
namespace MR
/-! ### over a common bottom -/
/-- q = a / d with a at most N -/
def Ov (N : Nat) (d : Int) (q : Rat) : Prop := ∃ a : Int, q * (d : Rat) = (a : Rat) ∧ a.natAbs ≤ N
theorem Ov.mono {N M : Nat} {d : Int} {q : Rat} (h : Ov N d q) (hn : N ≤ M) : Ov M d q := let ⟨a, h1, h2⟩ := h; ⟨a, h1, by omega⟩
theorem Ov.div {N : Nat} {d : Int} {q : Rat} (h : Ov N d q) (hd : 0 < d) : ∃ a : Int, q = Rat.divInt a d ∧ a.natAbs ≤ N := by
  obtain ⟨a, h1, h2⟩ := h
  refine ⟨a, ?_, h2⟩
  have : (d : Rat) ≠ 0 := fun z => by
    have := Rat.intCast_inj.mp (z.trans Rat.intCast_zero.symm)
    omega
  rw [Rat.divInt_eq_div, ← h1]
  grind
theorem Ov.sz {N n m : Nat} {d : Int} {q : Rat} (h : Ov N d q) (hd : 0 < d) (hN : N < 2 ^ n) (hm : d.natAbs < 2 ^ m) : Sz (max n m) q := by
  obtain ⟨a, rfl, h2⟩ := h.div hd
  have h1 : 2 ^ n ≤ 2 ^ max n m := Nat.pow_le_pow_right (by decide) (Nat.le_max_left ..)
  have h3 : 2 ^ m ≤ 2 ^ max n m := Nat.pow_le_pow_right (by decide) (Nat.le_max_right ..)
  exact qOc (by omega) (by omega) (by omega)
theorem Ov.add {N M : Nat} {d : Int} {q r : Rat} (h1 : Ov N d q) (h2 : Ov M d r) : Ov (N + M) d (q + r) := by
  obtain ⟨a, e1, b1⟩ := h1
  obtain ⟨b, e2, b2⟩ := h2
  exact ⟨a + b, by rw [Rat.intCast_add, ← e1, ← e2]; grind, by omega⟩
theorem Ov.lift {N : Nat} {d : Int} {q : Rat} (h : Ov N d q) (e : Int) : Ov (N * e.natAbs) (d * e) q := by
  obtain ⟨a, e1, b1⟩ := h
  exact ⟨a * e, by rw [Rat.intCast_mul, Rat.intCast_mul, ← e1]; grind, by rw [Int.natAbs_mul]; exact Nat.mul_le_mul_right _ b1⟩
theorem Ov.neg {N : Nat} {d : Int} {q : Rat} (h : Ov N d q) : Ov N d (-q) := by
  obtain ⟨a, e1, b1⟩ := h
  exact ⟨-a, by rw [Rat.intCast_neg, ← e1]; grind, by omega⟩
theorem Ov.of {a b : Int} (hb : b ≠ 0) : Ov a.natAbs b (Rat.divInt a b) := by
  refine ⟨a, ?_, Nat.le_refl _⟩
  have : (b : Rat) ≠ 0 := fun z => hb (Rat.intCast_inj.mp (z.trans Rat.intCast_zero.symm))
  rw [Rat.divInt_eq_div]
  grind
theorem Ov.zero {d : Int} {N : Nat} : Ov N d 0 := ⟨0, by rw [Rat.zero_mul]; rfl, Nat.zero_le _⟩
theorem Ov.int (a : Int) : Ov a.natAbs 1 (a : Rat) := ⟨a, by rw [Rat.intCast_one, Rat.mul_one], Nat.le_refl _⟩
end MR

set_option Elab.async false
set_option linter.all false
set_option maxRecDepth 100000
set_option maxHeartbeats 4000000
set_option exponentiation.threshold 20000
namespace MR
open PySem PySem.Spec PyProof.Rows L2
theorem lc_list {α : Type} {g : FG} {fe : FE} {ρ0 : Env} {P : D → Prop} (mk f : α → D) : ∀ (xs : List α) (acc : List D), (∀ x, x ∈ xs → ∀ Q : D → Prop, Q (f x) → g (mk x) ρ0 fun ρ2 => fe ρ2 Q X0) → acc.length + xs.length < sizeLine → P (.lst (acc ++ xs.map f)) → qPj g qQu fe ρ0 P (xs.map mk) acc
  | [], acc, _, _, p => by
    rw [List.map_nil, List.append_nil] at p
    exact p
  | x :: xs, acc, h, hl, p => by
    rw [List.map_cons]
    unfold qPj
    have h1 := h x List.mem_cons_self
    show g (mk x) ρ0 fun ρ2 => qQu ρ2 (fun b => if b = true then fe ρ2 (fun y => acc.length < sizeLine ∧ qPj g qQu fe ρ0 P (xs.map mk) (acc ++ [y])) X0 else qPj g qQu fe ρ0 P (xs.map mk) acc) X0
    have := h1 (fun y => acc.length < sizeLine ∧ qPj g qQu fe ρ0 P (xs.map mk) (acc ++ [y])) ⟨by simp at hl; omega, lc_list mk f xs (acc ++ [f x]) (fun y hy => h y (List.mem_cons_of_mem _ hy)) (by simp at hl ⊢; omega) (by simpa using p)⟩
    exact this
end MR

set_option Elab.async false
set_option linter.all false
set_option maxRecDepth 100000
set_option maxHeartbeats 4000000
set_option exponentiation.threshold 20000
namespace MR
open PySem PySem.Spec PyProof.Rows L2
def est (a b : Nat) : Nat := if h : b = 0 then 0 else 1 + est b (a % b)
termination_by b
decreasing_by exact Nat.mod_lt _ (Nat.pos_of_ne_zero h)
theorem qHf (a : Nat) : est a 0 = 0 := by
  unfold est
  simp
theorem qHi {a b : Nat} (h : b ≠ 0) : est a b = 1 + est b (a % b) := by
  rw [est]
  rw [dif_neg h]
theorem qOl : ∀ (m a b : Nat), b < 2 ^ m → est a b ≤ 2 * m
  | 0, a, b, h => by
    have : b = 0 := by simpa using h
    rw [this, qHf]
    exact Nat.zero_le _
  | m + 1, a, b, h => by
    by_cases h0 : b = 0
    · rw [h0, qHf]
      exact Nat.zero_le _
    · rw [qHi h0]
      by_cases h1 : a % b = 0
      · rw [h1, qHf]
        omega
      · rw [qHi h1]
        have r1 : a % b < b := Nat.mod_lt _ (Nat.pos_of_ne_zero h0)
        have r2 : b % (a % b) < a % b := Nat.mod_lt _ (Nat.pos_of_ne_zero h1)
        have r3 : a % b + b % (a % b) ≤ b := by
          have := Nat.div_add_mod b (a % b)
          have hq : 1 ≤ b / (a % b) := (Nat.le_div_iff_mul_le (Nat.pos_of_ne_zero h1)).mpr (by omega)
          have : a % b * 1 ≤ a % b * (b / (a % b)) := Nat.mul_le_mul_left _ hq
          omega
        have := qOl m (a % b) (b % (a % b)) (by rw [Nat.pow_succ] at h; omega)
        omega

end MR

set_option Elab.async false
set_option linter.all false
set_option maxRecDepth 100000
set_option maxHeartbeats 4000000
/-! N05: fractions as texts, in lists of code points -/
namespace MR
open PySem PySem.Spec
open SX (S)
open TL (numL)
/-! ### plain digits -/
def qBm (l : List Nat) : Bool := decide (l ≠ []) && (decide (l.length ≤ 40) && (l.all (fun c => decide (48 ≤ c) && decide (c ≤ 57)) && (decide (l = [48]) || decide (l.head? ≠ some 48))))
theorem qBx {l : List Nat} : qBm l = true ↔ l ≠ [] ∧ l.length ≤ 40 ∧ (∀ c, c ∈ l → 48 ≤ c ∧ c ≤ 57) ∧ (l = [48] ∨ l.head? ≠ some 48) := by
  unfold qBm
  simp only [Bool.and_eq_true, Bool.or_eq_true, decide_eq_true_eq, List.all_eq_true]
theorem qCf {l : List Nat} (h : ¬ (l ≠ [] ∧ l.length ≤ 40 ∧ (∀ c, c ∈ l → 48 ≤ c ∧ c ≤ 57) ∧ (l = [48] ∨ l.head? ≠ some 48))) : qBm l = false := by
  cases e : qBm l with
  | false => rfl
  | true => exact absurd (qBx.mp e) h
def vL (l : List Nat) : Nat := NumText.digitsVal l
theorem qM9 : ∀ n : Nat, 0 < n → (numL n).head? ≠ some 48 := by
  intro n
  induction n using Nat.strongRecOn with
  | _ n ih =>
    intro h
    by_cases hn : n < 10
    · rw [TL.numL_lt hn]
      simp
      omega
    · rw [TL.numL_step (by omega)]
      have := ih (n / 10) (by omega) (by omega)
      cases e : numL (n / 10) with
      | nil => exact absurd e (TL.numL_ne _)
      | cons c r =>
        rw [e] at this
        simpa using this
theorem qIk {n : Nat} (h : n < 10 ^ 40) : qBm (numL n) = true := by
  refine qBx.mpr ⟨TL.numL_ne n, TL.numL_len (by decide) h, fun c hc => TL.numL_digits n c hc, ?_⟩
  rcases Nat.eq_zero_or_pos n with rfl | h0
  · exact .inl (by decide +kernel)
  · exact .inr (qM9 n h0)
theorem qIm (n : Nat) : vL (numL n) = n := TL.numL_val n
theorem qLk {n : Nat} {s : Nat} (h : s < 48 ∨ 57 < s) : s ∉ numL n := TL.numL_free h
/-! ### whole numbers -/
def qDg (z : Int) : List Nat := if z < 0 then 45 :: numL z.natAbs else numL z.natAbs
theorem qJm (z : Int) : Str.ofString (toString z) = S (qDg z) := by
  unfold qDg
  by_cases h : z < 0
  · rw [if_pos h, PyProof.Rows.toString_neg h]
    refine TL.ext_tl ?_
    rw [TL.tl_ofString, String.toList_append, List.map_append]
    have e : (0 - z) = ((z.natAbs : Nat) : Int) := by omega
    rw [e]
    have := TL.tl_num z.natAbs
    rw [TL.tl_ofString] at this
    rw [this]
    rfl
  · rw [if_neg h]
    have e : z = ((z.natAbs : Nat) : Int) := by omega
    conv => lhs; rw [e]
    exact SX.num_S _
theorem qPf (z : Int) : qDg z ≠ [] := by
  unfold qDg
  split
  · exact List.cons_ne_nil _ _
  · exact TL.numL_ne _
theorem qO3 {z : Int} {s : Nat} (h : s < 45 ∨ 45 < s) (h2 : s < 48 ∨ 57 < s) : s ∉ qDg z := by
  unfold qDg
  split
  · intro hm
    rcases List.mem_cons.mp hm with e | hm
    · omega
    · exact qLk h2 hm
  · exact qLk h2
theorem qGq {z : Int} (h : z.natAbs < 10 ^ 40) : (qDg z).length ≤ 41 := by
  have := TL.numL_len (k := 40) (by decide) h
  unfold qDg
  split
  · rw [List.length_cons]; omega
  · omega
/-! ### reading -/
def qJe (l : List Nat) : List Nat × Option (List Nat) := match TL.par [47] [] l with
  | some (p, q) => (p, some q)
  | none => (l, none)
theorem qJf {p q : List Nat} (h : 47 ∉ p) : TL.par [47] [] (p ++ 47 :: q) = some (p, q) := SX.par_head (sep := []) q h
theorem qJt {p : List Nat} (h : 47 ∉ p) : TL.par [47] [] p = none := SX.par_head_none h
theorem qBs {p q : List Nat} (h : 47 ∉ p) : qJe (p ++ 47 :: q) = (p, some q) := by unfold qJe; rw [qJf h]
theorem qEk {p : List Nat} (h : 47 ∉ p) : qJe p = (p, none) := by unfold qJe; rw [qJt h]
theorem qFn (l : List Nat) : (47 ∉ l ∧ qJe l = (l, none)) ∨ ∃ p q, 47 ∉ p ∧ l = p ++ 47 :: q ∧ qJe l = (p, some q) := by
  by_cases h : 47 ∈ l
  · obtain ⟨p, q, e, hp⟩ : ∃ p q, l = p ++ 47 :: q ∧ 47 ∉ p := by
      induction l with
      | nil => cases h
      | cons c r ih =>
        by_cases hc : c = 47
        · exact ⟨[], r, by rw [hc]; rfl, by simp⟩
        · have hr : 47 ∈ r := by
            rcases List.mem_cons.mp h with e | e
            · exact absurd e.symm hc
            · exact e
          obtain ⟨p, q, e, hp⟩ := ih hr
          exact ⟨c :: p, q, by rw [e]; rfl, fun z => by
            rcases List.mem_cons.mp z with e | e
            · exact hc e.symm
            · exact hp e⟩
    exact .inr ⟨p, q, hp, e, by rw [e]; exact qBs hp⟩
  · exact .inl ⟨h, qEk h⟩
def qJ3 (h : List Nat) : Bool := decide (h.head? = some 45)
def qFb (h : List Nat) : List Nat := if qJ3 h = true then h.drop 1 else h
def sgL (h : List Nat) : Int := if qJ3 h = true then -1 else 1
def qKx (h : List Nat) : Bool := !qBm (qFb h) || (qJ3 h && decide (qFb h = [48]))
def qLz (t : List Nat) : Bool := !qBm t || (decide (t = [48]) || decide (t = [49]))
def qIf (h : List Nat) (t : Option (List Nat)) : Option Rat := match t with
  | none => some (Rat.divInt (sgL h * (vL (qFb h) : Nat)) 1)
  | some t => if qLz t = true then none else if Nat.gcd (vL (qFb h)) (vL t) ≠ 1 then none else some (Rat.divInt (sgL h * (vL (qFb h) : Nat)) (vL t : Nat))
def qFo (h : List Nat) (t : Option (List Nat)) : Option Rat := if qKx h = true then none else qIf h t
def qBh (l : List Nat) : Option Rat := qFo (qJe l).1 (qJe l).2
/-- which signs a text that is read has -/
theorem qKv {l : List Nat} {q : Rat} (h : qBh l = some q) : ∀ c, c ∈ l → c = 45 ∨ c = 47 ∨ (48 ≤ c ∧ c ≤ 57) := by
  have hd : ∀ p : List Nat, qKx p = false → ∀ c, c ∈ p → c = 45 ∨ c = 47 ∨ (48 ≤ c ∧ c ≤ 57) := by
    intro p hb c hc
    unfold qKx at hb
    have h1 : qBm (qFb p) = true := by
      cases e : qBm (qFb p) with
      | true => rfl
      | false => rw [e] at hb; cases hb
    have h2 := (qBx.mp h1).2.2.1
    unfold qFb qJ3 at h2
    cases p with
    | nil => cases hc
    | cons x r =>
      by_cases hx : x = 45
      · rcases List.mem_cons.mp hc with e | e
        · exact .inl (by omega)
        · refine .inr (.inr (h2 c ?_))
          rw [hx, List.head?_cons, decide_eq_true rfl, if_pos rfl]
          exact e
      · refine .inr (.inr (h2 c ?_))
        rw [List.head?_cons, decide_eq_false (fun z => hx (Option.some.inj z)), if_neg (by decide)]
        exact hc
  unfold qBh qFo qIf at h
  rcases qFn l with ⟨h0, e⟩ | ⟨p, t, hp, el, e⟩
  · rw [e] at h
    dsimp only at h
    split at h
    · cases h
    · next hb => exact hd l (by simpa using hb)
  · rw [e] at h
    dsimp only at h
    split at h
    · cases h
    · next hb =>
      split at h
      · cases h
      · next ht =>
        intro c hc
        rw [el] at hc
        rcases List.mem_append.mp hc with hc | hc
        · exact hd p (by simpa using hb) c hc
        · rcases List.mem_cons.mp hc with hc | hc
          · exact .inr (.inl hc)
          · have h1 : qBm t = true := by
              cases e : qBm t with
              | true => rfl
              | false => unfold qLz at ht; rw [e] at ht; exact absurd rfl ht
            exact .inr (.inr ((qBx.mp h1).2.2.1 c hc))
theorem qJ5 {l : List Nat} {c : Nat} (hc : c ∈ l) (h : c ≠ 45 ∧ c ≠ 47 ∧ ¬ (48 ≤ c ∧ c ≤ 57)) : qBh l = none := by
  cases e : qBh l with
  | none => rfl
  | some q =>
    rcases qKv e c hc with e | e | e
    · exact absurd e h.1
    · exact absurd e h.2.1
    · exact absurd e h.2.2
theorem qFh {p : List Nat} {t : Option (List Nat)} (h : qKx p = true) : qFo p t = none := by unfold qFo; rw [if_pos h]
theorem qFc {p t : List Nat} (h : qLz t = true) : qFo p (some t) = none := by
  unfold qFo qIf
  split
  · rfl
  · dsimp only
    rw [if_pos h]
theorem qIy {p : List Nat} (h : qBm (qFb p) = false) : qKx p = true := by unfold qKx; rw [h]; rfl
theorem qLh {p : List Nat} (h : qBm p = false) : qLz p = true := by unfold qLz; rw [h]; rfl
/-! ### the text of a fraction -/
def qA6 (q : Rat) : List Nat := qDg q.num ++ (if q.den = 1 then [] else 47 :: numL q.den)
theorem qDd (z : Int) : qFb (qDg z) = numL z.natAbs ∧ (qJ3 (qDg z) = decide (z < 0)) := by
  unfold qFb qJ3 qDg
  by_cases h : z < 0
  · rw [if_pos h, List.head?_cons, decide_eq_true rfl, if_pos rfl]
    exact ⟨rfl, by simp [h]⟩
  · rw [if_neg h]
    have : (numL z.natAbs).head? ≠ some 45 := by
      intro e
      exact qLk (n := z.natAbs) (s := 45) (by omega) (List.mem_of_head? e)
    rw [decide_eq_false this, if_neg (by decide)]
    exact ⟨rfl, by simp [h]⟩
theorem qOf (z : Int) : sgL (qDg z) * ((z.natAbs : Nat) : Int) = z := by
  unfold sgL
  rw [(qDd z).2]
  by_cases h : z < 0
  · rw [decide_eq_true h, if_pos rfl]; omega
  · rw [decide_eq_false h, if_neg (by decide)]; omega
theorem qVi : numL 0 = [48] := by decide +kernel
theorem qV1 : numL 1 = [49] := by decide +kernel
theorem qL5 {z : Int} (h : z.natAbs < 10 ^ 40) : qKx (qDg z) = false := by
  unfold qKx
  rw [(qDd z).1, (qDd z).2, qIk h]
  by_cases h0 : z < 0
  · have : numL z.natAbs ≠ [48] := by
      rw [← qVi]
      intro e
      have := TL.numL_inj e
      omega
    rw [decide_eq_false this]
    simp
  · rw [decide_eq_false h0]
    rfl
theorem qQc {n : Nat} (h : n < 10 ^ 40) (h2 : 2 ≤ n) : qLz (numL n) = false := by
  unfold qLz
  have a : numL n ≠ [48] := by
    rw [← qVi]
    intro e
    have := TL.numL_inj e
    omega
  have b : numL n ≠ [49] := by
    rw [← qV1]
    intro e
    have := TL.numL_inj e
    omega
  rw [qIk h, decide_eq_false a, decide_eq_false b]
  rfl
theorem qCe (z : Int) : 47 ∉ qDg z := qO3 (by omega) (by omega)
theorem qFs {q : Rat} (h1 : q.num.natAbs < 10 ^ 40) (h2 : q.den < 10 ^ 40) : qBh (qA6 q) = some q := by
  unfold qBh qA6
  by_cases hd : q.den = 1
  · rw [if_pos hd, List.append_nil, qEk (qCe _)]
    unfold qFo qIf
    rw [qL5 h1, if_neg (by decide)]
    dsimp only
    rw [(qDd _).1, qIm, qOf]
    have e : Rat.divInt q.num (q.den : Int) = q := Rat.num_divInt_den q
    rw [hd] at e
    exact congrArg some e
  · rw [if_neg hd, qBs (qCe _)]
    unfold qFo qIf
    have hd0 := q.den_pos
    rw [qL5 h1, if_neg (by decide)]
    dsimp only
    rw [qQc h2 (by omega), if_neg (by decide), (qDd _).1, qIm, qIm, qOf]
    have cp : Nat.gcd q.num.natAbs q.den = 1 := q.reduced
    rw [if_neg (by rw [cp]; decide), Rat.num_divInt_den]
theorem qFk {q : Rat} (h1 : q.num.natAbs < 10 ^ 40) (h2 : q.den < 10 ^ 40) : (qA6 q).length ≤ 82 := by
  have a := qGq h1
  have b := TL.numL_len (k := 40) (by decide) h2
  unfold qA6
  rw [List.length_append]
  split
  · simp; omega
  · rw [List.length_cons]; omega
/-! ### spoiled texts -/
theorem qPc (l : List Nat) : qBh (l ++ [10]) = none := qJ5 (List.mem_append_right _ (.head _)) (by decide)
theorem qK7 {h : List Nat} (hn : h ≠ []) : qKx (48 :: h) = true := by
  refine qIy (qCf fun z => ?_)
  have e : qFb (48 :: h) = 48 :: h := rfl
  rw [e] at z
  rcases z.2.2.2 with e | e
  · exact hn (List.cons.inj e).2
  · exact e rfl
theorem qLs {h : List Nat} (t : List Nat) (b : Prop) [Decidable b] (hh : 47 ∉ h) : ∃ o, qJe (h ++ (if b then [] else 47 :: t)) = (h, o) := by
  split
  · rw [List.append_nil, qEk hh]; exact ⟨_, rfl⟩
  · rw [qBs hh]; exact ⟨_, rfl⟩
theorem qMz (q : Rat) : qBh (48 :: qA6 q) = none := by
  unfold qBh qA6
  have h47 : 47 ∉ 48 :: qDg q.num := by
    intro z
    rcases List.mem_cons.mp z with e | e
    · omega
    · exact qCe _ e
  obtain ⟨o, e⟩ := qLs (h := 48 :: qDg q.num) (numL q.den) (q.den = 1) h47
  rw [List.cons_append] at e
  rw [e]
  exact qFh (qK7 (qPf _))
theorem qLo (q : Rat) : qBh (45 :: 45 :: qA6 q) = none := by
  unfold qBh qA6
  have h47 : 47 ∉ 45 :: 45 :: qDg q.num := by
    intro z
    rcases List.mem_cons.mp z with e | e
    · omega
    · rcases List.mem_cons.mp e with e | e
      · omega
      · exact qCe _ e
  obtain ⟨o, e⟩ := qLs (h := 45 :: 45 :: qDg q.num) (numL q.den) (q.den = 1) h47
  rw [List.cons_append, List.cons_append] at e
  rw [e]
  refine qFh (qIy (qCf fun z => ?_))
  have e2 : qFb (45 :: 45 :: qDg q.num) = 45 :: qDg q.num := rfl
  rw [e2] at z
  have := z.2.2.1 45 (.head _)
  omega
theorem qL4 (q : Rat) : qBh (47 :: qA6 q) = none := by
  unfold qBh
  rw [show 47 :: qA6 q = [] ++ 47 :: qA6 q from rfl, qBs (by simp)]
  refine qFh ?_
  show qKx [] = true
  decide +kernel
theorem qIb {t : List Nat} {c : Nat} (hc : c ∈ t) (h : ¬ (48 ≤ c ∧ c ≤ 57)) : qLz t = true := qLh (qCf fun z => h (z.2.2.1 c hc))
theorem qL7 {t : List Nat} (h : 40 < t.length) : qLz t = true := qLh (qCf fun z => by have := z.2.1; omega)
theorem qJu (q : Rat) (t : List Nat) (h : qLz t = true) : qBh (qA6 q ++ 47 :: t) = none := by
  unfold qBh qA6
  split
  · rw [List.append_nil, qBs (qCe _)]
    exact qFc h
  · rw [List.append_assoc, List.cons_append, qBs (qCe _)]
    exact qFc (qIb (c := 47) (List.mem_append_right _ (.head _)) (by omega))
theorem qQf (q : Rat) : qBh (qA6 q ++ [47, 49]) = none := qJu q [49] (by decide +kernel)
theorem qN1 (q : Rat) : qBh (qA6 q ++ [47]) = none := qJu q [] (by decide +kernel)
theorem qP1 {a : Int} {b t : Nat} (ht : 2 ≤ t) : qBh (qDg (a * t) ++ 47 :: numL (b * t)) = none := by
  unfold qBh
  rw [qBs (qCe _)]
  unfold qFo qIf
  split
  · rfl
  · dsimp only
    split
    · rfl
    · rw [(qDd _).1, qIm, qIm]
      have e : (a * (t : Int)).natAbs = a.natAbs * t := by rw [Int.natAbs_mul]; rfl
      have g : t ∣ Nat.gcd (a * (t : Int)).natAbs (b * t) := by
        rw [e]
        exact Nat.dvd_gcd ⟨a.natAbs, Nat.mul_comm _ _⟩ ⟨b, Nat.mul_comm _ _⟩
      rw [if_pos (fun z => by
        rw [z] at g
        have := Nat.le_of_dvd (by decide) g
        omega)]
theorem qP4 (a : Int) (b : Int) : qBh (qDg a ++ 47 :: 45 :: qDg b) = none := by
  unfold qBh
  rw [qBs (qCe _)]
  exact qFc (qIb (c := 45) (.head _) (by omega))
theorem qFg {l : List Nat} (h : l = [45, 48] ∨ l = [] ∨ l = [45] ∨ l = [51, 47, 48]) : qBh l = none := by
  rcases h with rfl | rfl | rfl | rfl
  · decide +kernel
  · decide +kernel
  · decide +kernel
  · decide +kernel
theorem qLj {h : List Nat} (h45 : qJ3 h = false) (hl : 40 < h.length) : qKx h = true := by
  refine qIy (qCf fun z => ?_)
  unfold qFb at z
  rw [h45, if_neg (by decide)] at z
  have := z.2.1
  omega
theorem qJ7 {c d n : Nat} (hc : c ≠ 45) (hc2 : c ≠ 47) (hd : d ≠ 47) (hn : 40 ≤ n) : qBh (c :: List.replicate n d) = none := by
  unfold qBh
  have h47 : 47 ∉ c :: List.replicate n d := by
    intro z
    rcases List.mem_cons.mp z with e | e
    · exact hc2 e.symm
    · exact hd (List.mem_replicate.mp e).2.symm
  rw [qEk h47]
  refine qFh (qLj ?_ (by rw [List.length_cons, List.length_replicate]; omega))
  unfold qJ3
  rw [List.head?_cons]
  exact decide_eq_false fun z => hc (Option.some.inj z)
theorem qIj {p : List Nat} (hp : 47 ∉ p) {t : List Nat} (ht : 40 < t.length) : qBh (p ++ 47 :: t) = none := by
  unfold qBh
  rw [qBs hp]
  exact qFc (qL7 ht)
end MR

set_option Elab.async false
set_option linter.all false
set_option maxRecDepth 100000
set_option maxHeartbeats 4000000
set_option exponentiation.threshold 20000
namespace MR
open PySem PySem.Spec PyProof.Rows L2
open SX (S)
open TL (numL)
def qTh : FSp := fun ds P _ => ∃ a b : Int, ds = [.int a, .int b] ∧ P (.int ((Int.gcd a b : Nat) : Int))
theorem qNm {K : PySem.W.Frag} : Lift K qKf qTh := by
  intro vs H Q E h
  obtain ⟨F, M, ds, P, X, lv, r, ⟨a, b, rfl, p⟩, q, x⟩ := h
  obtain ⟨v, u, rfl, r1, r2⟩ := qRg r
  exact ⟨a, b, by rw [show v = .int a from r1, show u = .int b from r2], q _ _ _ p .refl rfl⟩
def qCy : FSp := fun ds P _ => ∃ l : List Nat, ds = [.str (S l)] ∧ l.length ≤ 100000 ∧ P (.bl (qBm l))
def qCz : FSp := fun ds P _ => ∃ q : Rat, ds = [.rat q] ∧ q.num.natAbs < 10 ^ 40 ∧ q.den < 10 ^ 40 ∧ P (.str (S (qA6 q)))
def qN2 : Exn := ⟨"NoRatio", [("word", .str "text")]⟩
def qC0 (cs : List Str) : FSp := fun ds P X => ∃ d, ds = [d] ∧ ((isD cs (.ty "str") d = some false ∧ X qN2) ∨ ∃ l : List Nat, d = .str (S l) ∧ l.length ≤ 100000 ∧ match qBh l with
  | none => X qN2
  | some q => P (.rat q))
def qCs : FSp := fun ds P _ => ∃ a b : Int, ds = [.lst [.int a, .int b]] ∧ 0 < b ∧ b < 10 ^ 40 ∧ P (.lst [.int (Rat.divInt a b).num, .int ((Rat.divInt a b).den : Nat)])
def qA0 (cs : List Str) : FSp := fun ds P _ => ∃ d, ds = [d] ∧ (isD cs (.ty "str") d = some false ∨ ∃ l : List Nat, d = .str (S l) ∧ l.length ≤ 100000 ∧ qBh l = none) ∧ P (.bl true)
def qB2 : FSp := fun ds P _ => ∃ q : Rat, ds = [.feed, .lst [.int q.num, .int (q.den : Nat)], .str (S (qA6 q))] ∧ q.num.natAbs < 10 ^ 40 ∧ q.den < 10 ^ 40 ∧ ∀ rows : List Str, (∀ s, s ∈ rows → ∃ l : List Nat, s = S l ∧ l.length ≤ 100000 ∧ qBh l = none) → P (.lst (qNj rows))
def qDw (K : PySem.W.Frag) (cs : List Str) : TS :=
  (tSeq (tIfS (tOr (tTest (tOp rEq (tVar 0) (tC (.str "")))) (tTest (tOp qS3 (tCB qL0 (tCons (tVar 0) tNil)) (tC (.int 40))))) (tRet (tC (.bl false))) tNext)
  (tSeq (tFor (iStr (tVar 0)) (gName 1) (tIfS (tTest (tOp (qPb true) (tVar 1) (tC (.str "0123456789")))) (tRet (tC (.bl false))) tNext))
  (tRet (tOrV (tOp rEq (tVar 0) (tC (.str "0"))) (tOp rNe (tOp qS4 (tVar 0) (tC (.int 0))) (tC (.str "0")))))))
def qEr (cs : List Str) : FS :=
  (qBn (qEl (fOr (fB (fOp oEq (qAi 0) (fC (.str "")))) (fB (fOp oGt (fLs qMd (qAc (qAi 0) qBb)) (fC (.int 40))))) (qEc (fC (.bl false))) qBu)
  (qBn (qLu (qUo (qAi 0)) (qFr 1) (qEl (fB (fOp (qP7 true) (qAi 1) (fC (.str "0123456789")))) (qEc (fC (.bl false))) qBu))
  (qEc (qUp (fOp oEq (qAi 0) (fC (.str "0"))) (fOp oNe (fOp qUr (qAi 0) (fC (.int 0))) (fC (.str "0")))))))
theorem qKb {K : PySem.W.Frag} {cs : List Str} (T : KF K cs) (hRatio : ("Ratio" : Str) ∈ cs) : SS K Ta [] [] [] [] (fun _ => E0) (qDw K cs) (qEr cs) :=
  (qAh (ow1 := []) (qC1 (by decide) (qH3 (qBq (qAd (fun _ => qDp) (qAb (by decide)) qAj)) (qBq (qAd (fun _ => qTj) (qCq (fun _ => qIv) (qAa (qAb (by decide)) qAe)) qAf))) (qBg (by decide) qGw) (qA9 (by decide)))
  (qAh (ow1 := []) (qH7 (by decide) (qSh (qAb (by decide))) (qFm (by decide)) (qC1 (by decide) (qBq (qAd (fun _ => qQm) (qAb (by decide)) qAj)) (qBg (by decide) qGw) (qA9 (by decide))))
  (qBg (by decide) (qRo (qAd (fun _ => qDp) (qAb (by decide)) qAj) (qAd (fun _ => qMg) (qAd (fun _ => qOm) (qAb (by decide)) qAf) qAj)))))
def qB5 (K : PySem.W.Frag) (cs : List Str) (E : XK) : TS :=
  (tSeq (tIfS (tNot (tB (tCB (rIsi K) (tCons (tVar 0) (tCons (tC (.ty "str")) tNil))))) (qCx (He.ga K "NoRatio") "word" (fun cls d _ H => E cls d H) (tCons (tC (.str "text")) tNil)) tNext)
  (tSeq (tAsg (tM1 qSf (tVar 0) (tC (.str "/"))) (gTup K 3 (gCons (gName 2) (gCons (gName 3) (gCons (gName 4) gNil)))))
  (tSeq (tAsg (tC (.int 1)) (gName 1))
  (tSeq (tIfS (tB (tM1 qIp (tVar 2) (tC (.str "-")))) (tSeq (tAsg (tUn qPz (tC (.int 1))) (gName 1))
  (tAsg (tSl C8.rSlX (tVar 2) (tPart (tC (.int 1))) tNoPart) (gName 2))) tNext)
  (tSeq (tIfS (tOr (tNot (tB (tCall (lift K qCy) [] E0 (tCons (tVar 2) tNil)))) (tAnd (tTest (tOp qSz (tVar 1) (tC (.int 0)))) (tTest (tOp rEq (tVar 2) (tC (.str "0")))))) (qCx (He.ga K "NoRatio") "word" (fun cls d _ H => E cls d H) (tCons (tC (.str "text")) tNil)) tNext)
  (tSeq (tIfS (tTest (tOp rEq (tVar 3) (tC (.str "")))) (tRet (tMake (He.ga K "Ratio") (qBi K) [.int 1] E (tCons (tOp qEj (tVar 1) (tCB qJa (tCons (tVar 2) tNil))) tNil))) tNext)
  (tSeq (tIfS (tOr (tNot (tB (tCall (lift K qCy) [] E0 (tCons (tVar 4) tNil)))) (tOr (tTest (tOp rEq (tVar 4) (tC (.str "0")))) (tTest (tOp rEq (tVar 4) (tC (.str "1")))))) (qCx (He.ga K "NoRatio") "word" (fun cls d _ H => E cls d H) (tCons (tC (.str "text")) tNil)) tNext)
  (tSeq (tIfS (tTest (tOp rNe (tCall qKf [] E0 (tCons (tCB qJa (tCons (tVar 2) tNil)) (tCons (tCB qJa (tCons (tVar 4) tNil)) tNil))) (tC (.int 1)))) (qCx (He.ga K "NoRatio") "word" (fun cls d _ H => E cls d H) (tCons (tC (.str "text")) tNil)) tNext)
  (tRet (tMake (He.ga K "Ratio") (qBi K) [] E (tCons (tOp qEj (tVar 1) (tCB qJa (tCons (tVar 2) tNil))) (tCons (tCB qJa (tCons (tVar 4) tNil)) tNil))))))))))))
def qDb (cs : List Str) : FS :=
  (qBn (qEl (qIu (fB (qOb cs (.ty "str") (qAi 0)))) (qD9 "NoRatio" "word" (fC (.str "text"))) qBu)
  (qBn (qUx (fM1 qPa (qAi 0) (fC (.str "/"))) (qMv [2, 3, 4]))
  (qBn (qDz 1 (fC (.int 1)))
  (qBn (qEl (fB (fM1 qHg (qAi 2) (fC (.str "-")))) (qBn (qDz 1 (fUn qS0 (fC (.int 1))))
  (qDz 2 (qPq (qAi 2) (qKq (fC (.int 1))) qEn))) qBu)
  (qBn (qEl (fOr (qIu (fB (qAw qCy [] (qAc (qAi 2) qBb)))) (qS1 (fB (fOp oLt (qAi 1) (fC (.int 0)))) (fB (fOp oEq (qAi 2) (fC (.str "0")))))) (qD9 "NoRatio" "word" (fC (.str "text"))) qBu)
  (qBn (qEl (fB (fOp oEq (qAi 3) (fC (.str "")))) (qEc (qHr qNb [.int 1] (qAc (fOp qL6 (qAi 1) (fLs qE7 (qAc (qAi 2) qBb))) qBb))) qBu)
  (qBn (qEl (fOr (qIu (fB (qAw qCy [] (qAc (qAi 4) qBb)))) (fOr (fB (fOp oEq (qAi 4) (fC (.str "0")))) (fB (fOp oEq (qAi 4) (fC (.str "1")))))) (qD9 "NoRatio" "word" (fC (.str "text"))) qBu)
  (qBn (qEl (fB (fOp oNe (qAw qTh [] (qAc (fLs qE7 (qAc (qAi 2) qBb)) (qAc (fLs qE7 (qAc (qAi 4) qBb)) qBb))) (fC (.int 1)))) (qD9 "NoRatio" "word" (fC (.str "text"))) qBu)
  (qEc (qHr qNb [] (qAc (fOp qL6 (qAi 1) (fLs qE7 (qAc (qAi 2) qBb))) (qAc (fLs qE7 (qAc (qAi 4) qBb)) qBb))))))))))))
theorem qH9 {K : PySem.W.Frag} {cs : List Str} (T : KF K cs) (hRatio : ("Ratio" : Str) ∈ cs) (E : XK) : SS K Ta [] [] [] [] (fun _ => E) (qB5 K cs E) (qDb cs) :=
  (qAh (ow1 := []) (qC1 (by decide) (qDl (qKk (qGj (c := (.ty "str")) T.toKT (qAb (by decide))))) (qFf (by decide) qAj) (qA9 (by decide)))
  (qAh (ow1 := []) (qSr (by decide) (qRj (fun _ => qP2) (qAb (by decide)) qAj) (qQw rfl (qG5 (by decide) (qG5 (by decide) (qG5 (by decide) qP9)))))
  (qAh (ow1 := []) (qBk (by decide) (by decide) qAf)
  (qAh (ow1 := []) (qC1 (by decide) (qKk (qRj (fun _ => qK0) (qAb (by decide)) qAj)) (qAh (ow1 := []) (qBk (by decide) (by decide) (qUn (fun _ => qRc) qAf))
  (qBk (by decide) (by decide) (qLy (qAb (by decide)) (qIq qAf) qIs))) (qA9 (by decide)))
  (qAh (ow1 := []) (qC1 (by decide) (qH3 (qDl (qKk (qAn Lift.refl qAo (qAa (qAb (by decide)) qAe)))) (qRz (qBq (qAd (fun _ => qUl) (qAb (by decide)) qAf)) (qBq (qAd (fun _ => qDp) (qAb (by decide)) qAj)))) (qFf (by decide) qAj) (qA9 (by decide)))
  (qAh (ow1 := []) (qC1 (by decide) (qBq (qAd (fun _ => qDp) (qAb (by decide)) qAj)) (qBg (by decide) (qLx qLb (qP3 qAo) (qAa (qAd (fun _ => qE2) (qAb (by decide)) (qCq (fun _ => qFl) (qAa (qAb (by decide)) qAe))) qAe))) (qA9 (by decide)))
  (qAh (ow1 := []) (qC1 (by decide) (qH3 (qDl (qKk (qAn Lift.refl qAo (qAa (qAb (by decide)) qAe)))) (qH3 (qBq (qAd (fun _ => qDp) (qAb (by decide)) qAj)) (qBq (qAd (fun _ => qDp) (qAb (by decide)) qAj)))) (qFf (by decide) qAj) (qA9 (by decide)))
  (qAh (ow1 := []) (qC1 (by decide) (qBq (qAd (fun _ => qMg) (qAn qNm qAo (qAa (qCq (fun _ => qFl) (qAa (qAb (by decide)) qAe)) (qAa (qCq (fun _ => qFl) (qAa (qAb (by decide)) qAe)) qAe))) qAf)) (qFf (by decide) qAj) (qA9 (by decide)))
  (qBg (by decide) (qLx qLb qAo (qAa (qAd (fun _ => qE2) (qAb (by decide)) (qCq (fun _ => qFl) (qAa (qAb (by decide)) qAe))) (qAa (qCq (fun _ => qFl) (qAa (qAb (by decide)) qAe)) qAe))))))))))))
def qCu (K : PySem.W.Frag) (cs : List Str) : TS :=
  (tSeq (tIfS (tTest (tOp rEq (tFld K (tVar 0) "bottom") (tC (.int 1)))) (tRet (tCB qEp (tCons (tFld K (tVar 0) "top") tNil))) tNext)
  (tRet (tOp qBt (tOp qBt (tCB qEp (tCons (tFld K (tVar 0) "top") tNil)) (tC (.str "/"))) (tCB qEp (tCons (tFld K (tVar 0) "bottom") tNil)))))
def qDa (cs : List Str) : FS :=
  (qBn (qEl (fB (fOp oEq (qHv "Ratio" "bottom" (qAi 0)) (fC (.int 1)))) (qEc (fLs qE6 (qAc (qHv "Ratio" "top" (qAi 0)) qBb))) qBu)
  (qEc (fOp qB3 (fOp qB3 (fLs qE6 (qAc (qHv "Ratio" "top" (qAi 0)) qBb)) (fC (.str "/"))) (fLs qE6 (qAc (qHv "Ratio" "bottom" (qAi 0)) qBb)))))
theorem qHs {K : PySem.W.Frag} {cs : List Str} (T : KF K cs) (hRatio : ("Ratio" : Str) ∈ cs) : SS K Ta [] [] [] [] (fun _ => E0) (qCu K cs) (qDa cs) :=
  (qAh (ow1 := []) (qC1 (by decide) (qBq (qAd (fun _ => qDp) (qB8 (T.fld _ hRatio _ (by decide)) (qAb (by decide))) qAf)) (qBg (by decide) (qCq (fun _ => qCm) (qAa (qB8 (T.fld _ hRatio _ (by decide)) (qAb (by decide))) qAe))) (qA9 (by decide)))
  (qBg (by decide) (qAd (fun _ => qA1) (qAd (fun _ => qA1) (qCq (fun _ => qCm) (qAa (qB8 (T.fld _ hRatio _ (by decide)) (qAb (by decide))) qAe)) qAj) (qCq (fun _ => qCm) (qAa (qB8 (T.fld _ hRatio _ (by decide)) (qAb (by decide))) qAe)))))
def qDc (K : PySem.W.Frag) (cs : List Str) : TS :=
  (tSeq (tAsg (tCB qMq (tCons (tOp (rIxL K) (tVar 0) (tC (.int 0))) tNil)) (gName 1))
  (tSeq (tAsg (tOp (rIxL K) (tVar 0) (tC (.int 1))) (gName 2))
  (tSeq (tFor (iRng1 (tCons (tC (.int 400)) tNil)) (gName 3) (tSeq (tIfS (tTest (tOp rEq (tVar 2) (tC (.int 0)))) tBreak tNext)
  (tSeq (tAsg (tOp qIg (tCB qJc (tCons (tVar 1) tNil)) (tVar 2)) (gName 4))
  (tSeq (tAsg (tVar 2) (gName 1))
  (tAsg (tVar 4) (gName 2))))))
  (tRet (tLst (tCons (tOp qGi (tOp (rIxL K) (tVar 0) (tC (.int 0))) (tVar 1)) (tCons (tOp qGi (tOp (rIxL K) (tVar 0) (tC (.int 1))) (tVar 1)) tNil)))))))
def qDx (cs : List Str) : FS :=
  (qBn (qDz 1 (fLs qTw (qAc (fOp qHh (qAi 0) (fC (.int 0))) qBb)))
  (qBn (qDz 2 (fOp qHh (qAi 0) (fC (.int 1))))
  (qBn (qLu (qL8 (qAc (fC (.int 400)) qBb)) (qFr 3) (qBn (qEl (fB (fOp oEq (qAi 2) (fC (.int 0)))) qS2 qBu)
  (qBn (qDz 4 (fOp qT2 (fLs qS5 (qAc (qAi 1) qBb)) (qAi 2)))
  (qBn (qDz 1 (qAi 2))
  (qDz 2 (qAi 4))))))
  (qEc (qMx (qAc (fOp qSk (fOp qHh (qAi 0) (fC (.int 0))) (qAi 1)) (qAc (fOp qSk (fOp qHh (qAi 0) (fC (.int 1))) (qAi 1)) qBb)))))))
theorem qI6 {K : PySem.W.Frag} {cs : List Str} (T : KF K cs) (hRatio : ("Ratio" : Str) ∈ cs) : SS K Ta [] [] [] [] (fun _ => E0) (qDc K cs) (qDx cs) :=
  (qAh (ow1 := []) (qBk (by decide) (by decide) (qCq (fun _ => qSv) (qAa (qAd (fun _ => qBz) (qAb (by decide)) qAf) qAe)))
  (qAh (ow1 := []) (qBk (by decide) (by decide) (qAd (fun _ => qBz) (qAb (by decide)) qAf))
  (qAh (ow1 := []) (qH7 (by decide) (qMm (qAa qAf qAe)) (qFm (by decide)) (qAh (ow1 := []) (qC1 (by decide) (qBq (qAd (fun _ => qDp) (qAb (by decide)) qAf)) (qRe (by decide)) (qA9 (by decide)))
  (qAh (ow1 := []) (qBk (by decide) (by decide) (qAd (fun _ => qQ3) (qCq (fun _ => qRq) (qAa (qAb (by decide)) qAe)) (qAb (by decide))))
  (qAh (ow1 := []) (qBk (by decide) (by decide) (qAb (by decide)))
  (qBk (by decide) (by decide) (qAb (by decide)))))))
  (qBg (by decide) (qId (qAa (qAd (fun _ => qOq) (qAd (fun _ => qBz) (qAb (by decide)) qAf) (qAb (by decide))) (qAa (qAd (fun _ => qOq) (qAd (fun _ => qBz) (qAb (by decide)) qAf) (qAb (by decide))) qAe)))))))
def qCn (K : PySem.W.Frag) (cs : List Str) : TS :=
  (tSeq (tAsg (tC (.str " +.,eE_xb\t\n()'#")) (gName 3))
  (tSeq (tAsg (tCall (lift K qB4) [] E0 (tCons (tVar 0) (tCons (tOp qE5 (tCB qL0 (tCons (tVar 2) tNil)) (tC (.int 1))) tNil))) (gName 4))
  (tSeq (tAsg (tOp qS4 (tVar 3) (tCall (lift K qB4) [] E0 (tCons (tVar 0) (tCons (tCB qL0 (tCons (tVar 3) tNil)) tNil)))) (gName 5))
  (tSeq (tAsg (tOp qE5 (tC (.int 2)) (tCall (lift K qB4) [] E0 (tCons (tVar 0) (tCons (tC (.int 50)) tNil)))) (gName 6))
  (tSeq (tAsg (tLst (tCons (tOp qBt (tOp qBt (tSl C8.rSlX (tVar 2) tNoPart (tPart (tVar 4))) (tVar 5)) (tSl C8.rSlX (tVar 2) (tPart (tVar 4)) tNoPart)) (tCons (tOp qBt (tVar 2) (tC (.str "\n"))) (tCons (tOp qBt (tC (.str "0")) (tVar 2)) (tCons (tOp qBt (tVar 2) (tC (.str "/1"))) (tCons (tOp qBt (tVar 2) (tC (.str "/"))) (tCons (tOp qBt (tC (.str "/")) (tVar 2)) (tCons (tOp qBt (tC (.str "--")) (tVar 2)) tNil)))))))) (gName 7))
  (tSeq (tDrop (tBM K "list" rAppend (tVar 7) (tCons (tOp qBt (tOp qBt (tCB qEp (tCons (tOp qEj (tOp (rIxL K) (tVar 1) (tC (.int 0))) (tVar 6)) tNil)) (tC (.str "/"))) (tCB qEp (tCons (tOp qEj (tOp (rIxL K) (tVar 1) (tC (.int 1))) (tVar 6)) tNil))) tNil)))
  (tSeq (tDrop (tBM K "list" rAppend (tVar 7) (tCons (tOp qBt (tOp qBt (tCB qEp (tCons (tOp (rIxL K) (tVar 1) (tC (.int 0))) tNil)) (tC (.str "/-"))) (tCB qEp (tCons (tOp (rIxL K) (tVar 1) (tC (.int 1))) tNil))) tNil)))
  (tSeq (tDrop (tBM K "list" rAppend (tVar 7) (tCons (tC (.str "-0")) tNil)))
  (tSeq (tDrop (tBM K "list" rAppend (tVar 7) (tCons (tC (.str "")) tNil)))
  (tSeq (tDrop (tBM K "list" rAppend (tVar 7) (tCons (tC (.str "-")) tNil)))
  (tSeq (tDrop (tBM K "list" rAppend (tVar 7) (tCons (tC (.str "3/0")) tNil)))
  (tSeq (tDrop (tBM K "list" rAppend (tVar 7) (tCons (tOp qBt (tC (.str "1")) (tOp qE8 (tC (.str "0")) (tC (.int 40)))) tNil)))
  (tSeq (tDrop (tBM K "list" rAppend (tVar 7) (tCons (tOp qBt (tC (.str "-1/3")) (tOp qE8 (tC (.str "0")) (tC (.int 40)))) tNil)))
  (tSeq (tDrop (tBM K "list" rAppend (tVar 7) (tCons (tOp qE8 (tC (.str "7")) (tC (.int 5000))) tNil)))
  (tSeq (tDrop (tBM K "list" rAppend (tVar 7) (tCons (tOp qBt (tC (.str "1/")) (tOp qE8 (tC (.str "7")) (tC (.int 5000)))) tNil)))
  (tRet (tVar 7)))))))))))))))))
def qC4 (cs : List Str) : FS :=
  (qBn (qDz 3 (fC (.str " +.,eE_xb\t\n()'#")))
  (qBn (qDz 4 (qAw qB4 [] (qAc (qAi 0) (qAc (fOp qQ0 (fLs qMd (qAc (qAi 2) qBb)) (fC (.int 1))) qBb))))
  (qBn (qDz 5 (fOp qUr (qAi 3) (qAw qB4 [] (qAc (qAi 0) (qAc (fLs qMd (qAc (qAi 3) qBb)) qBb)))))
  (qBn (qDz 6 (fOp qQ0 (fC (.int 2)) (qAw qB4 [] (qAc (qAi 0) (qAc (fC (.int 50)) qBb)))))
  (qBn (qVb 7 (qMx (qAc (fOp qB3 (fOp qB3 (qPq (qAi 2) qEn (qKq (qAi 4))) (qAi 5)) (qPq (qAi 2) (qKq (qAi 4)) qEn)) (qAc (fOp qB3 (qAi 2) (fC (.str "\n"))) (qAc (fOp qB3 (fC (.str "0")) (qAi 2)) (qAc (fOp qB3 (qAi 2) (fC (.str "/1"))) (qAc (fOp qB3 (qAi 2) (fC (.str "/"))) (qAc (fOp qB3 (fC (.str "/")) (qAi 2)) (qAc (fOp qB3 (fC (.str "--")) (qAi 2)) qBb)))))))))
  (qBn (qKw 7 (fOp qB3 (fOp qB3 (fLs qE6 (qAc (fOp qL6 (fOp qHh (qAi 1) (fC (.int 0))) (qAi 6)) qBb)) (fC (.str "/"))) (fLs qE6 (qAc (fOp qL6 (fOp qHh (qAi 1) (fC (.int 1))) (qAi 6)) qBb))))
  (qBn (qKw 7 (fOp qB3 (fOp qB3 (fLs qE6 (qAc (fOp qHh (qAi 1) (fC (.int 0))) qBb)) (fC (.str "/-"))) (fLs qE6 (qAc (fOp qHh (qAi 1) (fC (.int 1))) qBb))))
  (qBn (qKw 7 (fC (.str "-0")))
  (qBn (qKw 7 (fC (.str "")))
  (qBn (qKw 7 (fC (.str "-")))
  (qBn (qKw 7 (fC (.str "3/0")))
  (qBn (qKw 7 (fOp qB3 (fC (.str "1")) (fOp qHd (fC (.str "0")) (fC (.int 40)))))
  (qBn (qKw 7 (fOp qB3 (fC (.str "-1/3")) (fOp qHd (fC (.str "0")) (fC (.int 40)))))
  (qBn (qKw 7 (fOp qHd (fC (.str "7")) (fC (.int 5000))))
  (qBn (qKw 7 (fOp qB3 (fC (.str "1/")) (fOp qHd (fC (.str "7")) (fC (.int 5000)))))
  (qEc (qAi 7)))))))))))))))))
theorem qIa {K : PySem.W.Frag} {cs : List Str} (T : KF K cs) (hRatio : ("Ratio" : Str) ∈ cs) : SS K Ta [] [] [] [] (fun _ => E0) (qCn K cs) (qC4 cs) :=
  (qAh (ow1 := []) (qBk (by decide) (by decide) qAj)
  (qAh (ow1 := []) (qBk (by decide) (by decide) (qAn Lift.refl qAo (qAa (qAb (by decide)) (qAa (qAd (fun _ => qJ6) (qCq (fun _ => qIv) (qAa (qAb (by decide)) qAe)) qAf) qAe))))
  (qAh (ow1 := []) (qBk (by decide) (by decide) (qAd (fun _ => qOm) (qAb (by decide)) (qAn Lift.refl qAo (qAa (qAb (by decide)) (qAa (qCq (fun _ => qIv) (qAa (qAb (by decide)) qAe)) qAe)))))
  (qAh (ow1 := []) (qBk (by decide) (by decide) (qAd (fun _ => qJ6) qAf (qAn Lift.refl qAo (qAa (qAb (by decide)) (qAa qAf qAe)))))
  (qAh (ow1 := [7]) (qR1 (by decide) (by decide) (qR4 (qAa (qAd (fun _ => qA1) (qAd (fun _ => qA1) (qLy (qAb (by decide)) qIs (qIq (qAb (by decide)))) (qAb (by decide))) (qLy (qAb (by decide)) (qIq (qAb (by decide))) qIs)) (qAa (qAd (fun _ => qA1) (qAb (by decide)) qAj) (qAa (qAd (fun _ => qA1) qAj (qAb (by decide))) (qAa (qAd (fun _ => qA1) (qAb (by decide)) qAj) (qAa (qAd (fun _ => qA1) (qAb (by decide)) qAj) (qAa (qAd (fun _ => qA1) qAj (qAb (by decide))) (qAa (qAd (fun _ => qA1) qAj (qAb (by decide))) qAe)))))))))
  (qAh (ow1 := [7]) (qDn (by decide) (by decide) (qAd (fun _ => qA1) (qAd (fun _ => qA1) (qCq (fun _ => qCm) (qAa (qAd (fun _ => qE2) (qAd (fun _ => qBz) (qAb (by decide)) qAf) (qAb (by decide))) qAe)) qAj) (qCq (fun _ => qCm) (qAa (qAd (fun _ => qE2) (qAd (fun _ => qBz) (qAb (by decide)) qAf) (qAb (by decide))) qAe))))
  (qAh (ow1 := [7]) (qDn (by decide) (by decide) (qAd (fun _ => qA1) (qAd (fun _ => qA1) (qCq (fun _ => qCm) (qAa (qAd (fun _ => qBz) (qAb (by decide)) qAf) qAe)) qAj) (qCq (fun _ => qCm) (qAa (qAd (fun _ => qBz) (qAb (by decide)) qAf) qAe))))
  (qAh (ow1 := [7]) (qDn (by decide) (by decide) qAj)
  (qAh (ow1 := [7]) (qDn (by decide) (by decide) qAj)
  (qAh (ow1 := [7]) (qDn (by decide) (by decide) qAj)
  (qAh (ow1 := [7]) (qDn (by decide) (by decide) qAj)
  (qAh (ow1 := [7]) (qDn (by decide) (by decide) (qAd (fun _ => qA1) qAj (qAd (fun _ => qDv) qAj qAf)))
  (qAh (ow1 := [7]) (qDn (by decide) (by decide) (qAd (fun _ => qA1) qAj (qAd (fun _ => qDv) qAj qAf)))
  (qAh (ow1 := [7]) (qDn (by decide) (by decide) (qAd (fun _ => qDv) qAj qAf))
  (qAh (ow1 := [7]) (qDn (by decide) (by decide) (qAd (fun _ => qA1) qAj (qAd (fun _ => qDv) qAj qAf)))
  (qP6 (ow1 := []) (by decide) (qBg (by decide) (qAb (by decide)))))))))))))))))))
abbrev plB : FS :=
  (qEl (fB (fOp (qP7 true) (qAi 1) (fC (.str "0123456789")))) (qEc (fC (.bl false))) qBu)
abbrev qVw : FS :=
  (qBn (qEl (fB (fOp oEq (qAi 2) (fC (.int 0)))) qS2 qBu)
  (qBn (qDz 4 (fOp qT2 (fLs qS5 (qAc (qAi 1) qBb)) (qAi 2)))
  (qBn (qDz 1 (qAi 2))
  (qDz 2 (qAi 4)))))
theorem qUb : (Str.ofString "") = S [] := by rfl
theorem qQ6 : (Str.ofString "0") = S [48] := by rfl
theorem qVj : (Str.ofString "1") = S [49] := by rfl
theorem qUd : (Str.ofString "-") = S [45] := by rfl
theorem qSy : (Str.ofString "/") = S [47] := by rfl
theorem qVu : (Str.ofString "0123456789") = S [48, 49, 50, 51, 52, 53, 54, 55, 56, 57] := by rfl
theorem qI7 (a b : List Nat) : decide (S a = S b) = decide (a = b) := by
  by_cases h : a = b
  · rw [h, decide_eq_true rfl, decide_eq_true rfl]
  · rw [decide_eq_false h, decide_eq_false fun z => h (SX.S_inj z)]
theorem qN5 (l : List Nat) : Txt.startswith (S l) (S [45]) = qJ3 l := by
  unfold Txt.startswith qJ3
  rw [PySem.StrLaws.subAt_eq]
  show (decide (0 + 1 ≤ (S l).length) && ((l.drop 0).take 1 == [45])) = _
  rw [SX.S_len, List.drop_zero]
  cases l with
  | nil => rfl
  | cons c r =>
    rw [List.head?_cons, show (c :: r).take 1 = [c] from rfl]
    by_cases h : c = 45
    · subst h
      rw [decide_eq_true rfl, decide_eq_true (by simp)]
      rfl
    · rw [decide_eq_false (fun z => h (Option.some.inj z))]
      have : ([c] == [45]) = false := by
        cases e : ([c] == [45]) with
        | false => rfl
        | true => exact absurd (List.cons.inj (eq_of_beq e)).1 h
      rw [this, Bool.and_false]
theorem qK5 (c : Nat) : decide (c ∈ (S [48, 49, 50, 51, 52, 53, 54, 55, 56, 57]).cps.toList) = (decide (48 ≤ c) && decide (c ≤ 57)) := by
  have e : (S [48, 49, 50, 51, 52, 53, 54, 55, 56, 57]).cps.toList = [48, 49, 50, 51, 52, 53, 54, 55, 56, 57] := rfl
  rw [e]
  by_cases h : 48 ≤ c ∧ c ≤ 57
  · rw [decide_eq_true h.1, decide_eq_true h.2]
    refine decide_eq_true ?_
    simp only [List.mem_cons, List.not_mem_nil, or_false]
    omega
  · have : ¬ c ∈ [48, 49, 50, 51, 52, 53, 54, 55, 56, 57] := by
      simp only [List.mem_cons, List.not_mem_nil, or_false]
      omega
    rw [decide_eq_false this]
    by_cases h1 : 48 ≤ c
    · rw [decide_eq_false (p := c ≤ 57) (by omega), Bool.and_false]
    · rw [decide_eq_false h1, Bool.false_and]
theorem qI1 {n : Nat} (h : n ≤ 100000) : n ≤ sizeLine := by rw [sizeLine_eq]; omega
theorem qSo {FD : FEnds} {d : D} (all : List Nat) (hf : ∀ P, qBm all = false → FD.rt = P → P (.bl false) → True) : ∀ (l : List Nat) (v1 : Option D), ((∃ c, c ∈ l ∧ ¬ (48 ≤ c ∧ c ≤ 57)) → FD.rt (.bl false)) → ((∀ c, c ∈ l → 48 ≤ c ∧ c ≤ 57) → ∀ v1, FD.nx [some d, v1]) → qCr (qFr 1) plB FD (l.map fun c => D.str ⟨#[c]⟩) [some d, v1]
  | [], v1, _, fin => fin (fun c hc => nomatch hc) _
  | c :: r, v1, bad, fin => by
    rw [List.map_cons]
    unfold qCr
    simp_arith []
    refine ⟨c, _, rfl, rfl, ?_⟩
    rw [qVu, qK5]
    by_cases h : 48 ≤ c ∧ c ≤ 57
    · rw [decide_eq_true h.1, decide_eq_true h.2]
      refine qSo all hf r _ (fun ⟨x, hx, hn⟩ => bad ⟨x, .tail _ hx, hn⟩) (fun h2 => fin (fun x hx => ?_))
      rcases List.mem_cons.mp hx with e | e
      · rw [e]; exact h
      · exact h2 x e
    · have e : (true != (decide (48 ≤ c) && decide (c ≤ 57))) = true := by
        by_cases h1 : 48 ≤ c
        · rw [decide_eq_false (p := c ≤ 57) (by omega)]; simp
        · rw [decide_eq_false h1]; simp
      rw [e]
      exact bad ⟨c, .head _, h⟩
theorem qKt {cs : List Str} (hR : ("Ratio" : Str) ∈ cs) (ds : List D) (P : D → Prop) (X : XP) (h : qCy ds P X) : qEr cs (qIo P X0) (qB7 2 ds) := by
  obtain ⟨l, rfl, hl, p⟩ := h
  simp_arith [qEr, qLu]
  rw [qUb, qI7]
  by_cases h0 : l = []
  · rw [if_pos (decide_eq_true h0)]
    subst h0
    exact p
  rw [if_neg (by rw [decide_eq_false h0]; decide)]
  refine ⟨_, rfl, by rw [SX.S_len]; exact qI1 hl, ?_⟩
  rw [SX.S_len]
  simp_arith [oGt]
  by_cases h1 : (40 : Int) < ((l.length : Nat) : Int)
  · rw [if_pos (decide_eq_true h1)]
    rw [qCf (fun z => by have := z.2.1; omega)] at p
    exact p
  rw [if_neg (by rw [decide_eq_false h1]; decide)]
  simp_arith [qUo]
  refine ⟨S l, rfl, ?_⟩
  refine qSo l (fun _ _ _ _ => trivial) l _ (fun ⟨c, hc, hn⟩ => ?_) (fun hd v1 => ?_)
  · rw [qCf (fun z => hn (z.2.2.1 c hc))] at p
    exact p
  · simp_arith []
    rw [qQ6, qI7]
    by_cases h2 : l = [48]
    · rw [decide_eq_true h2]
      rw [qBx.mpr ⟨h0, by omega, hd, .inl h2⟩] at p
      exact p
    · rw [decide_eq_false h2, if_neg (by decide)]
      cases l with
      | nil => exact absurd rfl h0
      | cons c r =>
        refine ⟨_, 0, c, rfl, rfl, by decide, by decide, by rw [SX.S_len, List.length_cons]; omega, rfl, ?_⟩
        simp_arith []
        rw [show (⟨#[c]⟩ : Str) = S [c] from rfl, qI7]
        by_cases h3 : c = 48
        · rw [qCf (fun z => by
            rcases z.2.2.2 with e | e
            · exact h2 e
            · exact e (by rw [h3]; rfl))] at p
          rw [h3]
          exact p
        · rw [qBx.mpr ⟨h0, by omega, hd, .inr (fun z => h3 (Option.some.inj z))⟩] at p
          rw [decide_eq_false (fun z => h3 (List.cons.inj z).1)]
          exact p
theorem qNl {n : Nat} (h : n < 10 ^ 40) : n.log2 < 1920 := by
  rcases Nat.eq_zero_or_pos n with rfl | h0
  · decide
  · refine (Nat.log2_lt (by omega)).mpr (Nat.lt_trans h ?_)
    decide +kernel
theorem qFw {z : Int} (h : z.natAbs < 10 ^ 40) {P : D → Prop} {X : XP} (p : P (.str (S (qDg z)))) : qE6 [.int z] P X := ⟨z, rfl, qNl h, by rw [← qJm] at p; exact p⟩
theorem qDh (n : Nat) : qDg ((n : Nat) : Int) = numL n := by
  unfold qDg
  rw [if_neg (by omega)]
  rfl
theorem qB9 {a b : List Nat} (h : a.length + b.length ≤ 100000) {P : D → Prop} {X : XP} (p : P (.str (S (a ++ b)))) : qB3 (.str (S a)) (.str (S b)) P X := by
  refine ⟨by rw [SX.S_len, SX.S_len]; exact qI1 h, ?_⟩
  rw [SX.S_cat]
  exact p
theorem qIn {cs : List Str} (hR : ("Ratio" : Str) ∈ cs) (ds : List D) (P : D → Prop) (X : XP) (h : qCz ds P X) : qDa cs (qIo P X0) (qB7 1 ds) := by
  obtain ⟨q, rfl, h1, h2, p⟩ := h
  have l1 := qGq h1
  have l2 := TL.numL_len (k := 40) (by decide) h2
  simp_arith [qDa, qGv, qG2]
  unfold qA6 at p
  by_cases hd : q.den = 1
  · rw [if_pos (decide_eq_true (by rw [hd]; rfl))]
    rw [if_pos hd, List.append_nil] at p
    exact qFw h1 p
  · rw [if_neg (by rw [decide_eq_false (by omega)]; decide)]
    rw [if_neg hd] at p
    refine qFw h1 ?_
    rw [qSy]
    refine qB9 (by simp; omega) ?_
    refine qFw (z := ((q.den : Nat) : Int)) (by simpa using h2) ?_
    rw [qDh]
    refine qB9 (by simp; omega) ?_
    rw [List.append_assoc]
    exact p
/-! reading -/
theorem qIi {l : List Nat} (h : qBm l = true) {P : D → Prop} {X : XP} (p : P (.int (vL l : Nat))) : qE7 [.str (S l)] P X := by
  obtain ⟨h0, h1, h2, _⟩ := qBx.mp h
  refine ⟨_, _, rfl, SX.int_S ?_ h0 (by omega), by rw [SX.S_len]; omega, p⟩
  rw [List.all_eq_true]
  intro c hc
  have := h2 c hc
  rw [decide_eq_true this.1, decide_eq_true this.2]
  rfl
theorem qJo : ∀ (l : List Nat) (a : Nat), 0 < a → 0 < l.foldl (fun acc c => acc * 10 + (c - 48)) a
  | [], _, h => h
  | c :: r, a, h => qJo r (a * 10 + (c - 48)) (by omega)
theorem qSe {l : List Nat} (h : qBm l = true) (h0 : ¬ l = [48]) : 0 < vL l := by
  obtain ⟨n0, _, hd, hh⟩ := qBx.mp h
  cases l with
  | nil => exact absurd rfl n0
  | cons c r =>
    have h1 := hd c (.head _)
    have h2 : c ≠ 48 := by
      rcases hh with e | e
      · exact absurd e h0
      · exact fun z => e (by rw [z]; rfl)
    exact qJo r (0 * 10 + (c - 48)) (by omega)
def slL : Option (List Nat) → List Nat
  | none => []
  | some _ => [47]
theorem qQ4 {l : List Nat} (h : l.length ≤ 100000) {P : D → Prop} {X : XP}
    (p : P (.tup [.str (S (qJe l).1), .str (S (slL (qJe l).2)), .str (S ((qJe l).2.getD []))])) : qPa (.str (S l)) (.str (S [47])) P X := by
  refine ⟨_, _, rfl, rfl, rfl, by rw [SX.S_len]; exact qI1 h, ?_⟩
  rcases qFn l with ⟨h0, e⟩ | ⟨a, b, h0, el, e⟩
  · rw [e] at p
    rw [SX.partition_none (by simp) (qJt h0)]
    exact p
  · rw [e] at p
    rw [SX.partition_some (p := a) (q := b) (by simp) (by rw [el]; exact qJf h0)]
    exact p
theorem qN9 {l : List Nat} {P : D → Prop} {X : XP} (p : P (.bl (qJ3 l))) : qHg (.str (S l)) (.str (S [45])) P X := ⟨_, _, rfl, rfl, by rw [qN5]; exact p⟩
theorem qO1 (l : List Nat) : (qJe l).1.length ≤ l.length ∧ ((qJe l).2.getD []).length ≤ l.length := by
  rcases qFn l with ⟨h0, e⟩ | ⟨a, b, h0, el, e⟩
  · rw [e]; exact ⟨Nat.le_refl _, Nat.zero_le _⟩
  · rw [e, el, List.length_append, List.length_cons]
    exact ⟨by show a.length ≤ _; omega, by show b.length ≤ _; omega⟩
theorem qTs {a b c : D} {ρ : Env} {R : Env → Prop} {i j k : Nat} (h : R (((ρ.set i (some a)).set j (some b)).set k (some c))) : qMv [i, j, k] (.tup [a, b, c]) ρ R := ⟨_, rfl, rfl, _, _, rfl, _, _, rfl, _, _, rfl, rfl, h⟩
theorem qVk {a b : Int} (h : a = 1 ∨ a = -1) : IntMulOk a b := by
  rcases h with rfl | rfl
  · exact IntMulOk.of_left (by decide +kernel)
  · exact IntMulOk.of_left (by decide +kernel)
theorem qJy (l : List Nat) : sgL l = 1 ∨ sgL l = -1 := by unfold sgL; split <;> simp
/-- behind the sign -/
def qPg (cs : List Str) : FS := (qBn (qEl (fB (fOp oEq (qAi 3) (fC (.str "")))) (qEc (qHr qNb [.int 1] (qAc (fOp qL6 (qAi 1) (fLs qE7 (qAc (qAi 2) qBb))) qBb))) qBu)
  (qBn (qEl (fOr (qIu (fB (qAw qCy [] (qAc (qAi 4) qBb)))) (fOr (fB (fOp oEq (qAi 4) (fC (.str "0")))) (fB (fOp oEq (qAi 4) (fC (.str "1")))))) (qD9 "NoRatio" "word" (fC (.str "text"))) qBu)
  (qBn (qEl (fB (fOp oNe (qAw qTh [] (qAc (fLs qE7 (qAc (qAi 2) qBb)) (qAc (fLs qE7 (qAc (qAi 4) qBb)) qBb))) (fC (.int 1)))) (qD9 "NoRatio" "word" (fC (.str "text"))) qBu)
  (qEc (qHr qNb [] (qAc (fOp qL6 (qAi 1) (fLs qE7 (qAc (qAi 2) qBb))) (qAc (fLs qE7 (qAc (qAi 4) qBb)) qBb)))))))
def qK6 (cs : List Str) : FS := (qBn (qEl (fOr (qIu (fB (qAw qCy [] (qAc (qAi 2) qBb)))) (qS1 (fB (fOp oLt (qAi 1) (fC (.int 0)))) (fB (fOp oEq (qAi 2) (fC (.str "0")))))) (qD9 "NoRatio" "word" (fC (.str "text"))) qBu)
  (qPg cs))
def qMb (cs : List Str) (P : D → Prop) (X : XP) (s : Int) (z h c t : Str) : Prop := qK6 cs { nx := fun _ => P D.non, rt := P, bk := fun _ => False, ct := fun _ => False, ex := fun x _ => X x, rf := P } [some (.str z), some (.int s), some (.str h), some (.str c), some (.str t)]
theorem qPn (l : List Nat) : (qFb l).length ≤ l.length := by
  unfold qFb
  split
  · rw [List.length_drop]; omega
  · exact Nat.le_refl _
theorem qSl (l : List Nat) : decide (sgL l < 0) = qJ3 l := by
  unfold sgL
  cases qJ3 l <;> rfl
theorem qSi {cs : List Str} (hR : ("Ratio" : Str) ∈ cs) {z : Str} {a : List Nat} {t : Option (List Nat)} {P : D → Prop} {X : XP} (hp : qBm (qFb a) = true) (c2 : (t.getD []).length ≤ 100000) (h : match qIf a t with
    | none => X qN2
    | some q => P (.rat q)) : qPg cs { nx := fun _ => P D.non, rt := P, bk := fun _ => False, ct := fun _ => False, ex := fun x _ => X x, rf := P } [some (.str z), some (.int (sgL a)), some (.str (S (qFb a))), some (.str (S (slL t))), some (.str (S (t.getD [])))] := by
  unfold qIf at h
  simp_arith [qPg]
  rw [qUb, qI7]
  cases t with
  | none =>
    rw [decide_eq_true (show slL none = [] from rfl), if_pos rfl]
    refine qIi hp ?_
    simp_arith []
    refine ⟨qVk (qJy a), _, _, rfl, by decide, trivial, h⟩
  | some t =>
    rw [decide_eq_false (show ¬ slL (some t) = [] from fun z => nomatch z), if_neg (by decide)]
    rw [show (some t).getD [] = t from rfl] at c2 ⊢
    refine ⟨_, rfl, c2, ?_⟩
    simp_arith []
    rw [qQ6, qVj, qI7, qI7]
    unfold qLz at h
    dsimp only at h
    cases e : qBm t with
    | false =>
      rw [e] at h
      exact h
    | true =>
      rw [e] at h
      rw [if_neg (by decide)]
      by_cases h0 : t = [48]
      · rw [decide_eq_true h0] at h ⊢
        exact h
      rw [decide_eq_false h0] at h ⊢
      rw [if_neg (by decide)]
      by_cases h1 : t = [49]
      · rw [decide_eq_true h1] at h ⊢
        exact h
      rw [decide_eq_false h1] at h ⊢
      rw [if_neg (by decide)]
      rw [if_neg (by decide)] at h
      refine qIi hp ?_
      refine qIi e ?_
      refine ⟨_, _, rfl, ?_⟩
      simp_arith []
      have eg : (((vL (qFb a) : Nat) : Int).gcd ((vL t : Nat) : Int)) = Nat.gcd (vL (qFb a)) (vL t) := rfl
      rw [eg]
      by_cases h2 : Nat.gcd (vL (qFb a)) (vL t) = 1
      · rw [if_neg (fun z => z h2)] at h
        rw [h2, if_neg (by decide)]
        refine qIi hp ?_
        simp_arith []
        refine ⟨qVk (qJy a), ?_⟩
        refine qIi e ?_
        refine ⟨_, _, rfl, ?_, trivial, h⟩
        intro z
        have hz : 0 < vL t := qSe e h0
        omega
      · rw [if_pos h2] at h
        rw [decide_eq_false (by omega)]
        exact h
theorem qQb {cs : List Str} (hR : ("Ratio" : Str) ∈ cs) {z : Str} {a : List Nat} {t : Option (List Nat)} {P : D → Prop} {X : XP} (c1 : a.length ≤ 100000) (c2 : (t.getD []).length ≤ 100000) (h : match qFo a t with
    | none => X qN2
    | some q => P (.rat q)) : qMb cs P X (sgL a) z (S (qFb a)) (S (slL t)) (S (t.getD [])) := by
  unfold qMb
  have c3 := qPn a
  simp_arith [qK6]
  refine ⟨_, rfl, by omega, ?_⟩
  simp_arith []
  rw [qSl, qQ6, qI7]
  unfold qFo qKx at h
  cases hp : qBm (qFb a) with
  | false =>
    rw [hp] at h
    exact h
  | true =>
    rw [hp] at h
    rw [if_neg (by decide)]
    have go := qSi (z := z) (a := a) (t := t) (P := P) (X := X) hR hp c2
    cases hn : qJ3 a with
    | false =>
      rw [hn] at h
      rw [if_neg (by decide)]
      exact go h
    | true =>
      rw [hn] at h
      rw [if_pos rfl]
      by_cases h0 : qFb a = [48]
      · rw [decide_eq_true h0] at h ⊢
        exact h
      · rw [decide_eq_false h0] at h ⊢
        rw [if_neg (by decide)]
        exact go h
def qR9 (cs : List Str) : FS := (qBn (qDz 1 (fC (.int 1)))
  (qBn (qEl (fB (fM1 qHg (qAi 2) (fC (.str "-")))) (qBn (qDz 1 (fUn qS0 (fC (.int 1))))
  (qDz 2 (qPq (qAi 2) (qKq (fC (.int 1))) qEn))) qBu)
  (qK6 cs)))
theorem qH0 {cs : List Str} (hR : ("Ratio" : Str) ∈ cs) (ds : List D) (P : D → Prop) (X : XP) (h : qC0 cs ds P X) : qDb cs (qIo P X) (qB7 5 ds) := by
  obtain ⟨d, rfl, h⟩ := h
  simp_arith [qDb, fM1]
  rcases h with ⟨hd, x⟩ | ⟨l, rfl, hl, h⟩
  · exact ⟨_, hd, x⟩
  refine ⟨true, rfl, ?_⟩
  rw [if_neg (by decide)]
  refine ⟨⟨_, rfl⟩, ?_⟩
  rw [qSy]
  refine qQ4 hl ?_
  obtain ⟨c1, c2⟩ := qO1 l
  unfold qBh at h
  generalize qJe l = c at h c1 c2 ⊢
  obtain ⟨a, t⟩ := c
  dsimp only at h c1 c2 ⊢
  refine qTs ?_
  show qR9 cs _ _
  simp_arith [qR9, fM1]
  refine ⟨⟨_, rfl⟩, ?_⟩
  rw [qUd]
  refine qN9 ?_
  simp_arith []
  have go := qQb (z := S l) hR (by omega) (by omega) h
  unfold sgL qFb at go
  split
  · next hn =>
    rw [if_pos hn, if_pos hn] at go
    simp_arith [qPq]
    refine ⟨S a, rfl, by rw [SX.S_len]; exact qI1 (by omega), ?_⟩
    rw [SX.slice_from (by decide)]
    exact go
  · next hn =>
    rw [if_neg hn, if_neg hn] at go
    exact go
theorem qQ7 {FD : FEnds} {v0 : Option D} : ∀ (r k a b : Nat) (v3 v4 : Option D), est a b ≤ r → (∀ v2 v3 v4, FD.nx [v0, some (.int ((Nat.gcd a b : Nat) : Int)), v2, v3, v4]) → qCr (qFr 3) qVw FD (qOe (k : Int) r) [v0, some (.int (a : Int)), some (.int (b : Int)), v3, v4]
  | 0, k, a, b, v3, v4, he, fin => by
    have hb : b = 0 := by
      rcases Nat.eq_zero_or_pos b with h | h
      · exact h
      · rw [qHi (by omega)] at he
        omega
    subst hb
    have := fin (some (.int ((0 : Nat) : Int))) v3 v4
    rw [Nat.gcd_zero_right] at this
    exact this
  | r + 1, k, a, b, v3, v4, he, fin => by
    rw [qNh]
    unfold qCr
    simp_arith []
    split
    · next h =>
      have hb : (b : Int) = 0 := of_decide_eq_true h
      have hb : b = 0 := by omega
      subst hb
      have := fin (some (.int ((0 : Nat) : Int))) (some (.int (k : Nat))) v4
      rw [Nat.gcd_zero_right] at this
      exact this
    · next h =>
      have hb : b ≠ 0 := fun z => h (decide_eq_true (by rw [z]; rfl))
      refine ⟨by omega, ?_⟩
      have em : ((a : Int)).fmod (b : Int) = ((a % b : Nat) : Int) := by
        rw [Int.fmod_eq_emod_of_nonneg _ (by omega)]
        exact (Int.natCast_emod a b).symm
      rw [em]
      have := qQ7 (FD := FD) (v0 := v0) r (k + 1) b (a % b) (some (.int (k : Nat))) (some (.int ((a % b : Nat) : Int))) (by rw [qHi hb] at he; omega) (fun v1 v2 v3 => by
        have := fin v1 v2 v3
        rw [show Nat.gcd a b = Nat.gcd b (a % b) by rw [Nat.gcd_comm b, ← Nat.gcd_rec, Nat.gcd_comm]] at this
        exact this)
      rw [show ((k + 1 : Nat) : Int) = (k : Int) + 1 by omega] at this
      exact this
theorem qI4 {cs : List Str} (hR : ("Ratio" : Str) ∈ cs) (ds : List D) (P : D → Prop) (X : XP) (h : qCs ds P X) : qDx cs (qIo P X0) (qB7 5 ds) := by
  obtain ⟨a, b, rfl, h0, h1, p⟩ := h
  simp_arith [qDx, qLu, qL8]
  refine ⟨_, _, _, .inl rfl, rfl, rfl, ?_⟩
  simp_arith []
  refine ⟨_, _, _, .inl rfl, rfl, rfl, ?_⟩
  simp_arith []
  refine ⟨by decide, by decide, ?_⟩
  have eb : b = ((b.natAbs : Nat) : Int) := by omega
  have hb : b.natAbs < 2 ^ 133 := Nat.lt_trans (show b.natAbs < 10 ^ 40 by omega) (by decide +kernel)
  have es := qOl 133 a.natAbs b.natAbs hb
  have hg : ((Nat.gcd a.natAbs b.natAbs : Nat) : Int) ≠ 0 := by
    have := Nat.gcd_pos_of_pos_right a.natAbs (show 0 < b.natAbs by omega)
    omega
  have go := qQ7 (FD := {
      nx := qEc (qMx (qAc (fOp qSk (fOp qHh (qAi 0) (fC (D.int 0))) (qAi 1)) (qAc (fOp qSk (fOp qHh (qAi 0) (fC (D.int 1))) (qAi 1)) qBb)))
          { nx := fun x => P D.non, rt := P, bk := fun x => False, ct := fun x => False, ex := fun x x_1 => X0 x, rf := P },
      rt := P, bk := fun x => False, ct := fun x => False, ex := fun x x_1 => X0 x, rf := P }) (v0 := some (D.lst [D.int a, D.int b])) 400 0 a.natAbs b.natAbs none none (by omega) (fun v2 v3 v4 => by
    simp_arith []
    refine ⟨_, _, _, .inl rfl, rfl, rfl, ?_⟩
    simp_arith []
    refine ⟨hg, ?_⟩
    refine ⟨_, _, _, .inl rfl, rfl, rfl, ?_⟩
    simp_arith []
    refine ⟨hg, ?_⟩
    rw [show ((Nat.gcd a.natAbs b.natAbs : Nat) : Int) = ((Int.gcd a b : Nat) : Int) from rfl, qHn h0, qHe h0]
    exact ⟨by rw [sizeLine_eq]; decide, p⟩)
  rw [← eb] at go
  exact go
theorem qD8 {z : Int} (h : z.natAbs < 10 ^ 60) {P : D → Prop} {X : XP} (p : P (.str (S (qDg z)))) : qE6 [.int z] P X := by
  refine ⟨z, rfl, ?_, by rw [← qJm] at p; exact p⟩
  rcases Nat.eq_zero_or_pos z.natAbs with e | h0
  · rw [e]; decide
  · refine (Nat.log2_lt (by omega)).mpr (Nat.lt_trans h ?_)
    decide +kernel
theorem qDf {z : Int} (h : z.natAbs < 10 ^ 60) : (qDg z).length ≤ 61 := by
  have := TL.numL_len (k := 60) (by decide) h
  unfold qDg
  split
  · rw [List.length_cons]; omega
  · omega
abbrev qKr : List Nat := [32, 43, 46, 44, 101, 69, 95, 120, 98, 9, 10, 40, 41, 39, 35]
theorem qTo : (Str.ofString " +.,eE_xb\t\n()'#") = S qKr := by rfl
theorem qU2 : (Str.ofString "\n") = S [10] := by rfl
theorem qTz : (Str.ofString "/1") = S [47, 49] := by rfl
theorem qTp : (Str.ofString "--") = S [45, 45] := by rfl
theorem qT0 : (Str.ofString "/-") = S [47, 45] := by rfl
theorem qT7 : (Str.ofString "-0") = S [45, 48] := by rfl
theorem qTg : (Str.ofString "3/0") = S [51, 47, 48] := by rfl
theorem qVn : (Str.ofString "7") = S [55] := by rfl
theorem qRb : (Str.ofString "-1/3") = S [45, 49, 47, 51] := by rfl
theorem qUa : (Str.ofString "1/") = S [49, 47] := by rfl
theorem qSm {l : List Nat} (h : l.length ≤ 100000) {P : D → Prop} {X : XP} (p : P (.int (l.length : Nat))) : qMd [.str (S l)] P X := ⟨_, rfl, by rw [SX.S_len]; exact qI1 h, by rw [SX.S_len]; exact p⟩
theorem qT1 (c : Nat) (n : Nat) : qM6 (S [c]) n = S (List.replicate n c) := by
  unfold qM6
  congr 1
  congr 1
  induction n with
  | zero => rfl
  | succ n ih =>
    rw [List.replicate_succ, List.replicate_succ, List.flatten_cons, ih]
    rfl
theorem qPs {c : Nat} {n : Nat} (h : n ≤ 100000) {P : D → Prop} {X : XP} (p : P (.str (S (List.replicate n c)))) : qHd (.str (S [c])) (.int (n : Nat)) P X := by
  refine ⟨_, _, rfl, rfl, rfl, by omega, by omega, ?_⟩
  rw [show ((n : Int)).toNat = n from Int.toNat_natCast n, qT1]
  exact p
def qKl (s : Str) : Prop := ∃ l : List Nat, s = S l ∧ l.length ≤ 100000 ∧ qBh l = none
theorem qA2 {l : List Nat} (h : qBh l = none) (hl : l.length ≤ 100000) : qKl (S l) := ⟨l, rfl, hl, h⟩
theorem fcB {a : Str} {l : List Str} (h : qKl a) (t : ∀ s, s ∈ l → qKl s) : ∀ s, s ∈ a :: l → qKl s := fun s hs => by
  rcases List.mem_cons.mp hs with e | e
  · rw [e]; exact h
  · exact t s e
theorem fcN : ∀ s, s ∈ ([] : List Str) → qKl s := fun s hs => nomatch hs
theorem qH6 {cs : List Str} (hR : ("Ratio" : Str) ∈ cs) (ds : List D) (P : D → Prop) (X : XP) (h : qB2 ds P X) : qC4 cs (qIo P X0) (qB7 8 ds) := by
  obtain ⟨q, rfl, h1, h2, p⟩ := h
  have tl := qFk h1 h2
  simp_arith [qC4]
  refine qSm (by omega) ?_
  simp_arith []
  refine ⟨_, rfl, by omega, trivial, fun at_ a0 a1 => ?_⟩
  rw [qTo]
  refine qSm (by decide) ?_
  refine ⟨_, rfl, by decide, trivial, fun k k0 k1 => ?_⟩
  obtain ⟨kn, rfl⟩ := Int.eq_ofNat_of_zero_le k0
  have k2 : kn < qKr.length := by omega
  refine ⟨_, _, qKr[kn], rfl, rfl, k0, by
    have : qKr.length = 15 := rfl
    omega, by rw [SX.S_len]; exact k1, by
    show (qKr.toArray)[kn]? = _
    simp [k2], ?_⟩
  refine ⟨_, rfl, by decide, trivial, fun t t0 t1 => ?_⟩
  obtain ⟨tn, rfl⟩ := Int.eq_ofNat_of_zero_le t0
  simp_arith []
  refine ⟨by decide, ?_⟩
  simp_arith [qPq]
  refine ⟨S (qA6 q), rfl, by rw [SX.S_len]; exact qI1 (by omega), ?_⟩
  rw [SX.slice_to a0]
  have la : ((qA6 q).take at_.toNat).length ≤ 82 := by rw [List.length_take]; omega
  have lb : ((qA6 q).drop at_.toNat).length ≤ 82 := by rw [List.length_drop]; omega
  refine qB9 (b := [qKr[kn]]) (by rw [List.length_singleton]; omega) ?_
  refine ⟨S (qA6 q), rfl, by rw [SX.S_len]; exact qI1 (by omega), ?_⟩
  rw [SX.slice_from a0]
  refine qB9 (by rw [List.length_append, List.length_singleton]; omega) ?_
  rw [qU2, qQ6, qTz, qSy, qTp]
  refine qB9 (by rw [List.length_singleton]; omega) ?_
  refine qB9 (by rw [List.length_singleton]; omega) ?_
  refine qB9 (by simp only [List.length_cons, List.length_nil]; omega) ?_
  refine qB9 (by rw [List.length_singleton]; omega) ?_
  refine qB9 (by rw [List.length_singleton]; omega) ?_
  refine qB9 (by simp only [List.length_cons, List.length_nil]; omega) ?_
  have sml : ∀ n : Nat, n ≤ 100 → n < sizeLine := fun n hn => by rw [sizeLine_eq]; omega
  refine ⟨Nat.le_of_lt (sml 7 (by decide)), ?_⟩
  have n133 : q.num.natAbs < 2 ^ 133 := Nat.lt_trans h1 (by decide +kernel)
  have d133 : ((q.den : Nat) : Int).natAbs < 2 ^ 133 := Nat.lt_trans h2 (by decide +kernel)
  have t7 : (2 + (tn : Int)).natAbs < 2 ^ 7 := by
    have : (2 : Nat) ^ 7 = 128 := by decide
    omega
  have et : 2 + (tn : Int) = ((2 + tn : Nat) : Int) := by omega
  have ed : ((q.den : Nat) : Int) * (2 + (tn : Int)) = ((q.den * (2 + tn) : Nat) : Int) := by rw [et, Int.natCast_mul]
  have b60 : (10 : Nat) ^ 40 * 100 ≤ 10 ^ 60 := by decide +kernel
  have m1 : (q.num * (2 + (tn : Int))).natAbs < 10 ^ 60 := by
    rw [Int.natAbs_mul]
    have : (2 + (tn : Int)).natAbs ≤ 100 := by omega
    have := Nat.mul_lt_mul_of_lt_of_le h1 this (by decide)
    omega
  have m2 : ((q.den * (2 + tn) : Nat) : Int).natAbs < 10 ^ 60 := by
    have : 2 + tn ≤ 100 := by omega
    have := Nat.mul_lt_mul_of_lt_of_le h2 this (by decide)
    show q.den * (2 + tn) < _
    omega
  have q1 : q.num.natAbs < 10 ^ 60 := Nat.lt_trans h1 (by decide +kernel)
  have q2 : ((q.den : Nat) : Int).natAbs < 10 ^ 60 := Nat.lt_trans h2 (by decide +kernel)
  have i1 := qDf m1
  have i2 := qDf m2
  have i3 := qDf q1
  have i4 := qDf q2
  refine ⟨_, _, _, .inl rfl, rfl, rfl, ?_⟩
  simp_arith []
  refine ⟨qLd n133 t7 (by decide), ?_⟩
  refine qD8 m1 ?_
  refine qB9 (by rw [List.length_singleton]; omega) ?_
  refine ⟨_, _, _, .inl rfl, rfl, rfl, ?_⟩
  simp_arith []
  refine ⟨qLd d133 t7 (by decide), ?_⟩
  rw [ed]
  refine qD8 m2 ?_
  refine qB9 (by rw [List.length_append, List.length_singleton]; omega) ?_
  refine ⟨sml 7 (by decide), ?_⟩
  refine ⟨_, _, _, .inl rfl, rfl, rfl, ?_⟩
  refine qD8 q1 ?_
  rw [qT0]
  refine qB9 (by simp only [List.length_cons, List.length_nil]; omega) ?_
  refine ⟨_, _, _, .inl rfl, rfl, rfl, ?_⟩
  refine qD8 q2 ?_
  refine qB9 (by rw [List.length_append]; simp only [List.length_cons, List.length_nil]; omega) ?_
  refine ⟨sml 8 (by decide), sml 9 (by decide), sml 10 (by decide), sml 11 (by decide), sml 12 (by decide), ?_⟩
  refine qPs (n := 40) (by decide) ?_
  rw [qVj]
  refine qB9 (by rw [List.length_replicate, List.length_singleton]; decide) ?_
  refine ⟨sml 13 (by decide), ?_⟩
  refine qPs (n := 40) (by decide) ?_
  rw [qRb]
  refine qB9 (by rw [List.length_replicate]; decide) ?_
  refine ⟨sml 14 (by decide), ?_⟩
  rw [qVn]
  refine qPs (n := 5000) (by decide) ?_
  refine ⟨sml 15 (by decide), ?_⟩
  refine qPs (n := 5000) (by decide) ?_
  rw [qUa]
  refine qB9 (by rw [List.length_replicate]; decide) ?_
  refine ⟨sml 16 (by decide), ?_⟩
  rw [qT7, qUb, qUd, qTg, qDh]
  rw [et] at i1 ⊢
  rw [qDh] at i2 i4
  rw [qDh]
  have rl : ∀ (l : List Nat) (c n : Nat), (l ++ List.replicate n c).length = l.length + n := fun l c n => by rw [List.length_append, List.length_replicate]
  refine p [S ((qA6 q).take at_.toNat ++ [qKr[kn]] ++ (qA6 q).drop at_.toNat), S (qA6 q ++ [10]), S (48 :: qA6 q), S (qA6 q ++ [47, 49]), S (qA6 q ++ [47]), S (47 :: qA6 q), S (45 :: 45 :: qA6 q),
    S (qDg (q.num * ((2 + tn : Nat) : Int)) ++ [47] ++ numL (q.den * (2 + tn))), S (qDg q.num ++ [47, 45] ++ numL q.den), S [45, 48], S [], S [45], S [51, 47, 48],
    S ([49] ++ List.replicate 40 48), S ([45, 49, 47, 51] ++ List.replicate 40 48), S (List.replicate 5000 55), S ([49, 47] ++ List.replicate 5000 55)] ?_
  refine fcB (qA2 ?_ ?_) (fcB (qA2 (qPc _) ?_) (fcB (qA2 (qMz _) ?_) (fcB (qA2 (qQf _) ?_) (fcB (qA2 (qN1 _) ?_) (fcB (qA2 (qL4 _) ?_) (fcB (qA2 (qLo _) ?_) (fcB (qA2 ?_ ?_) (fcB (qA2 ?_ ?_)
    (fcB (qA2 (qFg (by decide)) (by decide)) (fcB (qA2 (qFg (by decide)) (by decide)) (fcB (qA2 (qFg (by decide)) (by decide)) (fcB (qA2 (qFg (by decide)) (by decide)) (fcB (qA2 ?_ ?_) (fcB (qA2 ?_ ?_) (fcB (qA2 ?_ ?_) (fcB (qA2 ?_ ?_) fcN))))))))))))))))
  · have hs : ∀ k : Nat, ∀ h : k < qKr.length, qKr[k] ≠ 45 ∧ qKr[k] ≠ 47 ∧ ¬ (48 ≤ qKr[k] ∧ qKr[k] ≤ 57) := by decide
    exact qJ5 (c := qKr[kn]) (List.mem_append_left _ (List.mem_append_right _ (.head _))) (hs kn k2)
  · rw [List.length_append, List.length_append, List.length_singleton]; omega
  · rw [List.length_append, List.length_singleton]; omega
  · rw [List.length_cons]; omega
  · rw [List.length_append]; simp only [List.length_cons, List.length_nil]; omega
  · rw [List.length_append, List.length_singleton]; omega
  · rw [List.length_cons]; omega
  · rw [List.length_cons, List.length_cons]; omega
  · rw [List.append_assoc]
    exact qP1 (by omega)
  · rw [List.length_append, List.length_append, List.length_singleton]; omega
  · rw [List.append_assoc]
    have := qP4 q.num ((q.den : Nat) : Int)
    rw [qDh] at this
    exact this
  · rw [List.length_append, List.length_append]; simp only [List.length_cons, List.length_nil]; omega
  · exact qJ7 (by decide) (by decide) (by decide) (Nat.le_refl 40)
  · rw [rl]; decide
  · exact qIj (p := [45, 49]) (t := 51 :: List.replicate 40 48) (by decide) (by rw [List.length_cons, List.length_replicate]; decide)
  · rw [rl]; decide
  · exact qJ7 (c := 55) (d := 55) (n := 4999) (by decide) (by decide) (by decide) (by decide)
  · rw [List.length_replicate]; decide
  · exact qIj (p := [49]) (t := List.replicate 5000 55) (by decide) (by rw [List.length_replicate]; decide)
  · rw [rl]; decide
theorem qH4 {K : PySem.W.Frag} {cs : List Str} (vs : List V) (H : Hp) (Q : VK) (E : XK) (h : (lift K qCy) vs H Q E) : vs.length = 1 := qBo (fun ds P X h => by unfold qCy at h; first | ((repeat (first | (obtain ⟨rfl, _⟩ := h; exact rfl) | obtain ⟨_, h⟩ := h)); done) | (split at h <;> first | rfl | exact h.elim)) h
theorem qI9 {K : PySem.W.Frag} {cs : List Str} (T : KF K cs) (hRatio : ("Ratio" : Str) ∈ cs) (vs : List V) (H : Hp) (Q : VK) (E : XK) (h : (lift K qCy) vs H Q E) : qDw K cs { nx := fun _ H' => Q .non H', rt := Q } (start ["digits", "sign"] vs) H :=
  qEa rfl (qKb T hRatio) (qKt hRatio) vs H Q E h
theorem qGa {K : PySem.W.Frag} {cs : List Str} (vs : List V) (H : Hp) (Q : VK) (E : XK) (h : (lift K (qC0 cs)) vs H Q E) : vs.length = 1 := qBo (fun ds P X h => by unfold qC0 at h; first | ((repeat (first | (obtain ⟨rfl, _⟩ := h; exact rfl) | obtain ⟨_, h⟩ := h)); done) | (split at h <;> first | rfl | exact h.elim)) h
theorem qG8 {K : PySem.W.Frag} {cs : List Str} (T : KF K cs) (hRatio : ("Ratio" : Str) ∈ cs) (vs : List V) (H : Hp) (Q : VK) (E : XK) (h : (lift K (qC0 cs)) vs H Q E) : qB5 K cs E { nx := fun _ H' => Q .non H', rt := Q } (start ["text", "sign", "head", "slash", "tail"] vs) H :=
  qUs (t := fun E => qB5 K cs E) rfl (qH9 T hRatio) (qH0 hRatio) vs H Q E h
theorem qGh {K : PySem.W.Frag} {cs : List Str} (vs : List V) (H : Hp) (Q : VK) (E : XK) (h : (lift K qCz) vs H Q E) : vs.length = 1 := qBo (fun ds P X h => by unfold qCz at h; first | ((repeat (first | (obtain ⟨rfl, _⟩ := h; exact rfl) | obtain ⟨_, h⟩ := h)); done) | (split at h <;> first | rfl | exact h.elim)) h
theorem qHj {K : PySem.W.Frag} {cs : List Str} (T : KF K cs) (hRatio : ("Ratio" : Str) ∈ cs) (vs : List V) (H : Hp) (Q : VK) (E : XK) (h : (lift K qCz) vs H Q E) : qCu K cs { nx := fun _ H' => Q .non H', rt := Q } (start ["self"] vs) H :=
  qEa rfl (qHs T hRatio) (qIn hRatio) vs H Q E h
theorem qHb {K : PySem.W.Frag} {cs : List Str} (vs : List V) (H : Hp) (Q : VK) (E : XK) (h : (lift K qCs) vs H Q E) : vs.length = 1 := qBo (fun ds P X h => by unfold qCs at h; first | ((repeat (first | (obtain ⟨rfl, _⟩ := h; exact rfl) | obtain ⟨_, h⟩ := h)); done) | (split at h <;> first | rfl | exact h.elim)) h
theorem qHw {K : PySem.W.Frag} {cs : List Str} (T : KF K cs) (hRatio : ("Ratio" : Str) ∈ cs) (vs : List V) (H : Hp) (Q : VK) (E : XK) (h : (lift K qCs) vs H Q E) : qDc K cs { nx := fun _ H' => Q .non H', rt := Q } (start ["_law_pair_here", "_law_a", "_law_b", "_law_k", "_law_rest"] vs) H :=
  qEa rfl (qI6 T hRatio) (qI4 hRatio) vs H Q E h
theorem qF9 {K : PySem.W.Frag} {cs : List Str} (vs : List V) (H : Hp) (Q : VK) (E : XK) (h : (lift K qB2) vs H Q E) : vs.length = 3 := qBo (fun ds P X h => by unfold qB2 at h; first | ((repeat (first | (obtain ⟨rfl, _⟩ := h; exact rfl) | obtain ⟨_, h⟩ := h)); done) | (split at h <;> first | rfl | exact h.elim)) h
theorem qHa {K : PySem.W.Frag} {cs : List Str} (T : KF K cs) (hRatio : ("Ratio" : Str) ∈ cs) (vs : List V) (H : Hp) (Q : VK) (E : XK) (h : (lift K qB2) vs H Q E) : qCn K cs { nx := fun _ H' => Q .non H', rt := Q } (start ["_law_feed_here", "_law_pair_here", "_law_text", "_law_signs", "_law_at", "_law_sign", "_law_times", "_law_rows"] vs) H :=
  qEa rfl (qIa T hRatio) (qH6 hRatio) vs H Q E h
end MR

set_option Elab.async false
set_option linter.all false
set_option maxRecDepth 100000
set_option maxHeartbeats 4000000
set_option exponentiation.threshold 20000
namespace MR
open PySem PySem.Spec PyProof.Rows L2
abbrev qUg : qKy := [("NoRatio", "NoRatio", true)]
def qCv (K : PySem.W.Frag) (cs : List Str) : TS :=
  (tSeq (tAsg (tC (.str "")) (gName 1))
  (tSeq (fun D => (fun W => (tDrop (tCallSD (lift K (qC0 cs)) [] (WE W) (tCons (tVar 0) tNil)))) (wAs K (.ref (He.ga K "NoRatio")) 2 (fun a cls d => (tAsg (tXf a cls d (He.ga K "NoRatio") "word" (tVar 2)) (gName 1))) (fun _ _ _ _ => False) D) D)
  (tRet (tOp rEq (tVar 1) (tC (.str "text"))))))
def qC6 (cs : List Str) (XT : qKy) : FS :=
  (qBn (qDz 1 (fC (.str "")))
  (qBn (qLg XT "NoRatio" 2 1 (qQi (qHr (qC0 cs) [] (qAc (qAi 0) qBb))) (fun x => (qUw 2 (fXf x "NoRatio" "word"))))
  (qEc (fOp oEq (qAi 1) (fC (.str "text"))))))
theorem qH2 {K : PySem.W.Frag} {cs : List Str} {XT : qKy} (T : KF K cs) (XO : XOk K XT) (IX : IOk K XT) (hRatio : ("Ratio" : Str) ∈ cs) : SS K Ta [] [] [] [] (fun _ => E0) (qCv K cs) (qC6 cs XT) :=
  (qAh (ow1 := []) (qBk (by decide) (by decide) qAj)
  (qAh (ow1 := []) (qNu XO (by decide) (by decide) (fun W => (qQn (by decide) (qN8 Lift.refl qAo (qAa (qAb (by decide)) qAe)))) (fun a cls d x => (SEH.len qT4)))
  (qBg (by decide) (qAd (fun _ => qDp) (qAb (by decide)) qAj))))
def qG9 (cs : List Str) : FS :=
  (qLu (qS7 (qAw qB2 [] (qAc (qAi 1) (qAc (qAi 5) (qAc (qAi 6) qBb))))) (qFr 9) (qEl (qIu (fB (qAw (qA0 cs) [] (qAc (qAi 9) qBb)))) (qEc (fC (.bl false))) qBu))
def qJg (cs : List Str) : FS :=
  qBn (qEl (fOr (qIu (fB (qAw fIs [] (qAc (qAi 8) (qAc (fOp qHh (qAi 5) (fC (.int 0))) (qAc (fOp qHh (qAi 5) (fC (.int 1))) qBb)))))) (fB (fOp oNe (qGl "Ratio" "text" qCz (qAi 8) qBb) (qAi 6)))) (qEc (fC (.bl false))) qBu) (qG9 cs)
def qJi (cs : List Str) : FS :=
  qBn (qDz 8 (qAw (qC0 cs) [] (qAc (qAi 6) qBb))) (qJg cs)
def qJh (cs : List Str) : FS :=
  qBn (qEl (fOr (qIu (fB (qOb cs (.ty "str") (qGl "Ratio" "text" qCz (qAi 7) qBb)))) (fB (fOp oNe (qGl "Ratio" "text" qCz (qAi 7) qBb) (qAi 6)))) (qEc (fC (.bl false))) qBu) (qJi cs)
def qFd (cs : List Str) : FS :=
  qBn (qDz 7 (qAw qNb [] (qAc (fOp qHh (qAi 5) (fC (.int 0))) (qAc (fOp qHh (qAi 5) (fC (.int 1))) qBb)))) (qJh cs)
def qJj (cs : List Str) : FS :=
  qBn (qEl (fB (fOp oNe (fOp qHh (qAi 5) (fC (.int 1))) (fC (.int 1)))) (qDz 6 (fOp qB3 (fOp qB3 (qAi 6) (fC (.str "/"))) (fLs qE6 (qAc (fOp qHh (qAi 5) (fC (.int 1))) qBb)))) qBu) (qFd cs)
def qJv (cs : List Str) : FS :=
  qBn (qDz 6 (fLs qE6 (qAc (fOp qHh (qAi 5) (fC (.int 0))) qBb))) (qJj cs)
def qGy (cs : List Str) : FS :=
  qBn (qDz 5 (qAw qCs [] (qAc (qMx (qAc (qAw qCw [] (qAc (qAi 1) (qAc (qAi 4) qBb))) (qAc (fOp qQ0 (fC (.int 1)) (qAw qB4 [] (qAc (qAi 1) (qAc (fOp qTv (qAi 4) (fC (.int 1))) qBb)))) qBb))) qBb))) (qJv cs)
def qFe (cs : List Str) : FS :=
  qBn (qDz 4 (fOp qHh (qMx (qAc (fC (.int 13)) (qAc (fOp qS8 (fC (.int 10)) (fC (.int 6))) (qAc (fOp qS8 (fC (.int 10)) (fC (.int 40))) qBb)))) (qAw qB4 [] (qAc (qAi 1) (qAc (fC (.int 3)) qBb))))) (qGy cs)
def qI2 (K : PySem.W.Frag) (cs : List Str) : TS :=
  (tSeq (tFor (iRng1 (tCons (tOp qE5 (tC (.int 1)) (tCall (lift K qB4) [] E0 (tCons (tVar 1) (tCons (tC (.int 10)) tNil)))) tNil)) (gName 2) (tSeq (tAsg (tOp (rIxL K) (tLst (tCons (tC (.int 13)) (tCons (tOp qIe (tC (.int 10)) (tC (.int 6))) (tCons (tOp qIe (tC (.int 10)) (tC (.int 40))) tNil)))) (tCall (lift K qB4) [] E0 (tCons (tVar 1) (tCons (tC (.int 3)) tNil)))) (gName 4))
  (tSeq (tAsg (tCall (lift K qCs) [] E0 (tCons (tLst (tCons (tCall (lift K qCw) [] E0 (tCons (tVar 1) (tCons (tVar 4) tNil))) (tCons (tOp qE5 (tC (.int 1)) (tCall (lift K qB4) [] E0 (tCons (tVar 1) (tCons (tOp qMa (tVar 4) (tC (.int 1))) tNil)))) tNil))) tNil)) (gName 5))
  (tSeq (tAsg (tCB qEp (tCons (tOp (rIxL K) (tVar 5) (tC (.int 0))) tNil)) (gName 6))
  (tSeq (tIfS (tTest (tOp rNe (tOp (rIxL K) (tVar 5) (tC (.int 1))) (tC (.int 1)))) (tAsg (tOp qBt (tOp qBt (tVar 6) (tC (.str "/"))) (tCB qEp (tCons (tOp (rIxL K) (tVar 5) (tC (.int 1))) tNil))) (gName 6)) tNext)
  (tSeq (tAsg (tMake (He.ga K "Ratio") (qBi K) [] E0 (tCons (tOp (rIxL K) (tVar 5) (tC (.int 0))) (tCons (tOp (rIxL K) (tVar 5) (tC (.int 1))) tNil))) (gName 7))
  (tSeq (tIfS (tOr (tNot (tB (tCB (rIsi K) (tCons (tMeth (He.ga K "Ratio") "text" (lift K qCz) [] E0 (tVar 7) tNil) (tCons (tC (.ty "str")) tNil))))) (tTest (tOp rNe (tMeth (He.ga K "Ratio") "text" (lift K qCz) [] E0 (tVar 7) tNil) (tVar 6)))) (tRet (tC (.bl false))) tNext)
  (tSeq (tAsg (tCall (lift K (qC0 cs)) [] E0 (tCons (tVar 6) tNil)) (gName 8))
  (tSeq (tIfS (tOr (tNot (tB (tCall (lift K fIs) [] E0 (tCons (tVar 8) (tCons (tOp (rIxL K) (tVar 5) (tC (.int 0))) (tCons (tOp (rIxL K) (tVar 5) (tC (.int 1))) tNil)))))) (tTest (tOp rNe (tMeth (He.ga K "Ratio") "text" (lift K qCz) [] E0 (tVar 8) tNil) (tVar 6)))) (tRet (tC (.bl false))) tNext)
  (tFor (iList K (tCall (lift K qB2) [] E0 (tCons (tVar 1) (tCons (tVar 5) (tCons (tVar 6) tNil))))) (gName 9) (tIfS (tNot (tB (tCall (lift K (qA0 cs)) [] E0 (tCons (tVar 9) tNil)))) (tRet (tC (.bl false))) tNext)))))))))))
  (tSeq (tFor (iList K (tLst (tCons (tC .non) (tCons (tC (.int 3)) (tCons (tC (.bl true)) (tCons (tLst (tCons (tC (.str "1")) tNil)) (tCons (tMake (He.ga K "Ratio") (qBi K) [] E0 (tCons (tC (.int 1)) (tCons (tC (.int 2)) tNil))) tNil))))))) (gName 3) (tIfS (tNot (tB (tCall (lift K (qA0 cs)) [] E0 (tCons (tVar 3) tNil)))) (tRet (tC (.bl false))) tNext))
  (tRet (tAndV (tOp rEq (tMeth (He.ga K "Ratio") "text" (lift K qCz) [] E0 (tCall (lift K (qC0 cs)) [] E0 (tCons (tOp qBt (tC (.str "-")) (tOp qE8 (tC (.str "9")) (tC (.int 40)))) tNil)) tNil) (tOp qBt (tC (.str "-")) (tOp qE8 (tC (.str "9")) (tC (.int 40))))) (tOp (qSb (He.ga K "Ratio") (lift K (fRB fun a b => decide (a = b))) E0) (tCall (lift K (qC0 cs)) [] E0 (tCons (tOp qBt (tC (.str "1/1")) (tOp qE8 (tC (.str "0")) (tC (.int 39)))) tNil)) (tMake (He.ga K "Ratio") (qBi K) [] E0 (tCons (tC (.int 1)) (tCons (tOp qIe (tC (.int 10)) (tC (.int 39))) tNil))))))))
def qEm (cs : List Str) : FS :=
  (qBn (qLu (qL8 (qAc (fOp qQ0 (fC (.int 1)) (qAw qB4 [] (qAc (qAi 1) (qAc (fC (.int 10)) qBb)))) qBb)) (qFr 2) (qFe cs))
  (qBn (qLu (qS7 (qMx (qAc (fC .non) (qAc (fC (.int 3)) (qAc (fC (.bl true)) (qAc (qMx (qAc (fC (.str "1")) qBb)) (qAc (qAw qNb [] (qAc (fC (.int 1)) (qAc (fC (.int 2)) qBb))) qBb))))))) (qFr 3) (qEl (qIu (fB (qAw (qA0 cs) [] (qAc (qAi 3) qBb)))) (qEc (fC (.bl false))) qBu))
  (qEc (qIw (fOp oEq (qGl "Ratio" "text" qCz (qAw (qC0 cs) [] (qAc (fOp qB3 (fC (.str "-")) (fOp qHd (fC (.str "9")) (fC (.int 40)))) qBb)) qBb) (fOp qB3 (fC (.str "-")) (fOp qHd (fC (.str "9")) (fC (.int 40))))) (fOp (qKh "Ratio" (fRB fun a b => decide (a = b))) (qAw (qC0 cs) [] (qAc (fOp qB3 (fC (.str "1/1")) (fOp qHd (fC (.str "0")) (fC (.int 39)))) qBb)) (qAw qNb [] (qAc (fC (.int 1)) (qAc (fOp qS8 (fC (.int 10)) (fC (.int 39))) qBb))))))))
theorem qJ8 {K : PySem.W.Frag} {cs : List Str} (T : KF K cs) (hRatio : ("Ratio" : Str) ∈ cs) : SS K Ta [] [] [] [] (fun _ => E0) (qI2 K cs) (qEm cs) :=
  (qAh (ow1 := []) (qH7 (by decide) (qMm (qAa (qAd (fun _ => qJ6) qAf (qAn Lift.refl qAo (qAa (qAb (by decide)) (qAa qAf qAe)))) qAe)) (qFm (by decide)) (qAh (ow1 := []) (qBk (by decide) (by decide) (qAd (fun _ => qBz) (qId (qAa qAf (qAa (qAd (fun _ => qLi) qAf qAf) (qAa (qAd (fun _ => qLi) qAf qAf) qAe)))) (qAn Lift.refl qAo (qAa (qAb (by decide)) (qAa qAf qAe)))))
  (qAh (ow1 := []) (qBk (by decide) (by decide) (qAn Lift.refl qAo (qAa (qId (qAa (qAn Lift.refl qAo (qAa (qAb (by decide)) (qAa (qAb (by decide)) qAe))) (qAa (qAd (fun _ => qJ6) qAf (qAn Lift.refl qAo (qAa (qAb (by decide)) (qAa (qAd (fun _ => qOx) (qAb (by decide)) qAf) qAe)))) qAe))) qAe)))
  (qAh (ow1 := []) (qBk (by decide) (by decide) (qCq (fun _ => qCm) (qAa (qAd (fun _ => qBz) (qAb (by decide)) qAf) qAe)))
  (qAh (ow1 := []) (qC1 (by decide) (qBq (qAd (fun _ => qMg) (qAd (fun _ => qBz) (qAb (by decide)) qAf) qAf)) (qBk (by decide) (by decide) (qAd (fun _ => qA1) (qAd (fun _ => qA1) (qAb (by decide)) qAj) (qCq (fun _ => qCm) (qAa (qAd (fun _ => qBz) (qAb (by decide)) qAf) qAe)))) (qA9 (by decide)))
  (qAh (ow1 := []) (qBk (by decide) (by decide) (qHo qLb qAo (qAa (qAd (fun _ => qBz) (qAb (by decide)) qAf) (qAa (qAd (fun _ => qBz) (qAb (by decide)) qAf) qAe))))
  (qAh (ow1 := []) (qC1 (by decide) (qH3 (qDl (qKk (qGj (c := (.ty "str")) T.toKT (qFi Lift.refl (qAb (by decide)) qAe)))) (qBq (qAd (fun _ => qMg) (qFi Lift.refl (qAb (by decide)) qAe) (qAb (by decide))))) (qBg (by decide) qGw) (qA9 (by decide)))
  (qAh (ow1 := []) (qBk (by decide) (by decide) (qAn Lift.refl qAo (qAa (qAb (by decide)) qAe)))
  (qAh (ow1 := []) (qC1 (by decide) (qH3 (qDl (qKk (qAn Lift.refl qAo (qAa (qAb (by decide)) (qAa (qAd (fun _ => qBz) (qAb (by decide)) qAf) (qAa (qAd (fun _ => qBz) (qAb (by decide)) qAf) qAe)))))) (qBq (qAd (fun _ => qMg) (qFi Lift.refl (qAb (by decide)) qAe) (qAb (by decide))))) (qBg (by decide) qGw) (qA9 (by decide)))
  (qH7 (by decide) (qMc (qAn Lift.refl qAo (qAa (qAb (by decide)) (qAa (qAb (by decide)) (qAa (qAb (by decide)) qAe))))) (qFm (by decide)) (qC1 (by decide) (qDl (qKk (qAn Lift.refl qAo (qAa (qAb (by decide)) qAe)))) (qBg (by decide) qGw) (qA9 (by decide)))))))))))))
  (qAh (ow1 := []) (qH7 (by decide) (qMc (qId (qAa qRw (qAa qAf (qAa qGw (qAa (qId (qAa qAj qAe)) (qAa (qHo qLb qAo (qAa qAf (qAa qAf qAe))) qAe))))))) (qFm (by decide)) (qC1 (by decide) (qDl (qKk (qAn Lift.refl qAo (qAa (qAb (by decide)) qAe)))) (qBg (by decide) qGw) (qA9 (by decide))))
  (qBg (by decide) (qF2 (qAd (fun _ => qDp) (qFi Lift.refl (qAn Lift.refl qAo (qAa (qAd (fun _ => qA1) qAj (qAd (fun _ => qDv) qAj qAf)) qAe)) qAe) (qAd (fun _ => qA1) qAj (qAd (fun _ => qDv) qAj qAf))) (qAd (fun _ => (qO8 Lift.refl)) (qAn Lift.refl qAo (qAa (qAd (fun _ => qA1) qAj (qAd (fun _ => qDv) qAj qAf)) qAe)) (qHo qLb qAo (qAa qAf (qAa (qAd (fun _ => qLi) qAf qAf) qAe))))))))
def qOw (K : PySem.W.Frag) (cs : List Str) : TS :=
  (tSeq (tAsg (tCall (qEv K) [] E0 (tCons (tVar 0) tNil)) (gName 1))
  (tSeq (tFor (iRng1 (tCons (tOp qE5 (tC (.int 1)) (tCall (lift K qB4) [] E0 (tCons (tVar 1) (tCons (tC (.int 10)) tNil)))) tNil)) (gName 2) (tSeq (tAsg (tOp (rIxL K) (tLst (tCons (tC (.int 13)) (tCons (tOp qIe (tC (.int 10)) (tC (.int 6))) (tCons (tOp qIe (tC (.int 10)) (tC (.int 40))) tNil)))) (tCall (lift K qB4) [] E0 (tCons (tVar 1) (tCons (tC (.int 3)) tNil)))) (gName 4))
  (tSeq (tAsg (tCall (lift K qCs) [] E0 (tCons (tLst (tCons (tCall (lift K qCw) [] E0 (tCons (tVar 1) (tCons (tVar 4) tNil))) (tCons (tOp qE5 (tC (.int 1)) (tCall (lift K qB4) [] E0 (tCons (tVar 1) (tCons (tOp qMa (tVar 4) (tC (.int 1))) tNil)))) tNil))) tNil)) (gName 5))
  (tSeq (tAsg (tCB qEp (tCons (tOp (rIxL K) (tVar 5) (tC (.int 0))) tNil)) (gName 6))
  (tSeq (tIfS (tTest (tOp rNe (tOp (rIxL K) (tVar 5) (tC (.int 1))) (tC (.int 1)))) (tAsg (tOp qBt (tOp qBt (tVar 6) (tC (.str "/"))) (tCB qEp (tCons (tOp (rIxL K) (tVar 5) (tC (.int 1))) tNil))) (gName 6)) tNext)
  (tSeq (tAsg (tMake (He.ga K "Ratio") (qBi K) [] E0 (tCons (tOp (rIxL K) (tVar 5) (tC (.int 0))) (tCons (tOp (rIxL K) (tVar 5) (tC (.int 1))) tNil))) (gName 7))
  (tSeq (tIfS (tOr (tNot (tB (tCB (rIsi K) (tCons (tMeth (He.ga K "Ratio") "text" (lift K qCz) [] E0 (tVar 7) tNil) (tCons (tC (.ty "str")) tNil))))) (tTest (tOp rNe (tMeth (He.ga K "Ratio") "text" (lift K qCz) [] E0 (tVar 7) tNil) (tVar 6)))) (tRet (tC (.bl false))) tNext)
  (tSeq (tAsg (tCall (lift K (qC0 cs)) [] E0 (tCons (tVar 6) tNil)) (gName 8))
  (tSeq (tIfS (tOr (tNot (tB (tCall (lift K fIs) [] E0 (tCons (tVar 8) (tCons (tOp (rIxL K) (tVar 5) (tC (.int 0))) (tCons (tOp (rIxL K) (tVar 5) (tC (.int 1))) tNil)))))) (tTest (tOp rNe (tMeth (He.ga K "Ratio") "text" (lift K qCz) [] E0 (tVar 8) tNil) (tVar 6)))) (tRet (tC (.bl false))) tNext)
  (tFor (iList K (tCall (lift K qB2) [] E0 (tCons (tVar 1) (tCons (tVar 5) (tCons (tVar 6) tNil))))) (gName 9) (tIfS (tNot (tB (tCall (lift K (qA0 cs)) [] E0 (tCons (tVar 9) tNil)))) (tRet (tC (.bl false))) tNext)))))))))))
  (tSeq (tFor (iList K (tLst (tCons (tC .non) (tCons (tC (.int 3)) (tCons (tC (.bl true)) (tCons (tLst (tCons (tC (.str "1")) tNil)) (tCons (tMake (He.ga K "Ratio") (qBi K) [] E0 (tCons (tC (.int 1)) (tCons (tC (.int 2)) tNil))) tNil))))))) (gName 3) (tIfS (tNot (tB (tCall (lift K (qA0 cs)) [] E0 (tCons (tVar 3) tNil)))) (tRet (tC (.bl false))) tNext))
  (tRet (tAndV (tOp rEq (tMeth (He.ga K "Ratio") "text" (lift K qCz) [] E0 (tCall (lift K (qC0 cs)) [] E0 (tCons (tOp qBt (tC (.str "-")) (tOp qE8 (tC (.str "9")) (tC (.int 40)))) tNil)) tNil) (tOp qBt (tC (.str "-")) (tOp qE8 (tC (.str "9")) (tC (.int 40))))) (tOp (qSb (He.ga K "Ratio") (lift K (fRB fun a b => decide (a = b))) E0) (tCall (lift K (qC0 cs)) [] E0 (tCons (tOp qBt (tC (.str "1/1")) (tOp qE8 (tC (.str "0")) (tC (.int 39)))) tNil)) (tMake (He.ga K "Ratio") (qBi K) [] E0 (tCons (tC (.int 1)) (tCons (tOp qIe (tC (.int 10)) (tC (.int 39))) tNil)))))))))
open SX (S)
theorem qIl {cs : List Str} (hR : ("Ratio" : Str) ∈ cs) (ds : List D) (P : D → Prop) (X : XP) (h : qA0 cs ds P X) : qC6 cs qUg (qIo P X0) (qB7 3 ds) := by
  obtain ⟨d, rfl, h, p⟩ := h
  simp_arith [qC6, qLg, qUw, fXf]
  refine ⟨d, rfl, ?_⟩
  rcases h with h | ⟨l, rfl, hl, h⟩
  · refine .inl ⟨h, .head _, by decide, rfl, _, rfl, trivial, ?_⟩
    simp_arith []
    exact p
  · refine .inr ⟨l, rfl, hl, ?_⟩
    rw [h]
    refine ⟨.head _, by decide, rfl, _, rfl, trivial, ?_⟩
    simp_arith []
    exact p
def In5 (ρ : Env) : Prop := ∃ v2 v3 v4 v5 v6 v7 v8 v9 : Option D, ρ = [some .exc, some .feed, v2, v3, v4, v5, v6, v7, v8, v9]
theorem qRp {cs : List Str} {FD : FEnds} {v2 v3 v4 v5 v6 v7 v8 : Option D} : ∀ (rows : List Str) (v9 : Option D), (∀ s, s ∈ rows → qKl s) → (∀ ρ, In5 ρ → FD.nx ρ) → qCr (qFr 9) (qEl (qIu (fB (qAw (qA0 cs) [] (qAc (qAi 9) qBb)))) (qEc (fC (.bl false))) qBu) FD (qNj rows) [some .exc, some .feed, v2, v3, v4, v5, v6, v7, v8, v9]
  | [], v9, _, fin => fin _ ⟨_, _, _, _, _, _, _, _, rfl⟩
  | s :: rows, v9, hb, fin => by
    rw [show qNj (s :: rows) = D.str s :: qNj rows from rfl]
    unfold qCr
    simp_arith []
    obtain ⟨l, rfl, hl, hr⟩ := hb s (.head _)
    refine ⟨_, rfl, .inr ⟨l, rfl, hl, hr⟩, ?_⟩
    simp_arith [Bool.not_true]
    exact qRp rows _ (fun z hz => hb z (.tail _ hz)) fin
theorem qUv {cs : List Str} {FD : FEnds} {q : Rat} {v2 v3 v4 v7 v8 v9 : Option D} (h1 : q.num.natAbs < 10 ^ 40) (h2 : q.den < 10 ^ 40) (fin : ∀ ρ, In5 ρ → FD.nx ρ) : qG9 cs FD [some .exc, some .feed, v2, v3, v4, some (.lst [.int q.num, .int (q.den : Nat)]), some (.str (S (qA6 q))), v7, v8, v9] := by
  simp_arith [qG9, qLu]
  refine ⟨q, rfl, h1, h2, fun rows hr => ?_⟩
  simp_arith []
  exact qRp rows _ hr fin
theorem qFj {q : Rat} (h1 : q.num.natAbs < 10 ^ 40) (h2 : q.den < 10 ^ 40) : Sz 133 q := ⟨Nat.lt_trans h1 (by decide +kernel), Nat.lt_trans h2 (by decide +kernel)⟩
theorem qT8 {cs : List Str} {FD : FEnds} {q : Rat} {v2 v3 v4 v7 v8 v9 : Option D} (h1 : q.num.natAbs < 10 ^ 40) (h2 : q.den < 10 ^ 40) (fin : ∀ ρ, In5 ρ → FD.nx ρ) : qFd cs FD [some .exc, some .feed, v2, v3, v4, some (.lst [.int q.num, .int (q.den : Nat)]), some (.str (S (qA6 q))), v7, v8, v9] := by
  have eq : Rat.divInt q.num ((q.den : Nat) : Int) = q := Rat.num_divInt_den q
  have hd := q.den_pos
  simp_arith [qFd]
  refine ⟨_, _, _, .inl rfl, rfl, rfl, ?_⟩
  refine ⟨_, _, _, .inl rfl, rfl, rfl, ?_⟩
  refine ⟨_, _, rfl, by omega, trivial, ?_⟩
  rw [eq]
  simp_arith [qJh]
  refine ⟨⟨by decide +kernel, by decide +kernel⟩, q, rfl, h1, h2, ?_⟩
  refine ⟨true, rfl, ?_⟩
  simp_arith [Bool.not_true]
  refine ⟨⟨by decide +kernel, by decide +kernel⟩, q, rfl, h1, h2, ?_⟩
  simp_arith [Bool.not_true]
  simp_arith [qJi]
  refine ⟨_, rfl, .inr ⟨qA6 q, rfl, by have := qFk h1 h2; omega, ?_⟩⟩
  rw [qFs h1 h2]
  simp_arith [qJg]
  refine ⟨_, _, _, .inl rfl, rfl, rfl, ?_⟩
  refine ⟨_, _, _, .inl rfl, rfl, rfl, ?_⟩
  refine ⟨q, _, _, 133, 133, rfl, by omega, qFj h1 h2, (qFj h1 h2).num, (qFj h1 h2).den, by decide, ?_⟩
  rw [eq]
  simp_arith [Bool.not_true]
  refine ⟨⟨by decide +kernel, by decide +kernel⟩, q, rfl, h1, h2, ?_⟩
  simp_arith [Bool.not_true]
  exact qUv h1 h2 fin
theorem qQh {cs : List Str} {FD : FEnds} {z : Int} {v2 v3 v5 v6 v7 v8 v9 : Option D} (hz : 13 ≤ z) (hz2 : z ≤ 10 ^ 40) (fin : ∀ ρ, In5 ρ → FD.nx ρ) : qGy cs FD [some .exc, some .feed, v2, v3, some (.int z), v5, v6, v7, v8, v9] := by
  simp_arith [qGy]
  refine ⟨z, rfl, by omega, trivial, fun a a0 a1 => ?_⟩
  refine ⟨z - 1, rfl, by omega, trivial, fun b b0 b1 => ?_⟩
  simp_arith []
  refine ⟨by rw [sizeLine_eq]; decide, ?_⟩
  refine ⟨a, 1 + b, rfl, by omega, by omega, ?_⟩
  have n0 : a.natAbs < 10 ^ 40 := by omega
  have h1 : (Rat.divInt a (1 + b)).num.natAbs < 10 ^ 40 := Nat.lt_of_le_of_lt (qOa (by omega)) n0
  have h2 : (Rat.divInt a (1 + b)).den < 10 ^ 40 := Nat.lt_of_le_of_lt (qOk (by omega)) (by omega)
  generalize Rat.divInt a (1 + b) = q at h1 h2 ⊢
  have fin2 : ∀ v6, qFd cs FD [some .exc, some .feed, v2, v3, some (.int z), some (.lst [.int q.num, .int (q.den : Nat)]), some (.str (S (qA6 q))), v6, v8, v9] := fun v => qT8 h1 h2 fin
  simp_arith [qJv]
  refine ⟨_, _, _, .inl rfl, rfl, rfl, ?_⟩
  refine qFw h1 ?_
  simp_arith [qJj]
  refine ⟨_, _, _, .inl rfl, rfl, rfl, ?_⟩
  simp_arith []
  have l1 := qGq h1
  have l2 := TL.numL_len (k := 40) (by decide) h2
  by_cases hd : q.den = 1
  · have e : qA6 q = qDg q.num := by unfold qA6; rw [if_pos hd, List.append_nil]
    rw [← e, if_neg (by rw [decide_eq_true (by rw [hd]; rfl)]; decide)]
    exact fin2 _
  · have e : qA6 q = qDg q.num ++ 47 :: TL.numL q.den := by unfold qA6; rw [if_neg hd]
    rw [if_pos (by rw [decide_eq_false (by omega)]; rfl), qSy]
    refine qB9 (by rw [List.length_singleton]; omega) ?_
    refine ⟨_, _, _, .inl rfl, rfl, rfl, ?_⟩
    refine qFw (z := ((q.den : Nat) : Int)) h2 ?_
    rw [qDh]
    refine qB9 (by rw [List.length_append, List.length_singleton]; omega) ?_
    rw [List.append_assoc, List.singleton_append, ← e]
    exact fin2 _
theorem qUk {cs : List Str} {FD : FEnds} {v2 v3 v4 v5 v6 v7 v8 v9 : Option D} (fin : ∀ ρ, In5 ρ → FD.nx ρ) : qFe cs FD [some .exc, some .feed, v2, v3, v4, v5, v6, v7, v8, v9] := by
  simp_arith [qFe]
  refine ⟨⟨by decide, by decide, by decide⟩, ⟨by decide, by decide, by decide⟩, by rw [sizeLine_eq]; decide, ?_⟩
  refine ⟨3, rfl, by decide, trivial, fun k k0 k1 => ?_⟩
  have h : k = 0 ∨ k = 1 ∨ k = 2 := by omega
  rcases h with rfl | rfl | rfl
  · exact ⟨_, _, _, .inl rfl, rfl, rfl, qQh (by decide) (by decide) fin⟩
  · exact ⟨_, _, _, .inl rfl, rfl, rfl, qQh (by decide) (by decide) fin⟩
  · exact ⟨_, _, _, .inl rfl, rfl, rfl, qQh (by decide) (by decide) fin⟩
theorem qSs {cs : List Str} {FD : FEnds} : ∀ (items : List D) (ρ : Env), In5 ρ → (∀ ρ, In5 ρ → FD.nx ρ) → qCr (qFr 2) (qFe cs) FD items ρ
  | [], ρ, h, fin => fin ρ h
  | d :: items, ρ, h, fin => by
    obtain ⟨v2, v3, v4, v5, v6, v7, v8, v9, rfl⟩ := h
    unfold qCr
    simp_arith []
    refine qUk (fun ρ h => ?_)
    exact qSs items ρ h fin
def q9 : Rat := Rat.divInt (-(10 ^ 40 - 1)) 1
def q39 : Rat := Rat.divInt 1 (10 ^ 39)
theorem qOi : q9.num = -(10 ^ 40 - 1) := by decide +kernel
theorem qOu : q9.den = 1 := by decide +kernel
theorem qK4 : q39.num = 1 := by decide +kernel
theorem qMp : q39.den = 10 ^ 39 := by decide +kernel
theorem qTu : q9.num.natAbs < 10 ^ 40 := by rw [qOi]; decide +kernel
theorem qS9 : q9.den < 10 ^ 40 := by rw [qOu]; decide +kernel
theorem qPy : q39.num.natAbs < 10 ^ 40 := by rw [qK4]; decide +kernel
theorem qQe : q39.den < 10 ^ 40 := by rw [qMp]; decide +kernel
theorem qLv : qA6 q9 = [45] ++ List.replicate 40 57 := by
  unfold qA6
  rw [qOi, qOu, if_pos rfl]
  decide +kernel
theorem qN0 : qA6 q39 = [49, 47, 49] ++ List.replicate 39 48 := by
  unfold qA6
  rw [qK4, qMp, if_neg (by decide)]
  decide +kernel
theorem qVt : (Str.ofString "9") = S [57] := by rfl
theorem qTy : (Str.ofString "1/1") = S [49, 47, 49] := by rfl
theorem qRl {cs : List Str} (hR : ("Ratio" : Str) ∈ cs) (q : Rat) : isD cs (.ty "str") (.rat q) = some false := by simp [isD, tyN, qHk, hR]
theorem qUc {cs : List Str} (hRatio : ("Ratio" : Str) ∈ cs) : qEm cs (qIo yes X0) (some .exc :: some .feed :: List.replicate 8 none) := by
  simp_arith [qEm, qLu, qL8]
  refine ⟨10, rfl, by decide, trivial, fun k k0 k1 => ?_⟩
  simp_arith []
  refine ⟨by omega, by omega, ?_⟩
  refine qSs _ _ ⟨_, _, _, _, _, _, _, _, rfl⟩ (fun ρ h => ?_)
  obtain ⟨v2, v3, v4, v5, v6, v7, v8, v9, rfl⟩ := h
  simp_arith [qLu]
  refine ⟨by rw [sizeLine_eq]; decide, _, _, rfl, by decide, trivial, ?_⟩
  refine ⟨by rw [sizeLine_eq]; decide, ?_⟩
  unfold qCr
  simp_arith []
  refine ⟨_, rfl, .inl rfl, ?_⟩
  simp_arith [Bool.not_true]
  unfold qCr
  simp_arith []
  refine ⟨_, rfl, .inl rfl, ?_⟩
  simp_arith [Bool.not_true]
  unfold qCr
  simp_arith []
  refine ⟨_, rfl, .inl rfl, ?_⟩
  simp_arith [Bool.not_true]
  unfold qCr
  simp_arith []
  refine ⟨_, rfl, .inl rfl, ?_⟩
  simp_arith [Bool.not_true]
  unfold qCr
  simp_arith []
  refine ⟨_, rfl, .inl (qRl hRatio _), ?_⟩
  simp_arith [Bool.not_true]
  unfold qCr
  simp_arith []
  rw [qVt, qUd, qQ6, qTy]
  refine qPs (n := 40) (by decide) ?_
  refine qB9 (by rw [List.length_replicate]; decide) ?_
  rw [← qLv]
  have t9 := qFk qTu qS9
  have t39 := qFk qPy qQe
  refine ⟨_, rfl, .inr ⟨_, rfl, by omega, ?_⟩⟩
  rw [qFs qTu qS9]
  refine ⟨⟨by decide +kernel, by decide +kernel⟩, q9, rfl, qTu, qS9, ?_⟩
  refine qPs (n := 40) (by decide) ?_
  refine qB9 (by rw [List.length_replicate]; decide) ?_
  rw [← qLv]
  simp_arith []
  rw [if_pos (by decide)]
  refine qPs (n := 39) (by decide) ?_
  refine qB9 (by rw [List.length_replicate]; decide) ?_
  rw [← qN0]
  refine ⟨_, rfl, .inr ⟨_, rfl, by omega, ?_⟩⟩
  rw [qFs qPy qQe]
  refine ⟨⟨by decide, by decide, by decide⟩, _, _, rfl, by decide, trivial, ?_⟩
  have z := qFj qPy qQe
  have e : Rat.divInt 1 (10 ^ Int.toNat 39) = q39 := by decide +kernel
  rw [e]
  simp_arith []
  refine ⟨⟨133, 133, z, z, by decide⟩, ?_⟩
  show D.bl (decide (q39 = q39)) = D.bl true
  rw [decide_eq_true rfl]
theorem qGd {K : PySem.W.Frag} {cs : List Str} (vs : List V) (H : Hp) (Q : VK) (E : XK) (h : (lift K (qA0 cs)) vs H Q E) : vs.length = 1 := qBo (fun ds P X h => by unfold qA0 at h; first | ((repeat (first | (obtain ⟨rfl, _⟩ := h; exact rfl) | obtain ⟨_, h⟩ := h)); done) | (split at h <;> first | rfl | exact h.elim)) h
theorem qGz {K : PySem.W.Frag} {cs : List Str} (T : KF K cs) (XO : XOk K qUg) (IX : IOk K qUg) (hRatio : ("Ratio" : Str) ∈ cs) (vs : List V) (H : Hp) (Q : VK) (E : XK) (h : (lift K (qA0 cs)) vs H Q E) : qCv K cs { nx := fun _ H' => Q .non H', rt := Q } (start ["_law_text", "_law_word", "e"] vs) H :=
  qEa rfl (qH2 T XO IX hRatio) (qIl hRatio) vs H Q E h
theorem qQ5 {K : PySem.W.Frag} {cs : List Str} (T : KF K cs) (hRatio : ("Ratio" : Str) ∈ cs) (vs : List V) (H : Hp) (Q : VK) (E : XK) (h : qM3 K vs H Q E) : qOw K cs { nx := fun _ H' => Q .non H', rt := Q } (start ["_law_script", "_law_feed_here", "_law_k", "_law_strange", "_law_size", "_law_pair_here", "_law_due", "_law_one", "_law_back", "_law_text"] vs) H :=
  qRk (n := 8) rfl (qJ8 T hRatio) (qUc hRatio) vs H Q E h
end MR

set_option Elab.async false
set_option linter.all false
set_option maxRecDepth 100000
set_option maxHeartbeats 4000000
set_option exponentiation.threshold 20000
namespace MR
open PySem PySem.Spec PyProof.Rows L2
theorem qG7 : FnScope ["value"] ["value"] (defScope qAt) := ⟨rfl, rfl, rfl, by decide +kernel, rfl, by decide +kernel, by decide +kernel⟩
theorem qCh : FnScope ["one", "other"] ["one", "other"] (defScope qAm) := ⟨rfl, rfl, rfl, by decide +kernel, rfl, by decide +kernel, by decide +kernel⟩
theorem qCt : FnScope ["self", "top", "bottom", "divisor"] ["self", "top", "bottom"] (defScope qAr) := ⟨rfl, rfl, rfl, by decide +kernel, rfl, by decide +kernel, by decide +kernel⟩
theorem qI3 : FnScope ["self", "other"] ["self", "other"] (defScope qA5) := ⟨rfl, rfl, rfl, by decide +kernel, rfl, by decide +kernel, by decide +kernel⟩
theorem qFv : FnScope ["digits", "sign"] ["digits"] (defScope qA4) := ⟨rfl, rfl, rfl, by decide +kernel, rfl, by decide +kernel, by decide +kernel⟩
theorem qA7 : FnScope ["text", "sign", "head", "slash", "tail"] ["text"] (defScope qAq) := ⟨rfl, rfl, rfl, by decide +kernel, rfl, by decide +kernel, by decide +kernel⟩
theorem qGu : FnScope ["self"] ["self"] (defScope qAu) := ⟨rfl, rfl, rfl, by decide +kernel, rfl, by decide +kernel, by decide +kernel⟩
theorem qD4 : FnScope ["_law_value"] ["_law_value"] (defScope qAg) := ⟨rfl, rfl, rfl, by decide +kernel, rfl, by decide +kernel, by decide +kernel⟩
theorem qC3 : FnScope ["_law_script", "_law_cell"] ["_law_script"] (defScope qAv) := ⟨rfl, rfl, rfl, by decide +kernel, rfl, by decide +kernel, by decide +kernel⟩
theorem qBl : FnScope ["_law_feed_here", "_law_size", "_law_number_here", "_law_cell", "_law_digit"] ["_law_feed_here", "_law_size"] (defScope qAz) := ⟨rfl, rfl, rfl, by decide +kernel, rfl, by decide +kernel, by decide +kernel⟩
theorem qDj : FnScope ["_law_feed_here", "_law_size", "_law_sign"] ["_law_feed_here", "_law_size"] (defScope qAl) := ⟨rfl, rfl, rfl, by decide +kernel, rfl, by decide +kernel, by decide +kernel⟩
theorem qJ9 : FnScope ["_law_value", "_law_top", "_law_bottom"] ["_law_value", "_law_top", "_law_bottom"] (defScope qA8) := ⟨rfl, rfl, rfl, by decide +kernel, rfl, by decide +kernel, by decide +kernel⟩
theorem qBd : FnScope ["_law_pair_here", "_law_a", "_law_b", "_law_k", "_law_rest"] ["_law_pair_here"] (defScope qAy) := ⟨rfl, rfl, rfl, by decide +kernel, rfl, by decide +kernel, by decide +kernel⟩
theorem qB1 : FnScope ["_law_text", "_law_word", "e"] ["_law_text"] (defScope qAs) := ⟨rfl, rfl, rfl, by decide +kernel, rfl, by decide +kernel, by decide +kernel⟩
theorem qBf : FnScope ["_law_feed_here", "_law_pair_here", "_law_text", "_law_signs", "_law_at", "_law_sign", "_law_times", "_law_rows"] ["_law_feed_here", "_law_pair_here", "_law_text"] (defScope qAp) := ⟨rfl, rfl, rfl, by decide +kernel, rfl, by decide +kernel, by decide +kernel⟩
theorem qC9 : FnScope ["_law_script", "_law_feed_here", "_law_k", "_law_strange", "_law_size", "_law_pair_here", "_law_due", "_law_one", "_law_back", "_law_text"] ["_law_script"] (defScope qDm) := ⟨rfl, rfl, rfl, by decide +kernel, rfl, by decide +kernel, by decide +kernel⟩
structure Bd (K : PySem.W.Frag) (mg : Str → Option Value) : Prop where
  st : ∃ h : Heap, K.In h ∧ h.Ns mainGlobals mg
  says : SaysM bsL fnL K
  sst : SaysST stL K
section
variable {K : PySem.W.Frag} {mg : Str → Option Value}
theorem qA3 (B : Bd K mg) : mg "isinstance" = none := let ⟨_, X, G⟩ := B.st; He.free_ok X G (B.says.fact 0 rfl)
theorem qCk (B : Bd K mg) : mg "int" = none := let ⟨_, X, G⟩ := B.st; He.free_ok X G (B.says.fact 1 rfl)
theorem qK2 (B : Bd K mg) : mg "bool" = none := let ⟨_, X, G⟩ := B.st; He.free_ok X G (B.says.fact 2 rfl)
theorem qJl (B : Bd K mg) : mg "abs" = none := let ⟨_, X, G⟩ := B.st; He.free_ok X G (B.says.fact 3 rfl)
theorem qJ4 (B : Bd K mg) : mg "len" = none := let ⟨_, X, G⟩ := B.st; He.free_ok X G (B.says.fact 4 rfl)
theorem qC7 (B : Bd K mg) : mg "str" = none := let ⟨_, X, G⟩ := B.st; He.free_ok X G (B.says.fact 5 rfl)
theorem qR8 (B : Bd K mg) : mg "max" = none := let ⟨_, X, G⟩ := B.st; He.free_ok X G (B.says.fact 6 rfl)
theorem qJp (B : Bd K mg) : mg "range" = none := let ⟨_, X, G⟩ := B.st; He.free_ok X G (B.says.fact 7 rfl)
theorem qGt (B : Bd K mg) : mg "is_integer" = some (.ref (He.ga K "is_integer")) := let ⟨_, X, G⟩ := B.st; He.glo_ok X G (B.says.fact 8 rfl)
theorem qF6 (B : Bd K mg) : mg "common_part" = some (.ref (He.ga K "common_part")) := let ⟨_, X, G⟩ := B.st; He.glo_ok X G (B.says.fact 9 rfl)
theorem qBj (B : Bd K mg) : mg "NoRatio" = some (.ref (He.ga K "NoRatio")) := let ⟨_, X, G⟩ := B.st; He.glo_ok X G (B.says.fact 10 rfl)
theorem qCd (B : Bd K mg) : mg "Ratio" = some (.ref (He.ga K "Ratio")) := let ⟨_, X, G⟩ := B.st; He.glo_ok X G (B.says.fact 11 rfl)
theorem qJd (B : Bd K mg) : mg "is_plain" = some (.ref (He.ga K "is_plain")) := let ⟨_, X, G⟩ := B.st; He.glo_ok X G (B.says.fact 12 rfl)
theorem qD0 (B : Bd K mg) : mg "_law_is_integer" = some (.ref (He.ga K "_law_is_integer")) := let ⟨_, X, G⟩ := B.st; He.glo_ok X G (B.says.fact 13 rfl)
theorem qHq (B : Bd K mg) : mg "_law_feed" = some (.ref (He.ga K "_law_feed")) := let ⟨_, X, G⟩ := B.st; He.glo_ok X G (B.says.fact 14 rfl)
theorem qIc (B : Bd K mg) : mg "_law_take" = some (.ref (He.ga K "_law_take")) := let ⟨_, X, G⟩ := B.st; He.glo_ok X G (B.says.fact 15 rfl)
theorem qGg (B : Bd K mg) : mg "_law_number" = some (.ref (He.ga K "_law_number")) := let ⟨_, X, G⟩ := B.st; He.glo_ok X G (B.says.fact 16 rfl)
theorem qKn (B : Bd K mg) : mg "_law_is" = some (.ref (He.ga K "_law_is")) := let ⟨_, X, G⟩ := B.st; He.glo_ok X G (B.says.fact 17 rfl)
theorem qGf (B : Bd K mg) : mg "_law_lowest" = some (.ref (He.ga K "_law_lowest")) := let ⟨_, X, G⟩ := B.st; He.glo_ok X G (B.says.fact 18 rfl)
theorem qFx (B : Bd K mg) : mg "_law_refused" = some (.ref (He.ga K "_law_refused")) := let ⟨_, X, G⟩ := B.st; He.glo_ok X G (B.says.fact 19 rfl)
theorem qF4 (B : Bd K mg) : mg "_law_spoiled" = some (.ref (He.ga K "_law_spoiled")) := let ⟨_, X, G⟩ := B.st; He.glo_ok X G (B.says.fact 20 rfl)
theorem qRu (B : Bd K mg) : mg "law" = some (.ref (He.ga K "law")) := let ⟨_, X, G⟩ := B.st; He.glo_ok X G (B.says.fact 21 rfl)
theorem qBc (B : Bd K mg) : SupC PySem.Challenge.pw_momentrows_k05_ratio_texts K (He.ga K "NoRatio") (He.ma K (He.ga K "NoRatio") "__init__") "word" := qP8 (B.says.fact 22 rfl)
theorem qKg (B : Bd K mg) : XfC K (He.ga K "NoRatio") := xfB_ok (B.says.fact 23 rfl)
theorem KFB (B : Bd K mg) : KF K csL := qR7 (B.says.fact 24 rfl)
theorem XOB (B : Bd K mg) : XOk K xtL := qRm (B.says.fact 25 rfl)
theorem IOB (B : Bd K mg) : IOk K xtL := qRy (B.says.fact 26 rfl)
theorem qGe (B : Bd K mg) : ∃ t, mg "MOST_DIGITS" = some (.int 40 t) := let ⟨_, X, G⟩ := B.st; He.int_ok X G (B.says.fact 29 rfl)
theorem see (B : Bd K mg) : SeeC K := qQa (B.says.fact 27 rfl)
theorem qHx (B : Bd K mg) : OpC K (He.ga K "Ratio") "add" := qRv (B.says.fact 28 rfl)
theorem RT (B : Bd K mg) : RTxt K := ⟨(KFB B).own _ (by decide), ((KFB B).fld "Ratio" (by decide) "top" (by decide)).na, ((KFB B).fld "Ratio" (by decide) "bottom" (by decide)).na⟩
end
section
variable {w : World} {K : PySem.W.Frag} {mg : Str → Option Value} {base : Heap}
theorem qGr (B : Bd K mg) : ∃ fd, FunD K "is_integer" "is_integer" (defArgs qAt) (defBody qAt) (defScope qAt) [] [] (He.ga K "is_integer") fd ∧ FnOk PySem.Challenge.pw_momentrows_k05_ratio_texts w K mg base (CXX PySem.Challenge.pw_momentrows_k05_ratio_texts w) 1 (He.ga K "is_integer") fd ["value"] (qDq K) := by
  obtain ⟨fd, F0⟩ := B.says.def_ 0 (d := qEg) rfl
  have F : FunD K "is_integer" "is_integer" (defArgs qAt) (defBody qAt) (defScope qAt) [] [] (He.ga K "is_integer") fd := F0
  refine ⟨fd, F, F.ok qG7 (fun vs H Q E h => ?_) (fun cdv A outer s H vs Q E hr h => ⟨qE4 K, ?_, qF1 vs H Q E h⟩)⟩
  · first | (obtain ⟨_, rfl, _⟩ := h; rfl) | (obtain ⟨_, _, rfl, _⟩ := h; rfl) | (obtain ⟨_, _, _, rfl, _⟩ := h; rfl) | (obtain ⟨_, _, _, _, rfl, _⟩ := h; rfl) | (obtain ⟨_, _, _, _, _, rfl, _⟩ := h; rfl) | (obtain ⟨_, _, _, _, _, _, rfl, _⟩ := h; rfl) | (obtain ⟨_, _, _, _, _, _, _, rfl, _⟩ := h; rfl) | (obtain ⟨_, _, _, _, _, _, _, _, rfl, _⟩ := h; rfl) | (obtain ⟨_, _, _, _, _, _, _, _, _, rfl, _⟩ := h; rfl) | (obtain ⟨_, _, _, _, _, _, _, _, _, _, rfl, _⟩ := h; rfl) | (obtain ⟨_, _, _, _, _, _, _, _, _, _, _, rfl, _⟩ := h; rfl) | (obtain ⟨_, _, _, _, _, _, _, _, _, _, _, _, rfl, _⟩ := h; rfl)
  · exact (pss_one (ps_ret (pe_and (pe_callB call_isi (by rfl) (qA3 B) (by decide +kernel) (pa_cons (pv 0) (pa_cons (pe_bltn (v := .ty "int") (by rfl) (qCk B) (by decide +kernel) rfl) pa_nil))) (pe_one (pe_not (pe_callB call_isi (by rfl) (qA3 B) (by decide +kernel) (pa_cons (pv 0) (pa_cons (pe_bltn (v := .ty "bool") (by rfl) (qK2 B) (by decide +kernel) rfl) pa_nil))))))))
theorem qC8 (B : Bd K mg) : qE9 PySem.Challenge.pw_momentrows_k05_ratio_texts w K mg base 1 "is_integer" [] (qDq K) := by
  obtain ⟨fd, F, G⟩ := qGr (w := w) (base := base) B
  exact ⟨_, fd, ["value"], [], qGt B, F.kp, G, F.bindsN fun _ _ _ _ _ _ us hl => match us, hl with | [_], _ => rfl, .nil⟩
theorem qF8 (B : Bd K mg) : ∃ fd, FunD K "common_part" "common_part" (defArgs qAm) (defBody qAm) (defScope qAm) [] [] (He.ga K "common_part") fd ∧ FnOk PySem.Challenge.pw_momentrows_k05_ratio_texts w K mg base (CXX PySem.Challenge.pw_momentrows_k05_ratio_texts w) 1 (He.ga K "common_part") fd ["one", "other"] qKf := by
  obtain ⟨fd, F0⟩ := B.says.def_ 1 (d := qDo) rfl
  have F : FunD K "common_part" "common_part" (defArgs qAm) (defBody qAm) (defScope qAm) [] [] (He.ga K "common_part") fd := F0
  refine ⟨fd, F, F.ok qCh (fun vs H Q E h => ?_) (fun cdv A outer s H vs Q E hr h => ⟨qD2 K, ?_, qFa vs H Q E h⟩)⟩
  · first | (obtain ⟨_, rfl, _⟩ := h; rfl) | (obtain ⟨_, _, rfl, _⟩ := h; rfl) | (obtain ⟨_, _, _, rfl, _⟩ := h; rfl) | (obtain ⟨_, _, _, _, rfl, _⟩ := h; rfl) | (obtain ⟨_, _, _, _, _, rfl, _⟩ := h; rfl) | (obtain ⟨_, _, _, _, _, _, rfl, _⟩ := h; rfl) | (obtain ⟨_, _, _, _, _, _, _, rfl, _⟩ := h; rfl) | (obtain ⟨_, _, _, _, _, _, _, _, rfl, _⟩ := h; rfl) | (obtain ⟨_, _, _, _, _, _, _, _, _, rfl, _⟩ := h; rfl) | (obtain ⟨_, _, _, _, _, _, _, _, _, _, rfl, _⟩ := h; rfl) | (obtain ⟨_, _, _, _, _, _, _, _, _, _, _, rfl, _⟩ := h; rfl) | (obtain ⟨_, _, _, _, _, _, _, _, _, _, _, _, rfl, _⟩ := h; rfl)
  · exact (pss_cons (ps_par (by rfl) qCh.nd rfl rfl (by decide) rfl rfl (pa_cons (pe_callB call_abs (by rfl) (qJl B) (by decide +kernel) (pa_cons (pv 0) pa_nil)) (pa_cons (pe_callB call_abs (by rfl) (qJl B) (by decide +kernel) (pa_cons (pv 1) pa_nil)) pa_nil)) (by rfl))
  (pss_cons (ps_while (passes_of rfl) (pt_cmpR op_gt (pv 1) pe_int (nomark _)) (pss_one (ps_par (by rfl) qCh.nd rfl rfl (by decide) rfl rfl (pa_cons (pv 1) (pa_cons (pe_op op_modN (pv 0) (pv 1)) pa_nil)) (by rfl))))
  (pss_one (ps_ret (pv 0)))))
theorem qEi (B : Bd K mg) : qE9 PySem.Challenge.pw_momentrows_k05_ratio_texts w K mg base 1 "common_part" [] qKf := by
  obtain ⟨fd, F, G⟩ := qF8 (w := w) (base := base) B
  exact ⟨_, fd, ["one", "other"], [], qF6 B, F.kp, G, F.bindsN fun _ _ _ _ _ _ us hl => match us, hl with | [_, _], _ => rfl, .nil⟩
theorem qI5 (B : Bd K mg) : ∃ fd, FunD K "is_plain" "is_plain" (defArgs qA4) (defBody qA4) (defScope qA4) [] [] (He.ga K "is_plain") fd ∧ FnOk PySem.Challenge.pw_momentrows_k05_ratio_texts w K mg base (CXX PySem.Challenge.pw_momentrows_k05_ratio_texts w) 1 (He.ga K "is_plain") fd ["digits"] (lift K qCy) := by
  obtain ⟨fd, F0⟩ := B.says.def_ 4 (d := qFq) rfl
  have F : FunD K "is_plain" "is_plain" (defArgs qA4) (defBody qA4) (defScope qA4) [] [] (He.ga K "is_plain") fd := F0
  refine ⟨fd, F, F.ok qFv (fun vs H Q E h => ?_) (fun cdv A outer s H vs Q E hr h => ⟨qDw K csL, ?_, qI9 (KFB B) (by decide) vs H Q E h⟩)⟩
  · exact qH4 (cs := csL) _ _ _ _ h
  · exact (pss_cons (ps_if (PW.pt (pw_or (pt_cmpR op_eq (pv 0) pe_str (nomark _)) (pw_or1 (pt_cmpR op_gt (pe_callB qFu (by rfl) (qJ4 B) (by decide +kernel) (pa_cons (pv 0) pa_nil)) (pe_glob (v := .int 40) (by rfl) (qGe B).choose_spec ⟨_, rfl⟩) (nomark _))))) (pss_one (ps_ret pe_bl)) pss_nil)
  (pss_cons (ps_for (passes_of rfl) rfl (pi_str (pv 0)) (pg_name (i := 1) qFv.nd rfl (Or.inl rfl)) (pss_one (ps_if (pt_cmpR qNd (pv 1) pe_str (by with_unfolding_all rfl)) (pss_one (ps_ret pe_bl)) pss_nil)))
  (pss_one (ps_ret (pe_or (pe_cmpR op_eq (pv 0) pe_str (nomark _)) (pe_one (pe_cmpR op_ne (qOg (pv 0) pe_int (fun _ _ => rfl)) pe_str (nomark _))))))))
theorem qGn (B : Bd K mg) : qE9 PySem.Challenge.pw_momentrows_k05_ratio_texts w K mg base 1 "is_plain" [] (lift K qCy) := by
  obtain ⟨fd, F, G⟩ := qI5 (w := w) (base := base) B
  exact ⟨_, fd, ["digits"], [], qJd B, F.kp, G, F.bindsN fun _ _ _ _ _ _ us hl => match us, hl with | [_], _ => rfl, .nil⟩
theorem qHm (B : Bd K mg) : ∃ fd, FunD K "text" "Ratio.text" (defArgs qAu) (defBody qAu) (defScope qAu) [] [] (He.ma K (He.ga K "Ratio") "text") fd ∧ FnOk PySem.Challenge.pw_momentrows_k05_ratio_texts w K mg base (CXX PySem.Challenge.pw_momentrows_k05_ratio_texts w) 1 (He.ma K (He.ga K "Ratio") "text") fd ["self"] (lift K qCz) := by
  obtain ⟨fd, F0⟩ := B.says.def_ 5 (d := qEh) rfl
  have F : FunD K "text" "Ratio.text" (defArgs qAu) (defBody qAu) (defScope qAu) [] [] (He.ma K (He.ga K "Ratio") "text") fd := F0
  refine ⟨fd, F, F.ok qGu (fun vs H Q E h => ?_) (fun cdv A outer s H vs Q E hr h => ⟨qCu K csL, ?_, qHj (KFB B) (by decide) vs H Q E h⟩)⟩
  · exact qGh (cs := csL) _ _ _ _ h
  · exact (pss_cons (ps_if (pt_cmpR op_eq (pe_fld (pv 0) rfl) pe_int (nomark _)) (pss_one (ps_ret (pe_callTy qBp (by rfl) (qC7 B) (by decide +kernel) (pa_cons (pe_fld (pv 0) rfl) pa_nil)))) pss_nil)
  (pss_one (ps_ret (pe_op op_add_str (pe_op op_add_str (pe_callTy qBp (by rfl) (qC7 B) (by decide +kernel) (pa_cons (pe_fld (pv 0) rfl) pa_nil)) pe_str) (pe_callTy qBp (by rfl) (qC7 B) (by decide +kernel) (pa_cons (pe_fld (pv 0) rfl) pa_nil))))))
theorem qCb (B : Bd K mg) : qJ1 PySem.Challenge.pw_momentrows_k05_ratio_texts w K mg base 1 (He.ga K "Ratio") "text" [] (lift K qCz) := by
  obtain ⟨fd, F, G⟩ := qHm (w := w) (base := base) B
  exact ⟨_, fd, ["self"], [], ((KFB B).own _ (by decide)).cl, He.meth_ok (B.says.fact 33 rfl), G, F.bindsN fun _ _ _ _ _ _ us hl => match us, hl with | [_], _ => rfl, .nil⟩
theorem qEf (B : Bd K mg) : ∃ fd, FunD K "_law_is_integer" "_law_is_integer" (defArgs qAg) (defBody qAg) (defScope qAg) [] [] (He.ga K "_law_is_integer") fd ∧ FnOk PySem.Challenge.pw_momentrows_k05_ratio_texts w K mg base (CXX PySem.Challenge.pw_momentrows_k05_ratio_texts w) 1 (He.ga K "_law_is_integer") fd ["_law_value"] (lift K (qCj csL)) := by
  obtain ⟨fd, F0⟩ := B.says.def_ 6 (d := qCa) rfl
  have F : FunD K "_law_is_integer" "_law_is_integer" (defArgs qAg) (defBody qAg) (defScope qAg) [] [] (He.ga K "_law_is_integer") fd := F0
  refine ⟨fd, F, F.ok qD4 (fun vs H Q E h => ?_) (fun cdv A outer s H vs Q E hr h => ⟨qBr K csL, ?_, qD1 (KFB B) (by decide) vs H Q E h⟩)⟩
  · exact qDt (cs := csL) _ _ _ _ h
  · exact (pss_one (ps_ret (pe_and (pe_callB call_isi (by rfl) (qA3 B) (by decide +kernel) (pa_cons (pv 0) (pa_cons (pe_bltn (v := .ty "int") (by rfl) (qCk B) (by decide +kernel) rfl) pa_nil))) (pe_one (pe_not (pe_callB call_isi (by rfl) (qA3 B) (by decide +kernel) (pa_cons (pv 0) (pa_cons (pe_bltn (v := .ty "bool") (by rfl) (qK2 B) (by decide +kernel) rfl) pa_nil))))))))
theorem qCl (B : Bd K mg) : qE9 PySem.Challenge.pw_momentrows_k05_ratio_texts w K mg base 1 "_law_is_integer" [] (lift K (qCj csL)) := by
  obtain ⟨fd, F, G⟩ := qEf (w := w) (base := base) B
  exact ⟨_, fd, ["_law_value"], [], qD0 B, F.kp, G, F.bindsN fun _ _ _ _ _ _ us hl => match us, hl with | [_], _ => rfl, .nil⟩
theorem qIh (B : Bd K mg) : ∃ fd, FunD K "_law_feed" "_law_feed" (defArgs qAv) (defBody qAv) (defScope qAv) [] [] (He.ga K "_law_feed") fd ∧ FnOk PySem.Challenge.pw_momentrows_k05_ratio_texts w K mg base (CXX PySem.Challenge.pw_momentrows_k05_ratio_texts w) 1 (He.ga K "_law_feed") fd ["_law_script"] (qEv K) := by
  obtain ⟨fd, F0⟩ := B.says.def_ 7 (d := qE0) rfl
  have F : FunD K "_law_feed" "_law_feed" (defArgs qAv) (defBody qAv) (defScope qAv) [] [] (He.ga K "_law_feed") fd := F0
  refine ⟨fd, F, F.ok qC3 (fun vs H Q E h => ?_) (fun cdv A outer s H vs Q E hr h => ⟨qFz K, ?_, qKi vs H Q E h⟩)⟩
  · first | (obtain ⟨_, rfl, _⟩ := h; rfl) | (obtain ⟨_, _, rfl, _⟩ := h; rfl) | (obtain ⟨_, _, _, rfl, _⟩ := h; rfl) | (obtain ⟨_, _, _, _, rfl, _⟩ := h; rfl) | (obtain ⟨_, _, _, _, _, rfl, _⟩ := h; rfl) | (obtain ⟨_, _, _, _, _, _, rfl, _⟩ := h; rfl) | (obtain ⟨_, _, _, _, _, _, _, rfl, _⟩ := h; rfl) | (obtain ⟨_, _, _, _, _, _, _, _, rfl, _⟩ := h; rfl) | (obtain ⟨_, _, _, _, _, _, _, _, _, rfl, _⟩ := h; rfl) | (obtain ⟨_, _, _, _, _, _, _, _, _, _, rfl, _⟩ := h; rfl) | (obtain ⟨_, _, _, _, _, _, _, _, _, _, _, rfl, _⟩ := h; rfl) | (obtain ⟨_, _, _, _, _, _, _, _, _, _, _, _, rfl, _⟩ := h; rfl)
  · exact (pss_one (ps_ret (pe_lst (pa_cons (pe_lc (own := [("_law_cell", 1)]) (g := (gName 1)) (tt := tYes) rfl qC3.nd (pi_list (pe_slice sl_list (pv 0) po_none (po_some pe_int))) (blkOk_by (N := ["_law_script", "_law_cell"]) (sc := defScope qAv) (own := [("_law_cell", 1)]) (by decide +kernel)) (fun _ _ _ _ _ => pg_name (i := 1) qC3.nd rfl (Or.inl rfl)) (fun _ _ _ _ _ => pts_nil) (fun _ _ _ _ _ => (pe_callB call_abs (by rfl) (qJl B) (by decide +kernel) (pa_cons (pe_callTy call_int1 (by rfl) (qCk B) (by decide +kernel) (pa_cons (pv 1) pa_nil)) pa_nil)))) (pa_cons pe_int (pa_cons pe_int (pa_cons pe_int (pa_cons pe_int (pa_cons pe_int pa_nil)))))))))
theorem qI0 (B : Bd K mg) : qE9 PySem.Challenge.pw_momentrows_k05_ratio_texts w K mg base 1 "_law_feed" [] (qEv K) := by
  obtain ⟨fd, F, G⟩ := qIh (w := w) (base := base) B
  exact ⟨_, fd, ["_law_script"], [], qHq B, F.kp, G, F.bindsN fun _ _ _ _ _ _ us hl => match us, hl with | [_], _ => rfl, .nil⟩
theorem qIz (B : Bd K mg) : ∃ fd, FunD K "__eq__" "Ratio.__eq__" (defArgs qA5) (defBody qA5) (defScope qA5) [] [] (He.ma K (He.ga K "Ratio") "__eq__") fd ∧ FnOk PySem.Challenge.pw_momentrows_k05_ratio_texts w K mg base (CXX PySem.Challenge.pw_momentrows_k05_ratio_texts w) 3 (He.ma K (He.ga K "Ratio") "__eq__") fd ["self", "other"] (lift K (fRB fun a b => decide (a = b))) := by
  obtain ⟨fd, F0⟩ := B.says.def_ 3 (d := qF3) rfl
  have F : FunD K "__eq__" "Ratio.__eq__" (defArgs qA5) (defBody qA5) (defScope qA5) [] [] (He.ma K (He.ga K "Ratio") "__eq__") fd := F0
  refine ⟨fd, F, F.ok qI3 (fun vs H Q E h => ?_) (fun cdv A outer s H vs Q E hr h => ⟨qDu K csL, ?_, qI8 (KFB B) (by decide) vs H Q E h⟩)⟩
  · exact qH8 (cs := csL) _ _ _ _ h
  · exact (pss_cons (ps_if (pt_val (pe_callB call_isi (by rfl) (qA3 B) (by decide +kernel) (pa_cons (pv 1) (pa_cons (pe_glob (v := .ref (He.ga K "Ratio")) (by rfl) (qCd B) rfl) pa_nil)))) (pss_one (ps_ret (pe_and (pe_cmpR op_eq (pe_fld (pv 0) rfl) (pe_fld (pv 1) rfl) (nomark _)) (pe_one (pe_cmpR op_eq (pe_fld (pv 0) rfl) (pe_fld (pv 1) rfl) (nomark _)))))) pss_nil)
  (pss_cons (ps_if (pt_val (qAk (dvs := []) (qC8 B) (hr.mono (by decide)) rfl passL (pa_cons (pv 1) pa_nil))) (pss_one (ps_ret (pe_and (pe_cmpR op_eq (pe_fld (pv 0) rfl) pe_int (nomark _)) (pe_one (pe_cmpR op_eq (pe_fld (pv 0) rfl) (pv 1) (nomark _)))))) pss_nil)
  (pss_one (ps_ret pe_bl))))
theorem qKp (B : Bd K mg) : qJ1 PySem.Challenge.pw_momentrows_k05_ratio_texts w K mg base 3 (He.ga K "Ratio") "__eq__" [] (lift K (fRB fun a b => decide (a = b))) := by
  obtain ⟨fd, F, G⟩ := qIz (w := w) (base := base) B
  exact ⟨_, fd, ["self", "other"], [], ((KFB B).own _ (by decide)).cl, He.meth_ok (B.says.fact 31 rfl), G, F.bindsN fun _ _ _ _ _ _ us hl => match us, hl with | [_, _], _ => rfl, .nil⟩
theorem qKs (B : Bd K mg) : ∃ fd, FunD K "_law_is" "_law_is" (defArgs qA8) (defBody qA8) (defScope qA8) [] [] (He.ga K "_law_is") fd ∧ FnOk PySem.Challenge.pw_momentrows_k05_ratio_texts w K mg base (CXX PySem.Challenge.pw_momentrows_k05_ratio_texts w) 3 (He.ga K "_law_is") fd ["_law_value", "_law_top", "_law_bottom"] (lift K fIs) := by
  obtain ⟨fd, F0⟩ := B.says.def_ 10 (d := qGm) rfl
  have F : FunD K "_law_is" "_law_is" (defArgs qA8) (defBody qA8) (defScope qA8) [] [] (He.ga K "_law_is") fd := F0
  refine ⟨fd, F, F.ok qJ9 (fun vs H Q E h => ?_) (fun cdv A outer s H vs Q E hr h => ⟨qEo K csL, ?_, qKu (KFB B) (by decide) vs H Q E h⟩)⟩
  · exact qIt (cs := csL) _ _ _ _ h
  · exact (pss_cons (ps_if (PW.pt (pw_or (pt_not (pt_val (pe_callB call_isi (by rfl) (qA3 B) (by decide +kernel) (pa_cons (pv 0) (pa_cons (pe_glob (v := .ref (He.ga K "Ratio")) (by rfl) (qCd B) rfl) pa_nil))))) (pw_or (pt_not (pt_val (qAk (dvs := []) (qCl B) (hr.mono (by decide)) rfl passL (pa_cons (pe_fld (pv 0) rfl) pa_nil)))) (pw_or1 (pt_not (pt_val (qAk (dvs := []) (qCl B) (hr.mono (by decide)) rfl passL (pa_cons (pe_fld (pv 0) rfl) pa_nil)))))))) (pss_one (ps_ret pe_bl)) pss_nil)
  (pss_one (ps_ret (pe_and (pe_cmpR op_ge (pe_fld (pv 0) rfl) pe_int (nomark _)) (pe_one (pe_cmpR op_eq (pe_op qBy (pe_fld (pv 0) rfl) (pv 2)) (pe_op qBy (pv 1) (pe_fld (pv 0) rfl)) (nomark _)))))))
theorem qMt (B : Bd K mg) : qE9 PySem.Challenge.pw_momentrows_k05_ratio_texts w K mg base 3 "_law_is" [] (lift K fIs) := by
  obtain ⟨fd, F, G⟩ := qKs (w := w) (base := base) B
  exact ⟨_, fd, ["_law_value", "_law_top", "_law_bottom"], [], qKn B, F.kp, G, F.bindsN fun _ _ _ _ _ _ us hl => match us, hl with | [_, _, _], _ => rfl, .nil⟩
theorem qD3 (B : Bd K mg) : ∃ fd, FunD K "__init__" "Ratio.__init__" (defArgs qAr) (defBody qAr) (defScope qAr) [.int 1] [] (He.ma K (He.ga K "Ratio") "__init__") fd ∧ FnOk PySem.Challenge.pw_momentrows_k05_ratio_texts w K mg base (CXX PySem.Challenge.pw_momentrows_k05_ratio_texts w) 33 (He.ma K (He.ga K "Ratio") "__init__") fd ["self", "top", "bottom"] (qBi K) := by
  obtain ⟨fd, F0⟩ := B.says.def_ 2 (d := qEe) rfl
  have F : FunD K "__init__" "Ratio.__init__" (defArgs qAr) (defBody qAr) (defScope qAr) [.int 1] [] (He.ma K (He.ga K "Ratio") "__init__") fd := F0
  refine ⟨fd, F, F.ok qCt (fun vs H Q E h => ?_) (fun cdv A outer s H vs Q E hr h => ⟨qEz K E, ?_, qFt (RT B) vs H Q E h⟩)⟩
  · first | (obtain ⟨_, rfl, _⟩ := h; rfl) | (obtain ⟨_, _, rfl, _⟩ := h; rfl) | (obtain ⟨_, _, _, rfl, _⟩ := h; rfl) | (obtain ⟨_, _, _, _, rfl, _⟩ := h; rfl) | (obtain ⟨_, _, _, _, _, rfl, _⟩ := h; rfl) | (obtain ⟨_, _, _, _, _, _, rfl, _⟩ := h; rfl) | (obtain ⟨_, _, _, _, _, _, _, rfl, _⟩ := h; rfl) | (obtain ⟨_, _, _, _, _, _, _, _, rfl, _⟩ := h; rfl) | (obtain ⟨_, _, _, _, _, _, _, _, _, rfl, _⟩ := h; rfl) | (obtain ⟨_, _, _, _, _, _, _, _, _, _, rfl, _⟩ := h; rfl) | (obtain ⟨_, _, _, _, _, _, _, _, _, _, _, rfl, _⟩ := h; rfl) | (obtain ⟨_, _, _, _, _, _, _, _, _, _, _, _, rfl, _⟩ := h; rfl)
  · exact (pss_cons (ps_if (pt_not (pt_val (qAk (dvs := []) (qC8 B) (hr.mono (by decide)) rfl passL (pa_cons (pv 1) pa_nil)))) (pss_one (qB6 rfl (qBc B) qDr (qBj B) hr (takes_of rfl rfl rfl rfl) (pa_cons pe_str pa_nil))) pss_nil)
  (pss_cons (ps_if (pt_not (pt_val (qAk (dvs := []) (qC8 B) (hr.mono (by decide)) rfl passL (pa_cons (pv 2) pa_nil)))) (pss_one (qB6 rfl (qBc B) qDr (qBj B) hr (takes_of rfl rfl rfl rfl) (pa_cons pe_str pa_nil))) pss_nil)
  (pss_cons (ps_if (pt_cmpR op_eq (pv 2) pe_int (nomark _)) (pss_one (qB6 rfl (qBc B) qDr (qBj B) hr (takes_of rfl rfl rfl rfl) (pa_cons pe_str pa_nil))) pss_nil)
  (pss_cons (ps_set (i := 3) qCt.nd rfl (Or.inl rfl) (qAk (dvs := []) (qEi B) (hr.mono (by decide)) rfl passL (pa_cons (pv 1) (pa_cons (pv 2) pa_nil))))
  (pss_cons (ps_if (pt_cmpR op_lt (pv 2) pe_int (nomark _)) (pss_one (ps_set (i := 3) qCt.nd rfl (Or.inl rfl) (pe_un un_neg (pv 3)))) pss_nil)
  (pss_cons (ps_fld (pv 0) (pe_op (qCp (see B) rfl (hr.mono (by decide))) (pv 1) (pv 3)) rfl)
  (pss_one (ps_fld (pv 0) (pe_op (qCp (see B) rfl (hr.mono (by decide))) (pv 2) (pv 3)) rfl))))))))
theorem qBw (B : Bd K mg) : qK8 PySem.Challenge.pw_momentrows_k05_ratio_texts w K mg base 33 "Ratio" (He.ga K "Ratio") [] (qBi K) := by
  obtain ⟨fd, F, G⟩ := qD3 (w := w) (base := base) B
  obtain ⟨ds, v, b⟩ := F.binds1 (ps := ["self", "top", "bottom"]) 3 1 (by simp) rfl fun T kV doc pm an cdv ct us its hu hi => match us, hu, its, hi with | [_, _, _], _, [_], _ => ⟨_, rfl, rfl⟩
  exact ⟨_, fd, ["self", "top", "bottom"], ds, qCd B, He.mkr_ok (B.says.fact 30 rfl), G, b, v⟩
theorem qF7 (B : Bd K mg) : qK8 PySem.Challenge.pw_momentrows_k05_ratio_texts w K mg base 33 "Ratio" (He.ga K "Ratio") [.int 1] (qBi K) := by
  obtain ⟨fd, F, G⟩ := qD3 (w := w) (base := base) B
  obtain ⟨ds, v, b⟩ := F.binds1 (ps := ["self", "top", "bottom"]) 2 0 (by simp) rfl fun T kV doc pm an cdv ct us its hu hi => match us, hu, its, hi with | [_, _], _, [_], _ => ⟨_, rfl, rfl⟩
  exact ⟨_, fd, ["self", "top", "bottom"], ds, qCd B, He.mkr_ok (B.says.fact 30 rfl), G, b, v⟩
theorem qHz (B : Bd K mg) : ∃ fd, FunD K "_law_take" "_law_take" (defArgs qAz) (defBody qAz) (defScope qAz) [] [] (He.ga K "_law_take") fd ∧ FnOk PySem.Challenge.pw_momentrows_k05_ratio_texts w K mg base (CXX PySem.Challenge.pw_momentrows_k05_ratio_texts w) 33 (He.ga K "_law_take") fd ["_law_feed_here", "_law_size"] (lift K qB4) := by
  obtain ⟨fd, F0⟩ := B.says.def_ 8 (d := qE3) rfl
  have F : FunD K "_law_take" "_law_take" (defArgs qAz) (defBody qAz) (defScope qAz) [] [] (He.ga K "_law_take") fd := F0
  refine ⟨fd, F, F.ok qBl (fun vs H Q E h => ?_) (fun cdv A outer s H vs Q E hr h => ⟨qDs K, ?_, qFp vs H Q E h⟩)⟩
  · exact qBo (n := 2) (fun ds P X h => by obtain ⟨_, rfl, _⟩ := h; rfl) h
  · exact (pss_cons (ps_augS (pv 0) pe_int qJ0 pe_int ip_add set_list)
  (pss_cons (ps_if (PW.pt (pw_and (pt_cmpR op_eq (pe_ix ix_list (pv 0) pe_int (fun _ _ => rfl)) pe_int (nomark _)) (pw_and (pt_cmpR op_eq (pe_ix ix_list (pv 0) pe_int (fun _ _ => rfl)) pe_int (nomark _)) (pw_and1 (pt_cmpR op_lt (pe_ix ix_list (pv 0) pe_int (fun _ _ => rfl)) (pe_callB call_len (by rfl) (qJ4 B) (by decide +kernel) (pa_cons (pe_ix ix_list (pv 0) pe_int (fun _ _ => rfl)) pa_nil)) (nomark _)))))) (pss_cons (ps_set (i := 3) qBl.nd rfl (Or.inl rfl) (pe_ix ix_list (pe_ix ix_list (pv 0) pe_int (fun _ _ => rfl)) (pe_ix ix_list (pv 0) pe_int (fun _ _ => rfl)) (fun _ _ => rfl)))
  (pss_cons (ps_augS (pv 0) pe_int qJ0 pe_int ip_add set_list)
  (pss_one (ps_if (pt_cmpR op_ge (pv 3) (pe_op op_pow pe_int pe_int) (nomark _)) (pss_one (ps_asg (pv 3) (pg_sub (pv 0) pe_int set_list))) (pss_cons (ps_asg pe_int (pg_sub (pv 0) pe_int set_list))
  (pss_one (ps_asg (pe_op op_add (pe_ix ix_list (pv 0) pe_int (fun _ _ => rfl)) (pv 3)) (pg_sub (pv 0) pe_int set_list)))))))) pss_nil)
  (pss_cons (ps_if (pt_cmpR op_gt (pe_ix ix_list (pv 0) pe_int (fun _ _ => rfl)) pe_int (nomark _)) (pss_cons (ps_set (i := 4) qBl.nd rfl (Or.inl rfl) (pe_op op_modN (pe_callTy call_int1 (by rfl) (qCk B) (by decide +kernel) (pa_cons (pe_ix ix_list (pv 0) pe_int (fun _ _ => rfl)) pa_nil)) (pv 1)))
  (pss_cons (ps_asg (pe_op (qCp (see B) rfl (hr.mono (by decide))) (pe_ix ix_list (pv 0) pe_int (fun _ _ => rfl)) (pv 1)) (pg_sub (pv 0) pe_int set_list))
  (pss_one (ps_ret (pv 4))))) pss_nil)
  (pss_cons (ps_asg (pe_callB (call_max2 rfl) (by rfl) (qR8 B) (by decide +kernel) (pa_cons pe_int (pa_cons (pe_op op_sub (pe_ix ix_list (pv 0) pe_int (fun _ _ => rfl)) pe_int) pa_nil))) (pg_sub (pv 0) pe_int set_list))
  (pss_cons (ps_set (i := 2) qBl.nd rfl (Or.inl rfl) (pe_op op_modN (pe_callTy call_int1 (by rfl) (qCk B) (by decide +kernel) (pa_cons (pe_op qBy (pe_op op_add (pe_op op_add (pe_ix ix_list (pv 0) pe_int (fun _ _ => rfl)) (pe_op qBy pe_int (pe_ix ix_list (pv 0) pe_int (fun _ _ => rfl)))) pe_int) pe_int) pa_nil)) pe_int))
  (pss_cons (ps_set (i := 2) qBl.nd rfl (Or.inl rfl) (pe_op op_modN (pe_callTy call_int1 (by rfl) (qCk B) (by decide +kernel) (pa_cons (pe_op qBy (pv 2) (pe_op op_add (pe_op (qCp (see B) rfl (hr.mono (by decide))) (pv 2) pe_int) pe_int)) pa_nil)) pe_int))
  (pss_cons (ps_set (i := 2) qBl.nd rfl (Or.inl rfl) (pe_op op_modN (pe_callTy call_int1 (by rfl) (qCk B) (by decide +kernel) (pa_cons (pe_op qBy (pv 2) (pe_op op_add (pe_op (qCp (see B) rfl (hr.mono (by decide))) (pv 2) pe_int) pe_int)) pa_nil)) pe_int))
  (pss_one (ps_ret (pe_op op_modN (pv 2) (pv 1)))))))))))
theorem qBe (B : Bd K mg) : qE9 PySem.Challenge.pw_momentrows_k05_ratio_texts w K mg base 33 "_law_take" [] (lift K qB4) := by
  obtain ⟨fd, F, G⟩ := qHz (w := w) (base := base) B
  exact ⟨_, fd, ["_law_feed_here", "_law_size"], [], qIc B, F.kp, G, F.bindsN fun _ _ _ _ _ _ us hl => match us, hl with | [_, _], _ => rfl, .nil⟩
theorem qH1 (B : Bd K mg) : ∃ fd, FunD K "_law_lowest" "_law_lowest" (defArgs qAy) (defBody qAy) (defScope qAy) [] [] (He.ga K "_law_lowest") fd ∧ FnOk PySem.Challenge.pw_momentrows_k05_ratio_texts w K mg base (CXX PySem.Challenge.pw_momentrows_k05_ratio_texts w) 33 (He.ga K "_law_lowest") fd ["_law_pair_here"] (lift K qCs) := by
  obtain ⟨fd, F0⟩ := B.says.def_ 11 (d := qEy) rfl
  have F : FunD K "_law_lowest" "_law_lowest" (defArgs qAy) (defBody qAy) (defScope qAy) [] [] (He.ga K "_law_lowest") fd := F0
  refine ⟨fd, F, F.ok qBd (fun vs H Q E h => ?_) (fun cdv A outer s H vs Q E hr h => ⟨qDc K csL, ?_, qHw (KFB B) (by decide) vs H Q E h⟩)⟩
  · exact qHb (cs := csL) _ _ _ _ h
  · exact (pss_cons (ps_set (i := 1) qBd.nd rfl (Or.inl rfl) (pe_callB call_abs (by rfl) (qJl B) (by decide +kernel) (pa_cons (pe_ix ix_list (pv 0) pe_int (fun _ _ => rfl)) pa_nil)))
  (pss_cons (ps_set (i := 2) qBd.nd rfl (Or.inl rfl) (pe_ix ix_list (pv 0) pe_int (fun _ _ => rfl)))
  (pss_cons (ps_for (passes_of rfl) rfl (pi_range1 (by rfl) (qJp B) (pa_cons pe_int pa_nil)) (pg_name (i := 3) qBd.nd rfl (Or.inl rfl)) (pss_cons (ps_if (pt_cmpR op_eq (pv 2) pe_int (nomark _)) (pss_one ps_break) pss_nil)
  (pss_cons (ps_set (i := 4) qBd.nd rfl (Or.inl rfl) (pe_op op_modN (pe_callTy call_int1 (by rfl) (qCk B) (by decide +kernel) (pa_cons (pv 1) pa_nil)) (pv 2)))
  (pss_cons (ps_set (i := 1) qBd.nd rfl (Or.inl rfl) (pv 2))
  (pss_one (ps_set (i := 2) qBd.nd rfl (Or.inl rfl) (pv 4)))))))
  (pss_one (ps_ret (pe_lst (pa_cons (pe_op (qCp (see B) rfl (hr.mono (by decide))) (pe_ix ix_list (pv 0) pe_int (fun _ _ => rfl)) (pv 1)) (pa_cons (pe_op (qCp (see B) rfl (hr.mono (by decide))) (pe_ix ix_list (pv 0) pe_int (fun _ _ => rfl)) (pv 1)) pa_nil))))))))
theorem qJb (B : Bd K mg) : qE9 PySem.Challenge.pw_momentrows_k05_ratio_texts w K mg base 33 "_law_lowest" [] (lift K qCs) := by
  obtain ⟨fd, F, G⟩ := qH1 (w := w) (base := base) B
  exact ⟨_, fd, ["_law_pair_here"], [], qGf B, F.kp, G, F.bindsN fun _ _ _ _ _ _ us hl => match us, hl with | [_], _ => rfl, .nil⟩
theorem qG3 (B : Bd K mg) : ∃ fd, FunD K "read" "Ratio.read" (defArgs qAq) (defBody qAq) (defScope qAq) [] [] (qKz K ("Ratio", some "read")) fd ∧ FnOk PySem.Challenge.pw_momentrows_k05_ratio_texts w K mg base (CXX PySem.Challenge.pw_momentrows_k05_ratio_texts w) 35 (qKz K ("Ratio", some "read")) fd ["text"] (lift K (qC0 csL)) := by
  obtain ⟨fd, F0⟩ := B.sst.def_ 0 (d := qD5) rfl
  have F : FunD K "read" "Ratio.read" (defArgs qAq) (defBody qAq) (defScope qAq) [] [] (qKz K ("Ratio", some "read")) fd := F0
  refine ⟨fd, F, F.ok qA7 (fun vs H Q E h => ?_) (fun cdv A outer s H vs Q E hr h => ⟨qB5 K csL E, ?_, qG8 (KFB B) (by decide) vs H Q E h⟩)⟩
  · exact qGa (cs := csL) _ _ _ _ h
  · exact (pss_cons (ps_if (pt_not (pt_val (pe_callB call_isi (by rfl) (qA3 B) (by decide +kernel) (pa_cons (pv 0) (pa_cons (pe_bltn (v := .ty "str") (by rfl) (qC7 B) (by decide +kernel) rfl) pa_nil))))) (pss_one (qB6 rfl (qBc B) qDr (qBj B) hr (takes_of rfl rfl rfl rfl) (pa_cons pe_str pa_nil))) pss_nil)
  (pss_cons (ps_asg (pe_partition (pv 0) pe_str) (pg_tup rfl (pgs_cons (pg_name (i := 2) qA7.nd rfl (Or.inl rfl)) (pgs_cons (pg_name (i := 3) qA7.nd rfl (Or.inl rfl)) (pgs_cons (pg_name (i := 4) qA7.nd rfl (Or.inl rfl)) pgs_nil)))))
  (pss_cons (ps_set (i := 1) qA7.nd rfl (Or.inl rfl) pe_int)
  (pss_cons (ps_if (pt_val (pe_m1 PySem.F.slot_str_startswith PySem.F.type_str_startswith qMo (pv 2) pe_str)) (pss_cons (ps_set (i := 1) qA7.nd rfl (Or.inl rfl) (pe_un un_neg pe_int))
  (pss_one (ps_set (i := 2) qA7.nd rfl (Or.inl rfl) (pe_slice C8.sl_txt (pv 2) (po_some pe_int) po_none)))) pss_nil)
  (pss_cons (ps_if (PW.pt (pw_or (pt_not (pt_val (qAk (dvs := []) (qGn B) (hr.mono (by decide)) rfl passL (pa_cons (pv 2) pa_nil)))) (pw_or1 (PW.pt (pw_and (pt_cmpR op_lt (pv 1) pe_int (nomark _)) (pw_and1 (pt_cmpR op_eq (pv 2) pe_str (nomark _)))))))) (pss_one (qB6 rfl (qBc B) qDr (qBj B) hr (takes_of rfl rfl rfl rfl) (pa_cons pe_str pa_nil))) pss_nil)
  (pss_cons (ps_if (pt_cmpR op_eq (pv 3) pe_str (nomark _)) (pss_one (ps_ret (qEd (dvs := [.int 1]) (qF7 B) (hr.mono (by decide)) rfl (qMe (takes_of rfl rfl rfl rfl) fun _ _ _ _ z => z) (pa_cons (pe_op qBy (pv 1) (pe_callTy qC2 (by rfl) (qCk B) (by decide +kernel) (pa_cons (pv 2) pa_nil))) pa_nil)))) pss_nil)
  (pss_cons (ps_if (PW.pt (pw_or (pt_not (pt_val (qAk (dvs := []) (qGn B) (hr.mono (by decide)) rfl passL (pa_cons (pv 4) pa_nil)))) (pw_or (pt_cmpR op_eq (pv 4) pe_str (nomark _)) (pw_or1 (pt_cmpR op_eq (pv 4) pe_str (nomark _)))))) (pss_one (qB6 rfl (qBc B) qDr (qBj B) hr (takes_of rfl rfl rfl rfl) (pa_cons pe_str pa_nil))) pss_nil)
  (pss_cons (ps_if (pt_cmpR op_ne (qAk (dvs := []) (qEi B) (hr.mono (by decide)) rfl passL (pa_cons (pe_callTy qC2 (by rfl) (qCk B) (by decide +kernel) (pa_cons (pv 2) pa_nil)) (pa_cons (pe_callTy qC2 (by rfl) (qCk B) (by decide +kernel) (pa_cons (pv 4) pa_nil)) pa_nil))) pe_int (nomark _)) (pss_one (qB6 rfl (qBc B) qDr (qBj B) hr (takes_of rfl rfl rfl rfl) (pa_cons pe_str pa_nil))) pss_nil)
  (pss_one (ps_ret (qEd (dvs := []) (qBw B) (hr.mono (by decide)) rfl (qMe (takes_of rfl rfl rfl rfl) fun _ _ _ _ z => z) (pa_cons (pe_op qBy (pv 1) (pe_callTy qC2 (by rfl) (qCk B) (by decide +kernel) (pa_cons (pv 2) pa_nil))) (pa_cons (pe_callTy qC2 (by rfl) (qCk B) (by decide +kernel) (pa_cons (pv 4) pa_nil)) pa_nil)))))))))))))
theorem qCc (B : Bd K mg) : qLc PySem.Challenge.pw_momentrows_k05_ratio_texts w K mg base 35 (He.ga K "Ratio") "read" [] (lift K (qC0 csL)) := by
  obtain ⟨fd, F, G⟩ := qG3 (w := w) (base := base) B
  exact ⟨_, fd, ["text"], [], qNk (B.says.fact 32 rfl), F.kp, G, F.bindsN fun _ _ _ _ _ _ us hl => match us, hl with | [_], _ => rfl, .nil⟩
theorem qGb (B : Bd K mg) : ∃ fd, FunD K "_law_number" "_law_number" (defArgs qAl) (defBody qAl) (defScope qAl) [] [] (He.ga K "_law_number") fd ∧ FnOk PySem.Challenge.pw_momentrows_k05_ratio_texts w K mg base (CXX PySem.Challenge.pw_momentrows_k05_ratio_texts w) 35 (He.ga K "_law_number") fd ["_law_feed_here", "_law_size"] (lift K qCw) := by
  obtain ⟨fd, F0⟩ := B.says.def_ 9 (d := qDk) rfl
  have F : FunD K "_law_number" "_law_number" (defArgs qAl) (defBody qAl) (defScope qAl) [] [] (He.ga K "_law_number") fd := F0
  refine ⟨fd, F, F.ok qDj (fun vs H Q E h => ?_) (fun cdv A outer s H vs Q E hr h => ⟨qCi K csL, ?_, qGc (KFB B) (by decide) vs H Q E h⟩)⟩
  · exact qF5 (cs := csL) _ _ _ _ h
  · exact (pss_cons (ps_set (i := 2) qDj.nd rfl (Or.inl rfl) (pe_op op_sub pe_int (pe_op qBy pe_int (qAk (dvs := []) (qBe B) (hr.mono (by decide)) rfl passL (pa_cons (pv 0) (pa_cons pe_int pa_nil))))))
  (pss_one (ps_ret (pe_op qBy (pv 2) (qAk (dvs := []) (qBe B) (hr.mono (by decide)) rfl passL (pa_cons (pv 0) (pa_cons (pv 1) pa_nil)))))))
theorem qHl (B : Bd K mg) : qE9 PySem.Challenge.pw_momentrows_k05_ratio_texts w K mg base 35 "_law_number" [] (lift K qCw) := by
  obtain ⟨fd, F, G⟩ := qGb (w := w) (base := base) B
  exact ⟨_, fd, ["_law_feed_here", "_law_size"], [], qGg B, F.kp, G, F.bindsN fun _ _ _ _ _ _ us hl => match us, hl with | [_, _], _ => rfl, .nil⟩
theorem qG6 (B : Bd K mg) : ∃ fd, FunD K "_law_spoiled" "_law_spoiled" (defArgs qAp) (defBody qAp) (defScope qAp) [] [] (He.ga K "_law_spoiled") fd ∧ FnOk PySem.Challenge.pw_momentrows_k05_ratio_texts w K mg base (CXX PySem.Challenge.pw_momentrows_k05_ratio_texts w) 35 (He.ga K "_law_spoiled") fd ["_law_feed_here", "_law_pair_here", "_law_text"] (lift K qB2) := by
  obtain ⟨fd, F0⟩ := B.says.def_ 13 (d := qEb) rfl
  have F : FunD K "_law_spoiled" "_law_spoiled" (defArgs qAp) (defBody qAp) (defScope qAp) [] [] (He.ga K "_law_spoiled") fd := F0
  refine ⟨fd, F, F.ok qBf (fun vs H Q E h => ?_) (fun cdv A outer s H vs Q E hr h => ⟨qCn K csL, ?_, qHa (KFB B) (by decide) vs H Q E h⟩)⟩
  · exact qF9 (cs := csL) _ _ _ _ h
  · exact (pss_cons (ps_set (i := 3) qBf.nd rfl (Or.inl rfl) pe_str)
  (pss_cons (ps_set (i := 4) qBf.nd rfl (Or.inl rfl) (qAk (dvs := []) (qBe B) (hr.mono (by decide)) rfl passL (pa_cons (pv 0) (pa_cons (pe_op op_add (pe_callB qFu (by rfl) (qJ4 B) (by decide +kernel) (pa_cons (pv 2) pa_nil)) pe_int) pa_nil))))
  (pss_cons (ps_set (i := 5) qBf.nd rfl (Or.inl rfl) (qOg (pv 3) (qAk (dvs := []) (qBe B) (hr.mono (by decide)) rfl passL (pa_cons (pv 0) (pa_cons (pe_callB qFu (by rfl) (qJ4 B) (by decide +kernel) (pa_cons (pv 3) pa_nil)) pa_nil))) (fun _ _ => rfl)))
  (pss_cons (ps_set (i := 6) qBf.nd rfl (Or.inl rfl) (pe_op op_add pe_int (qAk (dvs := []) (qBe B) (hr.mono (by decide)) rfl passL (pa_cons (pv 0) (pa_cons pe_int pa_nil)))))
  (pss_cons (ps_set (i := 7) qBf.nd rfl (Or.inl rfl) (pe_lst (pa_cons (pe_op op_add_str (pe_op op_add_str (pe_slice C8.sl_txt (pv 2) po_none (po_some (pv 4))) (pv 5)) (pe_slice C8.sl_txt (pv 2) (po_some (pv 4)) po_none)) (pa_cons (pe_op op_add_str (pv 2) pe_str) (pa_cons (pe_op op_add_str pe_str (pv 2)) (pa_cons (pe_op op_add_str (pv 2) pe_str) (pa_cons (pe_op op_add_str (pv 2) pe_str) (pa_cons (pe_op op_add_str pe_str (pv 2)) (pa_cons (pe_op op_add_str pe_str (pv 2)) pa_nil)))))))))
  (pss_cons (ps_expr (pe_bm PySem.F.plainAttrs_list PySem.F.slot_list_append PySem.F.type_list_append mt_append (pv 7) (pa_cons (pe_op op_add_str (pe_op op_add_str (pe_callTy qBp (by rfl) (qC7 B) (by decide +kernel) (pa_cons (pe_op qBy (pe_ix ix_list (pv 1) pe_int (fun _ _ => rfl)) (pv 6)) pa_nil)) pe_str) (pe_callTy qBp (by rfl) (qC7 B) (by decide +kernel) (pa_cons (pe_op qBy (pe_ix ix_list (pv 1) pe_int (fun _ _ => rfl)) (pv 6)) pa_nil))) pa_nil)))
  (pss_cons (ps_expr (pe_bm PySem.F.plainAttrs_list PySem.F.slot_list_append PySem.F.type_list_append mt_append (pv 7) (pa_cons (pe_op op_add_str (pe_op op_add_str (pe_callTy qBp (by rfl) (qC7 B) (by decide +kernel) (pa_cons (pe_ix ix_list (pv 1) pe_int (fun _ _ => rfl)) pa_nil)) pe_str) (pe_callTy qBp (by rfl) (qC7 B) (by decide +kernel) (pa_cons (pe_ix ix_list (pv 1) pe_int (fun _ _ => rfl)) pa_nil))) pa_nil)))
  (pss_cons (ps_expr (pe_bm PySem.F.plainAttrs_list PySem.F.slot_list_append PySem.F.type_list_append mt_append (pv 7) (pa_cons pe_str pa_nil)))
  (pss_cons (ps_expr (pe_bm PySem.F.plainAttrs_list PySem.F.slot_list_append PySem.F.type_list_append mt_append (pv 7) (pa_cons pe_str pa_nil)))
  (pss_cons (ps_expr (pe_bm PySem.F.plainAttrs_list PySem.F.slot_list_append PySem.F.type_list_append mt_append (pv 7) (pa_cons pe_str pa_nil)))
  (pss_cons (ps_expr (pe_bm PySem.F.plainAttrs_list PySem.F.slot_list_append PySem.F.type_list_append mt_append (pv 7) (pa_cons pe_str pa_nil)))
  (pss_cons (ps_expr (pe_bm PySem.F.plainAttrs_list PySem.F.slot_list_append PySem.F.type_list_append mt_append (pv 7) (pa_cons (pe_op op_add_str pe_str (pe_op qDy pe_str pe_int)) pa_nil)))
  (pss_cons (ps_expr (pe_bm PySem.F.plainAttrs_list PySem.F.slot_list_append PySem.F.type_list_append mt_append (pv 7) (pa_cons (pe_op op_add_str pe_str (pe_op qDy pe_str pe_int)) pa_nil)))
  (pss_cons (ps_expr (pe_bm PySem.F.plainAttrs_list PySem.F.slot_list_append PySem.F.type_list_append mt_append (pv 7) (pa_cons (pe_op qDy pe_str pe_int) pa_nil)))
  (pss_cons (ps_expr (pe_bm PySem.F.plainAttrs_list PySem.F.slot_list_append PySem.F.type_list_append mt_append (pv 7) (pa_cons (pe_op op_add_str pe_str (pe_op qDy pe_str pe_int)) pa_nil)))
  (pss_one (ps_ret (pv 7))))))))))))))))))
theorem qHu (B : Bd K mg) : qE9 PySem.Challenge.pw_momentrows_k05_ratio_texts w K mg base 35 "_law_spoiled" [] (lift K qB2) := by
  obtain ⟨fd, F, G⟩ := qG6 (w := w) (base := base) B
  exact ⟨_, fd, ["_law_feed_here", "_law_pair_here", "_law_text"], [], qF4 B, F.kp, G, F.bindsN fun _ _ _ _ _ _ us hl => match us, hl with | [_, _, _], _ => rfl, .nil⟩
theorem qHp (B : Bd K mg) : ∃ fd, FunD K "_law_refused" "_law_refused" (defArgs qAs) (defBody qAs) (defScope qAs) [] [] (He.ga K "_law_refused") fd ∧ FnOk PySem.Challenge.pw_momentrows_k05_ratio_texts w K mg base (CXX PySem.Challenge.pw_momentrows_k05_ratio_texts w) 37 (He.ga K "_law_refused") fd ["_law_text"] (lift K (qA0 csL)) := by
  obtain ⟨fd, F0⟩ := B.says.def_ 12 (d := qD7) rfl
  have F : FunD K "_law_refused" "_law_refused" (defArgs qAs) (defBody qAs) (defScope qAs) [] [] (He.ga K "_law_refused") fd := F0
  refine ⟨fd, F, F.ok qB1 (fun vs H Q E h => ?_) (fun cdv A outer s H vs Q E hr h => ⟨qCv K csL, ?_, qGz (KFB B) (XOB B) (IOB B) (by decide) vs H Q E h⟩)⟩
  · exact qGd (cs := csL) _ _ _ _ h
  · exact (pss_cons (ps_set (i := 1) qB1.nd rfl (Or.inl rfl) pe_str)
  (pss_cons (ps_try_as (i := 2) (tb := fun W => (tDrop (tCallSD (lift K (qC0 csL)) [] (WE W) (tCons (tVar 0) tNil)))) (ts := fun a cls d => (tAsg (tXf a cls d (He.ga K "NoRatio") "word" (tVar 2)) (gName 1))) (Wout := (fun _ _ _ _ => False)) rfl rfl qB1.nd rfl rfl ⟨rfl, by decide, Or.inl (qBj B)⟩ takes0 (fun W pn xe tk _ => (pss_one (ps_expr (qO6 (qCc B) (pe_glob (v := .ref (He.ga K "Ratio")) (by rfl) (qCd B) rfl) (hr.mono (by decide)) (fun σ => passAt tk σ) (pa_cons (pv 0) pa_nil))))) (fun a oe cls d pn hz hf => (pss_one (ps_set (i := 1) qB1.nd rfl (Or.inl rfl) (pe_xf (C := He.ga K "NoRatio") (qKg B) (qBc B).no hz hf (pv 2))))))
  (pss_one (ps_ret (pe_cmpR op_eq (pv 1) pe_str (nomark _))))))
theorem qE1 (B : Bd K mg) : qE9 PySem.Challenge.pw_momentrows_k05_ratio_texts w K mg base 37 "_law_refused" [] (lift K (qA0 csL)) := by
  obtain ⟨fd, F, G⟩ := qHp (w := w) (base := base) B
  exact ⟨_, fd, ["_law_text"], [], qFx B, F.kp, G, F.bindsN fun _ _ _ _ _ _ us hl => match us, hl with | [_], _ => rfl, .nil⟩
theorem qOv (B : Bd K mg) : ∃ fd, FunD K "law" "law" (defArgs qDm) (defBody qDm) (defScope qDm) [] [] (He.ga K "law") fd ∧ FnOk PySem.Challenge.pw_momentrows_k05_ratio_texts w K mg base CX0 39 (He.ga K "law") fd ["_law_script"] (qM3 K) := by
  obtain ⟨fd, F0⟩ := B.says.def_ 14 (d := qOj) rfl
  have F : FunD K "law" "law" (defArgs qDm) (defBody qDm) (defScope qDm) [] [] (He.ga K "law") fd := F0
  refine ⟨fd, F, F.ok qC9 (fun vs H Q E h => ?_) (fun cdv A outer s H vs Q E hr h => ⟨qOw K csL, ?_, qQ5 (KFB B) (by decide) vs H Q E h⟩)⟩
  · first | (obtain ⟨_, rfl, _⟩ := h; rfl) | (obtain ⟨_, _, rfl, _⟩ := h; rfl) | (obtain ⟨_, _, _, rfl, _⟩ := h; rfl) | (obtain ⟨_, _, _, _, rfl, _⟩ := h; rfl) | (obtain ⟨_, _, _, _, _, rfl, _⟩ := h; rfl) | (obtain ⟨_, _, _, _, _, _, rfl, _⟩ := h; rfl) | (obtain ⟨_, _, _, _, _, _, _, rfl, _⟩ := h; rfl) | (obtain ⟨_, _, _, _, _, _, _, _, rfl, _⟩ := h; rfl) | (obtain ⟨_, _, _, _, _, _, _, _, _, rfl, _⟩ := h; rfl) | (obtain ⟨_, _, _, _, _, _, _, _, _, _, rfl, _⟩ := h; rfl) | (obtain ⟨_, _, _, _, _, _, _, _, _, _, _, rfl, _⟩ := h; rfl) | (obtain ⟨_, _, _, _, _, _, _, _, _, _, _, _, rfl, _⟩ := h; rfl)
  · exact (pss_cons (ps_set (i := 1) qC9.nd rfl (Or.inl rfl) (qAk (dvs := []) (qI0 B) (hr.mono (by decide)) rfl passL (pa_cons (pv 0) pa_nil)))
  (pss_cons (ps_for (passes_of rfl) rfl (pi_range1 (by rfl) (qJp B) (pa_cons (pe_op op_add pe_int (qAk (dvs := []) (qBe B) (hr.mono (by decide)) rfl passL (pa_cons (pv 1) (pa_cons pe_int pa_nil)))) pa_nil)) (pg_name (i := 2) qC9.nd rfl (Or.inl rfl)) (pss_cons (ps_set (i := 4) qC9.nd rfl (Or.inl rfl) (pe_ix ix_list (pe_lst (pa_cons pe_int (pa_cons (pe_op op_pow pe_int pe_int) (pa_cons (pe_op op_pow pe_int pe_int) pa_nil)))) (qAk (dvs := []) (qBe B) (hr.mono (by decide)) rfl passL (pa_cons (pv 1) (pa_cons pe_int pa_nil))) (fun _ _ => rfl)))
  (pss_cons (ps_set (i := 5) qC9.nd rfl (Or.inl rfl) (qAk (dvs := []) (qJb B) (hr.mono (by decide)) rfl passL (pa_cons (pe_lst (pa_cons (qAk (dvs := []) (qHl B) (hr.mono (by decide)) rfl passL (pa_cons (pv 1) (pa_cons (pv 4) pa_nil))) (pa_cons (pe_op op_add pe_int (qAk (dvs := []) (qBe B) (hr.mono (by decide)) rfl passL (pa_cons (pv 1) (pa_cons (pe_op op_sub (pv 4) pe_int) pa_nil)))) pa_nil))) pa_nil)))
  (pss_cons (ps_set (i := 6) qC9.nd rfl (Or.inl rfl) (pe_callTy qBp (by rfl) (qC7 B) (by decide +kernel) (pa_cons (pe_ix ix_list (pv 5) pe_int (fun _ _ => rfl)) pa_nil)))
  (pss_cons (ps_if (pt_cmpR op_ne (pe_ix ix_list (pv 5) pe_int (fun _ _ => rfl)) pe_int (nomark _)) (pss_one (ps_set (i := 6) qC9.nd rfl (Or.inl rfl) (pe_op op_add_str (pe_op op_add_str (pv 6) pe_str) (pe_callTy qBp (by rfl) (qC7 B) (by decide +kernel) (pa_cons (pe_ix ix_list (pv 5) pe_int (fun _ _ => rfl)) pa_nil))))) pss_nil)
  (pss_cons (ps_set (i := 7) qC9.nd rfl (Or.inl rfl) (qEd (dvs := []) (qBw B) (hr.mono (by decide)) rfl passL (pa_cons (pe_ix ix_list (pv 5) pe_int (fun _ _ => rfl)) (pa_cons (pe_ix ix_list (pv 5) pe_int (fun _ _ => rfl)) pa_nil))))
  (pss_cons (ps_if (PW.pt (pw_or (pt_not (pt_val (pe_callB call_isi (by rfl) (qA3 B) (by decide +kernel) (pa_cons (qD6 (pv 7) (qCb B) (hr.mono (by decide)) passL) (pa_cons (pe_bltn (v := .ty "str") (by rfl) (qC7 B) (by decide +kernel) rfl) pa_nil))))) (pw_or1 (pt_cmpR op_ne (qD6 (pv 7) (qCb B) (hr.mono (by decide)) passL) (pv 6) (nomark _))))) (pss_one (ps_ret pe_bl)) pss_nil)
  (pss_cons (ps_set (i := 8) qC9.nd rfl (Or.inl rfl) (qMn (qCc B) (pe_glob (v := .ref (He.ga K "Ratio")) (by rfl) (qCd B) rfl) (hr.mono (by decide)) passL (pa_cons (pv 6) pa_nil)))
  (pss_cons (ps_if (PW.pt (pw_or (pt_not (pt_val (qAk (dvs := []) (qMt B) (hr.mono (by decide)) rfl passL (pa_cons (pv 8) (pa_cons (pe_ix ix_list (pv 5) pe_int (fun _ _ => rfl)) (pa_cons (pe_ix ix_list (pv 5) pe_int (fun _ _ => rfl)) pa_nil)))))) (pw_or1 (pt_cmpR op_ne (qD6 (pv 8) (qCb B) (hr.mono (by decide)) passL) (pv 6) (nomark _))))) (pss_one (ps_ret pe_bl)) pss_nil)
  (pss_one (ps_for (passes_of rfl) rfl (pi_list (qAk (dvs := []) (qHu B) (hr.mono (by decide)) rfl passL (pa_cons (pv 1) (pa_cons (pv 5) (pa_cons (pv 6) pa_nil))))) (pg_name (i := 9) qC9.nd rfl (Or.inl rfl)) (pss_one (ps_if (pt_not (pt_val (qAk (dvs := []) (qE1 B) (hr.mono (by decide)) rfl passL (pa_cons (pv 9) pa_nil)))) (pss_one (ps_ret pe_bl)) pss_nil)))))))))))))
  (pss_cons (ps_for (passes_of rfl) rfl (pi_list (pe_lst (pa_cons pe_non (pa_cons pe_int (pa_cons pe_bl (pa_cons (pe_lst (pa_cons pe_str pa_nil)) (pa_cons (qEd (dvs := []) (qBw B) (hr.mono (by decide)) rfl passL (pa_cons pe_int (pa_cons pe_int pa_nil))) pa_nil))))))) (pg_name (i := 3) qC9.nd rfl (Or.inl rfl)) (pss_one (ps_if (pt_not (pt_val (qAk (dvs := []) (qE1 B) (hr.mono (by decide)) rfl passL (pa_cons (pv 3) pa_nil)))) (pss_one (ps_ret pe_bl)) pss_nil)))
  (pss_one (ps_ret (pe_and (pe_cmpR op_eq (qD6 (qMn (qCc B) (pe_glob (v := .ref (He.ga K "Ratio")) (by rfl) (qCd B) rfl) (hr.mono (by decide)) passL (pa_cons (pe_op op_add_str pe_str (pe_op qDy pe_str pe_int)) pa_nil)) (qCb B) (hr.mono (by decide)) passL) (pe_op op_add_str pe_str (pe_op qDy pe_str pe_int)) (nomark _)) (pe_one (pe_cmpR (qQk (qKp B) (qHx B) (hr.mono (by decide)) passL) (qMn (qCc B) (pe_glob (v := .ref (He.ga K "Ratio")) (by rfl) (qCd B) rfl) (hr.mono (by decide)) passL (pa_cons (pe_op op_add_str pe_str (pe_op qDy pe_str pe_int)) pa_nil)) (qEd (dvs := []) (qBw B) (hr.mono (by decide)) rfl passL (pa_cons pe_int (pa_cons (pe_op op_pow pe_int pe_int) pa_nil))) (nomark _)))))))))
end
end MR
open PySem PySem.W PySem.Calls PyProof.Rows
set_option maxRecDepth 100000 in
set_option maxHeartbeats 0 in
theorem PySem.Challenge.cw_momentrows_k05_ratio_texts_holds : PySem.Challenge.rw_momentrows_k05_ratio_texts.Holds := by
  w_on; o_law
  refine HandSHeadRun.head_any (r := OpenLaw.row PySem.Challenge.rw_momentrows_k05_ratio_texts) (q := view (OpenLaw.row PySem.Challenge.rw_momentrows_k05_ratio_texts).prog [23]) (H := MR.hk) (ob := MR.ob) (M := 12000) (loose := MR.qJr) (d := HandSHeadRun.topDef (OpenLaw.row PySem.Challenge.rw_momentrows_k05_ratio_texts).prog 23) (kwd := []) MR.qT5
    (by kernel_rfl) (fun s => by kernel_rfl) MR.run (by kernel_rfl) (by kernel_rfl) (by kernel_rfl) (by rfl) (by first | assumption | decide +kernel) (by decide +kernel) ⟨rfl, rfl, rfl, rfl, rfl, by decide +kernel⟩ ?hw ?hc
  case hw => w_witness2
  case hc =>
    refine L2.walk_ofE (l := PySem.Challenge.rw_momentrows_k05_ratio_texts) (n := 63) (k := 39) (x := "_law_script") (CX := L2.CX0) rfl (by decide) (by kernel_rfl) ⟨rfl, by decide, by decide⟩ ?F (fun _ _ _ _ z => z)
    intro w mg fa h Y G hmg0
    obtain ⟨K, KX, c, cs⟩ := Y
    have hmg : mg ("law" : PySem.Str) = some (.ref fa) := by
      have e : (HandSHeadRun.topDef (OpenLaw.row PySem.Challenge.rw_momentrows_k05_ratio_texts).prog 23).name = ("law" : PySem.Str) := by kernel_rfl
      rw [← e]
      exact hmg0
    have B : MR.Bd K mg := ⟨⟨h, KX, G⟩, c, cs⟩
    have e := hmg.symm.trans (MR.qRu B)
    cases e
    obtain ⟨fd0, F, _⟩ := MR.qOv (w := w) (base := h) B
    have b := L2.FunD.bindsA (ps := ["_law_script"]) F fun _ _ _ _ _ _ us hl => match us, hl with | [_], _ => rfl
    refine ⟨K, fd0, MR.qM3 K, KX, fun s u => b s [u] rfl, fun H a ns hl _ hS => ⟨a, ns, rfl, hS, hl, fun _ => rfl⟩, fun base _ _ => ?_⟩
    obtain ⟨fd1, F1, G1⟩ := MR.qOv (w := w) (base := base) B
    have e2 : fd1 = fd0 := MR.qNo F1 F
    rw [← e2]
    exact G1

