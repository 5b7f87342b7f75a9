import PyProof.Rows.All
import Wide.All
import OpenK.AllK
import Wide.FinOn
import KE.KExcSuper
import HandS.ForMost
import HandS.ForExc
import HandS.Defaults
import HandS.IsInst
import HandS.ExcField
import HandS.ExcInit
import KE.KExcIs
import HandS.ExcIs
import HandS.Wide
import HandS.MakeKw
import HandS.MakeKwOnly
import HandS.CallSlots
import HandS.HeadEnd
import HandS.HeadHook2
import HandS.Head2
import HandS.OwnEq
import KE.KOpsOwn
import HandS.Lambda
import HandS.EndTab
import HandS.Iter
import KE.GoesEnum
import HandS.RevRange
import HandS.Zip
import HandS.TupAny
import HandS.DeepEq
import HandS.TupLe
import HandS.Small
import OpenK.KDescr
import HandS.Style
import KE.KCallOwn
import HandS.More
import HandS.Dict
import PyProof.NoPylong
import HandS.Text
import HandS.Codes
import HandS.SuiteRaise
import HandS.RaiseFrom
import HandS.ExcValue
import PySem.Challenge.RW_momentrows_k69_errors_and_their_fields
open PySem.Challenge renaming pw_momentrows_k69_errors_and_their_fields → pWW, rw_momentrows_k69_errors_and_their_fields → rWW
set_option Elab.async false
set_option linter.all false
set_option maxRecDepth 100000
set_option maxHeartbeats 4000000
set_option exponentiation.threshold 20000
namespace MR
open PySem PySem.W PySem.Calls PyProof.Rows PySem.HandSPX
structure SupC (prog:Program) (K:Frag) (C fI:Addr) (p:Str):Prop where
 cls:∃ nm q N bs bm sn sub ab col dd k0 k1 k2 k3 k5,K.lookup C=some (excClassObj nm q C N bs bm true sn sub ab col dd k0 k1 k2 k3 k5 "ValueError.__new__")/\refsVE bm=true/\
  alongIn K "__init__" bm=some (some (.builtin "ValueError.__init__"))
 sa:findIn K (.ref C) "__setattr__"=some (some (.builtin "object.__setattr__"))
 no:findIn K (.ref C) p=some none
 ini:findIn K (.ref C) "__init__"=some (some (.ref fI))
 tfn:typeIn K (.ref fI)=some (.type "function")
 kC:keepIn K (.ref C)=true
 exC:subIn K (.ref C) (.type "BaseException")=some true
 veC:subIn K (.ref C) (.type "ValueError")=some true
 tyC:typeIn K (.ref C)=some (.type "type")
 selfC:mroIn K C (.ref C)=some true
 opq:nsIn K cStatics "thirdparty.any"=some none
 sup:nsIn K mainGlobals "super"=some none
 top:(prog.main.scope.names.lookup ("super":Str)).isSome=false
 fn:∃ (oc:Value) (od:Option Addr) (osl:Array (Option Value)) (fd:FuncData) (a1 a2:Arg) (q1 q2 q3 q4 q5 q6 q7 q8 q9 q10:Pos) (cda cc:Addr) (ccl:Value) (cdd:Option Addr) (vs:Array Value) (ccs:Array (Option Value)) (file:Str) (tf:Tok) (cl:Value) (cld:Option Addr) (csl:Array (Option Value)),
  K.lookup fI=some ⟨oc,od, .func fd,osl⟩/\codeIn K fd.code fd.qualname=true/\
  fd.params = { posonlyargs:=[],args:=[a1,a2],vararg:=none,kwonlyargs:=[],kw_defaults:=[],kwarg:=none,defaults:=[] }/\a1.arg="self"/\a2.arg=p/\
  fd.body = .stmts [.Expr (.Call (.Attribute (.Call (.Name "super" q1) [] [] q2) "__init__" q3) [.Name p q4] [] q5) q6, .Assign [.Attribute (.Name "self" q7) p q8] (.Name p q9) q10]/\
  fd.scope = { kind := .function,names:=[("self", .local),(p, .local),("__class__", .free),("super", .globalImplicit)],isGenerator:=false,isCoroutine:=false,more:=[] }/\
  fd.globals=mainGlobals/\fd.builtins=builtinsNs/\fd.closure=[(("__class__":Str),cc)]/\fd.defaults = .none/\fd.code = .ref cda/\
  K.lookup cda=some ⟨ccl,cdd, .fields vs,ccs⟩/\vs[2]?=some (.str file tf)/\((prog.main.file:Str) == file)=true/\
  K.lookup cc=some ⟨cl,cld, .cell (some (.ref C)),csl⟩/\(q3.endLine == q5.line)=true
structure PName (p:Str):Prop where
 n1:¬ p=("self":Str)
 n2:¬ p=("__class__":Str)
 n3:¬ p=("super":Str)
 n4:(p == ("__debug__":Str))=false
 n5:(p == ("__classdict__":Str))=false
 bnd:∀ (n1 n2:Str) (an1:Option Expr) (ap1:Pos) (an2:Option Expr) (ap2:Pos) (b:FuncBody) (sc:Scope) (gl:Addr) (clo:List (Str × Addr)) (n9 n10 n11:Value) (n12:Option Addr) (n13 n14:Value) (n15:Addr) (u v:Value),
  bindArgs ⟨n1,n2, { posonlyargs:=[],args:=[⟨"self",an1,ap1⟩,⟨p,an2,ap2⟩],vararg:=none,kwonlyargs:=[],kw_defaults:=[],kwarg:=none,defaults:=[] },b,sc,gl,clo, .none,n9,n10,n11,n12,n13,n14,n15⟩ ⟨[u,v],[]⟩=pure [(("self":Str),u),(p,v)]
structure InitEnd (h h':Heap) (x C dx:Addr) (p:Str) (v:Value):Prop where
 keep:∀ b o,b≠x->h.get? b=some o->h'.get? b=some o
 obj:∃ t1,h'.get? x=some { cls := .ref C,dict:=some dx,data := .fields #[.ref t1, .none, .none, .none, .bool false, .none] }
 dbig:h.objs.size<=dx
 dne:dx≠x
 ns:h'.Ns1 dx (λy=>if y=p then some v else none)
theorem qEd:PName "word":=⟨by decide +kernel,by decide +kernel,by decide +kernel,by decide +kernel,by decide +kernel,λ_ _ _ _ _ _ _ _ _ _ _ _ _ _ _ _ _ _ _=>rfl⟩
theorem qBk:PName "part":=⟨by decide +kernel,by decide +kernel,by decide +kernel,by decide +kernel,by decide +kernel,λ_ _ _ _ _ _ _ _ _ _ _ _ _ _ _ _ _ _ _=>rfl⟩
theorem qC4:PName "index":=⟨by decide +kernel,by decide +kernel,by decide +kernel,by decide +kernel,by decide +kernel,λ_ _ _ _ _ _ _ _ _ _ _ _ _ _ _ _ _ _ _=>rfl⟩
theorem qFn:PName "most":=⟨by decide +kernel,by decide +kernel,by decide +kernel,by decide +kernel,by decide +kernel,λ_ _ _ _ _ _ _ _ _ _ _ _ _ _ _ _ _ _ _=>rfl⟩
theorem qEq{o:Expr}{name:Str}{apos pos:Pos}{env:Env}{a:Expr}(h:(apos.endLine == pos.line)=true)(hs:starEach [a] env=[(false,eval a env)]) :
  eval (.Call (.Attribute o name apos) [a] [] pos) env=(do
   let ov ←attributeBase o name env (eval o env)
   standAt apos.atName
   let (f,first) ←holding [ov] (getMethod ov name (do return (<-importBound o env).getD true))
   callWith pos f first (backTo pos (starEach [a] env)) []):=by
 have e0:eval (.Call (.Attribute o name apos) [a] [] pos) env=(do
   let ov ←attributeBase o name env (eval o env)
   standAt apos.atName
   methodCall o name apos pos env ov 1 (backTo pos (starEach [a] env)) []):=rfl
 have e1:methodCallPos true o env apos pos=pure pos:=by
  unfold methodCallPos
  rw [h]
  rfl
 have e2:methodCallForm 1 (backTo pos (starEach [a] env)) []=true:=by rw [hs];rfl
 rw [e0]
 unfold methodCall
 rw [e2]
 simp only [e1,pure_bind]
 rfl
theorem qB2{prog:Program}{w:World}{A:Around}{E:Value->Shared->Prop}{s:Shared}{C u x t0:Addr}{nm q:Str}{N:Addr}{bs bm:List Value}{hdct:Bool}{sn:List Str}{sub:List Value}{ab:Bool}{col:Option Bool}{dd:Option Addr}{k0 k1 k2 k3 k5:Option Value}{Q:Value->Shared->Prop}
  (hC:s.heap.get? C=some (excClassObj nm q C N bs bm hdct sn sub ab col dd k0 k1 k2 k3 k5 "ValueError.__new__")) (hu:s.heap.get? u=some (kxs_mw "ValueError.__init__" x)) (hx:s.heap.get? x=some (excO C t0)) {rest:List Value} (hz:rest.length<=sizeLine)
  (h:∀ h' t1,(∀ b o,b≠x->s.heap.get? b=some o->h'.get? b=some o)->h'.get? x=some (excO C t1)->Q .none { s with heap:=h' }):wpAny (model prog w) A (call (.ref u) rest) Q E s:=by
 have f1:(Value.type "method-wrapper" == Value.type "method" || Value.type "method-wrapper" == Value.type "builtin_function_or_method" || Value.type "method-wrapper" == Value.type "method-wrapper")=true:=by decide
 obtain ⟨hh,g,d,tk,os⟩:=s
 refine wpAny_call (codeAny_of_tree ?_)
 show wpAny _ A.in1 (callAny (Value.ref u) ⟨rest,[]⟩) _ _ _
 unfold callAny
 refine wpAny_bind (wpAny_load hu ?_)
 dsimp only [kxs_mw]
 rw [if_pos f1]
 refine KFB.if_so (by decide) ?_
 refine wpAny_bind (check_bound_init F.excBase_ValueError.toExcCallFacts hC hx rfl ?_)
 refine wpAny_bind (wpAny_pure (wpAny_pure ⟨plainId_quiet F.excBase_ValueError.init.plain _,codeAny_builtin F.excBase_ValueError.initEntry ?_⟩))
 refine exc_init_tree (cls := .ref C) (t0:=t0) (dv:=none) (c2 := .none) (c3 := .none) (b4 := .bool false) hx hz ?_
 intro h' k e1 e2
 exact h h' _ k e1
section
variable {prog:Program} {w:World} {A:Around} {E:Value->Shared->Prop} {R:Result->Shared->Prop} {s:Shared} {K:Frag} {C fI:Addr} {p:Str}
theorem qF7(T:SupC prog K C fI p)(hp:PName p){x t0:Addr}{v:Value}{mg mb:Str->Option Value}(X:K.In s.heap)(G:s.heap.Ns mainGlobals mg)(B:s.heap.Ns builtinsNs mb)(hB:∀ x:Str,x≠"__name__"->mb x=bootBuiltins x)
  (hlim:s.heap.NoLimit) (hx:s.heap.get? x=some (excO C t0)) (hnx:K.lookup x=none) (hroom:A.depth<recursionLimit)
  (hq:∀ h' tk dx,InitEnd s.heap h' x C dx p v->R (.ok (.ret .none)) { s with heap:=h',toks:=tk }) :
  codeAny (model prog w) A (.call (.ref fI) ⟨[.ref x,v],[]⟩) R s:=by
 obtain ⟨oc,od,osl,fd,a1,a2,q1,q2,q3,q4,q5,q6,q7,q8,q9,q10,cda,cc,ccl,cdd,vs,ccs,file,tf,cl,cld,csl,hf,hcd,hpar,ha1,ha2,hbody,hsc,hgl,hbt,hclo,hdf,hcode,hcda,hvs,hfile,hcell,hq35⟩:=T.fn
 obtain ⟨nm,q,N,bs,bm,sn,sub,ab,col,dd,k0,k1,k2,k3,k5,hC,hbm,hal⟩:=T.cls
 have hcl:clsIn K C=some { name:=nm,bases:=bs,mro := .ref C :: bm,ns:=N,qualname:=q,hasDict:=true,slotNames:=sn,subclasses:=sub,abstract:=ab,collection:=col,hasDel:=false }:=by unfold clsIn;rw [hC] <;> rfl
 obtain ⟨n1,n2,n3,n4,n5,n6,n7,n8,n9,n10,n11,n12,n13,n14,n15⟩:=fd
 obtain ⟨aa1,an1,ap1⟩:=a1
 obtain ⟨aa2,an2,ap2⟩:=a2
 dsimp only at hcd hpar ha1 ha2 hbody hsc hgl hbt hclo hdf hcode
 subst hpar ha1 ha2 hbody hsc hgl hbt hclo hdf hcode
 have e1:¬ aa2=("self":Str):=hp.n1
 have b1:(aa2 == ("self":Str))=false:=by simpa using e1
 have b2:(aa2 == ("__class__":Str))=false:=by simpa using hp.n2
 have b3:(aa2 == ("super":Str))=false:=by simpa using hp.n3
 have b4:(("self":Str) == aa2)=false:=by simpa using Ne.symm e1
 have b5:(("__class__":Str) == aa2)=false:=by simpa using Ne.symm hp.n2
 have b6:(("super":Str) == aa2)=false:=by simpa using Ne.symm hp.n3
 have ls:([(("self":Str),NameKind.local),(aa2,NameKind.local),(("__class__":Str),NameKind.free),(("super":Str),NameKind.globalImplicit)]:List (Str × NameKind)).lookup ("self":Str)=some .local:=by simp [List.lookup]
 have lp:([(("self":Str),NameKind.local),(aa2,NameKind.local),(("__class__":Str),NameKind.free),(("super":Str),NameKind.globalImplicit)]:List (Str × NameKind)).lookup aa2=some .local:=by simp [List.lookup,b1]
 have lc:([(("self":Str),NameKind.local),(aa2,NameKind.local),(("__class__":Str),NameKind.free),(("super":Str),NameKind.globalImplicit)]:List (Str × NameKind)).lookup ("__class__":Str)=some .free:=by
  simp [List.lookup,b5,show (("__class__":Str) == ("self":Str))=false by decide +kernel]
 have lu:([(("self":Str),NameKind.local),(aa2,NameKind.local),(("__class__":Str),NameKind.free),(("super":Str),NameKind.globalImplicit)]:List (Str × NameKind)).lookup ("super":Str)=some .globalImplicit:=by
  simp [List.lookup,b6,show (("super":Str) == ("self":Str))=false by decide +kernel,show (("super":Str) == ("__class__":Str))=false by decide +kernel]
 refine ks_codeAny_call_defAt (binds:=[(("self":Str), .ref x),(aa2,v)]) hroom (X _ _ hf) rfl hlim (codeRec_of X hcd) rfl (BindsTo.of_eq (hp.bnd _ _ _ _ _ _ _ _ _ _ _ _ _ _ _ _ _ _ _)) ?cell ?loc ?body rfl rfl rfl
 case cell=>simp
 case loc=>
  intro y hy
  rcases List.mem_cons.mp hy with rfl | hy
  ·exact ls
  ·rcases List.mem_cons.mp hy with rfl | hy
   ·exact lp
   ·cases hy
 case body=>
  intro h₁ hn k
  have X₁:K.In h₁:=X.keeps k
  have hx₁:=k _ _ hx
  have G₁:h₁.Ns mainGlobals mg:=G.keepsP k
  have B₁:h₁.Ns builtinsNs mb:=B.keepsP k
  have hm1:(λy=>([(("self":Str),Value.ref x),(aa2,v)]:List (Str × Value)).reverse.lookup y) ("self":Str)=some (.ref x):=by simp [List.lookup,b4]
  have hm2:(λy=>([(("self":Str),Value.ref x),(aa2,v)]:List (Str × Value)).reverse.lookup y) aa2=some v:=by simp [List.lookup]
  have hsup:mg "super"=none:=mg_none_of X G T.sup
  have hC1:=X₁ _ _ hC
  refine ks_wpAt_execs_cons (ks_wpAt_Expr_any ?_ rfl rfl)
  refine ks_wpAt_MethodCall ?_ (qEq hq35 rfl)
  refine ks_wpAt_super_base (env:=callEnv _ _ _) lu lc (by decide +kernel) rfl (X₁ _ _ hf) rfl rfl rfl (X₁ _ _ hcda) rfl hvs hfile T.top ?_
  refine ks_loadName_global rfl lu (loadGlobal_builtin (env:=callEnv _ _ _) G₁ hsup B₁ ((hB _ (by decide +kernel)).trans (by decide +kernel)) ⟨rfl, ?_⟩)
  refine wpAny_loadName_free rfl lc rfl ⟨_,X₁ _ _ hcell,rfl⟩ ?_
  refine wpAny_loadName_local rfl ls hn hm1 ?_
  refine ks_wpAny_isType_cls hC1 rfl ⟨rfl, ?_⟩
  refine ks_wpAny_call_super hC1 rfl hx₁ rfl (λc e=>by cases e) (looks_mroIn X₁ T.selfC) (λh₂ e₂ k₂ => ?_)
  have X₂:K.In h₂:=X₁.keeps k₂
  have hx₂:=k₂ _ _ hx₁
  have hC2:=X₂ _ _ hC
  have I₂:InstAt h₂ x (excO C t0) C none:=⟨hx₂,rfl,rfl,trivial⟩
  have hxC:x≠C:=λz=>by rw [z,hC2] at hx₂;cases hx₂
  have hI2:Looks (model prog w) h₂ (isInstance (.ref x) (.type "ValueError")) true:=I₂.type.andThen (looks_subIn X₂ T.veC)
  refine kxs_getMethod kxs_ValueError (l₀ := .ref C :: bm) (l:=bm) e₂ (looks_opaque X₂ T.opq) ((looks_clsIn X₂ hcl).andThen .now) (by simp [List.dropWhile_cons]) X₂ hal hI2 hxC (by decide +kernel) ?_
  dsimp only
  refine kxs_callWith (i:="ValueError.__init__") (x:=x) rfl (evalArgs_plain (spliced_cons ?_))
  have kw:∀ b o,h₂.get? b=some o->(h₂.push (kxs_mw "ValueError.__init__" x)).get? b=some o:=λb o e=>Heap.get?_push_of_some _ e
  have hn₂:(h₂.push (kxs_mw "ValueError.__init__" x)).Ns s.heap.objs.size (λy=>([(("self":Str),Value.ref x),(aa2,v)]:List (Str × Value)).reverse.lookup y):=(hn.keepsP k₂).keepsP kw
  refine wpAny_Name (wpAny_loadName_local rfl lp hn₂ hm2 ?_) hp.n4
  refine spliced_nil ⟨Heap.get?_push_at rfl rfl, ?_⟩
  refine qB2 (x:=x) (t0:=t0) (kw _ _ hC2) (Heap.get?_push_at rfl rfl) (kw _ _ hx₂) (by rw [sizeLine_eq];exact (by decide:1<=16777216)) λh₃ t1 k₃ hx₃ => ?_
  have hsz:s.heap.objs.size≠x:=Nat.ne_of_gt (Heap.lt_size hx)
  have old:∀ b o,b≠x->h₁.get? b=some o->h₃.get? b=some o:=λb o hb e=>k₃ b o hb (kw b o (k₂ b o e))
  have X₃:K.In h₃:=λa o e=>old a o (λz=>by rw [z,hnx] at e;cases e) (X₁ _ _ e)
  have hn₃:h₃.Ns s.heap.objs.size (λy=>([(("self":Str),Value.ref x),(aa2,v)]:List (Str × Value)).reverse.lookup y):=by
   obtain ⟨o,es,ep,ho,r⟩:=hn
   exact ⟨o,es,ep,old _ _ hsz ho,r⟩
  refine ks_wpAt_execs_cons (ks_wpAt_Assign_Attr (wpAt_of_wpAny ?_) rfl)
  refine wpAny_Name (wpAny_loadName_local rfl lp hn₃ hm2 ?_) hp.n4
  refine wpAny_Name (wpAny_loadName_local rfl ls hn₃ hm1 ?_) (by decide +kernel)
  refine set_plain X₃ (ox:=excO C t1) (od:=none) ⟨hx₃,rfl,rfl,trivial⟩ T.sa ?_
  refine exc_osa X₃ hx₃ hcl (show refsVE (.ref C :: bm)=true from hbm) rfl T.no (λh₄ tk₄ dx k₄ dn dne hx₄ hn₄ => ?_)
  refine wpAt_of_wpAny (wpAny_execs_nil (hq h₄ tk₄ dx ⟨λb o hb e=>k₄ b o hb (old b o hb (k b o e)),⟨t1,hx₄⟩,Nat.le_of_lt (Nat.lt_of_lt_of_le hn₃.lt dn),dne,hn₄⟩))
structure OwnMade (h h':Heap) (e C d:Addr) (p:Str) (v:Value):Prop where
 keep:∀ b o,h.get? b=some o->h'.get? b=some o
 new:h.objs.size<=e
 obj:∃ oe vs,h'.get? e=some oe/\oe.cls = .ref C/\oe.dict=some d/\oe.data = .fields vs/\vs[1]?=some .none
 dbig:h.objs.size<=d
 dne:d≠e
 ns:h'.Ns1 d (λy=>if y=p then some v else none)
theorem qIz(T:SupC prog K C fI p)(hp:PName p){v:Value}{mg mb:Str->Option Value}(X:K.In s.heap)(G:s.heap.Ns mainGlobals mg)(B:s.heap.Ns builtinsNs mb)(hB:∀ x:Str,x≠"__name__"->mb x=bootBuiltins x)
  (hlim:s.heap.NoLimit) (hroom:A.depth+1<recursionLimit)
  (hq:∀ h' tk e d,OwnMade s.heap h' e C d p v->R (.ok (.ret (.ref e))) { s with heap:=h',toks:=tk }) :
  codeAny (model prog w) A (.call (.ref C) ⟨[v],[]⟩) R s:=by
 obtain ⟨nm,q,N,bs,bm,sn,sub,ab,col,dd,k0,k1,k2,k3,k5,hC,hbm,_⟩:=T.cls
 obtain ⟨hp',g,dr,tk,os⟩:=s
 have k:∀ b o,hp'.get? b=some o->((hp'.push (kdv_tup [v])).push (excO C hp'.objs.size)).get? b=some o:=λb o e=>Heap.get?_push_of_some _ (Heap.get?_push_of_some _ e)
 have hget:((hp'.push (kdv_tup [v])).push (excO C hp'.objs.size)).get? (hp'.objs.size+1)=some (excO C hp'.objs.size):=by heap_get
 have hnx:K.lookup (hp'.objs.size+1)=none:=by
  cases e:K.lookup (hp'.objs.size+1) with
  | none=>rfl
  | some o=>exact absurd (Nat.lt_of_succ_lt (Heap.lt_size (show hp'.get? (hp'.objs.size+1)=some o from X _ _ e))) (Nat.lt_irrefl _)
 refine call_own F.excBase_ValueError (λX=>refsVE_contains X bm hbm) (X _ _ hC) (looks_findIn X T.ini) (λself=>bind_fn X self T.tfn) (by rw [sizeLine_eq];exact (by decide:1<=16777216)) ?_
 refine qF7 (s:=⟨(hp'.push (kdv_tup [v])).push (excO C hp'.objs.size),g,dr,tk,os⟩) T hp (X.keeps k) (G.keepsP k) (B.keepsP k) hB (hlim.keeps k) hget hnx ?_ λh' tk' dx ⟨k',⟨t1,hx⟩,dn,dne,hns⟩ => ?_
 ·show A.depth+1<recursionLimit
  exact hroom
 ·have old:∀ b o,hp'.get? b=some o->h'.get? b=some o:=λb o e=>k' b o (Nat.ne_of_lt (Nat.lt_succ_of_lt (Heap.lt_size e))) (k b o e)
  have z:hp'.objs.size+1+1<=dx:=by
   have q:=dn
   simp only [Heap.size_push] at q
   exact q
  exact ⟨rfl,hq h' tk' (hp'.objs.size+1) dx ⟨old,Nat.le_succ _,⟨_,_,hx,rfl,rfl,rfl,rfl⟩,(by show hp'.objs.size<=dx;omega),dne,hns⟩⟩
end
end MR
namespace MR
open PySem PySem.Spec PyProof.Rows L2
theorem qD8{p:Str}{v:V}{v':Value}(r:RelV v v')(f:Str):RelO (List.lookup f [(p,v)]) (if f=p then some v' else none):=by
 by_cases hw:f=p
 ·subst hw
  rw [if_pos rfl]
  have q:List.lookup f [(f,v)]=some v:=by simp [List.lookup]
  rw [q]
  exact r
 ·rw [if_neg hw]
  have qw:(f == p)=false:=by simpa using hw
  have q2:List.lookup f [(p,v)]=none:=by simp [List.lookup,qw]
  rw [q2]
  trivial
section
variable {X:Cx} {C fI:Addr} {p:Str}
def qO6(C:Addr)(p:Str)(ta:TA):L2.St->Hp->XK->Prop:=λσ H Q=>ta σ H λvs H1=>∃ v,vs=[v]/\∀ d,H1 d=none->Q (.ref C) (some d) (upd H1 d (.xd [(p,v)]))
theorem qKp{a:Expr}{ta:TA}{x:Str}{p1 pos:Pos}{k:Nat}(T:SupC X.prog X.K C fI p)(hp:PName p)(gC:X.mg x=some (.ref C))(hr:Room k X.A)(ha:PA X [a] ta)(hg:Gl X x:=by rfl)
  (hdb:(x == ("__debug__":Str))=false:=by decide)
  (he:starEach (a :: []) X.env=(false,eval a X.env) :: starEach [] X.env:=by rfl) (hpl:(backTo pos (starEach [] X.env)).any (·.1)=false:=by rfl) :
  PMk X (.Call (.Name x p1) [a] [] pos) (qO6 C p ta):=by
 intro pins s σ H Q I h
 refine wpAny_Call_Name_kw (ld_glob I hg gC ?_ hdb)
 refine PySem.W.callWith_K (h₀:=X.base) I.ok.mod.kin T.kC (thn (ha.run pos pins s σ H _ I h) λus s1 hh => ?_) he hpl
 obtain ⟨vs,H1,I1,r1,v,ev,q1⟩:=hh
 subst ev
 refine ⟨I1.kIn, ?_⟩
 cases r1 with
 | cons rv rn=>
  rename_i v' us'
  cases rn
  show wpAny _ _ (call (.ref C) [v']) _ _ _
  have hlim:=I1.nolimit
  have GG:s1.heap.Ns mainGlobals X.mg:=I1.ok.mod.glob.keepsP I1.bk
  obtain ⟨mb,BB,hB⟩:=I1.ok.mod.blt
  have BB1:s1.heap.Ns builtinsNs mb:=BB.keepsP I1.bk
  obtain ⟨hp',g,dr,tk,os⟩:=s1
  refine wpAny_call (qIz T hp I1.kIn GG BB1 hB hlim (by have:=hr.dp;omega) λh' tk' e d M => ?_)
  show MkP X pins σ Q (.ref e) ⟨h',g,dr,tk',os⟩
  obtain ⟨oe,fv,hoe,hc,hd,hdat,h1⟩:=M.obj
  have hns:=M.ns
  obtain ⟨G',g1,g2⟩:=restrict h' λb=>decide (b≠e)
  have gk:∀ b,b≠e->G'.get? b=h'.get? b:=λb hb=>g1 b (decide_eq_true hb)
  have ge:G'.get? e=none:=g2 e (by simp)
  have old:∀ b o,hp'.get? b=some o->G'.get? b=some o:=λb o q=>(gk b (Nat.ne_of_lt (Nat.lt_of_lt_of_le (Heap.lt_size q) M.new))).trans (M.keep b o q)
  have ob:ObjOk X.prog X.w (upd H1 d (.xd [(p,v)])) G' d (.xd [(p,v)]):=⟨_,hns.at (λo q=>(gk d M.dne).trans q),λf=>qD8 rv f⟩
  have J:Inv X pins σ (upd H1 d (.xd [(p,v)])) ⟨G',g,dr,tk',os⟩:=I1.laid (t':=tk') old M.dbig ob
  refine ⟨e,oe,fv,⟨G',g,dr,tk',os⟩,_, .ref C,some d,rfl,J,λb o q => ?_,ge,hoe,⟨hc,hd⟩,hdat,h1, ?_,rfl,I1.bare,raises_own T.exC T.tyC,q1 d (I1.hok.fresh M.dbig)⟩
  ·by_cases hb:b=e
   ·have q':G'.get? b=some o:=q
    rw [hb,ge] at q';cases q'
   ·exact (gk b hb).symm.trans q
  ·rw [upd_ne (Ne.symm M.dne)]
   exact I1.hok.fresh M.new
def qCs(C:Addr)(p:Str)(W:WX)(ta:TA):TS:=λ_ σ H=>qO6 C p ta σ H λcls d H'=>W cls d σ H'
theorem qEm{a:Expr}{ta:TA}{W:WX}{x:Str}{p1 pos pos2:Pos}{k:Nat}(hc:X.calm=true)(T:SupC X.prog X.K C fI p)(hp:PName p)(gC:X.mg x=some (.ref C))(hr:Room k X.A)(tk:Takes X W)(ha:PA X [a] ta)(hg:Gl X x:=by rfl)
  (hdb:(x == ("__debug__":Str))=false:=by decide)
  (he:starEach (a :: []) X.env=(false,eval a X.env) :: starEach [] X.env:=by rfl) (hpl:(backTo pos (starEach [] X.env)).any (·.1)=false:=by rfl) :
  PS X (.Raise (some (.Call (.Name x p1) [a] [] pos)) none pos2) (qCs C p W ta):=ps_raise hc tk (qKp T hp gC hr ha hg hdb he hpl)
end
end MR
namespace MR
open PySem PySem.W PySem.Calls PyProof.Rows PySem.HandSPX
section
variable {M:Model} {A:Around} {E:Value->Shared->Prop} {h:Heap} {g:Array GenState} {d:Drawn} {t:Nat} {os:OsState}
variable {nm q:Str} {C N:Addr} {bs bm bmB:List Value} {hdct:Bool} {sn:List Str} {sub:List Value} {ab:Bool} {col:Option Bool} {dd:Option Addr} {k0 k1 k2 k3 k5:Option Value} {B newId initId:String}
theorem qIo(F:ExcBaseFacts B newId initId bmB)(hT:∀ X:String,bm.contains (.type X)=bmB.contains (.type X)){kw:List (Str × Value)}{Q:Unit->Shared->Prop}(hC:h.get? C=some (excClassObj nm q C N bs bm hdct sn sub ab col dd k0 k1 k2 k3 k5 newId))(hq:Q () ⟨h,g,d,t,os⟩) :
  wpAny M A (checkBuiltinCall newId ⟨[.ref C],kw⟩) Q E ⟨h,g,d,t,os⟩:=by
 have cB:(Value.ref C :: bm).contains (.type B)=true:=by simp only [List.contains_cons,hT,F.hasB,Bool.or_true]
 have st:=F.noStar
 simp only [checkBuiltinCall,F.newKind,F.newSplit,F.newRow]
 repeat first
  | refine wpAny_loadPart_at hC ?_
  | (refine wpAny_isSubtype_exc hC ?_;simp only [cB])
  | refine wpAny_staticBase_exc hC ?_
  | refine wpAny_madeBy_exc hC ?_
  | simp only [bne_self_eq_false,Bool.false_eq_true,if_false]
  | wp_step
 exact hq
end
section
variable {prog:Program} {w:World} {A:Around} {E:Value->Shared->Prop} {R:Result->Shared->Prop} {h:Heap} {g:Array GenState} {d:Drawn} {t:Nat} {os:OsState}
variable {nm q:Str} {C N:Addr} {bs bm bmB:List Value} {hdct:Bool} {sn:List Str} {sub:List Value} {ab:Bool} {col:Option Bool} {dd:Option Addr} {k0 k1 k2 k3 k5:Option Value} {B newId initId:String}
abbrev kwH(h:Heap)(C:Addr):Heap:=(h.push (kdv_tup [])).push (excO C h.objs.size)
theorem qMx(F:ExcBaseFacts B newId initId bmB)(hT:∀ X:String,bm.contains (.type X)=bmB.contains (.type X)){kw:List (Str × Value)}(hC:h.get? C=some (excClassObj nm q C N bs bm hdct sn sub ab col dd k0 k1 k2 k3 k5 newId))
  (hq:R (.ok (.ret (.ref (h.objs.size+1)))) ⟨kwH h C,g,d,t,os⟩):codeAny (model prog w) A (.builtin newId ⟨[.ref C],kw⟩) R ⟨h,g,d,t,os⟩:=by
 have en:=F.ends
 have cB:(Value.ref C :: bm).contains (.type B)=true:=by simp only [List.contains_cons,hT,F.hasB,Bool.or_true]
 have cA:(Value.ref C :: bm).contains (.type "AttributeError")=false:=by simp only [List.contains_cons,hT,F.noAttr];rfl
 have cN:(Value.ref C :: bm).contains (.type "NameError")=false:=by simp only [List.contains_cons,hT,F.noName];rfl
 refine codeAny_builtinAt F.entry ?_
 unfold Builtin.«BaseException.__new__»
 refine PySem.wpAt_bind ?_
 show PySem.wpAt _ _ _ (stack >>= _) _ _ _
 refine PySem.wpAt_bind (PySem.wpAt_stack λp below=>PySem.wpAt_of_wpAny ?_)
 wp_walk
 refine PySem.wpAt_of_wpAny ?_
 rw [F.owner]
 repeat first
  | with_reducible refine wpAny_madeHere_exc F.canon hC ?_
  | with_reducible refine wpAny_loadPart_at hC ?_
  | (with_reducible refine wpAny_isSubtype_exc hC ?_;first | simp only [cB] | simp only [cA] | simp only [cN])
  | wp_step
 show R _ _
 simp only [Heap.size_push]
 exact hq
theorem qJu(F:ExcBaseFacts B newId initId bmB)(hT:∀ X:String,bm.contains (.type X)=bmB.contains (.type X)){kw:List (Str × Value)}{fI:Addr}{Q:Fin->Shared->Prop}(hC:h.get? C=some (excClassObj nm q C N bs bm hdct sn sub ab col dd k0 k1 k2 k3 k5 newId))
  (hi:Looks (model prog w) h (typeLookup (.ref C) "__init__") (some (.ref fI))) (hb:∀ self,Looks (model prog w) h (bindSpecial (.ref fI) self) (.ref fI,[self]))
  (hq:codeAny (model prog w) A (.call (.ref fI) ⟨[.ref (h.objs.size+1)],kw⟩) (λr s'=>match r with | .ok (.ret v)=>v = .none/\Q (.done (.ret (.ref (h.objs.size+1)))) s' | .ok _=>False | .error e=>E e s') ⟨kwH h C,g,d,t,os⟩) :
  wpAny (model prog w) A (Builtin.«type.__call__» ⟨[.ref C],kw⟩) Q E ⟨h,g,d,t,os⟩:=by
 repeat first
  | with_reducible refine wpAny_loadPart_at hC ?_
  | with_reducible refine wpAny_madeBy_exc hC ?_
  | wp_step
 refine codeAny_call_builtin_code (Code.quiet_builtin _ F.quiet) (qIo F hT hC ?_)
 refine qMx F hT hC ?_
 show wpAny _ _ _ _ _ _
 have k:∀ b o,h.get? b=some o->(kwH h C).get? b=some o:=λb o e=>Heap.get?_push_of_some _ (Heap.get?_push_of_some _ e)
 have hC1:=k _ _ hC
 have ge:(kwH h C).get? (h.objs.size+1)=some (excO C h.objs.size):=by heap_get
 have cC:(Value.ref C :: bm).contains (.ref C)=true:=by simp
 have i1:=hi.keeps k
 have b1:=(hb (.ref (h.objs.size+1))).keeps k
 unfold isInstance
 repeat first
  | with_reducible refine wpAny_loadPart_at ge ?_
  | (with_reducible refine wpAny_isSubtype_exc hC1 ?_;simp only [cC])
  | wp_step
 show wpAny _ _ (typeLookup (.ref C) _) _ _ _
 refine i1.at (wpAny_holding (wpAny_bind (b1.at ?_)))
 refine wpAny_bind (wpAny_call (codeAny_mono hq λr s' z => ?_))
 rcases r with e | (v | _ | _ | _) <;> first | exact z | exact z.elim | skip
 obtain ⟨rfl,z⟩:=z
 first
  | exact wpAny_pure (wpAny_pure z)
  | (wp_walk;exact z)
theorem qG4(F:ExcBaseFacts B newId initId bmB)(hT:∀ X:String,bm.contains (.type X)=bmB.contains (.type X)){kw:List (Str × Value)}{fI:Addr}(hC:h.get? C=some (excClassObj nm q C N bs bm hdct sn sub ab col dd k0 k1 k2 k3 k5 newId))
  (hi:Looks (model prog w) h (typeLookup (.ref C) "__init__") (some (.ref fI))) (hb:∀ self,Looks (model prog w) h (bindSpecial (.ref fI) self) (.ref fI,[self]))
  (hq:codeAny (model prog w) (A.under (.builtin "type.__call__" ⟨[.ref C],kw⟩)) (.call (.ref fI) ⟨[.ref (h.objs.size+1)],kw⟩) (InitBack (h.objs.size+1) R) ⟨kwH h C,g,d,t,os⟩) :
  codeAny (model prog w) A (.call (.ref C) ⟨[],kw⟩) R ⟨h,g,d,t,os⟩:=by
 have f1:=tc_lookup
 have f2:=tc_bind (.ref C)
 have ty:(⟨h,g,d,t,os⟩:Shared).TypeIs (.ref C) "type":=⟨_,hC,rfl⟩
 refine codeAny_of_tree ?_
 show wpAny _ _ (callAny (.ref C) _) _ _ _
 repeat any_goals first
  | assumption
  | with_reducible refine wpAny_loadPart_at hC ?_
  | wp_step
 refine ⟨rfl,codeAny_call_builtin_at (Code.quiet_builtin _ (by decide +kernel)) entry_typeCall (wpAny_check_type_call_sub hC (qJu F hT hC hi hb ?_))⟩
 exact codeAny_mono hq λr s' z=>by rcases r with e | (v | _ | _ | _) <;> exact z
end
structure SupC2 (prog:Program) (K:Frag) (C fI:Addr):Prop where
 cls:∃ nm q N bs bm sn sub ab col dd k0 k1 k2 k3 k5,K.lookup C=some (excClassObj nm q C N bs bm true sn sub ab col dd k0 k1 k2 k3 k5 "ValueError.__new__")/\refsVE bm=true/\
  alongIn K "__init__" bm=some (some (.builtin "ValueError.__init__"))
 sa:findIn K (.ref C) "__setattr__"=some (some (.builtin "object.__setattr__"))
 no:findIn K (.ref C) "low"=some none
 no2:findIn K (.ref C) "high"=some none
 ini:findIn K (.ref C) "__init__"=some (some (.ref fI))
 tfn:typeIn K (.ref fI)=some (.type "function")
 kC:keepIn K (.ref C)=true
 exC:subIn K (.ref C) (.type "BaseException")=some true
 veC:subIn K (.ref C) (.type "ValueError")=some true
 tyC:typeIn K (.ref C)=some (.type "type")
 selfC:mroIn K C (.ref C)=some true
 opq:nsIn K cStatics "thirdparty.any"=some none
 sup:nsIn K mainGlobals "super"=some none
 top:(prog.main.scope.names.lookup ("super":Str)).isSome=false
 fn:∃ (oc:Value) (od:Option Addr) (osl:Array (Option Value)) (fd:FuncData) (a1 a2 a3:Arg) (q1 q2 q3 q4 r4 q5 q6 q7 q8 q9 q10 r7 r8 r9 r10:Pos) (cda cc:Addr) (ccl:Value) (cdd:Option Addr) (vs:Array Value) (ccs:Array (Option Value)) (file:Str) (tf:Tok) (cl:Value) (cld:Option Addr) (csl:Array (Option Value)),
  K.lookup fI=some ⟨oc,od, .func fd,osl⟩/\codeIn K fd.code fd.qualname=true/\
  fd.params = { posonlyargs:=[],args:=[a1,a2,a3],vararg:=none,kwonlyargs:=[],kw_defaults:=[],kwarg:=none,defaults:=[] }/\a1.arg="self"/\a2.arg="low"/\a3.arg="high"/\
  fd.body = .stmts [.Expr (.Call (.Attribute (.Call (.Name "super" q1) [] [] q2) "__init__" q3) [.Name "low" q4, .Name "high" r4] [] q5) q6, .Assign [.Attribute (.Name "self" q7) "low" q8] (.Name "low" q9) q10, .Assign [.Attribute (.Name "self" r7) "high" r8] (.Name "high" r9) r10]/\
  fd.scope = { kind := .function,names:=[("self", .local),("low", .local),("high", .local),("__class__", .free),("super", .globalImplicit)],isGenerator:=false,isCoroutine:=false,more:=[] }/\
  fd.globals=mainGlobals/\fd.builtins=builtinsNs/\fd.closure=[(("__class__":Str),cc)]/\fd.defaults = .none/\fd.code = .ref cda/\
  K.lookup cda=some ⟨ccl,cdd, .fields vs,ccs⟩/\vs[2]?=some (.str file tf)/\((prog.main.file:Str) == file)=true/\
  K.lookup cc=some ⟨cl,cld, .cell (some (.ref C)),csl⟩/\(q3.endLine == q5.line)=true
structure InitEnd2 (h h':Heap) (x C dx:Addr) (v1 v2:Value):Prop where
 keep:∀ b o,b≠x->h.get? b=some o->h'.get? b=some o
 obj:∃ t1,h'.get? x=some { cls := .ref C,dict:=some dx,data := .fields #[.ref t1, .none, .none, .none, .bool false, .none] }
 dbig:h.objs.size<=dx
 dne:dx≠x
 ns:h'.Ns1 dx (λy=>if y="high" then some v2 else if y="low" then some v1 else none)
theorem qDq{o:Expr}{name:Str}{apos pos:Pos}{env:Env}{a b:Expr}(h:(apos.endLine == pos.line)=true)(hs:starEach [a,b] env=[(false,eval a env),(false,eval b env)]) :
  eval (.Call (.Attribute o name apos) [a,b] [] pos) env=(do
   let ov ←attributeBase o name env (eval o env)
   standAt apos.atName
   let (f,first) ←holding [ov] (getMethod ov name (do return (<-importBound o env).getD true))
   callWith pos f first (backTo pos (starEach [a,b] env)) []):=by
 have e0:eval (.Call (.Attribute o name apos) [a,b] [] pos) env=(do
   let ov ←attributeBase o name env (eval o env)
   standAt apos.atName
   methodCall o name apos pos env ov 2 (backTo pos (starEach [a,b] env)) []):=rfl
 have e1:methodCallPos true o env apos pos=pure pos:=by
  unfold methodCallPos
  rw [h]
  rfl
 have e2:methodCallForm 2 (backTo pos (starEach [a,b] env)) []=true:=by rw [hs];rfl
 rw [e0]
 unfold methodCall
 rw [e2]
 simp only [e1,pure_bind]
 rfl
section
variable {prog:Program} {w:World} {A:Around} {E:Value->Shared->Prop} {R:Result->Shared->Prop} {s:Shared} {K:Frag} {C fI:Addr}
theorem qE3(T:SupC2 prog K C fI){x t0:Addr}{v1 v2:Value}{mg mb:Str->Option Value}(X:K.In s.heap)(G:s.heap.Ns mainGlobals mg)(B:s.heap.Ns builtinsNs mb)(hB:∀ x:Str,x≠"__name__"->mb x=bootBuiltins x)
  (hlim:s.heap.NoLimit) (hx:s.heap.get? x=some (excO C t0)) (hnx:K.lookup x=none) (hroom:A.depth<recursionLimit)
  (hq:∀ h' tk dx,InitEnd2 s.heap h' x C dx v1 v2->R (.ok (.ret .none)) { s with heap:=h',toks:=tk }) :
  codeAny (model prog w) A (.call (.ref fI) ⟨[.ref x,v1,v2],[]⟩) R s:=by
 obtain ⟨oc,od,osl,fd,a1,a2,a3,q1,q2,q3,q4,r4,q5,q6,q7,q8,q9,q10,r7,r8,r9,r10,cda,cc,ccl,cdd,vs,ccs,file,tf,cl,cld,csl,hf,hcd,hpar,ha1,ha2,ha3,hbody,hsc,hgl,hbt,hclo,hdf,hcode,hcda,hvs,hfile,hcell,hq35⟩:=T.fn
 obtain ⟨nm,q,N,bs,bm,sn,sub,ab,col,dd,k0,k1,k2,k3,k5,hC,hbm,hal⟩:=T.cls
 have hcl:clsIn K C=some { name:=nm,bases:=bs,mro := .ref C :: bm,ns:=N,qualname:=q,hasDict:=true,slotNames:=sn,subclasses:=sub,abstract:=ab,collection:=col,hasDel:=false }:=by unfold clsIn;rw [hC] <;> rfl
 obtain ⟨n1,n2,n3,n4,n5,n6,n7,n8,n9,n10,n11,n12,n13,n14,n15⟩:=fd
 obtain ⟨aa1,an1,ap1⟩:=a1
 obtain ⟨aa2,an2,ap2⟩:=a2
 obtain ⟨aa3,an3,ap3⟩:=a3
 dsimp only at hcd hpar ha1 ha2 ha3 hbody hsc hgl hbt hclo hdf hcode
 subst hpar ha1 ha2 ha3 hbody hsc hgl hbt hclo hdf hcode
 have ls:([(("self":Str),NameKind.local),(("low":Str),NameKind.local),(("high":Str),NameKind.local),(("__class__":Str),NameKind.free),(("super":Str),NameKind.globalImplicit)]:List (Str × NameKind)).lookup ("self":Str)=some .local:=by decide +kernel
 have lp:([(("self":Str),NameKind.local),(("low":Str),NameKind.local),(("high":Str),NameKind.local),(("__class__":Str),NameKind.free),(("super":Str),NameKind.globalImplicit)]:List (Str × NameKind)).lookup ("low":Str)=some .local:=by decide +kernel
 have lq:([(("self":Str),NameKind.local),(("low":Str),NameKind.local),(("high":Str),NameKind.local),(("__class__":Str),NameKind.free),(("super":Str),NameKind.globalImplicit)]:List (Str × NameKind)).lookup ("high":Str)=some .local:=by decide +kernel
 have lc:([(("self":Str),NameKind.local),(("low":Str),NameKind.local),(("high":Str),NameKind.local),(("__class__":Str),NameKind.free),(("super":Str),NameKind.globalImplicit)]:List (Str × NameKind)).lookup ("__class__":Str)=some .free:=by decide +kernel
 have lu:([(("self":Str),NameKind.local),(("low":Str),NameKind.local),(("high":Str),NameKind.local),(("__class__":Str),NameKind.free),(("super":Str),NameKind.globalImplicit)]:List (Str × NameKind)).lookup ("super":Str)=some .globalImplicit:=by decide +kernel
 refine ks_codeAny_call_defAt (binds:=[(("self":Str), .ref x),(("low":Str),v1),(("high":Str),v2)]) hroom (X _ _ hf) rfl hlim (codeRec_of X hcd) rfl (BindsTo.of_eq rfl) ?cell ?loc ?body rfl rfl rfl
 case cell=>simp
 case loc=>
  intro y hy
  rcases List.mem_cons.mp hy with rfl | hy
  ·exact ls
  ·rcases List.mem_cons.mp hy with rfl | hy
   ·exact lp
   ·rcases List.mem_cons.mp hy with rfl | hy
    ·exact lq
    ·cases hy
 case body=>
  intro h₁ hn k
  have X₁:K.In h₁:=X.keeps k
  have hx₁:=k _ _ hx
  have G₁:h₁.Ns mainGlobals mg:=G.keepsP k
  have B₁:h₁.Ns builtinsNs mb:=B.keepsP k
  have hm1:(λy=>([(("self":Str),Value.ref x),(("low":Str),v1),(("high":Str),v2)]:List (Str × Value)).reverse.lookup y) ("self":Str)=some (.ref x):=rfl
  have hm2:(λy=>([(("self":Str),Value.ref x),(("low":Str),v1),(("high":Str),v2)]:List (Str × Value)).reverse.lookup y) ("low":Str)=some v1:=rfl
  have hm3:(λy=>([(("self":Str),Value.ref x),(("low":Str),v1),(("high":Str),v2)]:List (Str × Value)).reverse.lookup y) ("high":Str)=some v2:=rfl
  have hsup:mg "super"=none:=mg_none_of X G T.sup
  have hC1:=X₁ _ _ hC
  refine ks_wpAt_execs_cons (ks_wpAt_Expr_any ?_ rfl rfl)
  refine ks_wpAt_MethodCall ?_ (qDq hq35 rfl)
  refine ks_wpAt_super_base (env:=callEnv _ _ _) lu lc (by decide +kernel) rfl (X₁ _ _ hf) rfl rfl rfl (X₁ _ _ hcda) rfl hvs hfile T.top ?_
  refine ks_loadName_global rfl lu (loadGlobal_builtin (env:=callEnv _ _ _) G₁ hsup B₁ ((hB _ (by decide +kernel)).trans (by decide +kernel)) ⟨rfl, ?_⟩)
  refine wpAny_loadName_free rfl lc rfl ⟨_,X₁ _ _ hcell,rfl⟩ ?_
  refine wpAny_loadName_local rfl ls hn hm1 ?_
  refine ks_wpAny_isType_cls hC1 rfl ⟨rfl, ?_⟩
  refine ks_wpAny_call_super hC1 rfl hx₁ rfl (λc e=>by cases e) (looks_mroIn X₁ T.selfC) (λh₂ e₂ k₂ => ?_)
  have X₂:K.In h₂:=X₁.keeps k₂
  have hx₂:=k₂ _ _ hx₁
  have hC2:=X₂ _ _ hC
  have I₂:InstAt h₂ x (excO C t0) C none:=⟨hx₂,rfl,rfl,trivial⟩
  have hxC:x≠C:=λz=>by rw [z,hC2] at hx₂;cases hx₂
  have hI2:Looks (model prog w) h₂ (isInstance (.ref x) (.type "ValueError")) true:=I₂.type.andThen (looks_subIn X₂ T.veC)
  refine kxs_getMethod kxs_ValueError (l₀ := .ref C :: bm) (l:=bm) e₂ (looks_opaque X₂ T.opq) ((looks_clsIn X₂ hcl).andThen .now) (by simp [List.dropWhile_cons]) X₂ hal hI2 hxC (by decide +kernel) ?_
  dsimp only
  refine kxs_callWith (i:="ValueError.__init__") (x:=x) rfl (evalArgs_plain (spliced_cons ?_))
  have kw:∀ b o,h₂.get? b=some o->(h₂.push (kxs_mw "ValueError.__init__" x)).get? b=some o:=λb o e=>Heap.get?_push_of_some _ e
  have hn₂:(h₂.push (kxs_mw "ValueError.__init__" x)).Ns s.heap.objs.size (λy=>([(("self":Str),Value.ref x),(("low":Str),v1),(("high":Str),v2)]:List (Str × Value)).reverse.lookup y):=(hn.keepsP k₂).keepsP kw
  refine wpAny_Name (wpAny_loadName_local rfl lp hn₂ hm2 ?_) (by decide +kernel)
  refine spliced_cons ?_
  refine wpAny_Name (wpAny_loadName_local rfl lq hn₂ hm3 ?_) (by decide +kernel)
  refine spliced_nil ⟨Heap.get?_push_at rfl rfl, ?_⟩
  refine qB2 (x:=x) (t0:=t0) (kw _ _ hC2) (Heap.get?_push_at rfl rfl) (kw _ _ hx₂) (by rw [sizeLine_eq];exact (by decide:2<=16777216)) λh₃ t1 k₃ hx₃ => ?_
  have hsz:s.heap.objs.size≠x:=Nat.ne_of_gt (Heap.lt_size hx)
  have old:∀ b o,b≠x->h₁.get? b=some o->h₃.get? b=some o:=λb o hb e=>k₃ b o hb (kw b o (k₂ b o e))
  have X₃:K.In h₃:=λa o e=>old a o (λz=>by rw [z,hnx] at e;cases e) (X₁ _ _ e)
  have hn₃:h₃.Ns s.heap.objs.size (λy=>([(("self":Str),Value.ref x),(("low":Str),v1),(("high":Str),v2)]:List (Str × Value)).reverse.lookup y):=by
   obtain ⟨o,es,ep,ho,r⟩:=hn
   exact ⟨o,es,ep,old _ _ hsz ho,r⟩
  refine ks_wpAt_execs_cons (ks_wpAt_Assign_Attr (wpAt_of_wpAny ?_) rfl)
  refine wpAny_Name (wpAny_loadName_local rfl lp hn₃ hm2 ?_) (by decide +kernel)
  refine wpAny_Name (wpAny_loadName_local rfl ls hn₃ hm1 ?_) (by decide +kernel)
  refine set_plain X₃ (ox:=excO C t1) (od:=none) ⟨hx₃,rfl,rfl,trivial⟩ T.sa ?_
  refine exc_osa X₃ hx₃ hcl (show refsVE (.ref C :: bm)=true from hbm) rfl T.no (λh₄ tk₄ dx k₄ dn dne hx₄ hn₄ => ?_)
  have old4:∀ b o,b≠x->h₁.get? b=some o->h₄.get? b=some o:=λb o hb e=>k₄ b o hb (old b o hb e)
  have X₄:K.In h₄:=λa o e=>k₄ a o (λz=>by rw [z,hnx] at e;cases e) (X₃ _ _ e)
  have hn₅:h₄.Ns s.heap.objs.size (λy=>([(("self":Str),Value.ref x),(("low":Str),v1),(("high":Str),v2)]:List (Str × Value)).reverse.lookup y):=by
   obtain ⟨o,es,ep,ho,r⟩:=hn₃
   exact ⟨o,es,ep,k₄ _ _ hsz ho,r⟩
  obtain ⟨oD,esD,epD,hoD,hdD,_⟩:=hn₄.count (Within.cons "low" v1 Within.nil)
  refine ks_wpAt_execs_cons (ks_wpAt_Assign_Attr (wpAt_of_wpAny ?_) rfl)
  refine wpAny_Name (wpAny_loadName_local rfl lq hn₅ hm3 ?_) (by decide +kernel)
  refine wpAny_Name (wpAny_loadName_local rfl ls hn₅ hm1 ?_) (by decide +kernel)
  refine set_plain X₄ (ox := { cls := .ref C,dict:=some dx,data := .fields #[.ref t1, .none, .none, .none, .bool false, .none] }) (od:=some oD) ⟨hx₄,rfl,rfl,hoD⟩ T.sa ?_
  refine PySem.OEX.osa_old X₄ hx₄ hn₄ (Within.cons "low" v1 Within.nil) (by decide) hcl (show refsVE (.ref C :: bm)=true from hbm) rfl T.no2 (λh₅ tk₅ k₅ hn₆ => ?_)
  have bd:s.heap.objs.size<=dx:=Nat.le_of_lt (Nat.lt_of_lt_of_le hn₃.lt dn)
  refine wpAt_of_wpAny (wpAny_execs_nil (hq h₅ tk₅ dx ⟨λb o hb e=>k₅ b o (λz=>absurd (Heap.lt_size e) (Nat.not_lt.mpr (by rw [z];exact bd))) (old4 b o hb (k b o e)),⟨t1,k₅ x _ dne.symm hx₄⟩,bd,dne,hn₆⟩))
structure OwnMade2 (h h':Heap) (e C d:Addr) (v1 v2:Value):Prop where
 keep:∀ b o,h.get? b=some o->h'.get? b=some o
 new:h.objs.size<=e
 obj:∃ oe vs,h'.get? e=some oe/\oe.cls = .ref C/\oe.dict=some d/\oe.data = .fields vs/\vs[1]?=some .none
 dbig:h.objs.size<=d
 dne:d≠e
 ns:h'.Ns1 d (λy=>if y="high" then some v2 else if y="low" then some v1 else none)
theorem qGu(T:SupC2 prog K C fI){v1 v2:Value}{mg mb:Str->Option Value}(X:K.In s.heap)(G:s.heap.Ns mainGlobals mg)(B:s.heap.Ns builtinsNs mb)(hB:∀ x:Str,x≠"__name__"->mb x=bootBuiltins x)
  (hlim:s.heap.NoLimit) (hroom:A.depth+1<recursionLimit)
  (hq:∀ h' tk e d,OwnMade2 s.heap h' e C d v1 v2->R (.ok (.ret (.ref e))) { s with heap:=h',toks:=tk }) :
  codeAny (model prog w) A (.call (.ref C) ⟨[v1,v2],[]⟩) R s:=by
 obtain ⟨nm,q,N,bs,bm,sn,sub,ab,col,dd,k0,k1,k2,k3,k5,hC,hbm,_⟩:=T.cls
 obtain ⟨hp',g,dr,tk,os⟩:=s
 have k:∀ b o,hp'.get? b=some o->((hp'.push (kdv_tup [v1,v2])).push (excO C hp'.objs.size)).get? b=some o:=λb o e=>Heap.get?_push_of_some _ (Heap.get?_push_of_some _ e)
 have hget:((hp'.push (kdv_tup [v1,v2])).push (excO C hp'.objs.size)).get? (hp'.objs.size+1)=some (excO C hp'.objs.size):=by heap_get
 have hnx:K.lookup (hp'.objs.size+1)=none:=by
  cases e:K.lookup (hp'.objs.size+1) with
  | none=>rfl
  | some o=>exact absurd (Nat.lt_of_succ_lt (Heap.lt_size (show hp'.get? (hp'.objs.size+1)=some o from X _ _ e))) (Nat.lt_irrefl _)
 refine call_own F.excBase_ValueError (λX=>refsVE_contains X bm hbm) (X _ _ hC) (looks_findIn X T.ini) (λself=>bind_fn X self T.tfn) (by rw [sizeLine_eq];exact (by decide:2<=16777216)) ?_
 refine qE3 (s:=⟨(hp'.push (kdv_tup [v1,v2])).push (excO C hp'.objs.size),g,dr,tk,os⟩) T (X.keeps k) (G.keepsP k) (B.keepsP k) hB (hlim.keeps k) hget hnx ?_ λh' tk' dx ⟨k',⟨t1,hx⟩,dn,dne,hns⟩ => ?_
 ·show A.depth+1<recursionLimit
  exact hroom
 ·have old:∀ b o,hp'.get? b=some o->h'.get? b=some o:=λb o e=>k' b o (Nat.ne_of_lt (Nat.lt_succ_of_lt (Heap.lt_size e))) (k b o e)
  have z:hp'.objs.size+1+1<=dx:=by
   have q:=dn
   simp only [Heap.size_push] at q
   exact q
  exact ⟨rfl,hq h' tk' (hp'.objs.size+1) dx ⟨old,Nat.le_succ _,⟨_,_,hx,rfl,rfl,rfl,rfl⟩,(by show hp'.objs.size<=dx;omega),dne,hns⟩⟩
end
end MR
namespace MR
open PySem PySem.Spec PyProof.Rows L2
theorem qD9{v1 v2:V}{w1 w2:Value}(r1:RelV v1 w1)(r2:RelV v2 w2)(f:Str):RelO (List.lookup f [(("high":Str),v2),(("low":Str),v1)]) (if f="high" then some w2 else if f="low" then some w1 else none):=by
 by_cases h:f="high"
 ·subst h
  rw [if_pos rfl]
  exact r2
 ·rw [if_neg h]
  have qw:(f == ("high":Str))=false:=by simpa using h
  by_cases h2:f="low"
  ·subst h2
   rw [if_pos rfl]
   exact r1
  ·rw [if_neg h2]
   have qw2:(f == ("low":Str))=false:=by simpa using h2
   have q:List.lookup f [(("high":Str),v2),(("low":Str),v1)]=none:=by simp [List.lookup,qw,qw2]
   rw [q]
   trivial
section
variable {X:Cx} {C fI:Addr}
def qLc(C:Addr)(ta:TA):L2.St->Hp->XK->Prop:=λσ H Q=>ta σ H λvs H1=>∃ v1 v2,vs=[v1,v2]/\∀ d,H1 d=none->Q (.ref C) (some d) (upd H1 d (.xd [("high",v2),("low",v1)]))
theorem qIg{a b:Expr}{ta:TA}{x:Str}{p1 pos:Pos}{k:Nat}(T:SupC2 X.prog X.K C fI)(gC:X.mg x=some (.ref C))(hr:Room k X.A)(ha:PA X [a,b] ta)(hg:Gl X x:=by rfl)
  (hdb:(x == ("__debug__":Str))=false:=by decide)
  (he:starEach (a :: [b]) X.env=(false,eval a X.env) :: starEach [b] X.env:=by rfl) (hpl:(backTo pos (starEach [b] X.env)).any (·.1)=false:=by rfl) :
  PMk X (.Call (.Name x p1) [a,b] [] pos) (qLc C ta):=by
 intro pins s σ H Q I h
 refine wpAny_Call_Name_kw (ld_glob I hg gC ?_ hdb)
 refine PySem.W.callWith_K (h₀:=X.base) I.ok.mod.kin T.kC (thn (ha.run pos pins s σ H _ I h) λus s1 hh => ?_) he hpl
 obtain ⟨vs,H1,I1,r1,v1,v2,ev,q1⟩:=hh
 subst ev
 refine ⟨I1.kIn, ?_⟩
 cases r1 with
 | cons rv rn=>
  rename_i w1 us'
  cases rn with
  | cons rv2 rn=>
  rename_i w2 us''
  cases rn
  show wpAny _ _ (call (.ref C) [w1,w2]) _ _ _
  have hlim:=I1.nolimit
  have GG:s1.heap.Ns mainGlobals X.mg:=I1.ok.mod.glob.keepsP I1.bk
  obtain ⟨mb,BB,hB⟩:=I1.ok.mod.blt
  have BB1:s1.heap.Ns builtinsNs mb:=BB.keepsP I1.bk
  obtain ⟨hp',g,dr,tk,os⟩:=s1
  refine wpAny_call (qGu T I1.kIn GG BB1 hB hlim (by have:=hr.dp;omega) λh' tk' e d M => ?_)
  show MkP X pins σ Q (.ref e) ⟨h',g,dr,tk',os⟩
  obtain ⟨oe,fv,hoe,hc,hd,hdat,h1⟩:=M.obj
  have hns:=M.ns
  obtain ⟨G',g1,g2⟩:=restrict h' λb=>decide (b≠e)
  have gk:∀ b,b≠e->G'.get? b=h'.get? b:=λb hb=>g1 b (decide_eq_true hb)
  have ge:G'.get? e=none:=g2 e (by simp)
  have old:∀ b o,hp'.get? b=some o->G'.get? b=some o:=λb o q=>(gk b (Nat.ne_of_lt (Nat.lt_of_lt_of_le (Heap.lt_size q) M.new))).trans (M.keep b o q)
  have ob:ObjOk X.prog X.w (upd H1 d (.xd [("high",v2),("low",v1)])) G' d (.xd [("high",v2),("low",v1)]):=⟨_,hns.at (λo q=>(gk d M.dne).trans q),λf=>qD9 rv rv2 f⟩
  have J:Inv X pins σ (upd H1 d (.xd [("high",v2),("low",v1)])) ⟨G',g,dr,tk',os⟩:=I1.laid (t':=tk') old M.dbig ob
  refine ⟨e,oe,fv,⟨G',g,dr,tk',os⟩,_, .ref C,some d,rfl,J,λb o q => ?_,ge,hoe,⟨hc,hd⟩,hdat,h1, ?_,rfl,I1.bare,raises_own T.exC T.tyC,q1 d (I1.hok.fresh M.dbig)⟩
  ·by_cases hb:b=e
   ·have q':G'.get? b=some o:=q
    rw [hb,ge] at q';cases q'
   ·exact (gk b hb).symm.trans q
  ·rw [upd_ne (Ne.symm M.dne)]
   exact I1.hok.fresh M.new
def qC3(C:Addr)(W:WX)(ta:TA):TS:=λ_ σ H=>qLc C ta σ H λcls d H'=>W cls d σ H'
theorem qGg{a b:Expr}{ta:TA}{W:WX}{x:Str}{p1 pos pos2:Pos}{k:Nat}(hc:X.calm=true)(T:SupC2 X.prog X.K C fI)(gC:X.mg x=some (.ref C))(hr:Room k X.A)(tk:Takes X W)(ha:PA X [a,b] ta)(hg:Gl X x:=by rfl)
  (hdb:(x == ("__debug__":Str))=false:=by decide)
  (he:starEach (a :: [b]) X.env=(false,eval a X.env) :: starEach [b] X.env:=by rfl) (hpl:(backTo pos (starEach [b] X.env)).any (·.1)=false:=by rfl) :
  PS X (.Raise (some (.Call (.Name x p1) [a,b] [] pos)) none pos2) (qC3 C W ta):=ps_raise hc tk (qIg T gC hr ha hg hdb he hpl)
end
abbrev CXX(P:Program)(w:World):CXT:=L2.CX P w
def qGa(P:Program)(w:World)(K:W.Frag)(mg:Str->Option Value)(base:Heap)(k:Nat)(x:Str)(dvs:List V)(sp:Sp):Prop:=
 ∃ (f:Addr) (fd:FuncData) (ps:List Str) (ds:List Value),mg x=some (.ref f)/\PySem.W.keepIn K (.ref f)=true/\FnOk P w K mg base (CXX P w) k f fd ps sp/\Binds K fd ps ds/\Vals dvs ds
section
variable {X:Cx} {k:Nat} {C:Addr} {sp:Sp} {dvs:List V} {E:XK} {x m:Str} {p pos apos:Pos} {e o:Expr} {es:List Expr} {ta:TE} {t:TA}
theorem qCk(D:qGa X.prog X.w X.K X.mg X.base k x dvs sp)(hr:Room k X.A)(hg:Gl X x)(hx:Passes (CXX X.prog X.w) X E)
  (ha:PA X (e :: es) t) (hdb:(x == ("__debug__":Str))=false:=by decide) (he:starEach (e :: es) X.env=(false,eval e X.env) :: starEach es X.env:=by rfl) (hpl:(backTo pos (starEach es X.env)).any (·.1)=false:=by rfl) :
  PE X (.Call (.Name x p) (e :: es) [] pos) (tCall sp dvs E t):=by
 obtain ⟨f,fd,ps,ds,h1,h2,h3,h4,h5⟩:=D
 exact pe_call h3 hr hg h1 h2 h4 h5 hx ha hdb he hpl
end
def Sml(_:Int):Prop:=True
instance {b:Int}:Decidable (Sml b) := .isTrue trivial
def qIu(_ j:Int):Prop:=j≠0
theorem cdiv{i j:Int}(h:j≠0):qIu i j:=h
abbrev qGh:R2:=rI0 λi j => .int (i+j)
abbrev qMq:R2:=rI0 λi j => .int (i - j)
abbrev qFi:R2:=rI IntMulOk λi j => .int (i*j)
abbrev qIk:R2:=rI qIu λi j => .int (i.fdiv j)
abbrev qDi:R2:=rI (λ_ j=>j≠0) λi j => .int (i.fmod j)
abbrev qGz:R2:=rI CPow λi j => .int (i ^ j.toNat)
abbrev qOz:R2:=rI0 λi j => .bl (decide (i<j))
abbrev qOu:R2:=rI0 λi j => .bl (decide (j<i))
abbrev qOx:R2:=rI0 λi j => .bl (decide (j<=i))
abbrev qLk:V->Hp->VK->Prop:=rU λi => .int (-i)
abbrev qCz:List V->Hp->VK->Prop:=λxs H Q=>(∃ i,xs=[.int i]/\Q (.int i) H)\/∃ k,xs=[.bl k]/\Q (.int (if k then 1 else 0)) H
abbrev qIq(K:W.Frag):List V->Hp->VK->Prop:=λxs H Q=>∃ x n,xs=[x]/\LenV K x H n/\Q (.int n) H
theorem qC7{X:Cx}:OpR X (binaryOp .Mult) qFi:=opI λ_ _ _ _ _ _ _ hc q=>mul_int q hc
theorem qMg{i j:Int}{a b:Nat}(ha:i.natAbs<2 ^ a)(hb:j.natAbs<2 ^ b)(h0:0<a)(h1:0<b)(h:a+b<=1000000):IntMulOk i j:=(wide_mul ha hb h0 h1 h).ok
theorem qI3{H:Hp}{p:Addr}{o:HO}(h:H p=none):Same H (upd H p o):=λb u e=>by
 rw [upd_ne (ne_of_none e h)]
 exact e
def Keep(f:Addr)(H H':Hp):Prop:=∀ b o,H b=some o->b≠f->H' b=some o
theorem Keep.refl(f:Addr)(H:Hp):Keep f H H:=λ_ _ h _=>h
theorem Keep.trans{f:Addr}{H H1 H2:Hp}(a:Keep f H H1)(b:Keep f H1 H2):Keep f H H2:=λc o h n=>b c o (a c o h n) n
theorem Same.keep{f:Addr}{H H1:Hp}(a:Same H H1):Keep f H H1:=λc o h _=>a c o h
theorem qFz{f:Addr}{H:Hp}{o:HO}:Keep f H (upd H f o):=λb u e n=>by rw [upd_ne n];exact e
end MR
namespace MR
theorem qCx{a b:Int}(hb:b≠0):∃ m:Int,m≠0/\a=(Rat.divInt a b).num*m/\b=((Rat.divInt a b).den:Int)*m:=by
 obtain ⟨m,h1,h2,h3⟩:=Rat.divInt_num_den (n:=a) (d:=b) (n':=(Rat.divInt a b).num) (d':=(Rat.divInt a b).den) (z':=(Rat.divInt a b).den_nz) (c:=(Rat.divInt a b).reduced) hb rfl
 exact ⟨m,h1,h2,h3⟩
theorem qMj{a b:Int}(hb:b≠0):(Rat.divInt a b).num.natAbs<=a.natAbs:=by
 obtain ⟨m,h1,h2,_⟩:=qCx (a:=a) hb
 have e:a.natAbs=(Rat.divInt a b).num.natAbs*m.natAbs:=by
  rw [<-Int.natAbs_mul, ←h2]
 rw [e]
 exact Nat.le_mul_of_pos_right _ (by omega)
theorem qLx{a b:Int}(hb:b≠0):(Rat.divInt a b).den<=b.natAbs:=by
 obtain ⟨m,h1,_,h3⟩:=qCx (a:=a) hb
 have e:b.natAbs=((Rat.divInt a b).den:Int).natAbs*m.natAbs:=by
  rw [<-Int.natAbs_mul, ←h3]
 rw [e,Int.natAbs_natCast]
 exact Nat.le_mul_of_pos_right _ (by omega)
end MR
namespace MR
open PySem PySem.Spec PyProof.Rows L2
def IntQ(K:W.Frag)(H:Hp)(x:V)(b:Bool):Prop:=∃ (t:Value) (b1:Bool),TyX K H x t/\PySem.W.kitOne K t (.type "int")=some b1/\(b1=false->b=false)/\(b1=true->∃ b2,PySem.W.kitOne K t (.type "bool")=some b2/\b = !b2)
structure OwnC (K:W.Frag) (C:Addr):Prop where
 cl:Cls K C
 ha:PySem.W.findIn K (.ref C) "__class__"=some (some (.builtin "object.__class__"))
 hn:PySem.W.specialIn K (.builtin "object.__class__") "__get__"=some (some (.builtin "getset_descriptor.__get__"))
 ht:PySem.W.takesIn K (.builtin "object.__class__")=some true
 hm:PySem.W.mroIn K C (.type "object")=some true
 ki:PySem.W.kitOne K (.ref C) (.type "int")=some false
theorem OwnC.ty{K:W.Frag}{H:Hp}{C a dx:Addr}{fs:List (Str × V)}(T:OwnC K C)(h:H a=some (.ins C dx fs)):TyX K H (.ref a) (.ref C) := .base (.ins h T.cl T.ha T.hn T.ht T.hm)
abbrev CR(K:W.Frag):Addr:=He.ga K "Ratio"
def qO4(q:Rat):List (Str × V):=[("top", .int q.num),("bottom", .int (q.den:Nat))]
def IsRat(K:W.Frag)(H:Hp)(p:Addr)(q:Rat):Prop:=∃ dx,H p=some (.ins (CR K) dx (qO4 q))
theorem IsRat.same{K:W.Frag}{H H':Hp}{p:Addr}{q:Rat}(h:IsRat K H p q)(s:Same H H'):IsRat K H' p q:=let ⟨dx,e⟩:=h;⟨dx,s _ _ e⟩
structure RTxt (K:W.Frag):Prop where
 own:OwnC K (CR K)
 nT:NoAttr K (CR K) "top"
 nB:NoAttr K (CR K) "bottom"
theorem qI7{K:W.Frag}{H H':Hp}{x:V}{t:Value}(s:Same H H')(h:TyX K H x t):TyX K H' x t:=by
 cases h with
 | base h=>
  refine .base ?_
  cases h with
  | non=>exact .non
  | bl x=>exact .bl x
  | int i=>exact .int i
  | str x=>exact .str x
  | flt x=>exact .flt x
  | lst e=>exact .lst (s _ _ e)
  | frz e=>exact .frz (s _ _ e)
  | tup e=>exact .tup (s _ _ e)
  | dK e=>exact .dK (s _ _ e)
  | dT e=>exact .dT (s _ _ e)
  | ins e cl ha hn htk hm=>exact .ins (s _ _ e) cl ha hn htk hm
 | byt b=>exact .byt b
 | set e=>exact .set (s _ _ e)
 | kList e c=>exact .kList e c
 | kTuple e c=>exact .kTuple e c
 | kDict e c=>exact .kDict e c
 | fTuple e=>exact .fTuple (s _ _ e)
 | fDict e=>exact .fDict (s _ _ e)
theorem IntQ.same{K:W.Frag}{H H':Hp}{x:V}{b:Bool}(h:IntQ K H x b)(s:Same H H'):IntQ K H' x b:=let ⟨t,b1,h1,h2⟩:=h;⟨t,b1,qI7 s h1,h2⟩
theorem qId{K:W.Frag}{H H':Hp}{f:Addr}{x:V}{t:Value}(s:Keep f H H')(n:x ≠ .ref f)(h:TyX K H x t):TyX K H' x t:=by
 have nn:∀ {a:Addr},V.ref a ≠ .ref f->a≠f:=λh e=>h (by rw [e])
 cases h with
 | base h=>
  refine .base ?_
  cases h with
  | non=>exact .non
  | bl x=>exact .bl x
  | int i=>exact .int i
  | str x=>exact .str x
  | flt x=>exact .flt x
  | lst e=>exact .lst (s _ _ e (nn n))
  | frz e=>exact .frz (s _ _ e (nn n))
  | tup e=>exact .tup (s _ _ e (nn n))
  | dK e=>exact .dK (s _ _ e (nn n))
  | dT e=>exact .dT (s _ _ e (nn n))
  | ins e cl ha hn htk hm=>exact .ins (s _ _ e (nn n)) cl ha hn htk hm
 | byt b=>exact .byt b
 | set e=>exact .set (s _ _ e (nn n))
 | kList e c=>exact .kList e c
 | kTuple e c=>exact .kTuple e c
 | kDict e c=>exact .kDict e c
 | fTuple e=>exact .fTuple (s _ _ e (nn n))
 | fDict e=>exact .fDict (s _ _ e (nn n))
theorem IntQ.keep{K:W.Frag}{H H':Hp}{f:Addr}{x:V}{b:Bool}(h:IntQ K H x b)(s:Keep f H H')(n:x ≠ .ref f):IntQ K H' x b:=let ⟨t,b1,h1,h2⟩:=h;⟨t,b1,qId s n h1,h2⟩
end MR
namespace MR
open PySem PySem.Spec PyProof.Rows L2 He
abbrev Fct:Type:=W.Frag->Bool
abbrev AlM:Type:=Bool × List FnW
def qNk(bs:List Fct)(fn:List DefD)(K:W.Frag):AlM:=((bs.all λf=>f K) && fn.all λd=>d.ok K,fn.map λd=>fnW K d.at_)
def qM7(fn:List DefD):AlM:=(true,fn.map DefD.val)
def SaysM(bs:List Fct)(fn:List DefD)(K:W.Frag):Prop:=qNk bs fn K=qM7 fn
section
variable {bs:List Fct} {fn:List DefD} {K:W.Frag}
theorem SaysM.one(c:SaysM bs fn K):(bs.all λf=>f K)=true/\(fn.all λd=>d.ok K)=true:=ba (congrArg (λz:AlM=>z.1) c)
theorem SaysM.fact(c:SaysM bs fn K)(i:Nat){f:Fct}(h:bs[i]?=some f:=by rfl):f K=true:=List.all_eq_true.mp c.one.1 f (List.mem_of_getElem? h)
theorem SaysM.def_(c:SaysM bs fn K)(i:Nat){d:DefD}(h:fn[i]?=some d:=by rfl):∃ fd,FunD K d.name d.qual d.params d.body d.scope (d.dvs K) (d.kws K) (fAd K d.at_) fd:=by
 have e2:(fn.map λd=>fnW K d.at_)[i]?=(fn.map DefD.val)[i]?:=congrArg (λz:AlM=>z.2[i]?) c
 rw [List.getElem?_map,List.getElem?_map,h] at e2
 exact DefD.funD (Option.some.inj e2) (List.all_eq_true.mp c.one.2 d (List.mem_of_getElem? h))
end
def qCy{α:Type}[DecidableEq α](a:Option α)(b:α):Bool:=decide (a=some b)
theorem qAm{α:Type}[DecidableEq α]{a:Option α}{b:α}(h:qCy a b=true):a=some b:=of_decide_eq_true h
def own(x:Str):W.Frag->Value:=λK => .ref (ga K x)
def qOs(x:Str):Fct:=λK=>(Fa.cls x).ok K && (eqO (PySem.W.findIn K (.ref (ga K x)) "__class__") (some (some (.builtin "object.__class__"))) && (eqO (PySem.W.specialIn K (.builtin "object.__class__") "__get__") (some (some (.builtin "getset_descriptor.__get__"))) &&
 (qCy (PySem.W.takesIn K (.builtin "object.__class__")) true && (qCy (PySem.W.mroIn K (ga K x) (.type "object")) true && qCy (PySem.W.kitOne K (.ref (ga K x)) (.type "int")) false))))
theorem qHy{K:W.Frag}{x:Str}(h:qOs x K=true):OwnC K (ga K x):=by
 obtain ⟨h1,h⟩:=ba h
 obtain ⟨h2,h⟩:=ba h
 obtain ⟨h3,h⟩:=ba h
 obtain ⟨h4,h⟩:=ba h
 obtain ⟨h5,h6⟩:=ba h
 exact ⟨cls_ok h1,eqO_ok h2,eqO_ok h3,qAm h4,qAm h5,qAm h6⟩
def qOo(x:Str):Fct:=λK=>eqO (PySem.W.findIn K (.ref (ga K x)) "__getattribute__") (some (some (.builtin "BaseException.__getattribute__"))) && (eqO (PySem.W.findIn K (.ref (ga K x)) "__getattr__") (some none) && (qCy (PySem.W.subIn K (.ref (ga K x)) (.type "BaseException")) true && (PySem.W.hasDictIn K (ga K x) &&
 (eqO (PySem.W.findIn K (.ref (ga K x)) "__class__") (some (some (.builtin "object.__class__"))) && (eqO (PySem.W.specialIn K (.builtin "object.__class__") "__get__") (some (some (.builtin "getset_descriptor.__get__"))) && (qCy (PySem.W.takesIn K (.builtin "object.__class__")) true && qCy (PySem.W.mroIn K (ga K x) (.type "object")) true))))))
theorem qG0{K:W.Frag}{x:Str}(h:qOo x K=true):ExcC K (ga K x):=by
 obtain ⟨h1,h⟩:=ba h
 obtain ⟨h2,h⟩:=ba h
 obtain ⟨h3,h⟩:=ba h
 obtain ⟨h4,h⟩:=ba h
 obtain ⟨h5,h⟩:=ba h
 obtain ⟨h6,h⟩:=ba h
 obtain ⟨h7,h8⟩:=ba h
 exact ⟨eqO_ok h1,eqO_ok h2,qAm h3,h4,eqO_ok h5,eqO_ok h6,qAm h7,qAm h8⟩
def xfF(x:Str):Fct:=λK=>xfB K (ga K x)
def qJ9(p:Str):FuncBody->Bool
 | .stmts [.Expr (.Call (.Attribute (.Call (.Name s _) [] [] _) i q3) [.Name a _] [] q5) _, .Assign [.Attribute (.Name sf _) b _] (.Name c _) _]=>
  decide (s="super") && (decide (i="__init__") && (decide (a=p) && (decide (sf="self") && (decide (b=p) && (decide (c=p) && (q3.endLine == q5.line))))))
 | _=>false
theorem qIx{p:Str}{b:FuncBody}(h:qJ9 p b=true):∃ q1 q2 q3 q4 q5 q6 q7 q8 q9 q10:Pos,b = .stmts [.Expr (.Call (.Attribute (.Call (.Name "super" q1) [] [] q2) "__init__" q3) [.Name p q4] [] q5) q6, .Assign [.Attribute (.Name "self" q7) p q8] (.Name p q9) q10]/\(q3.endLine == q5.line)=true:=by
 unfold qJ9 at h
 split at h
 ·obtain ⟨h1,h⟩:=ba h
  obtain ⟨h2,h⟩:=ba h
  obtain ⟨h3,h⟩:=ba h
  obtain ⟨h4,h⟩:=ba h
  obtain ⟨h5,h⟩:=ba h
  obtain ⟨h6,h7⟩:=ba h
  have e1:=of_decide_eq_true h1
  have e2:=of_decide_eq_true h2
  have e3:=of_decide_eq_true h3
  have e4:=of_decide_eq_true h4
  have e5:=of_decide_eq_true h5
  have e6:=of_decide_eq_true h6
  subst e1 e2 e4
  rw [e3,e5,e6]
  exact ⟨_,_,_,_,_,_,_,_,_,_,rfl,h7⟩
 ·cases h
def qNu(p:Str):Arguments->Bool
 | ⟨[],[a1,a2],none,[],[],none,[]⟩=>decide (a1.arg="self") && decide (a2.arg=p)
 | _=>false
theorem qKs{p:Str}{a:Arguments}(h:qNu p a=true):∃ a1 a2:Arg,a = { posonlyargs:=[],args:=[a1,a2],vararg:=none,kwonlyargs:=[],kw_defaults:=[],kwarg:=none,defaults:=[] }/\a1.arg="self"/\a2.arg=p:=by
 unfold qNu at h
 split at h
 ·obtain ⟨h1,h2⟩:=ba h
  exact ⟨_,_,rfl,of_decide_eq_true h1,of_decide_eq_true h2⟩
 ·cases h
def scB(p:Str):Scope->Bool
 | ⟨.function,[(x1, .local),(x2, .local),(x3, .free),(x4, .globalImplicit)],false,false,[]⟩=>decide (x1="self") && (decide (x2=p) && (decide (x3="__class__") && decide (x4="super")))
 | _=>false
theorem qLb{p:Str}{s:Scope}(h:scB p s=true):s = { kind := .function,names:=[("self", .local),(p, .local),("__class__", .free),("super", .globalImplicit)],isGenerator:=false,isCoroutine:=false,more:=[] }:=by
 unfold scB at h
 split at h
 ·obtain ⟨h1,h⟩:=ba h
  obtain ⟨h2,h⟩:=ba h
  obtain ⟨h3,h4⟩:=ba h
  rw [of_decide_eq_true h1,of_decide_eq_true h2,of_decide_eq_true h3,of_decide_eq_true h4]
 ·cases h
def qK2(prog:Program)(p:Str)(K:W.Frag)(C f:Addr):Bool:=match K.lookup f with
 | some ⟨_,_, .func fd,_⟩=>PySem.W.codeIn K fd.code fd.qualname && (qNu p fd.params && (qJ9 p fd.body && (scB p fd.scope && (decide (fd.globals=mainGlobals) && (decide (fd.builtins=builtinsNs) && (decide (fd.defaults = .none) && (match fd.closure,fd.code with
  | [(n,cc)], .ref cda=>decide (n="__class__") && ((match K.lookup cda with
   | some ⟨_,_, .fields vs,_⟩=>(match (vs[2]?:Option Value) with
    | some (.str file _)=>(prog.main.file:Str) == file
    | _=>false)
   | _=>false) && (match K.lookup cc with
   | some ⟨_,_, .cell (some (.ref D)),_⟩=>decide (D=C)
   | _=>false))
  | _,_=>false)))))))
 | _=>false
theorem qH9{prog:Program}{p:Str}{K:W.Frag}{C f:Addr}(h:qK2 prog p K C f=true) :
  ∃ (oc:Value) (od:Option Addr) (osl:Array (Option Value)) (fd:FuncData) (a1 a2:Arg) (q1 q2 q3 q4 q5 q6 q7 q8 q9 q10:Pos) (cda cc:Addr) (ccl:Value) (cdd:Option Addr) (vs:Array Value) (ccs:Array (Option Value)) (file:Str) (tf:Tok) (cl:Value) (cld:Option Addr) (csl:Array (Option Value)),
  K.lookup f=some ⟨oc,od, .func fd,osl⟩/\PySem.W.codeIn K fd.code fd.qualname=true/\
  fd.params = { posonlyargs:=[],args:=[a1,a2],vararg:=none,kwonlyargs:=[],kw_defaults:=[],kwarg:=none,defaults:=[] }/\a1.arg="self"/\a2.arg=p/\
  fd.body = .stmts [.Expr (.Call (.Attribute (.Call (.Name "super" q1) [] [] q2) "__init__" q3) [.Name p q4] [] q5) q6, .Assign [.Attribute (.Name "self" q7) p q8] (.Name p q9) q10]/\
  fd.scope = { kind := .function,names:=[("self", .local),(p, .local),("__class__", .free),("super", .globalImplicit)],isGenerator:=false,isCoroutine:=false,more:=[] }/\
  fd.globals=mainGlobals/\fd.builtins=builtinsNs/\fd.closure=[(("__class__":Str),cc)]/\fd.defaults = .none/\fd.code = .ref cda/\
  K.lookup cda=some ⟨ccl,cdd, .fields vs,ccs⟩/\vs[2]?=some (.str file tf)/\((prog.main.file:Str) == file)=true/\
  K.lookup cc=some ⟨cl,cld, .cell (some (.ref C)),csl⟩/\(q3.endLine == q5.line)=true:=by
 unfold qK2 at h
 split at h
 ·rename_i oc od fd osl hf
  obtain ⟨h1,h⟩:=ba h
  obtain ⟨h2,h⟩:=ba h
  obtain ⟨h3,h⟩:=ba h
  obtain ⟨h4,h⟩:=ba h
  obtain ⟨h5,h⟩:=ba h
  obtain ⟨h6,h⟩:=ba h
  obtain ⟨h7,h⟩:=ba h
  obtain ⟨a1,a2,e2,e2a,e2b⟩:=qKs h2
  obtain ⟨q1,q2,q3,q4,q5,q6,q7,q8,q9,q10,e3,e3b⟩:=qIx h3
  split at h
  ·rename_i n cc cda hclo hcode
   obtain ⟨h8,h⟩:=ba h
   obtain ⟨h9,h10⟩:=ba h
   have e8:=of_decide_eq_true h8
   subst e8
   split at h9
   ·rename_i ccl cdd vs ccs hcda
    split at h9
    ·rename_i file tf hvs
     split at h10
     ·rename_i cl cld D csl hcell
      have e10:=of_decide_eq_true h10
      subst e10
      exact ⟨oc,od,osl,fd,a1,a2,q1,q2,q3,q4,q5,q6,q7,q8,q9,q10,cda,cc,ccl,cdd,vs,ccs,file,tf,cl,cld,csl,hf,h1,e2,e2a,e2b,e3,qLb h4,of_decide_eq_true h5,of_decide_eq_true h6,hclo,of_decide_eq_true h7,hcode,hcda,hvs,h9,hcell,e3b⟩
     ·cases h10
    ·cases h9
   ·cases h9
  ·cases h
 ·cases h
def qFs(K:W.Frag)(C:Addr):Bool:=match K.lookup C with
 | some ⟨.type t,_, .cls cd,sl⟩=>decide (t="type") && (match cd.mro,sl.toList with
  | .ref D :: bm,[_,_,_,_,some (.builtin n),_]=>decide (D=C) && (decide (n="ValueError.__new__") && (!cd.hasDel && (cd.hasDict && (HandSPX.refsVE bm && eqO (PySem.W.alongIn K "__init__" bm) (some (some (.builtin "ValueError.__init__")))))))
  | _,_=>false)
 | _=>false
theorem qE1{K:W.Frag}{C:Addr}(h:qFs K C=true):∃ nm q N bs bm sn sub ab col dd k0 k1 k2 k3 k5,K.lookup C=some (excClassObj nm q C N bs bm true sn sub ab col dd k0 k1 k2 k3 k5 "ValueError.__new__")/\HandSPX.refsVE bm=true/\
  PySem.W.alongIn K "__init__" bm=some (some (.builtin "ValueError.__init__")):=by
 unfold qFs at h
 split at h
 ·rename_i t dd cd sl ho
  obtain ⟨h0,hh⟩:=ba h
  clear h
  have e0:=of_decide_eq_true h0
  subst e0
  split at hh
  ·rename_i D bm k0 k1 k2 k3 n k5 hm hs
   obtain ⟨h1,h⟩:=ba hh
   obtain ⟨h2,h⟩:=ba h
   obtain ⟨h3,h⟩:=ba h
   obtain ⟨h4,h⟩:=ba h
   obtain ⟨h5,h6⟩:=ba h
   have e1:=of_decide_eq_true h1
   have e2:=of_decide_eq_true h2
   subst e1 e2
   obtain ⟨nm,bs,mro,ns,qn,hd,sn,sb,ab,col,del⟩:=cd
   dsimp only at hm h3 h4
   subst hm h4
   have e3:del=false:=by simpa using h3
   subst e3
   refine ⟨nm,qn,ns,bs,bm,sn,sb,ab,col,dd,k0,k1,k2,k3,k5, ?_,h5,eqO_ok h6⟩
   rw [ho]
   have e:sl = #[k0,k1,k2,k3,some (.builtin "ValueError.__new__"),k5]:=by
    rw [<-Array.toArray_toList (xs:=sl),hs]
   rw [e]
  ·cases hh
 ·cases h
def qH2(prog:Program)(x p:Str):Fct:=λK=>qFs K (ga K x) && (qK2 prog p K (ga K x) (ma K (ga K x) "__init__") && (eqO (PySem.W.findIn K (.ref (ga K x)) "__setattr__") (some (some (.builtin "object.__setattr__"))) && (eqO (PySem.W.findIn K (.ref (ga K x)) p) (some none) &&
 (eqO (PySem.W.findIn K (.ref (ga K x)) "__init__") (some (some (.ref (ma K (ga K x) "__init__")))) && (qCy (PySem.W.typeIn K (.ref (ma K (ga K x) "__init__"))) (.type "function") && (PySem.W.keepIn K (.ref (ga K x)) && (qCy (PySem.W.subIn K (.ref (ga K x)) (.type "BaseException")) true &&
 (qCy (PySem.W.subIn K (.ref (ga K x)) (.type "ValueError")) true && (qCy (PySem.W.typeIn K (.ref (ga K x))) (.type "type") && (qCy (PySem.W.mroIn K (ga K x) (.ref (ga K x))) true && (eqO (PySem.W.nsIn K cStatics "thirdparty.any") (some none) && (eqO (PySem.W.nsIn K mainGlobals "super") (some none) &&
 !(prog.main.scope.names.lookup ("super":Str)).isSome))))))))))))
theorem qBg{prog:Program}{K:W.Frag}{x p:Str}(h:qH2 prog x p K=true):SupC prog K (ga K x) (ma K (ga K x) "__init__") p:=by
 obtain ⟨h1,h⟩:=ba h
 obtain ⟨h2,h⟩:=ba h
 obtain ⟨h3,h⟩:=ba h
 obtain ⟨h4,h⟩:=ba h
 obtain ⟨h5,h⟩:=ba h
 obtain ⟨h6,h⟩:=ba h
 obtain ⟨h7,h⟩:=ba h
 obtain ⟨h8,h⟩:=ba h
 obtain ⟨h9,h⟩:=ba h
 obtain ⟨h10,h⟩:=ba h
 obtain ⟨h11,h⟩:=ba h
 obtain ⟨h12,h⟩:=ba h
 obtain ⟨h13,h14⟩:=ba h
 exact ⟨qE1 h1,eqO_ok h3,eqO_ok h4,eqO_ok h5,qAm h6,h7,qAm h8,qAm h9,qAm h10,qAm h11,eqO_ok h12,eqO_ok h13,by simpa using h14,qH9 h2⟩
theorem qI5{K:W.Frag}{x q:Str}{p:Arguments}{b:List Stmt}{sc:Scope}{dvs:List V}{kws:List (Str × V)}{f:Addr}{fd fd':FuncData}(F:FunD K x q p b sc dvs kws f fd)(F':FunD K x q p b sc dvs kws f fd'):fd=fd':=by
 obtain ⟨_,_,_,_,_,_,_,_,_,_,_,h,_⟩:=F.ex
 obtain ⟨_,_,_,_,_,_,_,_,_,_,_,h',_⟩:=F'.ex
 have e:=h.symm.trans h'
 simp only [Option.some.injEq,Obj.mk.injEq,Data.func.injEq] at e
 exact e.2.2.1
end MR
namespace MR
open PySem PySem.Spec PyProof.Rows PySem.W
structure IntDecl (name:Str) (id:String) (B:Builtin):Prop where
 slot:Slot "int" name id
 entry:entryFor table id=some B
 args:∀ a b,argsOk id ⟨[a,b],[]⟩
 dec:∀ (prog:Program) (w:World) (A:Around) (E:Value->Shared->Prop) (s:Shared) (a:Int) (t:Tok) (x C dx:Addr) (P:Fin->Shared->Prop),s.heap.get? x=some (instObj C dx)->P (.done (.ret .notImplemented)) s->wpAny (model prog w) A (B ⟨[.int a t, .ref x],[]⟩) P E s
theorem IntDecl.call{name:Str}{id:String}{B:Builtin}(D:IntDecl name id B){prog:Program}{w:World}{A:Around}{E:Value->Shared->Prop}{s:Shared}{a:Int}{t:Tok}{x C dx:Addr}{Q:Value->Shared->Prop}(hx:s.heap.get? x=some (instObj C dx))(h:Q .notImplemented s) :
  wpAny (model prog w) A (PySem.call (.builtin id) [.int a t, .ref x]) Q E s:=
 wpAny_call_entry D.slot (typeIs_int s a t) D.entry (D.dec prog w _ _ s a t x C dx _ hx ⟨_,rfl,h⟩) (D.args _ _)
end MR
namespace MR
open PySem PySem.Spec PyProof.Rows L2
structure OpC (K:W.Frag) (C:Addr) (nm:String):Prop where
 sf:PySem.W.selfFirst K C=true
 sub:PySem.W.subIn K (.type "int") (.ref C)=some false
 subR:PySem.W.subIn K (.ref C) (.type "int")=some false
 fo:∃ fo ro rc,PySem.W.findIn K (.type "int") (PySem.dunder nm)=some fo/\PySem.W.findIn K (.type "int") (dunderR nm)=some ro/\PySem.W.findIn K (.ref C) (dunderR nm)=some rc/\(rc=none\/∃ g:Addr,rc=some (.ref g))
end MR
namespace MR
open PySem PySem.Spec PyProof.Rows L2 LamX
def qL4:Option Obj->Bool
 | some ⟨.none,none, .fields vs,sl⟩=>vs.isEmpty && sl.isEmpty
 | _=>false
theorem qJr{a:Addr}{o:Obj}:∀ {l:W.Frag},l.lookup a=some o->(a,o)∈l
 | [],e=>by cases e
 | (b,u) :: r,e=>by
  rw [List.lookup_cons] at e
  cases hb:a == b with
  | true=>
   rw [hb] at e
   cases e
   rw [beq_iff_eq.mp hb]
   exact .head _
  | false=>
   rw [hb] at e
   exact .tail _ (qJr e)
end MR
namespace MR
open PySem PySem.Spec PyProof.Rows L2 He
section
variable {α β γ:Type} {o:Option α} {fr:α->W.Frag}
def PartB(o:Option α)(fr:α->W.Frag)(bs:List Fct):Prop:=o.map (λs=>bs.all λf=>f (fr s))=some true
def PartD(o:Option α)(fr:α->W.Frag)(fn:List DefD):Prop:=o.map (λs=>(fn.all λd=>d.ok (fr s),fn.map λd=>fnW (fr s) d.at_))=some (true,fn.map DefD.val)
theorem PartB.app{b1 b2:List Fct}(h1:PartB o fr b1)(h2:PartB o fr b2):PartB o fr (b1 ++ b2):=by
 unfold PartB at *
 cases o with
 | none=>cases h1
 | some s=>
  have e1:(b1.all λf=>f (fr s))=true:=Option.some.inj h1
  have e2:(b2.all λf=>f (fr s))=true:=Option.some.inj h2
  show some ((b1 ++ b2).all λf=>f (fr s))=some true
  rw [List.all_append,e1,e2]
  rfl
theorem PartD.app{b1 b2:List DefD}(h1:PartD o fr b1)(h2:PartD o fr b2):PartD o fr (b1 ++ b2):=by
 unfold PartD at *
 cases o with
 | none=>cases h1
 | some s=>
  have e1:=Prod.mk.inj (Option.some.inj h1)
  have e2:=Prod.mk.inj (Option.some.inj h2)
  show some (_,_)=some (true,_)
  rw [List.all_append,List.map_append,List.map_append,e1.1,e2.1,e1.2,e2.2]
  rfl
theorem qNz{l:α->Bool}{q:α->β}{x:β}{bs:List Fct}{fn:List DefD}(h:o.map (λs=>(l s,q s))=some (true,x))(hb:PartB o fr bs)(hd:PartD o fr fn):o.map (λs=>(l s,q s,qNk bs fn (fr s)))=some (true,x,qM7 fn):=by
 unfold PartB PartD at *
 cases o with
 | none=>cases h
 | some s=>
  have e1:=Prod.mk.inj (Option.some.inj h)
  have e2:(bs.all λf=>f (fr s))=true:=Option.some.inj hb
  have e3:=Prod.mk.inj (Option.some.inj hd)
  show some (_,_,(_ && _),_)=some (true,x,true,_)
  rw [e1.1,e1.2,e2,e3.1,e3.2]
  rfl
end
def ddU(k:Nat->List Addr->List Addr):List Addr->Nat->List Addr->List Addr
 | [],m,acc=>k m acc
 | a :: l,m,acc=>match Nat.beq (Nat.land (Nat.shiftRight m a) 1) 0 with
  | true=>ddU k l (Nat.lor m (Nat.shiftLeft 1 a)) (a :: acc)
  | false=>ddU k l m acc
def qPv(g:Addr->Option Obj)(as:List Addr):List Addr:=as.flatMap λa=>match g a with
 | some o=>refsD o
 | none=>[]
def asU(g:Addr->Option Obj):Nat->Nat->List Addr->List Addr
 | 0,_,_=>[]
 | n+1,m,fr=>ddU (λm' nf=>nf ++ asU g n m' nf) (qPv g fr) m []
def frU(g:Addr->Option Obj)(n:Nat):W.Frag:=(He.frG g (sysModules :: mainGlobals :: cStatics :: asU g n (Nat.lor (Nat.shiftLeft 1 mainGlobals) (Nat.lor (Nat.shiftLeft 1 cStatics) (Nat.shiftLeft 1 sysModules))) [mainGlobals,cStatics])).filter λp => !qL4 (some p.2)
theorem qMf{n:Nat}{h:Heap}:(frU h.get? n).In h:=λa o e=>by
 have hm0:=qJr e
 unfold frU at hm0
 have hm:=(List.mem_filter.mp hm0).1
 unfold He.frG at hm
 obtain ⟨b,_,hb⟩:=List.mem_filterMap.mp hm
 cases hg:h.get? b with
 | none=>
  rw [hg] at hb
  cases hb
 | some u=>
  rw [hg] at hb
  cases hb
  exact hg
def qOa(n:Nat)(bs:List Fct)(fn:List He.DefD)(g:Addr->Option Obj):AlM:=qNk bs fn (frU g n)
def qLe(n:Nat)(bs:List Fct)(fn:List He.DefD):PySem.W.Hook where
 α:=AlM
 obs:=λs=>qOa n bs fn s.heap.get?
 val:=λ_=>qM7 fn
 says:=λ_ h=>∃ K:W.Frag,K.In h/\SaysM bs fn K
 of:=λ_ _ e=>⟨_,qMf,e⟩
 keeps:=λ_ _ _ ⟨K,hK,c⟩ k=>⟨K,W.Frag.In.keeps hK k,c⟩
theorem qJw{n:Nat}{bs:List Fct}{fn:List He.DefD}{g:Addr->Option Obj}{s:Shared}(h:∀ a,g a=s.heap.get? a):qOa n bs fn g=(qLe n bs fn).obs s:=by
 rw [show g=s.heap.get? from funext h]
 rfl
end MR
namespace MR
open PySem PySem.Spec PyProof.Rows L2
structure FeedAt (K:W.Frag) (H:Hp) (f c:Addr) (ns:List Int) (p b l n s:Int):Prop where
 ob:H f=some (.lst [.ref c, .int p, .int b, .int l, .int n, .int s])
 cs:SqL K H c (ns.map V.int)
 ne:c≠f
 nn:∀ x∈ns,0<=x
 p0:0<=p
 b0:0<=b
 l0:0<=l
 n0:0<=n
 s0:0<=s
def Feed(K:W.Frag)(H:Hp)(f:Addr):Prop:=∃ c ns p b l n s,FeedAt K H f c ns p b l n s
theorem qG2{K:W.Frag}{H H':Hp}{f a:Addr}{xs:List V}(k:Keep f H H')(ne:a≠f)(h:SqL K H a xs):SqL K H' a xs:=by
 rcases h with (h | ⟨o,h⟩) | h
 ·exact .inl (.inl (k _ _ h ne))
 ·exact .inl (.inr ⟨o,k _ _ h ne⟩)
 ·exact .inr h
theorem FeedAt.upd{K:W.Frag}{H:Hp}{f c:Addr}{ns:List Int}{p b l n s p' b' l' n' s':Int}(F:FeedAt K H f c ns p b l n s)(h1:0<=p')(h2:0<=b')(h3:0<=l')(h4:0<=n')(h5:0<=s') :
  FeedAt K (upd H f (.lst [.ref c, .int p', .int b', .int l', .int n', .int s'])) f c ns p' b' l' n' s':=⟨upd_same,qG2 qFz F.ne F.cs,F.ne,F.nn,h1,h2,h3,h4,h5⟩
theorem FeedAt.same{K:W.Frag}{H H':Hp}{f c:Addr}{ns:List Int}{p b l n s:Int}(F:FeedAt K H f c ns p b l n s)(h:Same H H'):FeedAt K H' f c ns p b l n s:=⟨h _ _ F.ob,h.seq F.cs,F.ne,F.nn,F.p0,F.b0,F.l0,F.n0,F.s0⟩
theorem Feed.same{K:W.Frag}{H H':Hp}{f:Addr}(F:Feed K H f)(h:Same H H'):Feed K H' f:=let ⟨c,ns,p,b,l,n,s,G⟩:=F;⟨c,ns,p,b,l,n,s,G.same h⟩
structure Eu (g P i x y:Nat):Prop where
 gc:x.gcd y=g
 lt:1<=i->y<x\/y=0
 pr:x*y*2 ^ (i - 1)<=P
theorem Eu.fin{g P x y:Nat}(h:Eu g P 400 x y)(hP:P<2 ^ 399):y=0:=by
 rcases Nat.eq_zero_or_pos y with e | hy
 ·exact e
 ·exfalso
  have hx:0<x:=by
   rcases h.lt (by decide) with z | z <;> omega
  have h1:1<=x*y:=Nat.mul_pos hx hy
  have h2:=h.pr
  have h3:1*2 ^ (400 - 1)<=x*y*2 ^ (400 - 1):=Nat.mul_le_mul_right _ h1
  rw [Nat.one_mul,show 400 - 1=399 by decide] at h3
  rw [show 400 - 1=399 by decide] at h2
  exact absurd (Nat.lt_of_le_of_lt (Nat.le_trans h3 h2) hP) (Nat.lt_irrefl _)
end MR
namespace MR
open PySem PySem.Spec PyProof.Rows L2
theorem PI.or{X:Cx}{tg it:Expr}{w w':TI}(h:PI X tg it w)(h':PI X tg it w'):PI X tg it (λσ H R=>w σ H R\/w' σ H R):=
 ⟨λpins s σ H R I q=>q.elim (h.run pins s σ H R I) (h'.run pins s σ H R I)⟩
end MR
namespace MR
theorem qJi(q:Rat):((q.den:Int):Rat)≠0:=by
 rw [Rat.intCast_natCast]
 exact λh=>q.den_nz (Rat.natCast_eq_zero_iff.mp h)
theorem qHm(q:Rat):((q.num:Int):Rat) / ((q.den:Int):Rat)=q:=by
 rw [<-Rat.divInt_eq_div,Rat.num_divInt_den]
theorem qMo(a b:Rat):Rat.divInt (a.num*b.den+b.num*a.den) (a.den*b.den)=a+b:=by
 have h1:=qJi a
 have h2:=qJi b
 have e1:=qHm a
 have e2:=qHm b
 rw [Rat.divInt_eq_div,Rat.intCast_add,Rat.intCast_mul,Rat.intCast_mul,Rat.intCast_mul]
 grind
theorem qHa(a:Rat):(0:Int)<a.den:=by
 have:=a.den_nz
 omega
structure Sz (n:Nat) (q:Rat):Prop where
 num:q.num.natAbs<2 ^ n
 den:q.den<2 ^ n
theorem Sz.mono{n m:Nat}{q:Rat}(h:Sz n q)(hn:n<=m):Sz m q:=⟨Nat.lt_of_lt_of_le h.num (Nat.pow_le_pow_right (by decide) hn),Nat.lt_of_lt_of_le h.den (Nat.pow_le_pow_right (by decide) hn)⟩
theorem Sz.pos{n:Nat}{q:Rat}(h:Sz n q):0<n:=by
 rcases Nat.eq_zero_or_pos n with e | e
 ·have:=h.den
  rw [e] at this
  have:=q.den_nz
  omega
 ·exact e
theorem qMr{a b:Int}{n:Nat}(hb:b≠0)(h1:a.natAbs<2 ^ n)(h2:b.natAbs<2 ^ n):Sz n (Rat.divInt a b):=⟨Nat.lt_of_le_of_lt (qMj hb) h1,Nat.lt_of_le_of_lt (qLx hb) h2⟩
theorem qGf{x y a b:Nat}(h1:x<2 ^ a)(h2:y<2 ^ b):x*y<2 ^ (a+b):=by
 rw [Nat.pow_add]
 exact Nat.mul_lt_mul'' h1 h2
theorem absmul{x:Int}{y a b:Nat}(h1:x.natAbs<2 ^ a)(h2:y<2 ^ b):(x*(y:Int)).natAbs<2 ^ (a+b):=by
 rw [Int.natAbs_mul,Int.natAbs_natCast]
 exact qGf h1 h2
theorem absadd{x y:Int}{n:Nat}(h1:x.natAbs<2 ^ n)(h2:y.natAbs<2 ^ n):(x+y).natAbs<2 ^ (n+1):=by
 rw [Nat.pow_succ]
 omega
theorem Sz.add{n m:Nat}{a b:Rat}(h1:Sz n a)(h2:Sz m b):Sz (n+m+1) (a+b):=by
 rw [<-qMo]
 refine qMr (Int.ne_of_gt (Int.mul_pos (qHa a) (qHa b))) (absadd (absmul h1.num h2.den) ?_) ?_
 ·have:=absmul h2.num h1.den
  rw [Nat.add_comm m n] at this
  exact this
 ·have:=absmul (x:=(a.den:Int)) (by rw [Int.natAbs_natCast];exact h1.den) h2.den
  exact Nat.lt_of_lt_of_le this (Nat.pow_le_pow_right (by decide) (by omega))
theorem Sz.neg{n:Nat}{a:Rat}(h:Sz n a):Sz n (-a):=⟨by rw [Rat.neg_num,Int.natAbs_neg];exact h.num,by rw [Rat.neg_den];exact h.den⟩
theorem Sz.sub{n m:Nat}{a b:Rat}(h1:Sz n a)(h2:Sz m b):Sz (n+m+1) (a - b):=by
 rw [Rat.sub_eq_add_neg]
 exact h1.add h2.neg
def coef(cs:List Rat)(k:Nat):Rat:=cs[k]?.getD 0
theorem qKc{cs:List Rat}{k:Nat}(h:k<cs.length):cs[k]?=some (coef cs k):=by
 unfold coef
 rw [List.getElem?_eq_getElem h]
 rfl
theorem qKf{cs:List Rat}{k:Nat}(h:cs.length<=k):coef cs k=0:=by
 unfold coef
 rw [List.getElem?_eq_none h]
 rfl
def szN(f:Nat->Rat):Nat->Nat
 | 0=>0
 | n+1=>if f n=0 then szN f n else n+1
def strip(cs:List Rat):List Rat:=cs.take (szN (coef cs) cs.length)
def Nrm(cs:List Rat):Prop:=strip cs=cs
def qJa(cs:List Rat):Rat:=coef cs (cs.length - 1)
def qO2(cs:List Rat):List Rat:=cs.map λc => -c
def conv(f g:Nat->Rat):Nat->Nat->Rat
 | 0,_=>0
 | i+1,k=>conv f g i k+if i<=k then f i*g (k - i) else 0
end MR
namespace MR
open PySem PySem.Spec PyProof.Rows L2 LamX
inductive D where
 | non | bl (b:Bool) | int (i:Int) | str (x:Str) | rat (q:Rat) | poly (cs:List Rat)
 | lst (ds:List D) | tup (ds:List D) | ins (C:Str) (ns:List Str) (ds:List D) | feed | exc | adr (a:Addr) | scr (ns:List Int)
 | dct (ks:List Key) (ds:List D) | exn (C:Str) (ns:List Str) (ds:List D)
structure Exn where
 cls:Str
 fs:List (Str × D)
abbrev Env:=List (Option D)
def FeedC(K:W.Frag)(H:Hp)(f c:Addr):Prop:=∃ ns p b l n s o,FeedAt K H f c ns p b l n s/\H c=some (.lst o)
structure Fd where
 f:Option Addr
 T:List (Addr × Str)
def Fd.no(F:Fd)(p:Addr):Prop:=F.f≠some p/\∀ q,q∈F.T->q.1≠p
def Pl:HO->Prop
 | .lst _=>True
 | .ins _ _ _=>True
 | .dK _=>True
 | _=>False
theorem qEt{T:List (Addr × Str)}{H H':Hp}(t:Tabs T H)(h:∀ b o,H b=some o->¬ Pl o->H' b=some o):Tabs T H':=λp hp=>by
 obtain ⟨ps,h1,h2,h3⟩:=t p hp
 refine ⟨ps,h _ _ h1 (λz=>z),h2,λpos cv hc => ?_⟩
 obtain ⟨c,e1,e2⟩:=h3 pos cv hc
 exact ⟨c,e1,h _ _ e2 (λz=>z)⟩
theorem qFx{T:List (Addr × Str)}{H:Hp}{p:Addr}{o u:HO}(t:Tabs T H)(h:H p=some o)(hp:Pl o):Tabs T (upd H p u):=qEt t λb v e n=>by
 rw [upd_ne (λz=>n (by rw [z,h] at e;cases e;exact hp))]
 exact e
theorem qKq{T:List (Addr × Str)}{H:Hp}{p:Addr}{f:Option Addr}(t:Tabs T H)(h:H p=none)(hf:f≠some p):Fd.no ⟨f,T⟩ p:=⟨hf,λq hq z=>by
 obtain ⟨ps,h1,_⟩:=t q hq
 rw [z,h] at h1;cases h1⟩
def Ok(F:Fd)(M:Addr->Prop)(p:Addr):Prop:=F.no p/\¬ M p
def Scr(K:W.Frag)(F:Fd)(M:Addr->Prop)(H:Hp)(ns:List Int)(a:Addr):Prop:=
 (∃ o,Ok F M a/\H a=some o/\(o = .lst (ns.map V.int)\/∃ f,o = .frz f (.lst (ns.map V.int))))\/
  ∃ (o:Obj) (its:Array Value) (n:Nat),K.lookup a=some o/\o.cls = .type "list"/\o.dict=none/\o.data = .seq its n/\its.size<=sizeLine/\Vals (ns.map V.int) its.toList
theorem Scr.sq{K:W.Frag}{F:Fd}{M:Addr->Prop}{H:Hp}{ns:List Int}{a:Addr}(h:Scr K F M H ns a):SqL K H a (ns.map V.int):=by
 rcases h with ⟨o,_,h,rfl | ⟨f,rfl⟩⟩ | h
 ·exact .inl (.inl h)
 ·exact .inl (.inr ⟨f,h⟩)
 ·exact .inr h
theorem Scr.of{K:W.Frag}{F:Fd}{M:Addr->Prop}{H:Hp}{ns:List Int}{a:Addr}(h:SqL K H a (ns.map V.int))(ok:Ok F M a):Scr K F M H ns a:=by
 rcases h with (h | ⟨f,h⟩) | h
 ·exact .inl ⟨_,ok,h, .inl rfl⟩
 ·exact .inl ⟨_,ok,h, .inr ⟨f,rfl⟩⟩
 ·exact .inr h
section
variable (K:W.Frag) (F:Fd) (M:Addr->Prop) (H:Hp)
def RRat(q:Rat)(v:V):Prop:=∃ p,v = .ref p/\Ok F M p/\IsRat K H p q
def RRats:List Rat->List V->Prop
 | [],vs=>vs=[]
 | q :: qs,vs=>∃ v us,vs=v :: us/\RRat K F M H q v/\RRats qs us
abbrev CP(K:W.Frag):Addr:=He.ga K "Poly"
def qMz(t l:Addr)(n:Nat):List (Str × V):=[("coefficients", .ref t),("degree", .int ((n:Int) - 1)),("lead", .ref l)]
mutual
def Rep:D->V->Prop
 | .non,v=>v = .non
 | .bl b,v=>v = .bl b
 | .int i,v=>v = .int i
 | .str x,v=>v = .str x
 | .rat q,v=>RRat K F M H q v
 | .poly cs,v=>∃ p dx t l vs,v = .ref p/\Ok F M p/\H p=some (.ins (CP K) dx (qMz t l cs.length))/\Ok F M t/\H t=some (.tup vs)/\RRats K F M H cs vs/\RRat K F M H (qJa cs) (.ref l)/\Nrm cs
 | .lst ds,v=>∃ p vs,v = .ref p/\Ok F M p/\H p=some (.lst vs)/\Reps ds vs
 | .tup ds,v=>∃ p vs,v = .ref p/\Ok F M p/\H p=some (.tup vs)/\Reps ds vs
 | .ins C ns ds,v=>∃ p dx gs,v = .ref p/\Ok F M p/\H p=some (.ins (He.ga K C) dx gs)/\gs.map Prod.fst=ns/\Reps ds (gs.map Prod.snd)
 | .feed,v=>∃ f,F.f=some f/\v = .ref f
 | .exc,v=>∃ a,v = .ref a
 | .adr a,v=>v = .ref a
 | .scr ns,v=>∃ a,v = .ref a/\Scr K F M H ns a
 | .dct ks ds,v=>∃ p kvs,v = .ref p/\Ok F M p/\H p=some (.dK kvs)/\kvs.map Prod.fst=ks/\Reps ds (kvs.map Prod.snd)
 | .exn C ns ds,v=>∃ e dx gs,v = .ref e/\Ok F M e/\H e=some (exo e (He.ga K C) dx)/\(∀ d,dx=some d->Ok F M d/\H d=some (.xd gs))/\(dx=none->gs=[])/\gs.map Prod.fst=ns/\Reps ds (gs.map Prod.snd)
def Reps:List D->List V->Prop
 | [],vs=>vs=[]
 | d :: ds,vs=>∃ v us,vs=v :: us/\Rep d v/\Reps ds us
end
def RepO:D->HO->Prop
 | .lst ds,o=>∃ vs,o = .lst vs/\Reps K F M H ds vs
 | .ins C ns ds,o=>∃ dx gs,o = .ins (He.ga K C) dx gs/\gs.map Prod.fst=ns/\Reps K F M H ds (gs.map Prod.snd)
 | .dct ks ds,o=>∃ kvs,o = .dK kvs/\kvs.map Prod.fst=ks/\Reps K F M H ds (kvs.map Prod.snd)
 | _,_=>False
end
section
variable {K:W.Frag} {F:Fd} {M M':Addr->Prop} {H H':Hp}
def Goes(F:Fd)(M:Addr->Prop)(H:Hp)(M':Addr->Prop)(H':Hp):Prop:=∀ p o,H p=some o->F.no p->¬ M p->H' p=some o/\¬ M' p
theorem RRat.goes(g:Goes F M H M' H'){q:Rat}{v:V}(h:RRat K F M H q v):RRat K F M' H' q v:=by
 obtain ⟨p,rfl,ok,dx,e⟩:=h
 obtain ⟨e',n⟩:=g p _ e ok.1 ok.2
 exact ⟨p,rfl,⟨ok.1,n⟩,dx,e'⟩
theorem RRats.goes(g:Goes F M H M' H'):∀ {qs:List Rat} {vs:List V},RRats K F M H qs vs->RRats K F M' H' qs vs
 | [],_,h=>h
 | _ :: _,_,h=>by
  obtain ⟨v,us,rfl,h1,h2⟩:=h
  exact ⟨v,us,rfl,h1.goes g,RRats.goes g h2⟩
mutual
theorem Rep.goes(g:Goes F M H M' H'):∀ (d:D) (v:V),Rep K F M H d v->Rep K F M' H' d v
 | .non,v,h=>h
 | .bl b,v,h=>h
 | .int i,v,h=>h
 | .str x,v,h=>h
 | .feed,v,h=>h
 | .exc,v,h=>h
 | .adr a,v,h=>h
 | .scr ns,v,h=>by
  obtain ⟨a,rfl,⟨o,ok,e,z⟩ | z⟩:=h
  ·obtain ⟨e',n1⟩:=g a _ e ok.1 ok.2
   exact ⟨a,rfl, .inl ⟨o,⟨ok.1,n1⟩,e',z⟩⟩
  ·exact ⟨a,rfl, .inr z⟩
 | .rat q,v,h=>RRat.goes g h
 | .poly cs,v,h=>by
  obtain ⟨p,dx,t,l,vs,rfl,ok,e,okt,et,r,rl,n⟩:=h
  obtain ⟨e',n1⟩:=g p _ e ok.1 ok.2
  obtain ⟨et',n2⟩:=g t _ et okt.1 okt.2
  exact ⟨p,dx,t,l,vs,rfl,⟨ok.1,n1⟩,e',⟨okt.1,n2⟩,et',r.goes g,rl.goes g,n⟩
 | .lst ds,v,h=>by
  obtain ⟨p,vs,rfl,ok,e,r⟩:=h
  obtain ⟨e',n1⟩:=g p _ e ok.1 ok.2
  exact ⟨p,vs,rfl,⟨ok.1,n1⟩,e',Reps.goes g ds vs r⟩
 | .tup ds,v,h=>by
  obtain ⟨p,vs,rfl,ok,e,r⟩:=h
  obtain ⟨e',n1⟩:=g p _ e ok.1 ok.2
  exact ⟨p,vs,rfl,⟨ok.1,n1⟩,e',Reps.goes g ds vs r⟩
 | .ins C ns ds,v,h=>by
  obtain ⟨p,dx,gs,rfl,ok,e,en,r⟩:=h
  obtain ⟨e',n1⟩:=g p _ e ok.1 ok.2
  exact ⟨p,dx,gs,rfl,⟨ok.1,n1⟩,e',en,Reps.goes g ds _ r⟩
 | .dct ks ds,v,h=>by
  obtain ⟨p,gs,rfl,ok,e,en,r⟩:=h
  obtain ⟨e',n1⟩:=g p _ e ok.1 ok.2
  exact ⟨p,gs,rfl,⟨ok.1,n1⟩,e',en,Reps.goes g ds _ r⟩
 | .exn C ns ds,v,h=>by
  obtain ⟨p,dx,gs,rfl,ok,e,hd,hn,en,r⟩:=h
  obtain ⟨e',n1⟩:=g p _ e ok.1 ok.2
  exact ⟨p,dx,gs,rfl,⟨ok.1,n1⟩,e',λd z=>let ⟨okd,ed⟩:=hd d z;let ⟨e2,n2⟩:=g d _ ed okd.1 okd.2;⟨⟨okd.1,n2⟩,e2⟩,hn,en,Reps.goes g ds _ r⟩
theorem Reps.goes(g:Goes F M H M' H'):∀ (ds:List D) (vs:List V),Reps K F M H ds vs->Reps K F M' H' ds vs
 | [],_,h=>h
 | d :: ds,_,h=>by
  obtain ⟨v,us,rfl,h1,h2⟩:=h
  exact ⟨v,us,rfl,Rep.goes g d v h1,Reps.goes g ds us h2⟩
end
theorem RepO.pl{d:D}{o:HO}(h:RepO K F M H d o):Pl o:=by
 cases d with
 | lst ds=>obtain ⟨vs,rfl,r⟩:=h;trivial
 | ins C ns ds=>obtain ⟨dx,gs,rfl,en,r⟩:=h;trivial
 | dct ks ds=>obtain ⟨gs,rfl,en,r⟩:=h;trivial
 | _=>exact h.elim
theorem RepO.goes(g:Goes F M H M' H'){d:D}{o:HO}(h:RepO K F M H d o):RepO K F M' H' d o:=by
 cases d with
 | lst ds=>obtain ⟨vs,rfl,r⟩:=h;exact ⟨vs,rfl,Reps.goes g _ _ r⟩
 | ins C ns ds=>obtain ⟨dx,gs,rfl,en,r⟩:=h;exact ⟨dx,gs,rfl,en,Reps.goes g _ _ r⟩
 | dct ks ds=>obtain ⟨gs,rfl,en,r⟩:=h;exact ⟨gs,rfl,en,Reps.goes g _ _ r⟩
 | _=>exact h.elim
mutual
def D.noL:D->Bool
 | .lst _=>false
 | .tup ds=>D.noLs ds
 | .ins _ _ ds=>D.noLs ds
 | .feed=>false
 | .exc=>false
 | .adr _=>false
 | .scr _=>false
 | .dct _ _=>false
 | .exn _ _ ds=>D.noLs ds
 | _=>true
def D.noLs:List D->Bool
 | []=>true
 | d :: ds=>d.noL && D.noLs ds
end
def Lists(M':Addr->Prop)(H:Hp):Prop:=∀ p,M' p->∃ xs,H p=some (.lst xs)
theorem RRat.noL(g:Lists M' H){q:Rat}{v:V}(h:RRat K F M H q v):RRat K F (λp=>M p\/M' p) H q v:=by
 obtain ⟨p,rfl,ok,dx,e⟩:=h
 refine ⟨p,rfl,⟨ok.1,λz=>z.elim ok.2 λm => ?_⟩,dx,e⟩
 obtain ⟨xs,y⟩:=g p m
 rw [e] at y;cases y
theorem RRats.noL(g:Lists M' H):∀ {qs:List Rat} {vs:List V},RRats K F M H qs vs->RRats K F (λp=>M p\/M' p) H qs vs
 | [],_,h=>h
 | _ :: _,_,h=>by
  obtain ⟨v,us,rfl,h1,h2⟩:=h
  exact ⟨v,us,rfl,h1.noL g,RRats.noL g h2⟩
theorem qDv(g:Lists M' H){p:Addr}{o:HO}(ok:Ok F M p)(e:H p=some o)(n:∀ xs,o ≠ .lst xs):Ok F (λp=>M p\/M' p) p:=⟨ok.1,λz=>z.elim ok.2 λm=>by
 obtain ⟨xs,y⟩:=g p m
 rw [e] at y
 exact n xs (Option.some.inj y)⟩
mutual
theorem Rep.noL(g:Lists M' H):∀ (d:D) (v:V),d.noL=true->Rep K F M H d v->Rep K F (λp=>M p\/M' p) H d v
 | .non,v,_,h=>h
 | .bl b,v,_,h=>h
 | .int i,v,_,h=>h
 | .str x,v,_,h=>h
 | .feed,v,n,h=>h
 | .exc,v,n,h=>h
 | .adr a,v,n,h=>h
 | .scr ns,v,n,h=>by simp [D.noL] at n
 | .rat q,v,_,h=>RRat.noL g h
 | .poly cs,v,_,h=>by
  obtain ⟨p,dx,t,l,vs,rfl,ok,e,okt,et,r,rl,n⟩:=h
  exact ⟨p,dx,t,l,vs,rfl,qDv g ok e (λ_ z=>by cases z),e,qDv g okt et (λ_ z=>by cases z),et,r.noL g,rl.noL g,n⟩
 | .lst ds,v,n,h=>by simp [D.noL] at n
 | .tup ds,v,n,h=>by
  obtain ⟨p,vs,rfl,ok,e,r⟩:=h
  exact ⟨p,vs,rfl,qDv g ok e (λ_ z=>by cases z),e,Reps.noL g ds vs (by simpa [D.noL] using n) r⟩
 | .ins C ns ds,v,n,h=>by
  obtain ⟨p,dx,gs,rfl,ok,e,en,r⟩:=h
  exact ⟨p,dx,gs,rfl,qDv g ok e (λ_ z=>by cases z),e,en,Reps.noL g ds _ (by simpa [D.noL] using n) r⟩
 | .dct ks ds,v,n,h=>by simp [D.noL] at n
 | .exn C ns ds,v,n,h=>by
  obtain ⟨p,dx,gs,rfl,ok,e,hd,hn,en,r⟩:=h
  exact ⟨p,dx,gs,rfl,qDv g ok e (λ_ z=>by have z':HO.ext _=HO.lst _:=z;cases z'),e,λd z=>let ⟨okd,ed⟩:=hd d z;⟨qDv g okd ed (λ_ z=>by cases z),ed⟩,hn,en,Reps.noL g ds _ (by simpa [D.noL] using n) r⟩
theorem Reps.noL(g:Lists M' H):∀ (ds:List D) (vs:List V),D.noLs ds=true->Reps K F M H ds vs->Reps K F (λp=>M p\/M' p) H ds vs
 | [],_,_,h=>h
 | d :: ds,_,n,h=>by
  obtain ⟨v,us,rfl,h1,h2⟩:=h
  simp only [D.noLs,Bool.and_eq_true] at n
  exact ⟨v,us,rfl,Rep.noL g d v n.1 h1,Reps.noL g ds us n.2 h2⟩
end
theorem Reps.length:∀ {ds:List D} {vs:List V},Reps K F M H ds vs->vs.length=ds.length
 | [],_,h=>by rw [show _=[] from h];rfl
 | d :: ds,_,h=>by
  obtain ⟨v,us,rfl,_,h2⟩:=h
  rw [List.length_cons,List.length_cons,Reps.length h2]
theorem Reps.get:∀ {ds:List D} {vs:List V} {i:Nat} {d:D},Reps K F M H ds vs->ds[i]?=some d->∃ v,vs[i]?=some v/\Rep K F M H d v
 | [],_,i,d,_,h=>by simp at h
 | e :: ds,_,i,d,h,hi=>by
  obtain ⟨v,us,rfl,h1,h2⟩:=h
  cases i with
  | zero=>simp at hi;subst hi;exact ⟨v,rfl,h1⟩
  | succ i=>
   simp at hi
   obtain ⟨w,e1,e2⟩:=Reps.get h2 hi
   exact ⟨w,by simpa using e1,e2⟩
theorem Reps.append:∀ {ds es:List D} {vs ws:List V},Reps K F M H ds vs->Reps K F M H es ws->Reps K F M H (ds ++ es) (vs ++ ws)
 | [],_,_,_,h,h'=>by rw [show _=[] from h];exact h'
 | d :: ds,_,_,_,h,h'=>by
  obtain ⟨v,us,rfl,h1,h2⟩:=h
  exact ⟨v,us ++ _,rfl,h1,Reps.append h2 h'⟩
theorem Reps.one{d:D}{v:V}(h:Rep K F M H d v):Reps K F M H [d] [v]:=⟨v,[],rfl,h,rfl⟩
theorem Reps.cons{d:D}{v:V}{ds:List D}{vs:List V}(h:Rep K F M H d v)(h':Reps K F M H ds vs):Reps K F M H (d :: ds) (v :: vs):=⟨v,vs,rfl,h,h'⟩
theorem Reps.set:∀ {ds:List D} {vs:List V} {i:Nat} {d:D} {v:V},Reps K F M H ds vs->Rep K F M H d v->Reps K F M H (ds.set i d) (vs.set i v)
 | [],_,i,d,v,h,_=>by rw [show _=[] from h];exact rfl
 | e :: ds,_,i,d,v,h,hd=>by
  obtain ⟨w,us,rfl,h1,h2⟩:=h
  cases i with
  | zero=>exact ⟨v,us,rfl,hd,h2⟩
  | succ i=>exact ⟨w,us.set i v,rfl,h1,Reps.set h2 hd⟩
theorem Reps.drop:∀ {ds:List D} {vs:List V} (n:Nat),Reps K F M H ds vs->Reps K F M H (ds.drop n) (vs.drop n)
 | _,_,0,h=>h
 | [],_,n+1,h=>by rw [show _=[] from h];exact rfl
 | e :: ds,_,n+1,h=>by
  obtain ⟨w,us,rfl,h1,h2⟩:=h
  exact Reps.drop n h2
theorem Reps.take:∀ {ds:List D} {vs:List V} (n:Nat),Reps K F M H ds vs->Reps K F M H (ds.take n) (vs.take n)
 | _,_,0,h=>rfl
 | [],_,n+1,h=>by rw [show _=[] from h];exact rfl
 | e :: ds,_,n+1,h=>by
  obtain ⟨w,us,rfl,h1,h2⟩:=h
  exact ⟨w,us.take n,rfl,h1,Reps.take n h2⟩
theorem Reps.ints:∀ {ns:List Int} {vs:List V},Reps K F M H (ns.map D.int) vs->vs=ns.map V.int
 | [],_,h=>h
 | n :: ns,_,h=>by
  obtain ⟨w,us,rfl,h1,h2⟩:=h
  rw [show w=V.int n from h1,Reps.ints h2]
  rfl
theorem RRats.reps:∀ {qs:List Rat} {vs:List V},RRats K F M H qs vs->Reps K F M H (qs.map D.rat) vs
 | [],_,h=>h
 | q :: qs,_,h=>by
  obtain ⟨w,us,rfl,h1,h2⟩:=h
  exact ⟨w,us,rfl,h1,RRats.reps h2⟩
theorem RRats.of:∀ {qs:List Rat} {vs:List V},Reps K F M H (qs.map D.rat) vs->RRats K F M H qs vs
 | [],_,h=>h
 | q :: qs,_,h=>by
  obtain ⟨w,us,rfl,h1,h2⟩:=h
  exact ⟨w,us,rfl,h1,RRats.of h2⟩
end
structure Gr (K:W.Frag) (F:Fd) (H H':Hp):Prop where
 old:∀ b o,H b=some o->F.no b->H' b=some o
 feed:∀ f c,F.f=some f->FeedC K H f c->FeedC K H' f c
 tab:Tabs F.T H->Tabs F.T H'
theorem FeedC.same{K:W.Frag}{H H':Hp}{f c:Addr}(s:Same H H')(h:FeedC K H f c):FeedC K H' f c:=let ⟨ns,p,b,l,n,z,o,G,e⟩:=h;⟨ns,p,b,l,n,z,o,G.same s,s _ _ e⟩
theorem Gr.refl{K:W.Frag}{F:Fd}{H:Hp}:Gr K F H H:=⟨λ_ _ h _=>h,λ_ _ _ h=>h,λh=>h⟩
theorem Gr.trans{K:W.Frag}{F:Fd}{H H1 H2:Hp}(a:Gr K F H H1)(b:Gr K F H1 H2):Gr K F H H2:=⟨λc o h n=>b.old c o (a.old c o h n) n,λf c e h=>b.feed f c e (a.feed f c e h),λh=>b.tab (a.tab h)⟩
theorem Gr.same{K:W.Frag}{F:Fd}{H H':Hp}(s:Same H H'):Gr K F H H':=⟨λb o h _=>s b o h,λ_ _ _ h=>h.same s,λh=>h.ext s⟩
theorem Gr.new{K:W.Frag}{F:Fd}{H:Hp}{p:Addr}{o:HO}(n:H p=none):Gr K F H (upd H p o) := .same (qI3 n)
theorem Gr.goes{K:W.Frag}{F:Fd}{H H':Hp}{M:Addr->Prop}(g:Gr K F H H'):Goes F M H M H':=λp o h n m=>⟨g.old p o h n,m⟩
theorem FeedC.keep{K:W.Frag}{H:Hp}{f c p:Addr}{o:HO}(h:FeedC K H f c)(n:p≠f)(m:p≠c):FeedC K (upd H p o) f c:=by
 obtain ⟨ns,x,b,l,k,s,o',G,e⟩:=h
 refine ⟨ns,x,b,l,k,s,o',⟨by rw [upd_ne (Ne.symm n)];exact G.ob, ?_,G.ne,G.nn,G.p0,G.b0,G.l0,G.n0,G.s0⟩,by rw [upd_ne (Ne.symm m)];exact e⟩
 exact qG2 (f:=p) qFz (Ne.symm m) G.cs
def Mo(ow:List Nat)(σ:L2.St)(p:Addr):Prop:=∃ i,i∈ow/\σ[i]?=some (some (.ref p))
def Sl(R:D->V->Prop):Option (Option D)->Option (Option V)->Prop
 | some (some d),some (some v)=>R d v
 | some none,some none=>True
 | none,none=>True
 | _,_=>False
structure Wd where
 F:Fd
 M:Addr->Prop
 H0:Hp
abbrev Wd.Mx(w:Wd)(ow:List Nat)(σ:L2.St)(p:Addr):Prop:=w.M p\/Mo ow σ p
structure REnv (K:W.Frag) (Ta:List (Addr × Str)) (w:Wd) (ow:List Nat) (H:Hp) (σ:L2.St) (ρ:Env):Prop where
 gr:Gr K w.F w.H0 H
 live:∀ p,w.M p->∃ o,w.H0 p=some o
 nf:∀ p,w.M p->w.F.no p
 imm:∀ i,i ∉ ow->Sl (Rep K w.F (w.Mx ow σ) H) ρ[i]? σ[i]?
 own:∀ i,i∈ow->∃ p o d,σ[i]?=some (some (.ref p))/\ρ[i]?=some (some d)/\H p=some o/\RepO K w.F (w.Mx ow σ) H d o/\w.F.no p/\w.H0 p=none
 inj:∀ i,i∈ow->∀ j,j∈ow->i≠j->∀ p,σ[i]?=some (some (.ref p))->σ[j]?≠some (some (.ref p))
 feed:∀ f,w.F.f=some f->∃ c,FeedC K H f c/\¬ w.Mx ow σ c
 tab:Tabs w.F.T H
 ts:w.F.T=Ta
theorem Sl.mono{R R':D->V->Prop}(h:∀ d v,R d v->R' d v):∀ {a:Option (Option D)} {b:Option (Option V)},Sl R a b->Sl R' a b
 | some (some d),some (some v),z=>h d v z
 | some none,some none,z=>z
 | none,none,z=>z
section
variable {K:W.Frag} {w:Wd} {ow ow':List Nat} {H H':Hp} {σ:L2.St} {ρ:Env}
theorem REnv.grow(e:REnv K Ta w ow H σ ρ)(g:Gr K w.F H H'):REnv K Ta w ow H' σ ρ where
 gr:=e.gr.trans g
 live:=e.live
 nf:=e.nf
 imm i hi:=(e.imm i hi).mono λd v=>Rep.goes g.goes d v
 own i hi:=by
  obtain ⟨p,o,d,h1,h2,h3,h4,h5,h6⟩:=e.own i hi
  exact ⟨p,o,d,h1,h2,g.old _ _ h3 h5,h4.goes g.goes,h5,h6⟩
 inj:=e.inj
 feed f hf:=by
  obtain ⟨c,h1,h2⟩:=e.feed f hf
  exact ⟨c,g.feed f c hf h1,h2⟩
 tab:=g.tab e.tab
 ts:=e.ts
theorem REnv.free(e:REnv K Ta w ow H σ ρ)(hs:∀ i,i∈ow'->i∈ow):REnv K Ta w ow' H σ ρ:=by
 have sub:∀ p,w.Mx ow' σ p->w.Mx ow σ p:=λp h=>h.elim .inl λ⟨i,h1,h2⟩ => .inr ⟨i,hs i h1,h2⟩
 have go:Goes w.F (w.Mx ow σ) H (w.Mx ow' σ) H:=λp o h _ m=>⟨h,λz=>m (sub p z)⟩
 refine ⟨e.gr,e.live,e.nf,λi hi => ?_,λi hi => ?_,λi hi j hj=>e.inj i (hs i hi) j (hs j hj),λf hf => ?_,e.tab,e.ts⟩
 ·by_cases hm:i∈ow
  ·obtain ⟨p,o,d,h1,h2,h3,h4,h5,h6⟩:=e.own i hm
   rw [h1,h2]
   have nm:¬ w.Mx ow' σ p:=λz=>by
    rcases z with z | ⟨j,hj,z⟩
    ·obtain ⟨o',y⟩:=e.live p z
     rw [h6] at y;cases y
    ·by_cases hij:i=j
     ·rw [hij] at hi;exact hi hj
     ·exact e.inj i hm j (hs j hj) hij p h1 z
   have h4:=h4.goes go
   cases d with
   | lst ds=>obtain ⟨vs,rfl,r⟩:=h4;exact ⟨p,vs,rfl,⟨h5,nm⟩,h3,r⟩
   | ins C ns ds=>obtain ⟨dx,gs,rfl,en,r⟩:=h4;exact ⟨p,dx,gs,rfl,⟨h5,nm⟩,h3,en,r⟩
   | dct ks ds=>obtain ⟨gs,rfl,en,r⟩:=h4;exact ⟨p,gs,rfl,⟨h5,nm⟩,h3,en,r⟩
   | _=>exact h4.elim
  ·exact (e.imm i hm).mono λd v=>Rep.goes go d v
 ·obtain ⟨p,o,d,h1,h2,h3,h4,h5⟩:=e.own i (hs i hi)
  exact ⟨p,o,d,h1,h2,h3,h4.goes go,h5⟩
 ·obtain ⟨c,h1,h2⟩:=e.feed f hf
  exact ⟨c,h1,λz=>h2 (sub c z)⟩
end
end MR
namespace MR
open PySem PySem.Spec PyProof.Rows L2
abbrev XP:=Exn->Prop
abbrev FE:=Env->(D->Prop)->XP->Prop
abbrev FT:=Env->(Bool->Prop)->XP->Prop
abbrev FA:=Env->(List D->Prop)->XP->Prop
def RepXs(K:W.Frag)(F:Fd)(M:Addr->Prop)(H:Hp):List (Str × D)->List (Str × V)->Prop
 | [],gs=>gs=[]
 | (n,d) :: r,gs=>∃ v gr,gs=(n,v) :: gr/\Rep K F M H d v/\RepXs K F M H r gr
def RepX(K:W.Frag)(F:Fd)(M:Addr->Prop)(H:Hp)(cls:Value)(dd:Option Addr)(x:Exn):Prop:=
 cls = .ref (He.ga K x.cls)/\((x.fs=[]/\dd=none)\/∃ a gs,dd=some a/\F.no a/\H a=some (.xd gs)/\RepXs K F M H x.fs gs)
abbrev Post(K:W.Frag)(F:Fd)(M:Addr->Prop)(H:Hp)(P:D->Prop)(Q:VK):Prop:=∀ d v H',P d->Gr K F H H'->Rep K F M H' d v->Q v H'
abbrev PostX(K:W.Frag)(F:Fd)(M:Addr->Prop)(H:Hp)(X:XP)(E:XK):Prop:=∀ x cls dd H',X x->Gr K F H H'->RepX K F M H' cls dd x->E cls dd H'
def SE(K:W.Frag)(Ta:List (Addr × Str))(ow:List Nat)(E:L2.St->XK)(ta:TE)(fa:FE):Prop:=
 ∀ (w:Wd) (H:Hp) (σ:L2.St) (ρ:Env) (P:D->Prop) (X:XP) (Q:VK),REnv K Ta w ow H σ ρ->fa ρ P X->Post K w.F (w.Mx ow σ) H P Q->PostX K w.F w.M H X (E σ)->ta σ H Q
def STt(K:W.Frag)(Ta:List (Addr × Str))(ow:List Nat)(E:L2.St->XK)(ta:TT)(fa:FT):Prop:=
 ∀ (w:Wd) (H:Hp) (σ:L2.St) (ρ:Env) (P:Bool->Prop) (X:XP) (Q:Bool->Hp->Prop),REnv K Ta w ow H σ ρ->fa ρ P X->(∀ b H',P b->Gr K w.F H H'->Q b H')->PostX K w.F w.M H X (E σ)->ta σ H Q
def SA(K:W.Frag)(Ta:List (Addr × Str))(ow:List Nat)(E:L2.St->XK)(ta:TA)(fa:FA):Prop:=
 ∀ (w:Wd) (H:Hp) (σ:L2.St) (ρ:Env) (P:List D->Prop) (X:XP) (Q:List V->Hp->Prop),REnv K Ta w ow H σ ρ->fa ρ P X->(∀ ds vs H',P ds->Gr K w.F H H'->Reps K w.F (w.Mx ow σ) H' ds vs->Q vs H')->PostX K w.F w.M H X (E σ)->ta σ H Q
structure Lv (K:W.Frag) (F:Fd) (M:Addr->Prop) (H:Hp):Prop where
 m:∀ p,M p->∃ o,H p=some o
 f:∀ f,F.f=some f->∃ c,FeedC K H f c/\¬ M c
 nf:∀ p,M p->F.no p
 t:LamX.Tabs F.T H
section
variable {K:W.Frag} {F:Fd} {M:Addr->Prop} {H H':Hp}
theorem FeedC.some{f c:Addr}(h:FeedC K H f c):∃ o,H f=some o:=let ⟨_,_,_,_,_,_,_,G,_⟩:=h;⟨_,G.ob⟩
theorem Lv.ok(l:Lv K F M H){p:Addr}(n:H p=none):Ok F M p:=by
 refine ⟨qKq l.t n λz => ?_,λz => ?_⟩
 ·obtain ⟨c,h,_⟩:=l.f p z
  obtain ⟨o,e⟩:=h.some
  rw [n] at e;cases e
 ·obtain ⟨o,e⟩:=l.m p z
  rw [n] at e;cases e
theorem Lv.gr(l:Lv K F M H)(g:Gr K F H H'):Lv K F M H':=⟨λp m=>let ⟨o,e⟩:=l.m p m;⟨o,g.old _ _ e (l.nf p m)⟩,λf e=>let ⟨c,h,n⟩:=l.f f e;⟨c,g.feed f c e h,n⟩,l.nf,g.tab l.t⟩
end
section
variable {K:W.Frag} {w:Wd} {ow:List Nat} {H H':Hp} {σ:L2.St} {ρ:Env} {E:L2.St->XK}
theorem REnv.lv(e:REnv K Ta w ow H σ ρ):Lv K w.F (w.Mx ow σ) H:=by
 refine ⟨λp m => ?_,e.feed,λp m => ?_,e.tab⟩
 ·rcases m with m | ⟨i,hi,z⟩
  ·obtain ⟨o,h⟩:=e.live p m
   exact ⟨o,e.gr.old _ _ h (e.nf p m)⟩
  ·obtain ⟨p',o,d,h1,_,h3,_⟩:=e.own i hi
   rw [h1] at z;cases z
   exact ⟨o,h3⟩
 ·rcases m with m | ⟨i,hi,z⟩
  ·exact e.nf p m
  ·obtain ⟨p',o,d,h1,_,h3,_,h5,_⟩:=e.own i hi
   rw [h1] at z;cases z
   exact h5
theorem RepXs.sub{F:Fd}{M M':Addr->Prop}(hM:∀ p,M p->M' p):∀ {fs:List (Str × D)} {gs:List (Str × V)},RepXs K F M' H fs gs->RepXs K F M H fs gs
 | [],_,h=>h
 | (n,d) :: r,_,h=>by
  obtain ⟨v,gr,rfl,h1,h2⟩:=h
  exact ⟨v,gr,rfl,Rep.goes (λp o e _ m=>⟨e,λz=>m (hM p z)⟩) _ _ h1,RepXs.sub hM h2⟩
theorem RepX.sub{F:Fd}{M M':Addr->Prop}{cls:Value}{dd:Option Addr}{x:Exn}(hM:∀ p,M p->M' p)(h:RepX K F M' H cls dd x):RepX K F M H cls dd x:=by
 obtain ⟨h1,h2 | ⟨a,gs,h2,h3,h4,h5⟩⟩:=h
 ·exact ⟨h1, .inl h2⟩
 ·exact ⟨h1, .inr ⟨a,gs,h2,h3,h4,h5.sub hM⟩⟩
theorem PostX.gr{F:Fd}{M M':Addr->Prop}{X:XP}{E:XK}(h:PostX K F M H X E)(g:Gr K F H H')(hM:∀ p,M p->M' p:=by first | exact λ_ h=>h | exact λ_ h=>Or.inl h):PostX K F M' H' X E:=λx cls dd H2 hx g2 r=>h x cls dd H2 hx (g.trans g2) (r.sub hM)
def qAf(i:Nat):FE:=λρ P _=>∃ d,ρ[i]?=some (some d)/\P d
theorem qAb{i:Nat}(hi:i ∉ ow):SE K Ta ow E (tVar i) (qAf i):=by
 intro w H σ ρ P X Q e h q x
 obtain ⟨d,hd,p⟩:=h
 have:=e.imm i hi
 rw [hd] at this
 cases hv:σ[i]? with
 | none=>rw [hv] at this;exact this.elim
 | some o=>
  rw [hv] at this
  cases o with
  | none=>exact this.elim
  | some v=>exact ⟨v,hv,q d v H p .refl this⟩
def fC(d:D):FE:=λ_ P _=>P d
theorem qAe{i:Int}:SE K Ta ow E (tC (.int i)) (fC (.int i)):=λw H σ ρ P X Q e h q x=>q _ _ _ h .refl rfl
theorem qDo{i:Bool}:SE K Ta ow E (tC (.bl i)) (fC (.bl i)):=λw H σ ρ P X Q e h q x=>q _ _ _ h .refl rfl
theorem qJm{i:Str}:SE K Ta ow E (tC (.str i)) (fC (.str i)):=λw H σ ρ P X Q e h q x=>q _ _ _ h .refl rfl
theorem qLo:SE K Ta ow E (tC .non) (fC .non):=λw H σ ρ P X Q e h q x=>q _ _ _ h .refl rfl
abbrev O2:=D->D->(D->Prop)->XP->Prop
abbrev O1:=D->(D->Prop)->XP->Prop
abbrev OL:=List D->(D->Prop)->XP->Prop
def OpS(K:W.Frag)(E:XK)(r:R2)(o:O2):Prop:=∀ (F:Fd) (M:Addr->Prop) (H:Hp) (x y:V) (a b:D) (P:D->Prop) (X:XP) (Q:VK),Lv K F M H->Rep K F M H a x->Rep K F M H b y->o a b P X->Post K F M H P Q->PostX K F M H X E->r x y H Q
def UnS(K:W.Frag)(E:XK)(r:V->Hp->VK->Prop)(o:O1):Prop:=∀ (F:Fd) (M:Addr->Prop) (H:Hp) (x:V) (a:D) (P:D->Prop) (X:XP) (Q:VK),Lv K F M H->Rep K F M H a x->o a P X->Post K F M H P Q->PostX K F M H X E->r x H Q
def LsS(K:W.Frag)(E:XK)(r:List V->Hp->VK->Prop)(o:OL):Prop:=∀ (F:Fd) (M:Addr->Prop) (H:Hp) (xs:List V) (as:List D) (P:D->Prop) (X:XP) (Q:VK),Lv K F M H->Reps K F M H as xs->o as P X->Post K F M H P Q->PostX K F M H X E->r xs H Q
def fOp(o:O2)(fa fb:FE):FE:=λρ P X=>fa ρ (λa=>fb ρ (λb=>o a b P X) X) X
def fUn(o:O1)(fa:FE):FE:=λρ P X=>fa ρ (λa=>o a P X) X
def fLs(o:OL)(fa:FA):FE:=λρ P X=>fa ρ (λas=>o as P X) X
theorem qAg{r:R2}{o:O2}{ta tb:TE}{fa fb:FE}(ho:∀ σ,OpS K (E σ) r o)(ha:SE K Ta ow E ta fa)(hb:SE K Ta ow E tb fb):SE K Ta ow E (tOp r ta tb) (fOp o fa fb):=by
 intro w H σ ρ P X Q e h q x
 refine ha w H σ ρ _ X _ e h (λa va H1 h1 g1 r1 => ?_) x
 refine hb w H1 σ ρ _ X _ (e.grow g1) h1 (λb vb H2 h2 g2 r2 => ?_) (x.gr g1)
 exact ho σ _ _ H2 _ _ _ _ P X Q ((e.grow g1).grow g2).lv (Rep.goes g2.goes _ _ r1) r2 h2 (λd v H3 hd g3 r3=>q d v H3 hd ((g1.trans g2).trans g3) r3) (x.gr (g1.trans g2))
theorem qN1{r:V->Hp->VK->Prop}{o:O1}{ta:TE}{fa:FE}(ho:∀ σ,UnS K (E σ) r o)(ha:SE K Ta ow E ta fa):SE K Ta ow E (tUn r ta) (fUn o fa):=by
 intro w H σ ρ P X Q e h q x
 refine ha w H σ ρ _ X _ e h (λa va H1 h1 g1 r1 => ?_) x
 exact ho σ _ _ H1 _ _ P X Q (e.grow g1).lv r1 h1 (λd v H3 hd g3 r3=>q d v H3 hd (g1.trans g3) r3) (x.gr g1)
theorem qCr{r:List V->Hp->VK->Prop}{o:OL}{ta:TA}{fa:FA}(ho:∀ σ,LsS K (E σ) r o)(ha:SA K Ta ow E ta fa):SE K Ta ow E (tCB r ta) (fLs o fa):=by
 intro w H σ ρ P X Q e h q x
 refine ha w H σ ρ _ X _ e h (λa va H1 h1 g1 r1 => ?_) x
 exact ho σ _ _ H1 _ _ P X Q (e.grow g1).lv r1 h1 (λd v H3 hd g3 r3=>q d v H3 hd (g1.trans g3) r3) (x.gr g1)
def qAu:FA:=λ_ P _=>P []
def qAc(fa:FE)(fr:FA):FA:=λρ P X=>fa ρ (λa=>fr ρ (λas=>P (a :: as)) X) X
theorem qAh:SA K Ta ow E tNil qAu:=λw H σ ρ P X Q e h q x=>q _ _ _ h .refl rfl
theorem qAa{ta:TE}{tr:TA}{fa:FE}{fr:FA}(ha:SE K Ta ow E ta fa)(hr:SA K Ta ow E tr fr):SA K Ta ow E (tCons ta tr) (qAc fa fr):=by
 intro w H σ ρ P X Q e h q x
 refine ha w H σ ρ _ X _ e h (λa va H1 h1 g1 r1 => ?_) x
 refine hr w H1 σ ρ _ X _ (e.grow g1) h1 (λb vb H2 h2 g2 r2 => ?_) (x.gr g1)
 exact q _ _ H2 h2 (g1.trans g2) (.cons (Rep.goes g2.goes _ _ r1) r2)
def toB(k:Bool->Prop):D->Prop
 | .bl b=>k b
 | _=>False
theorem qJo{k:Bool->Prop}{d:D}(h:toB k d):∃ b,d = .bl b/\k b:=by
 cases d with
 | bl b=>exact ⟨b,rfl,h⟩
 | _=>exact h.elim
def fB(fa:FE):FT:=λρ P X=>fa ρ (toB P) X
theorem qOn{ta:TE}{fa:FE}(ha:SE K Ta ow E ta fa):STt K Ta ow E (tB ta) (fB fa):=by
 intro w H σ ρ P X Q e h q x
 refine ha w H σ ρ _ X _ e h (λa va H1 h1 g1 r1 => ?_) x
 obtain ⟨b,rfl,p⟩:=qJo h1
 exact ⟨b,r1,q b H1 p g1⟩
theorem qAk{ta:TE}{fa:FE}(ha:SE K Ta ow E ta fa):STt K Ta ow E (tTest ta) (fB fa):=by
 intro w H σ ρ P X Q e h q x
 refine ha w H σ ρ _ X _ e h (λa va H1 h1 g1 r1 => ?_) x
 obtain ⟨b,rfl,p⟩:=qJo h1
 exact ⟨b,r1,q b H1 p g1⟩
def qJs(fa:FT):FT:=λρ P X=>fa ρ (λb=>P (!b)) X
theorem qJj{ta:TT}{fa:FT}(ha:STt K Ta ow E ta fa):STt K Ta ow E (tNot ta) (qJs fa):=by
 intro w H σ ρ P X Q e h q x
 exact ha w H σ ρ _ X _ e h (λb H1 h1 g1=>q _ H1 h1 g1) x
def qPe(fa fb:FT):FT:=λρ P X=>fa ρ (λc=>if c=true then fb ρ P X else P false) X
def fOr(fa fb:FT):FT:=λρ P X=>fa ρ (λc=>if c=true then P true else fb ρ P X) X
theorem qNr{ta tb:TT}{fa fb:FT}(ha:STt K Ta ow E ta fa)(hb:STt K Ta ow E tb fb):STt K Ta ow E (tOr ta tb) (fOr fa fb):=by
 intro w H σ ρ P X Q e h q x
 refine ha w H σ ρ _ X _ e h (λb H1 h1 g1 => ?_) x
 cases b with
 | false=>exact hb w H1 σ ρ _ X _ (e.grow g1) h1 (λb2 H2 h2 g2=>q _ H2 h2 (g1.trans g2)) (x.gr g1)
 | true=>exact q _ H1 h1 g1
def qNv(fa fb:FE):FE:=λρ P X=>fa ρ (toB λc=>if c=true then fb ρ P X else P (.bl false)) X
def qPc(fa fb:FE):FE:=λρ P X=>fa ρ (toB λc=>if c=true then P (.bl true) else fb ρ P X) X
def qNf(fa:FE):FE:=λρ P X=>fa ρ (toB λc=>P (.bl (!c))) X
def fIf(fc:FT)(fa fb:FE):FE:=λρ P X=>fc ρ (λc=>if c=true then fa ρ P X else fb ρ P X) X
def qK8:D->Option Bool
 | .non=>some false
 | .bl b=>some b
 | .int i=>some (i != 0)
 | .lst ds=>some !ds.isEmpty
 | .tup ds=>some !ds.isEmpty
 | _=>none
def qPm(fa:FE):FT:=λρ P X=>fa ρ (λd=>∃ k,qK8 d=some k/\P k) X
def qEw(fa:FA):FE:=λρ P X=>fa ρ (λds=>ds.length<=sizeLine/\P (.lst ds)) X
def qNi(fa:FA):FE:=λρ P X=>fa ρ (λds=>ds.length<=sizeLine/\P (.tup ds)) X
theorem qFq{F:Fd}{M:Addr->Prop}{p:Addr}{ds:List D}{vs:List V}(l:Lv K F M H)(np:H p=none)(r:Reps K F M H ds vs):Rep K F M (upd H p (.lst vs)) (.lst ds) (.ref p):=
 ⟨p,vs,rfl,l.ok np,upd_same,Reps.goes (Gr.new (K:=K) np).goes _ _ r⟩
theorem qIw{F:Fd}{M:Addr->Prop}{p:Addr}{ds:List D}{vs:List V}(l:Lv K F M H)(np:H p=none)(r:Reps K F M H ds vs):Rep K F M (upd H p (.tup vs)) (.tup ds) (.ref p):=
 ⟨p,vs,rfl,l.ok np,upd_same,Reps.goes (Gr.new (K:=K) np).goes _ _ r⟩
theorem qBx{ta:TA}{fa:FA}(ha:SA K Ta ow E ta fa):SE K Ta ow E (tLst ta) (qEw fa):=by
 intro w H σ ρ P X Q e h q x
 refine ha w H σ ρ _ X _ e h (λds vs H1 h1 g1 r1=>⟨by rw [r1.length];exact h1.1,λp np => ?_⟩) x
 exact q _ _ _ h1.2 (g1.trans (.new np)) (qFq (e.grow g1).lv np r1)
theorem qMu{ta:TA}{fa:FA}(ha:SA K Ta ow E ta fa):SE K Ta ow E (tTup ta) (qNi fa):=by
 intro w H σ ρ P X Q e h q x
 refine ha w H σ ρ _ X _ e h (λds vs H1 h1 g1 r1=>⟨by rw [r1.length];exact h1.1,λp np => ?_⟩) x
 exact q _ _ _ h1.2 (g1.trans (.new np)) (qIw (e.grow g1).lv np r1)
abbrev FSp:=List D->(D->Prop)->XP->Prop
def lift(K:W.Frag)(fsp:FSp):Sp:=λvs H Q E=>∃ (F:Fd) (M:Addr->Prop) (ds:List D) (P:D->Prop) (X:XP),Lv K F M H/\Reps K F M H ds vs/\fsp ds P X/\Post K F M H P Q/\PostX K F M H X E
def Lift(K:W.Frag)(sp:Sp)(fsp:FSp):Prop:=∀ vs H Q E,lift K fsp vs H Q E->sp vs H Q E
theorem Lift.refl{fsp:FSp}:Lift K (lift K fsp) fsp:=λ_ _ _ _ h=>h
def qNx(fsp:FSp)(es:List D)(fa:FA):FE:=λρ P X=>fa ρ (λds=>fsp (ds ++ es) P X) X
def qBt(fsp:FSp)(es:List D)(fa:FA):FE:=λρ P X=>fa ρ (λds=>fsp (ds ++ es) P (λ_=>False)) X
def Cst:List D->List V->Prop
 | [],vs=>vs=[]
 | d :: ds,vs=>∃ v us,vs=v :: us/\(∀ (F:Fd) (M:Addr->Prop) (H:Hp),Rep K F M H d v)/\Cst ds us
theorem Cst.reps{F:Fd}{M:Addr->Prop}{H:Hp}:∀ {ds:List D} {vs:List V},Cst (K:=K) ds vs->Reps K F M H ds vs
 | [],_,h=>h
 | _ :: _,_,h=>by obtain ⟨v,us,rfl,h1,h2⟩:=h;exact ⟨v,us,rfl,h1 F M H,Cst.reps h2⟩
theorem qC6:Cst (K:=K) [] []:=rfl
theorem qCe{sp:Sp}{fsp:FSp}{dvs:List V}{es:List D}{ta:TA}{fa:FA}(L:Lift K sp fsp)(c:Cst (K:=K) es dvs)(ha:SA K Ta ow E ta fa):SE K Ta ow E (tCall sp dvs E0 ta) (qBt fsp es fa):=by
 intro w H σ ρ P X Q e h q x
 refine ha w H σ ρ _ X _ e h (λds vs H1 h1 g1 r1=>L _ _ _ _ ?_) x
 exact ⟨_,_,_,P,_,(e.grow g1).lv,r1.append c.reps,h1,λd v H2 hd g2 r2=>q d v H2 hd (g1.trans g2) r2,λx' _ _ _ z _ _=>z⟩
def InsD(C m:Str):D->Prop
 | .rat _=>C="Ratio"/\m≠"top"/\m≠"bottom"
 | .poly _=>C="Poly"/\m≠"coefficients"/\m≠"degree"/\m≠"lead"
 | .ins C' ns _=>C'=C/\m ∉ ns
 | _=>False
theorem qA8{m:Str}:∀ {gs:List (Str × V)},m ∉ gs.map Prod.fst->gs.lookup m=none
 | [],_=>rfl
 | (n,v) :: gs,h=>by
  simp only [List.map_cons,List.mem_cons,not_or] at h
  have hb:(m == n)=false:=beq_eq_false_iff_ne.mpr h.1
  simp only [List.lookup,hb]
  exact qA8 h.2
theorem InsD.at{C m:Str}{F:Fd}{M:Addr->Prop}{d:D}{v:V}(h:InsD C m d)(r:Rep K F M H d v):∃ a dx fs,v = .ref a/\H a=some (.ins (He.ga K C) dx fs)/\fs.lookup m=none:=by
 cases d with
 | rat q=>
  obtain ⟨rfl,n1,n2⟩:=h
  obtain ⟨p,rfl,_,dx,e⟩:=r
  exact ⟨p,dx,_,rfl,e,qA8 (by simp [qO4,n1,n2])⟩
 | poly cs=>
  obtain ⟨rfl,n1,n2,n3⟩:=h
  obtain ⟨p,dx,t,l,vs,rfl,_,e,_⟩:=r
  exact ⟨p,dx,_,rfl,e,qA8 (by simp [qMz,n1,n2,n3])⟩
 | ins C' ns ds=>
  obtain ⟨rfl,n1⟩:=h
  obtain ⟨p,dx,gs,rfl,_,e,en,_⟩:=r
  exact ⟨p,dx,_,rfl,e,qA8 (by rw [en];exact n1)⟩
 | _=>exact h.elim
def qNj(C m:Str)(fsp:FSp)(fo:FE)(fa:FA):FE:=λρ P X=>fo ρ (λo=>InsD C m o/\fa ρ (λds=>fsp (o :: ds) P X) X) X
def qLi(C m:Str)(fsp:FSp)(fo:FE)(fa:FA):FE:=λρ P X=>fo ρ (λo=>InsD C m o/\fa ρ (λds=>fsp (o :: ds) P (λ_=>False)) X) X
def qPj(f:Str):D->Option D
 | .rat q=>if f="top" then some (.int q.num) else if f="bottom" then some (.int (q.den:Nat)) else none
 | .poly cs=>if f="coefficients" then some (.tup (cs.map D.rat)) else if f="degree" then some (.int ((cs.length:Int) - 1)) else if f="lead" then some (.rat (qJa cs)) else none
 | .ins _ ns ds=>(ns.zip ds).lookup f
 | _=>none
def qI8:D->Option Str
 | .rat _=>some "Ratio"
 | .poly _=>some "Poly"
 | .ins C _ _=>some C
 | _=>none
theorem qDu{F:Fd}{M:Addr->Prop}{f:Str}{d:D}:∀ {gs:List (Str × V)} {ds:List D},Reps K F M H ds (gs.map Prod.snd)->((gs.map Prod.fst).zip ds).lookup f=some d->∃ v,gs.lookup f=some v/\Rep K F M H d v
 | [],_,_,h=>by simp at h
 | (n,v) :: gs,[],r,h=>by simp at h
 | (n,v) :: gs,e :: ds,r,h=>by
  obtain ⟨u,us,e1,r1,r2⟩:=r
  simp only [List.map_cons,List.cons.injEq] at e1
  obtain ⟨rfl,rfl⟩:=e1
  simp only [List.map_cons,List.zip_cons_cons,List.lookup] at h ⊢
  split at h
  ·cases h
   exact ⟨v,rfl,r1⟩
  ·exact qDu r2 h
structure FldOk (K:W.Frag) (C f:Str):Prop where
 cl:Cls K (He.ga K C)
 na:NoAttr K (He.ga K C) f
def qPs(C f:Str)(fa:FE):FE:=λρ P X=>fa ρ (λa=>qI8 a=some C/\∃ d,qPj f a=some d/\P d) X
def qOw(fa:FE):FE:=λρ P X=>fa ρ (λd=>d.noL=true/\P d) X
theorem REnv.lists{w:Wd}{σ:L2.St}{ρ:Env}(e:REnv K Ta w ow H σ ρ)(hl:∀ i,i∈ow->∃ ds,ρ[i]?=some (some (.lst ds))):Lists (Mo ow σ) H:=λp ⟨i,hi,z⟩=>by
 obtain ⟨p',o,d,h1,h2,h3,h4,_⟩:=e.own i hi
 obtain ⟨ds,h5⟩:=hl i hi
 rw [h1] at z;cases z
 rw [h2] at h5;cases h5
 obtain ⟨vs,rfl,_⟩:=h4
 exact ⟨vs,h3⟩
def qNs(ow:List Nat)(ρ:Env):Prop:=∀ i,i∈ow->∃ ds,ρ[i]?=some (some (.lst ds))
end
structure FEnds where
 nx:Env->Prop
 rt:D->Prop
 bk:Env->Prop
 ct:Env->Prop
 ex:Exn->Env->Prop
 rf:D->Prop
abbrev FS:=FEnds->Env->Prop
def New(K:W.Frag)(F:Fd)(M:Addr->Prop)(H0 H:Hp)(d:D)(v:V):Prop:=∃ p o,v = .ref p/\H0 p=none/\F.no p/\H p=some o/\RepO K F (λq=>M q\/q=p) H d o
structure EOk (K:W.Frag) (Ta:List (Addr × Str)) (w:Wd) (ow' owb owx:List Nat) (E:L2.St->XK) (N:L2.Ends) (FD:FEnds):Prop where
 nx:∀ ρ σ H,FD.nx ρ->REnv K Ta w ow' H σ ρ->N.nx σ H
 rt:∀ d v H,FD.rt d->Gr K w.F w.H0 H->Rep K w.F w.M H d v->N.rt v H
 bk:∀ ρ σ H,FD.bk ρ->REnv K Ta w owb H σ ρ->N.bk σ H
 ct:∀ ρ σ H,FD.ct ρ->REnv K Ta w owb H σ ρ->N.ct σ H
 ex:∀ x ρ σ H cls dd,FD.ex x ρ->REnv K Ta w owx H σ ρ->RepX K w.F w.M H cls dd x->E σ cls dd H
 rf:∀ d v H,FD.rf d->Gr K w.F w.H0 H->New K w.F w.M w.H0 H d v->N.rt v H
def SS(K:W.Frag)(Ta:List (Addr × Str))(ow ow' owb owx:List Nat)(E:L2.St->XK)(ts:TS)(fs:FS):Prop:=
 ∀ (w:Wd) (H:Hp) (σ:L2.St) (ρ:Env) (N:L2.Ends) (FD:FEnds),REnv K Ta w ow H σ ρ->fs FD ρ->EOk K Ta w ow' owb owx E N FD->ts N σ H
section
variable {K:W.Frag} {w:Wd} {ow ow' ow1 owb owx:List Nat} {H H':Hp} {σ:L2.St} {ρ:Env} {E:L2.St->XK} {N:L2.Ends} {FD:FEnds}
abbrev Sub(a b:List Nat):Prop:=∀ i,i∈a->i∈b
theorem EOk.px(k:EOk K Ta w ow' owb owx E N FD)(e:REnv K Ta w ow H σ ρ)(hs:Sub owx ow):PostX K w.F w.M H (λx=>FD.ex x ρ) (E σ):=λx cls dd H' hx g r=>k.ex x ρ σ H' cls dd hx ((e.grow g).free hs) r
def qAp:FS:=λFD ρ=>FD.nx ρ
theorem qAj(hs:Sub ow' ow):SS K Ta ow ow' owb owx E tNext qAp:=λw H σ ρ N FD e h k=>k.nx ρ σ H h (e.free hs)
def qAy(f g:FS):FS:=λFD ρ=>f { FD with nx:=g FD } ρ
theorem qAi{t u:TS}{f g:FS}(h1:SS K Ta ow ow1 owb owx E t f)(h2:SS K Ta ow1 ow' owb owx E u g):SS K Ta ow ow' owb owx E (tSeq t u) (qAy f g):=
 λw H σ ρ N FD e h k=>h1 w H σ ρ _ _ e h ⟨λρ' σ' H' h' e'=>h2 w H' σ' ρ' N FD e' h' k,k.rt,k.bk,k.ct,k.ex,k.rf⟩
theorem qKv{t:TS}{f:FS}(hs:Sub ow1 ow)(h:SS K Ta ow1 ow' owb owx E t f):SS K Ta ow ow' owb owx E t f:=λw H σ ρ N FD e q k=>h w H σ ρ N FD (e.free hs) q k
theorem qAt{α:Type}{l:List α}{i j:Nat}{x:α}:(l.set i x)[j]?=if i=j then (if j<l.length then some x else none) else l[j]?:=by
 rw [List.getElem?_set]
 split
 ·rename_i h;subst h;rfl
 ·rfl
theorem qLv{i:Nat}{x:Option V}(hi:i ∉ ow)(p:Addr):Mo ow (σ.set i x) p↔Mo ow σ p:=by
 have:∀ j,j∈ow->(σ.set i x)[j]?=σ[j]?:=λj hj=>by
  rw [qAt,if_neg (λz=>hi (by rw [z];exact hj))]
 exact ⟨λ⟨j,hj,z⟩=>⟨j,hj,by rw [<-this j hj];exact z⟩,λ⟨j,hj,z⟩=>⟨j,hj,by rw [this j hj];exact z⟩⟩
theorem Sl.len{R:D->V->Prop}{i:Nat}(h:Sl R ρ[i]? σ[i]?):i<ρ.length↔i<σ.length:=by
 cases h1:ρ[i]? with
 | none=>
  cases h2:σ[i]? with
  | none=>
   have:=List.getElem?_eq_none_iff.mp h1
   have:=List.getElem?_eq_none_iff.mp h2
   omega
  | some b=>rw [h1,h2] at h;exact h.elim
 | some a=>
  cases h2:σ[i]? with
  | none=>rw [h1,h2] at h;cases a <;> exact h.elim
  | some b=>
   have:=(List.getElem?_eq_some_iff.mp h1).1
   have:=(List.getElem?_eq_some_iff.mp h2).1
   omega
theorem REnv.put{i:Nat}{d:D}{v:V}(e:REnv K Ta w ow H σ ρ)(hi:i ∉ ow)(r:Rep K w.F (w.Mx ow σ) H d v):REnv K Ta w ow H (σ.set i (some v)) (ρ.set i (some d)):=by
 have mm:∀ p,w.Mx ow (σ.set i (some v)) p↔w.Mx ow σ p:=λp=>or_congr .rfl (qLv hi p)
 have go:Goes w.F (w.Mx ow σ) H (w.Mx ow (σ.set i (some v))) H:=λp o h _ m=>⟨h,λz=>m ((mm p).mp z)⟩
 have same:∀ j,j∈ow->(σ.set i (some v))[j]?=σ[j]?/\(ρ.set i (some d))[j]?=ρ[j]?:=λj hj=>by
  have:i≠j:=λz=>hi (by rw [z];exact hj)
  rw [qAt,qAt,if_neg this,if_neg this]
  exact ⟨rfl,rfl⟩
 refine ⟨e.gr,e.live,e.nf,λj hj => ?_,λj hj => ?_,λj hj k hk n p => ?_,λf hf => ?_,e.tab,e.ts⟩
 ·rw [qAt,qAt]
  have z:=e.imm j hj
  split
  ·rename_i h
   have hl:=z.len
   by_cases hlt:j<ρ.length
   ·rw [if_pos hlt,if_pos (hl.mp hlt)]
    exact Rep.goes go d v r
   ·rw [if_neg hlt,if_neg (λy=>hlt (hl.mpr y))]
    trivial
  ·exact z.mono λd' v'=>Rep.goes go d' v'
 ·obtain ⟨p,o,d',h1,h2,h3,h4,h5⟩:=e.own j hj
  exact ⟨p,o,d',by rw [(same j hj).1];exact h1,by rw [(same j hj).2];exact h2,h3,h4.goes go,h5⟩
 ·rw [(same j hj).1,(same k hk).1]
  exact e.inj j hj k hk n p
 ·obtain ⟨c,h1,h2⟩:=e.feed f hf
  exact ⟨c,h1,λz=>h2 ((mm c).mp z)⟩
theorem REnv.take{i:Nat}{d:D}{p:Addr}{o:HO}(e:REnv K Ta w ow H σ ρ)(hi:i ∉ ow)(hl:i<σ.length)(np:H p=none)(g:Gr K w.F H H')(ho:H' p=some o)(r:RepO K w.F (λq=>w.Mx ow σ q\/q=p) H' d o):REnv K Ta w (i :: ow) H' (σ.set i (some (.ref p))) (ρ.set i (some d)):=by
 have ok:=e.lv.ok np
 have n0:w.H0 p=none:=by
  cases z:w.H0 p with
  | none=>rfl
  | some o'=>rw [e.gr.old _ _ z ok.1] at np;cases np
 have mm:∀ q,w.Mx (i :: ow) (σ.set i (some (.ref p))) q->w.Mx ow σ q\/q=p:=λq h=>by
  rcases h with h | ⟨j,hj,z⟩
  ·exact .inl (.inl h)
  ·rw [qAt] at z
   by_cases hij:i=j
   ·rw [if_pos hij,if_pos (by rw [<-hij];exact hl)] at z
    cases z;exact .inr rfl
   ·rw [if_neg hij] at z
    exact .inl (.inr ⟨j,(List.mem_cons.mp hj).elim (λy=>absurd y.symm hij) id,z⟩)
 have e':=e.grow g
 have dif:∀ q u,H q=some u->q≠p:=λq u h z=>by rw [z,np] at h;cases h
 have go:Goes w.F (w.Mx ow σ) H (w.Mx (i :: ow) (σ.set i (some (.ref p)))) H':=λq u h nf m=>⟨g.old _ _ h nf,λz=>(mm q z).elim m (dif q u h)⟩
 refine ⟨e'.gr,e.live,e.nf,λj hj => ?_,λj hj => ?_,λj hj k hk n q => ?_,λf hf => ?_,e'.tab,e.ts⟩
 ·have hij:i≠j:=λz=>hj (by rw [z];exact List.mem_cons_self)
  rw [qAt,qAt,if_neg hij,if_neg hij]
  exact (e.imm j λz=>hj (List.mem_cons_of_mem _ z)).mono λd' v'=>Rep.goes go d' v'
 ·by_cases hij:i=j
  ·subst hij
   have hlr:i<ρ.length:=(e.imm i hi).len.mpr hl
   refine ⟨p,o,d,by rw [qAt,if_pos rfl,if_pos hl],by rw [qAt,if_pos rfl,if_pos hlr],ho, ?_,ok.1,n0⟩
   exact r.goes λq u hq nf m=>⟨hq,λz=>m (mm q z)⟩
  ·have hj':j∈ow:=(List.mem_cons.mp hj).elim (λy=>absurd y.symm hij) id
   obtain ⟨p',o',d',h1,h2,h3,h4,h5⟩:=e.own j hj'
   exact ⟨p',o',d',by rw [qAt,if_neg hij];exact h1,by rw [qAt,if_neg hij];exact h2,g.old _ _ h3 h5.1,h4.goes go,h5⟩
 ·have at_:∀ k,k∈i :: ow->i≠k->k∈ow/\(σ.set i (some (.ref p)))[k]?=σ[k]?:=λk hk n=>⟨(List.mem_cons.mp hk).elim (λy=>absurd y.symm n) id,by rw [qAt,if_neg n]⟩
  have me:(σ.set i (some (V.ref p)))[i]?=some (some (.ref p)):=by rw [qAt,if_pos rfl,if_pos hl]
  have ne:∀ k,k∈ow->σ[k]?≠some (some (.ref p)):=λk hk z=>by
   obtain ⟨p',o',d',h1,h2,h3,_⟩:=e.own k hk
   rw [h1] at z;cases z
   rw [np] at h3;cases h3
  by_cases hj':i=j
  ·subst hj'
   obtain ⟨k1,k2⟩:=at_ k hk n
   rw [me,k2]
   intro z;cases z
   exact ne k k1
  ·obtain ⟨j1,j2⟩:=at_ j hj hj'
   by_cases hk':i=k
   ·subst hk'
    rw [me,j2]
    intro z y;cases y
    exact ne j j1 z
   ·obtain ⟨k1,k2⟩:=at_ k hk hk'
    rw [j2,k2]
    exact e.inj j j1 k k1 n q
 ·obtain ⟨c,h1,h2⟩:=e.feed f hf
  refine ⟨c,g.feed f c hf h1,λz=>(mm c z).elim h2 λy => ?_⟩
  subst y
  obtain ⟨ns,a1,a2,a3,a4,a5,o',G,z'⟩:=h1
  rw [np] at z';cases z'
theorem REnv.chg{i:Nat}{d:D}{p:Addr}{o:HO}(e:REnv K Ta w ow H σ ρ)(hi:i∈ow)(hp:σ[i]?=some (some (.ref p)))(r:RepO K w.F (w.Mx ow σ) H d o):REnv K Ta w ow (upd H p o) σ (ρ.set i (some d)):=by
 obtain ⟨p',o',d',h1,h2,h3,h4,h5,h6⟩:=e.own i hi
 have pe:p'=p:=by
  rw [h1] at hp
  cases hp;rfl
 subst pe
 have mp:w.Mx ow σ p' := .inr ⟨i,hi,h1⟩
 have go:Goes w.F (w.Mx ow σ) H (w.Mx ow σ) (upd H p' o):=λq u h nf m=>⟨by rw [upd_ne (λz=>m (by rw [z];exact mp))];exact h,m⟩
 have hlr:i<ρ.length:=(List.getElem?_eq_some_iff.mp h2).1
 have fd:∀ f,w.F.f=some f->p'≠f:=λf hf z=>h5.1 (by rw [hf,z])
 refine ⟨⟨λb u h n => ?_,λf c hf h => ?_,λz=>qFx (e.gr.tab z) h3 h4.pl⟩,e.live,e.nf,λj hj => ?_,λj hj => ?_,e.inj,λf hf => ?_,qFx e.tab h3 h4.pl,e.ts⟩
 ·rw [upd_ne (λz=>by rw [z,h6] at h;cases h)]
  exact e.gr.old b u h n
 ·obtain ⟨c',k1,k2⟩:=e.feed f hf
  have k3:=e.gr.feed f c hf h
  have:c'=c:=by
   obtain ⟨_,_,_,_,_,_,_,G,_⟩:=k1
   obtain ⟨_,_,_,_,_,_,_,G',_⟩:=k3
   have z:=G.ob.symm.trans G'.ob
   simp only [Option.some.injEq,HO.lst.injEq,List.cons.injEq,V.ref.injEq] at z
   exact z.1
  subst this
  exact k3.keep (fd f hf) λz=>k2 (by rw [<-z];exact mp)
 ·have hij:i≠j:=λz=>hj (by rw [<-z];exact hi)
  rw [qAt,if_neg hij]
  exact (e.imm j hj).mono λd' v'=>Rep.goes go d' v'
 ·by_cases hij:i=j
  ·subst hij
   exact ⟨p',o,d,h1,by rw [qAt,if_pos rfl,if_pos hlr],upd_same,r.goes go,h5,h6⟩
  ·obtain ⟨q,u,d2,k1,k2,k3,k4,k5⟩:=e.own j hj
   refine ⟨q,u,d2,k1,by rw [qAt,if_neg hij];exact k2, ?_,k4.goes go,k5⟩
   rw [upd_ne (λz=>e.inj i hi j hj hij p' h1 (by rw [k1,z]))]
   exact k3
 ·obtain ⟨c,k1,k2⟩:=e.feed f hf
  exact ⟨c,k1.keep (fd f hf) λz=>k2 (by rw [<-z];exact mp),k2⟩
open Classical in
noncomputable def Wd.re (w:Wd) (M:Addr->Prop) (H:Hp):Wd := { w with H0:=λp=>if M p then none else H p }
theorem qIy{f c c':Addr}(k1:FeedC K H f c')(k3:FeedC K H f c):c'=c:=by
 obtain ⟨_,_,_,_,_,_,_,G,_⟩:=k1
 obtain ⟨_,_,_,_,_,_,_,G',_⟩:=k3
 have z:=G.ob.symm.trans G'.ob
 simp only [Option.some.injEq,HO.lst.injEq,List.cons.injEq,V.ref.injEq] at z
 exact z.1
theorem qK4{M:Addr->Prop}{p:Addr}(h:M p):(w.re M H).H0 p=none:=if_pos h
theorem qB6{M:Addr->Prop}{p:Addr}(h:¬ M p):(w.re M H).H0 p=H p:=if_neg h
theorem REnv.nM(e:REnv K Ta w ow H σ ρ){p:Addr}{o:HO}(h:w.H0 p=some o):¬ Mo ow σ p:=λ⟨i,hi,z⟩=>by
 obtain ⟨p',o',d',h1,_,_,_,_,h6⟩:=e.own i hi
 rw [h1] at z;cases z
 rw [h6] at h;cases h
theorem FeedC.re{M:Addr->Prop}{f c:Addr}(h:FeedC K H f c)(h1:¬ M f)(h2:¬ M c):FeedC K (w.re M H).H0 f c:=by
 obtain ⟨ns,a1,a2,a3,a4,a5,o',G,e⟩:=h
 refine ⟨ns,a1,a2,a3,a4,a5,o',⟨by rw [qB6 h1];exact G.ob, ?_,G.ne,G.nn,G.p0,G.b0,G.l0,G.n0,G.s0⟩,by rw [qB6 h2];exact e⟩
 rcases G.cs with (h | ⟨o,h⟩) | h
 ·exact .inl (.inl (by rw [qB6 h2];exact h))
 ·exact .inl (.inr ⟨o,by rw [qB6 h2];exact h⟩)
 ·exact .inr h
theorem REnv.re(e:REnv K Ta w ow H σ ρ):REnv K Ta (w.re (Mo ow σ) H) ow H σ ρ:=by
 refine ⟨⟨λb o h n => ?_,λf c hf h => ?_,λ_=>e.tab⟩,λp m => ?_,e.nf,e.imm,λi hi => ?_,e.inj,e.feed,e.tab,e.ts⟩
 ·by_cases hm:Mo ow σ b
  ·rw [qK4 hm] at h;cases h
  ·rw [qB6 hm] at h;exact h
 ·obtain ⟨ns,a1,a2,a3,a4,a5,o',G,e'⟩:=h
  have out:∀ {b:Addr} {u:HO},(w.re (Mo ow σ) H).H0 b=some u->H b=some u:=λ{b u} h=>by
   by_cases hm:Mo ow σ b
   ·rw [qK4 hm] at h;cases h
   ·rw [qB6 hm] at h;exact h
  refine ⟨ns,a1,a2,a3,a4,a5,o',⟨out G.ob, ?_,G.ne,G.nn,G.p0,G.b0,G.l0,G.n0,G.s0⟩,out e'⟩
  rcases G.cs with (h | ⟨o,h⟩) | h
  ·exact .inl (.inl (out h))
  ·exact .inl (.inr ⟨o,out h⟩)
  ·exact .inr h
 ·obtain ⟨o,h⟩:=e.live p m
  rw [qB6 (e.nM h)]
  exact ⟨o,e.gr.old _ _ h (e.nf p m)⟩
 ·obtain ⟨p,o,d,h1,h2,h3,h4,h5,h6⟩:=e.own i hi
  exact ⟨p,o,d,h1,h2,h3,h4,h5,qK4 ⟨i,hi,h1⟩⟩
theorem REnv.tabRe(e:REnv K Ta w ow H σ ρ):LamX.Tabs w.F.T (w.re (Mo ow σ) H).H0:=qEt e.tab λb o h n=>by
 rw [qB6]
 ·exact h
 ·rintro ⟨i,hi,z⟩
  obtain ⟨p',o',d',h1,_,h3,h4,_⟩:=e.own i hi
  rw [h1] at z;cases z
  rw [h] at h3;cases h3
  exact n h4.pl
theorem qHl(e:REnv K Ta w ow H σ ρ):Gr K w.F w.H0 (w.re (Mo ow σ) H).H0:=by
 refine ⟨λb o h n => ?_,λf c hf h => ?_,λ_=>e.tabRe⟩
 ·rw [qB6 (e.nM h)]
  exact e.gr.old b o h n
 ·have k:=e.gr.feed f c hf h
  obtain ⟨c',k1,k2⟩:=e.feed f hf
  have:=qIy k1 k
  subst this
  refine k.re (λ⟨i,hi,z⟩ => ?_) λz=>k2 (.inr z)
  obtain ⟨p',o',d',h1,_,_,_,h5,_⟩:=e.own i hi
  rw [h1] at z;cases z
  exact h5.1 hf
theorem REnv.un{H2:Hp}{σ2:L2.St}{ρ2:Env}{ow2:List Nat}(e:REnv K Ta w ow H σ ρ)(e2:REnv K Ta (w.re (Mo ow σ) H) ow2 H2 σ2 ρ2):REnv K Ta w ow2 H2 σ2 ρ2:=by
 refine ⟨(qHl e).trans e2.gr,e.live,e.nf,e2.imm,λi hi => ?_,e2.inj,e2.feed,e2.tab,e.ts⟩
 obtain ⟨p,o,d,h1,h2,h3,h4,h5,h6⟩:=e2.own i hi
 refine ⟨p,o,d,h1,h2,h3,h4,h5, ?_⟩
 cases z:w.H0 p with
 | none=>rfl
 | some o'=>
  rw [(qHl e).old p o' z h5] at h6
  cases h6
theorem New.un{H2:Hp}{d:D}{v:V}(e:REnv K Ta w ow H σ ρ)(h:New K w.F w.M (w.re (Mo ow σ) H).H0 H2 d v):New K w.F w.M w.H0 H2 d v:=by
 obtain ⟨p,o,rfl,h0,hn,h1,h2⟩:=h
 refine ⟨p,o,rfl, ?_,hn,h1,h2⟩
 cases z:w.H0 p with
 | none=>rfl
 | some o'=>
  rw [(qHl e).old p o' z hn] at h0
  cases h0
theorem REnv.goes{H2:Hp}{σ2:L2.St}{ρ2:Env}{ow2:List Nat}(e2:REnv K Ta (w.re (Mo ow σ) H) ow2 H2 σ2 ρ2):Goes w.F (w.Mx ow σ) H (w.Mx ow2 σ2) H2:=by
 intro p o h nf m
 have n:¬ Mo ow σ p:=λz=>m (.inr z)
 have h0:(w.re (Mo ow σ) H).H0 p=some o:=by rw [qB6 n];exact h
 refine ⟨e2.gr.old p o h0 nf,λz => ?_⟩
 rcases z with z | z
 ·exact m (.inl z)
 ·exact e2.nM h0 z
end
def SF(K:W.Frag)(Ta:List (Addr × Str))(ow:List Nat)(E:L2.St->XK)(ta:TE)(fa:FE):Prop:=
 ∀ (w:Wd) (H:Hp) (σ:L2.St) (ρ:Env) (P:D->Prop) (X:XP) (Q:VK),REnv K Ta w ow H σ ρ->fa ρ P X->
  (∀ d p o H',P d->Gr K w.F H H'->H p=none->H' p=some o->RepO K w.F (λq=>w.Mx ow σ q\/q=p) H' d o->Q (.ref p) H')->PostX K w.F w.M H X (E σ)->ta σ H Q
section
variable {K:W.Frag} {w:Wd} {ow ow' ow1 owb owx:List Nat} {H H':Hp} {σ:L2.St} {ρ:Env} {E:L2.St->XK} {N:L2.Ends} {FD:FEnds}
theorem RepO.rep{F:Fd}{M:Addr->Prop}{d:D}{o:HO}{p:Addr}(r:RepO K F M H d o)(ok:Ok F M p)(h:H p=some o):Rep K F M H d (.ref p):=by
 cases d with
 | lst ds=>obtain ⟨vs,rfl,r⟩:=r;exact ⟨p,vs,rfl,ok,h,r⟩
 | ins C ns ds=>obtain ⟨dx,gs,rfl,en,r⟩:=r;exact ⟨p,dx,gs,rfl,ok,h,en,r⟩
 | dct ks ds=>obtain ⟨gs,rfl,en,r⟩:=r;exact ⟨p,gs,rfl,ok,h,en,r⟩
 | _=>exact r.elim
theorem qLm{ta:TA}{fa:FA}(ha:SA K Ta ow E ta fa):SF K Ta ow E (tLst ta) (qEw fa):=by
 intro w H σ ρ P X Q e h q x
 refine ha w H σ ρ _ X _ e h (λds vs H1 h1 g1 r1=>⟨by rw [r1.length];exact h1.1,λp np => ?_⟩) x
 have n0:H p=none:=by
  cases z:H p with
  | none=>rfl
  | some o=>rw [g1.old p o z ((e.grow g1).lv.ok np).1] at np;cases np
 refine q _ p _ _ h1.2 (g1.trans (.new np)) n0 upd_same ⟨vs,rfl,Reps.goes (λa u h nf m => ?_) _ _ r1⟩
 have ne:a≠p:=λz=>by rw [z,np] at h;cases h
 exact ⟨by rw [upd_ne ne];exact h,λz=>z.elim m ne⟩
def qB7(i:Nat)(fe:FE):FS:=λFD ρ=>fe ρ (λd=>FD.nx (ρ.set i (some d))) (λx=>FD.ex x ρ)
theorem qAz{i:Nat}{te:TE}{fe:FE}(hi:i ∉ ow)(hs:Sub owx ow)(he:SE K Ta ow E te fe):SS K Ta ow ow owb owx E (tAsg te (gName i)) (qB7 i fe):=by
 intro w H σ ρ N FD e h k
 exact he w H σ ρ _ _ _ e h (λd v H' hd g r=>k.nx _ _ _ hd ((e.grow g).put hi r)) (k.px e hs)
theorem qL8{i:Nat}{te:TE}{fe:FE}(hi:i ∉ ow)(hs:Sub owx ow)(he:SF K Ta ow E te fe):SS K Ta ow (i :: ow) owb owx E (tAsg te (gName i)) (λFD ρ=>i<ρ.length/\qB7 i fe FD ρ):=by
 intro w H σ ρ N FD e h k
 have hl:i<σ.length:=(e.imm i hi).len.mp h.1
 exact he w H σ ρ _ _ _ e h.2 (λd p o H' hd g np ho r=>k.nx _ _ _ hd (e.take hi hl np g ho r)) (k.px e hs)
def qPt(i j:Nat)(fa:FA):FS:=λFD ρ=>fa ρ (λds=>∃ a b,ds=[a,b]/\FD.nx ((ρ.set i (some a)).set j (some b))) (λx=>FD.ex x ρ)
def qBb(fe:FE):FS:=λFD ρ=>fe ρ FD.rt (λx=>FD.ex x ρ)
theorem qAo{te:TE}{fe:FE}(hs:Sub owx ow)(he:SE K Ta [] E te fe):SS K Ta ow ow' owb owx E (tRet te) (qBb fe):=by
 intro w H σ ρ N FD e h k
 refine he w H σ ρ _ _ _ (e.free (λ_ z=>nomatch z)) h (λd v H' hd g r=>k.rt d v H' hd (e.gr.trans g) ?_) (k.px e hs)
 exact Rep.goes (λp o h _ m=>⟨h,λz=>m (.inl z)⟩) _ _ r
def qOl:FS:=λFD _=>FD.rt .non
def qN6(fe:FE):FS:=λFD ρ=>fe ρ (λ_=>FD.nx ρ) (λx=>FD.ex x ρ)
def qBc(fc:FT)(f g:FS):FS:=λFD ρ=>fc ρ (λb=>if b=true then f FD ρ else g FD ρ) (λx=>FD.ex x ρ)
theorem qA0{tc:TT}{t u:TS}{fc:FT}{f g:FS}(hs:Sub owx ow)(hc:STt K Ta ow E tc fc)(h1:SS K Ta ow ow' owb owx E t f)(h2:SS K Ta ow ow' owb owx E u g):SS K Ta ow ow' owb owx E (tIfS tc t u) (qBc fc f g):=by
 intro w H σ ρ N FD e h k
 refine hc w H σ ρ _ _ _ e h (λb H' hb g => ?_) (k.px e hs)
 cases b with
 | true=>exact h1 w H' σ ρ N FD (e.grow g) hb k
 | false=>exact h2 w H' σ ρ N FD (e.grow g) hb k
def qPh:FS:=λFD ρ=>FD.bk ρ
def qPq:FS:=λFD ρ=>FD.ct ρ
def qPb:FS:=λ_ _=>False
theorem REnv.lstAt{i:Nat}{ds:List D}(e:REnv K Ta w ow H σ ρ)(hi:i∈ow)(hd:ρ[i]?=some (some (.lst ds))):∃ p vs,σ[i]?=some (some (.ref p))/\H p=some (.lst vs)/\Reps K w.F (w.Mx ow σ) H ds vs:=by
 obtain ⟨p,o,d,h1,h2,h3,h4,h5,h6⟩:=e.own i hi
 rw [h2] at hd;cases hd
 obtain ⟨vs,rfl,r⟩:=h4
 exact ⟨p,vs,h1,h3,r⟩
def qK7(i:Nat)(fe:FE):FS:=λFD ρ=>∃ ds,ρ[i]?=some (some (.lst ds))/\fe ρ (λd=>ds.length<sizeLine/\FD.nx (ρ.set i (some (.lst (ds ++ [d]))))) (λx=>FD.ex x ρ)
theorem qJd{i:Nat}{te:TE}{fe:FE}(hi:i∈ow)(hs:Sub owx ow)(he:SE K Ta ow E te fe):SS K Ta ow ow owb owx E (tDrop (tBM K "list" rAppend (tVar i) (tCons te tNil))) (qK7 i fe):=by
 intro w H σ ρ N FD e h k
 obtain ⟨ds,hd,h⟩:=h
 obtain ⟨p,vs,h1,h2,h3⟩:=e.lstAt hi hd
 refine ⟨_,h1, .inl ⟨rfl,_,SqL.of h2⟩, ?_⟩
 refine he w H σ ρ _ _ _ e h (λd v H' hd' g r => ?_) (k.px e hs)
 have e':=e.grow g
 obtain ⟨p',vs',k1,k2,k3⟩:=e'.lstAt hi hd
 rw [h1] at k1;cases k1
 refine ⟨p,vs',v,rfl,rfl,k2,by rw [k3.length];exact hd'.1,k.nx _ _ _ hd'.2 (e'.chg hi h1 ⟨_,rfl,k3.append (.one r)⟩)⟩
def qOi(i:Nat)(fe fj:FE):FS:=λFD ρ=>fe ρ (λd=>fj ρ (λj=>∃ ds n m,ρ[i]?=some (some (.lst ds))/\j = .int n/\ixN ds.length n=some m/\FD.nx (ρ.set i (some (.lst (ds.set m d))))) (λx=>FD.ex x ρ)) (λx=>FD.ex x ρ)
def oIx:O2:=λa b P _=>∃ ds n d,(a = .lst ds\/a = .tup ds)/\b = .int n/\atI ds n=some d/\P d
theorem qJ1{F:Fd}{M:Addr->Prop}{ds:List D}{vs:List V}{n:Int}{d:D}(r:Reps K F M H ds vs)(h:atI ds n=some d):∃ v,atI vs n=some v/\Rep K F M H d v:=by
 unfold atI at h ⊢
 rw [r.length]
 cases z:ixN ds.length n with
 | none=>rw [z] at h;cases h
 | some j=>
  rw [z] at h
  exact r.get h
abbrev FI:=Env->(List D->Prop)->XP->Prop
abbrev FG:=D->Env->(Env->Prop)->Prop
def qPn(K:W.Frag)(F:Fd)(M:Addr->Prop)(H1:Hp)(J:It)(ds:List D):Prop:=
 ∀ (M2:Addr->Prop) (H2:Hp) (i:Nat),Goes F M H1 M2 H2->Lv K F M2 H2->(ds.length<=i->J.stop i H2)/\(∀ d,ds[i]?=some d->J.go i H2/\∀ x H3,J.yld i H2 x H3->Gr K F H2 H3/\Rep K F M2 H3 d x)
def SI(K:W.Frag)(Ta:List (Addr × Str))(ow:List Nat)(E:L2.St->XK)(wi:TI)(fi:FI):Prop:=
 ∀ (w:Wd) (H:Hp) (σ:L2.St) (ρ:Env) (P:List D->Prop) (X:XP) (R:It->Hp->Prop),REnv K Ta w ow H σ ρ->fi ρ P X->(∀ ds J H1,P ds->Gr K w.F H H1->qPn K w.F (w.Mx ow σ) H1 J ds->R J H1)->PostX K w.F w.M H X (E σ)->wi σ H R
def SG(K:W.Frag)(Ta:List (Addr × Str))(ow sl:List Nat)(g:TG)(g':FG):Prop:=
 ∀ (w:Wd) (H:Hp) (σ:L2.St) (ρ:Env) (d:D) (v:V) (R:Env->Prop) (Q:L2.St->Hp->Prop),REnv K Ta w ow H σ ρ->Rep K w.F (w.Mx ow σ) H d v->g' d ρ R->(∀ ρ' σ',R ρ'->REnv K Ta w ow H σ' ρ'->σ'.length=σ.length->(∀ i,i ∉ sl->σ'[i]?=σ[i]?)->Q σ' H)->g v σ H Q
def qB3(i:Nat):FG:=λd ρ R=>R (ρ.set i (some d))
theorem qDb{i:Nat}(hi:i ∉ ow):SG K Ta ow [i] (gName i) (qB3 i):=by
 intro w H σ ρ d v R Q e r h k
 refine k _ _ h (e.put hi r) (by rw [List.length_set]) λj hj => ?_
 rw [qAt,if_neg (λz=>hj (by rw [z];exact List.mem_singleton_self _))]
abbrev FGs:=List D->Env->(Env->Prop)->Prop
def qJk:List Nat->FGs
 | []=>λds ρ R=>ds=[]/\R ρ
 | i :: is=>λds ρ R=>∃ d r,ds=d :: r/\qJk is r (ρ.set i (some d)) R
def qMy(is:List Nat):FG:=λd ρ R=>∃ ds,d = .tup ds/\ds.length=is.length/\qJk is ds ρ R
def qBy(g:FG)(fb:FS)(FD:FEnds):List D->Env->Prop
 | [],ρ=>FD.nx ρ
 | d :: ds,ρ=>g d ρ λρ'=>fb { FD with nx:=qBy g fb FD ds,ct:=qBy g fb FD ds,bk:=FD.nx } ρ'
def qFf(fi:FI)(g:FG)(fb:FS):FS:=λFD ρ=>fi ρ (λds=>qBy g fb FD ds ρ) (λx=>FD.ex x ρ)
theorem qEy{wi:TI}{g:TG}{tb:TS}{fi:FI}{g':FG}{fb:FS}{sl:List Nat}(hs:Sub owx ow)(hi:SI K Ta ow E wi fi)(hg:SG K Ta ow sl g g')(hb:SS K Ta ow ow ow owx E tb fb):SS K Ta ow ow owb owx E (tFor wi g tb) (qFf fi g' fb):=by
 intro w H σ ρ N FD e h k
 refine hi w H σ ρ _ _ _ e h (λds J H1 hd g1 it => ?_) (k.px e hs)
 have e1:=e.grow g1
 refine ⟨λi m σ2 H2=>∃ ρ2,REnv K Ta (w.re (Mo ow σ) H1) ow H2 σ2 ρ2/\m=ds.length - i/\i<=ds.length/\qBy g' fb FD (ds.drop i) ρ2,⟨ds.length,ρ,e1.re,rfl,Nat.zero_le _,hd⟩, ?_⟩
 rintro i m σ2 H2 ⟨ρ2,e2,rfl,hle,go⟩
 obtain ⟨st,yl⟩:=it _ H2 i e2.goes e2.lv
 by_cases hlt:i<ds.length
 ·right
  obtain ⟨dd,hdd⟩:∃ dd,ds[i]?=some dd:=⟨_,List.getElem?_eq_getElem hlt⟩
  obtain ⟨j1,j2⟩:=yl dd hdd
  have hdrop:ds.drop i=dd :: ds.drop (i+1):=by
   rw [List.drop_eq_getElem_cons hlt]
   rw [List.getElem?_eq_getElem hlt] at hdd
   cases hdd;rfl
  rw [hdrop] at go
  refine ⟨j1,λσ' H'=>∃ ρ',REnv K Ta (w.re (Mo ow σ) H1) ow H' σ' ρ'/\qBy g' fb FD (ds.drop (i+1)) ρ',λσ' H' ⟨ρ',a,b⟩=>⟨ds.length - (i+1),by omega,ρ',a,rfl,hlt,b⟩,λx H3 y => ?_⟩
  obtain ⟨g3,r3⟩:=j2 x H3 y
  refine hg _ H3 σ2 ρ2 dd x _ _ (e2.grow g3) r3 go λρ' σ' hr e3 _ _ => ?_
  refine hb _ H3 σ' ρ' _ _ e3 hr ⟨λρ4 σ4 H4 h4 e4=>⟨ρ4,e4,h4⟩,λd v H4 h4 g4 r4=>k.rt d v H4 h4 ((qHl e1).trans g4) r4,λρ4 σ4 H4 h4 e4=>k.nx _ _ _ h4 (e1.un e4),λρ4 σ4 H4 h4 e4=>⟨ρ4,e4,h4⟩,λx ρ4 σ4 H4 cls dd h4 e4 r4=>k.ex x ρ4 σ4 H4 cls dd h4 (e1.un e4) r4,λd v H4 h4 g4 r4=>k.rf d v H4 h4 ((qHl e1).trans g4) (r4.un e1)⟩
 ·left
  have:i=ds.length:=by omega
  rw [this,List.drop_length] at go
  exact ⟨st (by omega),k.nx _ _ _ go (e1.un e2)⟩
def itD:D->Option (List D)
 | .lst ds=>some ds
 | .tup ds=>some ds
 | _=>none
def fIt(fe:FE):FI:=λρ P X=>fe ρ (λd=>∃ ds,itD d=some ds/\P ds) X
def qJe(fe:FE):FI:=λρ P X=>fe ρ (λd=>∃ ds,d = .lst ds/\P ds) X
def qPd(fe:FE):FI:=λρ P X=>fe ρ (λd=>∃ ds,d = .tup ds/\P ds) X
theorem qGt{te:TE}{fe:FE}(he:SE K Ta ow E te fe):SI K Ta ow E (iList K te) (qJe fe):=by
 intro w H σ ρ P X R e h k x
 refine he w H σ ρ _ X _ e h (λd v H1 hd g r => ?_) x
 obtain ⟨ds,rfl,p⟩:=hd
 obtain ⟨a,vs,rfl,ok,ha,rs⟩:=r
 refine ⟨a,rfl,⟨vs,SqL.of ha⟩,k ds _ H1 p g λM2 H2 i go lv => ?_⟩
 obtain ⟨ha2,_⟩:=go a _ ha ok.1 ok.2
 have rs2:=Reps.goes go _ _ rs
 refine ⟨λhl=>⟨vs,SqL.of ha2,by rw [rs.length];exact hl⟩,λd hd => ?_⟩
 obtain ⟨v,hv,rv⟩:=rs2.get hd
 refine ⟨⟨vs,v,SqL.of ha2,hv⟩,λy H3 hy => ?_⟩
 obtain ⟨rfl,hy⟩:=hy
 have:=hy vs (SqL.of ha2)
 rw [hv] at this;cases this
 exact ⟨.refl,rv⟩
def qHz(lo:Int)(n:Nat):List D:=(List.range n).map λ(k:Nat)=>D.int (lo+(k:Int))
theorem qKd{lo:Int}{n i:Nat}{d:D}(h:(qHz lo n)[i]?=some d):i<n/\d = .int (lo+(i:Int)):=by
 unfold qHz at h
 rw [List.getElem?_map] at h
 by_cases hi:i<n
 ·rw [List.getElem?_range hi] at h
  cases h;exact ⟨hi,rfl⟩
 ·rw [List.getElem?_eq_none (by simp;omega)] at h
  cases h
def qDn(fa:FA):FI:=λρ P X=>fa ρ (λas=>∃ j:Int,as=[.int j] /\ -(2 ^ 62)<=j/\j<2 ^ 62/\P (qHz 0 j.toNat)) X
theorem qFo{ta:TA}{fa:FA}(ha:SA K Ta ow E ta fa):SI K Ta ow E (iRng1 ta) (qDn fa):=by
 intro w H σ ρ P X R e h k x
 refine ha w H σ ρ _ X _ e h (λds vs H1 hd g r => ?_) x
 obtain ⟨j,rfl,j0,j1,p⟩:=hd
 have:=Reps.ints (ns:=[j]) r
 refine ⟨j,this,j0,j1,k _ _ H1 p g λM2 H2 i go lv=>⟨λhl => ?_,λd hd => ?_⟩⟩
 ·simp only [qHz,List.length_map,List.length_range] at hl;exact hl
 ·obtain ⟨h1,rfl⟩:=qKd hd
  exact ⟨h1,λy H3 ⟨h3,hy⟩=>by subst h3;exact ⟨.refl,hy⟩⟩
end
section
variable {K:W.Frag} {w:Wd} {ow ow' ow1 owb owx:List Nat} {H H':Hp} {σ:L2.St} {ρ:Env} {E:L2.St->XK} {N:L2.Ends} {FD:FEnds}
abbrev FO:=Env->(Option Int->Prop)->XP->Prop
def qKg:FO:=λ_ P _=>P none
def qOg(fe:FE):FO:=λρ P X=>fe ρ (λd=>∃ i,d = .int i/\P (some i)) X
def qOk{α:Type}(xs:List α)(lo hi:Option Int):List α:=(xs.drop (HT.sIx xs.length 0 lo)).take (HT.sIx xs.length xs.length hi - HT.sIx xs.length 0 lo)
end
section
variable {K:W.Frag} {w:Wd} {ow ow' ow1 owb owx:List Nat} {H H':Hp} {σ:L2.St} {ρ:Env} {E:L2.St->XK} {N:L2.Ends} {FD:FEnds}
abbrev X0:XP:=λ_=>False
def qPx:FT:=λ_ P _=>P true
end
theorem qH6{X:Cx}{C:Addr}{bmB:List Value}{B newId initId:String}{x:Str}{p pos:Pos}(F:ExcBaseFacts B newId initId bmB)(q:PySem.W.excIn X.K C bmB newId=true)(gC:X.mg x=some (.ref C))
  (kC:PySem.W.keepIn X.K (.ref C)=true) (r:Raises X (.ref C)) (hg:Gl X x) (hdb:(x == ("__debug__":Str))=false:=by decide) :
  PMk X (.Call (.Name x p) [] [] pos) (λσ H Q=>Q (.ref C) none H):=by
 intro pins s σ H Q I h
 refine wpAny_Call_Name_kw (ld_glob I hg gC ?_ hdb)
 refine PySem.W.callWith_K0 I.kIn kC ?_
 show wpAny _ _ (call (.ref C) []) _ _ _
 obtain ⟨bm,N,nm,qn,bs,hdct,sn,sub,ab,col,dd,k0,k1,k2,k3,k5,mN,hC,hN,hni,T⟩:=exc_obj I.kIn q
 refine wpAny_call_exc_subT F T hC hN hni (λh' e hm => ?_) (Nat.zero_le _)
 exact mk_of I hm r h (I.hok.gone hm.new)
section
variable {K:W.Frag} {w:Wd} {ow ow' ow1 owb owx:List Nat} {H H':Hp} {σ:L2.St} {ρ:Env} {E:L2.St->XK} {E1:XK} {N:L2.Ends} {FD:FEnds} {F:Fd} {M:Addr->Prop}
theorem Reps.cut{ds:List D}{vs:List V}{lo hi:Option Int}(r:Reps K F M H ds vs):Reps K F M H (qOk ds lo hi) (cutV vs lo hi):=by
 unfold qOk cutV
 rw [r.length]
 exact (r.drop _).take _
def fSl(fe:FE)(fl fh:FO):FE:=λρ P X=>fe ρ (λd=>fl ρ (λl=>fh ρ (λh=>∃ ds,d = .lst ds/\P (.lst (qOk ds l h))) X) X) X
def oI(C:Int->Int->Prop)(g:Int->Int->D):O2:=λa b P _=>match a,b with
 | .int i, .int j=>C i j/\P (g i j)
 | _,_=>False
def oI0(g:Int->Int->D):O2:=λa b P _=>match a,b with
 | .int i, .int j=>P (g i j)
 | _,_=>False
theorem qM6{C:Int->Int->Prop}{g:Int->Int->V}{g':Int->Int->D}(hg:∀ i j (F:Fd) (M:Addr->Prop) (H:Hp),Rep K F M H (g' i j) (g i j)):OpS K E1 (rI C g) (oI C g'):=by
 intro F M H x y a b P X Q lv ra rb h q x'
 cases a <;> cases b <;> first | exact h.elim | skip
 exact ⟨_,_,ra,rb,h.1,q _ _ _ h.2 .refl (hg _ _ _ _ _)⟩
theorem qHt{g:Int->Int->V}{g':Int->Int->D}(hg:∀ i j (F:Fd) (M:Addr->Prop) (H:Hp),Rep K F M H (g' i j) (g i j)):OpS K E1 (rI0 g) (oI0 g'):=by
 intro F M H x y a b P X Q lv ra rb h q x'
 cases a <;> cases b <;> first | exact h.elim | skip
 exact ⟨_,_,ra,rb,q _ _ _ h .refl (hg _ _ _ _ _)⟩
abbrev qH4:O2:=oI0 λi j => .int (i+j)
abbrev qO5:O2:=oI0 λi j => .int (i - j)
abbrev qH1:O2:=oI IntMulOk λi j => .int (i*j)
abbrev qJ5:O2:=oI qIu λi j => .int (i.fdiv j)
abbrev qE5:O2:=oI (λ_ j=>j≠0) λi j => .int (i.fmod j)
abbrev qMb:O2:=oI CPow λi j => .int (i ^ j.toNat)
abbrev oLt:O2:=oI0 λi j => .bl (decide (i<j))
abbrev oGt:O2:=oI0 λi j => .bl (decide (j<i))
abbrev oGe:O2:=oI0 λi j => .bl (decide (j<=i))
theorem qEx:OpS K E1 qGh qH4:=qHt λ_ _ _ _ _=>rfl
theorem qLl:OpS K E1 qMq qO5:=qHt λ_ _ _ _ _=>rfl
theorem qE0:OpS K E1 qFi qH1:=qM6 λ_ _ _ _ _=>rfl
theorem qG3:OpS K E1 qIk qJ5:=qM6 λ_ _ _ _ _=>rfl
theorem qB4:OpS K E1 qDi qE5:=qM6 λ_ _ _ _ _=>rfl
theorem qF6:OpS K E1 qGz qMb:=qM6 λ_ _ _ _ _=>rfl
theorem qM9:OpS K E1 qOz oLt:=qHt λ_ _ _ _ _=>rfl
theorem qN4:OpS K E1 qOu oGt:=qHt λ_ _ _ _ _=>rfl
theorem qOc:OpS K E1 qOx oGe:=qHt λ_ _ _ _ _=>rfl
def eqD:D->D->Option Bool
 | .int i, .int j=>some (decide (i=j))
 | .str i, .str j=>some (decide (i=j))
 | .bl i, .bl j=>some (decide (i=j))
 | .non, .non=>some true
 | .non, .int _=>some false
 | .int _, .non=>some false
 | .non, .str _=>some false
 | .str _, .non=>some false
 | .non, .bl _=>some false
 | .bl _, .non=>some false
 | .int _, .str _=>some false
 | .str _, .int _=>some false
 | _,_=>none
theorem qHu{a b:D}{x y:V}{k:Bool}(ra:Rep K F M H a x)(rb:Rep K F M H b y)(h:eqD a b=some k):scal x y=true/\decide (x=y)=k:=by
 cases a <;> cases b <;> first | (cases h;done) | skip
 all_goals
  simp only [Rep] at ra rb
  subst ra rb
  simp only [eqD,Option.some.injEq] at h
  subst h
  refine ⟨rfl, ?_⟩
  simp
def oEq:O2:=λa b P _=>∃ k,eqD a b=some k/\P (.bl k)
def oNe:O2:=λa b P _=>∃ k,eqD a b=some k/\P (.bl !k)
theorem qA9:OpS K E1 rEq oEq:=by
 intro F M H x y a b P X Q lv ra rb h q x'
 obtain ⟨k,hk,p⟩:=h
 obtain ⟨h1,h2⟩:=qHu ra rb hk
 exact ⟨h1,by rw [h2];exact q _ _ _ p .refl rfl⟩
theorem qMs:OpS K E1 rNe oNe:=by
 intro F M H x y a b P X Q lv ra rb h q x'
 obtain ⟨k,hk,p⟩:=h
 obtain ⟨h1,h2⟩:=qHu ra rb hk
 exact ⟨h1,by rw [h2];exact q _ _ _ p .refl rfl⟩
def isN:D->Bool
 | .non=>true
 | _=>false
def qPw:O2:=λa b P _=>b = .non/\P (.bl (isN a))
def qOd:O2:=λa b P _=>b = .non/\P (.bl (!isN a))
def qOr:O1:=λa P _=>match a with
 | .int i=>P (.int (-i))
 | _=>False
theorem qLy:UnS K E1 qLk qOr:=by
 intro F M H x a P X Q lv ra h q x'
 cases a <;> first | exact h.elim | skip
 exact ⟨_,ra,q _ _ _ h .refl rfl⟩
theorem qAx:OpS K E1 (rIxL K) (λa b P X=>(∃ ds,a = .lst ds)/\oIx a b P X):=by
 intro F M H x y a b P X Q lv ra rb h q x'
 obtain ⟨⟨_,rfl⟩,ds,n,d,hl,rfl,ha,p⟩:=h
 rcases hl with z | z <;> cases z
 obtain ⟨p',vs,rfl,ok,hp,rs⟩:=ra
 obtain ⟨v,h1,h2⟩:=qJ1 rs ha
 exact ⟨p',vs,n,v,rfl,rb,SqL.of hp,h1,q _ _ _ p .refl h2⟩
def qPi:OL:=λas P _=>match as with
 | [.int i]=>P (.int (i.natAbs:Nat))
 | _=>False
theorem qFb{ds:D}{vs:List V}(r:Reps K F M H [ds] vs):∃ v,vs=[v]/\Rep K F M H ds v:=by
 obtain ⟨v,us,rfl,h,z⟩:=r
 rw [show us=[] from z]
 exact ⟨v,rfl,h⟩
def qPp:OL:=λas P _=>match as with
 | [.int i, .int j]=>P (.int (max i j))
 | _=>False
def qPu:OL:=λas P _=>match as with
 | [.int i, .int j]=>P (.int (min i j))
 | _=>False
def qEe:OL:=λas P _=>match as with
 | [.int i]=>P (.int i)
 | [.bl b]=>P (.int (if b then 1 else 0))
 | _=>False
theorem qBr:LsS K E1 qCz qEe:=by
 intro F M H xs as P X Q lv ra h q x'
 match as,h with
 | [.int i],h=>
  obtain ⟨v,rfl,r⟩:=qFb ra
  exact .inl ⟨i,by rw [show v = .int i from r],q _ _ _ h .refl rfl⟩
 | [.bl i],h=>
  obtain ⟨v,rfl,r⟩:=qFb ra
  exact .inr ⟨i,by rw [show v = .bl i from r],q _ _ _ h .refl rfl⟩
def qMd:OL:=λas P _=>match as with
 | [.lst ds]=>P (.int (ds.length:Nat))
 | [.tup ds]=>P (.int (ds.length:Nat))
 | [.str x]=>x.length<=sizeLine/\P (.int (x.length:Nat))
 | _=>False
theorem qL1:LsS K E1 (qIq K) qMd:=by
 intro F M H xs as P X Q lv ra h q x'
 match as,h with
 | [.lst ds],h=>
  obtain ⟨v,rfl,r⟩:=qFb ra
  obtain ⟨p,vs,rfl,ok,hp,rs⟩:=r
  exact ⟨.ref p,ds.length,rfl, .inl ⟨vs,SqL.of hp,rs.length.symm⟩,q _ _ _ h .refl rfl⟩
 | [.tup ds],h=>
  obtain ⟨v,rfl,r⟩:=qFb ra
  obtain ⟨p,vs,rfl,ok,hp,rs⟩:=r
  exact ⟨.ref p,ds.length,rfl, .inr ⟨vs,SqT.of hp,rs.length.symm⟩,q _ _ _ h .refl rfl⟩
 | [.str z],h=>
  obtain ⟨v,rfl,r⟩:=qFb ra
  exact ⟨v,z.length,rfl,by rw [show v = .str z from r];exact ⟨h.1,rfl⟩,q _ _ _ h.2 .refl rfl⟩
def qNt:OL:=λas P _=>match as with
 | [.lst ds]=>P (.lst ds)
 | [.tup ds]=>P (.lst ds)
 | _=>False
def qMw:OL:=λas P _=>match as with
 | [.lst ds]=>P (.tup ds)
 | [.tup ds]=>P (.tup ds)
 | _=>False
def qIl:O2:=λa b P _=>match a,b with
 | .lst x, .lst y=>x.length+y.length<=sizeLine/\P (.lst (x ++ y))
 | _,_=>False
theorem qDw:OpS K E1 rCat qIl:=by
 intro F M H x y a b P X Q lv ra rb h q x'
 cases a <;> cases b <;> first | exact h.elim | skip
 obtain ⟨p,vs,rfl,ok,hp,rs⟩:=ra
 obtain ⟨p2,vs2,rfl,ok2,hp2,rs2⟩:=rb
 exact ⟨p,p2,vs,vs2,rfl,rfl,hp,hp2,by rw [rs.length,rs2.length];exact h.1,λpp np=>q _ _ _ h.2 (.new np) (qFq lv np (rs.append rs2))⟩
theorem Reps.rep{ds:List D}{vs:List V}(r:Reps K F M H ds vs):∀ n:Nat,Reps K F M H (List.replicate n ds).flatten (List.replicate n vs).flatten
 | 0=>rfl
 | n+1=>by
  rw [List.replicate_succ,List.replicate_succ,List.flatten_cons,List.flatten_cons]
  exact r.append (Reps.rep r n)
inductive Cl where
 | ty (n:String) | own (C:Str)
def Cl.v(K:W.Frag):Cl->V
 | .ty n => .ty n
 | .own C => .ref (He.ga K C)
def Cl.u(K:W.Frag):Cl->Value
 | .ty n => .type n
 | .own C => .ref (He.ga K C)
def tyN:D->Option String
 | .non=>some "NoneType"
 | .bl _=>some "bool"
 | .int _=>some "int"
 | .str _=>some "str"
 | .lst _=>some "list"
 | .tup _=>some "tuple"
 | .dct _ _=>some "dict"
 | _=>none
def qPo(a b:String):Bool:=a == b || (a == "bool" && b == "int")
def isD(cs:List Str)(c:Cl)(d:D):Option Bool:=
 match tyN d with
 | some t=>(match c with
  | .ty n=>if n∈["int","bool","str","list","tuple"] then some (qPo t n) else none
  | .own C=>if C∈cs then some false else none)
 | none=>(match qI8 d with
  | some C=>if C∈cs then (match c with
   | .ty n=>if n∈["int","bool","str","list","tuple"] then some false else none
   | .own C'=>if C'∈cs then some (decide (C=C')) else none) else none
  | none=>none)
structure KT (K:W.Frag) (cs:List Str):Prop where
 own:∀ C,C∈cs->OwnC K (He.ga K C)
 ob:∀ C,C∈cs->∀ n,n∈["int","bool","str","list","tuple"]->PySem.W.kitOne K (.ref (He.ga K C)) (.type n)=some false
 bo:∀ C,C∈cs->∀ n,n∈["NoneType","int","bool","str","list","tuple","dict"]->PySem.W.kitOne K (.type n) (.ref (He.ga K C))=some false
 oo:∀ C,C∈cs->∀ C',C'∈cs->PySem.W.kitOne K (.ref (He.ga K C)) (.ref (He.ga K C'))=some (decide (C=C'))
def qPf(cs:List Str)(c:Cl)(fe:FE):FE:=λρ P X=>fe ρ (λd=>∃ b,isD cs c d=some b/\P (.bl b)) X
def qNn(cs:List Str)(fe:FE):FE:=λρ P X=>fe ρ (λd=>∃ b b',isD cs (.ty "list") d=some b/\isD cs (.ty "tuple") d=some b'/\P (.bl (b || b'))) X
end
section
variable {K:W.Frag} {w:Wd} {ow ow' ow1 owb owx:List Nat} {H H':Hp} {σ:L2.St} {ρ:Env} {E:L2.St->XK} {E1:XK} {N:L2.Ends} {FD:FEnds} {F:Fd} {M:Addr->Prop}
def qLh:D->Prop
 | .int _=>True
 | _=>False
def qI0(C:Str)(fsp:FSp):O2:=λa b P X=>qI8 a=some C/\(qLh b\/qI8 b=some C)/\fsp [a,b] P X0
def qL3(C:Str)(fsp:FSp):O2:=λa b P X=>qLh a/\qI8 b=some C/\fsp [b,a] P X0
theorem px0:PostX K F M H X0 E0:=λx cls dd H' hx _ _=>hx
def qL5(C:Str)(fsp:FSp):O1:=λa P X=>qI8 a=some C/\fsp [a] P X0
def qNb(C:Str)(fsp:FSp):OL:=λas P X=>∃ a,as=[a]/\qI8 a=some C/\fsp [a] P X0
def qLn(o o':O2)(fa fb fc:FE):FE:=λρ P X=>fa ρ (λa=>fb ρ (λb=>o a b (toB λk=>if k=true then fc ρ (λc=>o' b c P X) X else P (.bl false)) X) X) X
def qFv(C p:Str)(fe:FE):FS:=λFD ρ=>fe ρ (λd=>FD.ex ⟨C,[(p,d)]⟩ ρ) (λx=>FD.ex x ρ)
theorem qF3{C p:Str}{te:TE}{fe:FE}(hs:Sub owx ow)(he:SE K Ta ow E te fe):SS K Ta ow ow' owb owx E (qCs (He.ga K C) p (λcls d σ H=>E σ cls d H) (tCons te tNil)) (qFv C p fe):=by
 intro w H σ ρ N FD e h k
 refine he w H σ ρ _ _ _ e h (λd v H1 hd g r => ?_) (k.px e hs)
 refine ⟨v,rfl,λa na => ?_⟩
 have e1:=e.grow g
 have g2:Gr K w.F H1 (upd H1 a (.xd [(p,v)])) := .new na
 refine k.ex _ ρ σ _ _ _ hd ((e1.grow g2).free hs) ⟨rfl, .inr ⟨a,_,rfl,(e1.lv.ok na).1,upd_same,v,[],rfl, ?_,rfl⟩⟩
 exact Rep.goes (λq o h nf m=>⟨h,λz=>m (.inl z)⟩) _ _ (Rep.goes g2.goes _ _ r)
def qD3(C:Addr)(W:WX):TS:=λ_ σ H=>W (.ref C) none σ H
def qE8(C:Str):FS:=λFD ρ=>FD.ex ⟨C,[]⟩ ρ
theorem qGx{C:Str}(hs:Sub owx ow):SS K Ta ow ow' owb owx E (qD3 (He.ga K C) (λcls d σ H=>E σ cls d H)) (qE8 C):=λw H σ ρ N FD e h k=>k.ex _ ρ σ H _ _ h (e.free hs) ⟨rfl, .inl ⟨rfl,rfl⟩⟩
abbrev qE4:=List (Str × Str × Bool)
def XOk(K:W.Frag)(T:qE4):Prop:=∀ a b k,(a,b,k)∈T->PySem.W.exmOne K (.ref (He.ga K a)) (.ref (He.ga K b))=some k
def SEH(K:W.Frag)(Ta:List (Addr × Str))(ow:List Nat)(i:Nat)(a:Addr)(cls:Value)(dd:Option Addr)(x:Exn)(ta:TE)(fa:FE):Prop:=
 ∀ (w:Wd) (H:Hp) (σ:L2.St) (ρ:Env) (P:D->Prop) (Q:VK),REnv K Ta w ow H σ ρ->RepX K w.F w.M H cls dd x->σ[i]?=some (some (.ref a))->fa ρ P X0->Post K w.F (w.Mx ow σ) H P Q->ta σ H Q
theorem SE.sh{i:Nat}{a:Addr}{cls:Value}{dd:Option Addr}{x:Exn}{ta:TE}{fa:FE}(h:SE K Ta ow (λ_=>E0) ta fa):SEH K Ta ow i a cls dd x ta fa:=λw H σ ρ P Q e _ _ hf q=>h w H σ ρ P X0 Q e hf q px0
def qNp(T:qE4)(C:Str)(j:Nat)(fb:FS)(fh:FE):FS:=λFD ρ=>fb { FD with ex:=λx ρ'=>(x.cls,C,true)∈T/\fh ρ' (λd=>FD.nx (ρ'.set j (some d))) X0 } ρ
theorem qMn{T:qE4}{C:Str}{j:Nat}{tb:WX->TS}{te:TE}{fb:FS}{fh:FE}(XT:XOk K T)(hj:j ∉ ow')
  (hb:∀ W:WX,SS K Ta ow ow' owb ow' (WE W) (tb W) fb) (hh:SE K Ta ow' (λ_=>E0) te fh) :
  SS K Ta ow ow' owb owx E (λD=>tb (wOnly K (.ref (He.ga K C)) (λa cls dd=>tAsg te (gName j)) (λ_ _ _ _=>False) D) D) (qNp T C j fb fh):=by
 intro w H σ ρ N FD e h k
 refine hb _ w H σ ρ N _ e h ⟨k.nx,k.rt,k.bk,k.ct,λx ρ' σ' H1 cls dd hx e' r => ?_,k.rf⟩
 obtain ⟨hT,hx⟩:=hx
 refine ⟨true,by rw [r.1];exact XT _ _ _ hT,λ_ a na => ?_,λz=>by cases z⟩
 exact hh w H1 σ' ρ' _ X0 _ e' hx (λd v H2 hd g2 r2=>k.nx _ _ _ hd ((e'.grow g2).put hj r2)) px0
def qCg(n:Nat)(ds:List D):Env:=ds.map some ++ List.replicate (n - ds.length) none
def qI4(P:D->Prop)(X:XP):FEnds:=⟨λ_=>P .non,P,λ_=>False,λ_=>False,λx _=>X x,P⟩
theorem qF8{R:D->V->Prop}:∀ {ds:List D} {vs:List V} (k i:Nat),Reps K F M H ds vs->(∀ d v,Rep K F M H d v->R d v)->Sl R (ds.map some ++ List.replicate k none)[i]? (vs.map some ++ List.replicate k none)[i]?
 | [],vs,k,i,r,h=>by
  rw [show vs=[] from r]
  simp only [List.map_nil,List.nil_append]
  rw [List.getElem?_replicate,List.getElem?_replicate]
  split
  ·trivial
  ·trivial
 | d :: ds,vs,k,i,r,h=>by
  obtain ⟨v,us,rfl,r1,r2⟩:=r
  cases i with
  | zero=>exact h d v r1
  | succ i=>
   simp only [List.map_cons,List.cons_append,List.getElem?_cons_succ]
   exact qF8 k i r2 h
theorem New.rep{H0:Hp}{d:D}{v:V}(lv:Lv K F M H0)(h:New K F M H0 H d v):Rep K F M H d v:=by
 obtain ⟨p,o,rfl,h0,hn,h1,h2⟩:=h
 have ok:Ok F M p:=⟨hn,λm=>by obtain ⟨u,z⟩:=lv.m p m;rw [h0] at z;cases z⟩
 exact RepO.rep (h2.goes λq u hq _ m=>⟨hq,λz=>m (.inl z)⟩) ok h1
theorem qHn{names:List Str}{n:Nat}{ds:List D}{vs:List V}(lv:Lv K F M H)(r:Reps K F M H ds vs)(hn:names.length=n):REnv K F.T ⟨F,M,H⟩ [] H (start names vs) (qCg n ds):=by
 refine ⟨.refl,lv.m,lv.nf,λi _ => ?_,λi hi=>(nomatch hi),λi hi=>(nomatch hi),λf hf => ?_,lv.t,rfl⟩
 ·unfold L2.start qCg
  rw [hn,r.length]
  exact qF8 _ _ r λd v h=>Rep.goes (λp o h _ m=>⟨h,λz=>m (z.elim id λ⟨_,y,_⟩=>(nomatch y))⟩) _ _ h
 ·obtain ⟨c,h1,h2⟩:=lv.f f hf
  exact ⟨c,h1,λz=>h2 (z.elim id λ⟨_,y,_⟩=>(nomatch y))⟩
theorem qEo{names:List Str}{n:Nat}{fsp:FSp}{t:TS}{fb:FS}(hn:names.length=n)(h:∀ {Ta:List (Addr × Str)},SS K Ta [] [] [] [] (λ_=>E0) t fb)(pure:∀ ds P X,fsp ds P X->fb (qI4 P X0) (qCg n ds))(vs:List V)(H:Hp)(Q:VK)(E:XK)(l:lift K fsp vs H Q E) :
  t { nx:=λ_ H'=>Q .non H',rt:=Q } (start names vs) H:=by
 obtain ⟨F,M,ds,P,X,lv,r,hs,q,x⟩:=l
 refine h ⟨F,M,H⟩ H _ _ _ _ (qHn lv r hn) (pure ds P X hs) ⟨λρ σ H' hp e=>q _ _ _ hp e.gr rfl,λd v H' hd g r=>q d v H' hd g r,λ_ _ _ z=>z.elim,λ_ _ _ z=>z.elim,λx' ρ σ H' cls dd hx e r=>hx.elim,λd v H' hd g r=>q d v H' hd g (New.rep lv r)⟩
end
end MR
namespace MR
open PySem PySem.Spec PyProof.Rows L2 He
def qK6(K:W.Frag)(p:Str × Option Str):Addr:=match PySem.W.recIn K (fAd K p) "staticmethod" with
 | some (.ref f :: _)=>f
 | _=>0
def qM8(K:W.Frag)(p:Str × Option Str):FnW:=match K.lookup (qK6 K p) with
 | some ⟨_,_, .func fd,_⟩=>some (fd.name,fd.qualname,fd.params,fd.body,fd.scope,fd.globals,fd.closure,fd.builtins)
 | _=>none
def okS(K:W.Frag)(d:DefD):Bool:=PySem.W.keepIn K (.ref (qK6 K d.at_)) && (match K.lookup (qK6 K d.at_) with
 | some ⟨_,_, .func fd,_⟩=>PySem.W.codeIn K fd.code d.qual && (dflB K fd.defaults (d.dvs K) && kwdB K fd.kwdefaults (d.kws K))
 | _=>false)
theorem qOh{K:W.Frag}{d:DefD}(e:qM8 K d.at_=d.val)(c:okS K d=true):∃ fd,FunD K d.name d.qual d.params d.body d.scope (d.dvs K) (d.kws K) (qK6 K d.at_) fd:=by
 obtain ⟨kp,c2⟩:=ba c
 unfold qM8 at e
 cases q:K.lookup (qK6 K d.at_) with
 | none=>rw [q] at c2;cases c2
 | some o=>
  obtain ⟨oc,od,dt,osl⟩:=o
  rw [q] at c2 e
  cases dt with
  | func fd=>
   obtain ⟨m1,m2,m3,m4,m5,m6,m7,m8,m9,m10,m11,m12,m13,m14,m15⟩:=fd
   have e2:(some (m1,m2,m3,m4,m5,m6,m7,m15):FnW)=some (d.name,d.qual,d.params, .stmts d.body,d.scope,mainGlobals,[],builtinsNs):=e
   simp only [Option.some.injEq,Prod.mk.injEq] at e2
   obtain ⟨a1,a2,a3,a4,a5,a6,a7,a8⟩:=e2
   subst a1 a2 a3 a4 a5 a6 a7 a8
   have c3:(PySem.W.codeIn K m13 d.qual && (dflB K m8 (d.dvs K) && kwdB K m9 (d.kws K)))=true:=c2
   obtain ⟨k1,k2⟩:=ba c3
   obtain ⟨k3,k4⟩:=ba k2
   exact ⟨_,⟨oc,od,m8,m9,m10,m11,m12,m13,m14,osl,rfl,q,k1,dflB_ok k3,kwdB_ok k4⟩,kp⟩
  | _=>cases c2
def qN2(st:List DefD)(K:W.Frag):AlM:=(st.all λd=>okS K d,st.map λd=>qM8 K d.at_)
def SaysST(st:List DefD)(K:W.Frag):Prop:=qN2 st K=qM7 st
theorem SaysST.def_{st:List DefD}{K:W.Frag}(c:SaysST st K)(i:Nat){d:DefD}(h:st[i]?=some d:=by rfl):∃ fd,FunD K d.name d.qual d.params d.body d.scope (d.dvs K) (d.kws K) (qK6 K d.at_) fd:=by
 have e1:(st.all λd=>okS K d)=true:=congrArg (λz:AlM=>z.1) c
 have e2:(st.map λd=>qM8 K d.at_)[i]?=(st.map DefD.val)[i]?:=congrArg (λz:AlM=>z.2[i]?) c
 rw [List.getElem?_map,List.getElem?_map,h] at e2
 exact qOh (Option.some.inj e2) (List.all_eq_true.mp e1 d (List.mem_of_getElem? h))
structure StatC (K:W.Frag) (C:Addr) (m:Str) (f:Addr):Prop where
 ga:PySem.W.specialIn K (.ref C) "__getattribute__"=some (some (.builtin "type.__getattribute__"))
 rd:PySem.W.readsIn K C (.type "type")=true
 fc:∃ p rest,PySem.W.findCls K (.ref C) (.type "type") m=some (.get (.builtin "staticmethod.__get__") (.ref p) .none (.ref C))/\PySem.W.recIn K p "staticmethod"=some (.ref f :: rest)
end MR
namespace MR
open PySem PySem.Spec PyProof.Rows L2
def qJy(K:W.Frag):Sp:=λvs H Q _=>∃ (a:Addr) (ns:List Int),vs=[.ref a]/\SqL K H a (ns.map V.int)/\ns.length<=63/\∀ H',Q (.bl true) H'
def yes:D->Prop:=λd=>d = .bl true
def qMk(K:W.Frag)(T:List (Addr × Str)):Sp:=λvs H Q _=>∃ (a:Addr) (ns:List Int),vs=[.ref a]/\SqL K H a (ns.map V.int)/\ns.length<=63/\LamX.Tabs T H/\∀ H',Q (.bl true) H'
theorem qJ3{K:W.Frag}{T:List (Addr × Str)}{names:List Str}{n:Nat}{t:TS}{f:FS}(hn:names.length=n+1)(hs:SS K T [] [] [] [] (λ_=>E0) t f)(hp:∀ ns,ns.length<=63->f (qI4 yes X0) (some (.scr ns) :: List.replicate n none))(vs:List V)(H:Hp)(Q:VK)(E:XK)(h:qMk K T vs H Q E)(hk:∀ (a:Addr) (ns:List Int),SqL K H a (ns.map V.int)->∀ q,q∈T->q.1≠a) :
  t { nx:=λ_ H'=>Q .non H',rt:=Q } (start names vs) H:=by
 obtain ⟨a,ns,rfl,hS,hl,ht,q⟩:=h
 have es:L2.start names [.ref a]=some (.ref a) :: List.replicate n none:=by
  unfold L2.start
  rw [hn]
  rfl
 rw [es]
 refine hs ⟨⟨none,T⟩,λ_=>False,H⟩ H _ _ _ _ ?_ (hp ns hl) ⟨λρ σ H2 hx e => ?_,λd v H2 hd g r => ?_,λ_ _ _ z=>z.elim,λ_ _ _ z=>z.elim,λ_ _ _ _ _ _ z=>z.elim,λd v H2 hd _ r => ?_⟩
 ·refine ⟨.refl,(λ_ z=>z.elim),(λ_ z=>z.elim),λi _ => ?_,λi hi=>(nomatch hi),λi hi=>(nomatch hi),(λf' hf=>nomatch hf),ht,rfl⟩
  show Sl _ (some (D.scr ns) :: List.replicate n none)[i]? (some (V.ref a) :: List.replicate n none)[i]?
  match i with
  | 0=>exact ⟨a,rfl,Scr.of hS ⟨⟨(λz=>nomatch z),hk a ns hS⟩,λz=>z.elim id λ⟨_,y,_⟩=>(nomatch y)⟩⟩
  | i+1=>
   simp only [List.getElem?_cons_succ]
   rw [List.getElem?_replicate,List.getElem?_replicate]
   split <;> trivial
 ·cases hx
 ·cases hd
  rw [show v = .bl true from r]
  exact q H2
 ·cases hd
  obtain ⟨_,_,_,_,_,_,r⟩:=r
  exact r.elim
def fBr(ow:List Nat)(fa:FE):FE:=λρ P X=>qNs ow ρ/\qOw fa ρ P X
def qO3(i:Nat)(fe:FE):FS:=λFD ρ=>i<ρ.length/\qB7 i fe FD ρ
def qBf:O2:=λa b P X=>(∃ ds,a = .lst ds)/\oIx a b P X
def qPk:O2:=λa b P X=>(∃ ds,a = .tup ds)/\oIx a b P X
def qFw(C:Str):List Str:=
 if C="Ratio" then ["top","bottom"] else if C="Poly" then ["coefficients","degree","lead"] else if C="Place" then ["low","high"] else if C="Lot" then ["poly","begin","count"] else if C="Bar" then ["factor","base","other"] else []
structure KF (K:W.Frag) (cs:List Str):Prop extends KT K cs where
 fld:∀ C,C∈cs->∀ f,f∈qFw C->FldOk K C f
section
variable {K:W.Frag} {w:Wd} {ow ow' ow1 owb owx:List Nat} {H H':Hp} {σ:L2.St} {ρ:Env} {E:L2.St->XK} {E1:XK} {N:L2.Ends} {FD:FEnds} {F:Fd} {M:Addr->Prop}
def qPr(fe:FE)(g:FG):FS:=λFD ρ=>fe ρ (λd=>g d ρ FD.nx) (λx=>FD.ex x ρ)
def qPg(i:Nat)(g:Int->Int->Int)(fe:FE):FS:=λFD ρ=>∃ a,ρ[i]?=some (some (.int a))/\fe ρ (λd=>∃ b,d = .int b/\FD.nx (ρ.set i (some (.int (g a b))))) (λx=>FD.ex x ρ)
def qPl:O2:=λa b P _=>match a,b with
 | .bl i, .bl j=>P (.bl (decide (i=j)))
 | _,_=>False
def qNe:O2:=λa b P _=>match a,b with
 | .bl i, .bl j=>P (.bl (!decide (i=j)))
 | _,_=>False
section
variable {i:Nat} {a:Addr} {cls:Value} {dd:Option Addr} {x:Exn}
def qPa(i:Nat)(fe:FE):FE:=λρ P X=>i<ρ.length/\fe ρ P X
theorem SEH.len{ta:TE}{fa:FE}(h:SEH K Ta ow i a cls dd x ta fa):SEH K Ta ow i a cls dd x ta (qPa i fa):=λw H σ ρ P Q e r hi hf q=>h w H σ ρ P Q e r hi hf.2 q
theorem RepXs.gr(g:Gr K F H H'):∀ {fs:List (Str × D)} {gs:List (Str × V)},RepXs K F M H fs gs->RepXs K F M H' fs gs
 | [],_,h=>h
 | (n,d) :: r,_,h=>by
  obtain ⟨v,gr,rfl,r1,r2⟩:=h
  exact ⟨v,gr,rfl,Rep.goes g.goes _ _ r1,RepXs.gr g r2⟩
theorem RepX.gr(g:Gr K F H H')(h:RepX K F M H cls dd x):RepX K F M H' cls dd x:=by
 refine ⟨h.1, ?_⟩
 rcases h.2 with h | ⟨ad,gs,h1,h2,h3,h4⟩
 ·exact .inl h
 ·exact .inr ⟨ad,gs,h1,h2,g.old _ _ h3 h2,h4.gr g⟩
def IOk(K:W.Frag)(T:qE4):Prop:=∀ c b k,(c,b,k)∈T->ExcC K (He.ga K c)/\PySem.W.kitOne K (.ref (He.ga K c)) (.ref (He.ga K b))=some k
end
end
theorem qCl{K:W.Frag}{fsp:FSp}{n:Nat}(h:∀ ds P X,fsp ds P X->ds.length=n){vs:List V}{H:Hp}{Q:VK}{E:XK}(l:lift K fsp vs H Q E):vs.length=n:=by
 obtain ⟨F,M,ds,P,X,lv,r,hs,_⟩:=l
 rw [r.length]
 exact h ds P X hs
end MR
namespace MR
open PySem PySem.Spec PyProof.Rows L2 LamX
end MR
namespace MR
open PySem PySem.Spec PyProof.Rows L2
section
variable {P:D->Prop} {X:XP} {fsp:FSp} {ρ:Env} {R:Env->Prop} {a b c d:D} {q r:Rat} {cs es:List Rat} {n:Int} {C:Str} {i j k:Nat}
theorem qIh:qI8 (.rat q)=some ("Ratio":Str):=rfl
theorem qHi:qI8 (.poly cs)=some ("Poly":Str):=rfl
theorem qMl:qI0 "Ratio" fsp (.rat q) (.rat r) P X↔fsp [.rat q, .rat r] P X0:=⟨λh=>h.2.2,λh=>⟨rfl, .inr rfl,h⟩⟩
theorem qLd:qI0 "Ratio" fsp (.rat q) (.int n) P X↔fsp [.rat q, .int n] P X0:=⟨λh=>h.2.2,λh=>⟨rfl, .inl trivial,h⟩⟩
theorem qLw:qI0 "Poly" fsp (.poly cs) (.poly es) P X↔fsp [.poly cs, .poly es] P X0:=⟨λh=>h.2.2,λh=>⟨rfl, .inr rfl,h⟩⟩
theorem qM1:qI0 "Poly" fsp (.poly cs) (.int n) P X↔fsp [.poly cs, .int n] P X0:=⟨λh=>h.2.2,λh=>⟨rfl, .inl trivial,h⟩⟩
theorem qL7:qL3 "Ratio" fsp (.int n) (.rat q) P X↔fsp [.rat q, .int n] P X0:=⟨λh=>h.2.2,λh=>⟨trivial,rfl,h⟩⟩
theorem qMe:qL3 "Poly" fsp (.int n) (.poly cs) P X↔fsp [.poly cs, .int n] P X0:=⟨λh=>h.2.2,λh=>⟨trivial,rfl,h⟩⟩
theorem qNc:qL5 "Ratio" fsp (.rat q) P X↔fsp [.rat q] P X0:=⟨λh=>h.2,λh=>⟨rfl,h⟩⟩
theorem qNy:qL5 "Poly" fsp (.poly cs) P X↔fsp [.poly cs] P X0:=⟨λh=>h.2,λh=>⟨rfl,h⟩⟩
theorem qNo:qNb "Ratio" fsp [.rat q] P X↔fsp [.rat q] P X0:=⟨λ⟨_,h1,h⟩=>by cases h1;exact h.2,λh=>⟨_,rfl,rfl,h⟩⟩
theorem qNh:qMy [i,j] (.tup [a,b]) ρ R↔R ((ρ.set i (some a)).set j (some b)):=by
 constructor
 ·rintro ⟨ds,h,_,d1,r1,h1,d2,r2,h2,h3,hR⟩
  cases h;cases h1;cases h2;exact hR
 ·exact λh=>⟨_,rfl,rfl,_,_,rfl,_,_,rfl,rfl,h⟩
theorem qOe{l:Nat}:qMy [i,j,k,l] (.tup [a,b,c,d]) ρ R↔R ((((ρ.set i (some a)).set j (some b)).set k (some c)).set l (some d)):=by
 constructor
 ·rintro ⟨ds,h,_,d1,r1,h1,d2,r2,h2,d3,r3,h3,d4,r4,h4,h5,hR⟩
  cases h;cases h1;cases h2;cases h3;cases h4;exact hR
 ·exact λh=>⟨_,rfl,rfl,_,_,rfl,_,_,rfl,_,_,rfl,_,_,rfl,rfl,h⟩
theorem qNw{ds:List D}{Q:List D->Prop}:(∃ es,D.lst ds=D.lst es/\Q es)↔Q ds:=by
 constructor
 ·rintro ⟨es,h,q⟩;cases h;exact q
 ·exact λh=>⟨_,rfl,h⟩
theorem qNd{ds:List D}{Q:List D->Prop}:(∃ es,D.tup ds=D.tup es/\Q es)↔Q ds:=by
 constructor
 ·rintro ⟨es,h,q⟩;cases h;exact q
 ·exact λh=>⟨_,rfl,h⟩
theorem qN0{ds:List D}:(∃ es,D.lst ds=D.lst es)↔True:=⟨λ_=>trivial,λ_=>⟨_,rfl⟩⟩
theorem qN9{ds:List D}:(∃ es,D.tup ds=D.tup es)↔True:=⟨λ_=>trivial,λ_=>⟨_,rfl⟩⟩
theorem qN5{Q:Int->Prop}:(∃ i,D.int n=D.int i/\Q i)↔Q n:=by
 constructor
 ·rintro ⟨es,h,q⟩;cases h;exact q
 ·exact λh=>⟨_,rfl,h⟩
theorem qL9{ds:List D}{Q:List D->Prop}:(∃ es,[D.lst ds]=[D.lst es]/\Q es)↔Q ds:=by
 constructor
 ·rintro ⟨es,h,q⟩;cases h;exact q
 ·exact λh=>⟨_,rfl,h⟩
theorem qMm{ds fs:List D}{Q:List D->List D->Prop}:(∃ es gs,[D.lst ds,D.lst fs]=[D.lst es,D.lst gs]/\Q es gs)↔Q ds fs:=by
 constructor
 ·rintro ⟨es,gs,h,q⟩;cases h;exact q
 ·exact λh=>⟨_,_,rfl,h⟩
theorem qLg{Q:Int->Prop}:(∃ i,[D.int n]=[D.int i]/\Q i)↔Q n:=by
 constructor
 ·rintro ⟨es,h,q⟩;cases h;exact q
 ·exact λh=>⟨_,rfl,h⟩
theorem qL0{m:Int}{Q:Int->Int->Prop}:(∃ i j,[D.int n,D.int m]=[D.int i,D.int j]/\Q i j)↔Q n m:=by
 constructor
 ·rintro ⟨es,gs,h,q⟩;cases h;exact q
 ·exact λh=>⟨_,_,rfl,h⟩
theorem qN3{Q:List D->Prop}:(∃ d ds,[a]=[d]/\itD d=some ds/\Q ds)↔∃ ds,itD a=some ds/\Q ds:=by
 constructor
 ·rintro ⟨d,ds,h,q⟩;cases h;exact ⟨ds,q⟩
 ·exact λ⟨ds,h⟩=>⟨_,ds,rfl,h⟩
theorem qIc{ds:List D}{P:D->Prop}{X:XP}:qMd [.lst ds] P X↔P (.int (ds.length:Nat)):=Iff.rfl
theorem qIs{ds:List D}{P:D->Prop}{X:XP}:qMd [.tup ds] P X↔P (.int (ds.length:Nat)):=Iff.rfl
theorem qJ6{ds:List D}:qK8 (.lst ds)=some !ds.isEmpty:=rfl
theorem qJ2{ds:List D}:qK8 (.tup ds)=some !ds.isEmpty:=rfl
theorem qKz:qK8 (.int n)=some (n != 0):=rfl
theorem qL6{b:Bool}:qK8 (.bl b)=some b:=rfl
theorem qJ0:qK8 .non=some false:=rfl
theorem qK9{ds:List D}:itD (.lst ds)=some ds:=rfl
theorem qM0{ds:List D}:itD (.tup ds)=some ds:=rfl
theorem qOm{ds:List D}{Q:List D->Int->Nat->Prop}:(∃ es m l,D.lst ds=D.lst es/\D.int n=D.int m/\ixN es.length m=some l/\Q es m l)↔∃ l,ixN ds.length n=some l/\Q ds n l:=by
 constructor
 ·rintro ⟨es,m,l,h1,h2,h3,q⟩;cases h1;cases h2;exact ⟨l,h3,q⟩
 ·exact λ⟨l,h,q⟩=>⟨_,_,l,rfl,rfl,h,q⟩
end
end MR
local macro_rules | `(tactic| simp_arith [$ls,*]) => `(tactic| simp only [MR.qAy,MR.qBc,MR.fB,MR.qPf,MR.qAf,MR.fC,MR.fOp,MR.fUn,MR.fLs,MR.qBb,MR.qOl,MR.qNx,MR.qBt,MR.qAc,MR.qAu,MR.qAp,MR.qPb,MR.qPs,MR.qB7,MR.qO3,MR.qN6,MR.qPr,MR.qPt,MR.qJs,MR.qPe,MR.fOr,MR.qNv,MR.qPc,MR.qNf,MR.fIf,MR.qPm,MR.qEw,MR.qNi,MR.qNj,MR.qLi,MR.qB3,MR.qFv,MR.qE8,MR.fBr,MR.qOw,MR.qK7,MR.qOi,MR.qPg,MR.qLn,MR.qPx,MR.fSl,MR.qKg,MR.qOg,MR.qJe,MR.qPd,MR.fIt,MR.qNn,MR.qPh,MR.qPq,MR.qI4,MR.qCg,MR.toB,MR.oI,MR.oI0,MR.qOr,MR.qPi,MR.qPp,MR.qPu,MR.qEe,MR.qIc,MR.qIs,MR.qNt,MR.qMw,MR.qIl,MR.qPl,MR.qNe,MR.oEq,MR.oNe,MR.eqD,MR.qPw,MR.qOd,MR.isN,MR.qMl,MR.qLd,MR.qLw,MR.qM1,MR.qL7,MR.qMe,MR.qNc,MR.qNy,MR.qNo,MR.qJ6,MR.qJ2,MR.qKz,MR.qL6,MR.qJ0,MR.qNh,MR.qOe,MR.qNw,MR.qNd,MR.qN0,MR.qN9,MR.qN5,MR.qL9,MR.qMm,MR.qLg,MR.qL0,MR.qN3,MR.qOm,MR.qK9,MR.qM0,MR.qBf,MR.qPk,MR.InsD,List.map_cons,List.map_nil,List.cons_append,List.nil_append,List.length_cons,List.length_nil,List.getElem?_cons_zero,List.getElem?_cons_succ,List.set_cons_zero,List.set_cons_succ,List.replicate_succ,List.replicate_zero,Option.some.injEq,exists_eq_left',MR.qIh,MR.qHi,if_true,if_false,List.append_nil,true_and,and_true,true_or,or_true,Bool.false_eq_true,Bool.true_eq_false,reduceCtorEq,Nat.add_one_sub_one,Nat.reduceSub,Nat.reduceAdd,Nat.sub_self,Nat.zero_add,Nat.add_sub_cancel, $ls,*])
namespace MR
open PySem PySem.Spec PyProof.Rows L2
section
open PySem.W
variable {prog:Program} {w:World} {A:Around} {E:Value->Shared->Prop} {s:Shared} {K:Frag} {x y C C2 L f g:Addr} {h₀:Heap} {m:Str->Option Value} {ox oy:Obj} {od od2:Option Obj}
end
structure Op2C (K:W.Frag) (C C2:Addr) (nm:String):Prop where
 ne:C≠C2
 sf:PySem.W.selfFirst K C=true
 sf2:PySem.W.selfFirst K C2=true
 sub:PySem.W.subIn K (.ref C2) (.ref C)=some false
 rc:∃ rc,PySem.W.findIn K (.ref C) (dunderR nm)=some rc/\(rc=none\/∃ g:Addr,rc=some (.ref g))
 s2:∃ g:Addr,PySem.W.findIn K (.ref C2) (PySem.dunder nm)=some (some (.ref g))
 rc2:∃ rc,PySem.W.findIn K (.ref C2) (dunderR nm)=some rc/\(rc=none\/∃ g:Addr,rc=some (.ref g))
end MR
namespace MR
open PySem PySem.Spec PyProof.Rows L2 LamX
end MR
namespace MR
open PySem PySem.Spec PyProof.Rows L2
section
open PySem.W PySem.Calls
variable {M:Model} {A:Around} {E:Value->Shared->Prop} {s:Shared} {K:Frag} {env:PySem.Env} {pos:Pos} {x C:Addr} {first:List Value} {Q:Value->Shared->Prop}
end
section
variable {K:W.Frag} {Ta:List (Addr × Str)} {ow:List Nat} {E:L2.St->XK} {E1:XK}
theorem Reps.reverse{F:Fd}{M:Addr->Prop}{H:Hp}:∀ {ds:List D} {vs:List V},Reps K F M H ds vs->Reps K F M H ds.reverse vs.reverse
 | [],_,h=>by rw [show _=[] from h];exact rfl
 | d :: ds,_,h=>by
  obtain ⟨v,us,rfl,h1,h2⟩:=h
  rw [List.reverse_cons,List.reverse_cons]
  exact (Reps.reverse h2).append (.one h1)
end
def CEN(outer:List PySem.Env)(P:Program)(w:World)(H:Hp)(s:Shared)(Q:VK)(u:Value)(s':Shared):Prop:=
 ∃ H',s'.os=s.os/\AllBare s'.gens/\Un (frs outer) [] H H' s.heap s'.heap/\HOk P w H' s'.heap/\u = .notImplemented/\Q .non H'
def CRN(CX:CXT)(outer:List PySem.Env)(P:Program)(w:World)(H:Hp)(s:Shared)(Q:VK)(E:XK)(r:Result)(s':Shared):Prop:=
 match r with
 | .ok (.ret u)=>CEN outer P w H s Q u s'
 | .ok _=>False
 | .error e=>CX outer H s E e s'
structure NiOk (P:Program) (w:World) (K:W.Frag) (mg:Str->Option Value) (base:Heap) (CX:CXT) (k:Nat) (f:Addr) (fd:FuncData) (ps:List Str) (sp:Sp):Prop where
 len:∀ vs H Q E,sp vs H Q E->vs.length=ps.length
 run:∀ (A:Around) (outer:List PySem.Env) (s:Shared) (H:Hp) (args:Args) (us:List Value) (vs:List V) (Q:VK) (E:XK),Room k A->Env0 P w K mg base A outer s H->BindsTo s fd args (ps.zip us)->Vals vs us->sp vs H Q E->
  codeAny (model P w) A (.call (.ref f) args) (CRN CX outer P w H s Q E) s
section
open PySem.W
variable {prog:Program} {w:World} {A:Around} {E:Value->Shared->Prop} {s:Shared} {K:Frag} {x y C C2 L f g f2:Addr} {h₀:Heap} {m:Str->Option Value} {ox oy:Obj} {od od2:Option Obj}
end
end MR
namespace MR
open PySem PySem.Spec PyProof.Rows L2 LamX
end MR
namespace MR
open PySem PySem.Spec PyProof.Rows L2
def qM5(a b:Rat):Prop:=∃ n m,Sz n a/\Sz m b/\n+m<=900000
structure NonC (K:W.Frag) (C:Addr):Prop where
 sub:PySem.W.subIn K (.type "NoneType") (.ref C)=some false
 subR:PySem.W.subIn K (.ref C) (.type "NoneType")=some false
section
open PySem.W
variable {prog:Program} {w:World} {A:Around} {E:Value->Shared->Prop} {s:Shared} {K:Frag} {x C dx f:Addr} {od:Option Obj}
end
end MR
namespace MR
open PySem PySem.Spec PyProof.Rows L2 LamX
end MR
namespace MR
open PySem PySem.Spec PyProof.Rows L2
end MR
namespace MR
open PySem PySem.Spec PyProof.Rows L2 LamX
end MR
namespace MR
open PySem PySem.Spec PyProof.Rows L2
theorem qG9{d:D}{ds:List D}(h:itD d=some ds):d = .lst ds\/d = .tup ds:=by
 cases d <;> first | (cases h;done) | skip
 ·exact .inl (by cases h;rfl)
 ·exact .inr (by cases h;rfl)
theorem qBa{d:D}{ds:List D}{e:D}{k:Nat}{P:D->Prop}{X:XP}(h:itD d=some ds)(hk:ds[k]?=some e)(p:P e):oIx d (.int (k:Nat)) P X:=by
 rcases qG9 h with rfl | rfl
 ·exact ⟨ds,_,e, .inl rfl,rfl,atI_nat hk,p⟩
 ·exact ⟨ds,_,e, .inr rfl,rfl,atI_nat hk,p⟩
theorem qD4(lo:Int)(n:Nat):qHz lo (n+1) = .int lo :: qHz (lo+1) n:=by
 unfold qHz
 rw [List.range_succ_eq_map,List.map_cons,List.map_map]
 congr 1
 ·congr 1;omega
 ·refine List.map_congr_left λk _ => ?_
  show D.int (lo+((k+1:Nat):Int))=D.int (lo+1+(k:Int))
  congr 1;omega
def SzL(n:Nat)(cs:List Rat):Prop:=∀ c,c∈cs->Sz n c
theorem qKy:Sz 1 (0:Rat):=⟨by decide,by decide⟩
theorem SzL.coef{n:Nat}{cs:List Rat}(h:SzL n cs)(hn:0<n)(k:Nat):Sz n (coef cs k):=by
 by_cases hk:k<cs.length
 ·exact h _ (List.mem_of_getElem? (qKc hk))
 ·rw [qKf (by omega)]
  exact qKy.mono hn
structure MulSz (cs es:List Rat):Prop where
 prod:∀ i j,i<cs.length->j<es.length->qM5 (coef cs i) (coef es j)
 sum:∀ i j,i<cs.length->j<es.length->qM5 (conv (coef cs) (coef es) i (i+j)) (coef cs i*coef es j)
def cell(f g:Nat->Rat)(i j k:Nat):Rat:=conv f g i k+if i<=k/\k<i+j then f i*g (k - i) else 0
theorem SzL.neg{n:Nat}{cs:List Rat}(h:SzL n cs):SzL n (qO2 cs):=λc hc=>by
 unfold qO2 at hc
 obtain ⟨d,hd,rfl⟩:=List.mem_map.mp hc
 exact (h d hd).neg
end MR
namespace MR
open PySem PySem.Spec PyProof.Rows L2 He
def ktF(cs:List Str):Fct:=λK=>cs.all λC=>qOs C K && ((["int","bool","str","list","tuple"].all λn=>qCy (PySem.W.kitOne K (.ref (ga K C)) (.type n)) false) && ((["NoneType","int","bool","str","list","tuple","dict"].all λn=>qCy (PySem.W.kitOne K (.type n) (.ref (ga K C))) false) &&
 ((cs.all λC'=>qCy (PySem.W.kitOne K (.ref (ga K C)) (.ref (ga K C'))) (decide (C=C'))) && (qFw C).all λf=>(Fa.noat C f).ok K)))
theorem qMp{K:W.Frag}{cs:List Str}(h:ktF cs K=true):KF K cs:=by
 have h:=List.all_eq_true.mp h
 refine ⟨⟨λC hC => ?_,λC hC n hn => ?_,λC hC n hn => ?_,λC hC C' hC' => ?_⟩,λC hC f hf => ?_⟩ <;> obtain ⟨h1,h2⟩:=ba (h C hC) <;> obtain ⟨h2,h3⟩:=ba h2 <;> obtain ⟨h3,h4⟩:=ba h3 <;> obtain ⟨h4,h5⟩:=ba h4
 ·exact qHy h1
 ·exact qAm (List.all_eq_true.mp h2 n hn)
 ·exact qAm (List.all_eq_true.mp h3 n hn)
 ·exact qAm (List.all_eq_true.mp h4 C' hC')
 ·exact ⟨(qHy h1).cl,noat_ok (List.all_eq_true.mp h5 f hf)⟩
def xoF(T:qE4):Fct:=λK=>T.all λt=>qCy (PySem.W.exmOne K (.ref (ga K t.1)) (.ref (ga K t.2.1))) t.2.2
theorem qLz{K:W.Frag}{T:qE4}(h:xoF T K=true):XOk K T:=λa b k hm=>qAm (List.all_eq_true.mp h (a,b,k) hm)
def ioF(T:qE4):Fct:=λK=>T.all λt=>qOo t.1 K && qCy (PySem.W.kitOne K (.ref (ga K t.1)) (.ref (ga K t.2.1))) t.2.2
theorem qLj{K:W.Frag}{T:qE4}(h:ioF T K=true):IOk K T:=λa b k hm=>by
 obtain ⟨h1,h2⟩:=ba (List.all_eq_true.mp h (a,b,k) hm)
 exact ⟨qG0 h1,qAm h2⟩
abbrev bmV:List Value:=[.type "ValueError", .type "Exception", .type "BaseException", .type "object"]
structure Ex0 (K:W.Frag) (C:Addr):Prop where
 xin:PySem.W.excIn K C bmV "ValueError.__new__"=true
 kp:PySem.W.keepIn K (.ref C)=true
 bs:PySem.W.subIn K (.ref C) (.type "BaseException")=some true
 ty:PySem.W.typeIn K (.ref C)=some (.type "type")
def qIf(x:Str):Fct:=λK=>PySem.W.excIn K (ga K x) bmV "ValueError.__new__" && (PySem.W.keepIn K (.ref (ga K x)) && (qCy (PySem.W.subIn K (.ref (ga K x)) (.type "BaseException")) true && qCy (PySem.W.typeIn K (.ref (ga K x))) (.type "type")))
theorem qBu{K:W.Frag}{x:Str}(h:qIf x K=true):Ex0 K (ga K x):=by
 obtain ⟨h1,h⟩:=ba h
 obtain ⟨h2,h⟩:=ba h
 obtain ⟨h3,h4⟩:=ba h
 exact ⟨h1,h2,qAm h3,qAm h4⟩
theorem mk0{X:Cx}{C:Addr}{x:Str}{p pos:Pos}(T:Ex0 X.K C)(gC:X.mg x=some (.ref C))(hg:Gl X x:=by rfl)(hdb:(x == ("__debug__":Str))=false:=by decide):PMk X (.Call (.Name x p) [] [] pos) (λσ H Q=>Q (.ref C) none H):=
 qH6 PySem.F.excBase_ValueError T.xin gC T.kp (raises_own T.bs T.ty) hg hdb
theorem qGj{X:Cx}{C:Addr}{W:WX}{x:Str}{p1 pos pos2:Pos}(hc:X.calm=true)(tk:Takes X W)(T:Ex0 X.K C)(gC:X.mg x=some (.ref C))(hg:Gl X x:=by rfl)(hdb:(x == ("__debug__":Str))=false:=by decide) :
  PS X (.Raise (some (.Call (.Name x p1) [] [] pos)) none pos2) (qD3 C W):=ps_raise hc tk (mk0 T gC hg hdb)
end MR
namespace MR
open PySem PySem.Spec PyProof.Rows L2
section
variable {K:W.Frag} {E1:XK}
def qGs(ns:List Int):List D:=ns.map D.int
theorem qIa(ns:List Int):(qGs ns).length=ns.length:=List.length_map ..
theorem qH7{ns:List Int}{k:Nat}{n:Int}(h:ns[k]?=some n):(qGs ns)[k]?=some (.int n):=by
 unfold qGs
 rw [List.getElem?_map,h]
 rfl
theorem qH8(ns:List Int)(n:Int):qGs ns ++ [.int n]=qGs (ns ++ [n]):=by
 unfold qGs
 rw [List.map_append]
 rfl
end
end MR
namespace MR
end MR
namespace MR
open PySem PySem.Spec PyProof.Rows L2
section
variable {X:Cx} {k:Nat} {E:XK}
def Rts(K:W.Frag)(H:Hp)(xs:List V)(qs:List Rat):Prop:=xs.length=qs.length/\∀ (i:Nat) x q,xs[i]?=some x->qs[i]?=some q->∃ p,x = .ref p/\IsRat K H p q
theorem Rts.ext{K:W.Frag}{H H':Hp}{xs:List V}{qs:List Rat}(h:Rts K H xs qs)(e:Ext H H'):Rts K H' xs qs:=⟨h.1,λi x q h1 h2=>let ⟨p,hx,dx,z⟩:=h.2 i x q h1 h2;⟨p,hx,dx,e _ _ z⟩⟩
end
end MR
namespace MR
open PySem PySem.Spec PyProof.Rows L2 LamX
end MR
namespace MR
open PySem PySem.Spec PyProof.Rows L2
section
variable {X:Cx} {k:Nat} {E:XK}
def NumQ(K:W.Frag)(H:Hp)(x y:V)(b:Bool):Prop:=
 (∃ i j:Int,x = .int i/\y = .int j/\b=decide (i=j))\/∃ p q a c,x = .ref p/\y = .ref q/\IsRat K H p a/\IsRat K H q c/\qM5 a c/\b=decide (a=c)
theorem NumQ.ext{K:W.Frag}{H H':Hp}{x y:V}{b:Bool}(h:NumQ K H x y b)(e:Ext H H'):NumQ K H' x y b:=by
 rcases h with h | ⟨p,q,a,c,h1,h2,⟨dx,h3⟩,⟨dy,h4⟩,h5⟩
 ·exact .inl h
 ·exact .inr ⟨p,q,a,c,h1,h2,⟨dx,e _ _ h3⟩,⟨dy,e _ _ h4⟩,h5⟩
end
structure NeC (K:W.Frag) (C:Addr):Prop where
 ne:PySem.W.findIn K (.ref C) "__ne__"=some (some (.builtin "object.__ne__"))
 ob:PySem.W.mroIn K C (.type "object")=some true
section
open PySem.W
variable {M:Model} {prog:Program} {w:World} {A:Around} {E:Value->Shared->Prop} {s:Shared} {K:Frag} {x y C f:Addr} {ox oy:Obj} {od od2:Option Obj}
end
end MR
namespace MR
open PySem PySem.Spec PyProof.Rows L2 LamX
section
variable {K:W.Frag} {E1:XK} {F:Fd} {M:Addr->Prop} {H:Hp}
inductive NumE:D->D->Bool->Prop where
 | int (i j:Int):NumE (.int i) (.int j) (decide (i=j))
 | rat (a c:Rat) (h:qM5 a c):NumE (.rat a) (.rat c) (decide (a=c))
end
end MR
namespace MR
open PySem PySem.Spec PyProof.Rows L2
structure SeeC (K:W.Frag):Prop where
 st:PySem.W.nsOkIn K cStatics=true
 st1:PySem.W.nsIn K cStatics "sys.audit-hooks"=some none
 st2:PySem.W.nsIn K cStatics "sys.dict"=some none
 sm:PySem.W.nsOkIn K sysModules=true
 sm1:PySem.W.nsIn K sysModules "_pylong"=some none
 mn:∃ bm ob,PySem.W.nsIn K mainGlobals "__builtins__"=some (some (.ref bm))/\K.lookup bm=some ob/\ob.cls = .type "module"/\ob.dict=some builtinsNs
def qOq(K:W.Frag):Bool:=match PySem.W.nsIn K mainGlobals "__builtins__" with
 | some (some (.ref bm))=>(match K.lookup bm with
  | some ob=>decide (ob.cls = .type "module") && decide (ob.dict=some builtinsNs)
  | none=>false)
 | _=>false
open He in
def qO9:Fct:=λK=>PySem.W.nsOkIn K cStatics && (decide (PySem.W.nsIn K cStatics "sys.audit-hooks"=some none) && (decide (PySem.W.nsIn K cStatics "sys.dict"=some none) && (PySem.W.nsOkIn K sysModules && (decide (PySem.W.nsIn K sysModules "_pylong"=some none) && qOq K))))
theorem qKx{K:W.Frag}(h:qOq K=true):∃ bm ob,PySem.W.nsIn K mainGlobals "__builtins__"=some (some (.ref bm))/\K.lookup bm=some ob/\ob.cls = .type "module"/\ob.dict=some builtinsNs:=by
 unfold qOq at h
 split at h
 ·rename_i bm e
  split at h
  ·rename_i ob e2
   obtain ⟨h1,h2⟩:=Bool.and_eq_true_iff.mp h
   exact ⟨bm,ob,e,e2,of_decide_eq_true h1,of_decide_eq_true h2⟩
  ·cases h
 ·cases h
open He in
theorem qKe{K:W.Frag}(h:qO9 K=true):SeeC K:=by
 obtain ⟨h1,h⟩:=Bool.and_eq_true_iff.mp h
 obtain ⟨h2,h⟩:=Bool.and_eq_true_iff.mp h
 obtain ⟨h3,h⟩:=Bool.and_eq_true_iff.mp h
 obtain ⟨h4,h⟩:=Bool.and_eq_true_iff.mp h
 obtain ⟨h5,h⟩:=Bool.and_eq_true_iff.mp h
 exact ⟨h1,of_decide_eq_true h2,of_decide_eq_true h3,h4,of_decide_eq_true h5,qKx h⟩
theorem SeeC.base{K:W.Frag}{mg:Str->Option Value}{base:Heap}(S:SeeC K)(M:Mod K mg base):base.NoSeer where
 statics:=⟨_, .of_isNs (PySem.W.isNs_of_in M.kin S.st),PySem.W.nsMap_none_of_in M.kin S.st S.st1,PySem.W.nsMap_none_of_in M.kin S.st S.st2⟩
 mods:=⟨_, .of_isNs (PySem.W.isNs_of_in M.kin S.sm),PySem.W.nsMap_none_of_in M.kin S.sm S.sm1⟩
 imp:=M.blt
 main:=by
  obtain ⟨bm,ob,h1,h2,h3,h4⟩:=S.mn
  exact ⟨mg,bm,ob,M.glob,PySem.W.mg_of M.kin M.glob h1,M.kin _ _ h2,h3,h4⟩
section
variable {X:Cx}
theorem qI2(S:SeeC X.K)(ht:X.prog.given.tree=none)(hr:Room 32 X.A){e:PySem.Env}{l:List PySem.Env}(hk:X.stack=e :: l)(hg:e.scope.isGenerator=false)(hc:e.scope.isCoroutine=false)(hb:e.builtins=builtinsNs)(hgl:e.globals=mainGlobals){pins:List (Addr × Obj)}{σ:L2.St}{H:Hp}{s:Shared}(I:Inv X pins σ H s):PylongRoom (model X.prog X.w) X.A s:=
 PylongRoom.of I.nolimit (by have:=hr.dp;show X.A.depth+100<_;omega) (SeerAt.of ((S.base I.ok.mod).keeps I.bk) ht (by rw [I.ok.frames,hk]) hg hc hb hgl)
theorem qD6(S:SeeC X.K)(ht:X.prog.given.tree=none)(hr:Room 32 X.A){e:PySem.Env}{l:List PySem.Env}(hk:X.stack=e :: l:=by rfl)(hg:e.scope.isGenerator=false:=by rfl)(hc:e.scope.isCoroutine=false:=by rfl)(hb:e.builtins=builtinsNs:=by rfl)(hgl:e.globals=mainGlobals:=by rfl):OpR X (binaryOp .FloorDiv) (rI qIu λi j => .int (i.fdiv j)):=by
 intro pins s σ H x y v u Q I rx ry h
 obtain ⟨i,j,rfl,rfl,hj,q⟩:=h
 obtain ⟨t,rfl⟩:=rx
 obtain ⟨t',rfl⟩:=ry
 exact floordiv_int hj ⟨.int _,H,I.tok _,⟨_,rfl⟩,q⟩ (.inr (qI2 S ht hr hk hg hc hb hgl I))
end
end MR
namespace MR
open PySem PySem.Spec PyProof.Rows L2 LamX
mutual
def pyD:D->Option PyData
 | .non=>some .none
 | .bl b=>some (.bool b)
 | .int i=>some (.int i)
 | .str x=>some (.str x)
 | .lst ds=>(match pyDs ds with | some xs=>some (.list xs) | none=>none)
 | .tup ds=>(match pyDs ds with | some xs=>some (.tuple xs) | none=>none)
 | _=>none
def pyDs:List D->Option (List PyData)
 | []=>some []
 | d :: ds=>(match pyD d,pyDs ds with | some x,some xs=>some (x :: xs) | _,_=>none)
end
section
variable {K:W.Frag} {E1:XK} {F:Fd} {M:Addr->Prop} {H:Hp}
mutual
theorem qHd:∀ (d:D) (v:V) (e:PyData),pyD d=some e->Rep K F M H d v->Dp K H v e
 | .non,v,e,h,r=>by cases h;rw [show v = .non from r];exact .non
 | .bl b,v,e,h,r=>by cases h;rw [show v = .bl b from r];exact .bl b
 | .int b,v,e,h,r=>by cases h;rw [show v = .int b from r];exact .int b
 | .str b,v,e,h,r=>by cases h;rw [show v = .str b from r];exact .str b
 | .lst ds,v,e,h,r=>by
  obtain ⟨p,vs,rfl,_,hp,rs⟩:=r
  simp only [pyD] at h
  cases hx:pyDs ds with
  | none=>rw [hx] at h;cases h
  | some xs=>
   rw [hx] at h
   cases h
   exact .lst (SqL.of hp) (pyDs_ok ds vs xs hx rs)
 | .tup ds,v,e,h,r=>by
  obtain ⟨p,vs,rfl,_,hp,rs⟩:=r
  simp only [pyD] at h
  cases hx:pyDs ds with
  | none=>rw [hx] at h;cases h
  | some xs=>
   rw [hx] at h
   cases h
   exact .tup (SqT.of hp) (pyDs_ok ds vs xs hx rs)
 | .rat _,_,_,h,_=>by simp [pyD] at h
 | .poly _,_,_,h,_=>by simp [pyD] at h
 | .ins _ _ _,_,_,h,_=>by simp [pyD] at h
 | .feed,_,_,h,_=>by simp [pyD] at h
 | .exc,_,_,h,_=>by simp [pyD] at h
 | .adr _,_,_,h,_=>by simp [pyD] at h
 | .scr _,_,_,h,_=>by simp [pyD] at h
 | .dct _ _,_,_,h,_=>by simp [pyD] at h
 | .exn _ _ _,_,_,h,_=>by simp [pyD] at h
theorem pyDs_ok:∀ (ds:List D) (vs:List V) (es:List PyData),pyDs ds=some es->Reps K F M H ds vs->DpAll K H vs es
 | [],vs,es,h,r=>by
  cases h
  rw [show vs=[] from r]
  exact .nil
 | d :: ds,vs,es,h,r=>by
  obtain ⟨v,us,rfl,r1,r2⟩:=r
  simp only [pyDs] at h
  cases h1:pyD d with
  | none=>rw [h1] at h;cases h
  | some x=>
   cases h2:pyDs ds with
   | none=>rw [h1,h2] at h;cases h
   | some xs=>
    rw [h1,h2] at h
    cases h
    exact .cons (qHd d v x h1 r1) (pyDs_ok ds us xs h2 r2)
end
def qKo:O2:=λa b P _=>∃ d e,pyD a=some d/\pyD b=some e/\SeqAt.shaped d=true/\SeqAt.shaped e=true/\P (.bl (!PyData.eqv d e))
theorem qJg:OpS K E1 (rNeD K) qKo:=by
 intro F M H x y a b P X Q lv ra rb h q _
 obtain ⟨d,e,h1,h2,h3,h4,p⟩:=h
 exact ⟨d,e,qHd _ _ _ h1 ra,qHd _ _ _ h2 rb,h3,h4,q _ _ _ p .refl rfl⟩
theorem qHw{X:Cx}{k:Nat}(hr:Room k X.A):OpR X (compareOp .NotEq) (rNeD X.K):=op_neD (by have:=hr.un;omega)
def qNa:O2:=λa b P _=>∃ ns n v,a = .scr ns/\b = .int n/\atI ns n=some v/\P (.int v)
theorem qK3{α β:Type}{f:α->β}{xs:List α}{n:Int}{v:α}(h:atI xs n=some v):atI (xs.map f) n=some (f v):=by
 unfold atI at h ⊢
 rw [List.length_map]
 cases z:ixN xs.length n with
 | none=>rw [z] at h;cases h
 | some j=>
  rw [z] at h
  show (xs.map f)[j]?=_
  rw [List.getElem?_map]
  have h':xs[j]?=some v:=h
  rw [h']
  rfl
theorem qMi:OpS K E1 (rIxL K) qNa:=by
 intro F M H x y a b P X Q lv ra rb h q _
 obtain ⟨ns,n,v,rfl,rfl,h,p⟩:=h
 obtain ⟨a,rfl,hs⟩:=ra
 have rb':y = .int n:=rb
 subst rb'
 exact ⟨a,ns.map V.int,n, .int v,rfl,rfl,hs.sq,qK3 h,q _ _ _ p .refl rfl⟩
def qKu:OL:=λas P _=>∃ ns,as=[.scr ns]/\P (.int (ns.length:Nat))
theorem qK1:LsS K E1 (qIq K) qKu:=by
 intro F M H xs as P X Q lv ra h q x'
 obtain ⟨ns,rfl,p⟩:=h
 obtain ⟨v,rfl,r⟩:=qFb ra
 obtain ⟨a,rfl,hs⟩:=r
 exact ⟨.ref a,ns.length,rfl, .inl ⟨ns.map V.int,hs.sq,(List.length_map ..).symm⟩,q _ _ _ p .refl rfl⟩
end
end MR
namespace MR
open PySem PySem.Spec PyProof.Rows L2 LamX
section
variable {K:W.Frag} {Ta:List (Addr × Str)} {ow:List Nat} {E:L2.St->XK} {E1:XK} {F:Fd} {M:Addr->Prop} {H:Hp}
def qH3(x:Str)(n:Nat):Str:=⟨(List.replicate n x.cps.toList).flatten.toArray⟩
def qKk:V->V->Hp->VK->Prop:=λx y H Q=>∃ (a:Str) (n:Int),x = .str a/\y = .int n/\a.length=1/\0<=n/\n<=100000/\Q (.str (qH3 a n.toNat)) H
theorem qIi(l:List (Array Nat)):∀ b:Array Nat,(l.foldl (· ++ ·) b)=(b.toList ++ (l.map Array.toList).flatten).toArray:=by
 induction l with
 | nil=>intro b;simp
 | cons a l ih=>
  intro b
  rw [List.foldl_cons,ih]
  simp
theorem qI6{a:Str}(l1:a.length=1):qH3 a 1=a:=by
 unfold qH3
 rw [List.replicate_one,List.flatten_singleton]
theorem qHj(a:Str)(n:Nat):(⟨(List.replicate n a.cps).foldl (· ++ ·) #[]⟩:Str)=qH3 a n:=by
 rw [qIi]
 unfold qH3
 simp
theorem qIp{a:Str}(l1:a.length=1)(n:Nat):(qH3 a n).length=n:=by
 have e:a.cps.toList.length=1:=by rw [Array.length_toList];exact l1
 show (List.replicate n a.cps.toList).flatten.toArray.size=n
 rw [List.size_toArray,List.length_flatten,List.map_replicate,e,List.sum_replicate_nat]
 omega
theorem qJv{X:Cx}:OpR X (binaryOp .Mult) qKk:=by
 intro pins s σ H x y v u Q I rx ry h
 obtain ⟨a,n,rfl,rfl,l1,h0,h1,q⟩:=h
 obtain ⟨t,rfl⟩:=rx
 obtain ⟨t',rfl⟩:=ry
 have ea:(n<1)\/(n=1)\/(1<n):=by omega
 have big:(100000:Nat)<=sizeLine:=by rw [sizeLine_eq];decide
 refine PySem.P.mul_str ?_ ?_ ?_ ?_
 ·rw [decide_eq_false (by omega),decide_eq_false (by omega)];rfl
 ·intro z1 z2 z3
  rw [l1] at z3
  have:(1:Int)<=(2 ^ 63 - 1) / n:=(Int.le_ediv_iff_mul_le (by omega)).mpr (by omega)
  omega
 ·intro z1 z2
  rw [l1,Nat.one_mul]
  exact decide_eq_false (by omega)
 ·rcases ea with e | e | e
  ·rw [if_pos e]
   obtain rfl:n=0:=by omega
   exact ⟨by show 0<=sizeLine;omega,⟨.str _,H,I.tok _,⟨_,rfl⟩,q⟩⟩
  ·rw [if_neg (by omega),if_pos (by rw [e];rfl)]
   subst e
   rw [show (1:Int).toNat=1 from rfl,qI6 l1] at q
   exact ⟨.str _,H,I,⟨_,rfl⟩,q⟩
  ·rw [if_neg (by omega),if_neg (by rw [l1];simp;omega),qHj]
   exact ⟨by rw [qIp l1];omega,⟨.str _,H,I.tok _,⟨_,rfl⟩,q⟩⟩
def qK5:O2:=λa b P _=>∃ (x:Str) (n:Int),a = .str x/\b = .int n/\x.length=1/\0<=n/\n<=100000/\P (.str (qH3 x n.toNat))
theorem qJx:OpS K E1 qKk qK5:=by
 intro F M H x y a b P X Q lv ra rb h q _
 obtain ⟨u,n,rfl,rfl,l1,h0,h1,p⟩:=h
 exact ⟨u,n,ra,rb,l1,h0,h1,q _ _ _ p .refl rfl⟩
end
end MR
namespace MR
open PySem PySem.W PySem.Calls PyProof.Rows PySem.HandSPX
section
variable {prog:Program} {w:World} {A:Around} {E:Value->Shared->Prop} {R:Result->Shared->Prop} {s:Shared} {K:Frag} {C fI:Addr} {p:Str}
structure OwnMade6 (h h':Heap) (e C d:Addr) (p:Str) (v:Value):Prop where
 keep:∀ b o,h.get? b=some o->h'.get? b=some o
 new:h.objs.size<=e
 obj:∃ oe vs,h'.get? e=some oe/\oe.cls = .ref C/\oe.dict=some d/\oe.data = .fields vs/\vs[1]?=some .none/\vs[2]?=some .none/\4<vs.size
 dbig:h.objs.size<=d
 dne:d≠e
 ns:h'.Ns1 d (λy=>if y=p then some v else none)
end
end MR
namespace MR
open PySem PySem.Spec PyProof.Rows L2
end MR
namespace MR
open PySem PySem.W PySem.Calls PyProof.Rows PySem.HandSPX
section
variable {prog:Program} {w:World} {A:Around} {E:Value->Shared->Prop} {R:Result->Shared->Prop} {s:Shared} {K:Frag} {C fI:Addr} {p:Str}
structure PNameK (p:Str):Prop where
 bnd:∀ (n1 n2:Str) (an1:Option Expr) (ap1:Pos) (an2:Option Expr) (ap2:Pos) (b:FuncBody) (sc:Scope) (gl:Addr) (clo:List (Str × Addr)) (n9 n10 n11:Value) (n12:Option Addr) (n13 n14:Value) (n15:Addr) (u v:Value),
  bindArgs ⟨n1,n2, { posonlyargs:=[],args:=[⟨"self",an1,ap1⟩,⟨p,an2,ap2⟩],vararg:=none,kwonlyargs:=[],kw_defaults:=[],kwarg:=none,defaults:=[] },b,sc,gl,clo, .none,n9,n10,n11,n12,n13,n14,n15⟩ ⟨[u],[(p,v)]⟩=pure [(("self":Str),u),(p,v)]
theorem qF4:PNameK "word":=⟨λ_ _ _ _ _ _ _ _ _ _ _ _ _ _ _ _ _ _ _=>rfl⟩
theorem qC1:PNameK "part":=⟨λ_ _ _ _ _ _ _ _ _ _ _ _ _ _ _ _ _ _ _=>rfl⟩
theorem qEr:PNameK "index":=⟨λ_ _ _ _ _ _ _ _ _ _ _ _ _ _ _ _ _ _ _=>rfl⟩
theorem qH5:PNameK "most":=⟨λ_ _ _ _ _ _ _ _ _ _ _ _ _ _ _ _ _ _ _=>rfl⟩
theorem qHs{args:Args}(T:SupC prog K C fI p)(hp:PName p){x t0:Addr}{v:Value}{mg mb:Str->Option Value}(X:K.In s.heap)(G:s.heap.Ns mainGlobals mg)(B:s.heap.Ns builtinsNs mb)(hB:∀ x:Str,x≠"__name__"->mb x=bootBuiltins x)
  (hlim:s.heap.NoLimit) (hx:s.heap.get? x=some (excO C t0)) (hnx:K.lookup x=none) (hroom:A.depth<recursionLimit)
  (bnd:∀ (n1 n2:Str) (an1:Option Expr) (ap1:Pos) (an2:Option Expr) (ap2:Pos) (b:FuncBody) (sc:Scope) (gl:Addr) (clo:List (Str × Addr)) (n9 n10 n11:Value) (n12:Option Addr) (n13 n14:Value) (n15:Addr),bindArgs ⟨n1,n2, { posonlyargs:=[],args:=[⟨"self",an1,ap1⟩,⟨p,an2,ap2⟩],vararg:=none,kwonlyargs:=[],kw_defaults:=[],kwarg:=none,defaults:=[] },b,sc,gl,clo, .none,n9,n10,n11,n12,n13,n14,n15⟩ args=pure [(("self":Str), .ref x),(p,v)])
  (hq:∀ h' tk dx,InitEnd s.heap h' x C dx p v->R (.ok (.ret .none)) { s with heap:=h',toks:=tk }) :
  codeAny (model prog w) A (.call (.ref fI) args) R s:=by
 obtain ⟨oc,od,osl,fd,a1,a2,q1,q2,q3,q4,q5,q6,q7,q8,q9,q10,cda,cc,ccl,cdd,vs,ccs,file,tf,cl,cld,csl,hf,hcd,hpar,ha1,ha2,hbody,hsc,hgl,hbt,hclo,hdf,hcode,hcda,hvs,hfile,hcell,hq35⟩:=T.fn
 obtain ⟨nm,q,N,bs,bm,sn,sub,ab,col,dd,k0,k1,k2,k3,k5,hC,hbm,hal⟩:=T.cls
 have hcl:clsIn K C=some { name:=nm,bases:=bs,mro := .ref C :: bm,ns:=N,qualname:=q,hasDict:=true,slotNames:=sn,subclasses:=sub,abstract:=ab,collection:=col,hasDel:=false }:=by unfold clsIn;rw [hC] <;> rfl
 obtain ⟨n1,n2,n3,n4,n5,n6,n7,n8,n9,n10,n11,n12,n13,n14,n15⟩:=fd
 obtain ⟨aa1,an1,ap1⟩:=a1
 obtain ⟨aa2,an2,ap2⟩:=a2
 dsimp only at hcd hpar ha1 ha2 hbody hsc hgl hbt hclo hdf hcode
 subst hpar ha1 ha2 hbody hsc hgl hbt hclo hdf hcode
 have e1:¬ aa2=("self":Str):=hp.n1
 have b1:(aa2 == ("self":Str))=false:=by simpa using e1
 have b2:(aa2 == ("__class__":Str))=false:=by simpa using hp.n2
 have b3:(aa2 == ("super":Str))=false:=by simpa using hp.n3
 have b4:(("self":Str) == aa2)=false:=by simpa using Ne.symm e1
 have b5:(("__class__":Str) == aa2)=false:=by simpa using Ne.symm hp.n2
 have b6:(("super":Str) == aa2)=false:=by simpa using Ne.symm hp.n3
 have ls:([(("self":Str),NameKind.local),(aa2,NameKind.local),(("__class__":Str),NameKind.free),(("super":Str),NameKind.globalImplicit)]:List (Str × NameKind)).lookup ("self":Str)=some .local:=by simp [List.lookup]
 have lp:([(("self":Str),NameKind.local),(aa2,NameKind.local),(("__class__":Str),NameKind.free),(("super":Str),NameKind.globalImplicit)]:List (Str × NameKind)).lookup aa2=some .local:=by simp [List.lookup,b1]
 have lc:([(("self":Str),NameKind.local),(aa2,NameKind.local),(("__class__":Str),NameKind.free),(("super":Str),NameKind.globalImplicit)]:List (Str × NameKind)).lookup ("__class__":Str)=some .free:=by
  simp [List.lookup,b5,show (("__class__":Str) == ("self":Str))=false by decide +kernel]
 have lu:([(("self":Str),NameKind.local),(aa2,NameKind.local),(("__class__":Str),NameKind.free),(("super":Str),NameKind.globalImplicit)]:List (Str × NameKind)).lookup ("super":Str)=some .globalImplicit:=by
  simp [List.lookup,b6,show (("super":Str) == ("self":Str))=false by decide +kernel,show (("super":Str) == ("__class__":Str))=false by decide +kernel]
 refine ks_codeAny_call_defAt (binds:=[(("self":Str), .ref x),(aa2,v)]) hroom (X _ _ hf) rfl hlim (codeRec_of X hcd) rfl (BindsTo.of_eq (bnd _ _ _ _ _ _ _ _ _ _ _ _ _ _ _ _ _)) ?cell ?loc ?body rfl rfl rfl
 case cell=>simp
 case loc=>
  intro y hy
  rcases List.mem_cons.mp hy with rfl | hy
  ·exact ls
  ·rcases List.mem_cons.mp hy with rfl | hy
   ·exact lp
   ·cases hy
 case body=>
  intro h₁ hn k
  have X₁:K.In h₁:=X.keeps k
  have hx₁:=k _ _ hx
  have G₁:h₁.Ns mainGlobals mg:=G.keepsP k
  have B₁:h₁.Ns builtinsNs mb:=B.keepsP k
  have hm1:(λy=>([(("self":Str),Value.ref x),(aa2,v)]:List (Str × Value)).reverse.lookup y) ("self":Str)=some (.ref x):=by simp [List.lookup,b4]
  have hm2:(λy=>([(("self":Str),Value.ref x),(aa2,v)]:List (Str × Value)).reverse.lookup y) aa2=some v:=by simp [List.lookup]
  have hsup:mg "super"=none:=mg_none_of X G T.sup
  have hC1:=X₁ _ _ hC
  refine ks_wpAt_execs_cons (ks_wpAt_Expr_any ?_ rfl rfl)
  refine ks_wpAt_MethodCall ?_ (qEq hq35 rfl)
  refine ks_wpAt_super_base (env:=callEnv _ _ _) lu lc (by decide +kernel) rfl (X₁ _ _ hf) rfl rfl rfl (X₁ _ _ hcda) rfl hvs hfile T.top ?_
  refine ks_loadName_global rfl lu (loadGlobal_builtin (env:=callEnv _ _ _) G₁ hsup B₁ ((hB _ (by decide +kernel)).trans (by decide +kernel)) ⟨rfl, ?_⟩)
  refine wpAny_loadName_free rfl lc rfl ⟨_,X₁ _ _ hcell,rfl⟩ ?_
  refine wpAny_loadName_local rfl ls hn hm1 ?_
  refine ks_wpAny_isType_cls hC1 rfl ⟨rfl, ?_⟩
  refine ks_wpAny_call_super hC1 rfl hx₁ rfl (λc e=>by cases e) (looks_mroIn X₁ T.selfC) (λh₂ e₂ k₂ => ?_)
  have X₂:K.In h₂:=X₁.keeps k₂
  have hx₂:=k₂ _ _ hx₁
  have hC2:=X₂ _ _ hC
  have I₂:InstAt h₂ x (excO C t0) C none:=⟨hx₂,rfl,rfl,trivial⟩
  have hxC:x≠C:=λz=>by rw [z,hC2] at hx₂;cases hx₂
  have hI2:Looks (model prog w) h₂ (isInstance (.ref x) (.type "ValueError")) true:=I₂.type.andThen (looks_subIn X₂ T.veC)
  refine kxs_getMethod kxs_ValueError (l₀ := .ref C :: bm) (l:=bm) e₂ (looks_opaque X₂ T.opq) ((looks_clsIn X₂ hcl).andThen .now) (by simp [List.dropWhile_cons]) X₂ hal hI2 hxC (by decide +kernel) ?_
  dsimp only
  refine kxs_callWith (i:="ValueError.__init__") (x:=x) rfl (evalArgs_plain (spliced_cons ?_))
  have kw:∀ b o,h₂.get? b=some o->(h₂.push (kxs_mw "ValueError.__init__" x)).get? b=some o:=λb o e=>Heap.get?_push_of_some _ e
  have hn₂:(h₂.push (kxs_mw "ValueError.__init__" x)).Ns s.heap.objs.size (λy=>([(("self":Str),Value.ref x),(aa2,v)]:List (Str × Value)).reverse.lookup y):=(hn.keepsP k₂).keepsP kw
  refine wpAny_Name (wpAny_loadName_local rfl lp hn₂ hm2 ?_) hp.n4
  refine spliced_nil ⟨Heap.get?_push_at rfl rfl, ?_⟩
  refine qB2 (x:=x) (t0:=t0) (kw _ _ hC2) (Heap.get?_push_at rfl rfl) (kw _ _ hx₂) (by rw [sizeLine_eq];exact (by decide:1<=16777216)) λh₃ t1 k₃ hx₃ => ?_
  have hsz:s.heap.objs.size≠x:=Nat.ne_of_gt (Heap.lt_size hx)
  have old:∀ b o,b≠x->h₁.get? b=some o->h₃.get? b=some o:=λb o hb e=>k₃ b o hb (kw b o (k₂ b o e))
  have X₃:K.In h₃:=λa o e=>old a o (λz=>by rw [z,hnx] at e;cases e) (X₁ _ _ e)
  have hn₃:h₃.Ns s.heap.objs.size (λy=>([(("self":Str),Value.ref x),(aa2,v)]:List (Str × Value)).reverse.lookup y):=by
   obtain ⟨o,es,ep,ho,r⟩:=hn
   exact ⟨o,es,ep,old _ _ hsz ho,r⟩
  refine ks_wpAt_execs_cons (ks_wpAt_Assign_Attr (wpAt_of_wpAny ?_) rfl)
  refine wpAny_Name (wpAny_loadName_local rfl lp hn₃ hm2 ?_) hp.n4
  refine wpAny_Name (wpAny_loadName_local rfl ls hn₃ hm1 ?_) (by decide +kernel)
  refine set_plain X₃ (ox:=excO C t1) (od:=none) ⟨hx₃,rfl,rfl,trivial⟩ T.sa ?_
  refine exc_osa X₃ hx₃ hcl (show refsVE (.ref C :: bm)=true from hbm) rfl T.no (λh₄ tk₄ dx k₄ dn dne hx₄ hn₄ => ?_)
  refine wpAt_of_wpAny (wpAny_execs_nil (hq h₄ tk₄ dx ⟨λb o hb e=>k₄ b o hb (old b o hb (k b o e)),⟨t1,hx₄⟩,Nat.le_of_lt (Nat.lt_of_lt_of_le hn₃.lt dn),dne,hn₄⟩))
theorem qGn(T:SupC2 prog K C fI){x t0:Addr}{v1 v2:Value}{mg mb:Str->Option Value}(X:K.In s.heap)(G:s.heap.Ns mainGlobals mg)(B:s.heap.Ns builtinsNs mb)(hB:∀ x:Str,x≠"__name__"->mb x=bootBuiltins x)
  (hlim:s.heap.NoLimit) (hx:s.heap.get? x=some (excO C t0)) (hnx:K.lookup x=none) (hroom:A.depth<recursionLimit)
  (hq:∀ h' tk dx,InitEnd2 s.heap h' x C dx v1 v2->R (.ok (.ret .none)) { s with heap:=h',toks:=tk }) :
  codeAny (model prog w) A (.call (.ref fI) ⟨[.ref x],[("high",v2),("low",v1)]⟩) R s:=by
 obtain ⟨oc,od,osl,fd,a1,a2,a3,q1,q2,q3,q4,r4,q5,q6,q7,q8,q9,q10,r7,r8,r9,r10,cda,cc,ccl,cdd,vs,ccs,file,tf,cl,cld,csl,hf,hcd,hpar,ha1,ha2,ha3,hbody,hsc,hgl,hbt,hclo,hdf,hcode,hcda,hvs,hfile,hcell,hq35⟩:=T.fn
 obtain ⟨nm,q,N,bs,bm,sn,sub,ab,col,dd,k0,k1,k2,k3,k5,hC,hbm,hal⟩:=T.cls
 have hcl:clsIn K C=some { name:=nm,bases:=bs,mro := .ref C :: bm,ns:=N,qualname:=q,hasDict:=true,slotNames:=sn,subclasses:=sub,abstract:=ab,collection:=col,hasDel:=false }:=by unfold clsIn;rw [hC] <;> rfl
 obtain ⟨n1,n2,n3,n4,n5,n6,n7,n8,n9,n10,n11,n12,n13,n14,n15⟩:=fd
 obtain ⟨aa1,an1,ap1⟩:=a1
 obtain ⟨aa2,an2,ap2⟩:=a2
 obtain ⟨aa3,an3,ap3⟩:=a3
 dsimp only at hcd hpar ha1 ha2 ha3 hbody hsc hgl hbt hclo hdf hcode
 subst hpar ha1 ha2 ha3 hbody hsc hgl hbt hclo hdf hcode
 have ls:([(("self":Str),NameKind.local),(("low":Str),NameKind.local),(("high":Str),NameKind.local),(("__class__":Str),NameKind.free),(("super":Str),NameKind.globalImplicit)]:List (Str × NameKind)).lookup ("self":Str)=some .local:=by decide +kernel
 have lp:([(("self":Str),NameKind.local),(("low":Str),NameKind.local),(("high":Str),NameKind.local),(("__class__":Str),NameKind.free),(("super":Str),NameKind.globalImplicit)]:List (Str × NameKind)).lookup ("low":Str)=some .local:=by decide +kernel
 have lq:([(("self":Str),NameKind.local),(("low":Str),NameKind.local),(("high":Str),NameKind.local),(("__class__":Str),NameKind.free),(("super":Str),NameKind.globalImplicit)]:List (Str × NameKind)).lookup ("high":Str)=some .local:=by decide +kernel
 have lc:([(("self":Str),NameKind.local),(("low":Str),NameKind.local),(("high":Str),NameKind.local),(("__class__":Str),NameKind.free),(("super":Str),NameKind.globalImplicit)]:List (Str × NameKind)).lookup ("__class__":Str)=some .free:=by decide +kernel
 have lu:([(("self":Str),NameKind.local),(("low":Str),NameKind.local),(("high":Str),NameKind.local),(("__class__":Str),NameKind.free),(("super":Str),NameKind.globalImplicit)]:List (Str × NameKind)).lookup ("super":Str)=some .globalImplicit:=by decide +kernel
 refine ks_codeAny_call_defAt (binds:=[(("self":Str), .ref x),(("low":Str),v1),(("high":Str),v2)]) hroom (X _ _ hf) rfl hlim (codeRec_of X hcd) rfl (BindsTo.of_eq rfl) ?cell ?loc ?body rfl rfl rfl
 case cell=>simp
 case loc=>
  intro y hy
  rcases List.mem_cons.mp hy with rfl | hy
  ·exact ls
  ·rcases List.mem_cons.mp hy with rfl | hy
   ·exact lp
   ·rcases List.mem_cons.mp hy with rfl | hy
    ·exact lq
    ·cases hy
 case body=>
  intro h₁ hn k
  have X₁:K.In h₁:=X.keeps k
  have hx₁:=k _ _ hx
  have G₁:h₁.Ns mainGlobals mg:=G.keepsP k
  have B₁:h₁.Ns builtinsNs mb:=B.keepsP k
  have hm1:(λy=>([(("self":Str),Value.ref x),(("low":Str),v1),(("high":Str),v2)]:List (Str × Value)).reverse.lookup y) ("self":Str)=some (.ref x):=rfl
  have hm2:(λy=>([(("self":Str),Value.ref x),(("low":Str),v1),(("high":Str),v2)]:List (Str × Value)).reverse.lookup y) ("low":Str)=some v1:=rfl
  have hm3:(λy=>([(("self":Str),Value.ref x),(("low":Str),v1),(("high":Str),v2)]:List (Str × Value)).reverse.lookup y) ("high":Str)=some v2:=rfl
  have hsup:mg "super"=none:=mg_none_of X G T.sup
  have hC1:=X₁ _ _ hC
  refine ks_wpAt_execs_cons (ks_wpAt_Expr_any ?_ rfl rfl)
  refine ks_wpAt_MethodCall ?_ (qDq hq35 rfl)
  refine ks_wpAt_super_base (env:=callEnv _ _ _) lu lc (by decide +kernel) rfl (X₁ _ _ hf) rfl rfl rfl (X₁ _ _ hcda) rfl hvs hfile T.top ?_
  refine ks_loadName_global rfl lu (loadGlobal_builtin (env:=callEnv _ _ _) G₁ hsup B₁ ((hB _ (by decide +kernel)).trans (by decide +kernel)) ⟨rfl, ?_⟩)
  refine wpAny_loadName_free rfl lc rfl ⟨_,X₁ _ _ hcell,rfl⟩ ?_
  refine wpAny_loadName_local rfl ls hn hm1 ?_
  refine ks_wpAny_isType_cls hC1 rfl ⟨rfl, ?_⟩
  refine ks_wpAny_call_super hC1 rfl hx₁ rfl (λc e=>by cases e) (looks_mroIn X₁ T.selfC) (λh₂ e₂ k₂ => ?_)
  have X₂:K.In h₂:=X₁.keeps k₂
  have hx₂:=k₂ _ _ hx₁
  have hC2:=X₂ _ _ hC
  have I₂:InstAt h₂ x (excO C t0) C none:=⟨hx₂,rfl,rfl,trivial⟩
  have hxC:x≠C:=λz=>by rw [z,hC2] at hx₂;cases hx₂
  have hI2:Looks (model prog w) h₂ (isInstance (.ref x) (.type "ValueError")) true:=I₂.type.andThen (looks_subIn X₂ T.veC)
  refine kxs_getMethod kxs_ValueError (l₀ := .ref C :: bm) (l:=bm) e₂ (looks_opaque X₂ T.opq) ((looks_clsIn X₂ hcl).andThen .now) (by simp [List.dropWhile_cons]) X₂ hal hI2 hxC (by decide +kernel) ?_
  dsimp only
  refine kxs_callWith (i:="ValueError.__init__") (x:=x) rfl (evalArgs_plain (spliced_cons ?_))
  have kw:∀ b o,h₂.get? b=some o->(h₂.push (kxs_mw "ValueError.__init__" x)).get? b=some o:=λb o e=>Heap.get?_push_of_some _ e
  have hn₂:(h₂.push (kxs_mw "ValueError.__init__" x)).Ns s.heap.objs.size (λy=>([(("self":Str),Value.ref x),(("low":Str),v1),(("high":Str),v2)]:List (Str × Value)).reverse.lookup y):=(hn.keepsP k₂).keepsP kw
  refine wpAny_Name (wpAny_loadName_local rfl lp hn₂ hm2 ?_) (by decide +kernel)
  refine spliced_cons ?_
  refine wpAny_Name (wpAny_loadName_local rfl lq hn₂ hm3 ?_) (by decide +kernel)
  refine spliced_nil ⟨Heap.get?_push_at rfl rfl, ?_⟩
  refine qB2 (x:=x) (t0:=t0) (kw _ _ hC2) (Heap.get?_push_at rfl rfl) (kw _ _ hx₂) (by rw [sizeLine_eq];exact (by decide:2<=16777216)) λh₃ t1 k₃ hx₃ => ?_
  have hsz:s.heap.objs.size≠x:=Nat.ne_of_gt (Heap.lt_size hx)
  have old:∀ b o,b≠x->h₁.get? b=some o->h₃.get? b=some o:=λb o hb e=>k₃ b o hb (kw b o (k₂ b o e))
  have X₃:K.In h₃:=λa o e=>old a o (λz=>by rw [z,hnx] at e;cases e) (X₁ _ _ e)
  have hn₃:h₃.Ns s.heap.objs.size (λy=>([(("self":Str),Value.ref x),(("low":Str),v1),(("high":Str),v2)]:List (Str × Value)).reverse.lookup y):=by
   obtain ⟨o,es,ep,ho,r⟩:=hn
   exact ⟨o,es,ep,old _ _ hsz ho,r⟩
  refine ks_wpAt_execs_cons (ks_wpAt_Assign_Attr (wpAt_of_wpAny ?_) rfl)
  refine wpAny_Name (wpAny_loadName_local rfl lp hn₃ hm2 ?_) (by decide +kernel)
  refine wpAny_Name (wpAny_loadName_local rfl ls hn₃ hm1 ?_) (by decide +kernel)
  refine set_plain X₃ (ox:=excO C t1) (od:=none) ⟨hx₃,rfl,rfl,trivial⟩ T.sa ?_
  refine exc_osa X₃ hx₃ hcl (show refsVE (.ref C :: bm)=true from hbm) rfl T.no (λh₄ tk₄ dx k₄ dn dne hx₄ hn₄ => ?_)
  have old4:∀ b o,b≠x->h₁.get? b=some o->h₄.get? b=some o:=λb o hb e=>k₄ b o hb (old b o hb e)
  have X₄:K.In h₄:=λa o e=>k₄ a o (λz=>by rw [z,hnx] at e;cases e) (X₃ _ _ e)
  have hn₅:h₄.Ns s.heap.objs.size (λy=>([(("self":Str),Value.ref x),(("low":Str),v1),(("high":Str),v2)]:List (Str × Value)).reverse.lookup y):=by
   obtain ⟨o,es,ep,ho,r⟩:=hn₃
   exact ⟨o,es,ep,k₄ _ _ hsz ho,r⟩
  obtain ⟨oD,esD,epD,hoD,hdD,_⟩:=hn₄.count (Within.cons "low" v1 Within.nil)
  refine ks_wpAt_execs_cons (ks_wpAt_Assign_Attr (wpAt_of_wpAny ?_) rfl)
  refine wpAny_Name (wpAny_loadName_local rfl lq hn₅ hm3 ?_) (by decide +kernel)
  refine wpAny_Name (wpAny_loadName_local rfl ls hn₅ hm1 ?_) (by decide +kernel)
  refine set_plain X₄ (ox := { cls := .ref C,dict:=some dx,data := .fields #[.ref t1, .none, .none, .none, .bool false, .none] }) (od:=some oD) ⟨hx₄,rfl,rfl,hoD⟩ T.sa ?_
  refine PySem.OEX.osa_old X₄ hx₄ hn₄ (Within.cons "low" v1 Within.nil) (by decide) hcl (show refsVE (.ref C :: bm)=true from hbm) rfl T.no2 (λh₅ tk₅ k₅ hn₆ => ?_)
  have bd:s.heap.objs.size<=dx:=Nat.le_of_lt (Nat.lt_of_lt_of_le hn₃.lt dn)
  refine wpAt_of_wpAny (wpAny_execs_nil (hq h₅ tk₅ dx ⟨λb o hb e=>k₅ b o (λz=>absurd (Heap.lt_size e) (Nat.not_lt.mpr (by rw [z];exact bd))) (old4 b o hb (k b o e)),⟨t1,k₅ x _ dne.symm hx₄⟩,bd,dne,hn₆⟩))
structure MadeV (h h':Heap) (e C d:Addr) (m:Str->Option Value):Prop where
 keep:∀ b o,h.get? b=some o->h'.get? b=some o
 new:h.objs.size<=e
 obj:∃ t1:Addr,h'.get? e=some ({ cls := .ref C,dict:=some d,data := .fields #[.ref t1, .none, .none, .none, .bool false, .none] }:Obj)
 dbig:h.objs.size<=d
 dne:d≠e
 ns:h'.Ns1 d m
theorem qOf(T:SupC prog K C fI p)(hp:PName p){v:Value}{mg mb:Str->Option Value}(X:K.In s.heap)(G:s.heap.Ns mainGlobals mg)(B:s.heap.Ns builtinsNs mb)(hB:∀ x:Str,x≠"__name__"->mb x=bootBuiltins x)(hlim:s.heap.NoLimit)(hroom:A.depth+1<recursionLimit)
  (hq:∀ h' tk e d,MadeV s.heap h' e C d (λy=>if y=p then some v else none)->R (.ok (.ret (.ref e))) { s with heap:=h',toks:=tk }):codeAny (model prog w) A (.call (.ref C) ⟨[v],[]⟩) R s:=by
 obtain ⟨nm,q,N,bs,bm,sn,sub,ab,col,dd,k0,k1,k2,k3,k5,hC,hbm,_⟩:=T.cls
 obtain ⟨hp',g,dr,tk,os⟩:=s
 have k:∀ b o,hp'.get? b=some o->((hp'.push (kdv_tup [v])).push (excO C hp'.objs.size)).get? b=some o:=λb o e=>Heap.get?_push_of_some _ (Heap.get?_push_of_some _ e)
 have hget:((hp'.push (kdv_tup [v])).push (excO C hp'.objs.size)).get? (hp'.objs.size+1)=some (excO C hp'.objs.size):=by heap_get
 have hnx:K.lookup (hp'.objs.size+1)=none:=by
  cases e:K.lookup (hp'.objs.size+1) with
  | none=>rfl
  | some o=>exact absurd (Nat.lt_of_succ_lt (Heap.lt_size (show hp'.get? (hp'.objs.size+1)=some o from X _ _ e))) (Nat.lt_irrefl _)
 refine call_own F.excBase_ValueError (λX=>refsVE_contains X bm hbm) (X _ _ hC) (looks_findIn X T.ini) (λself=>bind_fn X self T.tfn) (by rw [sizeLine_eq];exact (by decide:1<=16777216)) ?_
 refine qF7 (s:=⟨(hp'.push (kdv_tup [v])).push (excO C hp'.objs.size),g,dr,tk,os⟩) T hp (X.keeps k) (G.keepsP k) (B.keepsP k) hB (hlim.keeps k) hget hnx (show A.depth+1<recursionLimit from hroom) λh' tk' dx ⟨k',⟨t1,hx⟩,dn,dne,hns⟩ => ?_
 have old:∀ b o,hp'.get? b=some o->h'.get? b=some o:=λb o e=>k' b o (Nat.ne_of_lt (Nat.lt_succ_of_lt (Heap.lt_size e))) (k b o e)
 have z:hp'.objs.size+1+1<=dx:=by
  have q:=dn
  simp only [Heap.size_push] at q
  exact q
 exact ⟨rfl,hq h' tk' (hp'.objs.size+1) dx ⟨old,Nat.le_succ _,⟨t1,hx⟩,(by show hp'.objs.size<=dx;omega),dne,hns⟩⟩
theorem qMt(T:SupC prog K C fI p)(hp:PName p)(hk:PNameK p){v:Value}{mg mb:Str->Option Value}(X:K.In s.heap)(G:s.heap.Ns mainGlobals mg)(B:s.heap.Ns builtinsNs mb)(hB:∀ x:Str,x≠"__name__"->mb x=bootBuiltins x)(hlim:s.heap.NoLimit)(hroom:A.depth+1<recursionLimit)
  (hq:∀ h' tk e d,MadeV s.heap h' e C d (λy=>if y=p then some v else none)->R (.ok (.ret (.ref e))) { s with heap:=h',toks:=tk }):codeAny (model prog w) A (.call (.ref C) ⟨[],[(p,v)]⟩) R s:=by
 obtain ⟨nm,q,N,bs,bm,sn,sub,ab,col,dd,k0,k1,k2,k3,k5,hC,hbm,_⟩:=T.cls
 obtain ⟨hp',g,dr,tk,os⟩:=s
 have k:∀ b o,hp'.get? b=some o->((hp'.push (kdv_tup [])).push (excO C hp'.objs.size)).get? b=some o:=λb o e=>Heap.get?_push_of_some _ (Heap.get?_push_of_some _ e)
 have hget:((hp'.push (kdv_tup [])).push (excO C hp'.objs.size)).get? (hp'.objs.size+1)=some (excO C hp'.objs.size):=by heap_get
 have hnx:K.lookup (hp'.objs.size+1)=none:=by
  cases e:K.lookup (hp'.objs.size+1) with
  | none=>rfl
  | some o=>exact absurd (Nat.lt_of_succ_lt (Heap.lt_size (show hp'.get? (hp'.objs.size+1)=some o from X _ _ e))) (Nat.lt_irrefl _)
 refine qG4 F.excBase_ValueError (λX=>refsVE_contains X bm hbm) (X _ _ hC) (looks_findIn X T.ini) (λself=>bind_fn X self T.tfn) ?_
 refine qHs (s:=⟨(hp'.push (kdv_tup [])).push (excO C hp'.objs.size),g,dr,tk,os⟩) T hp (X.keeps k) (G.keepsP k) (B.keepsP k) hB (hlim.keeps k) hget hnx (show A.depth+1<recursionLimit from hroom) (λ_ _ _ _ _ _ _ _ _ _ _ _ _ _ _ _ _=>hk.bnd _ _ _ _ _ _ _ _ _ _ _ _ _ _ _ _ _ _ _) λh' tk' dx ⟨k',⟨t1,hx⟩,dn,dne,hns⟩ => ?_
 have old:∀ b o,hp'.get? b=some o->h'.get? b=some o:=λb o e=>k' b o (Nat.ne_of_lt (Nat.lt_succ_of_lt (Heap.lt_size e))) (k b o e)
 have z:hp'.objs.size+1+1<=dx:=by
  have q:=dn
  simp only [Heap.size_push] at q
  exact q
 exact ⟨rfl,hq h' tk' (hp'.objs.size+1) dx ⟨old,Nat.le_succ _,⟨t1,hx⟩,(by show hp'.objs.size<=dx;omega),dne,hns⟩⟩
theorem qNm(T:SupC2 prog K C fI){v1 v2:Value}{mg mb:Str->Option Value}(X:K.In s.heap)(G:s.heap.Ns mainGlobals mg)(B:s.heap.Ns builtinsNs mb)(hB:∀ x:Str,x≠"__name__"->mb x=bootBuiltins x)(hlim:s.heap.NoLimit)(hroom:A.depth+1<recursionLimit)
  (hq:∀ h' tk e d,MadeV s.heap h' e C d (λy=>if y="high" then some v2 else if y="low" then some v1 else none)->R (.ok (.ret (.ref e))) { s with heap:=h',toks:=tk }):codeAny (model prog w) A (.call (.ref C) ⟨[v1,v2],[]⟩) R s:=by
 obtain ⟨nm,q,N,bs,bm,sn,sub,ab,col,dd,k0,k1,k2,k3,k5,hC,hbm,_⟩:=T.cls
 obtain ⟨hp',g,dr,tk,os⟩:=s
 have k:∀ b o,hp'.get? b=some o->((hp'.push (kdv_tup [v1,v2])).push (excO C hp'.objs.size)).get? b=some o:=λb o e=>Heap.get?_push_of_some _ (Heap.get?_push_of_some _ e)
 have hget:((hp'.push (kdv_tup [v1,v2])).push (excO C hp'.objs.size)).get? (hp'.objs.size+1)=some (excO C hp'.objs.size):=by heap_get
 have hnx:K.lookup (hp'.objs.size+1)=none:=by
  cases e:K.lookup (hp'.objs.size+1) with
  | none=>rfl
  | some o=>exact absurd (Nat.lt_of_succ_lt (Heap.lt_size (show hp'.get? (hp'.objs.size+1)=some o from X _ _ e))) (Nat.lt_irrefl _)
 refine call_own F.excBase_ValueError (λX=>refsVE_contains X bm hbm) (X _ _ hC) (looks_findIn X T.ini) (λself=>bind_fn X self T.tfn) (by rw [sizeLine_eq];exact (by decide:2<=16777216)) ?_
 refine qE3 (s:=⟨(hp'.push (kdv_tup [v1,v2])).push (excO C hp'.objs.size),g,dr,tk,os⟩) T (X.keeps k) (G.keepsP k) (B.keepsP k) hB (hlim.keeps k) hget hnx (show A.depth+1<recursionLimit from hroom) λh' tk' dx ⟨k',⟨t1,hx⟩,dn,dne,hns⟩ => ?_
 have old:∀ b o,hp'.get? b=some o->h'.get? b=some o:=λb o e=>k' b o (Nat.ne_of_lt (Nat.lt_succ_of_lt (Heap.lt_size e))) (k b o e)
 have z:hp'.objs.size+1+1<=dx:=by
  have q:=dn
  simp only [Heap.size_push] at q
  exact q
 exact ⟨rfl,hq h' tk' (hp'.objs.size+1) dx ⟨old,Nat.le_succ _,⟨t1,hx⟩,(by show hp'.objs.size<=dx;omega),dne,hns⟩⟩
theorem qLf(T:SupC2 prog K C fI){v1 v2:Value}{mg mb:Str->Option Value}(X:K.In s.heap)(G:s.heap.Ns mainGlobals mg)(B:s.heap.Ns builtinsNs mb)(hB:∀ x:Str,x≠"__name__"->mb x=bootBuiltins x)(hlim:s.heap.NoLimit)(hroom:A.depth+1<recursionLimit)
  (hq:∀ h' tk e d,MadeV s.heap h' e C d (λy=>if y="high" then some v2 else if y="low" then some v1 else none)->R (.ok (.ret (.ref e))) { s with heap:=h',toks:=tk }):codeAny (model prog w) A (.call (.ref C) ⟨[],[("high",v2),("low",v1)]⟩) R s:=by
 obtain ⟨nm,q,N,bs,bm,sn,sub,ab,col,dd,k0,k1,k2,k3,k5,hC,hbm,_⟩:=T.cls
 obtain ⟨hp',g,dr,tk,os⟩:=s
 have k:∀ b o,hp'.get? b=some o->((hp'.push (kdv_tup [])).push (excO C hp'.objs.size)).get? b=some o:=λb o e=>Heap.get?_push_of_some _ (Heap.get?_push_of_some _ e)
 have hget:((hp'.push (kdv_tup [])).push (excO C hp'.objs.size)).get? (hp'.objs.size+1)=some (excO C hp'.objs.size):=by heap_get
 have hnx:K.lookup (hp'.objs.size+1)=none:=by
  cases e:K.lookup (hp'.objs.size+1) with
  | none=>rfl
  | some o=>exact absurd (Nat.lt_of_succ_lt (Heap.lt_size (show hp'.get? (hp'.objs.size+1)=some o from X _ _ e))) (Nat.lt_irrefl _)
 refine qG4 F.excBase_ValueError (λX=>refsVE_contains X bm hbm) (X _ _ hC) (looks_findIn X T.ini) (λself=>bind_fn X self T.tfn) ?_
 refine qGn (s:=⟨(hp'.push (kdv_tup [])).push (excO C hp'.objs.size),g,dr,tk,os⟩) T (X.keeps k) (G.keepsP k) (B.keepsP k) hB (hlim.keeps k) hget hnx (show A.depth+1<recursionLimit from hroom) λh' tk' dx ⟨k',⟨t1,hx⟩,dn,dne,hns⟩ => ?_
 have old:∀ b o,hp'.get? b=some o->h'.get? b=some o:=λb o e=>k' b o (Nat.ne_of_lt (Nat.lt_succ_of_lt (Heap.lt_size e))) (k b o e)
 have z:hp'.objs.size+1+1<=dx:=by
  have q:=dn
  simp only [Heap.size_push] at q
  exact q
 exact ⟨rfl,hq h' tk' (hp'.objs.size+1) dx ⟨old,Nat.le_succ _,⟨t1,hx⟩,(by show hp'.objs.size<=dx;omega),dne,hns⟩⟩
end
end MR
namespace MR
open PySem PySem.Spec PyProof.Rows L2
section
variable {X:Cx} {C fI:Addr} {p:Str}
abbrev qM3(C:Addr)(fs:List (Str × V))(H1:Hp)(Q:VK):Prop:=∀ e d,H1 d=none->H1 e=none->d≠e->Q (.ref e) (upd (upd H1 d (.xd fs)) e (exo e C (some d)))
theorem qEc{pins:List (Addr × Obj)}{σ:L2.St}{H1:Hp}{Q:VK}{hp' h':Heap}{g:Array GenState}{dr:Drawn}{tk tk':Nat}{os:OsState}{e d:Addr}{fs:List (Str × V)}{m:Str->Option Value}
  (I1:Inv X pins σ H1 ⟨hp',g,dr,tk,os⟩) (M:MadeV hp' h' e C d m) (r:∀ f,RelO (fs.lookup f) (m f)) (q:qM3 C fs H1 Q):EP X pins σ Q (.ref e) ⟨h',g,dr,tk',os⟩:=by
 obtain ⟨t1,hoe⟩:=M.obj
 have hns:=M.ns
 obtain ⟨G',g1,g2⟩:=restrict h' λb=>decide (b≠e)
 have gk:∀ b,b≠e->G'.get? b=h'.get? b:=λb hb=>g1 b (decide_eq_true hb)
 have ge:G'.get? e=none:=g2 e (by simp)
 have old:∀ b o,hp'.get? b=some o->G'.get? b=some o:=λb o q=>(gk b (Nat.ne_of_lt (Nat.lt_of_lt_of_le (Heap.lt_size q) M.new))).trans (M.keep b o q)
 have ob:ObjOk X.prog X.w (upd H1 d (.xd fs)) G' d (.xd fs):=⟨_,hns.at (λo q=>(gk d M.dne).trans q),r⟩
 have J:Inv X pins σ (upd H1 d (.xd fs)) ⟨G',g,dr,tk',os⟩:=I1.laid (t':=tk') old M.dbig ob
 have ne:(upd H1 d (.xd fs)) e=none:=by
  rw [upd_ne (Ne.symm M.dne)]
  exact I1.hok.fresh M.new
 have kk:∀ b u,G'.get? b=some u->h'.get? b=some u:=λb u hb=>by
  by_cases z:b=e
  ·rw [z,ge] at hb;cases hb
  ·exact (gk b z).symm.trans hb
 exact ⟨.ref e,_,J.laidN (h':=h') (t':=tk') kk ge ne (exo_ok hoe),rfl,q e d (I1.hok.fresh M.dbig) (I1.hok.fresh M.new) M.dne⟩
def qDm(C:Addr)(p:Str)(ta:TA):TE:=λσ H Q=>ta σ H λvs H1=>∃ v,vs=[v]/\qM3 C [(p,v)] H1 Q
def qOb(C:Addr)(ta:TA):TE:=λσ H Q=>ta σ H λvs H1=>∃ v1 v2,vs=[v1,v2]/\qM3 C [("high",v2),("low",v1)] H1 Q
def qDz(C:Addr):TE:=λ_ H Q=>∀ e,H e=none->Q (.ref e) (upd H e (exo e C none))
theorem qCf{a:Expr}{ta:TA}{x:Str}{p1 pos:Pos}{k:Nat}(T:SupC X.prog X.K C fI p)(hp:PName p)(gC:X.mg x=some (.ref C))(hr:Room k X.A)(ha:PA X [a] ta)(hg:Gl X x:=by rfl)(hdb:(x == ("__debug__":Str))=false:=by decide)
  (he:starEach (a :: []) X.env=(false,eval a X.env) :: starEach [] X.env:=by rfl) (hpl:(backTo pos (starEach [] X.env)).any (·.1)=false:=by rfl):PE X (.Call (.Name x p1) [a] [] pos) (qDm C p ta):=by
 refine ⟨λpins s σ H Q I h => ?_⟩
 refine wpAny_Call_Name_kw (ld_glob I hg gC ?_ hdb)
 refine PySem.W.callWith_K (h₀:=X.base) I.ok.mod.kin T.kC (thn (ha.run pos pins s σ H _ I h) λus s1 hh => ?_) he hpl
 obtain ⟨vs,H1,I1,r1,v,ev,q1⟩:=hh
 subst ev
 refine ⟨I1.kIn, ?_⟩
 cases r1 with
 | cons rv rn=>
  rename_i v' us'
  cases rn
  show wpAny _ _ (call (.ref C) [v']) _ _ _
  have GG:s1.heap.Ns mainGlobals X.mg:=I1.ok.mod.glob.keepsP I1.bk
  obtain ⟨mb,BB,hB⟩:=I1.ok.mod.blt
  have BB1:s1.heap.Ns builtinsNs mb:=BB.keepsP I1.bk
  obtain ⟨hp',g,dr,tk,os⟩:=s1
  exact wpAny_call (qOf T hp I1.kIn GG BB1 hB I1.nolimit (by have:=hr.dp;omega) λh' tk' e d M=>qEc I1 M (λf=>qD8 rv f) q1)
theorem qM2{a b:Expr}{ta:TA}{x:Str}{p1 pos:Pos}{k:Nat}(T:SupC2 X.prog X.K C fI)(gC:X.mg x=some (.ref C))(hr:Room k X.A)(ha:PA X [a,b] ta)(hg:Gl X x:=by rfl)(hdb:(x == ("__debug__":Str))=false:=by decide)
  (he:starEach (a :: [b]) X.env=(false,eval a X.env) :: starEach [b] X.env:=by rfl) (hpl:(backTo pos (starEach [b] X.env)).any (·.1)=false:=by rfl):PE X (.Call (.Name x p1) [a,b] [] pos) (qOb C ta):=by
 refine ⟨λpins s σ H Q I h => ?_⟩
 refine wpAny_Call_Name_kw (ld_glob I hg gC ?_ hdb)
 refine PySem.W.callWith_K (h₀:=X.base) I.ok.mod.kin T.kC (thn (ha.run pos pins s σ H _ I h) λus s1 hh => ?_) he hpl
 obtain ⟨vs,H1,I1,r1,v1,v2,ev,q1⟩:=hh
 subst ev
 refine ⟨I1.kIn, ?_⟩
 cases r1 with
 | cons rv rn=>
  rename_i w1 us'
  cases rn with
  | cons rv2 rn=>
   rename_i w2 us''
   cases rn
   show wpAny _ _ (call (.ref C) [w1,w2]) _ _ _
   have GG:s1.heap.Ns mainGlobals X.mg:=I1.ok.mod.glob.keepsP I1.bk
   obtain ⟨mb,BB,hB⟩:=I1.ok.mod.blt
   have BB1:s1.heap.Ns builtinsNs mb:=BB.keepsP I1.bk
   obtain ⟨hp',g,dr,tk,os⟩:=s1
   exact wpAny_call (qNm T I1.kIn GG BB1 hB I1.nolimit (by have:=hr.dp;omega) λh' tk' e d M=>qEc I1 M (λf=>qD9 rv rv2 f) q1)
theorem qMh{bmB:List Value}{B newId initId:String}{x:Str}{p1 pos:Pos}(F:ExcBaseFacts B newId initId bmB)(q:PySem.W.excIn X.K C bmB newId=true)(gC:X.mg x=some (.ref C))(kC:PySem.W.keepIn X.K (.ref C)=true)(hg:Gl X x:=by rfl)(hdb:(x == ("__debug__":Str))=false:=by decide) :
  PE X (.Call (.Name x p1) [] [] pos) (qDz C):=by
 refine ⟨λpins s σ H Q I h => ?_⟩
 refine wpAny_Call_Name_kw (ld_glob I hg gC ?_ hdb)
 refine PySem.W.callWith_K0 I.kIn kC ?_
 show wpAny _ _ (call (.ref C) []) _ _ _
 obtain ⟨bm,N,nm,qn,bs,hdct,sn,sub,ab,col,dd,k0,k1,k2,k3,k5,mN,hC,hN,hni,T⟩:=exc_obj I.kIn q
 refine wpAny_call_exc_subT F T hC hN hni (λh' a hm => ?_) (Nat.zero_le _)
 have hn:H a=none:=I.hok.gone hm.new
 obtain ⟨t,ht,_,_⟩:=hm.there
 exact ⟨.ref a,upd H a (exo a C none),I.laidN hm.keeps hm.new hn (exo_ok ht),rfl,h a hn⟩
theorem qBm{kws:List Keyword}{tk:TA}{x:Str}{p1 pos:Pos}{k:Nat}(T:SupC X.prog X.K C fI p)(hp:PName p)(hk:PNameK p)(gC:X.mg x=some (.ref C))(hr:Room k X.A)(hkw:PK X kws tk)(hks:(backToKw pos (keywordEach kws X.env)).filterMap (·.1)=[p]:=by rfl)(hg:Gl X x:=by rfl)
  (hall:(backToKw pos (keywordEach kws X.env)).all (·.1.isSome)=true:=by rfl) (hdb:(x == ("__debug__":Str))=false:=by decide)
  (hpl:((backTo pos (starEach [] X.env)).any (·.1) || (backToKw pos (keywordEach kws X.env)).any (·.1.isNone))=false:=by rfl):PE X (.Call (.Name x p1) [] kws pos) (qDm C p tk):=by
 refine ⟨λpins s σ H Q I h => ?_⟩
 refine wpAny_Call_Name_kw (ld_glob I hg gC ?_ hdb)
 refine PySem.W.callWith_KW0 (h₀:=X.base) I.ok.mod.kin T.kC hall (thn (hkw.run pos pins s σ H _ I h) λws s1 hh => ?_) hpl
 obtain ⟨vs,H1,I1,r1,v,ev,q1⟩:=hh
 subst ev
 refine ⟨I1.kIn, ?_⟩
 rw [hks]
 cases r1 with
 | cons rv rn=>
  rename_i v' us'
  cases rn
  show wpAny _ _ (call (.ref C) [] [(p,v')]) _ _ _
  have GG:s1.heap.Ns mainGlobals X.mg:=I1.ok.mod.glob.keepsP I1.bk
  obtain ⟨mb,BB,hB⟩:=I1.ok.mod.blt
  have BB1:s1.heap.Ns builtinsNs mb:=BB.keepsP I1.bk
  obtain ⟨hp',g,dr,tk,os⟩:=s1
  exact wpAny_call (qMt T hp hk I1.kIn GG BB1 hB I1.nolimit (by have:=hr.dp;omega) λh' tk' e d M=>qEc I1 M (λf=>qD8 rv f) q1)
def qKn(C:Addr)(ta:TA):TE:=λσ H Q=>ta σ H λvs H1=>∃ v1 v2,vs=[v2,v1]/\qM3 C [("high",v2),("low",v1)] H1 Q
theorem qKt{kws:List Keyword}{tk:TA}{x:Str}{p1 pos:Pos}{k:Nat}(T:SupC2 X.prog X.K C fI)(gC:X.mg x=some (.ref C))(hr:Room k X.A)(hkw:PK X kws tk)(hks:(backToKw pos (keywordEach kws X.env)).filterMap (·.1)=[("high":Str),"low"]:=by rfl)(hg:Gl X x:=by rfl)
  (hall:(backToKw pos (keywordEach kws X.env)).all (·.1.isSome)=true:=by rfl) (hdb:(x == ("__debug__":Str))=false:=by decide)
  (hpl:((backTo pos (starEach [] X.env)).any (·.1) || (backToKw pos (keywordEach kws X.env)).any (·.1.isNone))=false:=by rfl):PE X (.Call (.Name x p1) [] kws pos) (qKn C tk):=by
 refine ⟨λpins s σ H Q I h => ?_⟩
 refine wpAny_Call_Name_kw (ld_glob I hg gC ?_ hdb)
 refine PySem.W.callWith_KW0 (h₀:=X.base) I.ok.mod.kin T.kC hall (thn (hkw.run pos pins s σ H _ I h) λws s1 hh => ?_) hpl
 obtain ⟨vs,H1,I1,r1,v1,v2,ev,q1⟩:=hh
 subst ev
 refine ⟨I1.kIn, ?_⟩
 rw [hks]
 cases r1 with
 | cons rv rn=>
  rename_i w2 us'
  cases rn with
  | cons rv2 rn=>
   rename_i w1 us''
   cases rn
   show wpAny _ _ (call (.ref C) [] [("high",w2),("low",w1)]) _ _ _
   have GG:s1.heap.Ns mainGlobals X.mg:=I1.ok.mod.glob.keepsP I1.bk
   obtain ⟨mb,BB,hB⟩:=I1.ok.mod.blt
   have BB1:s1.heap.Ns builtinsNs mb:=BB.keepsP I1.bk
   obtain ⟨hp',g,dr,tk,os⟩:=s1
   exact wpAny_call (qLf T I1.kIn GG BB1 hB I1.nolimit (by have:=hr.dp;omega) λh' tk' e d M=>qEc I1 M (λf=>qD9 rv2 rv f) q1)
def qGd(C:Addr)(f:Str)(te:TE):TE:=λσ H Q=>te σ H λx H1=>∃ (a dd:Addr) (fs:List (Str × V)) (v:V),x = .ref a/\H1 a=some (exo a C (some dd))/\H1 dd=some (.xd fs)/\fs.lookup f=some v/\Q v H1
theorem qBn{e:Expr}{te:TE}{pos:Pos}{n:Str}(T:XfC X.K C)(hno:PySem.W.findIn X.K (.ref C) n=some none)(he:PE X e te)(hb:attributeBase e n X.env (eval e X.env)=eval e X.env:=by rfl):PE X (.Attribute e n pos) (qGd C n te):=by
 refine ⟨λpins s σ H Q I h => ?_⟩
 refine attr_of hb (thn (he.run pins s σ H _ I h) λu s1 hh => ?_)
 obtain ⟨x,H1,I1,rx,a,dd,fs,v,ex,ea,ed,l,q⟩:=hh
 subst ex
 obtain rfl:u=Value.ref a:=rx
 obtain ⟨t1,ho⟩:=exo_at I1.hok ea
 have hx:ObjOk X.prog X.w H1 s1.heap dd (.xd fs):=I1.hok dd _ ed
 obtain ⟨mA,hns,hr⟩:=hx
 obtain ⟨od,hd,hl⟩:=lookIn_ns hns
 obtain ⟨u,hu,ru⟩:=RelO.some_of (v:=v) (o:=mA n) (by rw [<-l];exact hr n)
 obtain ⟨ox,J⟩:∃ ox,PySem.W.InstAt s1.heap a ox C (some od):=⟨_,ho,rfl,rfl,hd⟩
 exact HandSPX.exc_get I1.kIn J T.ga T.gg T.exC (PySem.W.findObj_own T.hdC hno rfl (by rw [hl,hu])) (handed_of ru) ⟨v,H1,I1.tok _,ru,q⟩
def qDh(K:W.Frag):List V->Hp->VK->Prop:=λxs H Q=>∃ (a D:Addr) (dx:Option Addr) (c:V) (cv:Value) (b:Bool),xs=[.ref a,c]/\H a=some (exo a D dx)/\ExcC K D/\ClsV c cv/\PySem.W.kitOne K (.ref D) cv=some b/\(dx=none\/∃ dd fs,dx=some dd/\H dd=some (.xd fs))/\Q (.bl b) H
theorem qAl:CallR X (.builtin "isinstance") (qDh X.K):=by
 intro pins s σ H xs us Q I r h
 obtain ⟨a,D,dx,c,cv,b,rfl,ha,C,hcv,e,hd,q⟩:=h
 cases r with
 | cons rx rr=>
  cases rr with
  | cons rt rr=>
   cases rr
   cases rx
   have ec:=hcv.eq rt
   subst ec
   obtain ⟨t1,ho⟩:=exo_at I.hok ha
   have J:∃ ox od,PySem.W.InstAt s.heap a ox D od:=by
    rcases hd with rfl | ⟨dd,fs,rfl,hx⟩
    ·exact ⟨_,none,ho,rfl,rfl,trivial⟩
    ·have hx':ObjOk X.prog X.w H s.heap dd (.xd fs):=I.hok dd _ hx
     obtain ⟨mA,hns,_⟩:=hx'
     obtain ⟨od,hl,_⟩:=lookIn_ns hns
     exact ⟨_,some od,ho,rfl,rfl,hl⟩
   obtain ⟨ox,od,J⟩:=J
   have hc:(PySem.W.clsIn X.K D).isSome=true:=by
    obtain ⟨cd,hc,_⟩:=PySem.W.any_some C.hd
    rw [hc]
    rfl
   exact PySem.W.kia_one (PySem.W.kitx_exc hc C.hg C.hk C.hs C.ha C.hn C.ht C.hm) I.kIn J e (λz=>nomatch z) λtk=>⟨.bl b,H,I.kept (t':=tk) λ_ _ z=>z,rfl,q⟩
end
end MR
namespace MR
open PySem PySem.Spec PyProof.Rows L2 LamX
section
variable {K:W.Frag} {Ta:List (Addr × Str)} {w:Wd} {ow ow' ow1 owb owx:List Nat} {H H':Hp} {σ:L2.St} {ρ:Env} {E:L2.St->XK}
theorem qFk{F:Fd}{M:Addr->Prop}{C:Str}{ns:List Str}{ds:List D}{gs:List (Str × V)}{e d:Addr}(l:Lv K F M H)(hd:H d=none)(he:H e=none)(ne:d≠e)(en:gs.map Prod.fst=ns)(r:Reps K F M H ds (gs.map Prod.snd)) :
  Gr K F H (upd (upd H d (.xd gs)) e (exo e (He.ga K C) (some d)))/\Rep K F M (upd (upd H d (.xd gs)) e (exo e (He.ga K C) (some d))) (.exn C ns ds) (.ref e):=by
 have h1:(upd H d (.xd gs)) e=none:=by rw [upd_ne (Ne.symm ne)];exact he
 have g:Gr K F H (upd (upd H d (.xd gs)) e (exo e (He.ga K C) (some d))):=(Gr.new hd).trans (Gr.new h1)
 refine ⟨g,e,some d,gs,rfl,l.ok he,upd_same,λd' z => ?_,(λz=>nomatch z),en,Reps.goes g.goes _ _ r⟩
 cases z
 exact ⟨l.ok hd,by rw [upd_ne ne];exact upd_same⟩
def qDs(C p:Str)(fa:FA):FE:=λρ P X=>fa ρ (λas=>∃ d,as=[d]/\P (.exn C [p] [d])) X
theorem qA2{C p:Str}{ta:TA}{fa:FA}(ha:SA K Ta ow E ta fa):SE K Ta ow E (qDm (He.ga K C) p ta) (qDs C p fa):=by
 intro w H σ ρ P X Q e h q x
 refine ha w H σ ρ _ X _ e h (λds vs H1 h1 g1 r1 => ?_) x
 obtain ⟨d,rfl,p1⟩:=h1
 obtain ⟨v,rfl,r⟩:=qFb r1
 refine ⟨v,rfl,λa dd hd he ne => ?_⟩
 obtain ⟨g,r2⟩:=qFk (C:=C) (ns:=[p]) (ds:=[d]) (gs:=[(p,v)]) (e.grow g1).lv hd he ne rfl (.one r)
 exact q _ _ _ p1 (g1.trans g) r2
def qNl(C:Str)(fa:FA):FE:=λρ P X=>fa ρ (λas=>∃ a b,as=[a,b]/\P (.exn C ["high","low"] [b,a])) X
theorem qLu{C:Str}{ta:TA}{fa:FA}(ha:SA K Ta ow E ta fa):SE K Ta ow E (qOb (He.ga K C) ta) (qNl C fa):=by
 intro w H σ ρ P X Q e h q x
 refine ha w H σ ρ _ X _ e h (λds vs H1 h1 g1 r1 => ?_) x
 obtain ⟨a,b,rfl,p1⟩:=h1
 obtain ⟨v1,us,rfl,ra,r2⟩:=r1
 obtain ⟨v2,us,rfl,rb,r3⟩:=r2
 obtain rfl:us=[]:=r3
 refine ⟨v1,v2,rfl,λa' dd hd he ne => ?_⟩
 obtain ⟨g,r2⟩:=qFk (C:=C) (ns:=["high","low"]) (ds:=[b,a]) (gs:=[("high",v2),("low",v1)]) (e.grow g1).lv hd he ne rfl (.cons rb (.one ra))
 exact q _ _ _ p1 (g1.trans g) r2
def qKa(C:Str)(fa:FA):FE:=λρ P X=>fa ρ (λas=>∃ a b,as=[b,a]/\P (.exn C ["high","low"] [b,a])) X
theorem qJ7{C:Str}{ta:TA}{fa:FA}(ha:SA K Ta ow E ta fa):SE K Ta ow E (qKn (He.ga K C) ta) (qKa C fa):=by
 intro w H σ ρ P X Q e h q x
 refine ha w H σ ρ _ X _ e h (λds vs H1 h1 g1 r1 => ?_) x
 obtain ⟨a,b,rfl,p1⟩:=h1
 obtain ⟨v2,us,rfl,rb,r2⟩:=r1
 obtain ⟨v1,us,rfl,ra,r3⟩:=r2
 obtain rfl:us=[]:=r3
 refine ⟨v1,v2,rfl,λa' dd hd he ne => ?_⟩
 obtain ⟨g,r2⟩:=qFk (C:=C) (ns:=["high","low"]) (ds:=[b,a]) (gs:=[("high",v2),("low",v1)]) (e.grow g1).lv hd he ne rfl (.cons rb (.one ra))
 exact q _ _ _ p1 (g1.trans g) r2
def qEf(C:Str):FE:=λ_ P _=>P (.exn C [] [])
theorem qA5{C:Str}:SE K Ta ow E (qDz (He.ga K C)) (qEf C):=by
 intro w H σ ρ P X Q e h q x a ha
 have g:Gr K w.F H (upd H a (exo a (He.ga K C) none)):=Gr.new ha
 exact q (.exn C [] []) _ _ h g ⟨a,none,[],rfl,e.lv.ok ha,upd_same,(λd z=>nomatch z),(λ_=>rfl),rfl,rfl⟩
theorem qAw{X:Cx}{C:Addr}{x:Str}{p pos:Pos}(T:Ex0 X.K C)(gC:X.mg x=some (.ref C))(hg:Gl X x:=by rfl)(hdb:(x == ("__debug__":Str))=false:=by decide):PE X (.Call (.Name x p) [] [] pos) (qDz C):=qMh PySem.F.excBase_ValueError T.xin gC T.kp hg hdb
def qC0(C f:Str)(fa:FE):FE:=λρ P X=>fa ρ (λa=>∃ ns ds d,a = .exn C ns ds/\(ns.zip ds).lookup f=some d/\P d) X
theorem qBo{C f:Str}{ta:TE}{fa:FE}(ha:SE K Ta ow E ta fa):SE K Ta ow E (qGd (He.ga K C) f ta) (qC0 C f fa):=by
 intro w H σ ρ P X Q e h q x
 refine ha w H σ ρ _ X _ e h (λa va H1 h1 g1 r1 => ?_) x
 obtain ⟨ns,ds,d,rfl,hl,p⟩:=h1
 obtain ⟨a,dx,gs,rfl,ok,ha,hd,hn,rfl,rs⟩:=r1
 obtain ⟨v,l1,rv⟩:=qDu rs hl
 cases dx with
 | none=>
  rw [hn rfl] at l1
  cases l1
 | some dd=>exact ⟨a,dd,gs,v,rfl,ha,(hd dd rfl).2,l1,q d v H1 p g1 rv⟩
def qC5(T:qE4)(c:Str)(fa:FE):FE:=λρ P X=>fa ρ (λa=>∃ C ns ds b,a = .exn C ns ds/\(C,c,b)∈T/\P (.bl b)) X
theorem qFt{F:Fd}{M:Addr->Prop}{dx:Option Addr}{gs:List (Str × V)}(hd:∀ d,dx=some d->Ok F M d/\H d=some (.xd gs)):dx=none\/∃ dd fs,dx=some dd/\H dd=some (.xd fs):=by
 cases dx with
 | none=>exact .inl rfl
 | some d=>exact .inr ⟨d,gs,rfl,(hd d rfl).2⟩
theorem qA1{T:qE4}{c:Str}{ta:TE}{fa:FE}(IX:IOk K T)(ha:SE K Ta ow E ta fa):SE K Ta ow E (tCB (qDh K) (tCons ta (tCons (tC (.ref (He.ga K c))) tNil))) (qC5 T c fa):=by
 intro w H σ ρ P X Q e h q x
 refine ha w H σ ρ _ X _ e h (λa va H1 h1 g1 r1 => ?_) x
 obtain ⟨C,ns,ds,b,rfl,hm,p⟩:=h1
 obtain ⟨a,dx,gs,rfl,ok,ha,hd,hn,rfl,rs⟩:=r1
 obtain ⟨k1,k2⟩:=IX _ _ _ hm
 exact ⟨a,_,dx,_,_,b,rfl,ha,k1, .own _,k2,qFt hd,q (.bl b) _ _ p g1 rfl⟩
def qHq(K:W.Frag)(L:List Str):Prop:=∀ c,c∈L->ExcC K (He.ga K c)/\PySem.W.kitOne K (.ref (He.ga K c)) (.type "ValueError")=some true
def qO8(L:List Str):Fct:=λK=>L.all λc=>qOo c K && qCy (PySem.W.kitOne K (.ref (He.ga K c)) (.type "ValueError")) true
theorem qKi{L:List Str}(h:qO8 L K=true):qHq K L:=λc hm=>by
 obtain ⟨h1,h2⟩:=Bool.and_eq_true_iff.mp (List.all_eq_true.mp h c hm)
 exact ⟨qG0 h1,qAm h2⟩
def qGw(L:List Str)(fa:FE):FE:=λρ P X=>fa ρ (λa=>∃ C ns ds,a = .exn C ns ds/\C∈L/\P (.bl true)) X
theorem qKl{L:List Str}{ta:TE}{fa:FE}(IX:qHq K L)(ha:SE K Ta ow E ta fa):SE K Ta ow E (tCB (qDh K) (tCons ta (tCons (tC (.ty "ValueError")) tNil))) (qGw L fa):=by
 intro w H σ ρ P X Q e h q x
 refine ha w H σ ρ _ X _ e h (λa va H1 h1 g1 r1 => ?_) x
 obtain ⟨C,ns,ds,rfl,hm,p⟩:=h1
 obtain ⟨a,dx,gs,rfl,ok,ha,hd,hn,rfl,rs⟩:=r1
 obtain ⟨k1,k2⟩:=IX _ hm
 exact ⟨a,_,dx,_,_,true,rfl,ha,k1, .ty _,k2,qFt hd,q (.bl true) _ _ p g1 rfl⟩
end
end MR
namespace MR
open PySem PySem.Spec PyProof.Rows L2
section
variable {K:W.Frag} {Ta:List (Addr × Str)} {ow ow' owb owx:List Nat} {E:L2.St->XK}
def qFj(C:Str)(fa fb:FE):FS:=λFD ρ=>fa ρ (λd1=>fb ρ (λd2=>FD.ex ⟨C,[("high",d2),("low",d1)]⟩ ρ) (λx=>FD.ex x ρ)) (λx=>FD.ex x ρ)
theorem qG8{C:Str}{ta tb:TE}{fa fb:FE}(hs:Sub owx ow)(ha:SE K Ta ow E ta fa)(hb:SE K Ta ow E tb fb):SS K Ta ow ow' owb owx E (qC3 (He.ga K C) (λcls d σ H=>E σ cls d H) (tCons ta (tCons tb tNil))) (qFj C fa fb):=by
 intro w H σ ρ N FD e h k
 refine ha w H σ ρ _ _ _ e h (λd1 v1 H1 h1 g1 r1 => ?_) (k.px e hs)
 have e1:=e.grow g1
 refine hb w H1 σ ρ _ _ _ e1 h1 (λd2 v2 H2 hd g2 r2 => ?_) (k.px e1 hs)
 refine ⟨v1,v2,rfl,λa na => ?_⟩
 have e2:=e1.grow g2
 have g3:Gr K w.F H2 (upd H2 a (.xd [("high",v2),("low",v1)])) := .new na
 refine k.ex _ ρ σ _ _ _ hd ((e2.grow g3).free hs) ⟨rfl, .inr ⟨a,_,rfl,(e2.lv.ok na).1,upd_same,v2,_,rfl, ?_,v1,[],rfl, ?_,rfl⟩⟩
 ·exact Rep.goes (λq o h nf m=>⟨h,λz=>m (.inl z)⟩) _ _ (Rep.goes g3.goes _ _ r2)
 ·exact Rep.goes (λq o h nf m=>⟨h,λz=>m (.inl z)⟩) _ _ (Rep.goes (g2.trans g3).goes _ _ r1)
end
end MR
namespace MR
open PySem PySem.Spec PyProof.Rows L2 He
def qHv:FuncBody->Bool
 | .stmts [.Expr (.Call (.Attribute (.Call (.Name s _) [] [] _) i q3) [.Name a _, .Name a2 _] [] q5) _, .Assign [.Attribute (.Name sf _) b _] (.Name c _) _, .Assign [.Attribute (.Name sf2 _) b2 _] (.Name c2 _) _]=>
  decide (s="super") && (decide (i="__init__") && (decide (a="low") && (decide (a2="high") && (decide (sf="self") && (decide (b="low") && (decide (c="low") && (decide (sf2="self") && (decide (b2="high") && (decide (c2="high") && (q3.endLine == q5.line))))))))))
 | _=>false
theorem qHp{b:FuncBody}(h:qHv b=true):∃ q1 q2 q3 q4 r4 q5 q6 q7 q8 q9 q10 r7 r8 r9 r10:Pos,b = .stmts [.Expr (.Call (.Attribute (.Call (.Name "super" q1) [] [] q2) "__init__" q3) [.Name "low" q4, .Name "high" r4] [] q5) q6, .Assign [.Attribute (.Name "self" q7) "low" q8] (.Name "low" q9) q10, .Assign [.Attribute (.Name "self" r7) "high" r8] (.Name "high" r9) r10]/\(q3.endLine == q5.line)=true:=by
 unfold qHv at h
 split at h
 ·obtain ⟨h1,h⟩:=ba h
  obtain ⟨h2,h⟩:=ba h
  obtain ⟨h3,h⟩:=ba h
  obtain ⟨h4,h⟩:=ba h
  obtain ⟨h5,h⟩:=ba h
  obtain ⟨h6,h⟩:=ba h
  obtain ⟨h7,h⟩:=ba h
  obtain ⟨h8,h⟩:=ba h
  obtain ⟨h9,h⟩:=ba h
  obtain ⟨h10,h11⟩:=ba h
  rw [of_decide_eq_true h1,of_decide_eq_true h2,of_decide_eq_true h3,of_decide_eq_true h4,of_decide_eq_true h5,of_decide_eq_true h6,of_decide_eq_true h7,of_decide_eq_true h8,of_decide_eq_true h9,of_decide_eq_true h10]
  exact ⟨_,_,_,_,_,_,_,_,_,_,_,_,_,_,_,rfl,h11⟩
 ·cases h
def qKh:Arguments->Bool
 | ⟨[],[a1,a2,a3],none,[],[],none,[]⟩=>decide (a1.arg="self") && (decide (a2.arg="low") && decide (a3.arg="high"))
 | _=>false
theorem qIr{a:Arguments}(h:qKh a=true):∃ a1 a2 a3:Arg,a = { posonlyargs:=[],args:=[a1,a2,a3],vararg:=none,kwonlyargs:=[],kw_defaults:=[],kwarg:=none,defaults:=[] }/\a1.arg="self"/\a2.arg="low"/\a3.arg="high":=by
 unfold qKh at h
 split at h
 ·obtain ⟨h1,h⟩:=ba h
  obtain ⟨h2,h3⟩:=ba h
  exact ⟨_,_,_,rfl,of_decide_eq_true h1,of_decide_eq_true h2,of_decide_eq_true h3⟩
 ·cases h
def qOj:Scope->Bool
 | ⟨.function,[(x1, .local),(x2, .local),(x5, .local),(x3, .free),(x4, .globalImplicit)],false,false,[]⟩=>decide (x1="self") && (decide (x2="low") && (decide (x5="high") && (decide (x3="__class__") && decide (x4="super"))))
 | _=>false
theorem qJt{s:Scope}(h:qOj s=true):s = { kind := .function,names:=[("self", .local),("low", .local),("high", .local),("__class__", .free),("super", .globalImplicit)],isGenerator:=false,isCoroutine:=false,more:=[] }:=by
 unfold qOj at h
 split at h
 ·obtain ⟨h1,h⟩:=ba h
  obtain ⟨h2,h⟩:=ba h
  obtain ⟨h5,h⟩:=ba h
  obtain ⟨h3,h4⟩:=ba h
  rw [of_decide_eq_true h1,of_decide_eq_true h2,of_decide_eq_true h3,of_decide_eq_true h4,of_decide_eq_true h5]
 ·cases h
def qG1(prog:Program)(K:W.Frag)(C f:Addr):Bool:=match K.lookup f with
 | some ⟨_,_, .func fd,_⟩=>PySem.W.codeIn K fd.code fd.qualname && (qKh fd.params && (qHv fd.body && (qOj fd.scope && (decide (fd.globals=mainGlobals) && (decide (fd.builtins=builtinsNs) && (decide (fd.defaults = .none) && (match fd.closure,fd.code with
  | [(n,cc)], .ref cda=>decide (n="__class__") && ((match K.lookup cda with
   | some ⟨_,_, .fields vs,_⟩=>(match (vs[2]?:Option Value) with
    | some (.str file _)=>(prog.main.file:Str) == file
    | _=>false)
   | _=>false) && (match K.lookup cc with
   | some ⟨_,_, .cell (some (.ref D)),_⟩=>decide (D=C)
   | _=>false))
  | _,_=>false)))))))
 | _=>false
theorem qHh{prog:Program}{K:W.Frag}{C f:Addr}(h:qG1 prog K C f=true) :
  ∃ (oc:Value) (od:Option Addr) (osl:Array (Option Value)) (fd:FuncData) (a1 a2 a3:Arg) (q1 q2 q3 q4 r4 q5 q6 q7 q8 q9 q10 r7 r8 r9 r10:Pos) (cda cc:Addr) (ccl:Value) (cdd:Option Addr) (vs:Array Value) (ccs:Array (Option Value)) (file:Str) (tf:Tok) (cl:Value) (cld:Option Addr) (csl:Array (Option Value)),
  K.lookup f=some ⟨oc,od, .func fd,osl⟩/\PySem.W.codeIn K fd.code fd.qualname=true/\
  fd.params = { posonlyargs:=[],args:=[a1,a2,a3],vararg:=none,kwonlyargs:=[],kw_defaults:=[],kwarg:=none,defaults:=[] }/\a1.arg="self"/\a2.arg="low"/\a3.arg="high"/\
  fd.body = .stmts [.Expr (.Call (.Attribute (.Call (.Name "super" q1) [] [] q2) "__init__" q3) [.Name "low" q4, .Name "high" r4] [] q5) q6, .Assign [.Attribute (.Name "self" q7) "low" q8] (.Name "low" q9) q10, .Assign [.Attribute (.Name "self" r7) "high" r8] (.Name "high" r9) r10]/\
  fd.scope = { kind := .function,names:=[("self", .local),("low", .local),("high", .local),("__class__", .free),("super", .globalImplicit)],isGenerator:=false,isCoroutine:=false,more:=[] }/\
  fd.globals=mainGlobals/\fd.builtins=builtinsNs/\fd.closure=[(("__class__":Str),cc)]/\fd.defaults = .none/\fd.code = .ref cda/\
  K.lookup cda=some ⟨ccl,cdd, .fields vs,ccs⟩/\vs[2]?=some (.str file tf)/\((prog.main.file:Str) == file)=true/\
  K.lookup cc=some ⟨cl,cld, .cell (some (.ref C)),csl⟩/\(q3.endLine == q5.line)=true:=by
 unfold qG1 at h
 split at h
 ·rename_i oc od fd osl hf
  obtain ⟨h1,h⟩:=ba h
  obtain ⟨h2,h⟩:=ba h
  obtain ⟨h3,h⟩:=ba h
  obtain ⟨h4,h⟩:=ba h
  obtain ⟨h5,h⟩:=ba h
  obtain ⟨h6,h⟩:=ba h
  obtain ⟨h7,h⟩:=ba h
  obtain ⟨a1,a2,a3,e2,e2a,e2b,e2c⟩:=qIr h2
  obtain ⟨q1,q2,q3,q4,r4,q5,q6,q7,q8,q9,q10,r7,r8,r9,r10,e3,e3b⟩:=qHp h3
  split at h
  ·rename_i n cc cda hclo hcode
   obtain ⟨h8,h⟩:=ba h
   obtain ⟨h9,h10⟩:=ba h
   have e8:=of_decide_eq_true h8
   subst e8
   split at h9
   ·rename_i ccl cdd vs ccs hcda
    split at h9
    ·rename_i file tf hvs
     split at h10
     ·rename_i cl cld D csl hcell
      have e10:=of_decide_eq_true h10
      subst e10
      exact ⟨oc,od,osl,fd,a1,a2,a3,q1,q2,q3,q4,r4,q5,q6,q7,q8,q9,q10,r7,r8,r9,r10,cda,cc,ccl,cdd,vs,ccs,file,tf,cl,cld,csl,hf,h1,e2,e2a,e2b,e2c,e3,qJt h4,of_decide_eq_true h5,of_decide_eq_true h6,hclo,of_decide_eq_true h7,hcode,hcda,hvs,h9,hcell,e3b⟩
     ·cases h10
    ·cases h9
   ·cases h9
  ·cases h
 ·cases h
def qMv(prog:Program)(x:Str):Fct:=λK=>qFs K (ga K x) && (qG1 prog K (ga K x) (ma K (ga K x) "__init__") && (eqO (PySem.W.findIn K (.ref (ga K x)) "__setattr__") (some (some (.builtin "object.__setattr__"))) && (eqO (PySem.W.findIn K (.ref (ga K x)) "low") (some none) && (eqO (PySem.W.findIn K (.ref (ga K x)) "high") (some none) &&
 (eqO (PySem.W.findIn K (.ref (ga K x)) "__init__") (some (some (.ref (ma K (ga K x) "__init__")))) && (qCy (PySem.W.typeIn K (.ref (ma K (ga K x) "__init__"))) (.type "function") && (PySem.W.keepIn K (.ref (ga K x)) && (qCy (PySem.W.subIn K (.ref (ga K x)) (.type "BaseException")) true &&
 (qCy (PySem.W.subIn K (.ref (ga K x)) (.type "ValueError")) true && (qCy (PySem.W.typeIn K (.ref (ga K x))) (.type "type") && (qCy (PySem.W.mroIn K (ga K x) (.ref (ga K x))) true && (eqO (PySem.W.nsIn K cStatics "thirdparty.any") (some none) && (eqO (PySem.W.nsIn K mainGlobals "super") (some none) &&
 !(prog.main.scope.names.lookup ("super":Str)).isSome)))))))))))))
theorem qIe{prog:Program}{K:W.Frag}{x:Str}(h:qMv prog x K=true):SupC2 prog K (ga K x) (ma K (ga K x) "__init__"):=by
 obtain ⟨h1,h⟩:=ba h
 obtain ⟨h2,h⟩:=ba h
 obtain ⟨h3,h⟩:=ba h
 obtain ⟨h4,h⟩:=ba h
 obtain ⟨h4b,h⟩:=ba h
 obtain ⟨h5,h⟩:=ba h
 obtain ⟨h6,h⟩:=ba h
 obtain ⟨h7,h⟩:=ba h
 obtain ⟨h8,h⟩:=ba h
 obtain ⟨h9,h⟩:=ba h
 obtain ⟨h10,h⟩:=ba h
 obtain ⟨h11,h⟩:=ba h
 obtain ⟨h12,h⟩:=ba h
 obtain ⟨h13,h14⟩:=ba h
 exact ⟨qE1 h1,eqO_ok h3,eqO_ok h4,eqO_ok h4b,eqO_ok h5,qAm h6,h7,qAm h8,qAm h9,qAm h10,qAm h11,eqO_ok h12,eqO_ok h13,by simpa using h14,qHh h2⟩
end MR
namespace MR
open PySem PySem.Spec PyProof.Rows L2
def qGc(i:Nat):Str:=match i with
 | 0=>"NoRatio"
 | 1=>"NoPoly"
 | 2=>"NoDivisor"
 | 3=>"NoNumber"
 | 4=>"NoPlace"
 | 5=>"NotSegment"
 | 6=>"NoRow"
 | 7=>"NoMean"
 | 8=>"NoLot"
 | 9=>"NoLotThere"
 | 10=>"NoBar"
 | 11=>"NoPoint"
 | 12=>"NoWeight"
 | 13=>"NoFit"
 | 14=>"NoShares"
 | 15=>"TooMany"
 | 16=>"NoStep"
 | 17=>"NoText"
 | _=>""
def qEg:qE4:=((List.range 18).flatMap λi=>(List.range 18).map λk=>(qGc i,qGc k,decide (i=k))) ++ (List.range 18).map λi=>(qGc i,("MeansError":Str),true)
def qJb:List Str:=(List.range 18).map qGc
theorem qNg{i k:Nat}(hi:i<18)(hk:k<18):(qGc i,qGc k,decide (i=k))∈qEg:=List.mem_append_left _ (List.mem_flatMap.mpr ⟨i,List.mem_range.mpr hi,List.mem_map.mpr ⟨k,List.mem_range.mpr hk,rfl⟩⟩)
theorem qJl{i:Nat}(hi:i<18):(qGc i,("MeansError":Str),true)∈qEg:=List.mem_append_right _ (List.mem_map.mpr ⟨i,List.mem_range.mpr hi,rfl⟩)
theorem qMa{i:Nat}(hi:i<18):qGc i∈qJb:=List.mem_map.mpr ⟨i,List.mem_range.mpr hi,rfl⟩
def qJ8(a b:D):List D:=[.exn "NoRatio" ["word"] [a], .exn "NoPoly" [] [], .exn "NoDivisor" [] [], .exn "NoNumber" ["word"] [a], .exn "NoPlace" ["part"] [a], .exn "NotSegment" [] [], .exn "NoRow" ["index"] [a], .exn "NoMean" [] [], .exn "NoLot" ["part"] [a], .exn "NoLotThere" [] [], .exn "NoBar" ["part"] [a], .exn "NoPoint" [] [], .exn "NoWeight" ["most"] [a], .exn "NoFit" ["high","low"] [b,a], .exn "NoShares" ["index"] [a], .exn "TooMany" [] [], .exn "NoStep" [] [], .exn "NoText" ["part"] [a]]
theorem qHo(a b:D):∀ k,k<18->∃ ns ds,(qJ8 a b)[k]?=some (.exn (qGc k) ns ds)
 | 0,_=>⟨_,_,rfl⟩
 | 1,_=>⟨_,_,rfl⟩
 | 2,_=>⟨_,_,rfl⟩
 | 3,_=>⟨_,_,rfl⟩
 | 4,_=>⟨_,_,rfl⟩
 | 5,_=>⟨_,_,rfl⟩
 | 6,_=>⟨_,_,rfl⟩
 | 7,_=>⟨_,_,rfl⟩
 | 8,_=>⟨_,_,rfl⟩
 | 9,_=>⟨_,_,rfl⟩
 | 10,_=>⟨_,_,rfl⟩
 | 11,_=>⟨_,_,rfl⟩
 | 12,_=>⟨_,_,rfl⟩
 | 13,_=>⟨_,_,rfl⟩
 | 14,_=>⟨_,_,rfl⟩
 | 15,_=>⟨_,_,rfl⟩
 | 16,_=>⟨_,_,rfl⟩
 | 17,_=>⟨_,_,rfl⟩
 | k+18,h=>by omega
def top(i:Nat):Stmt:=pWW.main.body.getD i (.Pass ⟨0,0,0,0⟩)
abbrev qAs:Stmt:=top 21
abbrev qAr:Stmt:=top 22
abbrev qA3:Stmt:=top 23
abbrev qAq:Stmt:=top 24
abbrev qAn:Stmt:=top 25
abbrev qB5:Stmt:=top 26
def qDx:He.DefD:=⟨("_law_cell",none),"_law_cell","_law_cell",defArgs qAs,defBody qAs,defScope qAs,[],[]⟩
def qDp:He.DefD:=⟨("_law_draw",none),"_law_draw","_law_draw",defArgs qAr,defBody qAr,defScope qAr,[],[]⟩
def qF0:He.DefD:=⟨("_law_is",none),"_law_is","_law_is",defArgs qA3,defBody qA3,defScope qA3,[],[]⟩
def qDt:He.DefD:=⟨("_law_made",none),"_law_made","_law_made",defArgs qAq,defBody qAq,defScope qAq,[],[]⟩
def qCv:He.DefD:=⟨("_law_caught",none),"_law_caught","_law_caught",defArgs qAn,defBody qAn,defScope qAn,[],[]⟩
def qJq:He.DefD:=⟨("law",none),"law","law",defArgs qB5,defBody qB5,defScope qB5,[],[]⟩
def fn0:List He.DefD:=[qDx,qDp,qF0,qDt,qCv,qJq]
def fnL:List He.DefD:=fn0
abbrev csL:List Str:=[]
abbrev xtL:qE4:=qEg
def bs0:List Fct:=[(λK=>(He.Fa.free "len").ok K),
 (λK=>(He.Fa.free "int").ok K),
 (λK=>(He.Fa.free "range").ok K),
 (λK=>(He.Fa.free "isinstance").ok K),
 (λK=>(He.Fa.free "ValueError").ok K),
 (λK=>(He.Fa.glo "_law_cell").ok K),
 (λK=>(He.Fa.glo "_law_draw").ok K),
 (λK=>(He.Fa.glo "NoRatio").ok K),
 (λK=>(He.Fa.glo "NoPoly").ok K),
 (λK=>(He.Fa.glo "NoDivisor").ok K),
 (λK=>(He.Fa.glo "NoNumber").ok K),
 (λK=>(He.Fa.glo "NoPlace").ok K),
 (λK=>(He.Fa.glo "NotSegment").ok K),
 (λK=>(He.Fa.glo "NoRow").ok K),
 (λK=>(He.Fa.glo "NoMean").ok K),
 (λK=>(He.Fa.glo "NoLot").ok K),
 (λK=>(He.Fa.glo "NoLotThere").ok K),
 (λK=>(He.Fa.glo "NoBar").ok K),
 (λK=>(He.Fa.glo "NoPoint").ok K),
 (λK=>(He.Fa.glo "NoWeight").ok K),
 (λK=>(He.Fa.glo "NoFit").ok K),
 (λK=>(He.Fa.glo "NoShares").ok K),
 (λK=>(He.Fa.glo "TooMany").ok K),
 (λK=>(He.Fa.glo "NoStep").ok K),
 (λK=>(He.Fa.glo "NoText").ok K),
 (λK=>(He.Fa.glo "_law_is").ok K),
 (λK=>(He.Fa.glo "_law_made").ok K),
 (λK=>(He.Fa.glo "MeansError").ok K),
 (λK=>(He.Fa.glo "_law_caught").ok K),
 (λK=>(He.Fa.glo "law").ok K),
 (qH2 pWW "NoRatio" "word"),
 (qH2 pWW "NoNumber" "word"),
 (qH2 pWW "NoPlace" "part"),
 (qH2 pWW "NoRow" "index"),
 (qH2 pWW "NoLot" "part"),
 (qH2 pWW "NoBar" "part"),
 (qH2 pWW "NoWeight" "most"),
 (qH2 pWW "NoShares" "index"),
 (qH2 pWW "NoText" "part"),
 (xfF "NoRatio"),
 (xfF "NoNumber"),
 (xfF "NoPlace"),
 (xfF "NoRow"),
 (xfF "NoLot"),
 (xfF "NoBar"),
 (xfF "NoWeight"),
 (xfF "NoFit"),
 (xfF "NoShares"),
 (xfF "NoText"),
 (qMv pWW "NoFit"),
 (qIf "NoPoly"),
 (qIf "NoDivisor"),
 (qIf "NotSegment"),
 (qIf "NoMean"),
 (qIf "NoLotThere"),
 (qIf "NoPoint"),
 (qIf "TooMany"),
 (qIf "NoStep"),
 (ktF csL),
 (xoF xtL)]
def bs1:List Fct:=[(ioF xtL),
 (qO8 qJb),
 qO9]
def bsL:List Fct:=bs0 ++ (bs1)
def qLr:List Str:=["__name__","MeansError","NoRatio","NoPoly","NoDivisor","NoNumber","NoPlace","NotSegment","NoRow","NoMean","NoLot","NoLotThere","NoBar","NoPoint","NoWeight","NoFit","NoShares","TooMany","NoStep","NoText","_law_cell","_law_draw","_law_is","_law_made","_law_caught"]
def qEu:List Str:=qLr
abbrev hk:PySem.W.Hook:=qLe 4 bsL fnL
def ob(s:PySem.W.SharedT):AlM:=qOa 4 bsL fnL (HandSHeadRun.getT s)
theorem qNq(s:PySem.W.SharedT):ob s=hk.obs s.abs:=qJw (HandSHeadRun.getT_eq s)
section
open PySem PySem.W PySem.Calls PyProof.Rows HandSHeadRun
theorem qK0(w:World)(os:OsState):(HandSHeadRun.endF (HandSHeadRun.stepQ (HandSHeadRun.denQ HandSHeadRun.tabQ) (PySem.W.OpenLaw.row rWW).prog w) 12000 (PySem.W.OpenLaw.row rWW).prog w os).map (λs=>(looksF (PySem.W.OpenLaw.row rWW).prog (boot_heap w.params) s.abs,seenQ (PySem.W.view (PySem.W.OpenLaw.row rWW).prog [26]) qEu (importedModules (PySem.W.OpenLaw.row rWW).prog.main.body) (λs=>xlAt (PySem.W.view (PySem.W.OpenLaw.row rWW).prog [26]) [] s && recOk (PySem.W.OpenLaw.row rWW).toRowW.records s) s.abs))=some (true,openGood (PySem.W.view (PySem.W.OpenLaw.row rWW).prog [26]) qEu):=by kernel_rfl
theorem qL2(w:World)(os:OsState):PartB (HandSHeadRun.endF (HandSHeadRun.stepQ (HandSHeadRun.denQ HandSHeadRun.tabQ) (PySem.W.OpenLaw.row rWW).prog w) 12000 (PySem.W.OpenLaw.row rWW).prog w os) (λs=>frU (HandSHeadRun.getT s) 4) bs0:=by
 unfold PartB
 kernel_rfl
theorem qLt(w:World)(os:OsState):PartB (HandSHeadRun.endF (HandSHeadRun.stepQ (HandSHeadRun.denQ HandSHeadRun.tabQ) (PySem.W.OpenLaw.row rWW).prog w) 12000 (PySem.W.OpenLaw.row rWW).prog w os) (λs=>frU (HandSHeadRun.getT s) 4) bs1:=by
 unfold PartB
 kernel_rfl
theorem qLq(w:World)(os:OsState):PartD (HandSHeadRun.endF (HandSHeadRun.stepQ (HandSHeadRun.denQ HandSHeadRun.tabQ) (PySem.W.OpenLaw.row rWW).prog w) 12000 (PySem.W.OpenLaw.row rWW).prog w os) (λs=>frU (HandSHeadRun.getT s) 4) fn0:=by
 unfold PartD
 kernel_rfl
theorem run(w:World):HandSHeadRun.RunEq (PySem.W.OpenLaw.row rWW) (PySem.W.view (PySem.W.OpenLaw.row rWW).prog [26]) hk ob 12000 qEu w:=by
 intro os
 exact qNz (qK0 w os) ((qL2 w os).app (qLt w os)) (qLq w os)
theorem dfK:(HandSHeadRun.topDef (OpenLaw.row rWW).prog 26).params.defaults=[]:=by kernel_rfl
theorem nmK:(HandSHeadRun.topDef (OpenLaw.row rWW).prog 26).name=("law":PySem.Str):=by kernel_rfl
set_option maxRecDepth 100000 in
set_option maxHeartbeats 0 in
theorem qOp(call:PySem.W.WalkO (view (OpenLaw.row rWW).prog [26]) qEu (PySem.W.XL (view (OpenLaw.row rWW).prog [26]) []) hk.says (OpenLaw.row rWW).toRowW (HandSHeadRun.topDef (OpenLaw.row rWW).prog 26) [] λf vs=>PySem.call f vs):rWW.Holds:=by
 w_on;o_law
 refine HandSHeadRun.head_any (r:=OpenLaw.row rWW) (q:=view (OpenLaw.row rWW).prog [26]) (H:=MR.hk) (ob:=MR.ob) (M:=12000) (loose:=MR.qEu) (d:=HandSHeadRun.topDef (OpenLaw.row rWW).prog 26) (kwd:=[]) MR.qNq
  (by kernel_rfl) (λs=>by kernel_rfl) MR.run (by kernel_rfl) (by kernel_rfl) (by kernel_rfl) (by rfl) (by first | assumption | decide +kernel) (by decide +kernel) ⟨rfl,rfl,rfl,rfl,rfl,by decide +kernel⟩ ?hw call
 case hw=>w_witness2
end
def qOt(p q:Int × Int):Int × Int:=if p.1=0 then q else if q.1=0 then p else if p.2=q.2 then (p.1+q.1,p.2) else (p.1*q.2+q.1*p.2,p.2*q.2)
def qN7(p q:Int × Int):Int × Int:=(p.1*q.1,p.2*q.2)
structure SzP (n:Nat) (p:Int × Int):Prop where
 a:p.1.natAbs<2 ^ n
 b:p.2.natAbs<2 ^ n
 pos:0<p.2
theorem qKm{i j:Int}{n m:Nat}(hi:i.natAbs<2 ^ n)(hj:j.natAbs<2 ^ m)(hs:n+m<=900000):IntMulOk i j:=by
 refine qMg (a:=n+1) (b:=m+1) (Nat.lt_of_lt_of_le hi (Nat.pow_le_pow_right (by decide) (by omega))) (Nat.lt_of_lt_of_le hj (Nat.pow_le_pow_right (by decide) (by omega))) (by omega) (by omega) (by omega)
theorem p2{a:Int}{n:Nat}(h:a.natAbs<2 ^ n)(hn:n<=900000):Sml a:=trivial
theorem SzP.mono{n m:Nat}{p:Int × Int}(h:SzP n p)(hn:n<=m):SzP m p:=⟨Nat.lt_of_lt_of_le h.a (Nat.pow_le_pow_right (by decide) hn),Nat.lt_of_lt_of_le h.b (Nat.pow_le_pow_right (by decide) hn),h.pos⟩
def qLp(ps:List (Int × Int))(k:Nat):Int × Int:=ps.getD k (0,1)
theorem qIm{ps:List (Int × Int)}{k:Nat}(h:k<ps.length):ps[k]?=some (qLp ps k):=by
 unfold qLp
 rw [List.getD_eq_getElem?_getD,List.getElem?_eq_getElem h]
 rfl
theorem qFr{ps:List (Int × Int)}{k:Nat}(h:k<ps.length):qLp ps k∈ps:=List.mem_of_getElem? (qIm h)
def prC(ps qs:List (Int × Int)):Nat->Nat->Int × Int
 | 0,_=>(0,1)
 | i+1,k=>if i<=k/\k<i+qs.length then qOt (prC ps qs i k) (qN7 (qLp ps i) (qLp qs (k - i))) else prC ps qs i k
structure SumS (ps qs:List (Int × Int)) (S:Nat->Int × Int->Prop):Prop where
 zero:S 0 (0,1)
 mono:∀ c r,S c r->S (c+1) r
 step:∀ c r p q,c<qs.length->S c r->p∈ps->q∈qs->(∃ n m,SzP n p/\SzP m q/\n+m<=900000)/\(∃ n m,SzP n r/\SzP m (qN7 p q)/\n+m<=900000)/\S (c+1) (qOt r (qN7 p q))
section
variable {ps qs:List (Int × Int)} {S:Nat->Int × Int->Prop}
def qKb(m i k:Nat):Nat:=min i (k+1) - min i (k+1 - m)
theorem SumS.le(h:SumS ps qs S){c d:Nat}(hc:c<=d){r:Int × Int}(hr:S c r):S d r:=by
 obtain ⟨e,rfl⟩:=Nat.exists_eq_add_of_le hc
 induction e with
 | zero=>exact hr
 | succ e ih=>exact h.mono _ _ (ih (by omega))
theorem SumS.cell(h:SumS ps qs S):∀ i k,i<=ps.length->S (qKb qs.length i k) (prC ps qs i k)
 | 0,k,_=>h.le (Nat.zero_le _) h.zero
 | i+1,k,hi=>by
  have ih:=h.cell i k (by omega)
  unfold prC
  by_cases hc:i<=k/\k<i+qs.length
  ·rw [if_pos hc]
   have e:qKb qs.length (i+1) k=qKb qs.length i k+1:=by unfold qKb;omega
   rw [e]
   have hlt:qKb qs.length i k<qs.length:=by unfold qKb;omega
   exact (h.step _ _ _ _ hlt ih (qFr (by omega)) (qFr (by omega))).2.2
  ·rw [if_neg hc]
   refine h.le ?_ ih
   unfold qKb;omega
end
structure SzQ (m:Nat) (p:Int × Int):Prop where
 a:p.1.natAbs<2 ^ m
 b:p.2.natAbs<2 ^ m
 ne:p.2≠0
theorem SzP.q{m:Nat}{p:Int × Int}(h:SzP m p):SzQ m p:=⟨h.a,h.b,Int.ne_of_gt h.pos⟩
end MR
namespace MR
def Ov(N:Nat)(d:Int)(q:Rat):Prop:=∃ a:Int,q*(d:Rat)=(a:Rat)/\a.natAbs<=N
theorem Ov.mono{N M:Nat}{d:Int}{q:Rat}(h:Ov N d q)(hn:N<=M):Ov M d q:=let ⟨a,h1,h2⟩:=h;⟨a,h1,by omega⟩
theorem Ov.add{N M:Nat}{d:Int}{q r:Rat}(h1:Ov N d q)(h2:Ov M d r):Ov (N+M) d (q+r):=by
 obtain ⟨a,e1,b1⟩:=h1
 obtain ⟨b,e2,b2⟩:=h2
 exact ⟨a+b,by rw [Rat.intCast_add, ←e1, ←e2];grind,by omega⟩
theorem Ov.lift{N:Nat}{d:Int}{q:Rat}(h:Ov N d q)(e:Int):Ov (N*e.natAbs) (d*e) q:=by
 obtain ⟨a,e1,b1⟩:=h
 exact ⟨a*e,by rw [Rat.intCast_mul,Rat.intCast_mul, ←e1];grind,by rw [Int.natAbs_mul];exact Nat.mul_le_mul_right _ b1⟩
theorem Ov.neg{N:Nat}{d:Int}{q:Rat}(h:Ov N d q):Ov N d (-q):=by
 obtain ⟨a,e1,b1⟩:=h
 exact ⟨-a,by rw [Rat.intCast_neg, ←e1];grind,by omega⟩
theorem Ov.of{a b:Int}(hb:b≠0):Ov a.natAbs b (Rat.divInt a b):=by
 refine ⟨a, ?_,Nat.le_refl _⟩
 have:(b:Rat)≠0:=λz=>hb (Rat.intCast_inj.mp (z.trans Rat.intCast_zero.symm))
 rw [Rat.divInt_eq_div]
 grind
theorem Ov.zero{d:Int}{N:Nat}:Ov N d 0:=⟨0,by rw [Rat.zero_mul];rfl,Nat.zero_le _⟩
theorem Ov.int(a:Int):Ov a.natAbs 1 (a:Rat):=⟨a,by rw [Rat.intCast_one,Rat.mul_one],Nat.le_refl _⟩
end MR
namespace MR
open PySem PySem.Spec PyProof.Rows L2
def qEi:FSp:=λds P _=>∃ (ns:List Int) (k:Int),ds=[.scr ns, .int k]/\0<=k/\∀ v:Int,P (.int v)
def InR(b:Int)(ns:List Int):Prop:=∀ n,n∈ns->0<=n/\n<b
def qEl:FSp:=λds P _=>∃ c m b:Int,ds=[.int c, .int m, .int b]/\0<=m/\m<=1000/\0<b/\∀ ns:List Int,ns.length=m.toNat->InR b ns->P (.lst (qGs ns))
structure Scene where
 shape:Int
 low:Int
 high:Int
 bottom:Int
 tops:List Int
 parts:List Int
 under:Int
structure Scene.Ok (s:Scene) (most:Nat):Prop where
 sh:s.shape=0\/s.shape=1\/s.shape=2
 lh:s.low<s.high
 lo : -1000000<=s.low
 hi:s.high<=3000001
 b0:0<s.bottom
 b1:s.bottom<=1000
 len:s.tops.length=s.parts.length
 most:s.tops.length<=most
 nd:s.tops.Nodup
 top:∀ t,t∈s.tops->s.low<=t/\t<=3000001/\(s.shape=2->t<=s.high)
 part:∀ w,w∈s.parts->0<w/\w<=1000000
 u0:0<s.under
 u1:s.under<=4000
theorem qJz{a b:Int}(h:0<b):0<=a.fmod b/\a.fmod b<b:=⟨Int.fmod_nonneg_of_pos a h,Int.fmod_lt_of_pos a h⟩
theorem qO1{a b:Int}(h0:0<=a)(h:0<b):0<=a.fdiv b/\a.fdiv b<=a:=by
 rw [Int.fdiv_eq_ediv_of_nonneg a (by omega)]
 exact ⟨Int.ediv_nonneg h0 (by omega),Int.ediv_le_self b h0⟩
theorem qKr{i j:Int}(h : -(2 ^ 64)<j)(h':j<2 ^ 64):IntMulOk i j:=L2.CMul.ok (.inr ⟨h,h'⟩)
theorem qLs{i j:Int}(h : -(2 ^ 64)<i)(h':i<2 ^ 64):IntMulOk i j:=L2.CMul.ok (.inl ⟨h,h'⟩)
theorem qEh{ns:List Int}{b:Int}{i:Nat}{P:D->Prop}{X:XP}(hr:InR b ns)(hi:i<ns.length)(k:∀ n:Int,0<=n->n<b->P (.int n)):oIx (.lst (qGs ns)) (.int (i:Nat)) P X:=by
 refine qBa rfl (qH7 (List.getElem?_eq_getElem hi)) ?_
 obtain ⟨h1,h2⟩:=hr _ (List.getElem_mem hi)
 exact k _ h1 h2
theorem e18:(10:Int) ^ Int.toNat 18=1000000000000000000:=by decide
theorem qE9{FD:FEnds}{c m b:Int}(b0:0<b)(fin:∀ ns:List Int,ns.length=m.toNat->InR b ns->∀ v4 v5 v6,FD.nx [some (.int c),some (.int m),some (.int b),some (.lst (qGs ns)),v4,v5,v6])(hm:m<=1000) :
  ∀ (r k:Nat) (ns:List Int) (rest:Int) (v5 v6:Option D),k+r=m.toNat->ns.length=k->InR b ns->qBy (qB3 5) (qBc (fB (fOp oGt (qAf 4) (fC (.int 0)))) (qAy (qK7 3 (fOp qE5 (fLs qEe (qAc (qAf 4) qAu)) (qAf 2)))
 (qB7 4 (fOp qJ5 (qAf 4) (qAf 2)))) (qAy (qB7 6 (fOp qE5 (fLs qEe (qAc (fOp qH1 (fOp qH4 (fOp qH4 (qAf 0) (fOp qH1 (fC (.int 7919)) (qAf 5))) (fC (.int 1))) (fC (.int 48271))) qAu)) (fC (.int 2147483647))))
 (qAy (qB7 6 (fOp qE5 (fLs qEe (qAc (fOp qH1 (qAf 6) (fOp qH4 (fOp qJ5 (qAf 6) (fC (.int 1009))) (fC (.int 69621)))) qAu)) (fC (.int 2147483647))))
 (qAy (qB7 6 (fOp qE5 (fLs qEe (qAc (fOp qH1 (qAf 6) (fOp qH4 (fOp qJ5 (qAf 6) (fC (.int 2003))) (fC (.int 40692)))) qAu)) (fC (.int 2147483399))))
 (qK7 3 (fOp qE5 (fLs qEe (qAc (qAf 6) qAu)) (qAf 2))))))) FD (qHz (k:Nat) r) [some (.int c),some (.int m),some (.int b),some (.lst (qGs ns)),some (.int rest),v5,v6]
 | 0,k,ns,rest,v5,v6,hk,hn,hr=>fin ns (by omega) hr _ _ _
 | r+1,k,ns,rest,v5,v6,hk,hn,hr=>by
  have nx:∀ (x rest':Int) (v6:Option D),0<=x->x<b->qBy (qB3 5) _ FD (qHz ((k:Int)+1) r) [some (.int c),some (.int m),some (.int b),some (.lst (qGs ns ++ [.int x])),some (.int rest'),some (.int (k:Nat)),v6]:=λx rest' v6 h0 h1=>by
   have:=qE9 b0 fin hm r (k+1) (ns ++ [x]) rest' (some (.int (k:Nat))) v6 (by omega) (by simp [hn]) (λn hn=>by
    rcases List.mem_append.mp hn with hn | hn
    ·exact hr n hn
    ·rw [List.mem_singleton.mp hn];exact ⟨h0,h1⟩)
   rw [<-qH8,show ((k+1:Nat):Int)=(k:Int)+1 by omega] at this
   exact this
  have bn:b≠0:=by omega
  have hl:(qGs ns).length<sizeLine:=by rw [qIa,sizeLine_eq];omega
  rw [qD4]
  unfold qBy
  simp_arith []
  split
  ·obtain ⟨h0,h1⟩:=qJz (a:=rest) b0
   refine ⟨bn,hl,cdiv bn, ?_⟩
   exact nx _ _ _ h0 h1
  ·refine ⟨qLs (by decide) (by decide),qKr (by decide) (by decide),by decide, ?_⟩
   obtain ⟨a0,a1⟩:=qJz (a:=(c+7919*(k:Int)+1)*48271) (b:=2147483647) (by decide)
   generalize ((c+7919*(k:Int)+1)*48271).fmod 2147483647=y at a0 a1
   obtain ⟨c0,c1⟩:=qO1 (b:=1009) a0 (by decide)
   refine ⟨cdiv (by decide),qKr (by omega) (by omega),by decide, ?_⟩
   obtain ⟨a0,a1⟩:=qJz (a:=y*(y.fdiv 1009+69621)) (b:=2147483647) (by decide)
   generalize (y*(y.fdiv 1009+69621)).fmod 2147483647=z at a0 a1
   obtain ⟨c0,c1⟩:=qO1 (b:=2003) a0 (by decide)
   refine ⟨cdiv (by decide),qKr (by omega) (by omega),by decide, ?_⟩
   obtain ⟨h0,h1⟩:=qJz (a:=(z*(z.fdiv 2003+40692)).fmod 2147483399) b0
   refine ⟨bn,hl, ?_⟩
   exact nx _ _ _ h0 h1
theorem e12:(10:Int) ^ Int.toNat 12=1000000000000:=by decide
theorem e9:(10:Int) ^ Int.toNat 9=1000000000:=by decide
def qC9:FSp:=λds P _=>∃ i ns fs k,ds=[.exn (qGc i) ns fs, .int ((k:Nat):Int)]/\i<18/\k<18/\P (.bl (decide (i=k)))
def qBl:FSp:=λds P _=>∃ a b n,ds=[a,b, .bl n]/\P (.lst (qJ8 a b))
def qA4:FSp:=λds P _=>∃ (k:Int) (a b:D),ds=[.int k,a,b]/\P (.bl true)
def qCn(K:W.Frag)(cs:List Str):TS:=
 (tSeq (tIfS (tTest (tOp qOz (tVar 1) (tCB (qIq K) (tCons (tVar 0) tNil)))) (tRet (tCB qCz (tCons (tOp (rIxL K) (tVar 0) (tVar 1)) tNil))) tNext)
 (tRet (tC (.int 0))))
def qDc(cs:List Str):FS:=
 (qAy (qBc (fB (fOp oLt (qAf 1) (fLs qKu (qAc (qAf 0) qAu)))) (qBb (fLs qEe (qAc (fOp qNa (qAf 0) (qAf 1)) qAu))) qAp)
 (qBb (fC (.int 0))))
theorem qG6{K:W.Frag}{cs:List Str}(T:KF K cs)  : SS K Ta [] [] [] [] (λ_=>E0) (qCn K cs) (qDc cs):=
 (qAi (ow1:=[]) (qA0 (by decide) (qAk (qAg (λ_=>qM9) (qAb (by decide)) (qCr (λ_=>qK1) (qAa (qAb (by decide)) qAh)))) (qAo (by decide) (qCr (λ_=>qBr) (qAa (qAg (λ_=>qMi) (qAb (by decide)) (qAb (by decide))) qAh))) (qAj (by decide)))
 (qAo (by decide) qAe))
def qCt(K:W.Frag)(cs:List Str):TS:=
 (tSeq (tAsg (tLst tNil) (gName 3))
 (tSeq (tAsg (tC (.int 0)) (gName 4))
 (tSeq (tIfS (tTest (tOp qOx (tVar 0) (tOp qGz (tC (.int 10)) (tC (.int 18))))) (tAsg (tVar 0) (gName 4)) tNext)
 (tSeq (tFor (iRng1 (tCons (tVar 1) tNil)) (gName 5) (tIfS (tTest (tOp qOu (tVar 4) (tC (.int 0)))) (tSeq (tDrop (tBM K "list" rAppend (tVar 3) (tCons (tOp qDi (tCB qCz (tCons (tVar 4) tNil)) (tVar 2)) tNil)))
 (tAsg (tOp qIk (tVar 4) (tVar 2)) (gName 4))) (tSeq (tAsg (tOp qDi (tCB qCz (tCons (tOp qFi (tOp qGh (tOp qGh (tVar 0) (tOp qFi (tC (.int 7919)) (tVar 5))) (tC (.int 1))) (tC (.int 48271))) tNil)) (tC (.int 2147483647))) (gName 6))
 (tSeq (tAsg (tOp qDi (tCB qCz (tCons (tOp qFi (tVar 6) (tOp qGh (tOp qIk (tVar 6) (tC (.int 1009))) (tC (.int 69621)))) tNil)) (tC (.int 2147483647))) (gName 6))
 (tSeq (tAsg (tOp qDi (tCB qCz (tCons (tOp qFi (tVar 6) (tOp qGh (tOp qIk (tVar 6) (tC (.int 2003))) (tC (.int 40692)))) tNil)) (tC (.int 2147483399))) (gName 6))
 (tDrop (tBM K "list" rAppend (tVar 3) (tCons (tOp qDi (tCB qCz (tCons (tVar 6) tNil)) (tVar 2)) tNil))))))))
 (tRet (tVar 3))))))
def qC8(cs:List Str):FS:=
 (qAy (qO3 3 (qEw qAu))
 (qAy (qB7 4 (fC (.int 0)))
 (qAy (qBc (fB (fOp oGe (qAf 0) (fOp qMb (fC (.int 10)) (fC (.int 18))))) (qB7 4 (qAf 0)) qAp)
 (qAy (qFf (qDn (qAc (qAf 1) qAu)) (qB3 5) (qBc (fB (fOp oGt (qAf 4) (fC (.int 0)))) (qAy (qK7 3 (fOp qE5 (fLs qEe (qAc (qAf 4) qAu)) (qAf 2)))
 (qB7 4 (fOp qJ5 (qAf 4) (qAf 2)))) (qAy (qB7 6 (fOp qE5 (fLs qEe (qAc (fOp qH1 (fOp qH4 (fOp qH4 (qAf 0) (fOp qH1 (fC (.int 7919)) (qAf 5))) (fC (.int 1))) (fC (.int 48271))) qAu)) (fC (.int 2147483647))))
 (qAy (qB7 6 (fOp qE5 (fLs qEe (qAc (fOp qH1 (qAf 6) (fOp qH4 (fOp qJ5 (qAf 6) (fC (.int 1009))) (fC (.int 69621)))) qAu)) (fC (.int 2147483647))))
 (qAy (qB7 6 (fOp qE5 (fLs qEe (qAc (fOp qH1 (qAf 6) (fOp qH4 (fOp qJ5 (qAf 6) (fC (.int 2003))) (fC (.int 40692)))) qAu)) (fC (.int 2147483399))))
 (qK7 3 (fOp qE5 (fLs qEe (qAc (qAf 6) qAu)) (qAf 2))))))))
 (qBb (qAf 3))))))
theorem qG5{K:W.Frag}{cs:List Str}(T:KF K cs)  : SS K Ta [] [] [] [] (λ_=>E0) (qCt K cs) (qC8 cs):=
 (qAi (ow1:=[3]) (qL8 (by decide) (by decide) (qLm qAh))
 (qAi (ow1:=[3]) (qAz (by decide) (by decide) qAe)
 (qAi (ow1:=[3]) (qA0 (by decide) (qAk (qAg (λ_=>qOc) (qAb (by decide)) (qAg (λ_=>qF6) qAe qAe))) (qAz (by decide) (by decide) (qAb (by decide))) (qAj (by decide)))
 (qAi (ow1:=[3]) (qEy (by decide) (qFo (qAa (qAb (by decide)) qAh)) (qDb (by decide)) (qA0 (by decide) (qAk (qAg (λ_=>qN4) (qAb (by decide)) qAe)) (qAi (ow1:=[3]) (qJd (by decide) (by decide) (qAg (λ_=>qB4) (qCr (λ_=>qBr) (qAa (qAb (by decide)) qAh)) (qAb (by decide))))
 (qAz (by decide) (by decide) (qAg (λ_=>qG3) (qAb (by decide)) (qAb (by decide))))) (qAi (ow1:=[3]) (qAz (by decide) (by decide) (qAg (λ_=>qB4) (qCr (λ_=>qBr) (qAa (qAg (λ_=>qE0) (qAg (λ_=>qEx) (qAg (λ_=>qEx) (qAb (by decide)) (qAg (λ_=>qE0) qAe (qAb (by decide)))) qAe) qAe) qAh)) qAe))
 (qAi (ow1:=[3]) (qAz (by decide) (by decide) (qAg (λ_=>qB4) (qCr (λ_=>qBr) (qAa (qAg (λ_=>qE0) (qAb (by decide)) (qAg (λ_=>qEx) (qAg (λ_=>qG3) (qAb (by decide)) qAe) qAe)) qAh)) qAe))
 (qAi (ow1:=[3]) (qAz (by decide) (by decide) (qAg (λ_=>qB4) (qCr (λ_=>qBr) (qAa (qAg (λ_=>qE0) (qAb (by decide)) (qAg (λ_=>qEx) (qAg (λ_=>qG3) (qAb (by decide)) qAe) qAe)) qAh)) qAe))
 (qJd (by decide) (by decide) (qAg (λ_=>qB4) (qCr (λ_=>qBr) (qAa (qAb (by decide)) qAh)) (qAb (by decide)))))))))
 (qKv (ow1:=[]) (by decide) (qAo (by decide) (qAb (by decide))))))))
def qEb(K:W.Frag)(cs:List Str):TS:=
 (tSeq (tIfS (tTest (tOp rEq (tVar 1) (tC (.int 0)))) (tRet (tCB (qDh K) (tCons (tVar 0) (tCons (tC (.ref (He.ga K "NoRatio"))) tNil)))) tNext)
 (tSeq (tIfS (tTest (tOp rEq (tVar 1) (tC (.int 1)))) (tRet (tCB (qDh K) (tCons (tVar 0) (tCons (tC (.ref (He.ga K "NoPoly"))) tNil)))) tNext)
 (tSeq (tIfS (tTest (tOp rEq (tVar 1) (tC (.int 2)))) (tRet (tCB (qDh K) (tCons (tVar 0) (tCons (tC (.ref (He.ga K "NoDivisor"))) tNil)))) tNext)
 (tSeq (tIfS (tTest (tOp rEq (tVar 1) (tC (.int 3)))) (tRet (tCB (qDh K) (tCons (tVar 0) (tCons (tC (.ref (He.ga K "NoNumber"))) tNil)))) tNext)
 (tSeq (tIfS (tTest (tOp rEq (tVar 1) (tC (.int 4)))) (tRet (tCB (qDh K) (tCons (tVar 0) (tCons (tC (.ref (He.ga K "NoPlace"))) tNil)))) tNext)
 (tSeq (tIfS (tTest (tOp rEq (tVar 1) (tC (.int 5)))) (tRet (tCB (qDh K) (tCons (tVar 0) (tCons (tC (.ref (He.ga K "NotSegment"))) tNil)))) tNext)
 (tSeq (tIfS (tTest (tOp rEq (tVar 1) (tC (.int 6)))) (tRet (tCB (qDh K) (tCons (tVar 0) (tCons (tC (.ref (He.ga K "NoRow"))) tNil)))) tNext)
 (tSeq (tIfS (tTest (tOp rEq (tVar 1) (tC (.int 7)))) (tRet (tCB (qDh K) (tCons (tVar 0) (tCons (tC (.ref (He.ga K "NoMean"))) tNil)))) tNext)
 (tSeq (tIfS (tTest (tOp rEq (tVar 1) (tC (.int 8)))) (tRet (tCB (qDh K) (tCons (tVar 0) (tCons (tC (.ref (He.ga K "NoLot"))) tNil)))) tNext)
 (tSeq (tIfS (tTest (tOp rEq (tVar 1) (tC (.int 9)))) (tRet (tCB (qDh K) (tCons (tVar 0) (tCons (tC (.ref (He.ga K "NoLotThere"))) tNil)))) tNext)
 (tSeq (tIfS (tTest (tOp rEq (tVar 1) (tC (.int 10)))) (tRet (tCB (qDh K) (tCons (tVar 0) (tCons (tC (.ref (He.ga K "NoBar"))) tNil)))) tNext)
 (tSeq (tIfS (tTest (tOp rEq (tVar 1) (tC (.int 11)))) (tRet (tCB (qDh K) (tCons (tVar 0) (tCons (tC (.ref (He.ga K "NoPoint"))) tNil)))) tNext)
 (tSeq (tIfS (tTest (tOp rEq (tVar 1) (tC (.int 12)))) (tRet (tCB (qDh K) (tCons (tVar 0) (tCons (tC (.ref (He.ga K "NoWeight"))) tNil)))) tNext)
 (tSeq (tIfS (tTest (tOp rEq (tVar 1) (tC (.int 13)))) (tRet (tCB (qDh K) (tCons (tVar 0) (tCons (tC (.ref (He.ga K "NoFit"))) tNil)))) tNext)
 (tSeq (tIfS (tTest (tOp rEq (tVar 1) (tC (.int 14)))) (tRet (tCB (qDh K) (tCons (tVar 0) (tCons (tC (.ref (He.ga K "NoShares"))) tNil)))) tNext)
 (tSeq (tIfS (tTest (tOp rEq (tVar 1) (tC (.int 15)))) (tRet (tCB (qDh K) (tCons (tVar 0) (tCons (tC (.ref (He.ga K "TooMany"))) tNil)))) tNext)
 (tSeq (tIfS (tTest (tOp rEq (tVar 1) (tC (.int 16)))) (tRet (tCB (qDh K) (tCons (tVar 0) (tCons (tC (.ref (He.ga K "NoStep"))) tNil)))) tNext)
 (tRet (tCB (qDh K) (tCons (tVar 0) (tCons (tC (.ref (He.ga K "NoText"))) tNil)))))))))))))))))))))
def qFh(cs:List Str)(XT:qE4):FS:=
 (qAy (qBc (fB (fOp oEq (qAf 1) (fC (.int 0)))) (qBb (qC5 XT "NoRatio" (qAf 0))) qAp)
 (qAy (qBc (fB (fOp oEq (qAf 1) (fC (.int 1)))) (qBb (qC5 XT "NoPoly" (qAf 0))) qAp)
 (qAy (qBc (fB (fOp oEq (qAf 1) (fC (.int 2)))) (qBb (qC5 XT "NoDivisor" (qAf 0))) qAp)
 (qAy (qBc (fB (fOp oEq (qAf 1) (fC (.int 3)))) (qBb (qC5 XT "NoNumber" (qAf 0))) qAp)
 (qAy (qBc (fB (fOp oEq (qAf 1) (fC (.int 4)))) (qBb (qC5 XT "NoPlace" (qAf 0))) qAp)
 (qAy (qBc (fB (fOp oEq (qAf 1) (fC (.int 5)))) (qBb (qC5 XT "NotSegment" (qAf 0))) qAp)
 (qAy (qBc (fB (fOp oEq (qAf 1) (fC (.int 6)))) (qBb (qC5 XT "NoRow" (qAf 0))) qAp)
 (qAy (qBc (fB (fOp oEq (qAf 1) (fC (.int 7)))) (qBb (qC5 XT "NoMean" (qAf 0))) qAp)
 (qAy (qBc (fB (fOp oEq (qAf 1) (fC (.int 8)))) (qBb (qC5 XT "NoLot" (qAf 0))) qAp)
 (qAy (qBc (fB (fOp oEq (qAf 1) (fC (.int 9)))) (qBb (qC5 XT "NoLotThere" (qAf 0))) qAp)
 (qAy (qBc (fB (fOp oEq (qAf 1) (fC (.int 10)))) (qBb (qC5 XT "NoBar" (qAf 0))) qAp)
 (qAy (qBc (fB (fOp oEq (qAf 1) (fC (.int 11)))) (qBb (qC5 XT "NoPoint" (qAf 0))) qAp)
 (qAy (qBc (fB (fOp oEq (qAf 1) (fC (.int 12)))) (qBb (qC5 XT "NoWeight" (qAf 0))) qAp)
 (qAy (qBc (fB (fOp oEq (qAf 1) (fC (.int 13)))) (qBb (qC5 XT "NoFit" (qAf 0))) qAp)
 (qAy (qBc (fB (fOp oEq (qAf 1) (fC (.int 14)))) (qBb (qC5 XT "NoShares" (qAf 0))) qAp)
 (qAy (qBc (fB (fOp oEq (qAf 1) (fC (.int 15)))) (qBb (qC5 XT "TooMany" (qAf 0))) qAp)
 (qAy (qBc (fB (fOp oEq (qAf 1) (fC (.int 16)))) (qBb (qC5 XT "NoStep" (qAf 0))) qAp)
 (qBb (qC5 XT "NoText" (qAf 0))))))))))))))))))))
theorem qKw{K:W.Frag}{cs:List Str}{XT:qE4}(T:KF K cs)(XO:XOk K XT)(IX:IOk K XT)  : SS K Ta [] [] [] [] (λ_=>E0) (qEb K cs) (qFh cs XT):=
 (qAi (ow1:=[]) (qA0 (by decide) (qAk (qAg (λ_=>qA9) (qAb (by decide)) qAe)) (qAo (by decide) (qA1 IX (qAb (by decide)))) (qAj (by decide)))
 (qAi (ow1:=[]) (qA0 (by decide) (qAk (qAg (λ_=>qA9) (qAb (by decide)) qAe)) (qAo (by decide) (qA1 IX (qAb (by decide)))) (qAj (by decide)))
 (qAi (ow1:=[]) (qA0 (by decide) (qAk (qAg (λ_=>qA9) (qAb (by decide)) qAe)) (qAo (by decide) (qA1 IX (qAb (by decide)))) (qAj (by decide)))
 (qAi (ow1:=[]) (qA0 (by decide) (qAk (qAg (λ_=>qA9) (qAb (by decide)) qAe)) (qAo (by decide) (qA1 IX (qAb (by decide)))) (qAj (by decide)))
 (qAi (ow1:=[]) (qA0 (by decide) (qAk (qAg (λ_=>qA9) (qAb (by decide)) qAe)) (qAo (by decide) (qA1 IX (qAb (by decide)))) (qAj (by decide)))
 (qAi (ow1:=[]) (qA0 (by decide) (qAk (qAg (λ_=>qA9) (qAb (by decide)) qAe)) (qAo (by decide) (qA1 IX (qAb (by decide)))) (qAj (by decide)))
 (qAi (ow1:=[]) (qA0 (by decide) (qAk (qAg (λ_=>qA9) (qAb (by decide)) qAe)) (qAo (by decide) (qA1 IX (qAb (by decide)))) (qAj (by decide)))
 (qAi (ow1:=[]) (qA0 (by decide) (qAk (qAg (λ_=>qA9) (qAb (by decide)) qAe)) (qAo (by decide) (qA1 IX (qAb (by decide)))) (qAj (by decide)))
 (qAi (ow1:=[]) (qA0 (by decide) (qAk (qAg (λ_=>qA9) (qAb (by decide)) qAe)) (qAo (by decide) (qA1 IX (qAb (by decide)))) (qAj (by decide)))
 (qAi (ow1:=[]) (qA0 (by decide) (qAk (qAg (λ_=>qA9) (qAb (by decide)) qAe)) (qAo (by decide) (qA1 IX (qAb (by decide)))) (qAj (by decide)))
 (qAi (ow1:=[]) (qA0 (by decide) (qAk (qAg (λ_=>qA9) (qAb (by decide)) qAe)) (qAo (by decide) (qA1 IX (qAb (by decide)))) (qAj (by decide)))
 (qAi (ow1:=[]) (qA0 (by decide) (qAk (qAg (λ_=>qA9) (qAb (by decide)) qAe)) (qAo (by decide) (qA1 IX (qAb (by decide)))) (qAj (by decide)))
 (qAi (ow1:=[]) (qA0 (by decide) (qAk (qAg (λ_=>qA9) (qAb (by decide)) qAe)) (qAo (by decide) (qA1 IX (qAb (by decide)))) (qAj (by decide)))
 (qAi (ow1:=[]) (qA0 (by decide) (qAk (qAg (λ_=>qA9) (qAb (by decide)) qAe)) (qAo (by decide) (qA1 IX (qAb (by decide)))) (qAj (by decide)))
 (qAi (ow1:=[]) (qA0 (by decide) (qAk (qAg (λ_=>qA9) (qAb (by decide)) qAe)) (qAo (by decide) (qA1 IX (qAb (by decide)))) (qAj (by decide)))
 (qAi (ow1:=[]) (qA0 (by decide) (qAk (qAg (λ_=>qA9) (qAb (by decide)) qAe)) (qAo (by decide) (qA1 IX (qAb (by decide)))) (qAj (by decide)))
 (qAi (ow1:=[]) (qA0 (by decide) (qAk (qAg (λ_=>qA9) (qAb (by decide)) qAe)) (qAo (by decide) (qA1 IX (qAb (by decide)))) (qAj (by decide)))
 (qAo (by decide) (qA1 IX (qAb (by decide)))))))))))))))))))))
def qCq(K:W.Frag)(cs:List Str):TS:=
 (tSeq (tAsg (tLst (tCons (qDm (He.ga K "NoRatio") "word" (tCons (tVar 0) tNil)) (tCons (qDz (He.ga K "NoPoly")) (tCons (qDz (He.ga K "NoDivisor")) (tCons (qDm (He.ga K "NoNumber") "word" (tCons (tVar 0) tNil)) (tCons (qDm (He.ga K "NoPlace") "part" (tCons (tVar 0) tNil)) (tCons (qDz (He.ga K "NotSegment")) (tCons (qDm (He.ga K "NoRow") "index" (tCons (tVar 0) tNil)) (tCons (qDz (He.ga K "NoMean")) tNil))))))))) (gName 3))
 (tSeq (tAsg (tOp rCat (tVar 3) (tLst (tCons (qDm (He.ga K "NoLot") "part" (tCons (tVar 0) tNil)) (tCons (qDz (He.ga K "NoLotThere")) (tCons (qDm (He.ga K "NoBar") "part" (tCons (tVar 0) tNil)) (tCons (qDz (He.ga K "NoPoint")) (tCons (qDm (He.ga K "NoWeight") "most" (tCons (tVar 0) tNil)) (tCons (qOb (He.ga K "NoFit") (tCons (tVar 0) (tCons (tVar 1) tNil))) (tCons (qDm (He.ga K "NoShares") "index" (tCons (tVar 0) tNil)) tNil))))))))) (gName 3))
 (tSeq (tIfS (tB (tVar 2)) (tSeq (tAsg (tLst (tCons (qDm (He.ga K "NoRatio") "word" (tCons (tVar 0) tNil)) (tCons (qDz (He.ga K "NoPoly")) (tCons (qDz (He.ga K "NoDivisor")) (tCons (qDm (He.ga K "NoNumber") "word" (tCons (tVar 0) tNil)) (tCons (qDm (He.ga K "NoPlace") "part" (tCons (tVar 0) tNil)) (tCons (qDz (He.ga K "NotSegment")) tNil))))))) (gName 3))
 (tSeq (tAsg (tOp rCat (tVar 3) (tLst (tCons (qDm (He.ga K "NoRow") "index" (tCons (tVar 0) tNil)) (tCons (qDz (He.ga K "NoMean")) (tCons (qDm (He.ga K "NoLot") "part" (tCons (tVar 0) tNil)) (tCons (qDz (He.ga K "NoLotThere")) (tCons (qDm (He.ga K "NoBar") "part" (tCons (tVar 0) tNil)) (tCons (qDz (He.ga K "NoPoint")) tNil)))))))) (gName 3))
 (tSeq (tAsg (tOp rCat (tVar 3) (tLst (tCons (qDm (He.ga K "NoWeight") "most" (tCons (tVar 0) tNil)) (tCons (qKn (He.ga K "NoFit") (tCons (tVar 1) (tCons (tVar 0) tNil))) (tCons (qDm (He.ga K "NoShares") "index" (tCons (tVar 0) tNil)) tNil))))) (gName 3))
 (tRet (tOp rCat (tVar 3) (tLst (tCons (qDz (He.ga K "TooMany")) (tCons (qDz (He.ga K "NoStep")) (tCons (qDm (He.ga K "NoText") "part" (tCons (tVar 0) tNil)) tNil))))))))) tNext)
 (tRet (tOp rCat (tVar 3) (tLst (tCons (qDz (He.ga K "TooMany")) (tCons (qDz (He.ga K "NoStep")) (tCons (qDm (He.ga K "NoText") "part" (tCons (tVar 0) tNil)) tNil)))))))))
def qDk(cs:List Str):FS:=
 (qAy (qB7 3 (qEw (qAc (qDs "NoRatio" "word" (qAc (qAf 0) qAu)) (qAc (qEf "NoPoly") (qAc (qEf "NoDivisor") (qAc (qDs "NoNumber" "word" (qAc (qAf 0) qAu)) (qAc (qDs "NoPlace" "part" (qAc (qAf 0) qAu)) (qAc (qEf "NotSegment") (qAc (qDs "NoRow" "index" (qAc (qAf 0) qAu)) (qAc (qEf "NoMean") qAu))))))))))
 (qAy (qB7 3 (fOp qIl (qAf 3) (qEw (qAc (qDs "NoLot" "part" (qAc (qAf 0) qAu)) (qAc (qEf "NoLotThere") (qAc (qDs "NoBar" "part" (qAc (qAf 0) qAu)) (qAc (qEf "NoPoint") (qAc (qDs "NoWeight" "most" (qAc (qAf 0) qAu)) (qAc (qNl "NoFit" (qAc (qAf 0) (qAc (qAf 1) qAu))) (qAc (qDs "NoShares" "index" (qAc (qAf 0) qAu)) qAu))))))))))
 (qAy (qBc (fB (qAf 2)) (qAy (qB7 3 (qEw (qAc (qDs "NoRatio" "word" (qAc (qAf 0) qAu)) (qAc (qEf "NoPoly") (qAc (qEf "NoDivisor") (qAc (qDs "NoNumber" "word" (qAc (qAf 0) qAu)) (qAc (qDs "NoPlace" "part" (qAc (qAf 0) qAu)) (qAc (qEf "NotSegment") qAu))))))))
 (qAy (qB7 3 (fOp qIl (qAf 3) (qEw (qAc (qDs "NoRow" "index" (qAc (qAf 0) qAu)) (qAc (qEf "NoMean") (qAc (qDs "NoLot" "part" (qAc (qAf 0) qAu)) (qAc (qEf "NoLotThere") (qAc (qDs "NoBar" "part" (qAc (qAf 0) qAu)) (qAc (qEf "NoPoint") qAu)))))))))
 (qAy (qB7 3 (fOp qIl (qAf 3) (qEw (qAc (qDs "NoWeight" "most" (qAc (qAf 0) qAu)) (qAc (qKa "NoFit" (qAc (qAf 1) (qAc (qAf 0) qAu))) (qAc (qDs "NoShares" "index" (qAc (qAf 0) qAu)) qAu))))))
 (qBb (fOp qIl (qAf 3) (qEw (qAc (qEf "TooMany") (qAc (qEf "NoStep") (qAc (qDs "NoText" "part" (qAc (qAf 0) qAu)) qAu))))))))) qAp)
 (qBb (fOp qIl (qAf 3) (qEw (qAc (qEf "TooMany") (qAc (qEf "NoStep") (qAc (qDs "NoText" "part" (qAc (qAf 0) qAu)) qAu)))))))))
theorem qGy{K:W.Frag}{cs:List Str}(T:KF K cs)  : SS K Ta [] [] [] [] (λ_=>E0) (qCq K cs) (qDk cs):=
 (qAi (ow1:=[]) (qAz (by decide) (by decide) (qBx (qAa (qA2 (qAa (qAb (by decide)) qAh)) (qAa qA5 (qAa qA5 (qAa (qA2 (qAa (qAb (by decide)) qAh)) (qAa (qA2 (qAa (qAb (by decide)) qAh)) (qAa qA5 (qAa (qA2 (qAa (qAb (by decide)) qAh)) (qAa qA5 qAh))))))))))
 (qAi (ow1:=[]) (qAz (by decide) (by decide) (qAg (λ_=>qDw) (qAb (by decide)) (qBx (qAa (qA2 (qAa (qAb (by decide)) qAh)) (qAa qA5 (qAa (qA2 (qAa (qAb (by decide)) qAh)) (qAa qA5 (qAa (qA2 (qAa (qAb (by decide)) qAh)) (qAa (qLu (qAa (qAb (by decide)) (qAa (qAb (by decide)) qAh))) (qAa (qA2 (qAa (qAb (by decide)) qAh)) qAh))))))))))
 (qAi (ow1:=[]) (qA0 (by decide) (qOn (qAb (by decide))) (qAi (ow1:=[]) (qAz (by decide) (by decide) (qBx (qAa (qA2 (qAa (qAb (by decide)) qAh)) (qAa qA5 (qAa qA5 (qAa (qA2 (qAa (qAb (by decide)) qAh)) (qAa (qA2 (qAa (qAb (by decide)) qAh)) (qAa qA5 qAh))))))))
 (qAi (ow1:=[]) (qAz (by decide) (by decide) (qAg (λ_=>qDw) (qAb (by decide)) (qBx (qAa (qA2 (qAa (qAb (by decide)) qAh)) (qAa qA5 (qAa (qA2 (qAa (qAb (by decide)) qAh)) (qAa qA5 (qAa (qA2 (qAa (qAb (by decide)) qAh)) (qAa qA5 qAh)))))))))
 (qAi (ow1:=[]) (qAz (by decide) (by decide) (qAg (λ_=>qDw) (qAb (by decide)) (qBx (qAa (qA2 (qAa (qAb (by decide)) qAh)) (qAa (qJ7 (qAa (qAb (by decide)) (qAa (qAb (by decide)) qAh))) (qAa (qA2 (qAa (qAb (by decide)) qAh)) qAh))))))
 (qAo (by decide) (qAg (λ_=>qDw) (qAb (by decide)) (qBx (qAa qA5 (qAa qA5 (qAa (qA2 (qAa (qAb (by decide)) qAh)) qAh))))))))) (qAj (by decide)))
 (qAo (by decide) (qAg (λ_=>qDw) (qAb (by decide)) (qBx (qAa qA5 (qAa qA5 (qAa (qA2 (qAa (qAb (by decide)) qAh)) qAh)))))))))
def qBp(K:W.Frag)(cs:List Str):TS:=
 (tSeq (tAsg (tC (.bl false)) (gName 3))
 (tSeq (λD=>(λW=>(tSeq (tIfS (tTest (tOp rEq (tVar 0) (tC (.int 0)))) (qC3 (He.ga K "NoFit") W (tCons (tVar 1) (tCons (tVar 2) tNil))) tNext)
 (tSeq (tIfS (tTest (tOp rEq (tVar 0) (tC (.int 1)))) (qCs (He.ga K "NoText") "part" W (tCons (tVar 1) tNil)) tNext)
 (tSeq (tIfS (tTest (tOp rEq (tVar 0) (tC (.int 2)))) (qD3 (He.ga K "TooMany") W) tNext)
 (qCs (He.ga K "NoWeight") "most" W (tCons (tVar 1) tNil)))))) (wOnly K (.ref (He.ga K "MeansError")) (λa cls d=>(tAsg (tC (.bl true)) (gName 3))) (λ_ _ _ _=>False) D) D)
 (tRet (tVar 3))))
def qCc(cs:List Str)(XT:qE4):FS:=
 (qAy (qB7 3 (fC (.bl false)))
 (qAy (qNp XT "MeansError" 3 (qAy (qBc (fB (fOp oEq (qAf 0) (fC (.int 0)))) (qFj "NoFit" (qAf 1) (qAf 2)) qAp)
 (qAy (qBc (fB (fOp oEq (qAf 0) (fC (.int 1)))) (qFv "NoText" "part" (qAf 1)) qAp)
 (qAy (qBc (fB (fOp oEq (qAf 0) (fC (.int 2)))) (qE8 "TooMany") qAp)
 (qFv "NoWeight" "most" (qAf 1))))) (fC (.bl true)))
 (qBb (qAf 3))))
theorem qFd{K:W.Frag}{cs:List Str}{XT:qE4}(T:KF K cs)(XO:XOk K XT)(IX:IOk K XT)  : SS K Ta [] [] [] [] (λ_=>E0) (qBp K cs) (qCc cs XT):=
 (qAi (ow1:=[]) (qAz (by decide) (by decide) qDo)
 (qAi (ow1:=[]) (qMn XO (by decide) (λW=>(qAi (ow1:=[]) (qA0 (by decide) (qAk (qAg (λ_=>qA9) (qAb (by decide)) qAe)) (qG8 (by decide) (qAb (by decide)) (qAb (by decide))) (qAj (by decide)))
 (qAi (ow1:=[]) (qA0 (by decide) (qAk (qAg (λ_=>qA9) (qAb (by decide)) qAe)) (qF3 (by decide) (qAb (by decide))) (qAj (by decide)))
 (qAi (ow1:=[]) (qA0 (by decide) (qAk (qAg (λ_=>qA9) (qAb (by decide)) qAe)) (qGx (by decide)) (qAj (by decide)))
 (qF3 (by decide) (qAb (by decide))))))) qDo)
 (qAo (by decide) (qAb (by decide)))))
def qF5(cs:List Str):FS:=
 (qBb (qBt qA4 [] (qAc (fOp qE5 (fLs qEe (qAc (fOp qBf (qAf 1) (fC (.int 3))) qAu)) (fC (.int 4))) (qAc (qAf 4) (qAc (qAf 5) qAu)))))
def qF1(cs:List Str):FS:=
 qAy (qFf (qJe (qEw (qAc (fC (.bl false)) (qAc (fC (.bl true)) qAu)))) (qB3 6) (qAy (qB7 7 (qBt qBl [] (qAc (qAf 4) (qAc (qAf 5) (qAc (qAf 6) qAu)))))
 (qAy (qBc (fB (fOp oNe (fLs qMd (qAc (qAf 7) qAu)) (fC (.int 18)))) (qBb (fC (.bl false))) qAp)
 (qAy (qFf (qDn (qAc (fC (.int 18)) qAu)) (qB3 8) (qAy (qBc (fOr (qJs (fB (qC5 qEg "MeansError" (fOp qBf (qAf 7) (qAf 8))))) (qJs (fB (qGw qJb (fOp qBf (qAf 7) (qAf 8)))))) (qBb (fC (.bl false))) qAp)
 (qFf (qDn (qAc (fC (.int 18)) qAu)) (qB3 11) (qBc (fB (fOp oNe (qBt qC9 [] (qAc (fOp qBf (qAf 7) (qAf 8)) (qAc (qAf 11) qAu))) (fOp oEq (qAf 11) (qAf 8)))) (qBb (fC (.bl false))) qAp))))
 (qAy (qB7 9 (qEw (qAc (qC0 "NoRatio" "word" (fOp qBf (qAf 7) (fC (.int 0)))) (qAc (qC0 "NoNumber" "word" (fOp qBf (qAf 7) (fC (.int 3)))) (qAc (qC0 "NoPlace" "part" (fOp qBf (qAf 7) (fC (.int 4)))) (qAc (qC0 "NoRow" "index" (fOp qBf (qAf 7) (fC (.int 6)))) (qAc (qC0 "NoLot" "part" (fOp qBf (qAf 7) (fC (.int 8)))) (qAc (qC0 "NoBar" "part" (fOp qBf (qAf 7) (fC (.int 10)))) (qAc (qC0 "NoWeight" "most" (fOp qBf (qAf 7) (fC (.int 12)))) qAu)))))))))
 (qAy (qB7 9 (fOp qIl (qAf 9) (qEw (qAc (qC0 "NoFit" "low" (fOp qBf (qAf 7) (fC (.int 13)))) (qAc (qC0 "NoShares" "index" (fOp qBf (qAf 7) (fC (.int 14)))) (qAc (qC0 "NoText" "part" (fOp qBf (qAf 7) (fC (.int 17)))) qAu))))))
 (qAy (qFf (qJe (qAf 9)) (qB3 10) (qBc (fB (fOp qKo (qAf 10) (qAf 4))) (qBb (fC (.bl false))) qAp))
 (qBc (fB (fOp qKo (qC0 "NoFit" "high" (fOp qBf (qAf 7) (fC (.int 13)))) (qAf 5))) (qBb (fC (.bl false))) qAp)))))))) (qF5 cs)
def qF9(cs:List Str):FS:=
 qAy (qB7 5 (fOp qBf (qAf 3) (fOp qE5 (fLs qEe (qAc (fOp qBf (qAf 1) (fC (.int 2))) qAu)) (fC (.int 6))))) (qF1 cs)
def qFu(cs:List Str):FS:=
 qAy (qB7 4 (fOp qBf (qAf 3) (fOp qE5 (fLs qEe (qAc (fOp qBf (qAf 1) (fC (.int 1))) qAu)) (fC (.int 6))))) (qF9 cs)
def qFy(cs:List Str):FS:=
 qAy (qB7 3 (qEw (qAc (qAf 2) (qAc (fOp qK5 (fC (.str "w")) (fOp qE5 (fLs qEe (qAc (fOp qBf (qAf 1) (fC (.int 0))) qAu)) (fC (.int 9)))) (qAc (fC .non) (qAc (fC (.bl true)) (qAc (qNi (qAc (qAf 2) (qAc (fC (.str "a")) qAu))) (qAc (fUn qOr (fC (.int 1))) qAu)))))))) (qFu cs)
def qFp(cs:List Str):FS:=
 qAy (qB7 2 (fOp qO5 (fOp qE5 (fLs qEe (qAc (fOp qBf (qAf 1) (fC (.int 0))) qAu)) (fOp qH4 (fOp qH1 (fC (.int 2)) (fOp qMb (fC (.int 10)) (fC (.int 40)))) (fC (.int 1)))) (fOp qMb (fC (.int 10)) (fC (.int 40))))) (qFy cs)
def qD0(cs:List Str):FS:=
 qAy (qB7 1 (qBt qEl [] (qAc (qBt qEi [] (qAc (qAf 0) (qAc (fC (.int 0)) qAu))) (qAc (fC (.int 5)) (qAc (fOp qMb (fC (.int 10)) (fC (.int 42))) qAu))))) (qFp cs)
def qHc(K:W.Frag)(cs:List Str):TS:=
 (tSeq (tAsg (tCall (lift K qEl) [] E0 (tCons (tCall (lift K qEi) [] E0 (tCons (tVar 0) (tCons (tC (.int 0)) tNil))) (tCons (tC (.int 5)) (tCons (tOp qGz (tC (.int 10)) (tC (.int 42))) tNil)))) (gName 1))
 (tSeq (tAsg (tOp qMq (tOp qDi (tCB qCz (tCons (tOp (rIxL K) (tVar 1) (tC (.int 0))) tNil)) (tOp qGh (tOp qFi (tC (.int 2)) (tOp qGz (tC (.int 10)) (tC (.int 40)))) (tC (.int 1)))) (tOp qGz (tC (.int 10)) (tC (.int 40)))) (gName 2))
 (tSeq (tAsg (tLst (tCons (tVar 2) (tCons (tOp qKk (tC (.str "w")) (tOp qDi (tCB qCz (tCons (tOp (rIxL K) (tVar 1) (tC (.int 0))) tNil)) (tC (.int 9)))) (tCons (tC .non) (tCons (tC (.bl true)) (tCons (tTup (tCons (tVar 2) (tCons (tC (.str "a")) tNil))) (tCons (tUn qLk (tC (.int 1))) tNil))))))) (gName 3))
 (tSeq (tAsg (tOp (rIxL K) (tVar 3) (tOp qDi (tCB qCz (tCons (tOp (rIxL K) (tVar 1) (tC (.int 1))) tNil)) (tC (.int 6)))) (gName 4))
 (tSeq (tAsg (tOp (rIxL K) (tVar 3) (tOp qDi (tCB qCz (tCons (tOp (rIxL K) (tVar 1) (tC (.int 2))) tNil)) (tC (.int 6)))) (gName 5))
 (tSeq (tFor (iList K (tLst (tCons (tC (.bl false)) (tCons (tC (.bl true)) tNil)))) (gName 6) (tSeq (tAsg (tCall (lift K qBl) [] E0 (tCons (tVar 4) (tCons (tVar 5) (tCons (tVar 6) tNil)))) (gName 7))
 (tSeq (tIfS (tTest (tOp rNe (tCB (qIq K) (tCons (tVar 7) tNil)) (tC (.int 18)))) (tRet (tC (.bl false))) tNext)
 (tSeq (tFor (iRng1 (tCons (tC (.int 18)) tNil)) (gName 8) (tSeq (tIfS (tOr (tNot (tB (tCB (qDh K) (tCons (tOp (rIxL K) (tVar 7) (tVar 8)) (tCons (tC (.ref (He.ga K "MeansError"))) tNil))))) (tNot (tB (tCB (qDh K) (tCons (tOp (rIxL K) (tVar 7) (tVar 8)) (tCons (tC (.ty "ValueError")) tNil)))))) (tRet (tC (.bl false))) tNext)
 (tFor (iRng1 (tCons (tC (.int 18)) tNil)) (gName 11) (tIfS (tTest (tOp rNe (tCall (lift K qC9) [] E0 (tCons (tOp (rIxL K) (tVar 7) (tVar 8)) (tCons (tVar 11) tNil))) (tOp rEq (tVar 11) (tVar 8)))) (tRet (tC (.bl false))) tNext))))
 (tSeq (tAsg (tLst (tCons (qGd (He.ga K "NoRatio") "word" (tOp (rIxL K) (tVar 7) (tC (.int 0)))) (tCons (qGd (He.ga K "NoNumber") "word" (tOp (rIxL K) (tVar 7) (tC (.int 3)))) (tCons (qGd (He.ga K "NoPlace") "part" (tOp (rIxL K) (tVar 7) (tC (.int 4)))) (tCons (qGd (He.ga K "NoRow") "index" (tOp (rIxL K) (tVar 7) (tC (.int 6)))) (tCons (qGd (He.ga K "NoLot") "part" (tOp (rIxL K) (tVar 7) (tC (.int 8)))) (tCons (qGd (He.ga K "NoBar") "part" (tOp (rIxL K) (tVar 7) (tC (.int 10)))) (tCons (qGd (He.ga K "NoWeight") "most" (tOp (rIxL K) (tVar 7) (tC (.int 12)))) tNil)))))))) (gName 9))
 (tSeq (tAsg (tOp rCat (tVar 9) (tLst (tCons (qGd (He.ga K "NoFit") "low" (tOp (rIxL K) (tVar 7) (tC (.int 13)))) (tCons (qGd (He.ga K "NoShares") "index" (tOp (rIxL K) (tVar 7) (tC (.int 14)))) (tCons (qGd (He.ga K "NoText") "part" (tOp (rIxL K) (tVar 7) (tC (.int 17)))) tNil))))) (gName 9))
 (tSeq (tFor (iList K (tVar 9)) (gName 10) (tIfS (tTest (tOp (rNeD K) (tVar 10) (tVar 4))) (tRet (tC (.bl false))) tNext))
 (tIfS (tTest (tOp (rNeD K) (qGd (He.ga K "NoFit") "high" (tOp (rIxL K) (tVar 7) (tC (.int 13)))) (tVar 5))) (tRet (tC (.bl false))) tNext))))))))
 (tRet (tCall (lift K qA4) [] E0 (tCons (tOp qDi (tCB qCz (tCons (tOp (rIxL K) (tVar 1) (tC (.int 3))) tNil)) (tC (.int 4))) (tCons (tVar 4) (tCons (tVar 5) tNil)))))))))))
theorem qG7{K:W.Frag}{cs:List Str}(T:KF K cs)(XO:XOk K qEg)(IX:IOk K qEg)(VX:qHq K qJb)  : SS K Ta [] [] [] [] (λ_=>E0) (qHc K cs) (qD0 cs):=
 (qAi (ow1:=[]) (qAz (by decide) (by decide) (qCe Lift.refl qC6 (qAa (qCe Lift.refl qC6 (qAa (qAb (by decide)) (qAa qAe qAh))) (qAa qAe (qAa (qAg (λ_=>qF6) qAe qAe) qAh)))))
 (qAi (ow1:=[]) (qAz (by decide) (by decide) (qAg (λ_=>qLl) (qAg (λ_=>qB4) (qCr (λ_=>qBr) (qAa (qAg (λ_=>qAx) (qAb (by decide)) qAe) qAh)) (qAg (λ_=>qEx) (qAg (λ_=>qE0) qAe (qAg (λ_=>qF6) qAe qAe)) qAe)) (qAg (λ_=>qF6) qAe qAe)))
 (qAi (ow1:=[]) (qAz (by decide) (by decide) (qBx (qAa (qAb (by decide)) (qAa (qAg (λ_=>qJx) qJm (qAg (λ_=>qB4) (qCr (λ_=>qBr) (qAa (qAg (λ_=>qAx) (qAb (by decide)) qAe) qAh)) qAe)) (qAa qLo (qAa qDo (qAa (qMu (qAa (qAb (by decide)) (qAa qJm qAh))) (qAa (qN1 (λ_=>qLy) qAe) qAh))))))))
 (qAi (ow1:=[]) (qAz (by decide) (by decide) (qAg (λ_=>qAx) (qAb (by decide)) (qAg (λ_=>qB4) (qCr (λ_=>qBr) (qAa (qAg (λ_=>qAx) (qAb (by decide)) qAe) qAh)) qAe)))
 (qAi (ow1:=[]) (qAz (by decide) (by decide) (qAg (λ_=>qAx) (qAb (by decide)) (qAg (λ_=>qB4) (qCr (λ_=>qBr) (qAa (qAg (λ_=>qAx) (qAb (by decide)) qAe) qAh)) qAe)))
 (qAi (ow1:=[]) (qEy (by decide) (qGt (qBx (qAa qDo (qAa qDo qAh)))) (qDb (by decide)) (qAi (ow1:=[]) (qAz (by decide) (by decide) (qCe Lift.refl qC6 (qAa (qAb (by decide)) (qAa (qAb (by decide)) (qAa (qAb (by decide)) qAh)))))
 (qAi (ow1:=[]) (qA0 (by decide) (qAk (qAg (λ_=>qMs) (qCr (λ_=>qL1) (qAa (qAb (by decide)) qAh)) qAe)) (qAo (by decide) qDo) (qAj (by decide)))
 (qAi (ow1:=[]) (qEy (by decide) (qFo (qAa qAe qAh)) (qDb (by decide)) (qAi (ow1:=[]) (qA0 (by decide) (qNr (qJj (qOn (qA1 IX (qAg (λ_=>qAx) (qAb (by decide)) (qAb (by decide)))))) (qJj (qOn (qKl VX (qAg (λ_=>qAx) (qAb (by decide)) (qAb (by decide))))))) (qAo (by decide) qDo) (qAj (by decide)))
 (qEy (by decide) (qFo (qAa qAe qAh)) (qDb (by decide)) (qA0 (by decide) (qAk (qAg (λ_=>qMs) (qCe Lift.refl qC6 (qAa (qAg (λ_=>qAx) (qAb (by decide)) (qAb (by decide))) (qAa (qAb (by decide)) qAh))) (qAg (λ_=>qA9) (qAb (by decide)) (qAb (by decide))))) (qAo (by decide) qDo) (qAj (by decide))))))
 (qAi (ow1:=[]) (qAz (by decide) (by decide) (qBx (qAa (qBo (qAg (λ_=>qAx) (qAb (by decide)) qAe)) (qAa (qBo (qAg (λ_=>qAx) (qAb (by decide)) qAe)) (qAa (qBo (qAg (λ_=>qAx) (qAb (by decide)) qAe)) (qAa (qBo (qAg (λ_=>qAx) (qAb (by decide)) qAe)) (qAa (qBo (qAg (λ_=>qAx) (qAb (by decide)) qAe)) (qAa (qBo (qAg (λ_=>qAx) (qAb (by decide)) qAe)) (qAa (qBo (qAg (λ_=>qAx) (qAb (by decide)) qAe)) qAh)))))))))
 (qAi (ow1:=[]) (qAz (by decide) (by decide) (qAg (λ_=>qDw) (qAb (by decide)) (qBx (qAa (qBo (qAg (λ_=>qAx) (qAb (by decide)) qAe)) (qAa (qBo (qAg (λ_=>qAx) (qAb (by decide)) qAe)) (qAa (qBo (qAg (λ_=>qAx) (qAb (by decide)) qAe)) qAh))))))
 (qAi (ow1:=[]) (qEy (by decide) (qGt (qAb (by decide))) (qDb (by decide)) (qA0 (by decide) (qAk (qAg (λ_=>qJg) (qAb (by decide)) (qAb (by decide)))) (qAo (by decide) qDo) (qAj (by decide))))
 (qA0 (by decide) (qAk (qAg (λ_=>qJg) (qBo (qAg (λ_=>qAx) (qAb (by decide)) qAe)) (qAb (by decide)))) (qAo (by decide) qDo) (qAj (by decide))))))))))
 (qAo (by decide) (qCe Lift.refl qC6 (qAa (qAg (λ_=>qB4) (qCr (λ_=>qBr) (qAa (qAg (λ_=>qAx) (qAb (by decide)) qAe) qAh)) qAe) (qAa (qAb (by decide)) (qAa (qAb (by decide)) qAh)))))))))))
abbrev qOv:FS:=
 (qBc (fB (fOp oNe (qBt qC9 [] (qAc (fOp qBf (qAf 7) (qAf 8)) (qAc (qAf 11) qAu))) (fOp oEq (qAf 11) (qAf 8)))) (qBb (fC (.bl false))) qAp)
abbrev qOy:FS:=
 (qAy (qBc (fOr (qJs (fB (qC5 qEg "MeansError" (fOp qBf (qAf 7) (qAf 8))))) (qJs (fB (qGw qJb (fOp qBf (qAf 7) (qAf 8)))))) (qBb (fC (.bl false))) qAp)
 (qFf (qDn (qAc (fC (.int 18)) qAu)) (qB3 11) (qBc (fB (fOp oNe (qBt qC9 [] (qAc (fOp qBf (qAf 7) (qAf 8)) (qAc (qAf 11) qAu))) (fOp oEq (qAf 11) (qAf 8)))) (qBb (fC (.bl false))) qAp)))
abbrev qO0:FS:=
 (qBc (fB (fOp qKo (qAf 10) (qAf 4))) (qBb (fC (.bl false))) qAp)
abbrev qM4:FS:=
 (qAy (qB7 7 (qBt qBl [] (qAc (qAf 4) (qAc (qAf 5) (qAc (qAf 6) qAu)))))
 (qAy (qBc (fB (fOp oNe (fLs qMd (qAc (qAf 7) qAu)) (fC (.int 18)))) (qBb (fC (.bl false))) qAp)
 (qAy (qFf (qDn (qAc (fC (.int 18)) qAu)) (qB3 8) (qAy (qBc (fOr (qJs (fB (qC5 qEg "MeansError" (fOp qBf (qAf 7) (qAf 8))))) (qJs (fB (qGw qJb (fOp qBf (qAf 7) (qAf 8)))))) (qBb (fC (.bl false))) qAp)
 (qFf (qDn (qAc (fC (.int 18)) qAu)) (qB3 11) (qBc (fB (fOp oNe (qBt qC9 [] (qAc (fOp qBf (qAf 7) (qAf 8)) (qAc (qAf 11) qAu))) (fOp oEq (qAf 11) (qAf 8)))) (qBb (fC (.bl false))) qAp))))
 (qAy (qB7 9 (qEw (qAc (qC0 "NoRatio" "word" (fOp qBf (qAf 7) (fC (.int 0)))) (qAc (qC0 "NoNumber" "word" (fOp qBf (qAf 7) (fC (.int 3)))) (qAc (qC0 "NoPlace" "part" (fOp qBf (qAf 7) (fC (.int 4)))) (qAc (qC0 "NoRow" "index" (fOp qBf (qAf 7) (fC (.int 6)))) (qAc (qC0 "NoLot" "part" (fOp qBf (qAf 7) (fC (.int 8)))) (qAc (qC0 "NoBar" "part" (fOp qBf (qAf 7) (fC (.int 10)))) (qAc (qC0 "NoWeight" "most" (fOp qBf (qAf 7) (fC (.int 12)))) qAu)))))))))
 (qAy (qB7 9 (fOp qIl (qAf 9) (qEw (qAc (qC0 "NoFit" "low" (fOp qBf (qAf 7) (fC (.int 13)))) (qAc (qC0 "NoShares" "index" (fOp qBf (qAf 7) (fC (.int 14)))) (qAc (qC0 "NoText" "part" (fOp qBf (qAf 7) (fC (.int 17)))) qAu))))))
 (qAy (qFf (qJe (qAf 9)) (qB3 10) (qBc (fB (fOp qKo (qAf 10) (qAf 4))) (qBb (fC (.bl false))) qAp))
 (qBc (fB (fOp qKo (qC0 "NoFit" "high" (fOp qBf (qAf 7) (fC (.int 13)))) (qAf 5))) (qBb (fC (.bl false))) qAp)))))))
theorem qHr{cs:List Str}(ds:List D)(P:D->Prop)(X:XP)(h:qEi ds P X):qDc cs (qI4 P X0) (qCg 2 ds):=by
 obtain ⟨ns,k,rfl,k0,p⟩:=h
 obtain ⟨j,rfl⟩:∃ j:Nat,k=(j:Int):=⟨k.toNat,by omega⟩
 simp_arith [qDc,qKu,qNa]
 refine ⟨ns,rfl, ?_⟩
 split
 ·next h=>
  have hk:(j:Int)<(ns.length:Nat):=of_decide_eq_true h
  exact ⟨ns,_,ns[j]'(by omega),rfl,rfl,atI_nat (List.getElem?_eq_getElem (by omega)),p _⟩
 ·exact p 0
theorem qHk{cs:List Str}(ds:List D)(P:D->Prop)(X:XP)(h:qEl ds P X):qC8 cs (qI4 P X0) (qCg 7 ds):=by
 obtain ⟨c,m,b,rfl,m0,m1,b0,p⟩:=h
 simp_arith [qC8,e18,qFf,qDn]
 refine ⟨by decide,by decide,⟨by decide,by decide,by decide⟩, ?_⟩
 split
 ·refine ⟨by omega,by omega, ?_⟩
  refine qE9 b0 (λns h1 h2 v4 v5 v6 => ?_) m1 m.toNat 0 [] _ _ _ (by omega) rfl (λn h=>by simp at h)
  exact ⟨_,rfl,p ns h1 h2⟩
 ·refine ⟨by omega,by omega, ?_⟩
  refine qE9 b0 (λns h1 h2 v4 v5 v6 => ?_) m1 m.toNat 0 [] _ _ _ (by omega) rfl (λn h=>by simp at h)
  exact ⟨_,rfl,p ns h1 h2⟩
theorem qKj{cs:List Str}(ds:List D)(P:D->Prop)(X:XP)(h:qC9 ds P X):qFh cs qEg (qI4 P X0) (qCg 2 ds):=by
 obtain ⟨i,ns,fs,k,rfl,hi,hk,p⟩:=h
 have go:∀ (k:Nat) (c:Str),k<18->qGc k=c->P (.bl (decide (i=k)))->∃ C ns' ds b,D.exn (qGc i) ns fs = .exn C ns' ds/\(C,c,b)∈qEg/\P (.bl b):=λk c hk e p=>⟨_,ns,fs,_,rfl,(by rw [<-e];exact qNg hi hk),p⟩
 simp_arith [qFh,qC5]
 by_cases e0:(k:Int)=0
 ·rw [if_pos (decide_eq_true e0)]
  exact go 0 _ (by decide) rfl (by rw [show k=0 by omega] at p;exact p)
 rw [if_neg (by rw [decide_eq_false e0];decide)]
 by_cases e1:(k:Int)=1
 ·rw [if_pos (decide_eq_true e1)]
  exact go 1 _ (by decide) rfl (by rw [show k=1 by omega] at p;exact p)
 rw [if_neg (by rw [decide_eq_false e1];decide)]
 by_cases e2:(k:Int)=2
 ·rw [if_pos (decide_eq_true e2)]
  exact go 2 _ (by decide) rfl (by rw [show k=2 by omega] at p;exact p)
 rw [if_neg (by rw [decide_eq_false e2];decide)]
 by_cases e3:(k:Int)=3
 ·rw [if_pos (decide_eq_true e3)]
  exact go 3 _ (by decide) rfl (by rw [show k=3 by omega] at p;exact p)
 rw [if_neg (by rw [decide_eq_false e3];decide)]
 by_cases e4:(k:Int)=4
 ·rw [if_pos (decide_eq_true e4)]
  exact go 4 _ (by decide) rfl (by rw [show k=4 by omega] at p;exact p)
 rw [if_neg (by rw [decide_eq_false e4];decide)]
 by_cases e5:(k:Int)=5
 ·rw [if_pos (decide_eq_true e5)]
  exact go 5 _ (by decide) rfl (by rw [show k=5 by omega] at p;exact p)
 rw [if_neg (by rw [decide_eq_false e5];decide)]
 by_cases e6:(k:Int)=6
 ·rw [if_pos (decide_eq_true e6)]
  exact go 6 _ (by decide) rfl (by rw [show k=6 by omega] at p;exact p)
 rw [if_neg (by rw [decide_eq_false e6];decide)]
 by_cases e7:(k:Int)=7
 ·rw [if_pos (decide_eq_true e7)]
  exact go 7 _ (by decide) rfl (by rw [show k=7 by omega] at p;exact p)
 rw [if_neg (by rw [decide_eq_false e7];decide)]
 by_cases e8:(k:Int)=8
 ·rw [if_pos (decide_eq_true e8)]
  exact go 8 _ (by decide) rfl (by rw [show k=8 by omega] at p;exact p)
 rw [if_neg (by rw [decide_eq_false e8];decide)]
 by_cases e9:(k:Int)=9
 ·rw [if_pos (decide_eq_true e9)]
  exact go 9 _ (by decide) rfl (by rw [show k=9 by omega] at p;exact p)
 rw [if_neg (by rw [decide_eq_false e9];decide)]
 by_cases e10:(k:Int)=10
 ·rw [if_pos (decide_eq_true e10)]
  exact go 10 _ (by decide) rfl (by rw [show k=10 by omega] at p;exact p)
 rw [if_neg (by rw [decide_eq_false e10];decide)]
 by_cases e11:(k:Int)=11
 ·rw [if_pos (decide_eq_true e11)]
  exact go 11 _ (by decide) rfl (by rw [show k=11 by omega] at p;exact p)
 rw [if_neg (by rw [decide_eq_false e11];decide)]
 by_cases e12:(k:Int)=12
 ·rw [if_pos (decide_eq_true e12)]
  exact go 12 _ (by decide) rfl (by rw [show k=12 by omega] at p;exact p)
 rw [if_neg (by rw [decide_eq_false e12];decide)]
 by_cases e13:(k:Int)=13
 ·rw [if_pos (decide_eq_true e13)]
  exact go 13 _ (by decide) rfl (by rw [show k=13 by omega] at p;exact p)
 rw [if_neg (by rw [decide_eq_false e13];decide)]
 by_cases e14:(k:Int)=14
 ·rw [if_pos (decide_eq_true e14)]
  exact go 14 _ (by decide) rfl (by rw [show k=14 by omega] at p;exact p)
 rw [if_neg (by rw [decide_eq_false e14];decide)]
 by_cases e15:(k:Int)=15
 ·rw [if_pos (decide_eq_true e15)]
  exact go 15 _ (by decide) rfl (by rw [show k=15 by omega] at p;exact p)
 rw [if_neg (by rw [decide_eq_false e15];decide)]
 by_cases e16:(k:Int)=16
 ·rw [if_pos (decide_eq_true e16)]
  exact go 16 _ (by decide) rfl (by rw [show k=16 by omega] at p;exact p)
 rw [if_neg (by rw [decide_eq_false e16];decide)]
 exact go 17 _ (by decide) rfl (by rw [show k=17 by omega] at p;exact p)
theorem qHf{cs:List Str}(ds:List D)(P:D->Prop)(X:XP)(h:qBl ds P X):qDk cs (qI4 P X0) (qCg 4 ds):=by
 obtain ⟨a,b,n,rfl,p⟩:=h
 simp_arith [qDk,qEf,qDs,qNl,qKa]
 have sl:∀ n:Nat,n<=1000->n<=sizeLine:=λn h=>by rw [sizeLine_eq];omega
 repeat first
  | refine ⟨_,rfl, ?_⟩
  | refine ⟨_,_,rfl, ?_⟩
  | refine ⟨sl _ (by decide), ?_⟩
 cases n
 ·rw [if_neg (by decide)]
  repeat first
   | refine ⟨_,rfl, ?_⟩
   | refine ⟨_,_,rfl, ?_⟩
   | refine ⟨sl _ (by decide), ?_⟩
  exact p
 ·rw [if_pos rfl]
  repeat first
   | refine ⟨_,rfl, ?_⟩
   | refine ⟨_,_,rfl, ?_⟩
   | refine ⟨sl _ (by decide), ?_⟩
  exact p
theorem qE7{cs:List Str}(ds:List D)(P:D->Prop)(X:XP)(h:qA4 ds P X):qCc cs qEg (qI4 P X0) (qCg 4 ds):=by
 obtain ⟨k,a,b,rfl,p⟩:=h
 have m:∀ {i:Nat} {c:Str},i<18->qGc i=c->(c,("MeansError":Str),true)∈qEg:=λhi e=>by rw [<-e];exact qJl hi
 simp_arith [qCc,qNp,qFj]
 split
 ·exact ⟨m (i:=13) (by decide) rfl,p⟩
 split
 ·exact ⟨m (i:=17) (by decide) rfl,p⟩
 split
 ·exact ⟨m (i:=15) (by decide) rfl,p⟩
 exact ⟨m (i:=12) (by decide) rfl,p⟩
def qH0(d:D):Prop:=∃ e,pyD d=some e/\SeqAt.shaped e=true/\PyData.eqv e e=true
theorem qO7{d:D}(h:qH0 d){P:D->Prop}{X:XP}(p:P (.bl false)):qKo d d P X:=by
 obtain ⟨e,h1,h2,h3⟩:=h
 refine ⟨e,e,h1,h1,h2,h2, ?_⟩
 rw [h3]
 exact p
theorem qJp{FD:FEnds}{a b:D}{k:Nat}(hk:k<18){v0 v1 v2 v3 v4 v5 v6 v9 v10:Option D}(fin:∀ v11,FD.nx [v0,v1,v2,v3,v4,v5,v6,some (.lst (qJ8 a b)),some (.int (k:Int)),v9,v10,v11]) :
  ∀ (r j:Nat) (v11:Option D),j+r=18->qBy (qB3 11) qOv FD (qHz (j:Int) r) [v0,v1,v2,v3,v4,v5,v6,some (.lst (qJ8 a b)),some (.int (k:Int)),v9,v10,v11]
 | 0,j,v11,h=>fin v11
 | r+1,j,v11,h=>by
  rw [qD4]
  unfold qBy qOv
  obtain ⟨ns,ds,g⟩:=qHo a b k hk
  simp_arith []
  refine qBa rfl g ?_
  refine ⟨k,ns,ds,j,rfl,hk,by omega, ?_⟩
  have e:decide ((j:Int)=(k:Int))=decide (k=j):=by
   by_cases z:k=j
   ·rw [decide_eq_true z,decide_eq_true (by omega)]
   ·rw [decide_eq_false z,decide_eq_false (by omega)]
  rw [e]
  refine ⟨true, ?_, ?_⟩
  ·show some (decide (decide (k=j)=decide (k=j)))=some true
   rw [decide_eq_true (rfl:decide (k=j)=decide (k=j))]
  rw [if_neg (by decide)]
  have:=qJp hk fin r (j+1) (some (.int (j:Int))) (by omega)
  rw [show ((j+1:Nat):Int)=(j:Int)+1 by omega] at this
  exact this
theorem qJc{FD:FEnds}{a b:D}{v0 v1 v2 v3 v4 v5 v6 v9 v10:Option D}(fin:∀ v8 v11,FD.nx [v0,v1,v2,v3,v4,v5,v6,some (.lst (qJ8 a b)),v8,v9,v10,v11]) :
  ∀ (r k:Nat) (v8 v11:Option D),k+r=18->qBy (qB3 8) qOy FD (qHz (k:Int) r) [v0,v1,v2,v3,v4,v5,v6,some (.lst (qJ8 a b)),v8,v9,v10,v11]
 | 0,k,v8,v11,h=>fin v8 v11
 | r+1,k,v8,v11,h=>by
  rw [qD4]
  unfold qBy qOy
  obtain ⟨ns,ds,g⟩:=qHo a b k (by omega)
  simp_arith [qC5,qGw,qFf,qDn]
  refine qBa rfl g ⟨_,ns,ds,true,rfl,qJl (by omega), ?_⟩
  simp_arith [Bool.not_true]
  refine qBa rfl g ⟨_,ns,ds,rfl,qMa (by omega), ?_⟩
  refine ⟨by decide,by decide, ?_⟩
  refine qJp (k:=k) (by omega) (λv11 => ?_) 18 0 v11 (by omega)
  have:=qJc fin r (k+1) (some (.int (k:Int))) v11 (by omega)
  rw [show ((k+1:Nat):Int)=(k:Int)+1 by omega] at this
  exact this
theorem qI9{FD:FEnds}{a:D}(ha:qH0 a){v0 v1 v2 v3 v5 v6 v7 v8 v9 v11:Option D}(fin:∀ v10,FD.nx [v0,v1,v2,v3,some a,v5,v6,v7,v8,v9,v10,v11]):∀ (n:Nat) (v10:Option D),qBy (qB3 10) qO0 FD (List.replicate n a) [v0,v1,v2,v3,some a,v5,v6,v7,v8,v9,v10,v11]
 | 0,v10=>fin v10
 | n+1,v10=>by
  rw [List.replicate_succ]
  unfold qBy qO0
  simp_arith []
  refine qO7 ha ?_
  simp_arith []
  exact qI9 ha fin n (some a)
theorem qJn{FD:FEnds}{a b:D}(ha:qH0 a)(hb:qH0 b){n:Bool}{v0 v1 v2 v3 v7 v8 v9 v10 v11:Option D}(fin:∀ v7 v8 v9 v10 v11,FD.nx [v0,v1,v2,v3,some a,some b,some (.bl n),v7,v8,v9,v10,v11]) :
  qM4 FD [v0,v1,v2,v3,some a,some b,some (.bl n),v7,v8,v9,v10,v11]:=by
 have lk:∀ (p:Str) (d:D),[(p,d)].lookup p=some d:=λp d=>by simp [List.lookup]
 simp_arith [qM4,qFf,qDn,qJe]
 refine ⟨a,b,n,rfl, ?_⟩
 have l18:(qJ8 a b).length=18:=rfl
 have l1:([("high":Str),"low"].zip [b,a]).lookup ("high":Str)=some b:=by simp [List.lookup]
 have l2:([("high":Str),"low"].zip [b,a]).lookup ("low":Str)=some a:=by
  have q:(("low":Str) == ("high":Str))=false:=by decide +kernel
  simp [List.lookup,q]
 simp_arith [l18]
 refine ⟨by decide,by decide, ?_⟩
 refine qJc (λv8 v11 => ?_) 18 0 v8 v11 (by omega)
 simp_arith [qC0]
 refine qBa (k:=0) rfl rfl ⟨_,_,a,rfl,lk _ _, ?_⟩
 refine qBa (k:=3) rfl rfl ⟨_,_,a,rfl,lk _ _, ?_⟩
 refine qBa (k:=4) rfl rfl ⟨_,_,a,rfl,lk _ _, ?_⟩
 refine qBa (k:=6) rfl rfl ⟨_,_,a,rfl,lk _ _, ?_⟩
 refine qBa (k:=8) rfl rfl ⟨_,_,a,rfl,lk _ _, ?_⟩
 refine qBa (k:=10) rfl rfl ⟨_,_,a,rfl,lk _ _, ?_⟩
 refine qBa (k:=12) rfl rfl ⟨_,_,a,rfl,lk _ _, ?_⟩
 refine ⟨by rw [sizeLine_eq];decide, ?_⟩
 refine qBa (k:=13) rfl rfl ⟨_,_,a,rfl,l2, ?_⟩
 refine qBa (k:=14) rfl rfl ⟨_,_,a,rfl,lk _ _, ?_⟩
 refine qBa (k:=17) rfl rfl ⟨_,_,a,rfl,lk _ _, ?_⟩
 refine ⟨by rw [sizeLine_eq];decide,by rw [sizeLine_eq];decide, ?_⟩
 simp_arith [qFf,qJe]
 refine qI9 ha (λv10 => ?_) 10 v10
 simp_arith [qC0]
 refine qBa (k:=13) rfl rfl ⟨_,_,b,rfl,l1, ?_⟩
 refine qO7 hb ?_
 simp_arith []
 exact fin _ _ _ _ _
theorem qN8{cs:List Str}(ns:List Int)(hl:ns.length<=63):qD0 cs (qI4 yes X0) (some (.scr ns) :: List.replicate 11 none):=by
 simp_arith [qD0,List.replicate]
 refine ⟨ns,0,rfl,by decide,λv=>⟨⟨by decide,by decide,by decide⟩,_,5,_,rfl,by decide,by decide,by decide,λes el er => ?_⟩⟩
 have el:es.length=5:=el
 have ip:∀ i:Int,qH0 (.int i):=λi=>⟨.int i,rfl,by simp [SeqAt.shaped,PyData.canLay0,PyData.depth],by simp [PyData.eqv]⟩
 simp_arith [qFp]
 refine qEh (i:=0) er (by omega) λa a0 a1 => ?_
 simp_arith []
 refine ⟨⟨by decide,by decide,by decide⟩,qKm (n:=2) (m:=200) (by decide) (by decide) (by decide),by decide,⟨by decide,by decide,by decide⟩, ?_⟩
 generalize a.fmod (2*10 ^ Int.toNat 40+1) - 10 ^ Int.toNat 40=q
 simp_arith [qFy]
 refine qEh (i:=0) er (by omega) λu u0 u1 => ?_
 simp_arith [qK5]
 obtain ⟨g0,g1⟩:=qJz (a:=u) (b:=9) (by decide)
 refine ⟨by decide,"w",_,rfl,rfl,by decide,g0,by omega,by decide,by rw [sizeLine_eq];decide, ?_⟩
 have st:∀ n:Nat,n<9->PyData.strOk (qH3 "w" n)=true:=by decide +kernel
 have sp:qH0 (.str (qH3 "w" (u.fmod 9).toNat)):=⟨.str _,rfl,by simp [SeqAt.shaped,PyData.canLay0,PyData.depth,st _ (show (u.fmod 9).toNat<9 by omega)],by simp [PyData.eqv]⟩
 have sa:PyData.strOk ("a":Str)=true:=by decide +kernel
 have tp:qH0 (.tup [.int q, .str "a"]):=⟨.tuple [.int q, .str "a"],rfl,by simp [SeqAt.shaped,PyData.canLay0,PyData.canLayAll0,PyData.depth,PyData.depthAll,sa],by simp [PyData.eqv,PyData.eqvAll]⟩
 have np:qH0 .non:=⟨.none,rfl,by simp [SeqAt.shaped,PyData.canLay0,PyData.depth],by simp [PyData.eqv]⟩
 have bp:qH0 (.bl true):=⟨.bool true,rfl,by simp [SeqAt.shaped,PyData.canLay0,PyData.depth],by simp [PyData.eqv]⟩
 generalize qH3 "w" (u.fmod 9).toNat=sx at sp ⊢
 have pick:∀ (j:Int) (P:D->Prop) (X:XP),0<=j->j<6->(∀ d,qH0 d->P d)->oIx (.lst [.int q, .str sx, .non, .bl true, .tup [.int q, .str "a"], .int (-1)]) (.int j) P X:=by
  intro j P X j0 j1 k
  have hj:j=0\/j=1\/j=2\/j=3\/j=4\/j=5:=by omega
  rcases hj with rfl | rfl | rfl | rfl | rfl | rfl
  ·exact qBa (k:=0) rfl rfl (k _ (ip q))
  ·exact qBa (k:=1) rfl rfl (k _ sp)
  ·exact qBa (k:=2) rfl rfl (k _ np)
  ·exact qBa (k:=3) rfl rfl (k _ bp)
  ·exact qBa (k:=4) rfl rfl (k _ tp)
  ·exact qBa (k:=5) rfl rfl (k _ (ip (-1)))
 simp_arith [qFu]
 refine qEh (i:=1) er (by omega) λc c0 c1 => ?_
 simp_arith []
 obtain ⟨h0,h1⟩:=qJz (a:=c) (b:=6) (by decide)
 refine ⟨by decide,pick _ _ _ h0 h1 λx hx => ?_⟩
 simp_arith [qF9]
 refine qEh (i:=2) er (by omega) λd d0 d1 => ?_
 simp_arith []
 obtain ⟨k0,k1⟩:=qJz (a:=d) (b:=6) (by decide)
 refine ⟨by decide,pick _ _ _ k0 k1 λy hy => ?_⟩
 simp_arith [qF1,qFf,qJe]
 refine ⟨by rw [sizeLine_eq];decide, ?_⟩
 unfold qBy
 show qM4 _ [_,_,_,_,some x,some y,some (.bl false),_,_,_,_,_]
 refine qJn hx hy λv7 v8 v9 v10 v11 => ?_
 unfold qBy
 show qM4 _ [_,_,_,_,some x,some y,some (.bl true),_,_,_,_,_]
 refine qJn hx hy λv7 v8 v9 v10 v11 => ?_
 unfold qBy
 simp_arith [qF5]
 refine qEh (i:=3) er (by omega) λe e0 e1 => ?_
 simp_arith []
 exact ⟨by decide,_,x,y,rfl,rfl⟩
theorem qFc{K:W.Frag}{cs:List Str}(vs:List V)(H:Hp)(Q:VK)(E:XK)(h:(lift K qEi) vs H Q E):vs.length=2:=qCl (λds P X h=>by unfold qEi at h;first | ((repeat (first | (obtain ⟨rfl,_⟩:=h;exact rfl) | obtain ⟨_,h⟩:=h));done) | (split at h <;> first | rfl | exact h.elim)) h
theorem qGo{K:W.Frag}{cs:List Str}(T:KF K cs)(vs:List V)(H:Hp)(Q:VK)(E:XK)(h:(lift K qEi) vs H Q E):qCn K cs { nx:=λ_ H'=>Q .non H',rt:=Q } (start ["_law_script","_law_k"] vs) H:=
 qEo rfl (qG6 T ) (qHr ) vs H Q E h
theorem qFe{K:W.Frag}{cs:List Str}(vs:List V)(H:Hp)(Q:VK)(E:XK)(h:(lift K qEl) vs H Q E):vs.length=3:=qCl (λds P X h=>by unfold qEl at h;first | ((repeat (first | (obtain ⟨rfl,_⟩:=h;exact rfl) | obtain ⟨_,h⟩:=h));done) | (split at h <;> first | rfl | exact h.elim)) h
theorem qGm{K:W.Frag}{cs:List Str}(T:KF K cs)(vs:List V)(H:Hp)(Q:VK)(E:XK)(h:(lift K qEl) vs H Q E):qCt K cs { nx:=λ_ H'=>Q .non H',rt:=Q } (start ["_law_cell_here","_law_many","_law_base","_law_found","_law_rest","_law_k","_law_number"] vs) H:=
 qEo rfl (qG5 T ) (qHk ) vs H Q E h
theorem qGv{K:W.Frag}{cs:List Str}(vs:List V)(H:Hp)(Q:VK)(E:XK)(h:(lift K qC9) vs H Q E):vs.length=2:=qCl (λds P X h=>by unfold qC9 at h;first | ((repeat (first | (obtain ⟨rfl,_⟩:=h;exact rfl) | obtain ⟨_,h⟩:=h));done) | (split at h <;> first | rfl | exact h.elim)) h
theorem qI1{K:W.Frag}{cs:List Str}(T:KF K cs)(XO:XOk K qEg)(IX:IOk K qEg)(vs:List V)(H:Hp)(Q:VK)(E:XK)(h:(lift K qC9) vs H Q E):qEb K cs { nx:=λ_ H'=>Q .non H',rt:=Q } (start ["_law_error","_law_which"] vs) H:=
 qEo rfl (qKw T XO IX ) (qKj ) vs H Q E h
theorem qE6{K:W.Frag}{cs:List Str}(vs:List V)(H:Hp)(Q:VK)(E:XK)(h:(lift K qBl) vs H Q E):vs.length=3:=qCl (λds P X h=>by unfold qBl at h;first | ((repeat (first | (obtain ⟨rfl,_⟩:=h;exact rfl) | obtain ⟨_,h⟩:=h));done) | (split at h <;> first | rfl | exact h.elim)) h
theorem qGe{K:W.Frag}{cs:List Str}(T:KF K cs)(vs:List V)(H:Hp)(Q:VK)(E:XK)(h:(lift K qBl) vs H Q E):qCq K cs { nx:=λ_ H'=>Q .non H',rt:=Q } (start ["_law_one","_law_other","_law_named","_law_made_here"] vs) H:=
 qEo rfl (qGy T ) (qHf ) vs H Q E h
theorem qDy{K:W.Frag}{cs:List Str}(vs:List V)(H:Hp)(Q:VK)(E:XK)(h:(lift K qA4) vs H Q E):vs.length=3:=qCl (λds P X h=>by unfold qA4 at h;first | ((repeat (first | (obtain ⟨rfl,_⟩:=h;exact rfl) | obtain ⟨_,h⟩:=h));done) | (split at h <;> first | rfl | exact h.elim)) h
theorem qEj{K:W.Frag}{cs:List Str}(T:KF K cs)(XO:XOk K qEg)(IX:IOk K qEg)(vs:List V)(H:Hp)(Q:VK)(E:XK)(h:(lift K qA4) vs H Q E):qBp K cs { nx:=λ_ H'=>Q .non H',rt:=Q } (start ["_law_which","_law_one","_law_other","_law_caught_here"] vs) H:=
 qEo rfl (qFd T XO IX ) (qE7 ) vs H Q E h
theorem qLa{K:W.Frag}{cs:List Str}(T:KF K cs)(XO:XOk K qEg)(IX:IOk K qEg)(VX:qHq K qJb)(vs:List V)(H:Hp)(Q:VK)(E:XK)(h:qJy K vs H Q E):qHc K cs { nx:=λ_ H'=>Q .non H',rt:=Q } (start ["_law_script","_law_digits","_law_number","_law_values","_law_one","_law_other","_law_named","_law_made_here","_law_k","_law_told","_law_value","_law_j"] vs) H:=
 qJ3 (T:=[]) (n:=11) rfl (qG7 T XO IX VX ) (qN8 ) vs H Q E (by obtain ⟨a,ns,rfl,hS,hl,q⟩:=h;exact ⟨a,ns,rfl,hS,hl,(λ_ z=>nomatch z),q⟩) (λ_ _ _ _ z=>nomatch z)
theorem qGr:FnScope ["_law_script","_law_k"] ["_law_script","_law_k"] (defScope qAs):=⟨rfl,rfl,rfl,by decide +kernel,rfl,by decide +kernel,by decide +kernel⟩
theorem qAv:FnScope ["_law_cell_here","_law_many","_law_base","_law_found","_law_rest","_law_k","_law_number"] ["_law_cell_here","_law_many","_law_base"] (defScope qAr):=⟨rfl,rfl,rfl,by decide +kernel,rfl,by decide +kernel,by decide +kernel⟩
theorem qIv:FnScope ["_law_error","_law_which"] ["_law_error","_law_which"] (defScope qA3):=⟨rfl,rfl,rfl,by decide +kernel,rfl,by decide +kernel,by decide +kernel⟩
theorem qA6:FnScope ["_law_one","_law_other","_law_named","_law_made_here"] ["_law_one","_law_other","_law_named"] (defScope qAq):=⟨rfl,rfl,rfl,by decide +kernel,rfl,by decide +kernel,by decide +kernel⟩
theorem qBq:FnScope ["_law_which","_law_one","_law_other","_law_caught_here"] ["_law_which","_law_one","_law_other"] (defScope qAn):=⟨rfl,rfl,rfl,by decide +kernel,rfl,by decide +kernel,by decide +kernel⟩
theorem qBd:FnScope ["_law_script","_law_digits","_law_number","_law_values","_law_one","_law_other","_law_named","_law_made_here","_law_k","_law_told","_law_value","_law_j"] ["_law_script"] (defScope qB5):=⟨rfl,rfl,rfl,by decide +kernel,rfl,by decide +kernel,by decide +kernel⟩
structure Bd (K:W.Frag) (mg:Str->Option Value):Prop where
 st:∃ h:Heap,K.In h/\h.Ns mainGlobals mg
 says:SaysM bsL fnL K
section
variable {K:W.Frag} {mg:Str->Option Value}
theorem qJh(B:Bd K mg):mg "len"=none:=let ⟨_,X,G⟩:=B.st;He.free_ok X G (B.says.fact 0 rfl)
theorem qBz(B:Bd K mg):mg "int"=none:=let ⟨_,X,G⟩:=B.st;He.free_ok X G (B.says.fact 1 rfl)
theorem qD2(B:Bd K mg):mg "range"=none:=let ⟨_,X,G⟩:=B.st;He.free_ok X G (B.says.fact 2 rfl)
theorem qAd(B:Bd K mg):mg "isinstance"=none:=let ⟨_,X,G⟩:=B.st;He.free_ok X G (B.says.fact 3 rfl)
theorem qD7(B:Bd K mg):mg "ValueError"=none:=let ⟨_,X,G⟩:=B.st;He.free_ok X G (B.says.fact 4 rfl)
theorem qEn(B:Bd K mg):mg "_law_cell"=some (.ref (He.ga K "_law_cell")):=let ⟨_,X,G⟩:=B.st;He.glo_ok X G (B.says.fact 5 rfl)
theorem qEp(B:Bd K mg):mg "_law_draw"=some (.ref (He.ga K "_law_draw")):=let ⟨_,X,G⟩:=B.st;He.glo_ok X G (B.says.fact 6 rfl)
theorem qCp(B:Bd K mg):mg "NoRatio"=some (.ref (He.ga K "NoRatio")):=let ⟨_,X,G⟩:=B.st;He.glo_ok X G (B.says.fact 7 rfl)
theorem qDf(B:Bd K mg):mg "NoPoly"=some (.ref (He.ga K "NoPoly")):=let ⟨_,X,G⟩:=B.st;He.glo_ok X G (B.says.fact 8 rfl)
theorem qBv(B:Bd K mg):mg "NoDivisor"=some (.ref (He.ga K "NoDivisor")):=let ⟨_,X,G⟩:=B.st;He.glo_ok X G (B.says.fact 9 rfl)
theorem qCb(B:Bd K mg):mg "NoNumber"=some (.ref (He.ga K "NoNumber")):=let ⟨_,X,G⟩:=B.st;He.glo_ok X G (B.says.fact 10 rfl)
theorem qCo(B:Bd K mg):mg "NoPlace"=some (.ref (He.ga K "NoPlace")):=let ⟨_,X,G⟩:=B.st;He.glo_ok X G (B.says.fact 11 rfl)
theorem qBi(B:Bd K mg):mg "NotSegment"=some (.ref (He.ga K "NotSegment")):=let ⟨_,X,G⟩:=B.st;He.glo_ok X G (B.says.fact 12 rfl)
theorem qD5(B:Bd K mg):mg "NoRow"=some (.ref (He.ga K "NoRow")):=let ⟨_,X,G⟩:=B.st;He.glo_ok X G (B.says.fact 13 rfl)
theorem qDa(B:Bd K mg):mg "NoMean"=some (.ref (He.ga K "NoMean")):=let ⟨_,X,G⟩:=B.st;He.glo_ok X G (B.says.fact 14 rfl)
theorem qEa(B:Bd K mg):mg "NoLot"=some (.ref (He.ga K "NoLot")):=let ⟨_,X,G⟩:=B.st;He.glo_ok X G (B.says.fact 15 rfl)
theorem qBj(B:Bd K mg):mg "NoLotThere"=some (.ref (He.ga K "NoLotThere")):=let ⟨_,X,G⟩:=B.st;He.glo_ok X G (B.says.fact 16 rfl)
theorem qD1(B:Bd K mg):mg "NoBar"=some (.ref (He.ga K "NoBar")):=let ⟨_,X,G⟩:=B.st;He.glo_ok X G (B.says.fact 17 rfl)
theorem qCu(B:Bd K mg):mg "NoPoint"=some (.ref (He.ga K "NoPoint")):=let ⟨_,X,G⟩:=B.st;He.glo_ok X G (B.says.fact 18 rfl)
theorem qBh(B:Bd K mg):mg "NoWeight"=some (.ref (He.ga K "NoWeight")):=let ⟨_,X,G⟩:=B.st;He.glo_ok X G (B.says.fact 19 rfl)
theorem qC2(B:Bd K mg):mg "NoFit"=some (.ref (He.ga K "NoFit")):=let ⟨_,X,G⟩:=B.st;He.glo_ok X G (B.says.fact 20 rfl)
theorem qB9(B:Bd K mg):mg "NoShares"=some (.ref (He.ga K "NoShares")):=let ⟨_,X,G⟩:=B.st;He.glo_ok X G (B.says.fact 21 rfl)
theorem qB0(B:Bd K mg):mg "TooMany"=some (.ref (He.ga K "TooMany")):=let ⟨_,X,G⟩:=B.st;He.glo_ok X G (B.says.fact 22 rfl)
theorem qDe(B:Bd K mg):mg "NoStep"=some (.ref (He.ga K "NoStep")):=let ⟨_,X,G⟩:=B.st;He.glo_ok X G (B.says.fact 23 rfl)
theorem qCh(B:Bd K mg):mg "NoText"=some (.ref (He.ga K "NoText")):=let ⟨_,X,G⟩:=B.st;He.glo_ok X G (B.says.fact 24 rfl)
theorem qGq(B:Bd K mg):mg "_law_is"=some (.ref (He.ga K "_law_is")):=let ⟨_,X,G⟩:=B.st;He.glo_ok X G (B.says.fact 25 rfl)
theorem qEk(B:Bd K mg):mg "_law_made"=some (.ref (He.ga K "_law_made")):=let ⟨_,X,G⟩:=B.st;He.glo_ok X G (B.says.fact 26 rfl)
theorem qCj(B:Bd K mg):mg "MeansError"=some (.ref (He.ga K "MeansError")):=let ⟨_,X,G⟩:=B.st;He.glo_ok X G (B.says.fact 27 rfl)
theorem qDl(B:Bd K mg):mg "_law_caught"=some (.ref (He.ga K "_law_caught")):=let ⟨_,X,G⟩:=B.st;He.glo_ok X G (B.says.fact 28 rfl)
theorem qMc(B:Bd K mg):mg "law"=some (.ref (He.ga K "law")):=let ⟨_,X,G⟩:=B.st;He.glo_ok X G (B.says.fact 29 rfl)
theorem qB8(B:Bd K mg):SupC pWW K (He.ga K "NoRatio") (He.ma K (He.ga K "NoRatio") "__init__") "word":=qBg (B.says.fact 30 rfl)
theorem qBw(B:Bd K mg):SupC pWW K (He.ga K "NoNumber") (He.ma K (He.ga K "NoNumber") "__init__") "word":=qBg (B.says.fact 31 rfl)
theorem qCa(B:Bd K mg):SupC pWW K (He.ga K "NoPlace") (He.ma K (He.ga K "NoPlace") "__init__") "part":=qBg (B.says.fact 32 rfl)
theorem qDd(B:Bd K mg):SupC pWW K (He.ga K "NoRow") (He.ma K (He.ga K "NoRow") "__init__") "index":=qBg (B.says.fact 33 rfl)
theorem qDg(B:Bd K mg):SupC pWW K (He.ga K "NoLot") (He.ma K (He.ga K "NoLot") "__init__") "part":=qBg (B.says.fact 34 rfl)
theorem qDj(B:Bd K mg):SupC pWW K (He.ga K "NoBar") (He.ma K (He.ga K "NoBar") "__init__") "part":=qBg (B.says.fact 35 rfl)
theorem qA7(B:Bd K mg):SupC pWW K (He.ga K "NoWeight") (He.ma K (He.ga K "NoWeight") "__init__") "most":=qBg (B.says.fact 36 rfl)
theorem qBs(B:Bd K mg):SupC pWW K (He.ga K "NoShares") (He.ma K (He.ga K "NoShares") "__init__") "index":=qBg (B.says.fact 37 rfl)
theorem qB1(B:Bd K mg):SupC pWW K (He.ga K "NoText") (He.ma K (He.ga K "NoText") "__init__") "part":=qBg (B.says.fact 38 rfl)
theorem qBe(B:Bd K mg):SupC2 pWW K (He.ga K "NoFit") (He.ma K (He.ga K "NoFit") "__init__"):=qIe (B.says.fact 49 rfl)
theorem qGp(B:Bd K mg):XfC K (He.ga K "NoRatio"):=xfB_ok (B.says.fact 39 rfl)
theorem qFm(B:Bd K mg):XfC K (He.ga K "NoNumber"):=xfB_ok (B.says.fact 40 rfl)
theorem qGk(B:Bd K mg):XfC K (He.ga K "NoPlace"):=xfB_ok (B.says.fact 41 rfl)
theorem qIn(B:Bd K mg):XfC K (He.ga K "NoRow"):=xfB_ok (B.says.fact 42 rfl)
theorem qIb(B:Bd K mg):XfC K (He.ga K "NoLot"):=xfB_ok (B.says.fact 43 rfl)
theorem qIt(B:Bd K mg):XfC K (He.ga K "NoBar"):=xfB_ok (B.says.fact 44 rfl)
theorem qFl(B:Bd K mg):XfC K (He.ga K "NoWeight"):=xfB_ok (B.says.fact 45 rfl)
theorem qF2(B:Bd K mg):XfC K (He.ga K "NoFit"):=xfB_ok (B.says.fact 46 rfl)
theorem qFg(B:Bd K mg):XfC K (He.ga K "NoShares"):=xfB_ok (B.says.fact 47 rfl)
theorem qHx(B:Bd K mg):XfC K (He.ga K "NoText"):=xfB_ok (B.says.fact 48 rfl)
theorem qEv(B:Bd K mg):Ex0 K (He.ga K "NoPoly"):=qBu (B.says.fact 50 rfl)
theorem qCw(B:Bd K mg):Ex0 K (He.ga K "NoDivisor"):=qBu (B.says.fact 51 rfl)
theorem qCd(B:Bd K mg):Ex0 K (He.ga K "NotSegment"):=qBu (B.says.fact 52 rfl)
theorem qE2(B:Bd K mg):Ex0 K (He.ga K "NoMean"):=qBu (B.says.fact 53 rfl)
theorem qCi(B:Bd K mg):Ex0 K (He.ga K "NoLotThere"):=qBu (B.says.fact 54 rfl)
theorem qDr(B:Bd K mg):Ex0 K (He.ga K "NoPoint"):=qBu (B.says.fact 55 rfl)
theorem qCm(B:Bd K mg):Ex0 K (He.ga K "TooMany"):=qBu (B.says.fact 56 rfl)
theorem qEs(B:Bd K mg):Ex0 K (He.ga K "NoStep"):=qBu (B.says.fact 57 rfl)
theorem KFB(B:Bd K mg):KF K csL:=qMp (B.says.fact 58 rfl)
theorem VXB(B:Bd K mg):qHq K qJb:=qKi (B.says.fact 61 rfl)
theorem XOB(B:Bd K mg):XOk K xtL:=qLz (B.says.fact 59 rfl)
theorem IOB(B:Bd K mg):IOk K xtL:=qLj (B.says.fact 60 rfl)
theorem see(B:Bd K mg):SeeC K:=qKe (B.says.fact 62 rfl)
end
section
variable {w:World} {K:W.Frag} {mg:Str->Option Value} {base:Heap}
theorem qGb(B:Bd K mg):∃ fd,FunD K "_law_cell" "_law_cell" (defArgs qAs) (defBody qAs) (defScope qAs) [] [] (He.ga K "_law_cell") fd/\FnOk pWW w K mg base (CXX pWW w) 1 (He.ga K "_law_cell") fd ["_law_script","_law_k"] (lift K qEi):=by
 obtain ⟨fd,F0⟩:=B.says.def_ 0 (d:=qDx) rfl
 have F:FunD K "_law_cell" "_law_cell" (defArgs qAs) (defBody qAs) (defScope qAs) [] [] (He.ga K "_law_cell") fd:=F0
 refine ⟨fd,F,F.ok qGr (λvs H Q E h => ?_) (λcdv A outer s H vs Q E hr h=>⟨qCn K csL, ?_,qGo (KFB B)  vs H Q E h⟩)⟩
 ·exact qFc (cs:=csL) _ _ _ _ h
 ·exact (pss_cons (ps_if (pt_cmpR op_lt (pv 1) (pe_callB call_len (by rfl) (qJh B) (by decide +kernel) (pa_cons (pv 0) pa_nil)) (nomark _)) (pss_one (ps_ret (pe_callTy call_int1 (by rfl) (qBz B) (by decide +kernel) (pa_cons (pe_ix ix_list (pv 0) (pv 1) (λ_ _=>rfl)) pa_nil)))) pss_nil)
 (pss_one (ps_ret pe_int)))
theorem qHe(B:Bd K mg):qGa pWW w K mg base 1 "_law_cell" [] (lift K qEi):=by
 obtain ⟨fd,F,G⟩:=qGb (w:=w) (base:=base) B
 exact ⟨_,fd,["_law_script","_law_k"],[],qEn B,F.kp,G,F.bindsN λ_ _ _ _ _ _ us hl=>match us,hl with | [_,_],_=>rfl, .nil⟩
theorem qIj(B:Bd K mg):∃ fd,FunD K "_law_is" "_law_is" (defArgs qA3) (defBody qA3) (defScope qA3) [] [] (He.ga K "_law_is") fd/\FnOk pWW w K mg base (CXX pWW w) 1 (He.ga K "_law_is") fd ["_law_error","_law_which"] (lift K qC9):=by
 obtain ⟨fd,F0⟩:=B.says.def_ 2 (d:=qF0) rfl
 have F:FunD K "_law_is" "_law_is" (defArgs qA3) (defBody qA3) (defScope qA3) [] [] (He.ga K "_law_is") fd:=F0
 refine ⟨fd,F,F.ok qIv (λvs H Q E h => ?_) (λcdv A outer s H vs Q E hr h=>⟨qEb K csL, ?_,qI1 (KFB B) (XOB B) (IOB B)  vs H Q E h⟩)⟩
 ·exact qGv (cs:=csL) _ _ _ _ h
 ·exact (pss_cons (ps_if (pt_cmpR op_eq (pv 1) pe_int (nomark _)) (pss_one (ps_ret (pe_callB qAl (by rfl) (qAd B) (by decide +kernel) (pa_cons (pv 0) (pa_cons (pe_glob (v := .ref (He.ga K "NoRatio")) (by rfl) (qCp B) rfl) pa_nil))))) pss_nil)
 (pss_cons (ps_if (pt_cmpR op_eq (pv 1) pe_int (nomark _)) (pss_one (ps_ret (pe_callB qAl (by rfl) (qAd B) (by decide +kernel) (pa_cons (pv 0) (pa_cons (pe_glob (v := .ref (He.ga K "NoPoly")) (by rfl) (qDf B) rfl) pa_nil))))) pss_nil)
 (pss_cons (ps_if (pt_cmpR op_eq (pv 1) pe_int (nomark _)) (pss_one (ps_ret (pe_callB qAl (by rfl) (qAd B) (by decide +kernel) (pa_cons (pv 0) (pa_cons (pe_glob (v := .ref (He.ga K "NoDivisor")) (by rfl) (qBv B) rfl) pa_nil))))) pss_nil)
 (pss_cons (ps_if (pt_cmpR op_eq (pv 1) pe_int (nomark _)) (pss_one (ps_ret (pe_callB qAl (by rfl) (qAd B) (by decide +kernel) (pa_cons (pv 0) (pa_cons (pe_glob (v := .ref (He.ga K "NoNumber")) (by rfl) (qCb B) rfl) pa_nil))))) pss_nil)
 (pss_cons (ps_if (pt_cmpR op_eq (pv 1) pe_int (nomark _)) (pss_one (ps_ret (pe_callB qAl (by rfl) (qAd B) (by decide +kernel) (pa_cons (pv 0) (pa_cons (pe_glob (v := .ref (He.ga K "NoPlace")) (by rfl) (qCo B) rfl) pa_nil))))) pss_nil)
 (pss_cons (ps_if (pt_cmpR op_eq (pv 1) pe_int (nomark _)) (pss_one (ps_ret (pe_callB qAl (by rfl) (qAd B) (by decide +kernel) (pa_cons (pv 0) (pa_cons (pe_glob (v := .ref (He.ga K "NotSegment")) (by rfl) (qBi B) rfl) pa_nil))))) pss_nil)
 (pss_cons (ps_if (pt_cmpR op_eq (pv 1) pe_int (nomark _)) (pss_one (ps_ret (pe_callB qAl (by rfl) (qAd B) (by decide +kernel) (pa_cons (pv 0) (pa_cons (pe_glob (v := .ref (He.ga K "NoRow")) (by rfl) (qD5 B) rfl) pa_nil))))) pss_nil)
 (pss_cons (ps_if (pt_cmpR op_eq (pv 1) pe_int (nomark _)) (pss_one (ps_ret (pe_callB qAl (by rfl) (qAd B) (by decide +kernel) (pa_cons (pv 0) (pa_cons (pe_glob (v := .ref (He.ga K "NoMean")) (by rfl) (qDa B) rfl) pa_nil))))) pss_nil)
 (pss_cons (ps_if (pt_cmpR op_eq (pv 1) pe_int (nomark _)) (pss_one (ps_ret (pe_callB qAl (by rfl) (qAd B) (by decide +kernel) (pa_cons (pv 0) (pa_cons (pe_glob (v := .ref (He.ga K "NoLot")) (by rfl) (qEa B) rfl) pa_nil))))) pss_nil)
 (pss_cons (ps_if (pt_cmpR op_eq (pv 1) pe_int (nomark _)) (pss_one (ps_ret (pe_callB qAl (by rfl) (qAd B) (by decide +kernel) (pa_cons (pv 0) (pa_cons (pe_glob (v := .ref (He.ga K "NoLotThere")) (by rfl) (qBj B) rfl) pa_nil))))) pss_nil)
 (pss_cons (ps_if (pt_cmpR op_eq (pv 1) pe_int (nomark _)) (pss_one (ps_ret (pe_callB qAl (by rfl) (qAd B) (by decide +kernel) (pa_cons (pv 0) (pa_cons (pe_glob (v := .ref (He.ga K "NoBar")) (by rfl) (qD1 B) rfl) pa_nil))))) pss_nil)
 (pss_cons (ps_if (pt_cmpR op_eq (pv 1) pe_int (nomark _)) (pss_one (ps_ret (pe_callB qAl (by rfl) (qAd B) (by decide +kernel) (pa_cons (pv 0) (pa_cons (pe_glob (v := .ref (He.ga K "NoPoint")) (by rfl) (qCu B) rfl) pa_nil))))) pss_nil)
 (pss_cons (ps_if (pt_cmpR op_eq (pv 1) pe_int (nomark _)) (pss_one (ps_ret (pe_callB qAl (by rfl) (qAd B) (by decide +kernel) (pa_cons (pv 0) (pa_cons (pe_glob (v := .ref (He.ga K "NoWeight")) (by rfl) (qBh B) rfl) pa_nil))))) pss_nil)
 (pss_cons (ps_if (pt_cmpR op_eq (pv 1) pe_int (nomark _)) (pss_one (ps_ret (pe_callB qAl (by rfl) (qAd B) (by decide +kernel) (pa_cons (pv 0) (pa_cons (pe_glob (v := .ref (He.ga K "NoFit")) (by rfl) (qC2 B) rfl) pa_nil))))) pss_nil)
 (pss_cons (ps_if (pt_cmpR op_eq (pv 1) pe_int (nomark _)) (pss_one (ps_ret (pe_callB qAl (by rfl) (qAd B) (by decide +kernel) (pa_cons (pv 0) (pa_cons (pe_glob (v := .ref (He.ga K "NoShares")) (by rfl) (qB9 B) rfl) pa_nil))))) pss_nil)
 (pss_cons (ps_if (pt_cmpR op_eq (pv 1) pe_int (nomark _)) (pss_one (ps_ret (pe_callB qAl (by rfl) (qAd B) (by decide +kernel) (pa_cons (pv 0) (pa_cons (pe_glob (v := .ref (He.ga K "TooMany")) (by rfl) (qB0 B) rfl) pa_nil))))) pss_nil)
 (pss_cons (ps_if (pt_cmpR op_eq (pv 1) pe_int (nomark _)) (pss_one (ps_ret (pe_callB qAl (by rfl) (qAd B) (by decide +kernel) (pa_cons (pv 0) (pa_cons (pe_glob (v := .ref (He.ga K "NoStep")) (by rfl) (qDe B) rfl) pa_nil))))) pss_nil)
 (pss_one (ps_ret (pe_callB qAl (by rfl) (qAd B) (by decide +kernel) (pa_cons (pv 0) (pa_cons (pe_glob (v := .ref (He.ga K "NoText")) (by rfl) (qCh B) rfl) pa_nil))))))))))))))))))))))
theorem qJ4(B:Bd K mg):qGa pWW w K mg base 1 "_law_is" [] (lift K qC9):=by
 obtain ⟨fd,F,G⟩:=qIj (w:=w) (base:=base) B
 exact ⟨_,fd,["_law_error","_law_which"],[],qGq B,F.kp,G,F.bindsN λ_ _ _ _ _ _ us hl=>match us,hl with | [_,_],_=>rfl, .nil⟩
theorem qGl(B:Bd K mg):∃ fd,FunD K "_law_made" "_law_made" (defArgs qAq) (defBody qAq) (defScope qAq) [] [] (He.ga K "_law_made") fd/\FnOk pWW w K mg base (CXX pWW w) 1 (He.ga K "_law_made") fd ["_law_one","_law_other","_law_named"] (lift K qBl):=by
 obtain ⟨fd,F0⟩:=B.says.def_ 3 (d:=qDt) rfl
 have F:FunD K "_law_made" "_law_made" (defArgs qAq) (defBody qAq) (defScope qAq) [] [] (He.ga K "_law_made") fd:=F0
 refine ⟨fd,F,F.ok qA6 (λvs H Q E h => ?_) (λcdv A outer s H vs Q E hr h=>⟨qCq K csL, ?_,qGe (KFB B)  vs H Q E h⟩)⟩
 ·exact qE6 (cs:=csL) _ _ _ _ h
 ·exact (pss_cons (ps_set (i:=3) qA6.nd rfl (Or.inl rfl) (pe_lst (pa_cons (qCf (qB8 B) qEd (qCp B) hr (pa_cons (pv 0) pa_nil)) (pa_cons (qAw (qEv B) (qDf B)) (pa_cons (qAw (qCw B) (qBv B)) (pa_cons (qCf (qBw B) qEd (qCb B) hr (pa_cons (pv 0) pa_nil)) (pa_cons (qCf (qCa B) qBk (qCo B) hr (pa_cons (pv 0) pa_nil)) (pa_cons (qAw (qCd B) (qBi B)) (pa_cons (qCf (qDd B) qC4 (qD5 B) hr (pa_cons (pv 0) pa_nil)) (pa_cons (qAw (qE2 B) (qDa B)) pa_nil))))))))))
 (pss_cons (ps_set (i:=3) qA6.nd rfl (Or.inl rfl) (pe_op op_cat (pv 3) (pe_lst (pa_cons (qCf (qDg B) qBk (qEa B) hr (pa_cons (pv 0) pa_nil)) (pa_cons (qAw (qCi B) (qBj B)) (pa_cons (qCf (qDj B) qBk (qD1 B) hr (pa_cons (pv 0) pa_nil)) (pa_cons (qAw (qDr B) (qCu B)) (pa_cons (qCf (qA7 B) qFn (qBh B) hr (pa_cons (pv 0) pa_nil)) (pa_cons (qM2 (qBe B) (qC2 B) hr (pa_cons (pv 0) (pa_cons (pv 1) pa_nil))) (pa_cons (qCf (qBs B) qC4 (qB9 B) hr (pa_cons (pv 0) pa_nil)) pa_nil))))))))))
 (pss_cons (ps_if (pt_val (pv 2)) (pss_cons (ps_set (i:=3) qA6.nd rfl (Or.inl rfl) (pe_lst (pa_cons (qBm (qB8 B) qEd qF4 (qCp B) hr (pk_cons (pv 0) pk_nil)) (pa_cons (qAw (qEv B) (qDf B)) (pa_cons (qAw (qCw B) (qBv B)) (pa_cons (qBm (qBw B) qEd qF4 (qCb B) hr (pk_cons (pv 0) pk_nil)) (pa_cons (qBm (qCa B) qBk qC1 (qCo B) hr (pk_cons (pv 0) pk_nil)) (pa_cons (qAw (qCd B) (qBi B)) pa_nil))))))))
 (pss_cons (ps_set (i:=3) qA6.nd rfl (Or.inl rfl) (pe_op op_cat (pv 3) (pe_lst (pa_cons (qBm (qDd B) qC4 qEr (qD5 B) hr (pk_cons (pv 0) pk_nil)) (pa_cons (qAw (qE2 B) (qDa B)) (pa_cons (qBm (qDg B) qBk qC1 (qEa B) hr (pk_cons (pv 0) pk_nil)) (pa_cons (qAw (qCi B) (qBj B)) (pa_cons (qBm (qDj B) qBk qC1 (qD1 B) hr (pk_cons (pv 0) pk_nil)) (pa_cons (qAw (qDr B) (qCu B)) pa_nil)))))))))
 (pss_cons (ps_set (i:=3) qA6.nd rfl (Or.inl rfl) (pe_op op_cat (pv 3) (pe_lst (pa_cons (qBm (qA7 B) qFn qH5 (qBh B) hr (pk_cons (pv 0) pk_nil)) (pa_cons (qKt (qBe B) (qC2 B) hr (pk_cons (pv 1) (pk_cons (pv 0) pk_nil))) (pa_cons (qBm (qBs B) qC4 qEr (qB9 B) hr (pk_cons (pv 0) pk_nil)) pa_nil))))))
 (pss_one (ps_ret (pe_op op_cat (pv 3) (pe_lst (pa_cons (qAw (qCm B) (qB0 B)) (pa_cons (qAw (qEs B) (qDe B)) (pa_cons (qBm (qB1 B) qBk qC1 (qCh B) hr (pk_cons (pv 0) pk_nil)) pa_nil)))))))))) pss_nil)
 (pss_one (ps_ret (pe_op op_cat (pv 3) (pe_lst (pa_cons (qAw (qCm B) (qB0 B)) (pa_cons (qAw (qEs B) (qDe B)) (pa_cons (qCf (qB1 B) qBk (qCh B) hr (pa_cons (pv 0) pa_nil)) pa_nil))))))))))
theorem qHg(B:Bd K mg):qGa pWW w K mg base 1 "_law_made" [] (lift K qBl):=by
 obtain ⟨fd,F,G⟩:=qGl (w:=w) (base:=base) B
 exact ⟨_,fd,["_law_one","_law_other","_law_named"],[],qEk B,F.kp,G,F.bindsN λ_ _ _ _ _ _ us hl=>match us,hl with | [_,_,_],_=>rfl, .nil⟩
theorem qEz(B:Bd K mg):∃ fd,FunD K "_law_caught" "_law_caught" (defArgs qAn) (defBody qAn) (defScope qAn) [] [] (He.ga K "_law_caught") fd/\FnOk pWW w K mg base (CXX pWW w) 1 (He.ga K "_law_caught") fd ["_law_which","_law_one","_law_other"] (lift K qA4):=by
 obtain ⟨fd,F0⟩:=B.says.def_ 4 (d:=qCv) rfl
 have F:FunD K "_law_caught" "_law_caught" (defArgs qAn) (defBody qAn) (defScope qAn) [] [] (He.ga K "_law_caught") fd:=F0
 refine ⟨fd,F,F.ok qBq (λvs H Q E h => ?_) (λcdv A outer s H vs Q E hr h=>⟨qBp K csL, ?_,qEj (KFB B) (XOB B) (IOB B)  vs H Q E h⟩)⟩
 ·exact qDy (cs:=csL) _ _ _ _ h
 ·exact (pss_cons (ps_set (i:=3) qBq.nd rfl (Or.inl rfl) pe_bl)
 (pss_cons (ps_try_only (tb:=λW=>(tSeq (tIfS (tTest (tOp rEq (tVar 0) (tC (.int 0)))) (qC3 (He.ga K "NoFit") W (tCons (tVar 1) (tCons (tVar 2) tNil))) tNext)
 (tSeq (tIfS (tTest (tOp rEq (tVar 0) (tC (.int 1)))) (qCs (He.ga K "NoText") "part" W (tCons (tVar 1) tNil)) tNext)
 (tSeq (tIfS (tTest (tOp rEq (tVar 0) (tC (.int 2)))) (qD3 (He.ga K "TooMany") W) tNext)
 (qCs (He.ga K "NoWeight") "most" W (tCons (tVar 1) tNil)))))) (ts:=λa cls d=>(tAsg (tC (.bl true)) (gName 3))) (Wout:=(λ_ _ _ _=>False)) rfl rfl ⟨rfl,by decide,Or.inl (qCj B)⟩ takes0 (λW pn xe tk _=>(pss_cons (ps_if (pt_cmpR op_eq (pv 0) pe_int (nomark _)) (pss_one (qGg rfl (qBe B) (qC2 B) hr tk (pa_cons (pv 1) (pa_cons (pv 2) pa_nil)))) pss_nil)
 (pss_cons (ps_if (pt_cmpR op_eq (pv 0) pe_int (nomark _)) (pss_one (qEm rfl (qB1 B) qBk (qCh B) hr tk (pa_cons (pv 1) pa_nil))) pss_nil)
 (pss_cons (ps_if (pt_cmpR op_eq (pv 0) pe_int (nomark _)) (pss_one (qGj rfl tk (qCm B) (qB0 B))) pss_nil)
 (pss_one (qEm rfl (qA7 B) qFn (qBh B) hr tk (pa_cons (pv 1) pa_nil))))))) (λa oe cls d pn hz hf=>(pss_one (ps_set (i:=3) qBq.nd rfl (Or.inl rfl) pe_bl))))
 (pss_one (ps_ret (pv 3)))))
theorem qFa(B:Bd K mg):qGa pWW w K mg base 1 "_law_caught" [] (lift K qA4):=by
 obtain ⟨fd,F,G⟩:=qEz (w:=w) (base:=base) B
 exact ⟨_,fd,["_law_which","_law_one","_law_other"],[],qDl B,F.kp,G,F.bindsN λ_ _ _ _ _ _ us hl=>match us,hl with | [_,_,_],_=>rfl, .nil⟩
theorem qGi(B:Bd K mg):∃ fd,FunD K "_law_draw" "_law_draw" (defArgs qAr) (defBody qAr) (defScope qAr) [] [] (He.ga K "_law_draw") fd/\FnOk pWW w K mg base (CXX pWW w) 33 (He.ga K "_law_draw") fd ["_law_cell_here","_law_many","_law_base"] (lift K qEl):=by
 obtain ⟨fd,F0⟩:=B.says.def_ 1 (d:=qDp) rfl
 have F:FunD K "_law_draw" "_law_draw" (defArgs qAr) (defBody qAr) (defScope qAr) [] [] (He.ga K "_law_draw") fd:=F0
 refine ⟨fd,F,F.ok qAv (λvs H Q E h => ?_) (λcdv A outer s H vs Q E hr h=>⟨qCt K csL, ?_,qGm (KFB B)  vs H Q E h⟩)⟩
 ·exact qFe (cs:=csL) _ _ _ _ h
 ·exact (pss_cons (ps_set (i:=3) qAv.nd rfl (Or.inl rfl) (pe_lst pa_nil))
 (pss_cons (ps_set (i:=4) qAv.nd rfl (Or.inl rfl) pe_int)
 (pss_cons (ps_if (pt_cmpR op_ge (pv 0) (pe_op op_pow pe_int pe_int) (nomark _)) (pss_one (ps_set (i:=4) qAv.nd rfl (Or.inl rfl) (pv 0))) pss_nil)
 (pss_cons (ps_for (passes_of rfl) rfl (pi_range1 (by rfl) (qD2 B) (pa_cons (pv 1) pa_nil)) (pg_name (i:=5) qAv.nd rfl (Or.inl rfl)) (pss_one (ps_if (pt_cmpR op_gt (pv 4) pe_int (nomark _)) (pss_cons (ps_expr (pe_bm PySem.F.plainAttrs_list PySem.F.slot_list_append PySem.F.type_list_append mt_append (pv 3) (pa_cons (pe_op op_modN (pe_callTy call_int1 (by rfl) (qBz B) (by decide +kernel) (pa_cons (pv 4) pa_nil)) (pv 2)) pa_nil)))
 (pss_one (ps_set (i:=4) qAv.nd rfl (Or.inl rfl) (pe_op (qD6 (see B) rfl (hr.mono (by decide))) (pv 4) (pv 2))))) (pss_cons (ps_set (i:=6) qAv.nd rfl (Or.inl rfl) (pe_op op_modN (pe_callTy call_int1 (by rfl) (qBz B) (by decide +kernel) (pa_cons (pe_op qC7 (pe_op op_add (pe_op op_add (pv 0) (pe_op qC7 pe_int (pv 5))) pe_int) pe_int) pa_nil)) pe_int))
 (pss_cons (ps_set (i:=6) qAv.nd rfl (Or.inl rfl) (pe_op op_modN (pe_callTy call_int1 (by rfl) (qBz B) (by decide +kernel) (pa_cons (pe_op qC7 (pv 6) (pe_op op_add (pe_op (qD6 (see B) rfl (hr.mono (by decide))) (pv 6) pe_int) pe_int)) pa_nil)) pe_int))
 (pss_cons (ps_set (i:=6) qAv.nd rfl (Or.inl rfl) (pe_op op_modN (pe_callTy call_int1 (by rfl) (qBz B) (by decide +kernel) (pa_cons (pe_op qC7 (pv 6) (pe_op op_add (pe_op (qD6 (see B) rfl (hr.mono (by decide))) (pv 6) pe_int) pe_int)) pa_nil)) pe_int))
 (pss_one (ps_expr (pe_bm PySem.F.plainAttrs_list PySem.F.slot_list_append PySem.F.type_list_append mt_append (pv 3) (pa_cons (pe_op op_modN (pe_callTy call_int1 (by rfl) (qBz B) (by decide +kernel) (pa_cons (pv 6) pa_nil)) (pv 2)) pa_nil))))))))))
 (pss_one (ps_ret (pv 3)))))))
theorem qHb(B:Bd K mg):qGa pWW w K mg base 33 "_law_draw" [] (lift K qEl):=by
 obtain ⟨fd,F,G⟩:=qGi (w:=w) (base:=base) B
 exact ⟨_,fd,["_law_cell_here","_law_many","_law_base"],[],qEp B,F.kp,G,F.bindsN λ_ _ _ _ _ _ us hl=>match us,hl with | [_,_,_],_=>rfl, .nil⟩
theorem qJf(B:Bd K mg):∃ fd,FunD K "law" "law" (defArgs qB5) (defBody qB5) (defScope qB5) [] [] (He.ga K "law") fd/\FnOk pWW w K mg base CX0 35 (He.ga K "law") fd ["_law_script"] (qJy K):=by
 obtain ⟨fd,F0⟩:=B.says.def_ 5 (d:=qJq) rfl
 have F:FunD K "law" "law" (defArgs qB5) (defBody qB5) (defScope qB5) [] [] (He.ga K "law") fd:=F0
 refine ⟨fd,F,F.ok qBd (λvs H Q E h => ?_) (λcdv A outer s H vs Q E hr h=>⟨qHc K csL, ?_,qLa (KFB B) (XOB B) (IOB B) (VXB B)  vs H Q E h⟩)⟩
 ·first | (obtain ⟨_,rfl,_⟩:=h;rfl) | (obtain ⟨_,_,rfl,_⟩:=h;rfl) | (obtain ⟨_,_,_,rfl,_⟩:=h;rfl) | (obtain ⟨_,_,_,_,rfl,_⟩:=h;rfl) | (obtain ⟨_,_,_,_,_,rfl,_⟩:=h;rfl) | (obtain ⟨_,_,_,_,_,_,rfl,_⟩:=h;rfl) | (obtain ⟨_,_,_,_,_,_,_,rfl,_⟩:=h;rfl) | (obtain ⟨_,_,_,_,_,_,_,_,rfl,_⟩:=h;rfl) | (obtain ⟨_,_,_,_,_,_,_,_,_,rfl,_⟩:=h;rfl) | (obtain ⟨_,_,_,_,_,_,_,_,_,_,rfl,_⟩:=h;rfl) | (obtain ⟨_,_,_,_,_,_,_,_,_,_,_,rfl,_⟩:=h;rfl) | (obtain ⟨_,_,_,_,_,_,_,_,_,_,_,_,rfl,_⟩:=h;rfl)
 ·exact (pss_cons (ps_set (i:=1) qBd.nd rfl (Or.inl rfl) (qCk (dvs:=[]) (qHb B) (hr.mono (by decide)) rfl passL (pa_cons (qCk (dvs:=[]) (qHe B) (hr.mono (by decide)) rfl passL (pa_cons (pv 0) (pa_cons pe_int pa_nil))) (pa_cons pe_int (pa_cons (pe_op op_pow pe_int pe_int) pa_nil)))))
 (pss_cons (ps_set (i:=2) qBd.nd rfl (Or.inl rfl) (pe_op op_sub (pe_op op_modN (pe_callTy call_int1 (by rfl) (qBz B) (by decide +kernel) (pa_cons (pe_ix ix_list (pv 1) pe_int (λ_ _=>rfl)) pa_nil)) (pe_op op_add (pe_op qC7 pe_int (pe_op op_pow pe_int pe_int)) pe_int)) (pe_op op_pow pe_int pe_int)))
 (pss_cons (ps_set (i:=3) qBd.nd rfl (Or.inl rfl) (pe_lst (pa_cons (pv 2) (pa_cons (pe_op qJv pe_str (pe_op op_modN (pe_callTy call_int1 (by rfl) (qBz B) (by decide +kernel) (pa_cons (pe_ix ix_list (pv 1) pe_int (λ_ _=>rfl)) pa_nil)) pe_int)) (pa_cons pe_non (pa_cons pe_bl (pa_cons (pe_tup (pa_cons (pv 2) (pa_cons pe_str pa_nil))) (pa_cons (pe_un un_neg pe_int) pa_nil))))))))
 (pss_cons (ps_set (i:=4) qBd.nd rfl (Or.inl rfl) (pe_ix ix_list (pv 3) (pe_op op_modN (pe_callTy call_int1 (by rfl) (qBz B) (by decide +kernel) (pa_cons (pe_ix ix_list (pv 1) pe_int (λ_ _=>rfl)) pa_nil)) pe_int) (λ_ _=>rfl)))
 (pss_cons (ps_set (i:=5) qBd.nd rfl (Or.inl rfl) (pe_ix ix_list (pv 3) (pe_op op_modN (pe_callTy call_int1 (by rfl) (qBz B) (by decide +kernel) (pa_cons (pe_ix ix_list (pv 1) pe_int (λ_ _=>rfl)) pa_nil)) pe_int) (λ_ _=>rfl)))
 (pss_cons (ps_for (passes_of rfl) rfl (pi_list (pe_lst (pa_cons pe_bl (pa_cons pe_bl pa_nil)))) (pg_name (i:=6) qBd.nd rfl (Or.inl rfl)) (pss_cons (ps_set (i:=7) qBd.nd rfl (Or.inl rfl) (qCk (dvs:=[]) (qHg B) (hr.mono (by decide)) rfl passL (pa_cons (pv 4) (pa_cons (pv 5) (pa_cons (pv 6) pa_nil)))))
 (pss_cons (ps_if (pt_cmpR op_ne (pe_callB call_len (by rfl) (qJh B) (by decide +kernel) (pa_cons (pv 7) pa_nil)) pe_int (nomark _)) (pss_one (ps_ret pe_bl)) pss_nil)
 (pss_cons (ps_for (passes_of rfl) rfl (pi_range1 (by rfl) (qD2 B) (pa_cons pe_int pa_nil)) (pg_name (i:=8) qBd.nd rfl (Or.inl rfl)) (pss_cons (ps_if (PW.pt (pw_or (pt_not (pt_val (pe_callB qAl (by rfl) (qAd B) (by decide +kernel) (pa_cons (pe_ix ix_list (pv 7) (pv 8) (λ_ _=>rfl)) (pa_cons (pe_glob (v := .ref (He.ga K "MeansError")) (by rfl) (qCj B) rfl) pa_nil))))) (pw_or1 (pt_not (pt_val (pe_callB qAl (by rfl) (qAd B) (by decide +kernel) (pa_cons (pe_ix ix_list (pv 7) (pv 8) (λ_ _=>rfl)) (pa_cons (pe_bltn (v := .ty "ValueError") (by rfl) (qD7 B) (by decide +kernel) rfl) pa_nil)))))))) (pss_one (ps_ret pe_bl)) pss_nil)
 (pss_one (ps_for (passes_of rfl) rfl (pi_range1 (by rfl) (qD2 B) (pa_cons pe_int pa_nil)) (pg_name (i:=11) qBd.nd rfl (Or.inl rfl)) (pss_one (ps_if (pt_cmpR op_ne (qCk (dvs:=[]) (qJ4 B) (hr.mono (by decide)) rfl passL (pa_cons (pe_ix ix_list (pv 7) (pv 8) (λ_ _=>rfl)) (pa_cons (pv 11) pa_nil))) (pe_cmpR op_eq (pv 11) (pv 8) (nomark _)) (nomark _)) (pss_one (ps_ret pe_bl)) pss_nil))))))
 (pss_cons (ps_set (i:=9) qBd.nd rfl (Or.inl rfl) (pe_lst (pa_cons (qBn (C:=He.ga K "NoRatio") (qGp B) (qB8 B).no (pe_ix ix_list (pv 7) pe_int (λ_ _=>rfl))) (pa_cons (qBn (C:=He.ga K "NoNumber") (qFm B) (qBw B).no (pe_ix ix_list (pv 7) pe_int (λ_ _=>rfl))) (pa_cons (qBn (C:=He.ga K "NoPlace") (qGk B) (qCa B).no (pe_ix ix_list (pv 7) pe_int (λ_ _=>rfl))) (pa_cons (qBn (C:=He.ga K "NoRow") (qIn B) (qDd B).no (pe_ix ix_list (pv 7) pe_int (λ_ _=>rfl))) (pa_cons (qBn (C:=He.ga K "NoLot") (qIb B) (qDg B).no (pe_ix ix_list (pv 7) pe_int (λ_ _=>rfl))) (pa_cons (qBn (C:=He.ga K "NoBar") (qIt B) (qDj B).no (pe_ix ix_list (pv 7) pe_int (λ_ _=>rfl))) (pa_cons (qBn (C:=He.ga K "NoWeight") (qFl B) (qA7 B).no (pe_ix ix_list (pv 7) pe_int (λ_ _=>rfl))) pa_nil)))))))))
 (pss_cons (ps_set (i:=9) qBd.nd rfl (Or.inl rfl) (pe_op op_cat (pv 9) (pe_lst (pa_cons (qBn (C:=He.ga K "NoFit") (qF2 B) (qBe B).no (pe_ix ix_list (pv 7) pe_int (λ_ _=>rfl))) (pa_cons (qBn (C:=He.ga K "NoShares") (qFg B) (qBs B).no (pe_ix ix_list (pv 7) pe_int (λ_ _=>rfl))) (pa_cons (qBn (C:=He.ga K "NoText") (qHx B) (qB1 B).no (pe_ix ix_list (pv 7) pe_int (λ_ _=>rfl))) pa_nil))))))
 (pss_cons (ps_for (passes_of rfl) rfl (pi_list (pv 9)) (pg_name (i:=10) qBd.nd rfl (Or.inl rfl)) (pss_one (ps_if (pt_cmpR (qHw hr) (pv 10) (pv 4) (nomark _)) (pss_one (ps_ret pe_bl)) pss_nil)))
 (pss_one (ps_if (pt_cmpR (qHw hr) (qBn (C:=He.ga K "NoFit") (qF2 B) (qBe B).no2 (pe_ix ix_list (pv 7) pe_int (λ_ _=>rfl))) (pv 5) (nomark _)) (pss_one (ps_ret pe_bl)) pss_nil)))))))))
 (pss_one (ps_ret (qCk (dvs:=[]) (qFa B) (hr.mono (by decide)) rfl passL (pa_cons (pe_op op_modN (pe_callTy call_int1 (by rfl) (qBz B) (by decide +kernel) (pa_cons (pe_ix ix_list (pv 1) pe_int (λ_ _=>rfl)) pa_nil)) pe_int) (pa_cons (pv 4) (pa_cons (pv 5) pa_nil))))))))))))
end
end MR
open PySem PySem.W PySem.Calls PyProof.Rows
set_option maxRecDepth 100000 in
set_option maxHeartbeats 0 in
theorem PySem.Challenge.cw_momentrows_k69_errors_and_their_fields_holds : PySem.Challenge.rw_momentrows_k69_errors_and_their_fields.Holds := by
 refine MR.qOp ?hc
 case hc=>
  refine L2.walk_ofE (l:=rWW) (n:=63) (k:=35) (x:="_law_script") (CX:=L2.CX0) rfl (by decide) MR.dfK ⟨rfl,by decide,by decide⟩ ?F (λ_ _ _ _ z=>z)
  intro w mg fa h Y G hmg0
  obtain ⟨K,KX,c⟩:=Y
  have hmg:mg ("law":PySem.Str)=some (.ref fa):=by
   have e:(HandSHeadRun.topDef (OpenLaw.row rWW).prog 26).name=("law":PySem.Str):=MR.nmK
   rw [<-e]
   exact hmg0
  have B:MR.Bd K mg:=⟨⟨h,KX,G⟩,c⟩
  have e:=hmg.symm.trans (MR.qMc B)
  cases e
  obtain ⟨fd0,F,_⟩:=MR.qJf (w:=w) (base:=h) B
  have b:=L2.FunD.bindsA (ps:=["_law_script"]) F λ_ _ _ _ _ _ us hl=>match us,hl with | [_],_=>rfl
  refine ⟨K,fd0,MR.qJy K,KX,λs u=>b s [u] rfl,λH a ns hl _ hS=>⟨a,ns,rfl,hS,hl,λ_=>rfl⟩,λbase _ _ => ?_⟩
  obtain ⟨fd1,F1,G1⟩:=MR.qJf (w:=w) (base:=base) B
  have e2:fd1=fd0:=MR.qI5 F1 F
  rw [<-e2]
  exact G1
