import PyProof.Rows.All
import Wide.All
import OpenK.AllK
import Wide.FinOn
import KE.KExcSuper
import HandS.ForMost
import HandS.ForExc
import HandS.Defaults
import HandS.IsInst
import HandS.ExcField
import HandS.ExcInit
import KE.KExcIs
import HandS.ExcIs
import HandS.Wide
import HandS.MakeKw
import HandS.MakeKwOnly
import HandS.CallSlots
import HandS.HeadEnd
import HandS.HeadHook2
import HandS.Head2
import HandS.OwnEq
import KE.KOpsOwn
import HandS.Lambda
import HandS.EndTab
import HandS.Iter
import KE.GoesEnum
import HandS.RevRange
import HandS.Zip
import HandS.TupAny
import HandS.DeepEq
import HandS.TupLe
import HandS.Small
import HandS.Style
import KE.KCallOwn
import HandS.More
import PyProof.NoPylong
import HandS.Dict
import HandS.List
import HandS.Flow
import PySem.Challenge.RW_momentrows_k62_centred_rows_and_differen
open List renaming length_cons → Za0, getElem?_eq_getElem → Za3, length_map → Za6, mem_cons_of_mem → Zab, mem_cons_self → Zad, getElem?_map → Zae, range → Zag, mem_singleton → Zai, length_take → Zaj, getD_eq_getElem?_getD → Zak
open Rat renaming mul_zero → Za1, zero_mul → Za2, divInt → Za4, intCast_mul → Za7, divInt_eq_div → Za8, add_zero → Zac, zero_add → Zah, mul_nonneg → Zal, ne_of_gt → Zan
open Classical renaming byContradiction → Za5
open Nat renaming le_refl → Za9, pow_le_pow_right → Zaa, le_trans → Zaf, lt_of_lt_of_le → Zam
open Int renaming natAbs_mul → Zao
open PySem.Challenge renaming pw_momentrows_k62_centred_rows_and_differen → pWW, rw_momentrows_k62_centred_rows_and_differen → rWW
set_option Elab.async false
set_option linter.all false
set_option maxRecDepth 100000
set_option maxHeartbeats 4000000
set_option exponentiation.threshold 40000
namespace MR
open PySem PySem.W PySem.Calls PyProof.Rows PySem.HandSPX
structure SupC (prog:Program) (K:Frag) (C fI:Addr) (p:Str):Prop where
 cls:∃ nm q N bs bm sn sub ab col dd k0 k1 k2 k3 k5,K.lookup C=some (excClassObj nm q C N bs bm true sn sub ab col dd k0 k1 k2 k3 k5 "ValueError.__new__")/\refsVE bm=true/\
  alongIn K "__init__" bm=some (some (.builtin "ValueError.__init__"))
 sa:findIn K (.ref C) "__setattr__"=some (some (.builtin "object.__setattr__"))
 no:findIn K (.ref C) p=some none
 ini:findIn K (.ref C) "__init__"=some (some (.ref fI))
 tfn:typeIn K (.ref fI)=some (.type "function")
 kC:keepIn K (.ref C)=true
 exC:subIn K (.ref C) (.type "BaseException")=some true
 veC:subIn K (.ref C) (.type "ValueError")=some true
 tyC:typeIn K (.ref C)=some (.type "type")
 selfC:mroIn K C (.ref C)=some true
 opq:nsIn K cStatics "thirdparty.any"=some none
 sup:nsIn K mainGlobals "super"=some none
 top:(prog.main.scope.names.lookup ("super":Str)).isSome=false
 fn:∃ (oc:Value) (od:Option Addr) (osl:Array (Option Value)) (fd:FuncData) (a1 a2:Arg) (q1 q2 q3 q4 q5 q6 q7 q8 q9 q10:Pos) (cda cc:Addr) (ccl:Value) (cdd:Option Addr) (vs:Array Value) (ccs:Array (Option Value)) (file:Str) (tf:Tok) (cl:Value) (cld:Option Addr) (csl:Array (Option Value)),
  K.lookup fI=some ⟨oc,od, .func fd,osl⟩/\codeIn K fd.code fd.qualname=true/\
  fd.params = { posonlyargs:=[],args:=[a1,a2],vararg:=none,kwonlyargs:=[],kw_defaults:=[],kwarg:=none,defaults:=[] }/\a1.arg="self"/\a2.arg=p/\
  fd.body = .stmts [.Expr (.Call (.Attribute (.Call (.Name "super" q1) [] [] q2) "__init__" q3) [.Name p q4] [] q5) q6, .Assign [.Attribute (.Name "self" q7) p q8] (.Name p q9) q10]/\
  fd.scope = { kind := .function,names:=[("self", .local),(p, .local),("__class__", .free),("super", .globalImplicit)],isGenerator:=false,isCoroutine:=false,more:=[] }/\
  fd.globals=mainGlobals/\fd.builtins=builtinsNs/\fd.closure=[(("__class__":Str),cc)]/\fd.defaults = .none/\fd.code = .ref cda/\
  K.lookup cda=some ⟨ccl,cdd, .fields vs,ccs⟩/\vs[2]?=some (.str file tf)/\((prog.main.file:Str) == file)=true/\
  K.lookup cc=some ⟨cl,cld, .cell (some (.ref C)),csl⟩/\(q3.endLine == q5.line)=true
structure PName (p:Str):Prop where
 n1:¬ p=("self":Str)
 n2:¬ p=("__class__":Str)
 n3:¬ p=("super":Str)
 n4:(p == ("__debug__":Str))=false
 n5:(p == ("__classdict__":Str))=false
 bnd:∀ (n1 n2:Str) (an1:Option Expr) (ap1:Pos) (an2:Option Expr) (ap2:Pos) (b:FuncBody) (sc:Scope) (gl:Addr) (clo:List (Str × Addr)) (n9 n10 n11:Value) (n12:Option Addr) (n13 n14:Value) (n15:Addr) (u v:Value),
  bindArgs ⟨n1,n2, { posonlyargs:=[],args:=[⟨"self",an1,ap1⟩,⟨p,an2,ap2⟩],vararg:=none,kwonlyargs:=[],kw_defaults:=[],kwarg:=none,defaults:=[] },b,sc,gl,clo, .none,n9,n10,n11,n12,n13,n14,n15⟩ ⟨[u,v],[]⟩=pure [(("self":Str),u),(p,v)]
structure InitEnd (h h':Heap) (x C dx:Addr) (p:Str) (v:Value):Prop where
 keep:∀ b o,b≠x->h.get? b=some o->h'.get? b=some o
 obj:∃ t1,h'.get? x=some { cls := .ref C,dict:=some dx,data := .fields #[.ref t1, .none, .none, .none, .bool false, .none] }
 dbig:h.objs.size<=dx
 dne:dx≠x
 ns:h'.Ns1 dx (λy=>if y=p then some v else none)
theorem qNz:PName "word":=⟨by decide +kernel,by decide +kernel,by decide +kernel,by decide +kernel,by decide +kernel,λ_ _ _ _ _ _ _ _ _ _ _ _ _ _ _ _ _ _ _=>rfl⟩
theorem qMg:PName "index":=⟨by decide +kernel,by decide +kernel,by decide +kernel,by decide +kernel,by decide +kernel,λ_ _ _ _ _ _ _ _ _ _ _ _ _ _ _ _ _ _ _=>rfl⟩
theorem qAd8{o:Expr}{name:Str}{apos pos:Pos}{env:Env}{a:Expr}(h:(apos.endLine == pos.line)=true)(hs:starEach [a] env=[(false,eval a env)]) :
  eval (.Call (.Attribute o name apos) [a] [] pos) env=(do
   let ov ←attributeBase o name env (eval o env)
   standAt apos.atName
   let (f,first) ←holding [ov] (getMethod ov name (do return (<-importBound o env).getD true))
   callWith pos f first (backTo pos (starEach [a] env)) []):=by
 have e0:eval (.Call (.Attribute o name apos) [a] [] pos) env=(do
   let ov ←attributeBase o name env (eval o env)
   standAt apos.atName
   methodCall o name apos pos env ov 1 (backTo pos (starEach [a] env)) []):=rfl
 have e1:methodCallPos true o env apos pos=pure pos:=by
  unfold methodCallPos
  rw [h]
  rfl
 have e2:methodCallForm 1 (backTo pos (starEach [a] env)) []=true:=by rw [hs];rfl
 rw [e0]
 unfold methodCall
 rw [e2]
 simp only [e1,pure_bind]
 rfl
theorem qAac{prog:Program}{w:World}{A:Around}{E:Value->Shared->Prop}{s:Shared}{C u x t0:Addr}{nm q:Str}{N:Addr}{bs bm:List Value}{hdct:Bool}{sn:List Str}{sub:List Value}{ab:Bool}{col:Option Bool}{dd:Option Addr}{k0 k1 k2 k3 k5:Option Value}{Q:Value->Shared->Prop}
  (hC:s.heap.get? C=some (excClassObj nm q C N bs bm hdct sn sub ab col dd k0 k1 k2 k3 k5 "ValueError.__new__")) (hu:s.heap.get? u=some (kxs_mw "ValueError.__init__" x)) (hx:s.heap.get? x=some (excO C t0)) {rest:List Value} (hz:rest.length<=sizeLine)
  (h:∀ h' t1,(∀ b o,b≠x->s.heap.get? b=some o->h'.get? b=some o)->h'.get? x=some (excO C t1)->Q .none { s with heap:=h' }):wpAny (model prog w) A (call (.ref u) rest) Q E s:=by
 have f1:(Value.type "method-wrapper" == Value.type "method" || Value.type "method-wrapper" == Value.type "builtin_function_or_method" || Value.type "method-wrapper" == Value.type "method-wrapper")=true:=by decide
 obtain ⟨hh,g,d,tk,os⟩:=s
 refine wpAny_call (codeAny_of_tree ?_)
 show wpAny _ A.in1 (callAny (Value.ref u) ⟨rest,[]⟩) _ _ _
 unfold callAny
 refine wpAny_bind (wpAny_load hu ?_)
 dsimp only [kxs_mw]
 rw [if_pos f1]
 refine KFB.if_so (by decide) ?_
 refine wpAny_bind (check_bound_init F.excBase_ValueError.toExcCallFacts hC hx rfl ?_)
 refine wpAny_bind (wpAny_pure (wpAny_pure ⟨plainId_quiet F.excBase_ValueError.init.plain _,codeAny_builtin F.excBase_ValueError.initEntry ?_⟩))
 refine exc_init_tree (cls := .ref C) (t0:=t0) (dv:=none) (c2 := .none) (c3 := .none) (b4 := .bool false) hx hz ?_
 intro h' k e1 e2
 exact h h' _ k e1
section
variable {prog:Program} {w:World} {A:Around} {E:Value->Shared->Prop} {R:Result->Shared->Prop} {s:Shared} {K:Frag} {C fI:Addr} {p:Str}
theorem qAhh(T:SupC prog K C fI p)(hp:PName p){x t0:Addr}{v:Value}{mg mb:Str->Option Value}(X:K.In s.heap)(G:s.heap.Ns mainGlobals mg)(B:s.heap.Ns builtinsNs mb)(hB:∀ x:Str,x≠"__name__"->mb x=bootBuiltins x)
  (hlim:s.heap.NoLimit) (hx:s.heap.get? x=some (excO C t0)) (hnx:K.lookup x=none) (hroom:A.depth<recursionLimit)
  (hq:∀ h' tk dx,InitEnd s.heap h' x C dx p v->R (.ok (.ret .none)) { s with heap:=h',toks:=tk }) :
  codeAny (model prog w) A (.call (.ref fI) ⟨[.ref x,v],[]⟩) R s:=by
 obtain ⟨oc,od,osl,fd,a1,a2,q1,q2,q3,q4,q5,q6,q7,q8,q9,q10,cda,cc,ccl,cdd,vs,ccs,file,tf,cl,cld,csl,hf,hcd,hpar,ha1,ha2,hbody,hsc,hgl,hbt,hclo,hdf,hcode,hcda,hvs,hfile,hcell,hq35⟩:=T.fn
 obtain ⟨nm,q,N,bs,bm,sn,sub,ab,col,dd,k0,k1,k2,k3,k5,hC,hbm,hal⟩:=T.cls
 have hcl:clsIn K C=some { name:=nm,bases:=bs,mro := .ref C :: bm,ns:=N,qualname:=q,hasDict:=true,slotNames:=sn,subclasses:=sub,abstract:=ab,collection:=col,hasDel:=false }:=by unfold clsIn;rw [hC] <;> rfl
 obtain ⟨n1,n2,n3,n4,n5,n6,n7,n8,n9,n10,n11,n12,n13,n14,n15⟩:=fd
 obtain ⟨aa1,an1,ap1⟩:=a1
 obtain ⟨aa2,an2,ap2⟩:=a2
 dsimp only at hcd hpar ha1 ha2 hbody hsc hgl hbt hclo hdf hcode
 subst hpar ha1 ha2 hbody hsc hgl hbt hclo hdf hcode
 have e1:¬ aa2=("self":Str):=hp.n1
 have b1:(aa2 == ("self":Str))=false:=by simpa using e1
 have b2:(aa2 == ("__class__":Str))=false:=by simpa using hp.n2
 have b3:(aa2 == ("super":Str))=false:=by simpa using hp.n3
 have b4:(("self":Str) == aa2)=false:=by simpa using Ne.symm e1
 have b5:(("__class__":Str) == aa2)=false:=by simpa using Ne.symm hp.n2
 have b6:(("super":Str) == aa2)=false:=by simpa using Ne.symm hp.n3
 have ls:([(("self":Str),NameKind.local),(aa2,NameKind.local),(("__class__":Str),NameKind.free),(("super":Str),NameKind.globalImplicit)]:List (Str × NameKind)).lookup ("self":Str)=some .local:=by simp [List.lookup]
 have lp:([(("self":Str),NameKind.local),(aa2,NameKind.local),(("__class__":Str),NameKind.free),(("super":Str),NameKind.globalImplicit)]:List (Str × NameKind)).lookup aa2=some .local:=by simp [List.lookup,b1]
 have lc:([(("self":Str),NameKind.local),(aa2,NameKind.local),(("__class__":Str),NameKind.free),(("super":Str),NameKind.globalImplicit)]:List (Str × NameKind)).lookup ("__class__":Str)=some .free:=by
  simp [List.lookup,b5,show (("__class__":Str) == ("self":Str))=false by decide +kernel]
 have lu:([(("self":Str),NameKind.local),(aa2,NameKind.local),(("__class__":Str),NameKind.free),(("super":Str),NameKind.globalImplicit)]:List (Str × NameKind)).lookup ("super":Str)=some .globalImplicit:=by
  simp [List.lookup,b6,show (("super":Str) == ("self":Str))=false by decide +kernel,show (("super":Str) == ("__class__":Str))=false by decide +kernel]
 refine ks_codeAny_call_defAt (binds:=[(("self":Str), .ref x),(aa2,v)]) hroom (X _ _ hf) rfl hlim (codeRec_of X hcd) rfl (BindsTo.of_eq (hp.bnd _ _ _ _ _ _ _ _ _ _ _ _ _ _ _ _ _ _ _)) ?cell ?loc ?body rfl rfl rfl
 case cell=>simp
 case loc=>
  intro y hy
  rcases List.mem_cons.mp hy with rfl | hy
  ·exact ls
  ·rcases List.mem_cons.mp hy with rfl | hy
   ·exact lp
   ·cases hy
 case body=>
  intro h₁ hn k
  have X₁:K.In h₁:=X.keeps k
  have hx₁:=k _ _ hx
  have G₁:h₁.Ns mainGlobals mg:=G.keepsP k
  have B₁:h₁.Ns builtinsNs mb:=B.keepsP k
  have hm1:(λy=>([(("self":Str),Value.ref x),(aa2,v)]:List (Str × Value)).reverse.lookup y) ("self":Str)=some (.ref x):=by simp [List.lookup,b4]
  have hm2:(λy=>([(("self":Str),Value.ref x),(aa2,v)]:List (Str × Value)).reverse.lookup y) aa2=some v:=by simp [List.lookup]
  have hsup:mg "super"=none:=mg_none_of X G T.sup
  have hC1:=X₁ _ _ hC
  refine ks_wpAt_execs_cons (ks_wpAt_Expr_any ?_ rfl rfl)
  refine ks_wpAt_MethodCall ?_ (qAd8 hq35 rfl)
  refine ks_wpAt_super_base (env:=callEnv _ _ _) lu lc (by decide +kernel) rfl (X₁ _ _ hf) rfl rfl rfl (X₁ _ _ hcda) rfl hvs hfile T.top ?_
  refine ks_loadName_global rfl lu (loadGlobal_builtin (env:=callEnv _ _ _) G₁ hsup B₁ ((hB _ (by decide +kernel)).trans (by decide +kernel)) ⟨rfl, ?_⟩)
  refine wpAny_loadName_free rfl lc rfl ⟨_,X₁ _ _ hcell,rfl⟩ ?_
  refine wpAny_loadName_local rfl ls hn hm1 ?_
  refine ks_wpAny_isType_cls hC1 rfl ⟨rfl, ?_⟩
  refine ks_wpAny_call_super hC1 rfl hx₁ rfl (λc e=>by cases e) (looks_mroIn X₁ T.selfC) (λh₂ e₂ k₂ => ?_)
  have X₂:K.In h₂:=X₁.keeps k₂
  have hx₂:=k₂ _ _ hx₁
  have hC2:=X₂ _ _ hC
  have I₂:InstAt h₂ x (excO C t0) C none:=⟨hx₂,rfl,rfl,trivial⟩
  have hxC:x≠C:=λz=>by rw [z,hC2] at hx₂;cases hx₂
  have hI2:Looks (model prog w) h₂ (isInstance (.ref x) (.type "ValueError")) true:=I₂.type.andThen (looks_subIn X₂ T.veC)
  refine kxs_getMethod kxs_ValueError (l₀ := .ref C :: bm) (l:=bm) e₂ (looks_opaque X₂ T.opq) ((looks_clsIn X₂ hcl).andThen .now) (by simp [List.dropWhile_cons]) X₂ hal hI2 hxC (by decide +kernel) ?_
  dsimp only
  refine kxs_callWith (i:="ValueError.__init__") (x:=x) rfl (evalArgs_plain (spliced_cons ?_))
  have kw:∀ b o,h₂.get? b=some o->(h₂.push (kxs_mw "ValueError.__init__" x)).get? b=some o:=λb o e=>Heap.get?_push_of_some _ e
  have hn₂:(h₂.push (kxs_mw "ValueError.__init__" x)).Ns s.heap.objs.size (λy=>([(("self":Str),Value.ref x),(aa2,v)]:List (Str × Value)).reverse.lookup y):=(hn.keepsP k₂).keepsP kw
  refine wpAny_Name (wpAny_loadName_local rfl lp hn₂ hm2 ?_) hp.n4
  refine spliced_nil ⟨Heap.get?_push_at rfl rfl, ?_⟩
  refine qAac (x:=x) (t0:=t0) (kw _ _ hC2) (Heap.get?_push_at rfl rfl) (kw _ _ hx₂) (by rw [sizeLine_eq];exact (by decide:1<=16777216)) λh₃ t1 k₃ hx₃ => ?_
  have hsz:s.heap.objs.size≠x:=Nat.ne_of_gt (Heap.lt_size hx)
  have old:∀ b o,b≠x->h₁.get? b=some o->h₃.get? b=some o:=λb o hb e=>k₃ b o hb (kw b o (k₂ b o e))
  have X₃:K.In h₃:=λa o e=>old a o (λz=>by rw [z,hnx] at e;cases e) (X₁ _ _ e)
  have hn₃:h₃.Ns s.heap.objs.size (λy=>([(("self":Str),Value.ref x),(aa2,v)]:List (Str × Value)).reverse.lookup y):=by
   obtain ⟨o,es,ep,ho,r⟩:=hn
   exact ⟨o,es,ep,old _ _ hsz ho,r⟩
  refine ks_wpAt_execs_cons (ks_wpAt_Assign_Attr (wpAt_of_wpAny ?_) rfl)
  refine wpAny_Name (wpAny_loadName_local rfl lp hn₃ hm2 ?_) hp.n4
  refine wpAny_Name (wpAny_loadName_local rfl ls hn₃ hm1 ?_) (by decide +kernel)
  refine set_plain X₃ (ox:=excO C t1) (od:=none) ⟨hx₃,rfl,rfl,trivial⟩ T.sa ?_
  refine exc_osa X₃ hx₃ hcl (show refsVE (.ref C :: bm)=true from hbm) rfl T.no (λh₄ tk₄ dx k₄ dn dne hx₄ hn₄ => ?_)
  refine wpAt_of_wpAny (wpAny_execs_nil (hq h₄ tk₄ dx ⟨λb o hb e=>k₄ b o hb (old b o hb (k b o e)),⟨t1,hx₄⟩,Nat.le_of_lt (Zam hn₃.lt dn),dne,hn₄⟩))
structure OwnMade (h h':Heap) (e C d:Addr) (p:Str) (v:Value):Prop where
 keep:∀ b o,h.get? b=some o->h'.get? b=some o
 new:h.objs.size<=e
 obj:∃ oe vs,h'.get? e=some oe/\oe.cls = .ref C/\oe.dict=some d/\oe.data = .fields vs/\vs[1]?=some .none
 dbig:h.objs.size<=d
 dne:d≠e
 ns:h'.Ns1 d (λy=>if y=p then some v else none)
theorem qAf0(T:SupC prog K C fI p)(hp:PName p){v:Value}{mg mb:Str->Option Value}(X:K.In s.heap)(G:s.heap.Ns mainGlobals mg)(B:s.heap.Ns builtinsNs mb)(hB:∀ x:Str,x≠"__name__"->mb x=bootBuiltins x)
  (hlim:s.heap.NoLimit) (hroom:A.depth+1<recursionLimit)
  (hq:∀ h' tk e d,OwnMade s.heap h' e C d p v->R (.ok (.ret (.ref e))) { s with heap:=h',toks:=tk }) :
  codeAny (model prog w) A (.call (.ref C) ⟨[v],[]⟩) R s:=by
 obtain ⟨nm,q,N,bs,bm,sn,sub,ab,col,dd,k0,k1,k2,k3,k5,hC,hbm,_⟩:=T.cls
 obtain ⟨hp',g,dr,tk,os⟩:=s
 have k:∀ b o,hp'.get? b=some o->((hp'.push (kdv_tup [v])).push (excO C hp'.objs.size)).get? b=some o:=λb o e=>Heap.get?_push_of_some _ (Heap.get?_push_of_some _ e)
 have hget:((hp'.push (kdv_tup [v])).push (excO C hp'.objs.size)).get? (hp'.objs.size+1)=some (excO C hp'.objs.size):=by heap_get
 have hnx:K.lookup (hp'.objs.size+1)=none:=by
  cases e:K.lookup (hp'.objs.size+1) with
  | none=>rfl
  | some o=>exact absurd (Nat.lt_of_succ_lt (Heap.lt_size (show hp'.get? (hp'.objs.size+1)=some o from X _ _ e))) (Nat.lt_irrefl _)
 refine call_own F.excBase_ValueError (λX=>refsVE_contains X bm hbm) (X _ _ hC) (looks_findIn X T.ini) (λself=>bind_fn X self T.tfn) (by rw [sizeLine_eq];exact (by decide:1<=16777216)) ?_
 refine qAhh (s:=⟨(hp'.push (kdv_tup [v])).push (excO C hp'.objs.size),g,dr,tk,os⟩) T hp (X.keeps k) (G.keepsP k) (B.keepsP k) hB (hlim.keeps k) hget hnx ?_ λh' tk' dx ⟨k',⟨t1,hx⟩,dn,dne,hns⟩ => ?_
 ·show A.depth+1<recursionLimit
  exact hroom
 ·have old:∀ b o,hp'.get? b=some o->h'.get? b=some o:=λb o e=>k' b o (Nat.ne_of_lt (Nat.lt_succ_of_lt (Heap.lt_size e))) (k b o e)
  have z:hp'.objs.size+1+1<=dx:=by
   have q:=dn
   simp only [Heap.size_push] at q
   exact q
  exact ⟨rfl,hq h' tk' (hp'.objs.size+1) dx ⟨old,Nat.le_succ _,⟨_,_,hx,rfl,rfl,rfl,rfl⟩,(by show hp'.objs.size<=dx;omega),dne,hns⟩⟩
end
end MR
namespace MR
open PySem PySem.Spec PyProof.Rows L2
theorem qAg3{p:Str}{v:V}{v':Value}(r:RelV v v')(f:Str):RelO (List.lookup f [(p,v)]) (if f=p then some v' else none):=by
 by_cases hw:f=p
 ·subst hw
  rw [if_pos rfl]
  have q:List.lookup f [(f,v)]=some v:=by simp [List.lookup]
  rw [q]
  exact r
 ·rw [if_neg hw]
  have qw:(f == p)=false:=by simpa using hw
  have q2:List.lookup f [(p,v)]=none:=by simp [List.lookup,qw]
  rw [q2]
  trivial
section
variable {X:Cx} {C fI:Addr} {p:Str}
def tMkS(C:Addr)(p:Str)(ta:TA):L2.St->Hp->XK->Prop:=λσ H Q=>ta σ H λvs H1=>∃ v,vs=[v]/\∀ d,H1 d=none->Q (.ref C) (some d) (upd H1 d (.xd [(p,v)]))
theorem qAks{a:Expr}{ta:TA}{x:Str}{p1 pos:Pos}{k:Nat}(T:SupC X.prog X.K C fI p)(hp:PName p)(gC:X.mg x=some (.ref C))(hr:Room k X.A)(ha:PA X [a] ta)(hg:Gl X x:=by rfl)
  (hdb:(x == ("__debug__":Str))=false:=by decide)
  (he:starEach (a :: []) X.env=(false,eval a X.env) :: starEach [] X.env:=by rfl) (hpl:(backTo pos (starEach [] X.env)).any (·.1)=false:=by rfl) :
  PMk X (.Call (.Name x p1) [a] [] pos) (tMkS C p ta):=by
 intro pins s σ H Q I h
 refine wpAny_Call_Name_kw (ld_glob I hg gC ?_ hdb)
 refine PySem.W.callWith_K (h₀:=X.base) I.ok.mod.kin T.kC (thn (ha.run pos pins s σ H _ I h) λus s1 hh => ?_) he hpl
 obtain ⟨vs,H1,I1,r1,v,ev,q1⟩:=hh
 subst ev
 refine ⟨I1.kIn, ?_⟩
 cases r1 with
 | cons rv rn=>
  rename_i v' us'
  cases rn
  show wpAny _ _ (call (.ref C) [v']) _ _ _
  have hlim:=I1.nolimit
  have GG:s1.heap.Ns mainGlobals X.mg:=I1.ok.mod.glob.keepsP I1.bk
  obtain ⟨mb,BB,hB⟩:=I1.ok.mod.blt
  have BB1:s1.heap.Ns builtinsNs mb:=BB.keepsP I1.bk
  obtain ⟨hp',g,dr,tk,os⟩:=s1
  refine wpAny_call (qAf0 T hp I1.kIn GG BB1 hB hlim (by have:=hr.dp;omega) λh' tk' e d M => ?_)
  show MkP X pins σ Q (.ref e) ⟨h',g,dr,tk',os⟩
  obtain ⟨oe,fv,hoe,hc,hd,hdat,h1⟩:=M.obj
  have hns:=M.ns
  obtain ⟨G',g1,g2⟩:=restrict h' λb=>decide (b≠e)
  have gk:∀ b,b≠e->G'.get? b=h'.get? b:=λb hb=>g1 b (decide_eq_true hb)
  have ge:G'.get? e=none:=g2 e (by simp)
  have old:∀ b o,hp'.get? b=some o->G'.get? b=some o:=λb o q=>(gk b (Nat.ne_of_lt (Zam (Heap.lt_size q) M.new))).trans (M.keep b o q)
  have ob:ObjOk X.prog X.w (upd H1 d (.xd [(p,v)])) G' d (.xd [(p,v)]):=⟨_,hns.at (λo q=>(gk d M.dne).trans q),λf=>qAg3 rv f⟩
  have J:Inv X pins σ (upd H1 d (.xd [(p,v)])) ⟨G',g,dr,tk',os⟩:=I1.laid (t':=tk') old M.dbig ob
  refine ⟨e,oe,fv,⟨G',g,dr,tk',os⟩,_, .ref C,some d,rfl,J,λb o q => ?_,ge,hoe,⟨hc,hd⟩,hdat,h1, ?_,rfl,I1.bare,raises_own T.exC T.tyC,q1 d (I1.hok.fresh M.dbig)⟩
  ·by_cases hb:b=e
   ·have q':G'.get? b=some o:=q
    rw [hb,ge] at q';cases q'
   ·exact (gk b hb).symm.trans q
  ·rw [upd_ne (Ne.symm M.dne)]
   exact I1.hok.fresh M.new
def qE9(C:Addr)(p:Str)(W:WX)(ta:TA):TS:=λ_ σ H=>tMkS C p ta σ H λcls d H'=>W cls d σ H'
theorem qD7{a:Expr}{ta:TA}{W:WX}{x:Str}{p1 pos pos2:Pos}{k:Nat}(hc:X.calm=true)(T:SupC X.prog X.K C fI p)(hp:PName p)(gC:X.mg x=some (.ref C))(hr:Room k X.A)(tk:Takes X W)(ha:PA X [a] ta)(hg:Gl X x:=by rfl)
  (hdb:(x == ("__debug__":Str))=false:=by decide)
  (he:starEach (a :: []) X.env=(false,eval a X.env) :: starEach [] X.env:=by rfl) (hpl:(backTo pos (starEach [] X.env)).any (·.1)=false:=by rfl) :
  PS X (.Raise (some (.Call (.Name x p1) [a] [] pos)) none pos2) (qE9 C p W ta):=ps_raise hc tk (qAks T hp gC hr ha hg hdb he hpl)
end
abbrev CXX(P:Program)(w:World):CXT:=L2.CX P w
def qFj(P:Program)(w:World)(K:W.Frag)(mg:Str->Option Value)(base:Heap)(k:Nat)(x:Str)(dvs:List V)(sp:Sp):Prop:=
 ∃ (f:Addr) (fd:FuncData) (ps:List Str) (ds:List Value),mg x=some (.ref f)/\PySem.W.keepIn K (.ref f)=true/\FnOk P w K mg base (CXX P w) k f fd ps sp/\Binds K fd ps ds/\Vals dvs ds
def qIh(P:Program)(w:World)(K:W.Frag)(mg:Str->Option Value)(base:Heap)(k:Nat)(C:Addr)(m:Str)(dvs:List V)(sp:Sp):Prop:=
 ∃ (f:Addr) (fd:FuncData) (ps:List Str) (ds:List Value),Cls K C/\Meth K C m f/\FnOk P w K mg base (CXX P w) k f fd ps sp/\Binds K fd ps ds/\Vals dvs ds
def qAbd(P:Program)(w:World)(K:W.Frag)(mg:Str->Option Value)(base:Heap)(k:Nat)(x:Str)(C:Addr)(dvs:List V)(sp:Sp):Prop:=
 ∃ (f:Addr) (fd:FuncData) (ps:List Str) (ds:List Value),mg x=some (.ref C)/\Mk K C f/\FnOk P w K mg base (CXX P w) k f fd ps sp/\Binds K fd ps ds/\Vals dvs ds
section
variable {X:Cx} {k:Nat} {C:Addr} {sp:Sp} {dvs:List V} {E:XK} {x m:Str} {p pos apos:Pos} {e o:Expr} {es:List Expr} {ta:TE} {t:TA}
theorem qAj(D:qFj X.prog X.w X.K X.mg X.base k x dvs sp)(hr:Room k X.A)(hg:Gl X x)(hx:Passes (CXX X.prog X.w) X E)
  (ha:PA X (e :: es) t) (hdb:(x == ("__debug__":Str))=false:=by decide) (he:starEach (e :: es) X.env=(false,eval e X.env) :: starEach es X.env:=by rfl) (hpl:(backTo pos (starEach es X.env)).any (·.1)=false:=by rfl) :
  PE X (.Call (.Name x p) (e :: es) [] pos) (tCall sp dvs E t):=by
 obtain ⟨f,fd,ps,ds,h1,h2,h3,h4,h5⟩:=D
 exact pe_call h3 hr hg h1 h2 h4 h5 hx ha hdb he hpl
theorem qD9(D:qAbd X.prog X.w X.K X.mg X.base k x C dvs sp)(hr:Room (k+1) X.A)(hg:Gl X x)(hx:Passes (CXX X.prog X.w) X E)
  (ha:PA X (e :: es) t) (hdb:(x == ("__debug__":Str))=false:=by decide) (he:starEach (e :: es) X.env=(false,eval e X.env) :: starEach es X.env:=by rfl) (hpl:(backTo pos (starEach es X.env)).any (·.1)=false:=by rfl) :
  PE X (.Call (.Name x p) (e :: es) [] pos) (tMake C sp dvs E t):=by
 obtain ⟨f,fd,ps,ds,h1,h2,h3,h4,h5⟩:=D
 exact pe_make h2 h3 hr hg h1 h4 h5 hx ha hdb he hpl
theorem qAgx{pl:Sem Bool}(he:PE X o ta)(D:qIh X.prog X.w X.K X.mg X.base k C m dvs sp)(hr:Room k X.A)(hx:Passes (CXX X.prog X.w) X E)(ha:PA X (e :: es) t)
  (hst:starEach (e :: es) X.env=(false,eval e X.env) :: starEach es X.env:=by rfl) (hpl:(backTo pos (starEach es X.env)).any (·.1)=false:=by rfl)
  (ht:eval (.Call (.Attribute o m apos) (e :: es) [] pos) X.env=(do
   let ov ←eval o X.env
   standAt apos.atName
   let (f,first) ←holding [ov] (getMethod ov m pl)
   callWith pos f first (backTo pos (starEach (e :: es) X.env)) (backToKw pos (keywordEach [] X.env))):=by rfl) :
  PE X (.Call (.Attribute o m apos) (e :: es) [] pos) (tMeth C m sp dvs E ta t):=by
 obtain ⟨f,fd,ps,ds,h1,h2,h3,h4,h5⟩:=D
 exact pe_meth he h1 h2 h3 hr h4 h5 hx ha hst hpl ht
theorem qAch{E:L2.St->XK}(D:qFj X.prog X.w X.K X.mg X.base k x dvs sp)(hr:Room k X.A)(hg:Gl X x)(hx:∀ σ,PassesAt (CXX X.prog X.w) X σ (E σ))
  (ha:PA X (e :: es) t) (hdb:(x == ("__debug__":Str))=false:=by decide) (he:starEach (e :: es) X.env=(false,eval e X.env) :: starEach es X.env:=by rfl) (hpl:(backTo pos (starEach es X.env)).any (·.1)=false:=by rfl) :
  PE X (.Call (.Name x p) (e :: es) [] pos) (tCallSD sp dvs E t):=by
 obtain ⟨f,fd,ps,ds,h1,h2,h3,h4,h5⟩:=D
 exact pe_callSD h3 hr hg h1 h2 h4 h5 hx ha hdb he hpl
theorem qG8{W:WX}(tk:Takes X W)(hW:∀ cls d σ H,E cls d H->W cls d σ H):Passes (CXX X.prog X.w) X E:=passes_call tk hW
end
def Sml(_:Int):Prop:=True
instance {b:Int}:Decidable (Sml b) := .isTrue trivial
def qAgt(_ j:Int):Prop:=j≠0
theorem cdiv{i j:Int}(h:j≠0):qAgt i j:=h
abbrev qEc:R2:=rI0 λi j => .int (i+j)
abbrev qOa:R2:=rI0 λi j => .int (i - j)
abbrev qCg:R2:=rI IntMulOk λi j => .int (i*j)
abbrev qSk:R2:=rI qAgt λi j => .int (i.fdiv j)
abbrev qFn:R2:=rI (λ_ j=>j≠0) λi j => .int (i.fmod j)
abbrev qVo:R2:=rI CPow λi j => .int (i ^ j.toNat)
abbrev rLt0:R2:=rI0 λi j => .bl (decide (i<j))
abbrev rGt0:R2:=rI0 λi j => .bl (decide (j<i))
abbrev rGe0:R2:=rI0 λi j => .bl (decide (j<=i))
abbrev qApg:R2:=λx y H Q=>y = .non/\Q (.bl (decide (x = .non))) H
abbrev qAfd:R2:=λx y H Q=>y = .non/\Q (.bl (!decide (x = .non))) H
abbrev qM6:V->Hp->VK->Prop:=rU λi => .int (-i)
abbrev qAn9:List V->Hp->VK->Prop:=λxs H Q=>∃ i,xs=[.int i]/\Q (.int (if i<0 then -i else i)) H
abbrev qFm:List V->Hp->VK->Prop:=λxs H Q=>(∃ i,xs=[.int i]/\Q (.int i) H)\/∃ k,xs=[.bl k]/\Q (.int (if k then 1 else 0)) H
abbrev qMe(K:W.Frag):List V->Hp->VK->Prop:=λxs H Q=>∃ p ys,xs=[.ref p]/\(SqL K H p ys\/SqT K H p ys)/\∀ l,H l=none->Q (.ref l) (upd H l (.lst ys))
abbrev qFb(K:W.Frag):List V->Hp->VK->Prop:=λxs H Q=>∃ x n,xs=[x]/\LenV K x H n/\Q (.int n) H
abbrev qAen(K:W.Frag)(ta:TE):TT:=λσ H Q=>ta σ H λx H1=>∃ k,TruV K x H1 k/\Q k H1
theorem qAw{X:Cx}:OpR X (binaryOp .Mult) qCg:=opI λ_ _ _ _ _ _ _ hc q=>mul_int q hc
theorem qAju{i j:Int}{a b:Nat}(ha:i.natAbs<2 ^ a)(hb:j.natAbs<2 ^ b)(h0:0<a)(h1:0<b)(h:a+b<=1000000):IntMulOk i j:=(wide_mul ha hb h0 h1 h).ok
theorem qAgw{H:Hp}{p:Addr}{o:HO}(h:H p=none):Same H (upd H p o):=λb u e=>by
 rw [upd_ne (ne_of_none e h)]
 exact e
def Keep(f:Addr)(H H':Hp):Prop:=∀ b o,H b=some o->b≠f->H' b=some o
theorem Keep.refl(f:Addr)(H:Hp):Keep f H H:=λ_ _ h _=>h
theorem Keep.trans{f:Addr}{H H1 H2:Hp}(a:Keep f H H1)(b:Keep f H1 H2):Keep f H H2:=λc o h n=>b c o (a c o h n) n
theorem Same.keep{f:Addr}{H H1:Hp}(a:Same H H1):Keep f H H1:=λc o h _=>a c o h
theorem qX4{f:Addr}{H:Hp}{o:HO}:Keep f H (upd H f o):=λb u e n=>by rw [upd_ne n];exact e
end MR
namespace MR
theorem qXt{a b:Int}(hb:0<b):a.fdiv (a.gcd b:Int)=(Za4 a b).num:=by
 have hg:(a.gcd b:Int) ∣ a:=Int.gcd_dvd_left ..
 rw [Rat.num_divInt,Int.fdiv_eq_ediv_of_dvd hg,Int.sign_eq_one_of_pos hb,Int.one_mul,Int.gcd_comm]
theorem qYw{a b:Int}(hb:0<b):b.fdiv (a.gcd b:Int)=((Za4 a b).den:Int):=by
 have hg:(a.gcd b:Int) ∣ b:=Int.gcd_dvd_right ..
 have hn:b≠0:=by omega
 rw [Rat.den_divInt,if_neg hn,Int.fdiv_eq_ediv_of_dvd hg,Int.gcd_comm,Int.natCast_ediv]
 congr 1
 omega
theorem qAcr{a b:Int}(hb:b<0):a.fdiv (-(a.gcd b:Int))=(Za4 a b).num:=by
 have h:=qXt (a := -a) (b := -b) (by omega)
 rw [Rat.neg_divInt_neg,Int.gcd_neg,Int.neg_gcd] at h
 have e:=Int.neg_fdiv_neg (-a) (a.gcd b:Int)
 rw [Int.neg_neg] at e
 rw [e,h]
theorem qAe1{a b:Int}(hb:b<0):b.fdiv (-(a.gcd b:Int))=((Za4 a b).den:Int):=by
 have h:=qYw (a := -a) (b := -b) (by omega)
 rw [Rat.neg_divInt_neg,Int.gcd_neg,Int.neg_gcd] at h
 have e:=Int.neg_fdiv_neg (-b) (a.gcd b:Int)
 rw [Int.neg_neg] at e
 rw [e,h]
theorem qK7{a b:Int}(hb:b≠0):∃ m:Int,m≠0/\a=(Za4 a b).num*m/\b=((Za4 a b).den:Int)*m:=by
 obtain ⟨m,h1,h2,h3⟩:=Rat.divInt_num_den (n:=a) (d:=b) (n':=(Za4 a b).num) (d':=(Za4 a b).den) (z':=(Za4 a b).den_nz) (c:=(Za4 a b).reduced) hb rfl
 exact ⟨m,h1,h2,h3⟩
theorem qApo{a b:Int}(hb:b≠0):(Za4 a b).num.natAbs<=a.natAbs:=by
 obtain ⟨m,h1,h2,_⟩:=qK7 (a:=a) hb
 have e:a.natAbs=(Za4 a b).num.natAbs*m.natAbs:=by
  rw [<-Zao, ←h2]
 rw [e]
 exact Nat.le_mul_of_pos_right _ (by omega)
theorem qAnx{a b:Int}(hb:b≠0):(Za4 a b).den<=b.natAbs:=by
 obtain ⟨m,h1,_,h3⟩:=qK7 (a:=a) hb
 have e:b.natAbs=((Za4 a b).den:Int).natAbs*m.natAbs:=by
  rw [<-Zao, ←h3]
 rw [e,Int.natAbs_natCast]
 exact Nat.le_mul_of_pos_right _ (by omega)
end MR
namespace MR
open PySem PySem.Spec PyProof.Rows L2
def IntQ(K:W.Frag)(H:Hp)(x:V)(b:Bool):Prop:=∃ (t:Value) (b1:Bool),TyX K H x t/\PySem.W.kitOne K t (.type "int")=some b1/\(b1=false->b=false)/\(b1=true->∃ b2,PySem.W.kitOne K t (.type "bool")=some b2/\b = !b2)
theorem qY7{K:W.Frag}{H:Hp}{i:Int}:IntQ K H (.int i) true:=⟨_,true, .base (.int i),kit_ty (by decide +kernel),λz=>(by cases z),λ_=>⟨false,kit_ty (by decide +kernel),rfl⟩⟩
structure OwnC (K:W.Frag) (C:Addr):Prop where
 cl:Cls K C
 ha:PySem.W.findIn K (.ref C) "__class__"=some (some (.builtin "object.__class__"))
 hn:PySem.W.specialIn K (.builtin "object.__class__") "__get__"=some (some (.builtin "getset_descriptor.__get__"))
 ht:PySem.W.takesIn K (.builtin "object.__class__")=some true
 hm:PySem.W.mroIn K C (.type "object")=some true
 ki:PySem.W.kitOne K (.ref C) (.type "int")=some false
theorem OwnC.ty{K:W.Frag}{H:Hp}{C a dx:Addr}{fs:List (Str × V)}(T:OwnC K C)(h:H a=some (.ins C dx fs)):TyX K H (.ref a) (.ref C) := .base (.ins h T.cl T.ha T.hn T.ht T.hm)
def qEr(K:W.Frag):Sp:=λvs H Q _=>∃ (x:V) (b:Bool),vs=[x]/\IntQ K H x b/\Q (.bl b) H
def qLk(K:W.Frag):TS:=
 (tRet (tAndV (tCB (rIsi K) (tCons (tVar 0) (tCons (tC (.ty "int")) tNil))) (tNotV (tCB (rIsi K) (tCons (tVar 0) (tCons (tC (.ty "bool")) tNil))))))
theorem qNg{K:W.Frag}(vs:List V)(H:Hp)(Q:VK)(E:XK)(h:qEr K vs H Q E):qLk K { nx:=λ_ H'=>Q .non H',rt:=Q } (start ["value"] vs) H:=by
 obtain ⟨x,b,rfl,⟨t,b1,ty,k1,c1,c2⟩,q⟩:=h
 refine ⟨_,rfl,x,_,t,_,b1,rfl, .ty "int",ty,k1,b1,rfl, ?_⟩
 cases b1 with
 | false=>
  rw [c1 rfl] at q
  exact iteF q
 | true=>
  obtain ⟨b2,k2,rfl⟩:=c2 rfl
  exact iteT ⟨_,rfl,x,_,t,_,b2,rfl, .ty "bool",ty,k2,b2,rfl,q⟩
def qAg4:Sp:=λvs H Q _=>∃ a b:Int,vs=[.int a, .int b]/\Q (.int (a.gcd b:Nat)) H
def qJ2(K:W.Frag):TS:=
 (tSeq (tPar 0 1 (tCons (tCB qAn9 (tCons (tVar 0) tNil)) (tCons (tCB qAn9 (tCons (tVar 1) tNil)) tNil)))
 (tSeq (tWhile (tTest (tOp rGt0 (tVar 1) (tC (.int 0)))) (tPar 0 1 (tCons (tVar 1) (tCons (tOp qFn (tVar 0) (tVar 1)) tNil))))
 (tRet (tVar 0))))
theorem qAiu(i:Int):(if i<0 then -i else i)=(i.natAbs:Int):=by omega
theorem qLx{K:W.Frag}(vs:List V)(H:Hp)(Q:VK)(E:XK)(h:qAg4 vs H Q E):qJ2 K { nx:=λ_ H'=>Q .non H',rt:=Q } (start ["one","other"] vs) H:=by
 obtain ⟨a,b,rfl,q⟩:=h
 refine ⟨_,rfl,_,rfl,_,rfl,_,rfl,_,_,rfl, ?_⟩
 rw [qAiu,qAiu]
 refine while_by (λσ H'=>H'=H/\∃ x y:Nat,σ=[some (.int x),some (.int y)]/\x.gcd y=a.gcd b) (λσ _=>match σ with | [_,some (.int y)]=>y.toNat | _=>0) ⟨rfl,_,_,rfl,rfl⟩ ?_ ?_
 ·rintro σ H' ⟨rfl,x,y,rfl,hg⟩
  refine ⟨_,rfl,_,_,rfl,rfl,_,rfl, ?_⟩
  refine ite2 (λc => ?_) (λc => ?_)
  ·have hy:0<y:=by
    have:=of_decide_eq_true c
    omega
   refine ⟨_,rfl,_,rfl,_,rfl,_,_,rfl,rfl,(by omega),_,_,rfl,⟨rfl,y,x % y, ?_, ?_⟩, ?_⟩
   ·show [some (V.int y),some (V.int ((x:Int).fmod y))]=_
    rw [Int.fmod_eq_emod_of_nonneg _ (by omega)]
    rfl
   ·rw [<-hg,Nat.gcd_comm x y,Nat.gcd_rec y x,Nat.gcd_comm]
   ·show ((x:Int).fmod y).toNat<(y:Int).toNat
    rw [Int.fmod_eq_emod_of_nonneg _ (by omega)]
    have:=Nat.mod_lt x hy
    omega
  ·have hy:y=0:=by
    rw [decide_eq_true_eq] at c
    omega
   subst hy
   refine ⟨_,rfl, ?_⟩
   rw [Nat.gcd_zero_right] at hg
   rw [hg]
   exact q
 ·rintro σ H' Q1 Q2 hq ⟨v,e1,i,j,e2,e3,k,e4,h4⟩
  exact ⟨v,e1,i,j,e2,e3,k,e4,hq _ _ h4⟩
abbrev CR(K:W.Frag):Addr:=He.ga K "Ratio"
def ratF(q:Rat):List (Str × V):=[("top", .int q.num),("bottom", .int (q.den:Nat))]
def IsRat(K:W.Frag)(H:Hp)(p:Addr)(q:Rat):Prop:=∃ dx,H p=some (.ins (CR K) dx (ratF q))
theorem IsRat.same{K:W.Frag}{H H':Hp}{p:Addr}{q:Rat}(h:IsRat K H p q)(s:Same H H'):IsRat K H' p q:=let ⟨dx,e⟩:=h;⟨dx,s _ _ e⟩
theorem qAoo:¬ (("bottom":Str)="top"):=by decide +kernel
theorem qAg9(q:Rat):(ratF q).lookup ("top":Str)=some (.int q.num):=by simp [ratF,List.lookup]
theorem qAgb(q:Rat):(ratF q).lookup ("bottom":Str)=some (.int (q.den:Nat)):=by
 have h:(("bottom":Str) == ("top":Str))=false:=by decide +kernel
 simp [ratF,List.lookup,h]
structure RTxt (K:W.Frag):Prop where
 own:OwnC K (CR K)
 nT:NoAttr K (CR K) "top"
 nB:NoAttr K (CR K) "bottom"
def Err(K:W.Frag)(C p w:Str)(H:Hp)(E:XK):Prop:=∀ d:Addr,H d=none->E (.ref (He.ga K C)) (some d) (upd H d (.xd [(p, .str w)]))
def qC2(K:W.Frag):Sp:=λvs H Q E=>∃ (p dx:Addr) (x y:V) (bx:Bool),vs=[.ref p,x,y]/\H p=some (.ins (CR K) dx [])/\IntQ K H x bx/\(bx=false->Err K "NoRatio" "word" "top" H E)/\
 (bx=true->∃ bY,IntQ K H y bY/\(bY=false->Err K "NoRatio" "word" "bottom" H E)/\(bY=true->∃ a b:Int,x = .int a/\y = .int b/\(b=0->Err K "NoRatio" "word" "zero" H E)/\
  (b≠0->Sml b/\Q .non (upd H p (.ins (CR K) dx (ratF (Za4 a b)))))))
def qLl(K:W.Frag)(E:XK):TS:=
 (tSeq (tIfS (tNot (tB (tCall (qEr K) [] E0 (tCons (tVar 1) tNil)))) (qE9 (He.ga K "NoRatio") "word" (λcls d _ H=>E cls d H) (tCons (tC (.str "top")) tNil)) tNext)
 (tSeq (tIfS (tNot (tB (tCall (qEr K) [] E0 (tCons (tVar 2) tNil)))) (qE9 (He.ga K "NoRatio") "word" (λcls d _ H=>E cls d H) (tCons (tC (.str "bottom")) tNil)) tNext)
 (tSeq (tIfS (tTest (tOp rEq (tVar 2) (tC (.int 0)))) (qE9 (He.ga K "NoRatio") "word" (λcls d _ H=>E cls d H) (tCons (tC (.str "zero")) tNil)) tNext)
 (tSeq (tAsg (tCall qAg4 [] E0 (tCons (tVar 1) (tCons (tVar 2) tNil))) (gName 3))
 (tSeq (tIfS (tTest (tOp rLt0 (tVar 2) (tC (.int 0)))) (tAsg (tUn qM6 (tVar 3)) (gName 3)) tNext)
 (tSeq (sFld K (tVar 0) (tOp qSk (tVar 1) (tVar 3)) "top")
 (sFld K (tVar 0) (tOp qSk (tVar 2) (tVar 3)) "bottom")))))))
theorem qAb3{a b:Int}(hb:b≠0)(h:Sml b):a.gcd b≠0/\True:=by
 have h1:a.gcd b<=b.natAbs:=Nat.le_of_dvd (by omega) (Int.gcd_dvd_natAbs_right a b)
 have h2:a.gcd b≠0:=λe=>hb (Int.gcd_eq_zero_iff.mp e).2
 exact ⟨h2,trivial⟩
theorem qM7{K:W.Frag}(T:RTxt K)(vs:List V)(H:Hp)(Q:VK)(E:XK)(h:qC2 K vs H Q E):qLl K E { nx:=λ_ H'=>Q .non H',rt:=Q } (start ["self","top","bottom","divisor"] vs) H:=by
 obtain ⟨p,dx,x,y,bx,rfl,hp,ix,e1,k1⟩:=h
 refine ⟨_,rfl,x,bx,rfl,ix,_,rfl, ?_⟩
 cases bx with
 | false=>exact iteT ⟨_,rfl,e1 rfl⟩
 | true=>
  refine iteF ?_
  obtain ⟨bY,iy,e2,k2⟩:=k1 rfl
  refine ⟨_,rfl,y,bY,rfl,iy,_,rfl, ?_⟩
  cases bY with
  | false=>exact iteT ⟨_,rfl,e2 rfl⟩
  | true=>
   refine iteF ?_
   obtain ⟨a,b,rfl,rfl,e3,k3⟩:=k2 rfl
   refine ⟨_,rfl,rfl,_,rfl, ?_⟩
   refine ite2 (λc => ?_) (λc => ?_)
   ·have hb:b=0:=by
     have:=of_decide_eq_true c
     injection this
    exact ⟨_,rfl,e3 hb⟩
   ·have hb:b≠0:=λz=>c (by rw [z];exact decide_eq_true rfl)
    obtain ⟨hs,q⟩:=k3 hb
    obtain ⟨g0,g9⟩:=qAb3 (a:=a) hb hs
    refine ⟨_,rfl,_,rfl,a,b,rfl, ?_⟩
    refine ⟨_,rfl,_,_,rfl,rfl,_,rfl, ?_⟩
    have fin:∀ d:Int,d≠0->Sml d->a.fdiv d=(Za4 a b).num->b.fdiv d=((Za4 a b).den:Nat)->
      tSeq (sFld K (tVar 0) (tOp qSk (tVar 1) (tVar 3)) "top") (sFld K (tVar 0) (tOp qSk (tVar 2) (tVar 3)) "bottom") { nx:=λ_ H'=>Q .non H',rt:=Q } [some (.ref p),some (.int a),some (.int b),some (.int d)] H:=by
     intro d d0 d9 en ed
     refine ⟨_,rfl,_,rfl,_,_,rfl,rfl,cdiv d0,_,rfl,p,CR K,dx,[],rfl,hp,T.own.cl,T.nT,(by show 0<1000;decide), ?_⟩
     refine ⟨_,rfl,_,rfl,_,_,rfl,rfl,cdiv d0,_,rfl,p,CR K,dx,_,rfl,upd_same,T.own.cl,T.nB,(by show 1<1000;decide), ?_⟩
     rw [upd_upd]
     dsimp only
     rw [en,ed]
     have ef:putF "bottom" (V.int ((Za4 a b).den:Nat)) (putF "top" (V.int (Za4 a b).num) [])=ratF (Za4 a b):=by
      show (if ("top":Str)="bottom" then _ else _ :: putF "bottom" _ [])=_
      rw [if_neg (λz=>qAoo z.symm)]
      rfl
     rw [ef]
     exact q
    refine ite2 (λc => ?_) (λc => ?_)
    ·have hn:b<0:=of_decide_eq_true c
     refine ⟨_,rfl,_,rfl, ?_⟩
     exact fin (-(a.gcd b:Int)) (by omega) trivial (qAcr hn) (qAe1 hn)
    ·have hn:0<b:=by
      rw [decide_eq_true_eq] at c
      omega
     exact fin (a.gcd b:Int) (by omega) trivial (qXt hn) (qYw hn)
theorem qAnr{K:W.Frag}{H:Hp}{R:Hp->Prop}{E:XK}{a b:Int}{x dx:Addr}(nx:H x=none)(nd:H dx=none)(hb:b≠0)(hs:Sml b)(k:∀ H',Same H H'->IsRat K H' x (Za4 a b)->R H') :
  qC2 K [.ref x, .int a, .int b] (upd (upd H dx (.own x)) x (.ins (CR K) dx [])) (λv H2=>v = .non/\R H2) E:=by
 refine ⟨x,dx,_,_,true,rfl,upd_same,qY7,λz=>(by cases z),λ_=>⟨true,qY7,λz=>(by cases z),λ_=>⟨a,b,rfl,rfl,λz=>absurd z hb,λ_=>⟨hs,rfl, ?_⟩⟩⟩⟩
 rw [upd_upd]
 refine k _ (λc o e => ?_) ⟨dx,upd_same⟩
 rw [upd_ne (ne_of_none e nx),upd_ne (ne_of_none e nd)]
 exact e
theorem qAhj{K:W.Frag}{H H':Hp}{x:V}{t:Value}(s:Same H H')(h:TyX K H x t):TyX K H' x t:=by
 cases h with
 | base h=>
  refine .base ?_
  cases h with
  | non=>exact .non
  | bl x=>exact .bl x
  | int i=>exact .int i
  | str x=>exact .str x
  | flt x=>exact .flt x
  | lst e=>exact .lst (s _ _ e)
  | frz e=>exact .frz (s _ _ e)
  | tup e=>exact .tup (s _ _ e)
  | dK e=>exact .dK (s _ _ e)
  | dT e=>exact .dT (s _ _ e)
  | ins e cl ha hn htk hm=>exact .ins (s _ _ e) cl ha hn htk hm
 | byt b=>exact .byt b
 | set e=>exact .set (s _ _ e)
 | kList e c=>exact .kList e c
 | kTuple e c=>exact .kTuple e c
 | kDict e c=>exact .kDict e c
 | fTuple e=>exact .fTuple (s _ _ e)
 | fDict e=>exact .fDict (s _ _ e)
theorem IntQ.same{K:W.Frag}{H H':Hp}{x:V}{b:Bool}(h:IntQ K H x b)(s:Same H H'):IntQ K H' x b:=let ⟨t,b1,h1,h2⟩:=h;⟨t,b1,qAhj s h1,h2⟩
theorem qAgi{K:W.Frag}{H H':Hp}{f:Addr}{x:V}{t:Value}(s:Keep f H H')(n:x ≠ .ref f)(h:TyX K H x t):TyX K H' x t:=by
 have nn:∀ {a:Addr},V.ref a ≠ .ref f->a≠f:=λh e=>h (by rw [e])
 cases h with
 | base h=>
  refine .base ?_
  cases h with
  | non=>exact .non
  | bl x=>exact .bl x
  | int i=>exact .int i
  | str x=>exact .str x
  | flt x=>exact .flt x
  | lst e=>exact .lst (s _ _ e (nn n))
  | frz e=>exact .frz (s _ _ e (nn n))
  | tup e=>exact .tup (s _ _ e (nn n))
  | dK e=>exact .dK (s _ _ e (nn n))
  | dT e=>exact .dT (s _ _ e (nn n))
  | ins e cl ha hn htk hm=>exact .ins (s _ _ e (nn n)) cl ha hn htk hm
 | byt b=>exact .byt b
 | set e=>exact .set (s _ _ e (nn n))
 | kList e c=>exact .kList e c
 | kTuple e c=>exact .kTuple e c
 | kDict e c=>exact .kDict e c
 | fTuple e=>exact .fTuple (s _ _ e (nn n))
 | fDict e=>exact .fDict (s _ _ e (nn n))
theorem IntQ.keep{K:W.Frag}{H H':Hp}{f:Addr}{x:V}{b:Bool}(h:IntQ K H x b)(s:Keep f H H')(n:x ≠ .ref f):IntQ K H' x b:=let ⟨t,b1,h1,h2⟩:=h;⟨t,b1,qAgi s n h1,h2⟩
end MR
namespace MR
open PySem PySem.Spec PyProof.Rows L2 He
abbrev Fct:Type:=W.Frag->Bool
abbrev AlM:Type:=Bool × List FnW
def obsM(bs:List Fct)(fn:List DefD)(K:W.Frag):AlM:=((bs.all λf=>f K) && fn.all λd=>d.ok K,fn.map λd=>fnW K d.at_)
def valM(fn:List DefD):AlM:=(true,fn.map DefD.val)
def SaysM(bs:List Fct)(fn:List DefD)(K:W.Frag):Prop:=obsM bs fn K=valM fn
section
variable {bs:List Fct} {fn:List DefD} {K:W.Frag}
theorem SaysM.one(c:SaysM bs fn K):(bs.all λf=>f K)=true/\(fn.all λd=>d.ok K)=true:=ba (congrArg (λz:AlM=>z.1) c)
theorem SaysM.fact(c:SaysM bs fn K)(i:Nat){f:Fct}(h:bs[i]?=some f:=by rfl):f K=true:=List.all_eq_true.mp c.one.1 f (List.mem_of_getElem? h)
theorem SaysM.def_(c:SaysM bs fn K)(i:Nat){d:DefD}(h:fn[i]?=some d:=by rfl):∃ fd,FunD K d.name d.qual d.params d.body d.scope (d.dvs K) (d.kws K) (fAd K d.at_) fd:=by
 have e2:(fn.map λd=>fnW K d.at_)[i]?=(fn.map DefD.val)[i]?:=congrArg (λz:AlM=>z.2[i]?) c
 rw [Zae,Zae,h] at e2
 exact DefD.funD (Option.some.inj e2) (List.all_eq_true.mp c.one.2 d (List.mem_of_getElem? h))
end
def qOg{α:Type}[DecidableEq α](a:Option α)(b:α):Bool:=decide (a=some b)
theorem qCi{α:Type}[DecidableEq α]{a:Option α}{b:α}(h:qOg a b=true):a=some b:=of_decide_eq_true h
def own(x:Str):W.Frag->Value:=λK => .ref (ga K x)
def ownF(x:Str):Fct:=λK=>(Fa.cls x).ok K && (eqO (PySem.W.findIn K (.ref (ga K x)) "__class__") (some (some (.builtin "object.__class__"))) && (eqO (PySem.W.specialIn K (.builtin "object.__class__") "__get__") (some (some (.builtin "getset_descriptor.__get__"))) &&
 (qOg (PySem.W.takesIn K (.builtin "object.__class__")) true && (qOg (PySem.W.mroIn K (ga K x) (.type "object")) true && qOg (PySem.W.kitOne K (.ref (ga K x)) (.type "int")) false))))
theorem qAc0{K:W.Frag}{x:Str}(h:ownF x K=true):OwnC K (ga K x):=by
 obtain ⟨h1,h⟩:=ba h
 obtain ⟨h2,h⟩:=ba h
 obtain ⟨h3,h⟩:=ba h
 obtain ⟨h4,h⟩:=ba h
 obtain ⟨h5,h6⟩:=ba h
 exact ⟨cls_ok h1,eqO_ok h2,eqO_ok h3,qCi h4,qCi h5,qCi h6⟩
def excF(x:Str):Fct:=λK=>eqO (PySem.W.findIn K (.ref (ga K x)) "__getattribute__") (some (some (.builtin "BaseException.__getattribute__"))) && (eqO (PySem.W.findIn K (.ref (ga K x)) "__getattr__") (some none) && (qOg (PySem.W.subIn K (.ref (ga K x)) (.type "BaseException")) true && (PySem.W.hasDictIn K (ga K x) &&
 (eqO (PySem.W.findIn K (.ref (ga K x)) "__class__") (some (some (.builtin "object.__class__"))) && (eqO (PySem.W.specialIn K (.builtin "object.__class__") "__get__") (some (some (.builtin "getset_descriptor.__get__"))) && (qOg (PySem.W.takesIn K (.builtin "object.__class__")) true && qOg (PySem.W.mroIn K (ga K x) (.type "object")) true))))))
theorem qAlr{K:W.Frag}{x:Str}(h:excF x K=true):ExcC K (ga K x):=by
 obtain ⟨h1,h⟩:=ba h
 obtain ⟨h2,h⟩:=ba h
 obtain ⟨h3,h⟩:=ba h
 obtain ⟨h4,h⟩:=ba h
 obtain ⟨h5,h⟩:=ba h
 obtain ⟨h6,h⟩:=ba h
 obtain ⟨h7,h8⟩:=ba h
 exact ⟨eqO_ok h1,eqO_ok h2,qCi h3,h4,eqO_ok h5,eqO_ok h6,qCi h7,qCi h8⟩
def qAlp(p:Str):FuncBody->Bool
 | .stmts [.Expr (.Call (.Attribute (.Call (.Name s _) [] [] _) i q3) [.Name a _] [] q5) _, .Assign [.Attribute (.Name sf _) b _] (.Name c _) _]=>
  decide (s="super") && (decide (i="__init__") && (decide (a=p) && (decide (sf="self") && (decide (b=p) && (decide (c=p) && (q3.endLine == q5.line))))))
 | _=>false
theorem qAg7{p:Str}{b:FuncBody}(h:qAlp p b=true):∃ q1 q2 q3 q4 q5 q6 q7 q8 q9 q10:Pos,b = .stmts [.Expr (.Call (.Attribute (.Call (.Name "super" q1) [] [] q2) "__init__" q3) [.Name p q4] [] q5) q6, .Assign [.Attribute (.Name "self" q7) p q8] (.Name p q9) q10]/\(q3.endLine == q5.line)=true:=by
 unfold qAlp at h
 split at h
 ·obtain ⟨h1,h⟩:=ba h
  obtain ⟨h2,h⟩:=ba h
  obtain ⟨h3,h⟩:=ba h
  obtain ⟨h4,h⟩:=ba h
  obtain ⟨h5,h⟩:=ba h
  obtain ⟨h6,h7⟩:=ba h
  have e1:=of_decide_eq_true h1
  have e2:=of_decide_eq_true h2
  have e3:=of_decide_eq_true h3
  have e4:=of_decide_eq_true h4
  have e5:=of_decide_eq_true h5
  have e6:=of_decide_eq_true h6
  subst e1 e2 e4
  rw [e3,e5,e6]
  exact ⟨_,_,_,_,_,_,_,_,_,_,rfl,h7⟩
 ·cases h
def parB(p:Str):Arguments->Bool
 | ⟨[],[a1,a2],none,[],[],none,[]⟩=>decide (a1.arg="self") && decide (a2.arg=p)
 | _=>false
theorem qAkx{p:Str}{a:Arguments}(h:parB p a=true):∃ a1 a2:Arg,a = { posonlyargs:=[],args:=[a1,a2],vararg:=none,kwonlyargs:=[],kw_defaults:=[],kwarg:=none,defaults:=[] }/\a1.arg="self"/\a2.arg=p:=by
 unfold parB at h
 split at h
 ·obtain ⟨h1,h2⟩:=ba h
  exact ⟨_,_,rfl,of_decide_eq_true h1,of_decide_eq_true h2⟩
 ·cases h
def scB(p:Str):Scope->Bool
 | ⟨.function,[(x1, .local),(x2, .local),(x3, .free),(x4, .globalImplicit)],false,false,[]⟩=>decide (x1="self") && (decide (x2=p) && (decide (x3="__class__") && decide (x4="super")))
 | _=>false
theorem qAni{p:Str}{s:Scope}(h:scB p s=true):s = { kind := .function,names:=[("self", .local),(p, .local),("__class__", .free),("super", .globalImplicit)],isGenerator:=false,isCoroutine:=false,more:=[] }:=by
 unfold scB at h
 split at h
 ·obtain ⟨h1,h⟩:=ba h
  obtain ⟨h2,h⟩:=ba h
  obtain ⟨h3,h4⟩:=ba h
  rw [of_decide_eq_true h1,of_decide_eq_true h2,of_decide_eq_true h3,of_decide_eq_true h4]
 ·cases h
def qAmt(prog:Program)(p:Str)(K:W.Frag)(C f:Addr):Bool:=match K.lookup f with
 | some ⟨_,_, .func fd,_⟩=>PySem.W.codeIn K fd.code fd.qualname && (parB p fd.params && (qAlp p fd.body && (scB p fd.scope && (decide (fd.globals=mainGlobals) && (decide (fd.builtins=builtinsNs) && (decide (fd.defaults = .none) && (match fd.closure,fd.code with
  | [(n,cc)], .ref cda=>decide (n="__class__") && ((match K.lookup cda with
   | some ⟨_,_, .fields vs,_⟩=>(match (vs[2]?:Option Value) with
    | some (.str file _)=>(prog.main.file:Str) == file
    | _=>false)
   | _=>false) && (match K.lookup cc with
   | some ⟨_,_, .cell (some (.ref D)),_⟩=>decide (D=C)
   | _=>false))
  | _,_=>false)))))))
 | _=>false
theorem qAht{prog:Program}{p:Str}{K:W.Frag}{C f:Addr}(h:qAmt prog p K C f=true) :
  ∃ (oc:Value) (od:Option Addr) (osl:Array (Option Value)) (fd:FuncData) (a1 a2:Arg) (q1 q2 q3 q4 q5 q6 q7 q8 q9 q10:Pos) (cda cc:Addr) (ccl:Value) (cdd:Option Addr) (vs:Array Value) (ccs:Array (Option Value)) (file:Str) (tf:Tok) (cl:Value) (cld:Option Addr) (csl:Array (Option Value)),
  K.lookup f=some ⟨oc,od, .func fd,osl⟩/\PySem.W.codeIn K fd.code fd.qualname=true/\
  fd.params = { posonlyargs:=[],args:=[a1,a2],vararg:=none,kwonlyargs:=[],kw_defaults:=[],kwarg:=none,defaults:=[] }/\a1.arg="self"/\a2.arg=p/\
  fd.body = .stmts [.Expr (.Call (.Attribute (.Call (.Name "super" q1) [] [] q2) "__init__" q3) [.Name p q4] [] q5) q6, .Assign [.Attribute (.Name "self" q7) p q8] (.Name p q9) q10]/\
  fd.scope = { kind := .function,names:=[("self", .local),(p, .local),("__class__", .free),("super", .globalImplicit)],isGenerator:=false,isCoroutine:=false,more:=[] }/\
  fd.globals=mainGlobals/\fd.builtins=builtinsNs/\fd.closure=[(("__class__":Str),cc)]/\fd.defaults = .none/\fd.code = .ref cda/\
  K.lookup cda=some ⟨ccl,cdd, .fields vs,ccs⟩/\vs[2]?=some (.str file tf)/\((prog.main.file:Str) == file)=true/\
  K.lookup cc=some ⟨cl,cld, .cell (some (.ref C)),csl⟩/\(q3.endLine == q5.line)=true:=by
 unfold qAmt at h
 split at h
 ·rename_i oc od fd osl hf
  obtain ⟨h1,h⟩:=ba h
  obtain ⟨h2,h⟩:=ba h
  obtain ⟨h3,h⟩:=ba h
  obtain ⟨h4,h⟩:=ba h
  obtain ⟨h5,h⟩:=ba h
  obtain ⟨h6,h⟩:=ba h
  obtain ⟨h7,h⟩:=ba h
  obtain ⟨a1,a2,e2,e2a,e2b⟩:=qAkx h2
  obtain ⟨q1,q2,q3,q4,q5,q6,q7,q8,q9,q10,e3,e3b⟩:=qAg7 h3
  split at h
  ·rename_i n cc cda hclo hcode
   obtain ⟨h8,h⟩:=ba h
   obtain ⟨h9,h10⟩:=ba h
   have e8:=of_decide_eq_true h8
   subst e8
   split at h9
   ·rename_i ccl cdd vs ccs hcda
    split at h9
    ·rename_i file tf hvs
     split at h10
     ·rename_i cl cld D csl hcell
      have e10:=of_decide_eq_true h10
      subst e10
      exact ⟨oc,od,osl,fd,a1,a2,q1,q2,q3,q4,q5,q6,q7,q8,q9,q10,cda,cc,ccl,cdd,vs,ccs,file,tf,cl,cld,csl,hf,h1,e2,e2a,e2b,e3,qAni h4,of_decide_eq_true h5,of_decide_eq_true h6,hclo,of_decide_eq_true h7,hcode,hcda,hvs,h9,hcell,e3b⟩
     ·cases h10
    ·cases h9
   ·cases h9
  ·cases h
 ·cases h
def qAa8(K:W.Frag)(C:Addr):Bool:=match K.lookup C with
 | some ⟨.type t,_, .cls cd,sl⟩=>decide (t="type") && (match cd.mro,sl.toList with
  | .ref D :: bm,[_,_,_,_,some (.builtin n),_]=>decide (D=C) && (decide (n="ValueError.__new__") && (!cd.hasDel && (cd.hasDict && (HandSPX.refsVE bm && eqO (PySem.W.alongIn K "__init__" bm) (some (some (.builtin "ValueError.__init__")))))))
  | _,_=>false)
 | _=>false
theorem qAe4{K:W.Frag}{C:Addr}(h:qAa8 K C=true):∃ nm q N bs bm sn sub ab col dd k0 k1 k2 k3 k5,K.lookup C=some (excClassObj nm q C N bs bm true sn sub ab col dd k0 k1 k2 k3 k5 "ValueError.__new__")/\HandSPX.refsVE bm=true/\
  PySem.W.alongIn K "__init__" bm=some (some (.builtin "ValueError.__init__")):=by
 unfold qAa8 at h
 split at h
 ·rename_i t dd cd sl ho
  obtain ⟨h0,hh⟩:=ba h
  clear h
  have e0:=of_decide_eq_true h0
  subst e0
  split at hh
  ·rename_i D bm k0 k1 k2 k3 n k5 hm hs
   obtain ⟨h1,h⟩:=ba hh
   obtain ⟨h2,h⟩:=ba h
   obtain ⟨h3,h⟩:=ba h
   obtain ⟨h4,h⟩:=ba h
   obtain ⟨h5,h6⟩:=ba h
   have e1:=of_decide_eq_true h1
   have e2:=of_decide_eq_true h2
   subst e1 e2
   obtain ⟨nm,bs,mro,ns,qn,hd,sn,sb,ab,col,del⟩:=cd
   dsimp only at hm h3 h4
   subst hm h4
   have e3:del=false:=by simpa using h3
   subst e3
   refine ⟨nm,qn,ns,bs,bm,sn,sb,ab,col,dd,k0,k1,k2,k3,k5, ?_,h5,eqO_ok h6⟩
   rw [ho]
   have e:sl = #[k0,k1,k2,k3,some (.builtin "ValueError.__new__"),k5]:=by
    rw [<-Array.toArray_toList (xs:=sl),hs]
   rw [e]
  ·cases hh
 ·cases h
def supF(prog:Program)(x p:Str):Fct:=λK=>qAa8 K (ga K x) && (qAmt prog p K (ga K x) (ma K (ga K x) "__init__") && (eqO (PySem.W.findIn K (.ref (ga K x)) "__setattr__") (some (some (.builtin "object.__setattr__"))) && (eqO (PySem.W.findIn K (.ref (ga K x)) p) (some none) &&
 (eqO (PySem.W.findIn K (.ref (ga K x)) "__init__") (some (some (.ref (ma K (ga K x) "__init__")))) && (qOg (PySem.W.typeIn K (.ref (ma K (ga K x) "__init__"))) (.type "function") && (PySem.W.keepIn K (.ref (ga K x)) && (qOg (PySem.W.subIn K (.ref (ga K x)) (.type "BaseException")) true &&
 (qOg (PySem.W.subIn K (.ref (ga K x)) (.type "ValueError")) true && (qOg (PySem.W.typeIn K (.ref (ga K x))) (.type "type") && (qOg (PySem.W.mroIn K (ga K x) (.ref (ga K x))) true && (eqO (PySem.W.nsIn K cStatics "thirdparty.any") (some none) && (eqO (PySem.W.nsIn K mainGlobals "super") (some none) &&
 !(prog.main.scope.names.lookup ("super":Str)).isSome))))))))))))
theorem qUw{prog:Program}{K:W.Frag}{x p:Str}(h:supF prog x p K=true):SupC prog K (ga K x) (ma K (ga K x) "__init__") p:=by
 obtain ⟨h1,h⟩:=ba h
 obtain ⟨h2,h⟩:=ba h
 obtain ⟨h3,h⟩:=ba h
 obtain ⟨h4,h⟩:=ba h
 obtain ⟨h5,h⟩:=ba h
 obtain ⟨h6,h⟩:=ba h
 obtain ⟨h7,h⟩:=ba h
 obtain ⟨h8,h⟩:=ba h
 obtain ⟨h9,h⟩:=ba h
 obtain ⟨h10,h⟩:=ba h
 obtain ⟨h11,h⟩:=ba h
 obtain ⟨h12,h⟩:=ba h
 obtain ⟨h13,h14⟩:=ba h
 exact ⟨qAe4 h1,eqO_ok h3,eqO_ok h4,eqO_ok h5,qCi h6,h7,qCi h8,qCi h9,qCi h10,qCi h11,eqO_ok h12,eqO_ok h13,by simpa using h14,qAht h2⟩
theorem qAhm{K:W.Frag}{x q:Str}{p:Arguments}{b:List Stmt}{sc:Scope}{dvs:List V}{kws:List (Str × V)}{f:Addr}{fd fd':FuncData}(F:FunD K x q p b sc dvs kws f fd)(F':FunD K x q p b sc dvs kws f fd'):fd=fd':=by
 obtain ⟨_,_,_,_,_,_,_,_,_,_,_,h,_⟩:=F.ex
 obtain ⟨_,_,_,_,_,_,_,_,_,_,_,h',_⟩:=F'.ex
 have e:=h.symm.trans h'
 simp only [Option.some.injEq,Obj.mk.injEq,Data.func.injEq] at e
 exact e.2.2.1
end MR
namespace MR
open PySem PySem.Spec PyProof.Rows PySem.W
structure IntDecl (name:Str) (id:String) (B:Builtin):Prop where
 slot:Slot "int" name id
 entry:entryFor table id=some B
 args:∀ a b,argsOk id ⟨[a,b],[]⟩
 dec:∀ (prog:Program) (w:World) (A:Around) (E:Value->Shared->Prop) (s:Shared) (a:Int) (t:Tok) (x C dx:Addr) (P:Fin->Shared->Prop),s.heap.get? x=some (instObj C dx)->P (.done (.ret .notImplemented)) s->wpAny (model prog w) A (B ⟨[.int a t, .ref x],[]⟩) P E s
theorem IntDecl.call{name:Str}{id:String}{B:Builtin}(D:IntDecl name id B){prog:Program}{w:World}{A:Around}{E:Value->Shared->Prop}{s:Shared}{a:Int}{t:Tok}{x C dx:Addr}{Q:Value->Shared->Prop}(hx:s.heap.get? x=some (instObj C dx))(h:Q .notImplemented s) :
  wpAny (model prog w) A (PySem.call (.builtin id) [.int a t, .ref x]) Q E s:=
 wpAny_call_entry D.slot (typeIs_int s a t) D.entry (D.dec prog w _ _ s a t x C dx _ hx ⟨_,rfl,h⟩) (D.args _ _)
end MR
namespace MR
open PySem PySem.Spec PyProof.Rows L2
structure OpC (K:W.Frag) (C:Addr) (nm:String):Prop where
 sf:PySem.W.selfFirst K C=true
 sub:PySem.W.subIn K (.type "int") (.ref C)=some false
 subR:PySem.W.subIn K (.ref C) (.type "int")=some false
 fo:∃ fo ro rc,PySem.W.findIn K (.type "int") (PySem.dunder nm)=some fo/\PySem.W.findIn K (.type "int") (dunderR nm)=some ro/\PySem.W.findIn K (.ref C) (dunderR nm)=some rc/\(rc=none\/∃ g:Addr,rc=some (.ref g))
theorem qNb{X:Cx}{pins:List (Addr × Obj)}{σ:L2.St}{H:Hp}{s:Shared}{p C dx:Addr}{fs:List (Str × V)}(I:Inv X pins σ H s)(e:H p=some (.ins C dx fs)):∃ od,PySem.W.InstAt s.heap p (PySem.W.instObj C dx) C (some od):=by
 obtain ⟨mA,O,_⟩:=ins_get I.hok e
 obtain ⟨od,h,_⟩:=O.look
 exact ⟨od,h⟩
theorem qAck{X:Cx}{pins:List (Addr × Obj)}{σ:L2.St}{Q:VK}{v:Value}{s:Shared}(h:EP X pins σ Q v s):PySem.W.CmpBack (EP X pins σ Q) v s:=by
 obtain ⟨x,H,I,r,q⟩:=h
 cases v with
 | notImplemented=>
  cases x <;> first | exact nomatch (show Value.notImplemented=_ from r) | (obtain ⟨_,e⟩:=r;cases e) | cases r
 | _=>exact ⟨x,H,I,r,q⟩
section
variable {X:Cx} {k:Nat} {C:Addr} {sp:Sp} {E:XK}
def rOwn(C:Addr)(sp:Sp)(E:XK):R2:=λx y H Q=>∃ p dx fs,x = .ref p/\H p=some (.ins C dx fs)/\((∃ n,y = .int n)\/∃ q dy gs,y = .ref q/\H q=some (.ins C dy gs))/\sp [x,y] H Q E
theorem qAbc{op:Operator}(nm:String)(D:qIh X.prog X.w X.K X.mg X.base k C (PySem.dunder nm) [] sp)(O:OpC X.K C nm)(hr:Room k X.A)(hx:Passes (CXX X.prog X.w) X E)(hi:op.info.2=nm:=by rfl):OpR X (binaryOp op) (rOwn C sp E):=by
 subst hi
 obtain ⟨f,fd,ps,ds,h1,h2,h3,h4,h5⟩:=D
 intro pins s σ H x y v u Q I rx ry h
 obtain ⟨p,dx,fs,rfl,e,hy,q⟩:=h
 cases rx
 cases h5
 obtain ⟨od,J⟩:=qNb I e
 obtain ⟨m,Fm⟩:=I.fr
 have run:wpAny (model X.prog X.w) X.A (call (.ref f) [.ref p,u]) (PySem.W.CmpBack (EP X pins σ Q)) X.xe s:=
  thn (run_fn (us:=[.ref p,u]) (vs:=[.ref p,y]) h3 hr h4 .nil hx I (.cons rfl (.cons ry .nil)) q) λ_ _ z=>qAck z
 rcases hy with ⟨n,rfl⟩ | ⟨r,dy,gs,rfl,ey⟩
 ·obtain ⟨t,rfl⟩:=ry
  obtain ⟨fo,ro,rc,g1,g2,g3,g4⟩:=O.fo
  exact PySem.W.ksp_binT Fm I.mod.kin J (T:="int") rfl O.sf h2.at_ h2.fn g3 g4 g1 g2 O.sub run
 ·cases ry
  obtain ⟨od2,J2⟩:=qNb I ey
  exact PySem.W.binop_K Fm I.mod.kin J J2.type O.sf h2.at_ h2.fn run
theorem qAlc{op:CmpOp}(D:qIh X.prog X.w X.K X.mg X.base k C (cmpInfo op).2.1 [] sp)(O:OpC X.K C "add")(hr:Room k X.A)(hx:Passes (CXX X.prog X.w) X E)(ho:compareOp op=richCompare op:=by rfl):OpR X (compareOp op) (rOwn C sp E):=by
 rw [ho]
 obtain ⟨f,fd,ps,ds,h1,h2,h3,h4,h5⟩:=D
 intro pins s σ H x y v u Q I rx ry h
 obtain ⟨p,dx,fs,rfl,e,hy,q⟩:=h
 cases rx
 cases h5
 obtain ⟨od,J⟩:=qNb I e
 obtain ⟨m,Fm⟩:=I.fr
 have run:wpAny (model X.prog X.w) X.A (call (.ref f) [.ref p,u]) (PySem.W.CmpBack (EP X pins σ Q)) X.xe s:=
  thn (run_fn (us:=[.ref p,u]) (vs:=[.ref p,y]) h3 hr h4 .nil hx I (.cons rfl (.cons ry .nil)) q) λ_ _ z=>qAck z
 rcases hy with ⟨n,rfl⟩ | ⟨r,dy,gs,rfl,ey⟩
 ·obtain ⟨t,rfl⟩:=ry
  have nf:PySem.W.notFirst X.K C (.type "int")=true:=by
   unfold PySem.W.notFirst
   rw [O.sub]
   simp
  exact PySem.W.cmp_K hr.units0 Fm I.mod.kin J (PySem.W.Looks.of_pure (show typeOf (.int n t)=pure (.type "int") from rfl)) nf h2.at_ h2.fn run
 ·cases ry
  obtain ⟨od2,J2⟩:=qNb I ey
  have nf:PySem.W.notFirst X.K C (.ref C)=true:=by
   unfold PySem.W.notFirst
   simp
  exact PySem.W.cmp_K hr.units0 Fm I.mod.kin J J2.type nf h2.at_ h2.fn run
def qAl8(C:Addr)(sp:Sp)(E:XK):V->Hp->VK->Prop:=λx H Q=>∃ p dx fs,x = .ref p/\H p=some (.ins C dx fs)/\sp [x] H Q E
theorem qAom(D:qIh X.prog X.w X.K X.mg X.base k C "__neg__" [] sp)(hr:Room k X.A)(hx:Passes (CXX X.prog X.w) X E):UnR X (unaryOp .USub) (qAl8 C sp E):=by
 obtain ⟨f,fd,ps,ds,h1,h2,h3,h4,h5⟩:=D
 intro pins s σ H x v Q I rx h
 obtain ⟨p,dx,fs,rfl,e,q⟩:=h
 cases rx
 cases h5
 obtain ⟨od,J⟩:=qNb I e
 obtain ⟨m,Fm⟩:=I.fr
 exact PySem.W.ksp_neg Fm I.mod.kin J h2.at_ h2.fn (run_fn (us:=[.ref p]) (vs:=[.ref p]) h3 hr h4 .nil hx I (.cons rfl .nil) q)
end
end MR
namespace MR
open PySem PySem.Spec PyProof.Rows L2 He
def opF(x:Str)(nm:String):Fct:=λK=>PySem.W.selfFirst K (ga K x) && (qOg (PySem.W.subIn K (.type "int") (.ref (ga K x))) false && (qOg (PySem.W.subIn K (.ref (ga K x)) (.type "int")) false && ((PySem.W.findIn K (.type "int") (PySem.dunder nm)).isSome && ((PySem.W.findIn K (.type "int") (dunderR nm)).isSome &&
 (match PySem.W.findIn K (.ref (ga K x)) (dunderR nm) with
  | some none=>true
  | some (some (.ref _))=>true
  | _=>false)))))
theorem qAbr{K:W.Frag}{x:Str}{nm:String}(h:opF x nm K=true):OpC K (ga K x) nm:=by
 obtain ⟨h1,h⟩:=ba h
 obtain ⟨h2,h⟩:=ba h
 obtain ⟨h3,h⟩:=ba h
 obtain ⟨h4,h⟩:=ba h
 obtain ⟨h5,h6⟩:=ba h
 obtain ⟨fo,e4⟩:=Option.isSome_iff_exists.mp h4
 obtain ⟨ro,e5⟩:=Option.isSome_iff_exists.mp h5
 refine ⟨h1,qCi h2,qCi h3,fo,ro, ?_⟩
 split at h6
 ·rename_i e
  exact ⟨none,e4,e5,e, .inl rfl⟩
 ·rename_i g e
  exact ⟨some (.ref g),e4,e5,e, .inr ⟨g,rfl⟩⟩
 ·cases h6
end MR
namespace MR
open PySem PySem.Spec PyProof.Rows L2 LamX
def qAo8:Option Obj->Bool
 | some ⟨.none,none, .fields vs,sl⟩=>vs.isEmpty && sl.isEmpty
 | _=>false
theorem qAh8{a:Addr}{o:Obj}:∀ {l:W.Frag},l.lookup a=some o->(a,o)∈l
 | [],e=>by cases e
 | (b,u) :: r,e=>by
  rw [List.lookup_cons] at e
  cases hb:a == b with
  | true=>
   rw [hb] at e
   cases e
   rw [beq_iff_eq.mp hb]
   exact .head _
  | false=>
   rw [hb] at e
   exact .tail _ (qAh8 e)
end MR
namespace MR
open PySem PySem.Spec PyProof.Rows L2 He
section
variable {α β γ:Type} {o:Option α} {fr:α->W.Frag}
def PartB(o:Option α)(fr:α->W.Frag)(bs:List Fct):Prop:=o.map (λs=>bs.all λf=>f (fr s))=some true
def PartD(o:Option α)(fr:α->W.Frag)(fn:List DefD):Prop:=o.map (λs=>(fn.all λd=>d.ok (fr s),fn.map λd=>fnW (fr s) d.at_))=some (true,fn.map DefD.val)
theorem PartB.app{b1 b2:List Fct}(h1:PartB o fr b1)(h2:PartB o fr b2):PartB o fr (b1 ++ b2):=by
 unfold PartB at *
 cases o with
 | none=>cases h1
 | some s=>
  have e1:(b1.all λf=>f (fr s))=true:=Option.some.inj h1
  have e2:(b2.all λf=>f (fr s))=true:=Option.some.inj h2
  show some ((b1 ++ b2).all λf=>f (fr s))=some true
  rw [List.all_append,e1,e2]
  rfl
theorem PartD.app{b1 b2:List DefD}(h1:PartD o fr b1)(h2:PartD o fr b2):PartD o fr (b1 ++ b2):=by
 unfold PartD at *
 cases o with
 | none=>cases h1
 | some s=>
  have e1:=Prod.mk.inj (Option.some.inj h1)
  have e2:=Prod.mk.inj (Option.some.inj h2)
  show some (_,_)=some (true,_)
  rw [List.all_append,List.map_append,List.map_append,e1.1,e2.1,e1.2,e2.2]
  rfl
theorem qAqz{l:α->Bool}{q:α->β}{x:β}{bs:List Fct}{fn:List DefD}(h:o.map (λs=>(l s,q s))=some (true,x))(hb:PartB o fr bs)(hd:PartD o fr fn):o.map (λs=>(l s,q s,obsM bs fn (fr s)))=some (true,x,valM fn):=by
 unfold PartB PartD at *
 cases o with
 | none=>cases h
 | some s=>
  have e1:=Prod.mk.inj (Option.some.inj h)
  have e2:(bs.all λf=>f (fr s))=true:=Option.some.inj hb
  have e3:=Prod.mk.inj (Option.some.inj hd)
  show some (_,_,(_ && _),_)=some (true,x,true,_)
  rw [e1.1,e1.2,e2,e3.1,e3.2]
  rfl
end
def ddU(k:Nat->List Addr->List Addr):List Addr->Nat->List Addr->List Addr
 | [],m,acc=>k m acc
 | a :: l,m,acc=>match Nat.beq (Nat.land (Nat.shiftRight m a) 1) 0 with
  | true=>ddU k l (Nat.lor m (Nat.shiftLeft 1 a)) (a :: acc)
  | false=>ddU k l m acc
def outU(g:Addr->Option Obj)(as:List Addr):List Addr:=as.flatMap λa=>match g a with
 | some o=>refsD o
 | none=>[]
def asU(g:Addr->Option Obj):Nat->Nat->List Addr->List Addr
 | 0,_,_=>[]
 | n+1,m,fr=>ddU (λm' nf=>nf ++ asU g n m' nf) (outU g fr) m []
def frU(g:Addr->Option Obj)(n:Nat):W.Frag:=(He.frG g (sysModules :: mainGlobals :: cStatics :: asU g n (Nat.lor (Nat.shiftLeft 1 mainGlobals) (Nat.lor (Nat.shiftLeft 1 cStatics) (Nat.shiftLeft 1 sysModules))) [mainGlobals,cStatics])).filter λp => !qAo8 (some p.2)
theorem qAne{n:Nat}{h:Heap}:(frU h.get? n).In h:=λa o e=>by
 have hm0:=qAh8 e
 unfold frU at hm0
 have hm:=(List.mem_filter.mp hm0).1
 unfold He.frG at hm
 obtain ⟨b,_,hb⟩:=List.mem_filterMap.mp hm
 cases hg:h.get? b with
 | none=>
  rw [hg] at hb
  cases hb
 | some u=>
  rw [hg] at hb
  cases hb
  exact hg
def obsN(n:Nat)(bs:List Fct)(fn:List He.DefD)(g:Addr->Option Obj):AlM:=obsM bs fn (frU g n)
def qAnn(n:Nat)(bs:List Fct)(fn:List He.DefD):PySem.W.Hook where
 α:=AlM
 obs:=λs=>obsN n bs fn s.heap.get?
 val:=λ_=>valM fn
 says:=λ_ h=>∃ K:W.Frag,K.In h/\SaysM bs fn K
 of:=λ_ _ e=>⟨_,qAne,e⟩
 keeps:=λ_ _ _ ⟨K,hK,c⟩ k=>⟨K,W.Frag.In.keeps hK k,c⟩
theorem qAk0{n:Nat}{bs:List Fct}{fn:List He.DefD}{g:Addr->Option Obj}{s:Shared}(h:∀ a,g a=s.heap.get? a):obsN n bs fn g=(qAnn n bs fn).obs s:=by
 rw [show g=s.heap.get? from funext h]
 rfl
end MR
namespace MR
open PySem PySem.Spec PyProof.Rows L2
structure FeedAt (K:W.Frag) (H:Hp) (f c:Addr) (ns:List Int) (p b l n s:Int):Prop where
 ob:H f=some (.lst [.ref c, .int p, .int b, .int l, .int n, .int s])
 cs:SqL K H c (ns.map V.int)
 ne:c≠f
 nn:∀ x∈ns,0<=x
 p0:0<=p
 b0:0<=b
 l0:0<=l
 n0:0<=n
 s0:0<=s
def Feed(K:W.Frag)(H:Hp)(f:Addr):Prop:=∃ c ns p b l n s,FeedAt K H f c ns p b l n s
theorem qAep{K:W.Frag}{H H':Hp}{f a:Addr}{xs:List V}(k:Keep f H H')(ne:a≠f)(h:SqL K H a xs):SqL K H' a xs:=by
 rcases h with (h | ⟨o,h⟩) | h
 ·exact .inl (.inl (k _ _ h ne))
 ·exact .inl (.inr ⟨o,k _ _ h ne⟩)
 ·exact .inr h
theorem FeedAt.upd{K:W.Frag}{H:Hp}{f c:Addr}{ns:List Int}{p b l n s p' b' l' n' s':Int}(F:FeedAt K H f c ns p b l n s)(h1:0<=p')(h2:0<=b')(h3:0<=l')(h4:0<=n')(h5:0<=s') :
  FeedAt K (upd H f (.lst [.ref c, .int p', .int b', .int l', .int n', .int s'])) f c ns p' b' l' n' s':=⟨upd_same,qAep qX4 F.ne F.cs,F.ne,F.nn,h1,h2,h3,h4,h5⟩
theorem FeedAt.same{K:W.Frag}{H H':Hp}{f c:Addr}{ns:List Int}{p b l n s:Int}(F:FeedAt K H f c ns p b l n s)(h:Same H H'):FeedAt K H' f c ns p b l n s:=⟨h _ _ F.ob,h.seq F.cs,F.ne,F.nn,F.p0,F.b0,F.l0,F.n0,F.s0⟩
theorem Feed.same{K:W.Frag}{H H':Hp}{f:Addr}(F:Feed K H f)(h:Same H H'):Feed K H' f:=let ⟨c,ns,p,b,l,n,s,G⟩:=F;⟨c,ns,p,b,l,n,s,G.same h⟩
theorem qVg{x y:Nat}(hy:0<y)(h:y<=x):y*(x % y)*2<=x*y:=by
 have h1:=Nat.mod_add_div x y
 have h2:=Nat.mod_lt x hy
 have h3:0<x / y:=Nat.div_pos h hy
 have h4:y*1<=y*(x / y):=Nat.mul_le_mul_left y h3
 have h5:(x % y)*2<=x:=by omega
 calc y*(x % y)*2=y*(x % y*2):=Nat.mul_assoc ..
  _<=y*x:=Nat.mul_le_mul_left y h5
  _=x*y:=Nat.mul_comm ..
structure Eu (g P i x y:Nat):Prop where
 gc:x.gcd y=g
 lt:1<=i->y<x\/y=0
 pr:x*y*2 ^ (i - 1)<=P
theorem Eu.turn{g P i x y:Nat}(h:Eu g P i x y)(hy:0<y):Eu g P (i+1) y (x % y):=by
 refine ⟨by rw [<-h.gc,Nat.gcd_comm x y,Nat.gcd_rec y x,Nat.gcd_comm],λ_ => .inl (Nat.mod_lt x hy), ?_⟩
 by_cases hi:1<=i
 ·have hlt:y<=x:=by
   rcases h.lt hi with z | z <;> omega
  have e:2 ^ (i+1 - 1)=2*2 ^ (i - 1):=by
   rw [show i+1 - 1=(i - 1)+1 by omega,Nat.pow_succ,Nat.mul_comm]
  rw [e, ←Nat.mul_assoc]
  exact Zaf (Nat.mul_le_mul_right _ (qVg hy hlt)) h.pr
 ·have e:i=0:=by omega
  subst e
  have h3:=h.pr
  simp only [Nat.zero_sub,Nat.pow_zero,Nat.mul_one,Nat.zero_add,Nat.sub_self] at h3 ⊢
  have h5:y*(x % y)<=y*x:=Nat.mul_le_mul_left y (Nat.mod_le x y)
  rw [Nat.mul_comm y x] at h5
  omega
theorem Eu.fin{g P x y:Nat}(h:Eu g P 400 x y)(hP:P<2 ^ 399):y=0:=by
 rcases Nat.eq_zero_or_pos y with e | hy
 ·exact e
 ·exfalso
  have hx:0<x:=by
   rcases h.lt (by decide) with z | z <;> omega
  have h1:1<=x*y:=Nat.mul_pos hx hy
  have h2:=h.pr
  have h3:1*2 ^ (400 - 1)<=x*y*2 ^ (400 - 1):=Nat.mul_le_mul_right _ h1
  rw [Nat.one_mul,show 400 - 1=399 by decide] at h3
  rw [show 400 - 1=399 by decide] at h2
  exact absurd (Nat.lt_of_le_of_lt (Zaf h3 h2) hP) (Nat.lt_irrefl _)
end MR
namespace PySem
theorem qH9{v:Value}{o:Obj}{H:Heap->Prop}(B:Begins v o H) :
  Meets (Builtin.«enumerate.__new__» ⟨[.type "enumerate",v],[]⟩) (λ_ R s=>H s.heap/\
   R (.ok (.ret (.ref (s.heap.push o).objs.size))) { s with heap:=(s.heap.push o).push { cls := .type "enumerate",data := .fields #[.none, .bool false, .ref s.heap.objs.size,rawInt 0, .none, .none] } }):=
 .of_wp λprog w A R s h=>by
  obtain ⟨hp,g,d,tk,os⟩:=s;obtain ⟨h1,h⟩:=h
  have hsub:=sub_enumerate
  have q1:∀ {A':Around} {E:Value->Shared->Prop} {Q:Value->Shared->Prop},Q (.ref hp.objs.size) ⟨hp.push o,g,d,tk,os⟩->wpAny (model prog w) A' (pyIter v) Q E ⟨hp,g,d,tk,os⟩:=
   λq=>B.iter prog w _ _ ⟨hp,g,d,tk,os⟩ _ h1 q
  wp_walk using q1
  refine wpAny_stack_any λst=>wpAny_pure ?_
  split
  ·rename_i c _ _ _ _ _
   cases (c == Value.type "enumerate")
   ·wp_walk using q1
    exact ⟨_,rfl,h⟩
   ·wp_walk using q1
    exact ⟨_,rfl,h⟩
  ·wp_walk using q1
   exact ⟨_,rfl,h⟩
section
variable {prog:Program} {w:World} {A:Around} {E:Value->Shared->Prop} {s:Shared}
theorem qUd{v:Value}{o:Obj}{H:Heap->Prop}{Q:Value->Shared->Prop}(B:Begins v o H)(h1:H s.heap)
  (h:∀ h',IsEnum h' (s.heap.objs.size+1) s.heap.objs.size 0 .none->h'.get? s.heap.objs.size=some o->h'.objs.size=s.heap.objs.size+2->
   (∀ b o,s.heap.get? b=some o->h'.get? b=some o)->Q (.ref (s.heap.objs.size+1)) { s with heap:=h' }) :
  wpAny (model prog w) A (call (.type "enumerate") [v]) Q E s:=by
 refine callType_new F.called_enumerate (by decide) (F.typeCall_enumerate_1 _) (F.newCall_enumerate_1 _) (λobj=>F.args_object_init_2 obj _) F.entry_enumerate_new
  (qH9 B) ⟨h1, ?_⟩
 have hz:(s.heap.push o).objs.size=s.heap.objs.size+1:=Heap.size_push ..
 show _/\_
 rw [hz]
 have he:IsEnum ((s.heap.push o).push { cls := .type "enumerate",data := .fields #[.none, .bool false, .ref s.heap.objs.size,rawInt 0, .none, .none] }) (s.heap.objs.size+1) s.heap.objs.size 0 .none:=by
  have:=Heap.get?_push_size (s.heap.push o) (o := { cls := .type "enumerate",data := .fields #[.none, .bool false, .ref s.heap.objs.size,rawInt 0, .none, .none] }) rfl
  rw [hz] at this;exact this
 refine ⟨⟨_,he,rfl⟩,h _ he (Heap.get?_push_of_some _ (Heap.get?_push_size _ B.free)) (by rw [Heap.size_push,hz]) λb o x=>Heap.get?_push_of_some _ (Heap.get?_push_of_some _ x)⟩
theorem qG4{e it t:Addr}{n:Nat}{items:Array Value}{i:Int}{old:Value}{Q:Option Value->Shared->Prop}
  (hh:A.in1.handled=none) (he:IsEnum s.heap e it i old) (hit:s.heap.IsTupleIter it t n) (ht:s.heap.IsTuple t items) (hx:items[n]?=none)
  (hQ:∀ h',Heap.ExtBut it s.heap h'->Q none { s with heap:=h' }):wpAny (model prog w) A (pyNext (.ref e)) Q E s:=by
 have hT:s.TypeIs (.ref e) "enumerate":=⟨_,he,rfl⟩
 unfold pyNext
 refine wpAny_bind (wpAny_attempt (wpAny_callSpecial?_slot (name:=Str.ofString "__next__") hT F.slot_enumerate_next
  (wpAny_call_entry F.slot_enumerate_next hT F.entry_enumerate_next ?_ (F.args_enumerate_next_1 _))))
 show wpAny _ _ (field (.ref e) 2 >>= _) _ _ _
 refine wpAny_bind (wpAny_field he rfl (x := .ref it) rfl ?_)
 refine wpAny_bind (wpAny_nextOf_tuple_end hh hit ht hx λh' x he' hx' => ?_)
 obtain ⟨o,ho,hc⟩:=hx'
 refine wpAny_bind (wpAny_isInstance (T:="StopIteration") (b:=true) ⟨o,ho,hc⟩ isSubtype_stop ?_)
 exact wpAny_pure (hQ _ he')
end
end PySem
namespace MR
open PySem PySem.Spec PyProof.Rows L2
def ItE(K:W.Frag)(a:Addr):It:=
 ⟨λi H=>∃ (xs:List V) (x:V),SqT K H a xs/\xs[i]?=some x,λi H v H'=>∃ T x,v = .ref T/\H T=none/\H'=upd H T (.tup [.int (i:Nat),x])/\∀ xs,SqT K H a xs->xs[i]?=some x,λi H=>∃ xs:List V,SqT K H a xs/\xs.length<=i⟩
theorem qAaq{P:Program}{w:World}{K:W.Frag}{elts:List Expr}{kk:Nat}{tpos:Pos}(a e it:Addr) :
  Turn P w K (.Tuple elts kk tpos) (ItE K a) [e,it] e (λi h=>(∃ old,IsEnum h e it ((i:Nat):Int) old)/\h.IsTupleIter it a i/\e≠it) where
 mem:=by simp
 obj:=λi h st b hb=>by
  obtain ⟨⟨old,he⟩,⟨o,ho,hc,hd⟩,_⟩:=st
  have e':b=e\/b=it:=by simpa using hb
  rcases e' with z | z
  ·rw [z];exact ⟨_,he,λv q=>nomatch q⟩
  ·rw [z];exact ⟨o,ho,λv q=>by rw [hd] at q;cases q⟩
 keep:=λi h h' st k=>let ⟨⟨old,he⟩,hi,hne⟩:=st;⟨⟨old,k e (by simp) _ he⟩,hi.at λo q=>k it (by simp) o q,hne⟩
 item:=by
  intro X hP hw hK hc i pins s σ H E I hf st hg
  subst hP hw hK
  obtain ⟨⟨old,he⟩,hit,hne⟩:=st
  obtain ⟨xs,x,hq,hx⟩:=hg
  obtain ⟨its,rv,p,hz⟩:=I.tuple hq
  obtain ⟨u,hu,ru⟩:=rv.get hx
  have hT0:s.heap.IsTuple a its.toArray:=p
  have hel:e<s.heap.objs.size:=Heap.lt_size he
  have hil:it<s.heap.objs.size:=by obtain ⟨_,q,_⟩:=hit;exact Heap.lt_size q
  obtain ⟨oa,ha,hca,_⟩:=id hT0
  have hai:a≠it:=λz=>by
   obtain ⟨oi,hi,hci,_⟩:=hit
   rw [z,hi] at ha
   cases ha
   rw [hci] at hca
   exact absurd hca (by decide)
  have hae:e≠a:=λz=>by
   have he':s.heap.get? e=some _:=he
   rw [z,ha] at he'
   cases he'
   have hca':Value.type "enumerate"=Value.type "tuple":=hca
   exact absurd hca' (by decide)
  have hef:e ∉ [it,a]:=λz=>by
   rcases List.mem_cons.mp z with z | z
   ·exact hne z
   ·exact hae (Zai.mp z)
  have hlt:i<its.toArray.size:=by
   have:=(List.getElem?_eq_some_iff.mp hu).1
   simpa using this
  refine wpAny_pyNext_enum_itemC (Draws.tuple (prog:=X.prog) (w:=X.w) (A:=X.A.in1) (I.ok.hd hc) it a hai its.toArray) he ⟨hit,hT0⟩ hlt hne hef λv h' tk hv ho hs' hT hsz hk => ?_
  have ev:v=u:=by
   have:its.toArray[i]?=some u:=by simpa using hu
   rw [this] at hv
   exact (Option.some.inj hv).symm
  subst ev
  refine ⟨_,rfl,wpAny_letOwnedTupleGo_enum (s := { s with heap:=h',toks:=tk+1 }) ho λh'' he' sb => ?_⟩
  have hT2:h''.get? s.heap.objs.size=some { cls := .type "tuple",data := .seq #[.int i tk,v] }:=(sb.2 _ (Nat.ne_of_gt hel)).trans hT
  have new:ObjOk X.prog X.w (upd H s.heap.objs.size (.tup [.int (i:Nat),x])) h'' s.heap.objs.size (.tup [.int (i:Nat),x]):=
   ⟨by show 2<=sizeLine;decide,[.int i tk,v], .cons ⟨_,rfl⟩ (.cons ru .nil),⟨_,hT2,rfl,_,rfl⟩⟩
  have I1:Inv X pins σ (upd H s.heap.objs.size (.tup [.int (i:Nat),x])) { s with heap:=h'',toks:=tk+1 }:=
   I.turnedNew (ch:=[e,it]) (λb ob hb q=>(sb.2 b (λz=>hb (by simp [z]))).trans (hk b ob (λz=>hb (by simp [z])) (λz=>hb (by simp [z])) q)) hf (Za9 _) new
  refine ⟨.ref s.heap.objs.size,_,I1,rfl,⟨_,x,rfl,I.hok.fresh (Za9 _),rfl,λys hy=>by rw [I.tuple_inj hy hq];exact hx⟩,⟨⟨v, ?_⟩,hs'.1.at λo q=>(sb.2 it (Ne.symm hne)).trans q,hne⟩,λb hb => ?_⟩
  ·have e1:((i+1:Nat):Int)=(i:Int)+1:=by omega
   rw [e1];exact he'
  ·have hb':b<s.heap.objs.size:=by
    have e':b=e\/b=it:=by simpa using hb
    rcases e' with z | z
    ·rw [z];exact hel
    ·rw [z];exact hil
   rw [upd_ne (Nat.ne_of_lt hb')]
   exact (hf b hb).1
 done:=by
  intro X hP hw hK hc i pins s σ H E I hf st hg
  subst hP hw hK
  obtain ⟨⟨old,he⟩,hit,hne⟩:=st
  obtain ⟨xs,hq,hx⟩:=hg
  obtain ⟨its,rv,p,hz⟩:=I.tuple hq
  obtain ⟨f0,f1,f2,f3,f4,f5⟩:=hf it (by simp)
  have hl:=rv.length
  have hT0:s.heap.IsTuple a its.toArray:=p
  obtain ⟨oa,ha,hca,_⟩:=id hT0
  have hai:a≠it:=λz=>by
   obtain ⟨oi,hi,hci,_⟩:=hit
   rw [z,hi] at ha
   cases ha
   rw [hci] at hca
   exact absurd hca (by decide)
  exact qG4 (I.ok.hd hc) he hit hT0 (by simp;omega) λh' eb=>⟨rfl,I.turned (t':=s.toks) (λb o hb q=>eb b o hb q) f0 f1 f3 f4 f5⟩
 self:=λA i s Q E st h=>let ⟨⟨_,he⟩,_⟩:=st;wpAny_pyIter_enum he h
theorem PI.or{X:Cx}{tg it:Expr}{w w':TI}(h:PI X tg it w)(h':PI X tg it w'):PI X tg it (λσ H R=>w σ H R\/w' σ H R):=
 ⟨λpins s σ H R I q=>q.elim (h.run pins s σ H R I) (h'.run pins s σ H R I)⟩
end MR
namespace MR
theorem qHs(q:Rat):((q.den:Int):Rat)≠0:=by
 rw [Rat.intCast_natCast]
 exact λh=>q.den_nz (Rat.natCast_eq_zero_iff.mp h)
theorem qEv(q:Rat):((q.num:Int):Rat) / ((q.den:Int):Rat)=q:=by
 rw [<-Za8,Rat.num_divInt_den]
theorem qAip(a b:Rat):Za4 (a.num*b.den+b.num*a.den) (a.den*b.den)=a+b:=by
 have h1:=qHs a
 have h2:=qHs b
 have e1:=qEv a
 have e2:=qEv b
 rw [Za8,Rat.intCast_add,Za7,Za7,Za7]
 grind
theorem qAnf(a b:Rat):Za4 (a.num*b.den - b.num*a.den) (a.den*b.den)=a - b:=by
 have h1:=qHs a
 have h2:=qHs b
 have e1:=qEv a
 have e2:=qEv b
 rw [Za8,Rat.intCast_sub,Za7,Za7,Za7]
 grind
theorem qAjl(a b:Rat):Za4 (a.num*b.num) (a.den*b.den)=a*b:=by
 have h1:=qHs a
 have h2:=qHs b
 have e1:=qEv a
 have e2:=qEv b
 rw [Za8,Za7,Za7]
 grind
theorem qAm5(a:Rat)(n:Int):Za4 (a.num+n*a.den) a.den=a+(n:Rat):=by
 have h1:=qHs a
 have e1:=qEv a
 rw [Za8,Rat.intCast_add,Za7]
 grind
theorem qAj1(a:Rat)(n:Int):Za4 (a.num - n*a.den) a.den=a - (n:Rat):=by
 have h1:=qHs a
 have e1:=qEv a
 rw [Za8,Rat.intCast_sub,Za7]
 grind
theorem qAj4(a:Rat)(n:Int):Za4 (a.num*n) a.den=a*(n:Rat):=by
 have h1:=qHs a
 have e1:=qEv a
 rw [Za8,Za7]
 grind
theorem qAnz(a:Rat):Za4 (-a.num) a.den = -a:=by
 rw [<-Rat.neg_divInt,Rat.num_divInt_den]
theorem den_pos(a:Rat):(0:Int)<a.den:=by
 have:=a.den_nz
 omega
structure Sz (n:Nat) (q:Rat):Prop where
 num:q.num.natAbs<2 ^ n
 den:q.den<2 ^ n
theorem Sz.mono{n m:Nat}{q:Rat}(h:Sz n q)(hn:n<=m):Sz m q:=⟨Zam h.num (Zaa (by decide) hn),Zam h.den (Zaa (by decide) hn)⟩
theorem Sz.pos{n:Nat}{q:Rat}(h:Sz n q):0<n:=by
 rcases Nat.eq_zero_or_pos n with e | e
 ·have:=h.den
  rw [e] at this
  have:=q.den_nz
  omega
 ·exact e
theorem qG3{a b:Int}{n:Nat}(hb:b≠0)(h1:a.natAbs<2 ^ n)(h2:b.natAbs<2 ^ n):Sz n (Za4 a b):=⟨Nat.lt_of_le_of_lt (qApo hb) h1,Nat.lt_of_le_of_lt (qAnx hb) h2⟩
theorem qKl{x y a b:Nat}(h1:x<2 ^ a)(h2:y<2 ^ b):x*y<2 ^ (a+b):=by
 rw [Nat.pow_add]
 exact Nat.mul_lt_mul'' h1 h2
theorem absmul{x:Int}{y a b:Nat}(h1:x.natAbs<2 ^ a)(h2:y<2 ^ b):(x*(y:Int)).natAbs<2 ^ (a+b):=by
 rw [Zao,Int.natAbs_natCast]
 exact qKl h1 h2
theorem absadd{x y:Int}{n:Nat}(h1:x.natAbs<2 ^ n)(h2:y.natAbs<2 ^ n):(x+y).natAbs<2 ^ (n+1):=by
 rw [Nat.pow_succ]
 omega
theorem Sz.add{n m:Nat}{a b:Rat}(h1:Sz n a)(h2:Sz m b):Sz (n+m+1) (a+b):=by
 rw [<-qAip]
 refine qG3 (Int.ne_of_gt (Int.mul_pos (den_pos a) (den_pos b))) (absadd (absmul h1.num h2.den) ?_) ?_
 ·have:=absmul h2.num h1.den
  rw [Nat.add_comm m n] at this
  exact this
 ·have:=absmul (x:=(a.den:Int)) (by rw [Int.natAbs_natCast];exact h1.den) h2.den
  exact Zam this (Zaa (by decide) (by omega))
theorem Sz.neg{n:Nat}{a:Rat}(h:Sz n a):Sz n (-a):=⟨by rw [Rat.neg_num,Int.natAbs_neg];exact h.num,by rw [Rat.neg_den];exact h.den⟩
theorem Sz.sub{n m:Nat}{a b:Rat}(h1:Sz n a)(h2:Sz m b):Sz (n+m+1) (a - b):=by
 rw [Rat.sub_eq_add_neg]
 exact h1.add h2.neg
theorem Sz.mul{n m:Nat}{a b:Rat}(h1:Sz n a)(h2:Sz m b):Sz (n+m) (a*b):=by
 rw [<-qAjl]
 refine qG3 (Int.ne_of_gt (Int.mul_pos (den_pos a) (den_pos b))) ?_ ?_
 ·rw [Zao]
  exact qKl h1.num h2.num
 ·exact absmul (x:=(a.den:Int)) (by rw [Int.natAbs_natCast];exact h1.den) h2.den
def coef(cs:List Rat)(k:Nat):Rat:=cs[k]?.getD 0
theorem qMt{cs:List Rat}{k:Nat}(h:k<cs.length):cs[k]?=some (coef cs k):=by
 unfold coef
 rw [Za3 h]
 rfl
theorem qAk{cs:List Rat}{k:Nat}(h:cs.length<=k):coef cs k=0:=by
 unfold coef
 rw [List.getElem?_eq_none h]
 rfl
theorem qCt{cs:List Rat}{k:Nat}{c:Rat}(h:cs[k]?=some c):coef cs k=c:=by
 unfold coef
 rw [h]
 rfl
def szN(f:Nat->Rat):Nat->Nat
 | 0=>0
 | n+1=>if f n=0 then szN f n else n+1
theorem qT1(f:Nat->Rat):∀ n,szN f n<=n
 | 0=>Za9 _
 | n+1=>by
  unfold szN
  split
  ·exact Nat.le_succ_of_le (qT1 f n)
  ·exact Za9 _
theorem qL5(f:Nat->Rat):∀ n k,szN f n<=k->k<n->f k=0
 | 0,k,_,h=>absurd h (Nat.not_lt_zero _)
 | n+1,k,h,hk=>by
  unfold szN at h
  split at h
  ·rename_i e
   by_cases hn:k=n
   ·rw [hn];exact e
   ·exact qL5 f n k h (by omega)
  ·omega
theorem qL0(f:Nat->Rat):∀ n,0<szN f n->f (szN f n - 1)≠0
 | 0,h=>absurd h (Nat.lt_irrefl _)
 | n+1,h=>by
  unfold szN at h ⊢
  split
  ·rename_i e
   rw [if_pos e] at h
   exact qL0 f n h
  ·rename_i e
   exact e
theorem qAnj{f g:Nat->Rat}{n m:Nat}(hf:∀ k,n<=k->f k=0)(hg:∀ k,m<=k->g k=0)(h:∀ k,f k=g k):szN f n=szN g m:=by
 have zf:∀ k,szN f n<=k->f k=0:=λk hk=>by
  by_cases e:k<n
  ·exact qL5 f n k hk e
  ·exact hf k (by omega)
 have zg:∀ k,szN g m<=k->g k=0:=λk hk=>by
  by_cases e:k<m
  ·exact qL5 g m k hk e
  ·exact hg k (by omega)
 rcases Nat.lt_trichotomy (szN f n) (szN g m) with e | e | e
 ·have:=qL0 g m (by omega)
  rw [<-h] at this
  exact absurd (zf _ (by omega)) this
 ·exact e
 ·have:=qL0 f n (by omega)
  rw [h] at this
  exact absurd (zg _ (by omega)) this
def strip(cs:List Rat):List Rat:=cs.take (szN (coef cs) cs.length)
theorem qFa(cs:List Rat):(strip cs).length=szN (coef cs) cs.length:=by
 unfold strip
 rw [Zaj]
 exact Nat.min_eq_left (qT1 _ _)
theorem qSa{cs:List Rat}{n k:Nat}(h:k<n):coef (cs.take n) k=coef cs k:=by
 unfold coef
 rw [List.getElem?_take_of_lt h]
theorem qB8(cs:List Rat)(k:Nat):coef (strip cs) k=coef cs k:=by
 by_cases h:k<szN (coef cs) cs.length
 ·exact qSa h
 ·rw [qAk (by rw [qFa];omega)]
  by_cases e:k<cs.length
  ·exact (qL5 _ _ k (by omega) e).symm
  ·exact (qAk (by omega)).symm
theorem qC9{cs ds:List Rat}(hl:cs.length=ds.length)(h:∀ k,coef cs k=coef ds k):cs=ds:=by
 refine List.ext_getElem? λk => ?_
 by_cases e:k<cs.length
 ·rw [qMt e,qMt (by omega),h]
 ·rw [List.getElem?_eq_none (by omega),List.getElem?_eq_none (by omega)]
theorem qYr{cs ds:List Rat}(h:∀ k,coef cs k=coef ds k):strip cs=strip ds:=by
 refine qC9 ?_ λk => ?_
 ·rw [qFa,qFa]
  exact qAnj (λk hk=>qAk hk) (λk hk=>qAk hk) h
 ·rw [qB8,qB8,h]
def Nrm(cs:List Rat):Prop:=strip cs=cs
theorem qAbt(cs:List Rat):Nrm (strip cs):=qYr (qB8 cs)
def qAm(cs:List Rat):Rat:=coef cs (cs.length - 1)
theorem qAfz{cs:List Rat}(h:Nrm cs)(hl:0<cs.length):qAm cs≠0:=by
 have e:=qFa cs
 rw [h] at e
 have:=qL0 (coef cs) cs.length (by omega)
 rw [<-e] at this
 exact this
def qV5(cs ds:List Rat):List Rat:=(Zag (max cs.length ds.length)).map λk=>coef cs k+coef ds k
theorem qMb(cs ds:List Rat):(qV5 cs ds).length=max cs.length ds.length:=by simp [qV5]
theorem qCp{n:Nat}{f:Nat->Rat}{k:Nat}:coef ((Zag n).map f) k=if k<n then f k else 0:=by
 unfold coef
 split
 ·rename_i h
  rw [Zae,List.getElem?_range h]
  rfl
 ·rename_i h
  rw [List.getElem?_eq_none (by simp;omega)]
  rfl
theorem qH6(cs ds:List Rat)(k:Nat):coef (qV5 cs ds) k=coef cs k+coef ds k:=by
 unfold qV5
 rw [qCp]
 split
 ·rfl
 ·rename_i h
  rw [qAk (by omega),qAk (by omega),Zac]
def qKc(cs:List Rat):List Rat:=cs.map λc => -c
theorem qE5(cs:List Rat):(qKc cs).length=cs.length:=by simp [qKc]
theorem qE4(cs:List Rat)(k:Nat):coef (qKc cs) k = -coef cs k:=by
 unfold coef qKc
 rw [Zae]
 cases cs[k]? with
 | none=>rfl
 | some c=>rfl
def conv(f g:Nat->Rat):Nat->Nat->Rat
 | 0,_=>0
 | i+1,k=>conv f g i k+if i<=k then f i*g (k - i) else 0
def qBc(cs ds:List Rat):List Rat:=if cs.length=0\/ds.length=0 then [] else (Zag (cs.length+ds.length - 1)).map λk=>conv (coef cs) (coef ds) cs.length k
theorem qUl{f g:Nat->Rat}{m:Nat}(hg:∀ k,m<=k->g k=0):∀ i k,i+m<=k+1->conv f g i k=0
 | 0,_,_=>rfl
 | i+1,k,h=>by
  unfold conv
  rw [qUl hg i k (by omega),if_pos (by omega),hg _ (by omega),Za1,Zac]
theorem qZe{f g:Nat->Rat}(hg:∀ k,g k=0):∀ i k,conv f g i k=0
 | 0,_=>rfl
 | i+1,k=>by
  unfold conv
  rw [qZe hg i k,hg,Za1]
  split <;> exact Zac _
theorem qFo(cs ds:List Rat)(k:Nat):coef (qBc cs ds) k=conv (coef cs) (coef ds) cs.length k:=by
 unfold qBc
 split
 ·rename_i h
  rcases h with h | h
  ·rw [h]
   rfl
  ·rw [qZe (λk=>qAk (by omega))]
   rfl
 ·rename_i h
  rw [qCp]
  split
  ·rfl
  ·rw [qUl (m:=ds.length) (λk hk=>qAk hk) _ _ (by omega)]
theorem qTr{f g:Nat->Rat}{n:Nat}(hf:∀ k,n<=k->f k=0):∀ m,n<=m->∀ k,conv f g m k=conv f g n k:=by
 intro m hm k
 induction m with
 | zero=>rw [show n=0 by omega]
 | succ m ih=>
  by_cases e:n<=m
  ·rw [show conv f g (m+1) k=conv f g m k+if m<=k then f m*g (k - m) else 0 from rfl,ih e,hf m e,Za2]
   split <;> exact Zac _
  ·rw [show n=m+1 by omega]
end MR
namespace MR
open PySem PySem.Spec PyProof.Rows L2 LamX
inductive D where
 | non | bl (b:Bool) | int (i:Int) | str (x:Str) | rat (q:Rat) | poly (cs:List Rat)
 | lst (ds:List D) | tup (ds:List D) | ins (C:Str) (ns:List Str) (ds:List D) | feed | exc | adr (a:Addr) | scr (ns:List Int)
 | dct (ks:List Key) (ds:List D) | exn (C:Str) (ns:List Str) (ds:List D)
structure Exn where
 cls:Str
 fs:List (Str × D)
abbrev Env:=List (Option D)
def FeedC(K:W.Frag)(H:Hp)(f c:Addr):Prop:=∃ ns p b l n s o,FeedAt K H f c ns p b l n s/\H c=some (.lst o)
structure Fd where
 f:Option Addr
 T:List (Addr × Str)
def Fd.no(F:Fd)(p:Addr):Prop:=F.f≠some p/\∀ q,q∈F.T->q.1≠p
def Pl:HO->Prop
 | .lst _=>True
 | .ins _ _ _=>True
 | .dK _=>True
 | _=>False
theorem qUg{T:List (Addr × Str)}{H H':Hp}(t:Tabs T H)(h:∀ b o,H b=some o->¬ Pl o->H' b=some o):Tabs T H':=λp hp=>by
 obtain ⟨ps,h1,h2,h3⟩:=t p hp
 refine ⟨ps,h _ _ h1 (λz=>z),h2,λpos cv hc => ?_⟩
 obtain ⟨c,e1,e2⟩:=h3 pos cv hc
 exact ⟨c,e1,h _ _ e2 (λz=>z)⟩
theorem qJ4{T:List (Addr × Str)}{H:Hp}{p:Addr}{o u:HO}(t:Tabs T H)(h:H p=some o)(hp:Pl o):Tabs T (upd H p u):=qUg t λb v e n=>by
 rw [upd_ne (λz=>n (by rw [z,h] at e;cases e;exact hp))]
 exact e
theorem qAj7{T:List (Addr × Str)}{H:Hp}{p:Addr}{f:Option Addr}(t:Tabs T H)(h:H p=none)(hf:f≠some p):Fd.no ⟨f,T⟩ p:=⟨hf,λq hq z=>by
 obtain ⟨ps,h1,_⟩:=t q hq
 rw [z,h] at h1;cases h1⟩
def Ok(F:Fd)(M:Addr->Prop)(p:Addr):Prop:=F.no p/\¬ M p
def Scr(K:W.Frag)(F:Fd)(M:Addr->Prop)(H:Hp)(ns:List Int)(a:Addr):Prop:=
 (∃ o,Ok F M a/\H a=some o/\(o = .lst (ns.map V.int)\/∃ f,o = .frz f (.lst (ns.map V.int))))\/
  ∃ (o:Obj) (its:Array Value) (n:Nat),K.lookup a=some o/\o.cls = .type "list"/\o.dict=none/\o.data = .seq its n/\its.size<=sizeLine/\Vals (ns.map V.int) its.toList
theorem Scr.sq{K:W.Frag}{F:Fd}{M:Addr->Prop}{H:Hp}{ns:List Int}{a:Addr}(h:Scr K F M H ns a):SqL K H a (ns.map V.int):=by
 rcases h with ⟨o,_,h,rfl | ⟨f,rfl⟩⟩ | h
 ·exact .inl (.inl h)
 ·exact .inl (.inr ⟨f,h⟩)
 ·exact .inr h
theorem Scr.of{K:W.Frag}{F:Fd}{M:Addr->Prop}{H:Hp}{ns:List Int}{a:Addr}(h:SqL K H a (ns.map V.int))(ok:Ok F M a):Scr K F M H ns a:=by
 rcases h with (h | ⟨f,h⟩) | h
 ·exact .inl ⟨_,ok,h, .inl rfl⟩
 ·exact .inl ⟨_,ok,h, .inr ⟨f,rfl⟩⟩
 ·exact .inr h
section
variable (K:W.Frag) (F:Fd) (M:Addr->Prop) (H:Hp)
def RRat(q:Rat)(v:V):Prop:=∃ p,v = .ref p/\Ok F M p/\IsRat K H p q
def RRats:List Rat->List V->Prop
 | [],vs=>vs=[]
 | q :: qs,vs=>∃ v us,vs=v :: us/\RRat K F M H q v/\RRats qs us
abbrev CP(K:W.Frag):Addr:=He.ga K "Poly"
def qZ9(t l:Addr)(n:Nat):List (Str × V):=[("coefficients", .ref t),("degree", .int ((n:Int) - 1)),("lead", .ref l)]
mutual
def Rep:D->V->Prop
 | .non,v=>v = .non
 | .bl b,v=>v = .bl b
 | .int i,v=>v = .int i
 | .str x,v=>v = .str x
 | .rat q,v=>RRat K F M H q v
 | .poly cs,v=>∃ p dx t l vs,v = .ref p/\Ok F M p/\H p=some (.ins (CP K) dx (qZ9 t l cs.length))/\Ok F M t/\H t=some (.tup vs)/\RRats K F M H cs vs/\RRat K F M H (qAm cs) (.ref l)/\Nrm cs
 | .lst ds,v=>∃ p vs,v = .ref p/\Ok F M p/\H p=some (.lst vs)/\Reps ds vs
 | .tup ds,v=>∃ p vs,v = .ref p/\Ok F M p/\H p=some (.tup vs)/\Reps ds vs
 | .ins C ns ds,v=>∃ p dx gs,v = .ref p/\Ok F M p/\H p=some (.ins (He.ga K C) dx gs)/\gs.map Prod.fst=ns/\Reps ds (gs.map Prod.snd)
 | .feed,v=>∃ f,F.f=some f/\v = .ref f
 | .exc,v=>∃ a,v = .ref a
 | .adr a,v=>v = .ref a
 | .scr ns,v=>∃ a,v = .ref a/\Scr K F M H ns a
 | .dct ks ds,v=>∃ p kvs,v = .ref p/\Ok F M p/\H p=some (.dK kvs)/\kvs.map Prod.fst=ks/\Reps ds (kvs.map Prod.snd)
 | .exn C ns ds,v=>∃ e dx gs,v = .ref e/\Ok F M e/\H e=some (exo e (He.ga K C) dx)/\(∀ d,dx=some d->Ok F M d/\H d=some (.xd gs))/\(dx=none->gs=[])/\gs.map Prod.fst=ns/\Reps ds (gs.map Prod.snd)
def Reps:List D->List V->Prop
 | [],vs=>vs=[]
 | d :: ds,vs=>∃ v us,vs=v :: us/\Rep d v/\Reps ds us
end
def RepO:D->HO->Prop
 | .lst ds,o=>∃ vs,o = .lst vs/\Reps K F M H ds vs
 | .ins C ns ds,o=>∃ dx gs,o = .ins (He.ga K C) dx gs/\gs.map Prod.fst=ns/\Reps K F M H ds (gs.map Prod.snd)
 | .dct ks ds,o=>∃ kvs,o = .dK kvs/\kvs.map Prod.fst=ks/\Reps K F M H ds (kvs.map Prod.snd)
 | _,_=>False
end
section
variable {K:W.Frag} {F:Fd} {M M':Addr->Prop} {H H':Hp}
def Goes(F:Fd)(M:Addr->Prop)(H:Hp)(M':Addr->Prop)(H':Hp):Prop:=∀ p o,H p=some o->F.no p->¬ M p->H' p=some o/\¬ M' p
theorem RRat.goes(g:Goes F M H M' H'){q:Rat}{v:V}(h:RRat K F M H q v):RRat K F M' H' q v:=by
 obtain ⟨p,rfl,ok,dx,e⟩:=h
 obtain ⟨e',n⟩:=g p _ e ok.1 ok.2
 exact ⟨p,rfl,⟨ok.1,n⟩,dx,e'⟩
theorem RRats.goes(g:Goes F M H M' H'):∀ {qs:List Rat} {vs:List V},RRats K F M H qs vs->RRats K F M' H' qs vs
 | [],_,h=>h
 | _ :: _,_,h=>by
  obtain ⟨v,us,rfl,h1,h2⟩:=h
  exact ⟨v,us,rfl,h1.goes g,RRats.goes g h2⟩
mutual
theorem Rep.goes(g:Goes F M H M' H'):∀ (d:D) (v:V),Rep K F M H d v->Rep K F M' H' d v
 | .non,v,h=>h
 | .bl b,v,h=>h
 | .int i,v,h=>h
 | .str x,v,h=>h
 | .feed,v,h=>h
 | .exc,v,h=>h
 | .adr a,v,h=>h
 | .scr ns,v,h=>by
  obtain ⟨a,rfl,⟨o,ok,e,z⟩ | z⟩:=h
  ·obtain ⟨e',n1⟩:=g a _ e ok.1 ok.2
   exact ⟨a,rfl, .inl ⟨o,⟨ok.1,n1⟩,e',z⟩⟩
  ·exact ⟨a,rfl, .inr z⟩
 | .rat q,v,h=>RRat.goes g h
 | .poly cs,v,h=>by
  obtain ⟨p,dx,t,l,vs,rfl,ok,e,okt,et,r,rl,n⟩:=h
  obtain ⟨e',n1⟩:=g p _ e ok.1 ok.2
  obtain ⟨et',n2⟩:=g t _ et okt.1 okt.2
  exact ⟨p,dx,t,l,vs,rfl,⟨ok.1,n1⟩,e',⟨okt.1,n2⟩,et',r.goes g,rl.goes g,n⟩
 | .lst ds,v,h=>by
  obtain ⟨p,vs,rfl,ok,e,r⟩:=h
  obtain ⟨e',n1⟩:=g p _ e ok.1 ok.2
  exact ⟨p,vs,rfl,⟨ok.1,n1⟩,e',Reps.goes g ds vs r⟩
 | .tup ds,v,h=>by
  obtain ⟨p,vs,rfl,ok,e,r⟩:=h
  obtain ⟨e',n1⟩:=g p _ e ok.1 ok.2
  exact ⟨p,vs,rfl,⟨ok.1,n1⟩,e',Reps.goes g ds vs r⟩
 | .ins C ns ds,v,h=>by
  obtain ⟨p,dx,gs,rfl,ok,e,en,r⟩:=h
  obtain ⟨e',n1⟩:=g p _ e ok.1 ok.2
  exact ⟨p,dx,gs,rfl,⟨ok.1,n1⟩,e',en,Reps.goes g ds _ r⟩
 | .dct ks ds,v,h=>by
  obtain ⟨p,gs,rfl,ok,e,en,r⟩:=h
  obtain ⟨e',n1⟩:=g p _ e ok.1 ok.2
  exact ⟨p,gs,rfl,⟨ok.1,n1⟩,e',en,Reps.goes g ds _ r⟩
 | .exn C ns ds,v,h=>by
  obtain ⟨p,dx,gs,rfl,ok,e,hd,hn,en,r⟩:=h
  obtain ⟨e',n1⟩:=g p _ e ok.1 ok.2
  exact ⟨p,dx,gs,rfl,⟨ok.1,n1⟩,e',λd z=>let ⟨okd,ed⟩:=hd d z;let ⟨e2,n2⟩:=g d _ ed okd.1 okd.2;⟨⟨okd.1,n2⟩,e2⟩,hn,en,Reps.goes g ds _ r⟩
theorem Reps.goes(g:Goes F M H M' H'):∀ (ds:List D) (vs:List V),Reps K F M H ds vs->Reps K F M' H' ds vs
 | [],_,h=>h
 | d :: ds,_,h=>by
  obtain ⟨v,us,rfl,h1,h2⟩:=h
  exact ⟨v,us,rfl,Rep.goes g d v h1,Reps.goes g ds us h2⟩
end
theorem RepO.pl{d:D}{o:HO}(h:RepO K F M H d o):Pl o:=by
 cases d with
 | lst ds=>obtain ⟨vs,rfl,r⟩:=h;trivial
 | ins C ns ds=>obtain ⟨dx,gs,rfl,en,r⟩:=h;trivial
 | dct ks ds=>obtain ⟨gs,rfl,en,r⟩:=h;trivial
 | _=>exact h.elim
theorem RepO.goes(g:Goes F M H M' H'){d:D}{o:HO}(h:RepO K F M H d o):RepO K F M' H' d o:=by
 cases d with
 | lst ds=>obtain ⟨vs,rfl,r⟩:=h;exact ⟨vs,rfl,Reps.goes g _ _ r⟩
 | ins C ns ds=>obtain ⟨dx,gs,rfl,en,r⟩:=h;exact ⟨dx,gs,rfl,en,Reps.goes g _ _ r⟩
 | dct ks ds=>obtain ⟨gs,rfl,en,r⟩:=h;exact ⟨gs,rfl,en,Reps.goes g _ _ r⟩
 | _=>exact h.elim
mutual
def D.noL:D->Bool
 | .lst _=>false
 | .tup ds=>D.noLs ds
 | .ins _ _ ds=>D.noLs ds
 | .feed=>false
 | .exc=>false
 | .adr _=>false
 | .scr _=>false
 | .dct _ _=>false
 | .exn _ _ ds=>D.noLs ds
 | _=>true
def D.noLs:List D->Bool
 | []=>true
 | d :: ds=>d.noL && D.noLs ds
end
def Lists(M':Addr->Prop)(H:Hp):Prop:=∀ p,M' p->∃ xs,H p=some (.lst xs)
theorem RRat.noL(g:Lists M' H){q:Rat}{v:V}(h:RRat K F M H q v):RRat K F (λp=>M p\/M' p) H q v:=by
 obtain ⟨p,rfl,ok,dx,e⟩:=h
 refine ⟨p,rfl,⟨ok.1,λz=>z.elim ok.2 λm => ?_⟩,dx,e⟩
 obtain ⟨xs,y⟩:=g p m
 rw [e] at y;cases y
theorem RRats.noL(g:Lists M' H):∀ {qs:List Rat} {vs:List V},RRats K F M H qs vs->RRats K F (λp=>M p\/M' p) H qs vs
 | [],_,h=>h
 | _ :: _,_,h=>by
  obtain ⟨v,us,rfl,h1,h2⟩:=h
  exact ⟨v,us,rfl,h1.noL g,RRats.noL g h2⟩
theorem qO2(g:Lists M' H){p:Addr}{o:HO}(ok:Ok F M p)(e:H p=some o)(n:∀ xs,o ≠ .lst xs):Ok F (λp=>M p\/M' p) p:=⟨ok.1,λz=>z.elim ok.2 λm=>by
 obtain ⟨xs,y⟩:=g p m
 rw [e] at y
 exact n xs (Option.some.inj y)⟩
mutual
theorem Rep.noL(g:Lists M' H):∀ (d:D) (v:V),d.noL=true->Rep K F M H d v->Rep K F (λp=>M p\/M' p) H d v
 | .non,v,_,h=>h
 | .bl b,v,_,h=>h
 | .int i,v,_,h=>h
 | .str x,v,_,h=>h
 | .feed,v,n,h=>h
 | .exc,v,n,h=>h
 | .adr a,v,n,h=>h
 | .scr ns,v,n,h=>by simp [D.noL] at n
 | .rat q,v,_,h=>RRat.noL g h
 | .poly cs,v,_,h=>by
  obtain ⟨p,dx,t,l,vs,rfl,ok,e,okt,et,r,rl,n⟩:=h
  exact ⟨p,dx,t,l,vs,rfl,qO2 g ok e (λ_ z=>by cases z),e,qO2 g okt et (λ_ z=>by cases z),et,r.noL g,rl.noL g,n⟩
 | .lst ds,v,n,h=>by simp [D.noL] at n
 | .tup ds,v,n,h=>by
  obtain ⟨p,vs,rfl,ok,e,r⟩:=h
  exact ⟨p,vs,rfl,qO2 g ok e (λ_ z=>by cases z),e,Reps.noL g ds vs (by simpa [D.noL] using n) r⟩
 | .ins C ns ds,v,n,h=>by
  obtain ⟨p,dx,gs,rfl,ok,e,en,r⟩:=h
  exact ⟨p,dx,gs,rfl,qO2 g ok e (λ_ z=>by cases z),e,en,Reps.noL g ds _ (by simpa [D.noL] using n) r⟩
 | .dct ks ds,v,n,h=>by simp [D.noL] at n
 | .exn C ns ds,v,n,h=>by
  obtain ⟨p,dx,gs,rfl,ok,e,hd,hn,en,r⟩:=h
  exact ⟨p,dx,gs,rfl,qO2 g ok e (λ_ z=>by have z':HO.ext _=HO.lst _:=z;cases z'),e,λd z=>let ⟨okd,ed⟩:=hd d z;⟨qO2 g okd ed (λ_ z=>by cases z),ed⟩,hn,en,Reps.noL g ds _ (by simpa [D.noL] using n) r⟩
theorem Reps.noL(g:Lists M' H):∀ (ds:List D) (vs:List V),D.noLs ds=true->Reps K F M H ds vs->Reps K F (λp=>M p\/M' p) H ds vs
 | [],_,_,h=>h
 | d :: ds,_,n,h=>by
  obtain ⟨v,us,rfl,h1,h2⟩:=h
  simp only [D.noLs,Bool.and_eq_true] at n
  exact ⟨v,us,rfl,Rep.noL g d v n.1 h1,Reps.noL g ds us n.2 h2⟩
end
theorem Reps.length:∀ {ds:List D} {vs:List V},Reps K F M H ds vs->vs.length=ds.length
 | [],_,h=>by rw [show _=[] from h];rfl
 | d :: ds,_,h=>by
  obtain ⟨v,us,rfl,_,h2⟩:=h
  rw [Za0,Za0,Reps.length h2]
theorem Reps.get:∀ {ds:List D} {vs:List V} {i:Nat} {d:D},Reps K F M H ds vs->ds[i]?=some d->∃ v,vs[i]?=some v/\Rep K F M H d v
 | [],_,i,d,_,h=>by simp at h
 | e :: ds,_,i,d,h,hi=>by
  obtain ⟨v,us,rfl,h1,h2⟩:=h
  cases i with
  | zero=>simp at hi;subst hi;exact ⟨v,rfl,h1⟩
  | succ i=>
   simp at hi
   obtain ⟨w,e1,e2⟩:=Reps.get h2 hi
   exact ⟨w,by simpa using e1,e2⟩
theorem Reps.append:∀ {ds es:List D} {vs ws:List V},Reps K F M H ds vs->Reps K F M H es ws->Reps K F M H (ds ++ es) (vs ++ ws)
 | [],_,_,_,h,h'=>by rw [show _=[] from h];exact h'
 | d :: ds,_,_,_,h,h'=>by
  obtain ⟨v,us,rfl,h1,h2⟩:=h
  exact ⟨v,us ++ _,rfl,h1,Reps.append h2 h'⟩
theorem Reps.one{d:D}{v:V}(h:Rep K F M H d v):Reps K F M H [d] [v]:=⟨v,[],rfl,h,rfl⟩
theorem Reps.cons{d:D}{v:V}{ds:List D}{vs:List V}(h:Rep K F M H d v)(h':Reps K F M H ds vs):Reps K F M H (d :: ds) (v :: vs):=⟨v,vs,rfl,h,h'⟩
theorem Reps.set:∀ {ds:List D} {vs:List V} {i:Nat} {d:D} {v:V},Reps K F M H ds vs->Rep K F M H d v->Reps K F M H (ds.set i d) (vs.set i v)
 | [],_,i,d,v,h,_=>by rw [show _=[] from h];exact rfl
 | e :: ds,_,i,d,v,h,hd=>by
  obtain ⟨w,us,rfl,h1,h2⟩:=h
  cases i with
  | zero=>exact ⟨v,us,rfl,hd,h2⟩
  | succ i=>exact ⟨w,us.set i v,rfl,h1,Reps.set h2 hd⟩
theorem Reps.drop:∀ {ds:List D} {vs:List V} (n:Nat),Reps K F M H ds vs->Reps K F M H (ds.drop n) (vs.drop n)
 | _,_,0,h=>h
 | [],_,n+1,h=>by rw [show _=[] from h];exact rfl
 | e :: ds,_,n+1,h=>by
  obtain ⟨w,us,rfl,h1,h2⟩:=h
  exact Reps.drop n h2
theorem Reps.take:∀ {ds:List D} {vs:List V} (n:Nat),Reps K F M H ds vs->Reps K F M H (ds.take n) (vs.take n)
 | _,_,0,h=>rfl
 | [],_,n+1,h=>by rw [show _=[] from h];exact rfl
 | e :: ds,_,n+1,h=>by
  obtain ⟨w,us,rfl,h1,h2⟩:=h
  exact ⟨w,us.take n,rfl,h1,Reps.take n h2⟩
theorem Reps.ints:∀ {ns:List Int} {vs:List V},Reps K F M H (ns.map D.int) vs->vs=ns.map V.int
 | [],_,h=>h
 | n :: ns,_,h=>by
  obtain ⟨w,us,rfl,h1,h2⟩:=h
  rw [show w=V.int n from h1,Reps.ints h2]
  rfl
theorem RRats.reps:∀ {qs:List Rat} {vs:List V},RRats K F M H qs vs->Reps K F M H (qs.map D.rat) vs
 | [],_,h=>h
 | q :: qs,_,h=>by
  obtain ⟨w,us,rfl,h1,h2⟩:=h
  exact ⟨w,us,rfl,h1,RRats.reps h2⟩
theorem RRats.of:∀ {qs:List Rat} {vs:List V},Reps K F M H (qs.map D.rat) vs->RRats K F M H qs vs
 | [],_,h=>h
 | q :: qs,_,h=>by
  obtain ⟨w,us,rfl,h1,h2⟩:=h
  exact ⟨w,us,rfl,h1,RRats.of h2⟩
end
structure Gr (K:W.Frag) (F:Fd) (H H':Hp):Prop where
 old:∀ b o,H b=some o->F.no b->H' b=some o
 feed:∀ f c,F.f=some f->FeedC K H f c->FeedC K H' f c
 tab:Tabs F.T H->Tabs F.T H'
theorem FeedC.same{K:W.Frag}{H H':Hp}{f c:Addr}(s:Same H H')(h:FeedC K H f c):FeedC K H' f c:=let ⟨ns,p,b,l,n,z,o,G,e⟩:=h;⟨ns,p,b,l,n,z,o,G.same s,s _ _ e⟩
theorem Gr.refl{K:W.Frag}{F:Fd}{H:Hp}:Gr K F H H:=⟨λ_ _ h _=>h,λ_ _ _ h=>h,λh=>h⟩
theorem Gr.trans{K:W.Frag}{F:Fd}{H H1 H2:Hp}(a:Gr K F H H1)(b:Gr K F H1 H2):Gr K F H H2:=⟨λc o h n=>b.old c o (a.old c o h n) n,λf c e h=>b.feed f c e (a.feed f c e h),λh=>b.tab (a.tab h)⟩
theorem Gr.same{K:W.Frag}{F:Fd}{H H':Hp}(s:Same H H'):Gr K F H H':=⟨λb o h _=>s b o h,λ_ _ _ h=>h.same s,λh=>h.ext s⟩
theorem Gr.new{K:W.Frag}{F:Fd}{H:Hp}{p:Addr}{o:HO}(n:H p=none):Gr K F H (upd H p o) := .same (qAgw n)
theorem Gr.goes{K:W.Frag}{F:Fd}{H H':Hp}{M:Addr->Prop}(g:Gr K F H H'):Goes F M H M H':=λp o h n m=>⟨g.old p o h n,m⟩
theorem FeedC.keep{K:W.Frag}{H:Hp}{f c p:Addr}{o:HO}(h:FeedC K H f c)(n:p≠f)(m:p≠c):FeedC K (upd H p o) f c:=by
 obtain ⟨ns,x,b,l,k,s,o',G,e⟩:=h
 refine ⟨ns,x,b,l,k,s,o',⟨by rw [upd_ne (Ne.symm n)];exact G.ob, ?_,G.ne,G.nn,G.p0,G.b0,G.l0,G.n0,G.s0⟩,by rw [upd_ne (Ne.symm m)];exact e⟩
 exact qAep (f:=p) qX4 (Ne.symm m) G.cs
def Mo(ow:List Nat)(σ:L2.St)(p:Addr):Prop:=∃ i,i∈ow/\σ[i]?=some (some (.ref p))
def Sl(R:D->V->Prop):Option (Option D)->Option (Option V)->Prop
 | some (some d),some (some v)=>R d v
 | some none,some none=>True
 | none,none=>True
 | _,_=>False
structure Wd where
 F:Fd
 M:Addr->Prop
 H0:Hp
abbrev Wd.Mx(w:Wd)(ow:List Nat)(σ:L2.St)(p:Addr):Prop:=w.M p\/Mo ow σ p
structure REnv (K:W.Frag) (Ta:List (Addr × Str)) (w:Wd) (ow:List Nat) (H:Hp) (σ:L2.St) (ρ:Env):Prop where
 gr:Gr K w.F w.H0 H
 live:∀ p,w.M p->∃ o,w.H0 p=some o
 nf:∀ p,w.M p->w.F.no p
 imm:∀ i,i ∉ ow->Sl (Rep K w.F (w.Mx ow σ) H) ρ[i]? σ[i]?
 own:∀ i,i∈ow->∃ p o d,σ[i]?=some (some (.ref p))/\ρ[i]?=some (some d)/\H p=some o/\RepO K w.F (w.Mx ow σ) H d o/\w.F.no p/\w.H0 p=none
 inj:∀ i,i∈ow->∀ j,j∈ow->i≠j->∀ p,σ[i]?=some (some (.ref p))->σ[j]?≠some (some (.ref p))
 feed:∀ f,w.F.f=some f->∃ c,FeedC K H f c/\¬ w.Mx ow σ c
 tab:Tabs w.F.T H
 ts:w.F.T=Ta
theorem Sl.mono{R R':D->V->Prop}(h:∀ d v,R d v->R' d v):∀ {a:Option (Option D)} {b:Option (Option V)},Sl R a b->Sl R' a b
 | some (some d),some (some v),z=>h d v z
 | some none,some none,z=>z
 | none,none,z=>z
section
variable {K:W.Frag} {w:Wd} {ow ow':List Nat} {H H':Hp} {σ:L2.St} {ρ:Env}
theorem REnv.grow(e:REnv K Ta w ow H σ ρ)(g:Gr K w.F H H'):REnv K Ta w ow H' σ ρ where
 gr:=e.gr.trans g
 live:=e.live
 nf:=e.nf
 imm i hi:=(e.imm i hi).mono λd v=>Rep.goes g.goes d v
 own i hi:=by
  obtain ⟨p,o,d,h1,h2,h3,h4,h5,h6⟩:=e.own i hi
  exact ⟨p,o,d,h1,h2,g.old _ _ h3 h5,h4.goes g.goes,h5,h6⟩
 inj:=e.inj
 feed f hf:=by
  obtain ⟨c,h1,h2⟩:=e.feed f hf
  exact ⟨c,g.feed f c hf h1,h2⟩
 tab:=g.tab e.tab
 ts:=e.ts
theorem REnv.free(e:REnv K Ta w ow H σ ρ)(hs:∀ i,i∈ow'->i∈ow):REnv K Ta w ow' H σ ρ:=by
 have sub:∀ p,w.Mx ow' σ p->w.Mx ow σ p:=λp h=>h.elim .inl λ⟨i,h1,h2⟩ => .inr ⟨i,hs i h1,h2⟩
 have go:Goes w.F (w.Mx ow σ) H (w.Mx ow' σ) H:=λp o h _ m=>⟨h,λz=>m (sub p z)⟩
 refine ⟨e.gr,e.live,e.nf,λi hi => ?_,λi hi => ?_,λi hi j hj=>e.inj i (hs i hi) j (hs j hj),λf hf => ?_,e.tab,e.ts⟩
 ·by_cases hm:i∈ow
  ·obtain ⟨p,o,d,h1,h2,h3,h4,h5,h6⟩:=e.own i hm
   rw [h1,h2]
   have nm:¬ w.Mx ow' σ p:=λz=>by
    rcases z with z | ⟨j,hj,z⟩
    ·obtain ⟨o',y⟩:=e.live p z
     rw [h6] at y;cases y
    ·by_cases hij:i=j
     ·rw [hij] at hi;exact hi hj
     ·exact e.inj i hm j (hs j hj) hij p h1 z
   have h4:=h4.goes go
   cases d with
   | lst ds=>obtain ⟨vs,rfl,r⟩:=h4;exact ⟨p,vs,rfl,⟨h5,nm⟩,h3,r⟩
   | ins C ns ds=>obtain ⟨dx,gs,rfl,en,r⟩:=h4;exact ⟨p,dx,gs,rfl,⟨h5,nm⟩,h3,en,r⟩
   | dct ks ds=>obtain ⟨gs,rfl,en,r⟩:=h4;exact ⟨p,gs,rfl,⟨h5,nm⟩,h3,en,r⟩
   | _=>exact h4.elim
  ·exact (e.imm i hm).mono λd v=>Rep.goes go d v
 ·obtain ⟨p,o,d,h1,h2,h3,h4,h5⟩:=e.own i (hs i hi)
  exact ⟨p,o,d,h1,h2,h3,h4.goes go,h5⟩
 ·obtain ⟨c,h1,h2⟩:=e.feed f hf
  exact ⟨c,h1,λz=>h2 (sub c z)⟩
end
end MR
namespace MR
open PySem PySem.Spec PyProof.Rows L2
abbrev XP:=Exn->Prop
abbrev FE:=Env->(D->Prop)->XP->Prop
abbrev FT:=Env->(Bool->Prop)->XP->Prop
abbrev FA:=Env->(List D->Prop)->XP->Prop
def RepXs(K:W.Frag)(F:Fd)(M:Addr->Prop)(H:Hp):List (Str × D)->List (Str × V)->Prop
 | [],gs=>gs=[]
 | (n,d) :: r,gs=>∃ v gr,gs=(n,v) :: gr/\Rep K F M H d v/\RepXs K F M H r gr
def RepX(K:W.Frag)(F:Fd)(M:Addr->Prop)(H:Hp)(cls:Value)(dd:Option Addr)(x:Exn):Prop:=
 cls = .ref (He.ga K x.cls)/\((x.fs=[]/\dd=none)\/∃ a gs,dd=some a/\F.no a/\H a=some (.xd gs)/\RepXs K F M H x.fs gs)
abbrev Post(K:W.Frag)(F:Fd)(M:Addr->Prop)(H:Hp)(P:D->Prop)(Q:VK):Prop:=∀ d v H',P d->Gr K F H H'->Rep K F M H' d v->Q v H'
abbrev PostX(K:W.Frag)(F:Fd)(M:Addr->Prop)(H:Hp)(X:XP)(E:XK):Prop:=∀ x cls dd H',X x->Gr K F H H'->RepX K F M H' cls dd x->E cls dd H'
def SE(K:W.Frag)(Ta:List (Addr × Str))(ow:List Nat)(E:L2.St->XK)(ta:TE)(fa:FE):Prop:=
 ∀ (w:Wd) (H:Hp) (σ:L2.St) (ρ:Env) (P:D->Prop) (X:XP) (Q:VK),REnv K Ta w ow H σ ρ->fa ρ P X->Post K w.F (w.Mx ow σ) H P Q->PostX K w.F w.M H X (E σ)->ta σ H Q
def STt(K:W.Frag)(Ta:List (Addr × Str))(ow:List Nat)(E:L2.St->XK)(ta:TT)(fa:FT):Prop:=
 ∀ (w:Wd) (H:Hp) (σ:L2.St) (ρ:Env) (P:Bool->Prop) (X:XP) (Q:Bool->Hp->Prop),REnv K Ta w ow H σ ρ->fa ρ P X->(∀ b H',P b->Gr K w.F H H'->Q b H')->PostX K w.F w.M H X (E σ)->ta σ H Q
def SA(K:W.Frag)(Ta:List (Addr × Str))(ow:List Nat)(E:L2.St->XK)(ta:TA)(fa:FA):Prop:=
 ∀ (w:Wd) (H:Hp) (σ:L2.St) (ρ:Env) (P:List D->Prop) (X:XP) (Q:List V->Hp->Prop),REnv K Ta w ow H σ ρ->fa ρ P X->(∀ ds vs H',P ds->Gr K w.F H H'->Reps K w.F (w.Mx ow σ) H' ds vs->Q vs H')->PostX K w.F w.M H X (E σ)->ta σ H Q
structure Lv (K:W.Frag) (F:Fd) (M:Addr->Prop) (H:Hp):Prop where
 m:∀ p,M p->∃ o,H p=some o
 f:∀ f,F.f=some f->∃ c,FeedC K H f c/\¬ M c
 nf:∀ p,M p->F.no p
 t:LamX.Tabs F.T H
section
variable {K:W.Frag} {F:Fd} {M:Addr->Prop} {H H':Hp}
theorem FeedC.some{f c:Addr}(h:FeedC K H f c):∃ o,H f=some o:=let ⟨_,_,_,_,_,_,_,G,_⟩:=h;⟨_,G.ob⟩
theorem Lv.ok(l:Lv K F M H){p:Addr}(n:H p=none):Ok F M p:=by
 refine ⟨qAj7 l.t n λz => ?_,λz => ?_⟩
 ·obtain ⟨c,h,_⟩:=l.f p z
  obtain ⟨o,e⟩:=h.some
  rw [n] at e;cases e
 ·obtain ⟨o,e⟩:=l.m p z
  rw [n] at e;cases e
theorem Lv.gr(l:Lv K F M H)(g:Gr K F H H'):Lv K F M H':=⟨λp m=>let ⟨o,e⟩:=l.m p m;⟨o,g.old _ _ e (l.nf p m)⟩,λf e=>let ⟨c,h,n⟩:=l.f f e;⟨c,g.feed f c e h,n⟩,l.nf,g.tab l.t⟩
end
section
variable {K:W.Frag} {w:Wd} {ow:List Nat} {H H':Hp} {σ:L2.St} {ρ:Env} {E:L2.St->XK}
theorem REnv.lv(e:REnv K Ta w ow H σ ρ):Lv K w.F (w.Mx ow σ) H:=by
 refine ⟨λp m => ?_,e.feed,λp m => ?_,e.tab⟩
 ·rcases m with m | ⟨i,hi,z⟩
  ·obtain ⟨o,h⟩:=e.live p m
   exact ⟨o,e.gr.old _ _ h (e.nf p m)⟩
  ·obtain ⟨p',o,d,h1,_,h3,_⟩:=e.own i hi
   rw [h1] at z;cases z
   exact ⟨o,h3⟩
 ·rcases m with m | ⟨i,hi,z⟩
  ·exact e.nf p m
  ·obtain ⟨p',o,d,h1,_,h3,_,h5,_⟩:=e.own i hi
   rw [h1] at z;cases z
   exact h5
theorem RepXs.sub{F:Fd}{M M':Addr->Prop}(hM:∀ p,M p->M' p):∀ {fs:List (Str × D)} {gs:List (Str × V)},RepXs K F M' H fs gs->RepXs K F M H fs gs
 | [],_,h=>h
 | (n,d) :: r,_,h=>by
  obtain ⟨v,gr,rfl,h1,h2⟩:=h
  exact ⟨v,gr,rfl,Rep.goes (λp o e _ m=>⟨e,λz=>m (hM p z)⟩) _ _ h1,RepXs.sub hM h2⟩
theorem RepX.sub{F:Fd}{M M':Addr->Prop}{cls:Value}{dd:Option Addr}{x:Exn}(hM:∀ p,M p->M' p)(h:RepX K F M' H cls dd x):RepX K F M H cls dd x:=by
 obtain ⟨h1,h2 | ⟨a,gs,h2,h3,h4,h5⟩⟩:=h
 ·exact ⟨h1, .inl h2⟩
 ·exact ⟨h1, .inr ⟨a,gs,h2,h3,h4,h5.sub hM⟩⟩
theorem PostX.gr{F:Fd}{M M':Addr->Prop}{X:XP}{E:XK}(h:PostX K F M H X E)(g:Gr K F H H')(hM:∀ p,M p->M' p:=by first | exact λ_ h=>h | exact λ_ h=>Or.inl h):PostX K F M' H' X E:=λx cls dd H2 hx g2 r=>h x cls dd H2 hx (g.trans g2) (r.sub hM)
def qAd(i:Nat):FE:=λρ P _=>∃ d,ρ[i]?=some (some d)/\P d
theorem qAa{i:Nat}(hi:i ∉ ow):SE K Ta ow E (tVar i) (qAd i):=by
 intro w H σ ρ P X Q e h q x
 obtain ⟨d,hd,p⟩:=h
 have:=e.imm i hi
 rw [hd] at this
 cases hv:σ[i]? with
 | none=>rw [hv] at this;exact this.elim
 | some o=>
  rw [hv] at this
  cases o with
  | none=>exact this.elim
  | some v=>exact ⟨v,hv,q d v H p .refl this⟩
def fC(d:D):FE:=λ_ P _=>P d
theorem qAg{i:Int}:SE K Ta ow E (tC (.int i)) (fC (.int i)):=λw H σ ρ P X Q e h q x=>q _ _ _ h .refl rfl
theorem qSp{i:Bool}:SE K Ta ow E (tC (.bl i)) (fC (.bl i)):=λw H σ ρ P X Q e h q x=>q _ _ _ h .refl rfl
theorem qXl{i:Str}:SE K Ta ow E (tC (.str i)) (fC (.str i)):=λw H σ ρ P X Q e h q x=>q _ _ _ h .refl rfl
theorem qT5:SE K Ta ow E (tC .non) (fC .non):=λw H σ ρ P X Q e h q x=>q _ _ _ h .refl rfl
abbrev O2:=D->D->(D->Prop)->XP->Prop
abbrev O1:=D->(D->Prop)->XP->Prop
abbrev OL:=List D->(D->Prop)->XP->Prop
def OpS(K:W.Frag)(E:XK)(r:R2)(o:O2):Prop:=∀ (F:Fd) (M:Addr->Prop) (H:Hp) (x y:V) (a b:D) (P:D->Prop) (X:XP) (Q:VK),Lv K F M H->Rep K F M H a x->Rep K F M H b y->o a b P X->Post K F M H P Q->PostX K F M H X E->r x y H Q
def UnS(K:W.Frag)(E:XK)(r:V->Hp->VK->Prop)(o:O1):Prop:=∀ (F:Fd) (M:Addr->Prop) (H:Hp) (x:V) (a:D) (P:D->Prop) (X:XP) (Q:VK),Lv K F M H->Rep K F M H a x->o a P X->Post K F M H P Q->PostX K F M H X E->r x H Q
def LsS(K:W.Frag)(E:XK)(r:List V->Hp->VK->Prop)(o:OL):Prop:=∀ (F:Fd) (M:Addr->Prop) (H:Hp) (xs:List V) (as:List D) (P:D->Prop) (X:XP) (Q:VK),Lv K F M H->Reps K F M H as xs->o as P X->Post K F M H P Q->PostX K F M H X E->r xs H Q
def fOp(o:O2)(fa fb:FE):FE:=λρ P X=>fa ρ (λa=>fb ρ (λb=>o a b P X) X) X
def fUn(o:O1)(fa:FE):FE:=λρ P X=>fa ρ (λa=>o a P X) X
def fLs(o:OL)(fa:FA):FE:=λρ P X=>fa ρ (λas=>o as P X) X
theorem qAf{r:R2}{o:O2}{ta tb:TE}{fa fb:FE}(ho:∀ σ,OpS K (E σ) r o)(ha:SE K Ta ow E ta fa)(hb:SE K Ta ow E tb fb):SE K Ta ow E (tOp r ta tb) (fOp o fa fb):=by
 intro w H σ ρ P X Q e h q x
 refine ha w H σ ρ _ X _ e h (λa va H1 h1 g1 r1 => ?_) x
 refine hb w H1 σ ρ _ X _ (e.grow g1) h1 (λb vb H2 h2 g2 r2 => ?_) (x.gr g1)
 exact ho σ _ _ H2 _ _ _ _ P X Q ((e.grow g1).grow g2).lv (Rep.goes g2.goes _ _ r1) r2 h2 (λd v H3 hd g3 r3=>q d v H3 hd ((g1.trans g2).trans g3) r3) (x.gr (g1.trans g2))
theorem qRt{r:V->Hp->VK->Prop}{o:O1}{ta:TE}{fa:FE}(ho:∀ σ,UnS K (E σ) r o)(ha:SE K Ta ow E ta fa):SE K Ta ow E (tUn r ta) (fUn o fa):=by
 intro w H σ ρ P X Q e h q x
 refine ha w H σ ρ _ X _ e h (λa va H1 h1 g1 r1 => ?_) x
 exact ho σ _ _ H1 _ _ P X Q (e.grow g1).lv r1 h1 (λd v H3 hd g3 r3=>q d v H3 hd (g1.trans g3) r3) (x.gr g1)
theorem qB7{r:List V->Hp->VK->Prop}{o:OL}{ta:TA}{fa:FA}(ho:∀ σ,LsS K (E σ) r o)(ha:SA K Ta ow E ta fa):SE K Ta ow E (tCB r ta) (fLs o fa):=by
 intro w H σ ρ P X Q e h q x
 refine ha w H σ ρ _ X _ e h (λa va H1 h1 g1 r1 => ?_) x
 exact ho σ _ _ H1 _ _ P X Q (e.grow g1).lv r1 h1 (λd v H3 hd g3 r3=>q d v H3 hd (g1.trans g3) r3) (x.gr g1)
def qAl:FA:=λ_ P _=>P []
def qAc(fa:FE)(fr:FA):FA:=λρ P X=>fa ρ (λa=>fr ρ (λas=>P (a :: as)) X) X
theorem qAe:SA K Ta ow E tNil qAl:=λw H σ ρ P X Q e h q x=>q _ _ _ h .refl rfl
theorem qAb{ta:TE}{tr:TA}{fa:FE}{fr:FA}(ha:SE K Ta ow E ta fa)(hr:SA K Ta ow E tr fr):SA K Ta ow E (tCons ta tr) (qAc fa fr):=by
 intro w H σ ρ P X Q e h q x
 refine ha w H σ ρ _ X _ e h (λa va H1 h1 g1 r1 => ?_) x
 refine hr w H1 σ ρ _ X _ (e.grow g1) h1 (λb vb H2 h2 g2 r2 => ?_) (x.gr g1)
 exact q _ _ H2 h2 (g1.trans g2) (.cons (Rep.goes g2.goes _ _ r1) r2)
def toB(k:Bool->Prop):D->Prop
 | .bl b=>k b
 | _=>False
theorem qTv{k:Bool->Prop}{d:D}(h:toB k d):∃ b,d = .bl b/\k b:=by
 cases d with
 | bl b=>exact ⟨b,rfl,h⟩
 | _=>exact h.elim
def fB(fa:FE):FT:=λρ P X=>fa ρ (toB P) X
theorem qL1{ta:TE}{fa:FE}(ha:SE K Ta ow E ta fa):STt K Ta ow E (tB ta) (fB fa):=by
 intro w H σ ρ P X Q e h q x
 refine ha w H σ ρ _ X _ e h (λa va H1 h1 g1 r1 => ?_) x
 obtain ⟨b,rfl,p⟩:=qTv h1
 exact ⟨b,r1,q b H1 p g1⟩
theorem qCl{ta:TE}{fa:FE}(ha:SE K Ta ow E ta fa):STt K Ta ow E (tTest ta) (fB fa):=by
 intro w H σ ρ P X Q e h q x
 refine ha w H σ ρ _ X _ e h (λa va H1 h1 g1 r1 => ?_) x
 obtain ⟨b,rfl,p⟩:=qTv h1
 exact ⟨b,r1,q b H1 p g1⟩
def qMa(fa:FT):FT:=λρ P X=>fa ρ (λb=>P (!b)) X
theorem qFc{ta:TT}{fa:FT}(ha:STt K Ta ow E ta fa):STt K Ta ow E (tNot ta) (qMa fa):=by
 intro w H σ ρ P X Q e h q x
 exact ha w H σ ρ _ X _ e h (λb H1 h1 g1=>q _ H1 h1 g1) x
def fAnd(fa fb:FT):FT:=λρ P X=>fa ρ (λc=>if c=true then fb ρ P X else P false) X
theorem qAif{ta tb:TT}{fa fb:FT}(ha:STt K Ta ow E ta fa)(hb:STt K Ta ow E tb fb):STt K Ta ow E (tAnd ta tb) (fAnd fa fb):=by
 intro w H σ ρ P X Q e h q x
 refine ha w H σ ρ _ X _ e h (λb H1 h1 g1 => ?_) x
 cases b with
 | true=>exact hb w H1 σ ρ _ X _ (e.grow g1) h1 (λb2 H2 h2 g2=>q _ H2 h2 (g1.trans g2)) (x.gr g1)
 | false=>exact q _ H1 h1 g1
def fOr(fa fb:FT):FT:=λρ P X=>fa ρ (λc=>if c=true then P true else fb ρ P X) X
theorem qNo{ta tb:TT}{fa fb:FT}(ha:STt K Ta ow E ta fa)(hb:STt K Ta ow E tb fb):STt K Ta ow E (tOr ta tb) (fOr fa fb):=by
 intro w H σ ρ P X Q e h q x
 refine ha w H σ ρ _ X _ e h (λb H1 h1 g1 => ?_) x
 cases b with
 | false=>exact hb w H1 σ ρ _ X _ (e.grow g1) h1 (λb2 H2 h2 g2=>q _ H2 h2 (g1.trans g2)) (x.gr g1)
 | true=>exact q _ H1 h1 g1
def qNe(fa fb:FE):FE:=λρ P X=>fa ρ (toB λc=>if c=true then fb ρ P X else P (.bl false)) X
theorem qKr{ta tb:TE}{fa fb:FE}(ha:SE K Ta ow E ta fa)(hb:SE K Ta ow E tb fb):SE K Ta ow E (tAndV ta tb) (qNe fa fb):=by
 intro w H σ ρ P X Q e h q x
 refine ha w H σ ρ _ X _ e h (λa va H1 h1 g1 r1 => ?_) x
 obtain ⟨b,rfl,p⟩:=qTv h1
 refine ⟨b,r1, ?_⟩
 cases b with
 | true=>exact hb w H1 σ ρ _ X _ (e.grow g1) p (λd v H2 h2 g2 r2=>q _ _ H2 h2 (g1.trans g2) r2) (x.gr g1)
 | false=>exact q _ _ H1 p g1 rfl
def fOrV(fa fb:FE):FE:=λρ P X=>fa ρ (toB λc=>if c=true then P (.bl true) else fb ρ P X) X
theorem qAih{ta tb:TE}{fa fb:FE}(ha:SE K Ta ow E ta fa)(hb:SE K Ta ow E tb fb):SE K Ta ow E (tOrV ta tb) (fOrV fa fb):=by
 intro w H σ ρ P X Q e h q x
 refine ha w H σ ρ _ X _ e h (λa va H1 h1 g1 r1 => ?_) x
 obtain ⟨b,rfl,p⟩:=qTv h1
 refine ⟨b,r1, ?_⟩
 cases b with
 | false=>exact hb w H1 σ ρ _ X _ (e.grow g1) p (λd v H2 h2 g2 r2=>q _ _ H2 h2 (g1.trans g2) r2) (x.gr g1)
 | true=>exact q _ _ H1 p g1 rfl
def qUr(fa:FE):FE:=λρ P X=>fa ρ (toB λc=>P (.bl (!c))) X
theorem qAfj{ta:TE}{fa:FE}(ha:SE K Ta ow E ta fa):SE K Ta ow E (tNotV ta) (qUr fa):=by
 intro w H σ ρ P X Q e h q x
 refine ha w H σ ρ _ X _ e h (λa va H1 h1 g1 r1 => ?_) x
 obtain ⟨b,rfl,p⟩:=qTv h1
 exact ⟨b,r1,q _ _ H1 p g1 rfl⟩
def fIf(fc:FT)(fa fb:FE):FE:=λρ P X=>fc ρ (λc=>if c=true then fa ρ P X else fb ρ P X) X
theorem qArd{tc:TT}{ta tb:TE}{fc:FT}{fa fb:FE}(hc:STt K Ta ow E tc fc)(ha:SE K Ta ow E ta fa)(hb:SE K Ta ow E tb fb):SE K Ta ow E (tIf tc ta tb) (fIf fc fa fb):=by
 intro w H σ ρ P X Q e h q x
 refine hc w H σ ρ _ X _ e h (λb H1 h1 g1 => ?_) x
 cases b with
 | false=>exact hb w H1 σ ρ _ X _ (e.grow g1) h1 (λd v H2 h2 g2 r2=>q _ _ H2 h2 (g1.trans g2) r2) (x.gr g1)
 | true=>exact ha w H1 σ ρ _ X _ (e.grow g1) h1 (λd v H2 h2 g2 r2=>q _ _ H2 h2 (g1.trans g2) r2) (x.gr g1)
def truD:D->Option Bool
 | .non=>some false
 | .bl b=>some b
 | .int i=>some (i != 0)
 | .lst ds=>some !ds.isEmpty
 | .tup ds=>some !ds.isEmpty
 | _=>none
theorem qO0{F:Fd}{M:Addr->Prop}:∀ {ds:List D} {vs:List V},Reps K F M H ds vs->vs.isEmpty=ds.isEmpty
 | [],_,h=>by rw [show _=[] from h];rfl
 | _ :: _,_,h=>by obtain ⟨v,us,rfl,_,_⟩:=h;rfl
def fTru(fa:FE):FT:=λρ P X=>fa ρ (λd=>∃ k,truD d=some k/\P k) X
theorem qYm{ta:TE}{fa:FE}(ha:SE K Ta ow E ta fa):STt K Ta ow E (qAen K ta) (fTru fa):=by
 intro w H σ ρ P X Q e h q x
 refine ha w H σ ρ _ X _ e h (λa va H1 h1 g1 r1 => ?_) x
 obtain ⟨k,hk,p⟩:=h1
 refine ⟨k, ?_,q k H1 p g1⟩
 cases a with
 | non=>rw [show va = .non from r1];exact (Option.some.inj hk).symm
 | bl b=>rw [show va = .bl b from r1];exact (Option.some.inj hk).symm
 | int b=>rw [show va = .int b from r1];exact (Option.some.inj hk).symm
 | lst ds=>
  obtain ⟨p',vs,rfl,ok,e1,r⟩:=r1
  cases hk
  exact .inl ⟨vs,SqL.of e1,by rw [qO0 r]⟩
 | tup ds=>
  obtain ⟨p',vs,rfl,ok,e1,r⟩:=r1
  cases hk
  exact .inr (.inl ⟨vs,SqT.of e1,by rw [qO0 r]⟩)
 | _=>cases hk
def qKd(fa:FA):FE:=λρ P X=>fa ρ (λds=>ds.length<=sizeLine/\P (.lst ds)) X
def qN2(fa:FA):FE:=λρ P X=>fa ρ (λds=>ds.length<=sizeLine/\P (.tup ds)) X
theorem qQ5{F:Fd}{M:Addr->Prop}{p:Addr}{ds:List D}{vs:List V}(l:Lv K F M H)(np:H p=none)(r:Reps K F M H ds vs):Rep K F M (upd H p (.lst vs)) (.lst ds) (.ref p):=
 ⟨p,vs,rfl,l.ok np,upd_same,Reps.goes (Gr.new (K:=K) np).goes _ _ r⟩
theorem qQn{F:Fd}{M:Addr->Prop}{p:Addr}{ds:List D}{vs:List V}(l:Lv K F M H)(np:H p=none)(r:Reps K F M H ds vs):Rep K F M (upd H p (.tup vs)) (.tup ds) (.ref p):=
 ⟨p,vs,rfl,l.ok np,upd_same,Reps.goes (Gr.new (K:=K) np).goes _ _ r⟩
theorem qJ5{ta:TA}{fa:FA}(ha:SA K Ta ow E ta fa):SE K Ta ow E (tLst ta) (qKd fa):=by
 intro w H σ ρ P X Q e h q x
 refine ha w H σ ρ _ X _ e h (λds vs H1 h1 g1 r1=>⟨by rw [r1.length];exact h1.1,λp np => ?_⟩) x
 exact q _ _ _ h1.2 (g1.trans (.new np)) (qQ5 (e.grow g1).lv np r1)
theorem qNj{ta:TA}{fa:FA}(ha:SA K Ta ow E ta fa):SE K Ta ow E (tTup ta) (qN2 fa):=by
 intro w H σ ρ P X Q e h q x
 refine ha w H σ ρ _ X _ e h (λds vs H1 h1 g1 r1=>⟨by rw [r1.length];exact h1.1,λp np => ?_⟩) x
 exact q _ _ _ h1.2 (g1.trans (.new np)) (qQn (e.grow g1).lv np r1)
abbrev FSp:=List D->(D->Prop)->XP->Prop
def lift(K:W.Frag)(fsp:FSp):Sp:=λvs H Q E=>∃ (F:Fd) (M:Addr->Prop) (ds:List D) (P:D->Prop) (X:XP),Lv K F M H/\Reps K F M H ds vs/\fsp ds P X/\Post K F M H P Q/\PostX K F M H X E
def Lift(K:W.Frag)(sp:Sp)(fsp:FSp):Prop:=∀ vs H Q E,lift K fsp vs H Q E->sp vs H Q E
theorem Lift.refl{fsp:FSp}:Lift K (lift K fsp) fsp:=λ_ _ _ _ h=>h
def qJn(fsp:FSp)(es:List D)(fa:FA):FE:=λρ P X=>fa ρ (λds=>fsp (ds ++ es) P X) X
def qAs(fsp:FSp)(es:List D)(fa:FA):FE:=λρ P X=>fa ρ (λds=>fsp (ds ++ es) P (λ_=>False)) X
def Cst:List D->List V->Prop
 | [],vs=>vs=[]
 | d :: ds,vs=>∃ v us,vs=v :: us/\(∀ (F:Fd) (M:Addr->Prop) (H:Hp),Rep K F M H d v)/\Cst ds us
theorem Cst.reps{F:Fd}{M:Addr->Prop}{H:Hp}:∀ {ds:List D} {vs:List V},Cst (K:=K) ds vs->Reps K F M H ds vs
 | [],_,h=>h
 | _ :: _,_,h=>by obtain ⟨v,us,rfl,h1,h2⟩:=h;exact ⟨v,us,rfl,h1 F M H,Cst.reps h2⟩
theorem qAn:Cst (K:=K) [] []:=rfl
theorem qRd{i:Int}{ds:List D}{vs:List V}(h:Cst (K:=K) ds vs):Cst (K:=K) (.int i :: ds) (.int i :: vs):=⟨_,_,rfl,λ_ _ _=>rfl,h⟩
theorem qP4{sp:Sp}{fsp:FSp}{dvs:List V}{es:List D}{ta:TA}{fa:FA}{E1:XK}(L:Lift K sp fsp)(c:Cst (K:=K) es dvs)(ha:SA K Ta ow (λ_=>E1) ta fa):SE K Ta ow (λ_=>E1) (tCall sp dvs E1 ta) (qJn fsp es fa):=by
 intro w H σ ρ P X Q e h q x
 refine ha w H σ ρ _ X _ e h (λds vs H1 h1 g1 r1=>L _ _ _ _ ?_) x
 exact ⟨_,_,_,P,X,(e.grow g1).lv,r1.append c.reps,h1,λd v H2 hd g2 r2=>q d v H2 hd (g1.trans g2) r2,x.gr g1⟩
theorem qAr{sp:Sp}{fsp:FSp}{dvs:List V}{es:List D}{ta:TA}{fa:FA}(L:Lift K sp fsp)(c:Cst (K:=K) es dvs)(ha:SA K Ta ow E ta fa):SE K Ta ow E (tCall sp dvs E0 ta) (qAs fsp es fa):=by
 intro w H σ ρ P X Q e h q x
 refine ha w H σ ρ _ X _ e h (λds vs H1 h1 g1 r1=>L _ _ _ _ ?_) x
 exact ⟨_,_,_,P,_,(e.grow g1).lv,r1.append c.reps,h1,λd v H2 hd g2 r2=>q d v H2 hd (g1.trans g2) r2,λx' _ _ _ z _ _=>z⟩
theorem qAf5{sp:Sp}{fsp:FSp}{dvs:List V}{es:List D}{ta:TA}{fa:FA}(L:Lift K sp fsp)(c:Cst (K:=K) es dvs)(ha:SA K Ta ow E ta fa):SE K Ta ow E (tCallSD sp dvs E ta) (qJn fsp es fa):=by
 intro w H σ ρ P X Q e h q x
 refine ha w H σ ρ _ X _ e h (λds vs H1 h1 g1 r1=>L _ _ _ _ ?_) x
 exact ⟨_,_,_,P,X,(e.grow g1).lv,r1.append c.reps,h1,λd v H2 hd g2 r2=>q d v H2 hd (g1.trans g2) r2,x.gr g1⟩
def MkL(K:W.Frag)(C:Addr)(sp:Sp)(fsp:FSp):Prop:=∀ (F:Fd) (M:Addr->Prop) (H:Hp) (ds:List D) (vs:List V) (P:D->Prop) (X:XP) (Q:VK) (E:XK) (x dx:Addr),Lv K F M H->Reps K F M H ds vs->fsp ds P X->Post K F M H P Q->PostX K F M H X E->H x=none->H dx=none->dx≠x->
 sp (.ref x :: vs) (upd (upd H dx (.own x)) x (.ins C dx [])) (λv H2=>v = .non/\Q (.ref x) H2) E
theorem qVk{C:Addr}{sp:Sp}{fsp:FSp}{dvs:List V}{es:List D}{ta:TA}{fa:FA}{E1:XK}(L:MkL K C sp fsp)(c:Cst (K:=K) es dvs)(ha:SA K Ta ow (λ_=>E1) ta fa):SE K Ta ow (λ_=>E1) (tMake C sp dvs E1 ta) (qJn fsp es fa):=by
 intro w H σ ρ P X Q e h q x
 refine ha w H σ ρ _ X _ e h (λds vs H1 h1 g1 r1 xx dx n1 n2 ne => ?_) x
 exact L _ _ H1 _ _ P X Q _ xx dx (e.grow g1).lv (r1.append c.reps) h1 (λd v H2 hd g2 r2=>q d v H2 hd (g1.trans g2) r2) (x.gr g1) n1 n2 ne
theorem qFq{C:Addr}{sp:Sp}{fsp:FSp}{dvs:List V}{es:List D}{ta:TA}{fa:FA}(L:MkL K C sp fsp)(c:Cst (K:=K) es dvs)(ha:SA K Ta ow E ta fa):SE K Ta ow E (tMake C sp dvs E0 ta) (qAs fsp es fa):=by
 intro w H σ ρ P X Q e h q x
 refine ha w H σ ρ _ X _ e h (λds vs H1 h1 g1 r1 xx dx n1 n2 ne => ?_) x
 exact L _ _ H1 _ _ P _ Q _ xx dx (e.grow g1).lv (r1.append c.reps) h1 (λd v H2 hd g2 r2=>q d v H2 hd (g1.trans g2) r2) (λx' _ _ _ z _ _=>z) n1 n2 ne
def InsD(C m:Str):D->Prop
 | .rat _=>C="Ratio"/\m≠"top"/\m≠"bottom"
 | .poly _=>C="Poly"/\m≠"coefficients"/\m≠"degree"/\m≠"lead"
 | .ins C' ns _=>C'=C/\m ∉ ns
 | _=>False
theorem qFw{m:Str}:∀ {gs:List (Str × V)},m ∉ gs.map Prod.fst->gs.lookup m=none
 | [],_=>rfl
 | (n,v) :: gs,h=>by
  simp only [List.map_cons,List.mem_cons,not_or] at h
  have hb:(m == n)=false:=beq_eq_false_iff_ne.mpr h.1
  simp only [List.lookup,hb]
  exact qFw h.2
theorem InsD.at{C m:Str}{F:Fd}{M:Addr->Prop}{d:D}{v:V}(h:InsD C m d)(r:Rep K F M H d v):∃ a dx fs,v = .ref a/\H a=some (.ins (He.ga K C) dx fs)/\fs.lookup m=none:=by
 cases d with
 | rat q=>
  obtain ⟨rfl,n1,n2⟩:=h
  obtain ⟨p,rfl,_,dx,e⟩:=r
  exact ⟨p,dx,_,rfl,e,qFw (by simp [ratF,n1,n2])⟩
 | poly cs=>
  obtain ⟨rfl,n1,n2,n3⟩:=h
  obtain ⟨p,dx,t,l,vs,rfl,_,e,_⟩:=r
  exact ⟨p,dx,_,rfl,e,qFw (by simp [qZ9,n1,n2,n3])⟩
 | ins C' ns ds=>
  obtain ⟨rfl,n1⟩:=h
  obtain ⟨p,dx,gs,rfl,_,e,en,_⟩:=r
  exact ⟨p,dx,_,rfl,e,qFw (by rw [en];exact n1)⟩
 | _=>exact h.elim
def qAce(C m:Str)(fsp:FSp)(fo:FE)(fa:FA):FE:=λρ P X=>fo ρ (λo=>InsD C m o/\fa ρ (λds=>fsp (o :: ds) P X) X) X
def qAcv(C m:Str)(fsp:FSp)(fo:FE)(fa:FA):FE:=λρ P X=>fo ρ (λo=>InsD C m o/\fa ρ (λds=>fsp (o :: ds) P (λ_=>False)) X) X
theorem qAlz{C m:Str}{sp:Sp}{fsp:FSp}{to:TE}{ta:TA}{fo:FE}{fa:FA}{E1:XK}(L:Lift K sp fsp)(ho:SE K Ta ow (λ_=>E1) to fo)(ha:SA K Ta ow (λ_=>E1) ta fa):SE K Ta ow (λ_=>E1) (tMeth (He.ga K C) m sp [] E1 to ta) (qAce C m fsp fo fa):=by
 intro w H σ ρ P X Q e h q x
 refine ho w H σ ρ _ X _ e h (λo vo H1 h1 g1 r1 => ?_) x
 obtain ⟨a,dx,fs,e1,e2,e3⟩:=h1.1.at r1
 refine ⟨a,dx,fs,e1,e2,e3,ha w H1 σ ρ _ X _ (e.grow g1) h1.2 (λds vs H2 h2 g2 r2=>L _ _ _ _ ?_) (x.gr g1)⟩
 refine ⟨_,_,_,P,X,((e.grow g1).grow g2).lv, .cons (Rep.goes g2.goes _ _ r1) (by rw [List.append_nil];exact r2),h2,λd v H2 hd g3 r2=>q d v H2 hd ((g1.trans g2).trans g3) r2,x.gr (g1.trans g2)⟩
def fldD(f:Str):D->Option D
 | .rat q=>if f="top" then some (.int q.num) else if f="bottom" then some (.int (q.den:Nat)) else none
 | .poly cs=>if f="coefficients" then some (.tup (cs.map D.rat)) else if f="degree" then some (.int ((cs.length:Int) - 1)) else if f="lead" then some (.rat (qAm cs)) else none
 | .ins _ ns ds=>(ns.zip ds).lookup f
 | _=>none
def qQy:D->Option Str
 | .rat _=>some "Ratio"
 | .poly _=>some "Poly"
 | .ins C _ _=>some C
 | _=>none
theorem qPb{F:Fd}{M:Addr->Prop}{f:Str}{d:D}:∀ {gs:List (Str × V)} {ds:List D},Reps K F M H ds (gs.map Prod.snd)->((gs.map Prod.fst).zip ds).lookup f=some d->∃ v,gs.lookup f=some v/\Rep K F M H d v
 | [],_,_,h=>by simp at h
 | (n,v) :: gs,[],r,h=>by simp at h
 | (n,v) :: gs,e :: ds,r,h=>by
  obtain ⟨u,us,e1,r1,r2⟩:=r
  simp only [List.map_cons,List.cons.injEq] at e1
  obtain ⟨rfl,rfl⟩:=e1
  simp only [List.map_cons,List.zip_cons_cons,List.lookup] at h ⊢
  split at h
  ·cases h
   exact ⟨v,rfl,r1⟩
  ·exact qPb r2 h
structure FldOk (K:W.Frag) (C f:Str):Prop where
 cl:Cls K (He.ga K C)
 na:NoAttr K (He.ga K C) f
theorem qAnw{C f:Str}{F:Fd}{M:Addr->Prop}{a d:D}{x:V}(T:FldOk K C f)(hc:qQy a=some C)(hf:fldD f a=some d)(r:Rep K F M H a x) :
  ∃ (ad:Addr) (Ca dx:Addr) (fs:List (Str × V)) (v:V),x = .ref ad/\H ad=some (.ins Ca dx fs)/\Cls K Ca/\NoAttr K Ca f/\fs.lookup f=some v/\Rep K F M H d v:=by
 cases a with
 | rat q=>
  cases hc
  obtain ⟨p,rfl,ok,dx,e⟩:=r
  refine ⟨p,CR K,dx,ratF q, ?_⟩
  simp only [fldD] at hf
  split at hf
  ·rename_i h1
   cases hf
   exact ⟨_,rfl,e,T.cl,T.na,by rw [h1];exact qAg9 q,rfl⟩
  ·split at hf
   ·rename_i h1 h2
    cases hf
    exact ⟨_,rfl,e,T.cl,T.na,by rw [h2];exact qAgb q,rfl⟩
   ·cases hf
 | poly cs=>
  cases hc
  obtain ⟨p,dx,t,l,vs,rfl,ok,e,okt,et,rs,rl,n⟩:=r
  refine ⟨p,CP K,dx,qZ9 t l cs.length, ?_⟩
  have n1:(("degree":Str) == ("coefficients":Str))=false:=by decide +kernel
  have n2:(("lead":Str) == ("coefficients":Str))=false:=by decide +kernel
  have n3:(("lead":Str) == ("degree":Str))=false:=by decide +kernel
  simp only [fldD] at hf
  split at hf
  ·rename_i h1
   cases hf
   exact ⟨_,rfl,e,T.cl,T.na,by rw [h1];simp [qZ9,List.lookup],t,vs,rfl,okt,et,rs.reps⟩
  ·split at hf
   ·rename_i h1 h2
    cases hf
    exact ⟨_,rfl,e,T.cl,T.na,by rw [h2];simp [qZ9,List.lookup,n1],rfl⟩
   ·split at hf
    ·rename_i h1 h2 h3
     cases hf
     exact ⟨_,rfl,e,T.cl,T.na,by rw [h3];simp [qZ9,List.lookup,n2,n3],rl⟩
    ·cases hf
 | ins C' ns ds=>
  cases hc
  obtain ⟨p,dx,gs,rfl,ok,e,en,rs⟩:=r
  subst en
  obtain ⟨v,h1,h2⟩:=qPb rs hf
  exact ⟨p,_,dx,gs,v,rfl,e,T.cl,T.na,h1,h2⟩
 | _=>cases hc
def qFl(C f:Str)(fa:FE):FE:=λρ P X=>fa ρ (λa=>qQy a=some C/\∃ d,fldD f a=some d/\P d) X
theorem qAz{C f:Str}{ta:TE}{fa:FE}(T:FldOk K C f)(ha:SE K Ta ow E ta fa):SE K Ta ow E (tFld K ta f) (qFl C f fa):=by
 intro w H σ ρ P X Q e h q x
 refine ha w H σ ρ _ X _ e h (λa va H1 h1 g1 r1 => ?_) x
 obtain ⟨hc,d,hd,p⟩:=h1
 obtain ⟨ad,Ca,dx,fs,v,z1,z2,z3,z4,z5,z6⟩:=qAnw T hc hd r1
 exact ⟨ad,Ca,dx,fs,v,z1,z2,z3,z4,z5,q d v H1 p g1 z6⟩
def fBor(fa:FE):FE:=λρ P X=>fa ρ (λd=>d.noL=true/\P d) X
theorem REnv.lists{w:Wd}{σ:L2.St}{ρ:Env}(e:REnv K Ta w ow H σ ρ)(hl:∀ i,i∈ow->∃ ds,ρ[i]?=some (some (.lst ds))):Lists (Mo ow σ) H:=λp ⟨i,hi,z⟩=>by
 obtain ⟨p',o,d,h1,h2,h3,h4,_⟩:=e.own i hi
 obtain ⟨ds,h5⟩:=hl i hi
 rw [h1] at z;cases z
 rw [h2] at h5;cases h5
 obtain ⟨vs,rfl,_⟩:=h4
 exact ⟨vs,h3⟩
def qApc(ow:List Nat)(ρ:Env):Prop:=∀ i,i∈ow->∃ ds,ρ[i]?=some (some (.lst ds))
theorem qAnt{ta:TE}{fa:FE}(ha:SE K Ta [] E ta fa):SE K Ta ow E ta (λρ P X=>qApc ow ρ/\fBor fa ρ P X):=by
 intro w H σ ρ P X Q e h q x
 refine ha w H σ ρ _ X _ (e.free (λ_ h=>nomatch h)) h.2 (λd v H1 h1 g1 r1 => ?_) x
 have l:=(e.grow g1).lists h.1
 refine q d v H1 h1.2 g1 ?_
 have r2:=Rep.noL l d v h1.1 r1
 refine Rep.goes (λp o h1 _ m=>⟨h1,λz=>m ?_⟩) d v r2
 exact z.elim (λy => .inl (.inl y)) .inr
end
structure FEnds where
 nx:Env->Prop
 rt:D->Prop
 bk:Env->Prop
 ct:Env->Prop
 ex:Exn->Env->Prop
 rf:D->Prop
abbrev FS:=FEnds->Env->Prop
def New(K:W.Frag)(F:Fd)(M:Addr->Prop)(H0 H:Hp)(d:D)(v:V):Prop:=∃ p o,v = .ref p/\H0 p=none/\F.no p/\H p=some o/\RepO K F (λq=>M q\/q=p) H d o
structure EOk (K:W.Frag) (Ta:List (Addr × Str)) (w:Wd) (ow' owb owx:List Nat) (E:L2.St->XK) (N:L2.Ends) (FD:FEnds):Prop where
 nx:∀ ρ σ H,FD.nx ρ->REnv K Ta w ow' H σ ρ->N.nx σ H
 rt:∀ d v H,FD.rt d->Gr K w.F w.H0 H->Rep K w.F w.M H d v->N.rt v H
 bk:∀ ρ σ H,FD.bk ρ->REnv K Ta w owb H σ ρ->N.bk σ H
 ct:∀ ρ σ H,FD.ct ρ->REnv K Ta w owb H σ ρ->N.ct σ H
 ex:∀ x ρ σ H cls dd,FD.ex x ρ->REnv K Ta w owx H σ ρ->RepX K w.F w.M H cls dd x->E σ cls dd H
 rf:∀ d v H,FD.rf d->Gr K w.F w.H0 H->New K w.F w.M w.H0 H d v->N.rt v H
def SS(K:W.Frag)(Ta:List (Addr × Str))(ow ow' owb owx:List Nat)(E:L2.St->XK)(ts:TS)(fs:FS):Prop:=
 ∀ (w:Wd) (H:Hp) (σ:L2.St) (ρ:Env) (N:L2.Ends) (FD:FEnds),REnv K Ta w ow H σ ρ->fs FD ρ->EOk K Ta w ow' owb owx E N FD->ts N σ H
section
variable {K:W.Frag} {w:Wd} {ow ow' ow1 owb owx:List Nat} {H H':Hp} {σ:L2.St} {ρ:Env} {E:L2.St->XK} {N:L2.Ends} {FD:FEnds}
abbrev Sub(a b:List Nat):Prop:=∀ i,i∈a->i∈b
theorem EOk.px(k:EOk K Ta w ow' owb owx E N FD)(e:REnv K Ta w ow H σ ρ)(hs:Sub owx ow):PostX K w.F w.M H (λx=>FD.ex x ρ) (E σ):=λx cls dd H' hx g r=>k.ex x ρ σ H' cls dd hx ((e.grow g).free hs) r
def qC6:FS:=λFD ρ=>FD.nx ρ
theorem qBd(hs:Sub ow' ow):SS K Ta ow ow' owb owx E tNext qC6:=λw H σ ρ N FD e h k=>k.nx ρ σ H h (e.free hs)
def qBf(f g:FS):FS:=λFD ρ=>f { FD with nx:=g FD } ρ
theorem qAi{t u:TS}{f g:FS}(h1:SS K Ta ow ow1 owb owx E t f)(h2:SS K Ta ow1 ow' owb owx E u g):SS K Ta ow ow' owb owx E (tSeq t u) (qBf f g):=
 λw H σ ρ N FD e h k=>h1 w H σ ρ _ _ e h ⟨λρ' σ' H' h' e'=>h2 w H' σ' ρ' N FD e' h' k,k.rt,k.bk,k.ct,k.ex,k.rf⟩
theorem qIw{t:TS}{f:FS}(hs:Sub ow1 ow)(h:SS K Ta ow1 ow' owb owx E t f):SS K Ta ow ow' owb owx E t f:=λw H σ ρ N FD e q k=>h w H σ ρ N FD (e.free hs) q k
theorem qA8{α:Type}{l:List α}{i j:Nat}{x:α}:(l.set i x)[j]?=if i=j then (if j<l.length then some x else none) else l[j]?:=by
 rw [List.getElem?_set]
 split
 ·rename_i h;subst h;rfl
 ·rfl
theorem qAb2{i:Nat}{x:Option V}(hi:i ∉ ow)(p:Addr):Mo ow (σ.set i x) p↔Mo ow σ p:=by
 have:∀ j,j∈ow->(σ.set i x)[j]?=σ[j]?:=λj hj=>by
  rw [qA8,if_neg (λz=>hi (by rw [z];exact hj))]
 exact ⟨λ⟨j,hj,z⟩=>⟨j,hj,by rw [<-this j hj];exact z⟩,λ⟨j,hj,z⟩=>⟨j,hj,by rw [this j hj];exact z⟩⟩
theorem Sl.len{R:D->V->Prop}{i:Nat}(h:Sl R ρ[i]? σ[i]?):i<ρ.length↔i<σ.length:=by
 cases h1:ρ[i]? with
 | none=>
  cases h2:σ[i]? with
  | none=>
   have:=List.getElem?_eq_none_iff.mp h1
   have:=List.getElem?_eq_none_iff.mp h2
   omega
  | some b=>rw [h1,h2] at h;exact h.elim
 | some a=>
  cases h2:σ[i]? with
  | none=>rw [h1,h2] at h;cases a <;> exact h.elim
  | some b=>
   have:=(List.getElem?_eq_some_iff.mp h1).1
   have:=(List.getElem?_eq_some_iff.mp h2).1
   omega
theorem REnv.put{i:Nat}{d:D}{v:V}(e:REnv K Ta w ow H σ ρ)(hi:i ∉ ow)(r:Rep K w.F (w.Mx ow σ) H d v):REnv K Ta w ow H (σ.set i (some v)) (ρ.set i (some d)):=by
 have mm:∀ p,w.Mx ow (σ.set i (some v)) p↔w.Mx ow σ p:=λp=>or_congr .rfl (qAb2 hi p)
 have go:Goes w.F (w.Mx ow σ) H (w.Mx ow (σ.set i (some v))) H:=λp o h _ m=>⟨h,λz=>m ((mm p).mp z)⟩
 have same:∀ j,j∈ow->(σ.set i (some v))[j]?=σ[j]?/\(ρ.set i (some d))[j]?=ρ[j]?:=λj hj=>by
  have:i≠j:=λz=>hi (by rw [z];exact hj)
  rw [qA8,qA8,if_neg this,if_neg this]
  exact ⟨rfl,rfl⟩
 refine ⟨e.gr,e.live,e.nf,λj hj => ?_,λj hj => ?_,λj hj k hk n p => ?_,λf hf => ?_,e.tab,e.ts⟩
 ·rw [qA8,qA8]
  have z:=e.imm j hj
  split
  ·rename_i h
   have hl:=z.len
   by_cases hlt:j<ρ.length
   ·rw [if_pos hlt,if_pos (hl.mp hlt)]
    exact Rep.goes go d v r
   ·rw [if_neg hlt,if_neg (λy=>hlt (hl.mpr y))]
    trivial
  ·exact z.mono λd' v'=>Rep.goes go d' v'
 ·obtain ⟨p,o,d',h1,h2,h3,h4,h5⟩:=e.own j hj
  exact ⟨p,o,d',by rw [(same j hj).1];exact h1,by rw [(same j hj).2];exact h2,h3,h4.goes go,h5⟩
 ·rw [(same j hj).1,(same k hk).1]
  exact e.inj j hj k hk n p
 ·obtain ⟨c,h1,h2⟩:=e.feed f hf
  exact ⟨c,h1,λz=>h2 ((mm c).mp z)⟩
theorem REnv.take{i:Nat}{d:D}{p:Addr}{o:HO}(e:REnv K Ta w ow H σ ρ)(hi:i ∉ ow)(hl:i<σ.length)(np:H p=none)(g:Gr K w.F H H')(ho:H' p=some o)(r:RepO K w.F (λq=>w.Mx ow σ q\/q=p) H' d o):REnv K Ta w (i :: ow) H' (σ.set i (some (.ref p))) (ρ.set i (some d)):=by
 have ok:=e.lv.ok np
 have n0:w.H0 p=none:=by
  cases z:w.H0 p with
  | none=>rfl
  | some o'=>rw [e.gr.old _ _ z ok.1] at np;cases np
 have mm:∀ q,w.Mx (i :: ow) (σ.set i (some (.ref p))) q->w.Mx ow σ q\/q=p:=λq h=>by
  rcases h with h | ⟨j,hj,z⟩
  ·exact .inl (.inl h)
  ·rw [qA8] at z
   by_cases hij:i=j
   ·rw [if_pos hij,if_pos (by rw [<-hij];exact hl)] at z
    cases z;exact .inr rfl
   ·rw [if_neg hij] at z
    exact .inl (.inr ⟨j,(List.mem_cons.mp hj).elim (λy=>absurd y.symm hij) id,z⟩)
 have e':=e.grow g
 have dif:∀ q u,H q=some u->q≠p:=λq u h z=>by rw [z,np] at h;cases h
 have go:Goes w.F (w.Mx ow σ) H (w.Mx (i :: ow) (σ.set i (some (.ref p)))) H':=λq u h nf m=>⟨g.old _ _ h nf,λz=>(mm q z).elim m (dif q u h)⟩
 refine ⟨e'.gr,e.live,e.nf,λj hj => ?_,λj hj => ?_,λj hj k hk n q => ?_,λf hf => ?_,e'.tab,e.ts⟩
 ·have hij:i≠j:=λz=>hj (by rw [z];exact Zad)
  rw [qA8,qA8,if_neg hij,if_neg hij]
  exact (e.imm j λz=>hj (Zab _ z)).mono λd' v'=>Rep.goes go d' v'
 ·by_cases hij:i=j
  ·subst hij
   have hlr:i<ρ.length:=(e.imm i hi).len.mpr hl
   refine ⟨p,o,d,by rw [qA8,if_pos rfl,if_pos hl],by rw [qA8,if_pos rfl,if_pos hlr],ho, ?_,ok.1,n0⟩
   exact r.goes λq u hq nf m=>⟨hq,λz=>m (mm q z)⟩
  ·have hj':j∈ow:=(List.mem_cons.mp hj).elim (λy=>absurd y.symm hij) id
   obtain ⟨p',o',d',h1,h2,h3,h4,h5⟩:=e.own j hj'
   exact ⟨p',o',d',by rw [qA8,if_neg hij];exact h1,by rw [qA8,if_neg hij];exact h2,g.old _ _ h3 h5.1,h4.goes go,h5⟩
 ·have at_:∀ k,k∈i :: ow->i≠k->k∈ow/\(σ.set i (some (.ref p)))[k]?=σ[k]?:=λk hk n=>⟨(List.mem_cons.mp hk).elim (λy=>absurd y.symm n) id,by rw [qA8,if_neg n]⟩
  have me:(σ.set i (some (V.ref p)))[i]?=some (some (.ref p)):=by rw [qA8,if_pos rfl,if_pos hl]
  have ne:∀ k,k∈ow->σ[k]?≠some (some (.ref p)):=λk hk z=>by
   obtain ⟨p',o',d',h1,h2,h3,_⟩:=e.own k hk
   rw [h1] at z;cases z
   rw [np] at h3;cases h3
  by_cases hj':i=j
  ·subst hj'
   obtain ⟨k1,k2⟩:=at_ k hk n
   rw [me,k2]
   intro z;cases z
   exact ne k k1
  ·obtain ⟨j1,j2⟩:=at_ j hj hj'
   by_cases hk':i=k
   ·subst hk'
    rw [me,j2]
    intro z y;cases y
    exact ne j j1 z
   ·obtain ⟨k1,k2⟩:=at_ k hk hk'
    rw [j2,k2]
    exact e.inj j j1 k k1 n q
 ·obtain ⟨c,h1,h2⟩:=e.feed f hf
  refine ⟨c,g.feed f c hf h1,λz=>(mm c z).elim h2 λy => ?_⟩
  subst y
  obtain ⟨ns,a1,a2,a3,a4,a5,o',G,z'⟩:=h1
  rw [np] at z';cases z'
theorem REnv.chg{i:Nat}{d:D}{p:Addr}{o:HO}(e:REnv K Ta w ow H σ ρ)(hi:i∈ow)(hp:σ[i]?=some (some (.ref p)))(r:RepO K w.F (w.Mx ow σ) H d o):REnv K Ta w ow (upd H p o) σ (ρ.set i (some d)):=by
 obtain ⟨p',o',d',h1,h2,h3,h4,h5,h6⟩:=e.own i hi
 have pe:p'=p:=by
  rw [h1] at hp
  cases hp;rfl
 subst pe
 have mp:w.Mx ow σ p' := .inr ⟨i,hi,h1⟩
 have go:Goes w.F (w.Mx ow σ) H (w.Mx ow σ) (upd H p' o):=λq u h nf m=>⟨by rw [upd_ne (λz=>m (by rw [z];exact mp))];exact h,m⟩
 have hlr:i<ρ.length:=(List.getElem?_eq_some_iff.mp h2).1
 have fd:∀ f,w.F.f=some f->p'≠f:=λf hf z=>h5.1 (by rw [hf,z])
 refine ⟨⟨λb u h n => ?_,λf c hf h => ?_,λz=>qJ4 (e.gr.tab z) h3 h4.pl⟩,e.live,e.nf,λj hj => ?_,λj hj => ?_,e.inj,λf hf => ?_,qJ4 e.tab h3 h4.pl,e.ts⟩
 ·rw [upd_ne (λz=>by rw [z,h6] at h;cases h)]
  exact e.gr.old b u h n
 ·obtain ⟨c',k1,k2⟩:=e.feed f hf
  have k3:=e.gr.feed f c hf h
  have:c'=c:=by
   obtain ⟨_,_,_,_,_,_,_,G,_⟩:=k1
   obtain ⟨_,_,_,_,_,_,_,G',_⟩:=k3
   have z:=G.ob.symm.trans G'.ob
   simp only [Option.some.injEq,HO.lst.injEq,List.cons.injEq,V.ref.injEq] at z
   exact z.1
  subst this
  exact k3.keep (fd f hf) λz=>k2 (by rw [<-z];exact mp)
 ·have hij:i≠j:=λz=>hj (by rw [<-z];exact hi)
  rw [qA8,if_neg hij]
  exact (e.imm j hj).mono λd' v'=>Rep.goes go d' v'
 ·by_cases hij:i=j
  ·subst hij
   exact ⟨p',o,d,h1,by rw [qA8,if_pos rfl,if_pos hlr],upd_same,r.goes go,h5,h6⟩
  ·obtain ⟨q,u,d2,k1,k2,k3,k4,k5⟩:=e.own j hj
   refine ⟨q,u,d2,k1,by rw [qA8,if_neg hij];exact k2, ?_,k4.goes go,k5⟩
   rw [upd_ne (λz=>e.inj i hi j hj hij p' h1 (by rw [k1,z]))]
   exact k3
 ·obtain ⟨c,k1,k2⟩:=e.feed f hf
  exact ⟨c,k1.keep (fd f hf) λz=>k2 (by rw [<-z];exact mp),k2⟩
open Classical in
noncomputable def Wd.re (w:Wd) (M:Addr->Prop) (H:Hp):Wd := { w with H0:=λp=>if M p then none else H p }
theorem qYl{f c c':Addr}(k1:FeedC K H f c')(k3:FeedC K H f c):c'=c:=by
 obtain ⟨_,_,_,_,_,_,_,G,_⟩:=k1
 obtain ⟨_,_,_,_,_,_,_,G',_⟩:=k3
 have z:=G.ob.symm.trans G'.ob
 simp only [Option.some.injEq,HO.lst.injEq,List.cons.injEq,V.ref.injEq] at z
 exact z.1
theorem qAdr{M:Addr->Prop}{p:Addr}(h:M p):(w.re M H).H0 p=none:=if_pos h
theorem qFh{M:Addr->Prop}{p:Addr}(h:¬ M p):(w.re M H).H0 p=H p:=if_neg h
theorem REnv.nM(e:REnv K Ta w ow H σ ρ){p:Addr}{o:HO}(h:w.H0 p=some o):¬ Mo ow σ p:=λ⟨i,hi,z⟩=>by
 obtain ⟨p',o',d',h1,_,_,_,_,h6⟩:=e.own i hi
 rw [h1] at z;cases z
 rw [h6] at h;cases h
theorem FeedC.re{M:Addr->Prop}{f c:Addr}(h:FeedC K H f c)(h1:¬ M f)(h2:¬ M c):FeedC K (w.re M H).H0 f c:=by
 obtain ⟨ns,a1,a2,a3,a4,a5,o',G,e⟩:=h
 refine ⟨ns,a1,a2,a3,a4,a5,o',⟨by rw [qFh h1];exact G.ob, ?_,G.ne,G.nn,G.p0,G.b0,G.l0,G.n0,G.s0⟩,by rw [qFh h2];exact e⟩
 rcases G.cs with (h | ⟨o,h⟩) | h
 ·exact .inl (.inl (by rw [qFh h2];exact h))
 ·exact .inl (.inr ⟨o,by rw [qFh h2];exact h⟩)
 ·exact .inr h
theorem REnv.re(e:REnv K Ta w ow H σ ρ):REnv K Ta (w.re (Mo ow σ) H) ow H σ ρ:=by
 refine ⟨⟨λb o h n => ?_,λf c hf h => ?_,λ_=>e.tab⟩,λp m => ?_,e.nf,e.imm,λi hi => ?_,e.inj,e.feed,e.tab,e.ts⟩
 ·by_cases hm:Mo ow σ b
  ·rw [qAdr hm] at h;cases h
  ·rw [qFh hm] at h;exact h
 ·obtain ⟨ns,a1,a2,a3,a4,a5,o',G,e'⟩:=h
  have out:∀ {b:Addr} {u:HO},(w.re (Mo ow σ) H).H0 b=some u->H b=some u:=λ{b u} h=>by
   by_cases hm:Mo ow σ b
   ·rw [qAdr hm] at h;cases h
   ·rw [qFh hm] at h;exact h
  refine ⟨ns,a1,a2,a3,a4,a5,o',⟨out G.ob, ?_,G.ne,G.nn,G.p0,G.b0,G.l0,G.n0,G.s0⟩,out e'⟩
  rcases G.cs with (h | ⟨o,h⟩) | h
  ·exact .inl (.inl (out h))
  ·exact .inl (.inr ⟨o,out h⟩)
  ·exact .inr h
 ·obtain ⟨o,h⟩:=e.live p m
  rw [qFh (e.nM h)]
  exact ⟨o,e.gr.old _ _ h (e.nf p m)⟩
 ·obtain ⟨p,o,d,h1,h2,h3,h4,h5,h6⟩:=e.own i hi
  exact ⟨p,o,d,h1,h2,h3,h4,h5,qAdr ⟨i,hi,h1⟩⟩
theorem REnv.tabRe(e:REnv K Ta w ow H σ ρ):LamX.Tabs w.F.T (w.re (Mo ow σ) H).H0:=qUg e.tab λb o h n=>by
 rw [qFh]
 ·exact h
 ·rintro ⟨i,hi,z⟩
  obtain ⟨p',o',d',h1,_,h3,h4,_⟩:=e.own i hi
  rw [h1] at z;cases z
  rw [h] at h3;cases h3
  exact n h4.pl
theorem qAc6(e:REnv K Ta w ow H σ ρ):Gr K w.F w.H0 (w.re (Mo ow σ) H).H0:=by
 refine ⟨λb o h n => ?_,λf c hf h => ?_,λ_=>e.tabRe⟩
 ·rw [qFh (e.nM h)]
  exact e.gr.old b o h n
 ·have k:=e.gr.feed f c hf h
  obtain ⟨c',k1,k2⟩:=e.feed f hf
  have:=qYl k1 k
  subst this
  refine k.re (λ⟨i,hi,z⟩ => ?_) λz=>k2 (.inr z)
  obtain ⟨p',o',d',h1,_,_,_,h5,_⟩:=e.own i hi
  rw [h1] at z;cases z
  exact h5.1 hf
theorem REnv.un{H2:Hp}{σ2:L2.St}{ρ2:Env}{ow2:List Nat}(e:REnv K Ta w ow H σ ρ)(e2:REnv K Ta (w.re (Mo ow σ) H) ow2 H2 σ2 ρ2):REnv K Ta w ow2 H2 σ2 ρ2:=by
 refine ⟨(qAc6 e).trans e2.gr,e.live,e.nf,e2.imm,λi hi => ?_,e2.inj,e2.feed,e2.tab,e.ts⟩
 obtain ⟨p,o,d,h1,h2,h3,h4,h5,h6⟩:=e2.own i hi
 refine ⟨p,o,d,h1,h2,h3,h4,h5, ?_⟩
 cases z:w.H0 p with
 | none=>rfl
 | some o'=>
  rw [(qAc6 e).old p o' z h5] at h6
  cases h6
theorem New.un{H2:Hp}{d:D}{v:V}(e:REnv K Ta w ow H σ ρ)(h:New K w.F w.M (w.re (Mo ow σ) H).H0 H2 d v):New K w.F w.M w.H0 H2 d v:=by
 obtain ⟨p,o,rfl,h0,hn,h1,h2⟩:=h
 refine ⟨p,o,rfl, ?_,hn,h1,h2⟩
 cases z:w.H0 p with
 | none=>rfl
 | some o'=>
  rw [(qAc6 e).old p o' z hn] at h0
  cases h0
theorem REnv.goes{H2:Hp}{σ2:L2.St}{ρ2:Env}{ow2:List Nat}(e2:REnv K Ta (w.re (Mo ow σ) H) ow2 H2 σ2 ρ2):Goes w.F (w.Mx ow σ) H (w.Mx ow2 σ2) H2:=by
 intro p o h nf m
 have n:¬ Mo ow σ p:=λz=>m (.inr z)
 have h0:(w.re (Mo ow σ) H).H0 p=some o:=by rw [qFh n];exact h
 refine ⟨e2.gr.old p o h0 nf,λz => ?_⟩
 rcases z with z | z
 ·exact m (.inl z)
 ·exact e2.nM h0 z
end
def SF(K:W.Frag)(Ta:List (Addr × Str))(ow:List Nat)(E:L2.St->XK)(ta:TE)(fa:FE):Prop:=
 ∀ (w:Wd) (H:Hp) (σ:L2.St) (ρ:Env) (P:D->Prop) (X:XP) (Q:VK),REnv K Ta w ow H σ ρ->fa ρ P X->
  (∀ d p o H',P d->Gr K w.F H H'->H p=none->H' p=some o->RepO K w.F (λq=>w.Mx ow σ q\/q=p) H' d o->Q (.ref p) H')->PostX K w.F w.M H X (E σ)->ta σ H Q
section
variable {K:W.Frag} {w:Wd} {ow ow' ow1 owb owx:List Nat} {H H':Hp} {σ:L2.St} {ρ:Env} {E:L2.St->XK} {N:L2.Ends} {FD:FEnds}
theorem RepO.rep{F:Fd}{M:Addr->Prop}{d:D}{o:HO}{p:Addr}(r:RepO K F M H d o)(ok:Ok F M p)(h:H p=some o):Rep K F M H d (.ref p):=by
 cases d with
 | lst ds=>obtain ⟨vs,rfl,r⟩:=r;exact ⟨p,vs,rfl,ok,h,r⟩
 | ins C ns ds=>obtain ⟨dx,gs,rfl,en,r⟩:=r;exact ⟨p,dx,gs,rfl,ok,h,en,r⟩
 | dct ks ds=>obtain ⟨gs,rfl,en,r⟩:=r;exact ⟨p,gs,rfl,ok,h,en,r⟩
 | _=>exact r.elim
theorem SF.se{ta:TE}{fa:FE}(h:SF K Ta ow E ta fa):SE K Ta ow E ta fa:=by
 intro w H σ ρ P X Q e hf q x
 refine h w H σ ρ P X Q e hf (λd p o H' hd g np ho r=>q d _ H' hd g ?_) x
 have r2:RepO K w.F (w.Mx ow σ) H' d o:=r.goes λa u h _ m=>⟨h,λz=>m (.inl z)⟩
 exact r2.rep (e.lv.ok np) ho
theorem qM5{ta:TA}{fa:FA}(ha:SA K Ta ow E ta fa):SF K Ta ow E (tLst ta) (qKd fa):=by
 intro w H σ ρ P X Q e h q x
 refine ha w H σ ρ _ X _ e h (λds vs H1 h1 g1 r1=>⟨by rw [r1.length];exact h1.1,λp np => ?_⟩) x
 have n0:H p=none:=by
  cases z:H p with
  | none=>rfl
  | some o=>rw [g1.old p o z ((e.grow g1).lv.ok np).1] at np;cases np
 refine q _ p _ _ h1.2 (g1.trans (.new np)) n0 upd_same ⟨vs,rfl,Reps.goes (λa u h nf m => ?_) _ _ r1⟩
 have ne:a≠p:=λz=>by rw [z,np] at h;cases h
 exact ⟨by rw [upd_ne ne];exact h,λz=>z.elim m ne⟩
def qDo(i:Nat)(fe:FE):FS:=λFD ρ=>fe ρ (λd=>FD.nx (ρ.set i (some d))) (λx=>FD.ex x ρ)
theorem qBe{i:Nat}{te:TE}{fe:FE}(hi:i ∉ ow)(hs:Sub owx ow)(he:SE K Ta ow E te fe):SS K Ta ow ow owb owx E (tAsg te (gName i)) (qDo i fe):=by
 intro w H σ ρ N FD e h k
 exact he w H σ ρ _ _ _ e h (λd v H' hd g r=>k.nx _ _ _ hd ((e.grow g).put hi r)) (k.px e hs)
theorem qLp{i:Nat}{te:TE}{fe:FE}(hi:i ∉ ow)(hs:Sub owx ow)(he:SF K Ta ow E te fe):SS K Ta ow (i :: ow) owb owx E (tAsg te (gName i)) (λFD ρ=>i<ρ.length/\qDo i fe FD ρ):=by
 intro w H σ ρ N FD e h k
 have hl:i<σ.length:=(e.imm i hi).len.mp h.1
 exact he w H σ ρ _ _ _ e h.2 (λd p o H' hd g np ho r=>k.nx _ _ _ hd (e.take hi hl np g ho r)) (k.px e hs)
def fPar(i j:Nat)(fa:FA):FS:=λFD ρ=>fa ρ (λds=>∃ a b,ds=[a,b]/\FD.nx ((ρ.set i (some a)).set j (some b))) (λx=>FD.ex x ρ)
def qEz(fe:FE):FS:=λFD ρ=>fe ρ FD.rt (λx=>FD.ex x ρ)
theorem qBa{te:TE}{fe:FE}(hs:Sub owx ow)(he:SE K Ta [] E te fe):SS K Ta ow ow' owb owx E (tRet te) (qEz fe):=by
 intro w H σ ρ N FD e h k
 refine he w H σ ρ _ _ _ (e.free (λ_ z=>nomatch z)) h (λd v H' hd g r=>k.rt d v H' hd (e.gr.trans g) ?_) (k.px e hs)
 exact Rep.goes (λp o h _ m=>⟨h,λz=>m (.inl z)⟩) _ _ r
def qAkm:FS:=λFD _=>FD.rt .non
def qAbx(fe:FE):FS:=λFD ρ=>fe ρ (λ_=>FD.nx ρ) (λx=>FD.ex x ρ)
theorem qAmn{te:TE}{fe:FE}(hs:Sub owx ow)(he:SE K Ta ow E te fe):SS K Ta ow ow owb owx E (tDrop te) (qAbx fe):=by
 intro w H σ ρ N FD e h k
 exact he w H σ ρ _ _ _ e h (λd v H' hd g r=>k.nx _ _ _ hd (e.grow g)) (k.px e hs)
def qGz(fc:FT)(f g:FS):FS:=λFD ρ=>fc ρ (λb=>if b=true then f FD ρ else g FD ρ) (λx=>FD.ex x ρ)
theorem qEd{tc:TT}{t u:TS}{fc:FT}{f g:FS}(hs:Sub owx ow)(hc:STt K Ta ow E tc fc)(h1:SS K Ta ow ow' owb owx E t f)(h2:SS K Ta ow ow' owb owx E u g):SS K Ta ow ow' owb owx E (tIfS tc t u) (qGz fc f g):=by
 intro w H σ ρ N FD e h k
 refine hc w H σ ρ _ _ _ e h (λb H' hb g => ?_) (k.px e hs)
 cases b with
 | true=>exact h1 w H' σ ρ N FD (e.grow g) hb k
 | false=>exact h2 w H' σ ρ N FD (e.grow g) hb k
def fBrk:FS:=λFD ρ=>FD.bk ρ
def fCnt:FS:=λFD ρ=>FD.ct ρ
def fNev:FS:=λ_ _=>False
theorem qAbg:SS K Ta ow ow' owb owx E tNever fNev:=λw H σ ρ N FD e h k=>h.elim
theorem REnv.lstAt{i:Nat}{ds:List D}(e:REnv K Ta w ow H σ ρ)(hi:i∈ow)(hd:ρ[i]?=some (some (.lst ds))):∃ p vs,σ[i]?=some (some (.ref p))/\H p=some (.lst vs)/\Reps K w.F (w.Mx ow σ) H ds vs:=by
 obtain ⟨p,o,d,h1,h2,h3,h4,h5,h6⟩:=e.own i hi
 rw [h2] at hd;cases hd
 obtain ⟨vs,rfl,r⟩:=h4
 exact ⟨p,vs,h1,h3,r⟩
def qPc(i:Nat)(fe:FE):FS:=λFD ρ=>∃ ds,ρ[i]?=some (some (.lst ds))/\fe ρ (λd=>ds.length<sizeLine/\FD.nx (ρ.set i (some (.lst (ds ++ [d]))))) (λx=>FD.ex x ρ)
theorem qLg{i:Nat}{te:TE}{fe:FE}(hi:i∈ow)(hs:Sub owx ow)(he:SE K Ta ow E te fe):SS K Ta ow ow owb owx E (tDrop (tBM K "list" rAppend (tVar i) (tCons te tNil))) (qPc i fe):=by
 intro w H σ ρ N FD e h k
 obtain ⟨ds,hd,h⟩:=h
 obtain ⟨p,vs,h1,h2,h3⟩:=e.lstAt hi hd
 refine ⟨_,h1, .inl ⟨rfl,_,SqL.of h2⟩, ?_⟩
 refine he w H σ ρ _ _ _ e h (λd v H' hd' g r => ?_) (k.px e hs)
 have e':=e.grow g
 obtain ⟨p',vs',k1,k2,k3⟩:=e'.lstAt hi hd
 rw [h1] at k1;cases k1
 refine ⟨p,vs',v,rfl,rfl,k2,by rw [k3.length];exact hd'.1,k.nx _ _ _ hd'.2 (e'.chg hi h1 ⟨_,rfl,k3.append (.one r)⟩)⟩
def qQx(i:Nat)(fe fj:FE):FS:=λFD ρ=>fe ρ (λd=>fj ρ (λj=>∃ ds n m,ρ[i]?=some (some (.lst ds))/\j = .int n/\ixN ds.length n=some m/\FD.nx (ρ.set i (some (.lst (ds.set m d))))) (λx=>FD.ex x ρ)) (λx=>FD.ex x ρ)
theorem qAd2{i:Nat}{te tj:TE}{fe fj:FE}(hi:i∈ow)(hs:Sub owx ow)(he:SE K Ta ow E te fe)(hj:SE K Ta ow E tj fj):SS K Ta ow ow owb owx E (tAsg te (gSub (tVar i) tj rSetL)) (qQx i fe fj):=by
 intro w H σ ρ N FD e h k
 refine he w H σ ρ _ _ _ e h (λd v H' hd g r => ?_) (k.px e hs)
 have e':=e.grow g
 obtain ⟨p,o,d0,z1,_⟩:=e'.own i hi
 refine ⟨_,z1, ?_⟩
 refine hj w H' σ ρ _ _ _ e' hd (λdj vj H2 hd2 g2 r2 => ?_) (k.px e' hs)
 have e2:=e'.grow g2
 obtain ⟨ds,n,m,hds,rfl,hm,nx⟩:=hd2
 obtain ⟨p',vs',k1,k2,k3⟩:=e2.lstAt hi hds
 rw [z1] at k1;cases k1
 refine ⟨p,vs',n,m,rfl,r2,k2,by rw [k3.length];exact hm,k.nx _ _ _ nx (e2.chg hi z1 ⟨_,rfl,k3.set (Rep.goes g2.goes _ _ r)⟩)⟩
def oIx:O2:=λa b P _=>∃ ds n d,(a = .lst ds\/a = .tup ds)/\b = .int n/\atI ds n=some d/\P d
theorem qXb{F:Fd}{M:Addr->Prop}{ds:List D}{vs:List V}{n:Int}{d:D}(r:Reps K F M H ds vs)(h:atI ds n=some d):∃ v,atI vs n=some v/\Rep K F M H d v:=by
 unfold atI at h ⊢
 rw [r.length]
 cases z:ixN ds.length n with
 | none=>rw [z] at h;cases h
 | some j=>
  rw [z] at h
  exact r.get h
theorem qS7{i:Nat}{tj:TE}{fj:FE}(hi:i∈ow)(hj:SE K Ta ow E tj fj):SE K Ta ow E (tOp (rIxL K) (tVar i) tj) (fOp oIx (qAd i) fj):=by
 intro w H σ ρ P X Q e h q x
 obtain ⟨d,hd,h⟩:=h
 obtain ⟨p,o,d0,z1,z2,z3,z4,_⟩:=e.own i hi
 refine ⟨_,z1,hj w H σ ρ _ _ _ e h (λdj vj H' hd' g r => ?_) x⟩
 have e':=e.grow g
 obtain ⟨ds,n,dr,hl,rfl,ha,hp⟩:=hd'
 rw [z2] at hd;cases hd
 rcases hl with rfl | rfl
 ·obtain ⟨p',vs',k1,k2,k3⟩:=e'.lstAt hi z2
  rw [z1] at k1;cases k1
  obtain ⟨v,a1,a2⟩:=qXb k3 ha
  exact ⟨p,vs',n,v,rfl,r,SqL.of k2,a1,q dr v H' hp g a2⟩
 ·exact z4.elim
abbrev FI:=Env->(List D->Prop)->XP->Prop
abbrev FG:=D->Env->(Env->Prop)->Prop
def ItOk(K:W.Frag)(F:Fd)(M:Addr->Prop)(H1:Hp)(J:It)(ds:List D):Prop:=
 ∀ (M2:Addr->Prop) (H2:Hp) (i:Nat),Goes F M H1 M2 H2->Lv K F M2 H2->(ds.length<=i->J.stop i H2)/\(∀ d,ds[i]?=some d->J.go i H2/\∀ x H3,J.yld i H2 x H3->Gr K F H2 H3/\Rep K F M2 H3 d x)
def SI(K:W.Frag)(Ta:List (Addr × Str))(ow:List Nat)(E:L2.St->XK)(wi:TI)(fi:FI):Prop:=
 ∀ (w:Wd) (H:Hp) (σ:L2.St) (ρ:Env) (P:List D->Prop) (X:XP) (R:It->Hp->Prop),REnv K Ta w ow H σ ρ->fi ρ P X->(∀ ds J H1,P ds->Gr K w.F H H1->ItOk K w.F (w.Mx ow σ) H1 J ds->R J H1)->PostX K w.F w.M H X (E σ)->wi σ H R
def SG(K:W.Frag)(Ta:List (Addr × Str))(ow sl:List Nat)(g:TG)(g':FG):Prop:=
 ∀ (w:Wd) (H:Hp) (σ:L2.St) (ρ:Env) (d:D) (v:V) (R:Env->Prop) (Q:L2.St->Hp->Prop),REnv K Ta w ow H σ ρ->Rep K w.F (w.Mx ow σ) H d v->g' d ρ R->(∀ ρ' σ',R ρ'->REnv K Ta w ow H σ' ρ'->σ'.length=σ.length->(∀ i,i ∉ sl->σ'[i]?=σ[i]?)->Q σ' H)->g v σ H Q
def qB1(i:Nat):FG:=λd ρ R=>R (ρ.set i (some d))
theorem qCr{i:Nat}(hi:i ∉ ow):SG K Ta ow [i] (gName i) (qB1 i):=by
 intro w H σ ρ d v R Q e r h k
 refine k _ _ h (e.put hi r) (by rw [List.length_set]) λj hj => ?_
 rw [qA8,if_neg (λz=>hj (by rw [z];exact List.mem_singleton_self _))]
abbrev FGs:=List D->Env->(Env->Prop)->Prop
def SGs(K:W.Frag)(Ta:List (Addr × Str))(ow sl:List Nat)(g:TGs)(g':FGs):Prop:=
 ∀ (w:Wd) (H:Hp) (σ:L2.St) (ρ:Env) (ds:List D) (vs:List V) (R:Env->Prop) (Q:L2.St->Hp->Prop),REnv K Ta w ow H σ ρ->Reps K w.F (w.Mx ow σ) H ds vs->g' ds ρ R->(∀ ρ' σ',R ρ'->REnv K Ta w ow H σ' ρ'->σ'.length=σ.length->(∀ i,i ∉ sl->σ'[i]?=σ[i]?)->Q σ' H)->g vs σ H Q
def qOt:List Nat->FGs
 | []=>λds ρ R=>ds=[]/\R ρ
 | i :: is=>λds ρ R=>∃ d r,ds=d :: r/\qOt is r (ρ.set i (some d)) R
theorem qU6:SGs K Ta ow [] gNil (qOt []):=by
 intro w H σ ρ ds vs R Q e r h k
 obtain ⟨rfl,h⟩:=h
 exact ⟨r,k _ _ h e rfl λ_ _=>rfl⟩
theorem qHt{i:Nat}{is:List Nat}{g:TGs}(hi:i ∉ ow)(hg:SGs K Ta ow is g (qOt is)):SGs K Ta ow (i :: is) (gCons (gName i) g) (qOt (i :: is)):=by
 intro w H σ ρ ds vs R Q e r h k
 obtain ⟨d,rr,rfl,h⟩:=h
 obtain ⟨v,us,rfl,r1,r2⟩:=r
 refine ⟨v,us,rfl,hg w H _ _ rr us R Q (e.put hi r1) (Reps.goes (λp o h _ m=>⟨h,λz=>m ?_⟩) _ _ r2) h λρ' σ' a1 a2 a3 a4=>k ρ' σ' a1 a2 (by rw [a3,List.length_set]) λj hj => ?_⟩
 ·exact z.elim .inl λy => .inr ((qAb2 hi p).mp y)
 ·simp only [List.mem_cons,not_or] at hj
  rw [a4 j hj.2,qA8,if_neg (Ne.symm hj.1)]
def qSz(is:List Nat):FG:=λd ρ R=>∃ ds,d = .tup ds/\ds.length=is.length/\qOt is ds ρ R
theorem qAct{is:List Nat}{n:Nat}{g:TGs}(hn:is.length=n)(hg:SGs K Ta ow is g (qOt is)):SG K Ta ow is (gTup K n g) (qSz is):=by
 intro w H σ ρ d v R Q e r h k
 obtain ⟨ds,rfl,hl,h⟩:=h
 obtain ⟨p,vs,rfl,ok,hp,r⟩:=r
 exact ⟨p,vs,rfl,SqT.of hp,by rw [r.length,hl,hn],hg w H σ ρ ds vs R Q e r h k⟩
def qDk(g:FG)(fb:FS)(FD:FEnds):List D->Env->Prop
 | [],ρ=>FD.nx ρ
 | d :: ds,ρ=>g d ρ λρ'=>fb { FD with nx:=qDk g fb FD ds,ct:=qDk g fb FD ds,bk:=FD.nx } ρ'
def qIk(fi:FI)(g:FG)(fb:FS):FS:=λFD ρ=>fi ρ (λds=>qDk g fb FD ds ρ) (λx=>FD.ex x ρ)
theorem qG2{wi:TI}{g:TG}{tb:TS}{fi:FI}{g':FG}{fb:FS}{sl:List Nat}(hs:Sub owx ow)(hi:SI K Ta ow E wi fi)(hg:SG K Ta ow sl g g')(hb:SS K Ta ow ow ow owx E tb fb):SS K Ta ow ow owb owx E (tFor wi g tb) (qIk fi g' fb):=by
 intro w H σ ρ N FD e h k
 refine hi w H σ ρ _ _ _ e h (λds J H1 hd g1 it => ?_) (k.px e hs)
 have e1:=e.grow g1
 refine ⟨λi m σ2 H2=>∃ ρ2,REnv K Ta (w.re (Mo ow σ) H1) ow H2 σ2 ρ2/\m=ds.length - i/\i<=ds.length/\qDk g' fb FD (ds.drop i) ρ2,⟨ds.length,ρ,e1.re,rfl,Nat.zero_le _,hd⟩, ?_⟩
 rintro i m σ2 H2 ⟨ρ2,e2,rfl,hle,go⟩
 obtain ⟨st,yl⟩:=it _ H2 i e2.goes e2.lv
 by_cases hlt:i<ds.length
 ·right
  obtain ⟨dd,hdd⟩:∃ dd,ds[i]?=some dd:=⟨_,Za3 hlt⟩
  obtain ⟨j1,j2⟩:=yl dd hdd
  have hdrop:ds.drop i=dd :: ds.drop (i+1):=by
   rw [List.drop_eq_getElem_cons hlt]
   rw [Za3 hlt] at hdd
   cases hdd;rfl
  rw [hdrop] at go
  refine ⟨j1,λσ' H'=>∃ ρ',REnv K Ta (w.re (Mo ow σ) H1) ow H' σ' ρ'/\qDk g' fb FD (ds.drop (i+1)) ρ',λσ' H' ⟨ρ',a,b⟩=>⟨ds.length - (i+1),by omega,ρ',a,rfl,hlt,b⟩,λx H3 y => ?_⟩
  obtain ⟨g3,r3⟩:=j2 x H3 y
  refine hg _ H3 σ2 ρ2 dd x _ _ (e2.grow g3) r3 go λρ' σ' hr e3 _ _ => ?_
  refine hb _ H3 σ' ρ' _ _ e3 hr ⟨λρ4 σ4 H4 h4 e4=>⟨ρ4,e4,h4⟩,λd v H4 h4 g4 r4=>k.rt d v H4 h4 ((qAc6 e1).trans g4) r4,λρ4 σ4 H4 h4 e4=>k.nx _ _ _ h4 (e1.un e4),λρ4 σ4 H4 h4 e4=>⟨ρ4,e4,h4⟩,λx ρ4 σ4 H4 cls dd h4 e4 r4=>k.ex x ρ4 σ4 H4 cls dd h4 (e1.un e4) r4,λd v H4 h4 g4 r4=>k.rf d v H4 h4 ((qAc6 e1).trans g4) (r4.un e1)⟩
 ·left
  have:i=ds.length:=by omega
  rw [this,List.drop_length] at go
  exact ⟨st (by omega),k.nx _ _ _ go (e1.un e2)⟩
def qAi7(fc:FT)(fb:FS):FS:=λFD ρ=>∃ W:Nat->Env->Prop,(∃ m,W m ρ)/\∀ m ρ,W m ρ->fc ρ (λb=>if b=true then fb { FD with nx:=λρ'=>∃ m',m'<m/\W m' ρ',ct:=λρ'=>∃ m',m'<m/\W m' ρ',bk:=FD.nx } ρ else FD.nx ρ) (λx=>FD.ex x ρ)
theorem qAf8{tc:TT}{tb:TS}{fc:FT}{fb:FS}(hs:Sub owx ow)(hc:STt K Ta ow E tc fc)(hb:SS K Ta ow ow ow owx E tb fb):SS K Ta ow ow owb owx E (tWhile tc tb) (qAi7 fc fb):=by
 intro w H σ ρ N FD e h k
 obtain ⟨W,⟨m0,w0⟩,turn⟩:=h
 refine ⟨λm σ2 H2=>∃ ρ2,REnv K Ta w ow H2 σ2 ρ2/\W m ρ2,⟨m0,ρ,e,w0⟩, ?_⟩
 rintro m σ2 H2 ⟨ρ2,e2,w2⟩
 refine hc w H2 σ2 ρ2 _ _ _ e2 (turn m ρ2 w2) (λb H3 h3 g3 => ?_) (k.px e2 hs)
 cases b with
 | false=>exact k.nx _ _ _ h3 (e2.grow g3)
 | true=>
  refine ⟨λσ' H'=>∃ m' ρ',m'<m/\REnv K Ta w ow H' σ' ρ'/\W m' ρ',λσ' H' ⟨m',ρ',a,b,c⟩=>⟨m',a,ρ',b,c⟩, ?_⟩
  exact hb w H3 σ2 ρ2 _ _ (e2.grow g3) h3 ⟨λρ4 σ4 H4 ⟨m',a,b⟩ e4=>⟨m',ρ4,a,e4,b⟩,k.rt,k.nx,λρ4 σ4 H4 ⟨m',a,b⟩ e4=>⟨m',ρ4,a,e4,b⟩,k.ex,k.rf⟩
def itD:D->Option (List D)
 | .lst ds=>some ds
 | .tup ds=>some ds
 | _=>none
def fIt(fe:FE):FI:=λρ P X=>fe ρ (λd=>∃ ds,itD d=some ds/\P ds) X
def fItL(fe:FE):FI:=λρ P X=>fe ρ (λd=>∃ ds,d = .lst ds/\P ds) X
def fItT(fe:FE):FI:=λρ P X=>fe ρ (λd=>∃ ds,d = .tup ds/\P ds) X
theorem qPk{te:TE}{fe:FE}(he:SE K Ta ow E te fe):SI K Ta ow E (iList K te) (fItL fe):=by
 intro w H σ ρ P X R e h k x
 refine he w H σ ρ _ X _ e h (λd v H1 hd g r => ?_) x
 obtain ⟨ds,rfl,p⟩:=hd
 obtain ⟨a,vs,rfl,ok,ha,rs⟩:=r
 refine ⟨a,rfl,⟨vs,SqL.of ha⟩,k ds _ H1 p g λM2 H2 i go lv => ?_⟩
 obtain ⟨ha2,_⟩:=go a _ ha ok.1 ok.2
 have rs2:=Reps.goes go _ _ rs
 refine ⟨λhl=>⟨vs,SqL.of ha2,by rw [rs.length];exact hl⟩,λd hd => ?_⟩
 obtain ⟨v,hv,rv⟩:=rs2.get hd
 refine ⟨⟨vs,v,SqL.of ha2,hv⟩,λy H3 hy => ?_⟩
 obtain ⟨rfl,hy⟩:=hy
 have:=hy vs (SqL.of ha2)
 rw [hv] at this;cases this
 exact ⟨.refl,rv⟩
def qIl(lo:Int)(n:Nat):List D:=(Zag n).map λ(k:Nat)=>D.int (lo+(k:Int))
theorem qAd3{lo:Int}{n i:Nat}{d:D}(h:(qIl lo n)[i]?=some d):i<n/\d = .int (lo+(i:Int)):=by
 unfold qIl at h
 rw [Zae] at h
 by_cases hi:i<n
 ·rw [List.getElem?_range hi] at h
  cases h;exact ⟨hi,rfl⟩
 ·rw [List.getElem?_eq_none (by simp;omega)] at h
  cases h
def qDq(fa:FA):FI:=λρ P X=>fa ρ (λas=>∃ j:Int,as=[.int j] /\ -(2 ^ 62)<=j/\j<2 ^ 62/\P (qIl 0 j.toNat)) X
theorem qEt{ta:TA}{fa:FA}(ha:SA K Ta ow E ta fa):SI K Ta ow E (iRng1 ta) (qDq fa):=by
 intro w H σ ρ P X R e h k x
 refine ha w H σ ρ _ X _ e h (λds vs H1 hd g r => ?_) x
 obtain ⟨j,rfl,j0,j1,p⟩:=hd
 have:=Reps.ints (ns:=[j]) r
 refine ⟨j,this,j0,j1,k _ _ H1 p g λM2 H2 i go lv=>⟨λhl => ?_,λd hd => ?_⟩⟩
 ·simp only [qIl,Za6,List.length_range] at hl;exact hl
 ·obtain ⟨h1,rfl⟩:=qAd3 hd
  exact ⟨h1,λy H3 ⟨h3,hy⟩=>by subst h3;exact ⟨.refl,hy⟩⟩
def qAk8(fa:FA):FI:=λρ P X=>fa ρ (λas=>∃ i j:Int,as=[.int i, .int j]/\(-(2 ^ 62)<=i/\i<2 ^ 62 /\ -(2 ^ 62)<=j/\j<2 ^ 62)/\P (qIl i (j - i).toNat)) X
theorem qAme{ta:TA}{fa:FA}(ha:SA K Ta ow E ta fa):SI K Ta ow E (iRng2 ta) (qAk8 fa):=by
 intro w H σ ρ P X R e h k x
 refine ha w H σ ρ _ X _ e h (λds vs H1 hd g r => ?_) x
 obtain ⟨i',j,rfl,j0,p⟩:=hd
 have:=Reps.ints (ns:=[i',j]) r
 refine ⟨i',j,this,j0,k _ _ H1 p g λM2 H2 i go lv=>⟨λhl => ?_,λd hd => ?_⟩⟩
 ·simp only [qIl,Za6,List.length_range] at hl;exact hl
 ·obtain ⟨h1,rfl⟩:=qAd3 hd
  exact ⟨h1,λy H3 ⟨h3,hy⟩=>by subst h3;exact ⟨.refl,hy⟩⟩
end
def iSeq(K:W.Frag)(tl:TE):TI:=λσ H R=>tl σ H λx H1=>∃ a,x = .ref a/\(((∃ xs,SqL K H1 a xs)/\R (Itl K a) H1)\/((∃ xs,SqT K H1 a xs)/\R (Itt K a) H1))
theorem qAjj{X:Cx}{tg l:Expr}{tl:TE}(hl:PE X l tl):PI X tg l (iSeq X.K tl):=by
 refine ⟨λpins s σ H R I h => ?_⟩
 refine thn (hl.run pins s σ H _ I h) λv s1 ⟨x,H1,I1,r1,q1⟩ => ?_
 obtain ⟨a,e,q1⟩:=q1
 subst e
 cases r1
 rcases q1 with ⟨⟨xs,hq⟩,q⟩ | ⟨⟨xs,hq⟩,q⟩
 ·obtain ⟨its,rv,p,hz⟩:=I1.list hq
  refine wpAny_pyIter_list p.isList ?_
  refine ⟨s1.heap.objs.size,[s1.heap.objs.size],_,_,H1,rfl,I1.kept (t':=s1.toks) λb o e=>Heap.get?_push_of_some _ e,turn_list a _,⟨_,Heap.get?_push_size _ rfl,rfl,rfl⟩,λb hb => ?_,q⟩
  have e:b=s1.heap.objs.size:=by simpa using hb
  subst e
  exact I1.fpOk (Za9 _) (I1.hok.fresh (Za9 _))
 ·obtain ⟨its,rv,p,hz⟩:=I1.tuple hq
  refine wpAny_pyIter_tuple (show s1.heap.IsTuple a its.toArray from p) ?_
  refine ⟨s1.heap.objs.size,[s1.heap.objs.size],_,_,H1,rfl,I1.kept (t':=s1.toks) λb o e=>Heap.get?_push_of_some _ e,turn_tuple a _,⟨_,Heap.get?_push_size _ rfl,rfl,rfl⟩,λb hb => ?_,q⟩
  have e:b=s1.heap.objs.size:=by simpa using hb
  subst e
  exact I1.fpOk (Za9 _) (I1.hok.fresh (Za9 _))
def qX3(K:W.Frag)(ta:TA):TI:=λσ H R=>ta σ H λvs H1=>∃ a xs,vs=[.ref a]/\((SqL K H1 a xs/\R (Ite K a) H1)\/(SqT K H1 a xs/\R (ItE K a) H1))
theorem qY9{X:Cx}{e:Expr}{ta:TA}{p pos tpos:Pos}{elts:List Expr}{kk:Nat}(hg:Gl X "enumerate")(hm:X.mg "enumerate"=none)(ha:PA X [e] ta)(hs:starEach [e] X.env=[(false,eval e X.env)]:=by rfl) :
  PI X (.Tuple elts kk tpos) (.Call (.Name "enumerate" p) [e] [] pos) (qX3 X.K ta):=by
 refine ⟨λpins s σ H R I h => ?_⟩
 refine Call_ (ld_blt I hg hm boot_enumerate (PyProof.Rows.callWith_type1 (thn (ha.run pos pins s σ H _ I h) λus s1 ⟨vs,H1,I1,r1,q1⟩ => ?_) hs rfl))
 obtain ⟨a,xs,ex,q1⟩:=q1
 subst ex
 cases r1 with
 | cons r rr=>
  cases rr
  cases r
  have fin:∀ b,b∈[s1.heap.objs.size+1,s1.heap.objs.size]->FpOk X pins H1 b:=λb hb=>by
   have e':b=s1.heap.objs.size+1\/b=s1.heap.objs.size:=by simpa using hb
   have hle:s1.heap.objs.size<=b:=by
    rcases e' with z | z
    ·rw [z];exact Nat.le_add_right _ _
    ·rw [z];exact Za9 _
   exact I1.fpOk hle (I1.hok.fresh hle)
  rcases q1 with ⟨hq,q⟩ | ⟨hq,q⟩
  ·obtain ⟨its,rv,p',hz⟩:=I1.list hq
   refine call_enumerate_list p'.isList λh' he hit hsz hk=>wpAny_pyIter_enum he ?_
   have I2:Inv X pins σ H1 { s1 with heap:=h' }:=I1.kept (t':=s1.toks) hk
   exact ⟨s1.heap.objs.size+1,[s1.heap.objs.size+1,s1.heap.objs.size],_,_,H1,rfl,I2,turn_enum a (s1.heap.objs.size+1) s1.heap.objs.size,⟨⟨.none,he⟩,hit,Nat.succ_ne_self _⟩,fin,q⟩
  ·obtain ⟨its,rv,p',hz⟩:=I1.tuple hq
   have hT0:s1.heap.IsTuple a its.toArray:=p'
   refine qUd (begins_tuple a its.toArray) hT0 λh' he hit hsz hk=>wpAny_pyIter_enum he ?_
   have I2:Inv X pins σ H1 { s1 with heap:=h' }:=I1.kept (t':=s1.toks) hk
   exact ⟨s1.heap.objs.size+1,[s1.heap.objs.size+1,s1.heap.objs.size],_,_,H1,rfl,I2,qAaq a (s1.heap.objs.size+1) s1.heap.objs.size,⟨⟨.none,he⟩,⟨_,hit,rfl,rfl⟩,Nat.succ_ne_self _⟩,fin,q⟩
section
variable {K:W.Frag} {w:Wd} {ow ow' ow1 owb owx:List Nat} {H H':Hp} {σ:L2.St} {ρ:Env} {E:L2.St->XK} {N:L2.Ends} {FD:FEnds}
theorem qApm{F:Fd}{M:Addr->Prop}{a:Addr}{vs:List V}{ds:List D}(ok:Ok F M a)(ha:H a=some (.lst vs))(rs:Reps K F M H ds vs):ItOk K F M H (Itl K a) ds:=by
 intro M2 H2 i go lv
 obtain ⟨ha2,_⟩:=go a _ ha ok.1 ok.2
 have rs2:=Reps.goes go _ _ rs
 refine ⟨λhl=>⟨vs,SqL.of ha2,by rw [rs.length];exact hl⟩,λd hd => ?_⟩
 obtain ⟨v,hv,rv⟩:=rs2.get hd
 refine ⟨⟨vs,v,SqL.of ha2,hv⟩,λy H3 hy => ?_⟩
 obtain ⟨rfl,hy⟩:=hy
 have:=hy vs (SqL.of ha2)
 rw [hv] at this;cases this
 exact ⟨.refl,rv⟩
theorem qAo5{F:Fd}{M:Addr->Prop}{a:Addr}{vs:List V}{ds:List D}(ok:Ok F M a)(ha:H a=some (.tup vs))(rs:Reps K F M H ds vs):ItOk K F M H (Itt K a) ds:=by
 intro M2 H2 i go lv
 obtain ⟨ha2,_⟩:=go a _ ha ok.1 ok.2
 have rs2:=Reps.goes go _ _ rs
 refine ⟨λhl=>⟨vs,SqT.of ha2,by rw [rs.length];exact hl⟩,λd hd => ?_⟩
 obtain ⟨v,hv,rv⟩:=rs2.get hd
 refine ⟨⟨vs,v,SqT.of ha2,hv⟩,λy H3 hy => ?_⟩
 obtain ⟨rfl,hy⟩:=hy
 have:=hy vs (SqT.of ha2)
 rw [hv] at this;cases this
 exact ⟨.refl,rv⟩
theorem qAjg{te:TE}{fe:FE}(he:SE K Ta ow E te fe):SI K Ta ow E (iSeq K te) (fIt fe):=by
 intro w H σ ρ P X R e h k x
 refine he w H σ ρ _ X _ e h (λd v H1 hd g r => ?_) x
 obtain ⟨ds,hds,p⟩:=hd
 cases d with
 | lst es=>
  cases hds
  obtain ⟨a,vs,rfl,ok,ha,rs⟩:=r
  exact ⟨a,rfl, .inl ⟨⟨vs,SqL.of ha⟩,k _ _ H1 p g (qApm ok ha rs)⟩⟩
 | tup es=>
  cases hds
  obtain ⟨a,vs,rfl,ok,ha,rs⟩:=r
  exact ⟨a,rfl, .inr ⟨⟨vs,SqT.of ha⟩,k _ _ H1 p g (qAo5 ok ha rs)⟩⟩
 | _=>cases hds
def enD(ds:List D)(k:Nat):List D:=match ds with
 | []=>[]
 | d :: r => .tup [.int (k:Nat),d] :: enD r (k+1)
theorem qAco:∀ (ds:List D) (k:Nat),(enD ds k).length=ds.length
 | [],_=>rfl
 | d :: r,k=>by
  unfold enD
  rw [Za0,Za0,qAco r]
theorem qAfk:∀ (ds:List D) (k i:Nat) (d:D),(enD ds k)[i]?=some d->∃ e,ds[i]?=some e/\d = .tup [.int ((k+i:Nat):Int),e]
 | [],k,i,d,h=>by simp [enD] at h
 | e :: r,k,0,d,h=>by
  simp only [enD,List.getElem?_cons_zero,Option.some.injEq] at h
  exact ⟨e,rfl,h.symm⟩
 | e :: r,k,i+1,d,h=>by
  simp only [enD,List.getElem?_cons_succ] at h ⊢
  obtain ⟨e',h1,h2⟩:=qAfk r (k+1) i d h
  refine ⟨e',h1, ?_⟩
  rw [h2]
  have:k+1+i=k+(i+1):=by omega
  rw [this]
def fEn(fa:FA):FI:=λρ P X=>fa ρ (λas=>∃ d ds,as=[d]/\itD d=some ds/\P (enD ds 0)) X
theorem qRg{F:Fd}{M:Addr->Prop}{T:Addr}{x y:V}{a b:D}(lv:Lv K F M H)(nT:H T=none)(ra:Rep K F M H a x)(rb:Rep K F M H b y):Rep K F M (upd H T (.tup [x,y])) (.tup [a,b]) (.ref T):=qQn lv nT (.cons ra (.one rb))
theorem qApa{ta:TA}{fa:FA}(ha:SA K Ta ow E ta fa):SI K Ta ow E (qX3 K ta) (fEn fa):=by
 intro w H σ ρ P X R e h k x
 refine ha w H σ ρ _ X _ e h (λas vs H1 hd g r => ?_) x
 obtain ⟨d,ds,rfl,hds,p⟩:=hd
 obtain ⟨v,us,rfl,r,hn⟩:=r
 rw [show us=[] from hn]
 cases d with
 | lst es=>
  cases hds
  obtain ⟨a,vs,rfl,ok,ha,rs⟩:=r
  refine ⟨a,vs,rfl, .inl ⟨SqL.of ha,k _ _ H1 p g λM2 H2 i go lv => ?_⟩⟩
  obtain ⟨ha2,_⟩:=go a _ ha ok.1 ok.2
  have rs2:=Reps.goes go _ _ rs
  refine ⟨λhl=>⟨vs,SqL.of ha2,by rw [rs.length];rw [qAco] at hl;exact hl⟩,λd hd => ?_⟩
  obtain ⟨e',h1,rfl⟩:=qAfk _ _ _ _ hd
  obtain ⟨v,hv,rv⟩:=rs2.get h1
  refine ⟨⟨vs,v,SqL.of ha2,hv⟩,λy H3 hy => ?_⟩
  obtain ⟨T,x',rfl,nT,rfl,hx⟩:=hy
  have:=hx vs (SqL.of ha2)
  rw [hv] at this;cases this
  rw [Nat.zero_add]
  exact ⟨.new nT,qRg lv nT rfl rv⟩
 | tup es=>
  cases hds
  obtain ⟨a,vs,rfl,ok,ha,rs⟩:=r
  refine ⟨a,vs,rfl, .inr ⟨SqT.of ha,k _ _ H1 p g λM2 H2 i go lv => ?_⟩⟩
  obtain ⟨ha2,_⟩:=go a _ ha ok.1 ok.2
  have rs2:=Reps.goes go _ _ rs
  refine ⟨λhl=>⟨vs,SqT.of ha2,by rw [rs.length];rw [qAco] at hl;exact hl⟩,λd hd => ?_⟩
  obtain ⟨e',h1,rfl⟩:=qAfk _ _ _ _ hd
  obtain ⟨v,hv,rv⟩:=rs2.get h1
  refine ⟨⟨vs,v,SqT.of ha2,hv⟩,λy H3 hy => ?_⟩
  obtain ⟨T,x',rfl,nT,rfl,hx⟩:=hy
  have:=hx vs (SqT.of ha2)
  rw [hv] at this;cases this
  rw [Nat.zero_add]
  exact ⟨.new nT,qRg lv nT rfl rv⟩
 | _=>cases hds
def qXe:List D->List D->List D
 | a :: as,b :: bs => .tup [a,b] :: qXe as bs
 | _,_=>[]
theorem qAdj:∀ (as bs:List D),(qXe as bs).length=min as.length bs.length
 | [],bs=>by simp [qXe]
 | a :: as,[]=>by simp [qXe]
 | a :: as,b :: bs=>by
  simp only [qXe,Za0,qAdj as bs]
  omega
theorem qAd4:∀ (as bs:List D) (i:Nat) (d:D),(qXe as bs)[i]?=some d->∃ a b,as[i]?=some a/\bs[i]?=some b/\d = .tup [a,b]
 | [],bs,i,d,h=>by simp [qXe] at h
 | a :: as,[],i,d,h=>by simp [qXe] at h
 | a :: as,b :: bs,0,d,h=>by
  simp only [qXe,List.getElem?_cons_zero,Option.some.injEq] at h
  exact ⟨a,b,rfl,rfl,h.symm⟩
 | a :: as,b :: bs,i+1,d,h=>by
  simp only [qXe,List.getElem?_cons_succ] at h ⊢
  exact qAd4 as bs i d h
def fZip(fa:FA):FI:=λρ P X=>fa ρ (λxs=>∃ as bs,xs=[.lst as, .lst bs]/\P (qXe as bs)) X
theorem qAnd{ta:TA}{fa:FA}(ha:SA K Ta ow E ta fa):SI K Ta ow E (iZip K ta) (fZip fa):=by
 intro w H σ ρ P X R e h k x
 refine ha w H σ ρ _ X _ e h (λxs vs H1 hd g r => ?_) x
 obtain ⟨as,bs,rfl,p⟩:=hd
 obtain ⟨v,us,rfl,r,hn⟩:=r
 obtain ⟨v2,us,rfl,r2,hn⟩:=hn
 rw [show us=[] from hn]
 obtain ⟨a,va,rfl,oka,ha,rsa⟩:=r
 obtain ⟨b,vb,rfl,okb,hb,rsb⟩:=r2
 refine ⟨a,b,va,vb,rfl,SqL.of ha,SqL.of hb,k _ _ H1 p g λM2 H2 i go lv => ?_⟩
 obtain ⟨ha2,_⟩:=go a _ ha oka.1 oka.2
 obtain ⟨hb2,_⟩:=go b _ hb okb.1 okb.2
 have rsa2:=Reps.goes go _ _ rsa
 have rsb2:=Reps.goes go _ _ rsb
 refine ⟨λhl=>⟨va,vb,SqL.of ha2,SqL.of hb2, ?_⟩,λd hd => ?_⟩
 ·rw [qAdj] at hl
  rw [rsa.length,rsb.length]
  omega
 ·obtain ⟨d1,d2,h1,h2,rfl⟩:=qAd4 _ _ _ _ hd
  obtain ⟨v1,hv1,rv1⟩:=rsa2.get h1
  obtain ⟨v2,hv2,rv2⟩:=rsb2.get h2
  refine ⟨⟨va,vb,v1,v2,SqL.of ha2,SqL.of hb2,hv1,hv2⟩,λy H3 hy => ?_⟩
  obtain ⟨T,x',y',rfl,nT,rfl,hx,hy⟩:=hy
  have:=hx va (SqL.of ha2)
  rw [hv1] at this;cases this
  have:=hy vb (SqL.of hb2)
  rw [hv2] at this;cases this
  exact ⟨.new nT,qRg lv nT rv1 rv2⟩
abbrev FO:=Env->(Option Int->Prop)->XP->Prop
def SO(K:W.Frag)(Ta:List (Addr × Str))(ow:List Nat)(E:L2.St->XK)(to:TO)(fo:FO):Prop:=
 ∀ (w:Wd) (H:Hp) (σ:L2.St) (ρ:Env) (P:Option Int->Prop) (X:XP) (Q:Option Int->Hp->Prop),REnv K Ta w ow H σ ρ->fo ρ P X->(∀ i H',P i->Gr K w.F H H'->Q i H')->PostX K w.F w.M H X (E σ)->to σ H Q
def qI2:FO:=λ_ P _=>P none
def qW7(fe:FE):FO:=λρ P X=>fe ρ (λd=>∃ i,d = .int i/\P (some i)) X
theorem qAei:SO K Ta ow E tNoPart qI2:=λw H σ ρ P X Q e h q x=>q _ _ h .refl
theorem qAeh{te:TE}{fe:FE}(he:SE K Ta ow E te fe):SO K Ta ow E (tPart te) (qW7 fe):=by
 intro w H σ ρ P X Q e h q x
 refine he w H σ ρ _ X _ e h (λd v H1 hd g r => ?_) x
 obtain ⟨i,rfl,p⟩:=hd
 exact ⟨i,r,q _ H1 p g⟩
def cutD{α:Type}(xs:List α)(lo hi:Option Int):List α:=(xs.drop (HT.sIx xs.length 0 lo)).take (HT.sIx xs.length xs.length hi - HT.sIx xs.length 0 lo)
end
section
variable {K:W.Frag} {w:Wd} {ow ow' ow1 owb owx:List Nat} {H H':Hp} {σ:L2.St} {ρ:Env} {E:L2.St->XK} {N:L2.Ends} {FD:FEnds}
def qIa(ρ:Env):List Nat->Env
 | []=>ρ
 | v :: vs=>(qIa ρ vs).set v none
theorem REnv.clr{i:Nat}(e:REnv K Ta w ow H σ ρ)(hi:i ∉ ow):REnv K Ta w ow H (σ.set i none) (ρ.set i none):=by
 have mm:∀ p,w.Mx ow (σ.set i none) p↔w.Mx ow σ p:=λp=>or_congr .rfl (qAb2 hi p)
 have go:Goes w.F (w.Mx ow σ) H (w.Mx ow (σ.set i none)) H:=λp o h _ m=>⟨h,λz=>m ((mm p).mp z)⟩
 have same:∀ j,j∈ow->(σ.set i none)[j]?=σ[j]?/\(ρ.set i none)[j]?=ρ[j]?:=λj hj=>by
  have:i≠j:=λz=>hi (by rw [z];exact hj)
  rw [qA8,qA8,if_neg this,if_neg this]
  exact ⟨rfl,rfl⟩
 refine ⟨e.gr,e.live,e.nf,λj hj => ?_,λj hj => ?_,λj hj k hk n p => ?_,λf hf => ?_,e.tab,e.ts⟩
 ·rw [qA8,qA8]
  have z:=e.imm j hj
  split
  ·rename_i h
   have hl:=z.len
   by_cases hlt:j<ρ.length
   ·rw [if_pos hlt,if_pos (hl.mp hlt)]
    trivial
   ·rw [if_neg hlt,if_neg (λy=>hlt (hl.mpr y))]
    trivial
  ·exact z.mono λd' v'=>Rep.goes go d' v'
 ·obtain ⟨p,o,d',h1,h2,h3,h4,h5⟩:=e.own j hj
  exact ⟨p,o,d',by rw [(same j hj).1];exact h1,by rw [(same j hj).2];exact h2,h3,h4.goes go,h5⟩
 ·rw [(same j hj).1,(same k hk).1]
  exact e.inj j hj k hk n p
 ·obtain ⟨c,h1,h2⟩:=e.feed f hf
  exact ⟨c,h1,λz=>h2 ((mm c).mp z)⟩
theorem REnv.wipe(e:REnv K Ta w ow H σ ρ):∀ {vs:List Nat},(∀ i,i∈vs->i ∉ ow)->REnv K Ta w ow H (L2.wipe σ vs) (qIa ρ vs)
 | [],_=>e
 | v :: vs,h=>(REnv.wipe e λi hi=>h i (Zab _ hi)).clr (h v Zad)
theorem qHv(σ:L2.St)(j:Nat):∀ vs:List Nat,(L2.wipe σ vs)[j]?=if j∈vs then (if j<σ.length then some none else none) else σ[j]?
 | []=>by simp [L2.wipe]
 | v :: vs=>by
  unfold L2.wipe
  rw [qA8,wipe_length,qHv σ j vs]
  by_cases h:v=j
  ·subst h;simp
  ·rw [if_neg h]
   have:j∈v :: vs↔j∈vs:=by simp [List.mem_cons,Ne.symm h]
   simp only [this]
theorem qAmc{vs:List Nat}(h:∀ i,i∈vs->i ∉ ow)(p:Addr):Mo ow (L2.wipe σ vs) p↔Mo ow σ p:=by
 have:∀ j,j∈ow->(L2.wipe σ vs)[j]?=σ[j]?:=λj hj=>by rw [qHv,if_neg (λz=>h j z hj)]
 exact ⟨λ⟨j,hj,z⟩=>⟨j,hj,by rw [<-this j hj];exact z⟩,λ⟨j,hj,z⟩=>⟨j,hj,by rw [this j hj];exact z⟩⟩
abbrev X0:XP:=λ_=>False
def qUj(g:FG)(ft:FT)(fe:FE)(ρ0:Env)(P:D->Prop):List D->List D->Prop
 | [],acc=>P (.lst acc)
 | d :: ds,acc=>g d ρ0 λρ2=>ft ρ2 (λb=>if b=true then fe ρ2 (λy=>acc.length<sizeLine/\qUj g ft fe ρ0 P ds (acc ++ [y])) X0 else qUj g ft fe ρ0 P ds acc) X0
def fLc(fi:FI)(g:FG)(ft:FT)(fe:FE)(vs:List Nat):FE:=λρ P X=>fi ρ (λds=>qUj g ft fe (qIa ρ vs) P ds []) X
def qMd:FT:=λ_ P _=>P true
theorem qJs:STt K Ta ow E tYes qMd:=λw H σ ρ P X Q e h q x=>q _ _ h .refl
def Wd.own1(w:Wd)(p:Addr)(H:Hp):Wd := { w with M:=λq=>w.M q\/q=p,H0:=H }
theorem REnv.beside{p:Addr}{o:HO}(e:REnv K Ta w ow H σ ρ)(np:H p=none):REnv K Ta ((w.re (Mo ow σ) H).own1 p (upd (w.re (Mo ow σ) H).H0 p o)) ow (upd H p o) σ ρ:=by
 have ok:=e.lv.ok np
 have nm:¬ Mo ow σ p:=λz=>ok.2 (.inr z)
 have g:Gr K w.F H (upd H p o) := .new np
 have e1:=e.re
 have go:Goes w.F (w.Mx ow σ) H (((w.re (Mo ow σ) H).own1 p (upd (w.re (Mo ow σ) H).H0 p o)).Mx ow σ) (upd H p o):=λq u h nf m=>by
  have ne:q≠p:=λz=>by rw [z,np] at h;cases h
  refine ⟨by rw [upd_ne ne];exact h,λz => ?_⟩
  rcases z with (z | z) | z
  ·exact m (.inl z)
  ·exact ne z
  ·exact m (.inr z)
 have n0:(w.re (Mo ow σ) H).H0 p=none:=by rw [qFh nm];exact np
 refine ⟨⟨λb u h n => ?_,λf c hf h => ?_,λ_=>g.tab e.tab⟩,λq m => ?_,λq m => ?_,λi hi=>(e.imm i hi).mono λd v=>Rep.goes go d v,λi hi => ?_,e.inj,λf hf => ?_,g.tab e.tab,e.ts⟩
 ·by_cases hb:b=p
  ·subst hb
   have h':upd (w.re (Mo ow σ) H).H0 b o b=some u:=h
   rw [upd_same] at h'
   rw [upd_same];exact h'
  ·have h':upd (w.re (Mo ow σ) H).H0 p o b=some u:=h
   rw [upd_ne hb] at h'
   rw [upd_ne hb]
   exact e1.gr.old b u h' n
 ·obtain ⟨ns,a1,a2,a3,a4,a5,o',G,e'⟩:=h
  have fp:f≠p:=λz=>ok.1.1 (by rw [<-z];exact hf)
  have hf0:(w.re (Mo ow σ) H).H0 f=_:=(upd_ne fp).symm.trans G.ob
  obtain ⟨c',k1,k2⟩:=e.feed f hf
  have hc':c'=c:=by
   obtain ⟨_,_,_,_,_,_,_,G',_⟩:=k1
   have nf:¬ Mo ow σ f:=λ⟨i,hi,z⟩=>by
    obtain ⟨p',o',d',h1,_,_,_,h5,_⟩:=e.own i hi
    rw [h1] at z;cases z
    exact h5.1 hf
   rw [qFh nf,G'.ob] at hf0
   simp only [Option.some.injEq,HO.lst.injEq,List.cons.injEq,V.ref.injEq] at hf0
   exact hf0.1
  subst hc'
  have cp:c'≠p:=λz=>by
   obtain ⟨_,_,_,_,_,_,_,_,e''⟩:=k1
   rw [z,np] at e'';cases e''
  have nf:¬ Mo ow σ f:=λ⟨i,hi,z⟩=>by
   obtain ⟨p',o',d',h1,_,_,_,h5,_⟩:=e.own i hi
   rw [h1] at z;cases z
   exact h5.1 hf
  exact k1.keep (Ne.symm fp) (Ne.symm cp)
 ·rcases m with m | m
  ·obtain ⟨u,h⟩:=e1.live q m
   exact ⟨u,(upd_ne (λz=>by rw [z,n0] at h;cases h)).trans h⟩
  ·exact ⟨o,by rw [m];exact upd_same⟩
 ·rcases m with m | m
  ·exact e.nf q m
  ·rw [m];exact ok.1
 ·obtain ⟨q,u,d,h1,h2,h3,h4,h5,h6⟩:=e1.own i hi
  have ne:q≠p:=λz=>by rw [z,np] at h3;cases h3
  exact ⟨q,u,d,h1,h2,by rw [upd_ne ne];exact h3,h4.goes go,h5,(upd_ne ne).trans h6⟩
 ·obtain ⟨c,k1,k2⟩:=e.feed f hf
  refine ⟨c,g.feed f c hf k1,λz => ?_⟩
  rcases z with (z | z) | z
  ·exact k2 (.inl z)
  ·obtain ⟨_,_,_,_,_,_,_,_,e''⟩:=k1
   rw [z,np] at e'';cases e''
  ·exact k2 (.inr z)
theorem qAnp{w:Wd}{M:Addr->Prop}{F:Fd}:Gr K F (w.re M H).H0 H:=by
 have out:∀ {b:Addr} {u:HO},(w.re M H).H0 b=some u->H b=some u:=λ{b u} h=>by
  by_cases hm:M b
  ·rw [qAdr hm] at h;cases h
  ·rw [qFh hm] at h;exact h
 refine ⟨λb o h n=>out h,λf c hf h => ?_,λh=>h.ext λb o=>out⟩
 obtain ⟨ns,a1,a2,a3,a4,a5,o',G,e'⟩:=h
 refine ⟨ns,a1,a2,a3,a4,a5,o',⟨out G.ob, ?_,G.ne,G.nn,G.p0,G.b0,G.l0,G.n0,G.s0⟩,out e'⟩
 rcases G.cs with (h | ⟨o,h⟩) | h
 ·exact .inl (.inl (out h))
 ·exact .inl (.inr ⟨o,out h⟩)
 ·exact .inr h
theorem REnv.amb{p:Addr}{o o':HO}(e:REnv K Ta w ow H σ ρ)(mp:w.M p)(hp:H p=some o)(hpl:Pl o):REnv K Ta (w.re (Mo ow σ) (upd H p o')) ow (upd H p o') σ ρ:=by
 have mx:w.Mx ow σ p := .inl mp
 have np:w.F.no p:=e.nf p mp
 have go:Goes w.F (w.Mx ow σ) H (w.Mx ow σ) (upd H p o'):=λq u h nf m=>⟨by rw [upd_ne (λz=>m (by rw [z];exact mx))];exact h,m⟩
 obtain ⟨op,hop⟩:=e.live p mp
 have nmp:¬ Mo ow σ p:=e.nM hop
 have keepf:∀ f c,w.F.f=some f->FeedC K H f c->FeedC K (upd H p o') f c:=λf c hf k=>by
  obtain ⟨c',k1,k2⟩:=e.feed f hf
  have:=qYl k1 k
  subst this
  exact k.keep (λz=>np.1 (by rw [z];exact hf)) (λz=>k2 (by rw [<-z];exact mx))
 refine ⟨qAnp,λq m => ?_,e.nf,λi hi=>(e.imm i hi).mono λd v=>Rep.goes go d v,λi hi => ?_,e.inj,λf hf => ?_,qJ4 e.tab hp hpl,e.ts⟩
 ·by_cases hq:q=p
  ·rw [hq];exact ⟨o',by rw [qFh nmp];exact upd_same⟩
  ·obtain ⟨u,h⟩:=e.live q m
   refine ⟨u, ?_⟩
   rw [qFh (e.nM h),upd_ne hq]
   exact e.gr.old _ _ h (e.nf q m)
 ·obtain ⟨q,u,d,h1,h2,h3,h4,h5,h6⟩:=e.own i hi
  have ne:q≠p:=λz=>by rw [z,hop] at h6;cases h6
  exact ⟨q,u,d,h1,h2,by rw [upd_ne ne];exact h3,h4.goes go,h5,qAdr ⟨i,hi,h1⟩⟩
 ·obtain ⟨c,k1,k2⟩:=e.feed f hf
  exact ⟨c,keepf f c hf k1,k2⟩
theorem qOm{wi:TI}{g:TG}{tt:TT}{te:TE}{vs sl:List Nat}{fi:FI}{g':FG}{ft:FT}{fe:FE}(hv:∀ i,i∈vs->i ∉ ow)(hsl:∀ i,i∈sl->i∈vs)(hi:SI K Ta ow E wi fi)(hg:SG K Ta ow sl g g')(ht:STt K Ta ow (λ_=>E0) tt ft)(he:SE K Ta ow (λ_=>E0) te fe) :
  SF K Ta ow E (tLc wi g tt te vs) (fLc fi g' ft fe vs):=by
 intro w H σ ρ P X Q e h q x
 refine hi w H σ ρ _ _ _ e h (λds J H1 hd g1 it p np => ?_) x
 have e1:=e.grow g1
 have okp:=e1.lv.ok np
 have n0:H p=none:=by
  cases z:H p with
  | none=>rfl
  | some o=>rw [g1.old p o z okp.1] at np;cases np
 have mw:∀ q,Mo ow (L2.wipe σ vs) q↔Mo ow σ q:=qAmc hv
 let M3:Addr->Prop:=λq=>w.M q\/q=p
 refine ⟨λi m H2=>∃ (H0:Hp) (ad:List D) (av:List V),REnv K Ta ⟨w.F,M3,H0⟩ ow H2 (L2.wipe σ vs) (qIa ρ vs)/\H2 p=some (.lst av)/\Reps K w.F (λq=>M3 q\/Mo ow σ q) H2 ad av/\Gr K w.F H1 H2/\m=ds.length - i/\i<=ds.length/\qUj g' ft fe (qIa ρ vs) P (ds.drop i) ad,⟨ds.length,_,[],[],(e1.wipe hv).beside (o := .lst []) np,upd_same,rfl, .new np,rfl,Nat.zero_le _,hd⟩, ?_⟩
 rintro i m H2 ⟨H0,ad,av,e2,hp,ra,g2,rfl,hle,go⟩
 have mx:∀ q,(⟨w.F,M3,H0⟩:Wd).Mx ow (L2.wipe σ vs) q↔(M3 q\/Mo ow σ q):=λq=>or_congr .rfl (mw q)
 have goes:Goes w.F (w.Mx ow σ) H1 ((⟨w.F,M3,H0⟩:Wd).Mx ow (L2.wipe σ vs)) H2:=λa u h nf n=>⟨g2.old a u h nf,λz=>by
  rcases (mx a).mp z with (z | z) | z
  ·exact n (.inl z)
  ·rw [z,np] at h;cases h
  ·exact n (.inr z)⟩
 obtain ⟨st,yl⟩:=it _ H2 i goes e2.lv
 by_cases hlt:i<ds.length
 ·right
  obtain ⟨dd,hdd⟩:∃ dd,ds[i]?=some dd:=⟨_,Za3 hlt⟩
  obtain ⟨j1,j2⟩:=yl dd hdd
  have hdrop:ds.drop i=dd :: ds.drop (i+1):=by
   rw [List.drop_eq_getElem_cons hlt]
   rw [Za3 hlt] at hdd
   cases hdd;rfl
  rw [hdrop] at go
  refine ⟨j1,λH'=>∃ (H0:Hp) (ad:List D) (av:List V),REnv K Ta ⟨w.F,M3,H0⟩ ow H' (L2.wipe σ vs) (qIa ρ vs)/\H' p=some (.lst av)/\Reps K w.F (λq=>M3 q\/Mo ow σ q) H' ad av/\Gr K w.F H1 H'/\qUj g' ft fe (qIa ρ vs) P (ds.drop (i+1)) ad, ?_,λy H3 hy => ?_⟩
  ·rintro H' ⟨H0',ad',av',a1,a2,a3,a4,a5⟩
   exact ⟨ds.length - (i+1),by omega,H0',ad',av',a1,a2,a3,a4,rfl,hlt,a5⟩
  ·obtain ⟨g3,r3⟩:=j2 y H3 hy
   have e3:=e2.grow g3
   refine hg _ H3 _ _ dd y _ _ e3 r3 go λρ2 σ2 hr e4 hl4 hs4=>⟨?_, ?_⟩
   ·refine List.ext_getElem? λj => ?_
    rw [qHv,qHv,hl4,wipe_length]
    by_cases hj:j∈vs
    ·rw [if_pos hj,if_pos hj]
    ·rw [if_neg hj,if_neg hj,hs4 j (λz=>hj (hsl j z)),qHv,if_neg hj]
   ·have mo4:∀ q,Mo ow σ2 q↔Mo ow σ q:=λq=>by
     have:∀ j,j∈ow->σ2[j]?=σ[j]?:=λj hj=>by
      have hjv:j ∉ vs:=λz=>hv j z hj
      rw [hs4 j (λz=>hjv (hsl j z)),qHv,if_neg hjv]
     exact ⟨λ⟨j,hj,z⟩=>⟨j,hj,by rw [<-this j hj];exact z⟩,λ⟨j,hj,z⟩=>⟨j,hj,by rw [this j hj];exact z⟩⟩
    have hp3:H3 p=some (.lst av):=g3.old _ _ hp okp.1
    refine ht _ H3 σ2 ρ2 _ _ _ e4 hr (λb H4 hb g4 => ?_) (λ_ _ _ _ z _ _=>z)
    have e5:=e3.grow g4
    have hp4:H4 p=some (.lst av):=g4.old _ _ hp3 okp.1
    have ra4:=Reps.goes (g3.trans g4).goes _ _ ra
    cases b with
    | false=>exact ⟨_,ad,av,e5,hp4,ra4,(g2.trans g3).trans g4,hb⟩
    | true=>
     refine he _ H4 σ2 ρ2 _ _ _ (e4.grow g4) hb (λd v H5 hd5 g5 r5 => ?_) (λ_ _ _ _ z _ _=>z)
     have hp5:H5 p=some (.lst av):=g5.old _ _ hp4 okp.1
     have ra5:=Reps.goes g5.goes _ _ ra4
     refine ⟨av,hp5,by rw [ra5.length];exact hd5.1, ?_⟩
     have e6:=(e5.grow g5).amb (o' := .lst (av ++ [v])) (.inr rfl) hp5 trivial
     refine ⟨_,ad ++ [d],av ++ [v],e6,upd_same, ?_, ?_,hd5.2⟩
     ·refine Reps.goes (M:=λq=>M3 q\/Mo ow σ q) (H:=H5) (λa u h nf n=>⟨by rw [upd_ne (λz=>n (.inl (.inr z)))];exact h,n⟩) _ _ (ra5.append (.one ?_))
      exact Rep.goes (λa u h nf n=>⟨h,λz=>n (z.elim .inl λy => .inr ((mo4 a).mpr y))⟩) _ _ r5
     ·have gg:=((g2.trans g3).trans g4).trans g5
      refine ⟨λb u h n => ?_,λf c hf hc => ?_,λz=>qJ4 (gg.tab z) hp5 trivial⟩
      ·rw [upd_ne (λz=>by rw [z,np] at h;cases h)]
       exact gg.old b u h n
      ·refine (gg.feed f c hf hc).keep (λz=>okp.1.1 (by rw [z];exact hf)) (λz => ?_)
       obtain ⟨_,_,_,_,_,_,_,_,e''⟩:=hc
       rw [<-z,np] at e'';cases e''
 ·left
  have:i=ds.length:=by omega
  rw [this,List.drop_length] at go
  refine ⟨st (by omega),q _ p _ H2 go (g1.trans g2) n0 hp ⟨av,rfl, ?_⟩⟩
  refine Reps.goes (λa u h nf n=>⟨h,λz=>n ?_⟩) _ _ ra
  rcases z with (z | z) | z
  ·exact .inl (.inl z)
  ·exact .inr z
  ·exact .inl (.inr z)
end
theorem qAh1{X:Cx}{C:Addr}{bmB:List Value}{B newId initId:String}{x:Str}{p pos:Pos}(F:ExcBaseFacts B newId initId bmB)(q:PySem.W.excIn X.K C bmB newId=true)(gC:X.mg x=some (.ref C))
  (kC:PySem.W.keepIn X.K (.ref C)=true) (r:Raises X (.ref C)) (hg:Gl X x) (hdb:(x == ("__debug__":Str))=false:=by decide) :
  PMk X (.Call (.Name x p) [] [] pos) (λσ H Q=>Q (.ref C) none H):=by
 intro pins s σ H Q I h
 refine wpAny_Call_Name_kw (ld_glob I hg gC ?_ hdb)
 refine PySem.W.callWith_K0 I.kIn kC ?_
 show wpAny _ _ (call (.ref C) []) _ _ _
 obtain ⟨bm,N,nm,qn,bs,hdct,sn,sub,ab,col,dd,k0,k1,k2,k3,k5,mN,hC,hN,hni,T⟩:=exc_obj I.kIn q
 refine wpAny_call_exc_subT F T hC hN hni (λh' e hm => ?_) (Nat.zero_le _)
 exact mk_of I hm r h (I.hok.gone hm.new)
section
variable {K:W.Frag} {w:Wd} {ow ow' ow1 owb owx:List Nat} {H H':Hp} {σ:L2.St} {ρ:Env} {E:L2.St->XK} {E1:XK} {N:L2.Ends} {FD:FEnds} {F:Fd} {M:Addr->Prop}
theorem Reps.cut{ds:List D}{vs:List V}{lo hi:Option Int}(r:Reps K F M H ds vs):Reps K F M H (cutD ds lo hi) (cutV vs lo hi):=by
 unfold cutD cutV
 rw [r.length]
 exact (r.drop _).take _
def fSl(fe:FE)(fl fh:FO):FE:=λρ P X=>fe ρ (λd=>fl ρ (λl=>fh ρ (λh=>∃ ds,d = .lst ds/\P (.lst (cutD ds l h))) X) X) X
theorem qQl{p:Addr}{ds:List D}{vs:List V}(np:H p=none)(r:Reps K F M H ds vs):RepO K F (λq=>M q\/q=p) (upd H p (.lst vs)) (.lst ds) (.lst vs):=by
 refine ⟨vs,rfl,Reps.goes (λa u h nf m => ?_) _ _ r⟩
 have ne:a≠p:=λz=>by rw [z,np] at h;cases h
 exact ⟨by rw [upd_ne ne];exact h,λz=>z.elim m ne⟩
theorem newer{p:Addr}(lv:Lv K F M H')(g:Gr K F H H')(np:H' p=none):H p=none:=by
 cases z:H p with
 | none=>rfl
 | some o=>rw [g.old p o z (lv.ok np).1] at np;cases np
theorem qAow{te:TE}{tl th:TO}{fe:FE}{fl fh:FO}(he:SE K Ta ow E te fe)(hl:SO K Ta ow E tl fl)(hh:SO K Ta ow E th fh):SF K Ta ow E (tSl (rSlL K) te tl th) (fSl fe fl fh):=by
 intro w H σ ρ P X Q e h q x
 refine he w H σ ρ _ X _ e h (λd v H1 hd g1 r => ?_) x
 have e1:=e.grow g1
 refine hl w H1 σ ρ _ X _ e1 hd (λl H2 hd2 g2 => ?_) (x.gr g1)
 have e2:=e1.grow g2
 refine hh w H2 σ ρ _ X _ e2 hd2 (λhh H3 hd3 g3 => ?_) (x.gr (g1.trans g2))
 have e3:=e2.grow g3
 obtain ⟨ds,rfl,p⟩:=hd3
 obtain ⟨a,vs,rfl,ok,ha,rs⟩:=Rep.goes (g2.trans g3).goes _ _ r
 refine ⟨a,vs,rfl,SqL.of ha,λpp np => ?_⟩
 exact q _ pp _ _ p (((g1.trans g2).trans g3).trans (.new np)) (newer e3.lv ((g1.trans g2).trans g3) np) upd_same (qQl np rs.cut)
def oI(C:Int->Int->Prop)(g:Int->Int->D):O2:=λa b P _=>match a,b with
 | .int i, .int j=>C i j/\P (g i j)
 | _,_=>False
def oI0(g:Int->Int->D):O2:=λa b P _=>match a,b with
 | .int i, .int j=>P (g i j)
 | _,_=>False
theorem os_I{C:Int->Int->Prop}{g:Int->Int->V}{g':Int->Int->D}(hg:∀ i j (F:Fd) (M:Addr->Prop) (H:Hp),Rep K F M H (g' i j) (g i j)):OpS K E1 (rI C g) (oI C g'):=by
 intro F M H x y a b P X Q lv ra rb h q x'
 cases a <;> cases b <;> first | exact h.elim | skip
 exact ⟨_,_,ra,rb,h.1,q _ _ _ h.2 .refl (hg _ _ _ _ _)⟩
theorem qAdu{g:Int->Int->V}{g':Int->Int->D}(hg:∀ i j (F:Fd) (M:Addr->Prop) (H:Hp),Rep K F M H (g' i j) (g i j)):OpS K E1 (rI0 g) (oI0 g'):=by
 intro F M H x y a b P X Q lv ra rb h q x'
 cases a <;> cases b <;> first | exact h.elim | skip
 exact ⟨_,_,ra,rb,q _ _ _ h .refl (hg _ _ _ _ _)⟩
abbrev qDs:O2:=oI0 λi j => .int (i+j)
abbrev qRl:O2:=oI0 λi j => .int (i - j)
abbrev qDa:O2:=oI IntMulOk λi j => .int (i*j)
abbrev oDiv:O2:=oI qAgt λi j => .int (i.fdiv j)
abbrev qFv:O2:=oI (λ_ j=>j≠0) λi j => .int (i.fmod j)
abbrev oPow:O2:=oI CPow λi j => .int (i ^ j.toNat)
abbrev oLt:O2:=oI0 λi j => .bl (decide (i<j))
abbrev oGt:O2:=oI0 λi j => .bl (decide (j<i))
abbrev oGe:O2:=oI0 λi j => .bl (decide (j<=i))
theorem qCf:OpS K E1 qEc qDs:=qAdu λ_ _ _ _ _=>rfl
theorem qJq:OpS K E1 qOa qRl:=qAdu λ_ _ _ _ _=>rfl
theorem qA9:OpS K E1 qCg qDa:=os_I λ_ _ _ _ _=>rfl
theorem qAcp:OpS K E1 qSk oDiv:=os_I λ_ _ _ _ _=>rfl
theorem qDv:OpS K E1 qFn qFv:=os_I λ_ _ _ _ _=>rfl
theorem qO3:OpS K E1 qVo oPow:=os_I λ_ _ _ _ _=>rfl
theorem qAmm:OpS K E1 rLt0 oLt:=qAdu λ_ _ _ _ _=>rfl
theorem qAdt:OpS K E1 rGt0 oGt:=qAdu λ_ _ _ _ _=>rfl
theorem qAqj:OpS K E1 rGe0 oGe:=qAdu λ_ _ _ _ _=>rfl
def eqD:D->D->Option Bool
 | .int i, .int j=>some (decide (i=j))
 | .str i, .str j=>some (decide (i=j))
 | .bl i, .bl j=>some (decide (i=j))
 | .non, .non=>some true
 | .non, .int _=>some false
 | .int _, .non=>some false
 | .non, .str _=>some false
 | .str _, .non=>some false
 | .non, .bl _=>some false
 | .bl _, .non=>some false
 | .int _, .str _=>some false
 | .str _, .int _=>some false
 | _,_=>none
theorem qAdz{a b:D}{x y:V}{k:Bool}(ra:Rep K F M H a x)(rb:Rep K F M H b y)(h:eqD a b=some k):scal x y=true/\decide (x=y)=k:=by
 cases a <;> cases b <;> first | (cases h;done) | skip
 all_goals
  simp only [Rep] at ra rb
  subst ra rb
  simp only [eqD,Option.some.injEq] at h
  subst h
  refine ⟨rfl, ?_⟩
  simp
def oEq:O2:=λa b P _=>∃ k,eqD a b=some k/\P (.bl k)
def oNe:O2:=λa b P _=>∃ k,eqD a b=some k/\P (.bl !k)
theorem qPt:OpS K E1 rEq oEq:=by
 intro F M H x y a b P X Q lv ra rb h q x'
 obtain ⟨k,hk,p⟩:=h
 obtain ⟨h1,h2⟩:=qAdz ra rb hk
 exact ⟨h1,by rw [h2];exact q _ _ _ p .refl rfl⟩
theorem qAl2:OpS K E1 rNe oNe:=by
 intro F M H x y a b P X Q lv ra rb h q x'
 obtain ⟨k,hk,p⟩:=h
 obtain ⟨h1,h2⟩:=qAdz ra rb hk
 exact ⟨h1,by rw [h2];exact q _ _ _ p .refl rfl⟩
def isN:D->Bool
 | .non=>true
 | _=>false
theorem qAj0{a:D}{x:V}(r:Rep K F M H a x):decide (x = .non)=isN a:=by
 cases a with
 | non=>rw [show x = .non from r];rfl
 | bl b=>rw [show x = .bl b from r];rfl
 | int b=>rw [show x = .int b from r];rfl
 | str b=>rw [show x = .str b from r];rfl
 | rat q=>obtain ⟨p,rfl,_⟩:=r;rfl
 | poly q=>obtain ⟨p,_,_,_,_,rfl,_⟩:=r;rfl
 | lst q=>obtain ⟨p,_,rfl,_⟩:=r;rfl
 | tup q=>obtain ⟨p,_,rfl,_⟩:=r;rfl
 | ins C ns q=>obtain ⟨p,_,_,rfl,_⟩:=r;rfl
 | feed=>obtain ⟨p,_,rfl⟩:=r;rfl
 | exc=>obtain ⟨p,rfl⟩:=r;rfl
 | adr p=>rw [show x = .ref p from r];rfl
 | scr ns=>obtain ⟨a,rfl,_⟩:=r;rfl
 | dct ks q=>obtain ⟨p,_,rfl,_⟩:=r;rfl
 | exn C ns q=>obtain ⟨p,_,_,rfl,_⟩:=r;rfl
def oIsN:O2:=λa b P _=>b = .non/\P (.bl (isN a))
def qAao:O2:=λa b P _=>b = .non/\P (.bl (!isN a))
theorem qAnh:OpS K E1 qApg oIsN:=by
 intro F M H x y a b P X Q lv ra rb h q x'
 obtain ⟨rfl,p⟩:=h
 exact ⟨rb,by rw [qAj0 ra];exact q _ _ _ p .refl rfl⟩
theorem qAb6:OpS K E1 qAfd qAao:=by
 intro F M H x y a b P X Q lv ra rb h q x'
 obtain ⟨rfl,p⟩:=h
 exact ⟨rb,by rw [qAj0 ra];exact q _ _ _ p .refl rfl⟩
def qZf:O1:=λa P _=>match a with
 | .int i=>P (.int (-i))
 | _=>False
theorem qNl:UnS K E1 qM6 qZf:=by
 intro F M H x a P X Q lv ra h q x'
 cases a <;> first | exact h.elim | skip
 exact ⟨_,ra,q _ _ _ h .refl rfl⟩
theorem qA2:OpS K E1 (rIxL K) (λa b P X=>(∃ ds,a = .lst ds)/\oIx a b P X):=by
 intro F M H x y a b P X Q lv ra rb h q x'
 obtain ⟨⟨_,rfl⟩,ds,n,d,hl,rfl,ha,p⟩:=h
 rcases hl with z | z <;> cases z
 obtain ⟨p',vs,rfl,ok,hp,rs⟩:=ra
 obtain ⟨v,h1,h2⟩:=qXb rs ha
 exact ⟨p',vs,n,v,rfl,rb,SqL.of hp,h1,q _ _ _ p .refl h2⟩
theorem qDj:OpS K E1 (rIxT K) (λa b P X=>(∃ ds,a = .tup ds)/\oIx a b P X):=by
 intro F M H x y a b P X Q lv ra rb h q x'
 obtain ⟨⟨_,rfl⟩,ds,n,d,hl,rfl,ha,p⟩:=h
 rcases hl with z | z <;> cases z
 obtain ⟨p',vs,rfl,ok,hp,rs⟩:=ra
 obtain ⟨v,h1,h2⟩:=qXb rs ha
 exact ⟨p',vs,n,v,rfl,rb,SqT.of hp,h1,q _ _ _ p .refl h2⟩
def oAbs:OL:=λas P _=>match as with
 | [.int i]=>P (.int (i.natAbs:Nat))
 | _=>False
theorem qKx{ds:D}{vs:List V}(r:Reps K F M H [ds] vs):∃ v,vs=[v]/\Rep K F M H ds v:=by
 obtain ⟨v,us,rfl,h,z⟩:=r
 rw [show us=[] from z]
 exact ⟨v,rfl,h⟩
def oMax:OL:=λas P _=>match as with
 | [.int i, .int j]=>P (.int (max i j))
 | _=>False
def oMin:OL:=λas P _=>match as with
 | [.int i, .int j]=>P (.int (min i j))
 | _=>False
def qE8:OL:=λas P _=>match as with
 | [.int i]=>P (.int i)
 | [.bl b]=>P (.int (if b then 1 else 0))
 | _=>False
theorem qDn:LsS K E1 qFm qE8:=by
 intro F M H xs as P X Q lv ra h q x'
 match as,h with
 | [.int i],h=>
  obtain ⟨v,rfl,r⟩:=qKx ra
  exact .inl ⟨i,by rw [show v = .int i from r],q _ _ _ h .refl rfl⟩
 | [.bl i],h=>
  obtain ⟨v,rfl,r⟩:=qKx ra
  exact .inr ⟨i,by rw [show v = .bl i from r],q _ _ _ h .refl rfl⟩
def qH8:OL:=λas P _=>match as with
 | [.lst ds]=>P (.int (ds.length:Nat))
 | [.tup ds]=>P (.int (ds.length:Nat))
 | [.str x]=>x.length<=sizeLine/\P (.int (x.length:Nat))
 | _=>False
theorem qD0:LsS K E1 (qFb K) qH8:=by
 intro F M H xs as P X Q lv ra h q x'
 match as,h with
 | [.lst ds],h=>
  obtain ⟨v,rfl,r⟩:=qKx ra
  obtain ⟨p,vs,rfl,ok,hp,rs⟩:=r
  exact ⟨.ref p,ds.length,rfl, .inl ⟨vs,SqL.of hp,rs.length.symm⟩,q _ _ _ h .refl rfl⟩
 | [.tup ds],h=>
  obtain ⟨v,rfl,r⟩:=qKx ra
  obtain ⟨p,vs,rfl,ok,hp,rs⟩:=r
  exact ⟨.ref p,ds.length,rfl, .inr ⟨vs,SqT.of hp,rs.length.symm⟩,q _ _ _ h .refl rfl⟩
 | [.str z],h=>
  obtain ⟨v,rfl,r⟩:=qKx ra
  exact ⟨v,z.length,rfl,by rw [show v = .str z from r];exact ⟨h.1,rfl⟩,q _ _ _ h.2 .refl rfl⟩
def qTm:OL:=λas P _=>match as with
 | [.lst ds]=>P (.lst ds)
 | [.tup ds]=>P (.lst ds)
 | _=>False
theorem qNd{ta:TA}{fa:FA}(ha:SA K Ta ow E ta fa):SF K Ta ow E (tCB (qMe K) ta) (fLs qTm fa):=by
 intro w H σ ρ P X Q e h q x
 refine ha w H σ ρ _ X _ e h (λas vs H1 hd g r => ?_) x
 have e1:=e.grow g
 match as,hd with
 | [.lst ds],hd=>
  obtain ⟨v,rfl,r1⟩:=qKx r
  obtain ⟨p,vs,rfl,ok,hp,rs⟩:=r1
  exact ⟨p,vs,rfl, .inl (SqL.of hp),λpp np=>q _ pp _ _ hd (g.trans (.new np)) (newer e1.lv g np) upd_same (qQl np rs)⟩
 | [.tup ds],hd=>
  obtain ⟨v,rfl,r1⟩:=qKx r
  obtain ⟨p,vs,rfl,ok,hp,rs⟩:=r1
  exact ⟨p,vs,rfl, .inr (SqT.of hp),λpp np=>q _ pp _ _ hd (g.trans (.new np)) (newer e1.lv g np) upd_same (qQl np rs)⟩
abbrev qAer(K:W.Frag):List V->Hp->VK->Prop:=λxs H Q=>∃ p ys,xs=[.ref p]/\((SqL K H p ys/\∀ l,H l=none->Q (.ref l) (upd H l (.tup ys)))\/(SqT K H p ys/\Q (.ref p) H))
def qO5:OL:=λas P _=>match as with
 | [.lst ds]=>P (.tup ds)
 | [.tup ds]=>P (.tup ds)
 | _=>False
theorem qAhp:LsS K E1 (qAer K) qO5:=by
 intro F M H xs as P X Q lv ra h q x'
 match as,h with
 | [.lst ds],h=>
  obtain ⟨v,rfl,r⟩:=qKx ra
  obtain ⟨p,vs,rfl,ok,hp,rs⟩:=r
  exact ⟨p,vs,rfl, .inl ⟨SqL.of hp,λpp np=>q _ _ _ h (.new np) (qQn lv np rs)⟩⟩
 | [.tup ds],h=>
  obtain ⟨v,rfl,r⟩:=qKx ra
  obtain ⟨p,vs,rfl,ok,hp,rs⟩:=r
  exact ⟨p,vs,rfl, .inr ⟨SqT.of hp,q _ _ _ h .refl ⟨p,vs,rfl,ok,hp,rs⟩⟩⟩
def oCat:O2:=λa b P _=>match a,b with
 | .lst x, .lst y=>x.length+y.length<=sizeLine/\P (.lst (x ++ y))
 | _,_=>False
theorem qAd5:OpS K E1 rCat oCat:=by
 intro F M H x y a b P X Q lv ra rb h q x'
 cases a <;> cases b <;> first | exact h.elim | skip
 obtain ⟨p,vs,rfl,ok,hp,rs⟩:=ra
 obtain ⟨p2,vs2,rfl,ok2,hp2,rs2⟩:=rb
 exact ⟨p,p2,vs,vs2,rfl,rfl,hp,hp2,by rw [rs.length,rs2.length];exact h.1,λpp np=>q _ _ _ h.2 (.new np) (qQ5 lv np (rs.append rs2))⟩
def oRep:O2:=λa b P _=>match a,b with
 | .lst x, .int k=>(-(2 ^ 63)<=k/\k<2 ^ 63)/\x.length*k.toNat<=sizeLine/\P (.lst (List.replicate k.toNat x).flatten)
 | _,_=>False
theorem Reps.rep{ds:List D}{vs:List V}(r:Reps K F M H ds vs):∀ n:Nat,Reps K F M H (List.replicate n ds).flatten (List.replicate n vs).flatten
 | 0=>rfl
 | n+1=>by
  rw [List.replicate_succ,List.replicate_succ,List.flatten_cons,List.flatten_cons]
  exact r.append (Reps.rep r n)
theorem qAot:OpS K E1 rRep oRep:=by
 intro F M H x y a b P X Q lv ra rb h q x'
 cases a <;> cases b <;> first | exact h.elim | skip
 obtain ⟨p,vs,rfl,ok,hp,rs⟩:=ra
 exact ⟨p,_,vs,rfl,rb,hp,h.1.1,h.1.2,by rw [rs.length];exact h.2.1,λpp np=>q _ _ _ h.2.2 (.new np) (qQ5 lv np (rs.rep _))⟩
inductive Cl where
 | ty (n:String) | own (C:Str)
def Cl.v(K:W.Frag):Cl->V
 | .ty n => .ty n
 | .own C => .ref (He.ga K C)
def Cl.u(K:W.Frag):Cl->Value
 | .ty n => .type n
 | .own C => .ref (He.ga K C)
def tyN:D->Option String
 | .non=>some "NoneType"
 | .bl _=>some "bool"
 | .int _=>some "int"
 | .str _=>some "str"
 | .lst _=>some "list"
 | .tup _=>some "tuple"
 | .dct _ _=>some "dict"
 | _=>none
def subN(a b:String):Bool:=a == b || (a == "bool" && b == "int")
def isD(cs:List Str)(c:Cl)(d:D):Option Bool:=
 match tyN d with
 | some t=>(match c with
  | .ty n=>if n∈["int","bool","str","list","tuple"] then some (subN t n) else none
  | .own C=>if C∈cs then some false else none)
 | none=>(match qQy d with
  | some C=>if C∈cs then (match c with
   | .ty n=>if n∈["int","bool","str","list","tuple"] then some false else none
   | .own C'=>if C'∈cs then some (decide (C=C')) else none) else none
  | none=>none)
structure KT (K:W.Frag) (cs:List Str):Prop where
 own:∀ C,C∈cs->OwnC K (He.ga K C)
 ob:∀ C,C∈cs->∀ n,n∈["int","bool","str","list","tuple"]->PySem.W.kitOne K (.ref (He.ga K C)) (.type n)=some false
 bo:∀ C,C∈cs->∀ n,n∈["NoneType","int","bool","str","list","tuple","dict"]->PySem.W.kitOne K (.type n) (.ref (He.ga K C))=some false
 oo:∀ C,C∈cs->∀ C',C'∈cs->PySem.W.kitOne K (.ref (He.ga K C)) (.ref (He.ga K C'))=some (decide (C=C'))
theorem qAi4{d:D}{v:V}{t:String}(r:Rep K F M H d v)(h:tyN d=some t):TyX K H v (.type t)/\t∈["NoneType","int","bool","str","list","tuple","dict"]:=by
 cases d <;> first | (cases h;done) | skip
 ·cases h;rw [show v = .non from r];exact ⟨.base .non,by simp⟩
 ·cases h;rw [show v=_ from r];exact ⟨.base (.bl _),by simp⟩
 ·cases h;rw [show v=_ from r];exact ⟨.base (.int _),by simp⟩
 ·cases h;rw [show v=_ from r];exact ⟨.base (.str _),by simp⟩
 ·cases h;obtain ⟨p,vs,rfl,_,e,_⟩:=r;exact ⟨.base (.lst e),by simp⟩
 ·cases h;obtain ⟨p,vs,rfl,_,e,_⟩:=r;exact ⟨.base (.tup e),by simp⟩
 ·cases h;obtain ⟨p,gs,rfl,_,e,_⟩:=r;exact ⟨.base (.dK e),by simp⟩
theorem qAfl{cs:List Str}{d:D}{v:V}{C:Str}(T:KT K cs)(r:Rep K F M H d v)(h:qQy d=some C)(hC:C∈cs):TyX K H v (.ref (He.ga K C)):=by
 cases d <;> first | (cases h;done) | skip
 ·cases h;obtain ⟨p,rfl,_,dx,e⟩:=r;exact (T.own _ hC).ty e
 ·cases h;obtain ⟨p,dx,t,l,vs,rfl,_,e,_⟩:=r;exact (T.own _ hC).ty e
 ·cases h;obtain ⟨p,dx,gs,rfl,_,e,_⟩:=r;exact (T.own _ hC).ty e
theorem qAh2{a b:String}(ha:a∈["NoneType","int","bool","str","list","tuple","dict"])(hb:b∈["int","bool","str","list","tuple"]):PySem.W.kitOne K (.type a) (.type b)=some (subN a b):=by
 simp only [List.mem_cons,List.not_mem_nil,or_false] at ha hb
 rcases ha with rfl | rfl | rfl | rfl | rfl | rfl | rfl <;> rcases hb with rfl | rfl | rfl | rfl | rfl <;> exact kit_ty (by decide +kernel)
theorem qAi6{cs:List Str}{c:Cl}{d:D}{v:V}{b:Bool}(T:KT K cs)(r:Rep K F M H d v)(h:isD cs c d=some b):∃ t,TyX K H v t/\PySem.W.kitOne K t (c.u K)=some b:=by
 unfold isD at h
 cases ht:tyN d with
 | some t=>
  rw [ht] at h
  obtain ⟨h1,h2⟩:=qAi4 r ht
  cases c with
  | ty n=>
   dsimp only at h
   split at h
   ·rename_i hn
    cases h
    exact ⟨_,h1,qAh2 h2 hn⟩
   ·cases h
  | own C=>
   dsimp only at h
   split at h
   ·rename_i hn
    cases h
    exact ⟨_,h1,T.bo C hn t h2⟩
   ·cases h
 | none=>
  rw [ht] at h
  dsimp only at h
  cases hc:qQy d with
  | none=>rw [hc] at h;cases h
  | some C=>
   rw [hc] at h
   dsimp only at h
   split at h
   ·rename_i hC
    have h1:=qAfl T r hc hC
    cases c with
    | ty n=>
     dsimp only at h
     split at h
     ·rename_i hn
      cases h
      exact ⟨_,h1,T.ob C hC n hn⟩
     ·cases h
    | own C'=>
     dsimp only at h
     split at h
     ·rename_i hn
      cases h
      exact ⟨_,h1,T.oo C hC C' hn⟩
     ·cases h
   ·cases h
def qQk(cs:List Str)(c:Cl)(fe:FE):FE:=λρ P X=>fe ρ (λd=>∃ b,isD cs c d=some b/\P (.bl b)) X
theorem qAl7(c:Cl):ClsV (c.v K) (c.u K):=by
 cases c with
 | ty n=>exact .ty n
 | own C=>exact .own _
theorem qG0{cs:List Str}{c:Cl}{te:TE}{fe:FE}(T:KT K cs)(he:SE K Ta ow E te fe):SE K Ta ow E (tCB (rIsi K) (tCons te (tCons (tC (c.v K)) tNil))) (qQk cs c fe):=by
 intro w H σ ρ P X Q e h q x
 refine he w H σ ρ _ X _ e h (λd v H1 hd g r => ?_) x
 obtain ⟨b,hb,p⟩:=hd
 obtain ⟨t,h1,h2⟩:=qAi6 T r hb
 exact ⟨v,_,t,c.u K,b,rfl,qAl7 c,h1,h2,q _ _ _ p g rfl⟩
def qZz(cs:List Str)(fe:FE):FE:=λρ P X=>fe ρ (λd=>∃ b b',isD cs (.ty "list") d=some b/\isD cs (.ty "tuple") d=some b'/\P (.bl (b || b'))) X
theorem qAdh{cs:List Str}{c c':Cl}{d:D}{v:V}{b b':Bool}(T:KT K cs)(r:Rep K F M H d v)(h:isD cs c d=some b)(h':isD cs c' d=some b'):∃ t,TyX K H v t/\PySem.W.kitOne K t (c.u K)=some b/\PySem.W.kitOne K t (c'.u K)=some b':=by
 have key:∀ {c:Cl} {b:Bool},isD cs c d=some b->(∃ t,tyN d=some t)\/∃ C,C∈cs/\qQy d=some C:=λ{c b} h=>by
  unfold isD at h
  cases ht:tyN d with
  | some t=>exact .inl ⟨t,rfl⟩
  | none=>
   rw [ht] at h
   dsimp only at h
   cases hc:qQy d with
   | none=>rw [hc] at h;cases h
   | some C=>
    rw [hc] at h
    dsimp only at h
    split at h
    ·rename_i hC;exact .inr ⟨C,hC,rfl⟩
    ·cases h
 have uniq:∃ t,TyX K H v t/\∀ {c:Cl} {b:Bool},isD cs c d=some b->PySem.W.kitOne K t (c.u K)=some b:=by
  rcases key h with ⟨t,ht⟩ | ⟨C,hC,hc⟩
  ·obtain ⟨h1,h2⟩:=qAi4 r ht
   refine ⟨_,h1,λ{c b} h => ?_⟩
   unfold isD at h
   rw [ht] at h
   cases c with
   | ty n=>
    dsimp only at h
    split at h
    ·rename_i hn;cases h;exact qAh2 h2 hn
    ·cases h
   | own C=>
    dsimp only at h
    split at h
    ·rename_i hn;cases h;exact T.bo C hn t h2
    ·cases h
  ·refine ⟨_,qAfl T r hc hC,λ{c b} h => ?_⟩
   have ht:tyN d=none:=by cases d <;> first | rfl | cases hc
   unfold isD at h
   rw [ht,hc] at h
   dsimp only at h
   rw [if_pos hC] at h
   cases c with
   | ty n=>
    dsimp only at h
    split at h
    ·rename_i hn;cases h;exact T.ob C hC n hn
    ·cases h
   | own C'=>
    dsimp only at h
    split at h
    ·rename_i hn;cases h;exact T.oo C hC C' hn
    ·cases h
 obtain ⟨t,h1,h2⟩:=uniq
 exact ⟨t,h1,h2 h,h2 h'⟩
theorem qAbi{cs:List Str}{te:TE}{fe:FE}(T:KT K cs)(he:SE K Ta ow E te fe):SE K Ta ow E (tCB (rIsiT K) (tCons te (tCons (tTup (tCons (tC (.ty "list")) (tCons (tC (.ty "tuple")) tNil))) tNil))) (qZz cs fe):=by
 intro w H σ ρ P X Q e h q x
 refine he w H σ ρ _ X _ e h (λd v H1 hd g r => ?_) x
 obtain ⟨b,b',hb,hb',p⟩:=hd
 refine ⟨by decide,λtp np => ?_⟩
 have g2:=g.trans (Gr.new (K:=K) (F:=w.F) (o := .tup [.ty "list", .ty "tuple"]) np)
 obtain ⟨t,h1,h2,h3⟩:=qAdh T (Rep.goes (Gr.new (K:=K) np).goes _ _ r) hb hb'
 refine ⟨v,tp,[.ty "list", .ty "tuple"],t,[.type "list", .type "tuple"],b || b',rfl,upd_same, .cons (.ty _) (.cons (.ty _) .nil),h1, ?_,q _ _ _ p g2 rfl⟩
 have h2':PySem.W.kitOne K t (.type "list")=some b:=h2
 have h3':PySem.W.kitOne K t (.type "tuple")=some b':=h3
 simp only [PySem.W.kitAny,h2',h3']
 cases b <;> cases b' <;> rfl
end
section
variable {K:W.Frag} {w:Wd} {ow ow' ow1 owb owx:List Nat} {H H':Hp} {σ:L2.St} {ρ:Env} {E:L2.St->XK} {E1:XK} {N:L2.Ends} {FD:FEnds} {F:Fd} {M:Addr->Prop}
theorem qV7{d:D}{v:V}{C:Str}(r:Rep K F M H d v)(h:qQy d=some C):∃ p dx fs,v = .ref p/\H p=some (.ins (He.ga K C) dx fs):=by
 cases d <;> first | (cases h;done) | skip
 ·cases h;obtain ⟨p,rfl,_,dx,e⟩:=r;exact ⟨p,dx,_,rfl,e⟩
 ·cases h;obtain ⟨p,dx,t,l,vs,rfl,_,e,_⟩:=r;exact ⟨p,dx,_,rfl,e⟩
 ·cases h;obtain ⟨p,dx,gs,rfl,_,e,_⟩:=r;exact ⟨p,dx,_,rfl,e⟩
def qAhk:D->Prop
 | .int _=>True
 | _=>False
def oOwn(C:Str)(fsp:FSp):O2:=λa b P X=>qQy a=some C/\(qAhk b\/qQy b=some C)/\fsp [a,b] P X
def qOh(C:Str)(fsp:FSp):O2:=λa b P X=>qQy a=some C/\(qAhk b\/qQy b=some C)/\fsp [a,b] P X0
def qAoy(C:Str)(fsp:FSp):O2:=λa b P X=>qAhk a/\qQy b=some C/\fsp [b,a] P X0
theorem qAhu{b:D}{y:V}(h:qAhk b)(r:Rep K F M H b y):∃ n,y = .int n:=by
 cases b <;> first | exact h.elim | skip
 exact ⟨_,r⟩
theorem qApl{C:Str}{sp:Sp}{fsp:FSp}(L:Lift K sp fsp):OpS K E1 (rOwn (He.ga K C) sp E1) (oOwn C fsp):=by
 intro F M H x y a b P X Q lv ra rb h q x'
 obtain ⟨h1,h2,h3⟩:=h
 obtain ⟨p,dx,fs,rfl,e⟩:=qV7 ra h1
 refine ⟨p,dx,fs,rfl,e, ?_,L _ _ _ _ ⟨F,M,[a,b],P,X,lv, .cons ra (.one rb),h3,q,x'⟩⟩
 rcases h2 with h2 | h2
 ·exact .inl (qAhu h2 rb)
 ·obtain ⟨p',dx',fs',rfl,e'⟩:=qV7 rb h2
  exact .inr ⟨p',dx',fs',rfl,e'⟩
theorem px0:PostX K F M H X0 E0:=λx cls dd H' hx _ _=>hx
theorem qP1{C:Str}{sp:Sp}{fsp:FSp}(L:Lift K sp fsp):OpS K E1 (rOwn (He.ga K C) sp E0) (qOh C fsp):=λF M H x y a b P X Q lv ra rb h q _=>qApl (E1:=E0) L F M H x y a b P X0 Q lv ra rb h q px0
def qAgp(C:Str)(fsp:FSp):O1:=λa P X=>qQy a=some C/\fsp [a] P X0
theorem qAke{C:Str}{sp:Sp}{fsp:FSp}(L:Lift K sp fsp):UnS K E1 (qAl8 (He.ga K C) sp E0) (qAgp C fsp):=by
 intro F M H x a P X Q lv ra h q x'
 obtain ⟨h1,h3⟩:=h
 obtain ⟨p,dx,fs,rfl,e⟩:=qV7 ra h1
 exact ⟨p,dx,fs,rfl,e,L _ _ _ _ ⟨F,M,[a],P,X0,lv, .one ra,h3,q,px0⟩⟩
def qAqc(C:Str)(fsp:FSp):OL:=λas P X=>∃ a,as=[a]/\qQy a=some C/\fsp [a] P X0
def qAd0(o o':O2)(fa fb fc:FE):FE:=λρ P X=>fa ρ (λa=>fb ρ (λb=>o a b (toB λk=>if k=true then fc ρ (λc=>o' b c P X) X else P (.bl false)) X) X) X
def qHd(C p:Str)(fe:FE):FS:=λFD ρ=>fe ρ (λd=>FD.ex ⟨C,[(p,d)]⟩ ρ) (λx=>FD.ex x ρ)
theorem qHw{C p:Str}{te:TE}{fe:FE}(hs:Sub owx ow)(he:SE K Ta ow E te fe):SS K Ta ow ow' owb owx E (qE9 (He.ga K C) p (λcls d σ H=>E σ cls d H) (tCons te tNil)) (qHd C p fe):=by
 intro w H σ ρ N FD e h k
 refine he w H σ ρ _ _ _ e h (λd v H1 hd g r => ?_) (k.px e hs)
 refine ⟨v,rfl,λa na => ?_⟩
 have e1:=e.grow g
 have g2:Gr K w.F H1 (upd H1 a (.xd [(p,v)])) := .new na
 refine k.ex _ ρ σ _ _ _ hd ((e1.grow g2).free hs) ⟨rfl, .inr ⟨a,_,rfl,(e1.lv.ok na).1,upd_same,v,[],rfl, ?_,rfl⟩⟩
 exact Rep.goes (λq o h nf m=>⟨h,λz=>m (.inl z)⟩) _ _ (Rep.goes g2.goes _ _ r)
def qXc(C:Addr)(W:WX):TS:=λ_ σ H=>W (.ref C) none σ H
def qNc(C:Str):FS:=λFD ρ=>FD.ex ⟨C,[]⟩ ρ
theorem qAbk{C:Str}(hs:Sub owx ow):SS K Ta ow ow' owb owx E (qXc (He.ga K C) (λcls d σ H=>E σ cls d H)) (qNc C):=λw H σ ρ N FD e h k=>k.ex _ ρ σ H _ _ h (e.free hs) ⟨rfl, .inl ⟨rfl,rfl⟩⟩
abbrev XTab:=List (Str × Str × Bool)
def XOk(K:W.Frag)(T:XTab):Prop:=∀ a b k,(a,b,k)∈T->PySem.W.exmOne K (.ref (He.ga K a)) (.ref (He.ga K b))=some k
def SEH(K:W.Frag)(Ta:List (Addr × Str))(ow:List Nat)(i:Nat)(a:Addr)(cls:Value)(dd:Option Addr)(x:Exn)(ta:TE)(fa:FE):Prop:=
 ∀ (w:Wd) (H:Hp) (σ:L2.St) (ρ:Env) (P:D->Prop) (Q:VK),REnv K Ta w ow H σ ρ->RepX K w.F w.M H cls dd x->σ[i]?=some (some (.ref a))->fa ρ P X0->Post K w.F (w.Mx ow σ) H P Q->ta σ H Q
theorem SE.sh{i:Nat}{a:Addr}{cls:Value}{dd:Option Addr}{x:Exn}{ta:TE}{fa:FE}(h:SE K Ta ow (λ_=>E0) ta fa):SEH K Ta ow i a cls dd x ta fa:=λw H σ ρ P Q e _ _ hf q=>h w H σ ρ P X0 Q e hf q px0
def fTry(T:XTab)(C:Str)(j:Nat)(fb:FS)(fh:FE):FS:=λFD ρ=>fb { FD with ex:=λx ρ'=>(x.cls,C,true)∈T/\fh ρ' (λd=>FD.nx (ρ'.set j (some d))) X0 } ρ
theorem qAoj{T:XTab}{C:Str}{j:Nat}{tb:WX->TS}{te:TE}{fb:FS}{fh:FE}(XT:XOk K T)(hj:j ∉ ow')
  (hb:∀ W:WX,SS K Ta ow ow' owb ow' (WE W) (tb W) fb) (hh:SE K Ta ow' (λ_=>E0) te fh) :
  SS K Ta ow ow' owb owx E (λD=>tb (wOnly K (.ref (He.ga K C)) (λa cls dd=>tAsg te (gName j)) (λ_ _ _ _=>False) D) D) (fTry T C j fb fh):=by
 intro w H σ ρ N FD e h k
 refine hb _ w H σ ρ N _ e h ⟨k.nx,k.rt,k.bk,k.ct,λx ρ' σ' H1 cls dd hx e' r => ?_,k.rf⟩
 obtain ⟨hT,hx⟩:=hx
 refine ⟨true,by rw [r.1];exact XT _ _ _ hT,λ_ a na => ?_,λz=>by cases z⟩
 exact hh w H1 σ' ρ' _ X0 _ e' hx (λd v H2 hd g2 r2=>k.nx _ _ _ hd ((e'.grow g2).put hj r2)) px0
def qBb(n:Nat)(ds:List D):Env:=ds.map some ++ List.replicate (n - ds.length) none
def qF9(P:D->Prop)(X:XP):FEnds:=⟨λ_=>P .non,P,λ_=>False,λ_=>False,λx _=>X x,P⟩
def topN(P:D->Prop)(X:XP):FEnds:=⟨λ_=>False,λ_=>False,λ_=>False,λ_=>False,λx _=>X x,P⟩
theorem qYd{R:D->V->Prop}:∀ {ds:List D} {vs:List V} (k i:Nat),Reps K F M H ds vs->(∀ d v,Rep K F M H d v->R d v)->Sl R (ds.map some ++ List.replicate k none)[i]? (vs.map some ++ List.replicate k none)[i]?
 | [],vs,k,i,r,h=>by
  rw [show vs=[] from r]
  simp only [List.map_nil,List.nil_append]
  rw [List.getElem?_replicate,List.getElem?_replicate]
  split
  ·trivial
  ·trivial
 | d :: ds,vs,k,i,r,h=>by
  obtain ⟨v,us,rfl,r1,r2⟩:=r
  cases i with
  | zero=>exact h d v r1
  | succ i=>
   simp only [List.map_cons,List.cons_append,List.getElem?_cons_succ]
   exact qYd k i r2 h
theorem New.rep{H0:Hp}{d:D}{v:V}(lv:Lv K F M H0)(h:New K F M H0 H d v):Rep K F M H d v:=by
 obtain ⟨p,o,rfl,h0,hn,h1,h2⟩:=h
 have ok:Ok F M p:=⟨hn,λm=>by obtain ⟨u,z⟩:=lv.m p m;rw [h0] at z;cases z⟩
 exact RepO.rep (h2.goes λq u hq _ m=>⟨hq,λz=>m (.inl z)⟩) ok h1
theorem qJl{names:List Str}{n:Nat}{ds:List D}{vs:List V}(lv:Lv K F M H)(r:Reps K F M H ds vs)(hn:names.length=n):REnv K F.T ⟨F,M,H⟩ [] H (start names vs) (qBb n ds):=by
 refine ⟨.refl,lv.m,lv.nf,λi _ => ?_,λi hi=>(nomatch hi),λi hi=>(nomatch hi),λf hf => ?_,lv.t,rfl⟩
 ·unfold L2.start qBb
  rw [hn,r.length]
  exact qYd _ _ r λd v h=>Rep.goes (λp o h _ m=>⟨h,λz=>m (z.elim id λ⟨_,y,_⟩=>(nomatch y))⟩) _ _ h
 ·obtain ⟨c,h1,h2⟩:=lv.f f hf
  exact ⟨c,h1,λz=>h2 (z.elim id λ⟨_,y,_⟩=>(nomatch y))⟩
theorem qAcm{names:List Str}{n:Nat}{fsp:FSp}{t:XK->TS}{fb:FS}(hn:names.length=n)(h:∀ {Ta:List (Addr × Str)} (E:XK),SS K Ta [] [] [] [] (λ_=>E) (t E) fb)(pure:∀ ds P X,fsp ds P X->fb (qF9 P X) (qBb n ds))(vs:List V)(H:Hp)(Q:VK)(E:XK)(l:lift K fsp vs H Q E) :
  t E { nx:=λ_ H'=>Q .non H',rt:=Q } (start names vs) H:=by
 obtain ⟨F,M,ds,P,X,lv,r,hs,q,x⟩:=l
 refine h E ⟨F,M,H⟩ H _ _ _ _ (qJl lv r hn) (pure ds P X hs) ⟨λρ σ H' hp e=>q _ _ _ hp e.gr rfl,λd v H' hd g r=>q d v H' hd g r,λ_ _ _ z=>z.elim,λ_ _ _ z=>z.elim,λx' ρ σ H' cls dd hx e r=>x x' cls dd H' hx e.gr r,λd v H' hd g r=>q d v H' hd g (New.rep lv r)⟩
theorem qD1{names:List Str}{n:Nat}{fsp:FSp}{t:TS}{fb:FS}(hn:names.length=n)(h:∀ {Ta:List (Addr × Str)},SS K Ta [] [] [] [] (λ_=>E0) t fb)(pure:∀ ds P X,fsp ds P X->fb (qF9 P X0) (qBb n ds))(vs:List V)(H:Hp)(Q:VK)(E:XK)(l:lift K fsp vs H Q E) :
  t { nx:=λ_ H'=>Q .non H',rt:=Q } (start names vs) H:=by
 obtain ⟨F,M,ds,P,X,lv,r,hs,q,x⟩:=l
 refine h ⟨F,M,H⟩ H _ _ _ _ (qJl lv r hn) (pure ds P X hs) ⟨λρ σ H' hp e=>q _ _ _ hp e.gr rfl,λd v H' hd g r=>q d v H' hd g r,λ_ _ _ z=>z.elim,λ_ _ _ z=>z.elim,λx' ρ σ H' cls dd hx e r=>hx.elim,λd v H' hd g r=>q d v H' hd g (New.rep lv r)⟩
def qRx(K:W.Frag)(fsp:FSp):Sp:=λvs H Q E=>∃ (F:Fd) (M:Addr->Prop) (ds:List D) (P:D->Prop) (X:XP),Lv K F M H/\Reps K F M H ds vs/\fsp ds P X/\(∀ d v H',P d->Gr K F H H'->New K F M H H' d v->Q v H')/\PostX K F M H X E
theorem qAnm{names:List Str}{n:Nat}{fsp:FSp}{t:XK->TS}{fb:FS}(hn:names.length=n)(h:∀ {Ta:List (Addr × Str)} (E:XK),SS K Ta [] [] [] [] (λ_=>E) (t E) fb)(pure:∀ ds P X,fsp ds P X->fb (topN P X) (qBb n ds))(vs:List V)(H:Hp)(Q:VK)(E:XK)(l:qRx K fsp vs H Q E) :
  t E { nx:=λ_ H'=>Q .non H',rt:=Q } (start names vs) H:=by
 obtain ⟨F,M,ds,P,X,lv,r,hs,q,x⟩:=l
 refine h E ⟨F,M,H⟩ H _ _ _ _ (qJl lv r hn) (pure ds P X hs) ⟨λ_ _ _ z=>z.elim,λ_ _ _ z=>z.elim,λ_ _ _ z=>z.elim,λ_ _ _ z=>z.elim,λx' ρ σ H' cls dd hx e r=>x x' cls dd H' hx e.gr r,λd v H' hd g r=>q d v H' hd g r⟩
theorem qUu:MkL K (CR K) (qC2 K) (λds P X=>∃ a b:Int,ds=[.int a, .int b]/\b≠0/\Sml b/\P (.rat (Za4 a b))):=by
 intro F M H ds vs P X Q E x dx lv r h q px nx nd ne
 obtain ⟨a,b,rfl,hb,h9,p⟩:=h
 have:=Reps.ints (ns:=[a,b]) r
 subst this
 refine qAnr nx nd hb h9 λH' s R=>q _ _ _ p (.same s) ⟨x,rfl,lv.ok nx,R⟩
end
def qAko(K:W.Frag):Sp:=λvs H Q _=>∃ (a:Addr) (ns:List Int),vs=[.ref a]/\SqL K H a (ns.map V.int)/\ns.length<=63/\∀ H',Q (.bl true) H'
def yes:D->Prop:=λd=>d = .bl true
def qApt(K:W.Frag)(T:List (Addr × Str)):Sp:=λvs H Q _=>∃ (a:Addr) (ns:List Int),vs=[.ref a]/\SqL K H a (ns.map V.int)/\ns.length<=63/\LamX.Tabs T H/\∀ H',Q (.bl true) H'
theorem qAmr{K:W.Frag}{T:List (Addr × Str)}{names:List Str}{n:Nat}{t:TS}{f:FS}(hn:names.length=n+1)(hs:SS K T [] [] [] [] (λ_=>E0) t f)(hp:∀ ns,ns.length<=63->f (qF9 yes X0) (some (.scr ns) :: List.replicate n none))(vs:List V)(H:Hp)(Q:VK)(E:XK)(h:qApt K T vs H Q E)(hk:∀ (a:Addr) (ns:List Int),SqL K H a (ns.map V.int)->∀ q,q∈T->q.1≠a) :
  t { nx:=λ_ H'=>Q .non H',rt:=Q } (start names vs) H:=by
 obtain ⟨a,ns,rfl,hS,hl,ht,q⟩:=h
 have es:L2.start names [.ref a]=some (.ref a) :: List.replicate n none:=by
  unfold L2.start
  rw [hn]
  rfl
 rw [es]
 refine hs ⟨⟨none,T⟩,λ_=>False,H⟩ H _ _ _ _ ?_ (hp ns hl) ⟨λρ σ H2 hx e => ?_,λd v H2 hd g r => ?_,λ_ _ _ z=>z.elim,λ_ _ _ z=>z.elim,λ_ _ _ _ _ _ z=>z.elim,λd v H2 hd _ r => ?_⟩
 ·refine ⟨.refl,(λ_ z=>z.elim),(λ_ z=>z.elim),λi _ => ?_,λi hi=>(nomatch hi),λi hi=>(nomatch hi),(λf' hf=>nomatch hf),ht,rfl⟩
  show Sl _ (some (D.scr ns) :: List.replicate n none)[i]? (some (V.ref a) :: List.replicate n none)[i]?
  match i with
  | 0=>exact ⟨a,rfl,Scr.of hS ⟨⟨(λz=>nomatch z),hk a ns hS⟩,λz=>z.elim id λ⟨_,y,_⟩=>(nomatch y)⟩⟩
  | i+1=>
   simp only [List.getElem?_cons_succ]
   rw [List.getElem?_replicate,List.getElem?_replicate]
   split <;> trivial
 ·cases hx
 ·cases hd
  rw [show v = .bl true from r]
  exact q H2
 ·cases hd
  obtain ⟨_,_,_,_,_,_,r⟩:=r
  exact r.elim
def fBr(ow:List Nat)(fa:FE):FE:=λρ P X=>qApc ow ρ/\fBor fa ρ P X
def qZ7(i:Nat)(fe:FE):FS:=λFD ρ=>i<ρ.length/\qDo i fe FD ρ
def qCc:O2:=λa b P X=>(∃ ds,a = .lst ds)/\oIx a b P X
def qGu:O2:=λa b P X=>(∃ ds,a = .tup ds)/\oIx a b P X
def qYn(C:Str):List Str:=
 if C="Ratio" then ["top","bottom"] else if C="Poly" then ["coefficients","degree","lead"] else if C="Place" then ["low","high"] else if C="Lot" then ["poly","begin","count"] else if C="Bar" then ["factor","base","other"] else []
structure KF (K:W.Frag) (cs:List Str):Prop extends KT K cs where
 fld:∀ C,C∈cs->∀ f,f∈qYn C->FldOk K C f
section
variable {K:W.Frag} {w:Wd} {ow ow' ow1 owb owx:List Nat} {H H':Hp} {σ:L2.St} {ρ:Env} {E:L2.St->XK} {E1:XK} {N:L2.Ends} {FD:FEnds} {F:Fd} {M:Addr->Prop}
def fAsg(fe:FE)(g:FG):FS:=λFD ρ=>fe ρ (λd=>g d ρ FD.nx) (λx=>FD.ex x ρ)
def fAug(i:Nat)(g:Int->Int->Int)(fe:FE):FS:=λFD ρ=>∃ a,ρ[i]?=some (some (.int a))/\fe ρ (λd=>∃ b,d = .int b/\FD.nx (ρ.set i (some (.int (g a b))))) (λx=>FD.ex x ρ)
def oIsB:O2:=λa b P _=>match a,b with
 | .bl i, .bl j=>P (.bl (decide (i=j)))
 | _,_=>False
def qAly:O2:=λa b P _=>match a,b with
 | .bl i, .bl j=>P (.bl (!decide (i=j)))
 | _,_=>False
section
variable {i:Nat} {a:Addr} {cls:Value} {dd:Option Addr} {x:Exn}
def fLen(i:Nat)(fe:FE):FE:=λρ P X=>i<ρ.length/\fe ρ P X
theorem SEH.len{ta:TE}{fa:FE}(h:SEH K Ta ow i a cls dd x ta fa):SEH K Ta ow i a cls dd x ta (fLen i fa):=λw H σ ρ P Q e r hi hf q=>h w H σ ρ P Q e r hi hf.2 q
theorem RepXs.gr(g:Gr K F H H'):∀ {fs:List (Str × D)} {gs:List (Str × V)},RepXs K F M H fs gs->RepXs K F M H' fs gs
 | [],_,h=>h
 | (n,d) :: r,_,h=>by
  obtain ⟨v,gr,rfl,r1,r2⟩:=h
  exact ⟨v,gr,rfl,Rep.goes g.goes _ _ r1,RepXs.gr g r2⟩
theorem RepX.gr(g:Gr K F H H')(h:RepX K F M H cls dd x):RepX K F M H' cls dd x:=by
 refine ⟨h.1, ?_⟩
 rcases h.2 with h | ⟨ad,gs,h1,h2,h3,h4⟩
 ·exact .inl h
 ·exact .inr ⟨ad,gs,h1,h2,g.old _ _ h3 h2,h4.gr g⟩
def IOk(K:W.Frag)(T:XTab):Prop:=∀ c b k,(c,b,k)∈T->ExcC K (He.ga K c)/\PySem.W.kitOne K (.ref (He.ga K c)) (.ref (He.ga K b))=some k
end
end
theorem qA0{K:W.Frag}{fsp:FSp}{n:Nat}(h:∀ ds P X,fsp ds P X->ds.length=n){vs:List V}{H:Hp}{Q:VK}{E:XK}(l:lift K fsp vs H Q E):vs.length=n:=by
 obtain ⟨F,M,ds,P,X,lv,r,hs,_⟩:=l
 rw [r.length]
 exact h ds P X hs
end MR
namespace MR
open PySem PySem.Spec PyProof.Rows L2 He
def ktF(cs:List Str):Fct:=λK=>cs.all λC=>ownF C K && ((["int","bool","str","list","tuple"].all λn=>qOg (PySem.W.kitOne K (.ref (ga K C)) (.type n)) false) && ((["NoneType","int","bool","str","list","tuple","dict"].all λn=>qOg (PySem.W.kitOne K (.type n) (.ref (ga K C))) false) &&
 ((cs.all λC'=>qOg (PySem.W.kitOne K (.ref (ga K C)) (.ref (ga K C'))) (decide (C=C'))) && (qYn C).all λf=>(Fa.noat C f).ok K)))
theorem qAop{K:W.Frag}{cs:List Str}(h:ktF cs K=true):KF K cs:=by
 have h:=List.all_eq_true.mp h
 refine ⟨⟨λC hC => ?_,λC hC n hn => ?_,λC hC n hn => ?_,λC hC C' hC' => ?_⟩,λC hC f hf => ?_⟩ <;> obtain ⟨h1,h2⟩:=ba (h C hC) <;> obtain ⟨h2,h3⟩:=ba h2 <;> obtain ⟨h3,h4⟩:=ba h3 <;> obtain ⟨h4,h5⟩:=ba h4
 ·exact qAc0 h1
 ·exact qCi (List.all_eq_true.mp h2 n hn)
 ·exact qCi (List.all_eq_true.mp h3 n hn)
 ·exact qCi (List.all_eq_true.mp h4 C' hC')
 ·exact ⟨(qAc0 h1).cl,noat_ok (List.all_eq_true.mp h5 f hf)⟩
def xoF(T:XTab):Fct:=λK=>T.all λt=>qOg (PySem.W.exmOne K (.ref (ga K t.1)) (.ref (ga K t.2.1))) t.2.2
theorem qAov{K:W.Frag}{T:XTab}(h:xoF T K=true):XOk K T:=λa b k hm=>qCi (List.all_eq_true.mp h (a,b,k) hm)
def ioF(T:XTab):Fct:=λK=>T.all λt=>excF t.1 K && qOg (PySem.W.kitOne K (.ref (ga K t.1)) (.ref (ga K t.2.1))) t.2.2
theorem qAox{K:W.Frag}{T:XTab}(h:ioF T K=true):IOk K T:=λa b k hm=>by
 obtain ⟨h1,h2⟩:=ba (List.all_eq_true.mp h (a,b,k) hm)
 exact ⟨qAlr h1,qCi h2⟩
abbrev bmV:List Value:=[.type "ValueError", .type "Exception", .type "BaseException", .type "object"]
structure Ex0 (K:W.Frag) (C:Addr):Prop where
 xin:PySem.W.excIn K C bmV "ValueError.__new__"=true
 kp:PySem.W.keepIn K (.ref C)=true
 bs:PySem.W.subIn K (.ref C) (.type "BaseException")=some true
 ty:PySem.W.typeIn K (.ref C)=some (.type "type")
def ex0F(x:Str):Fct:=λK=>PySem.W.excIn K (ga K x) bmV "ValueError.__new__" && (PySem.W.keepIn K (.ref (ga K x)) && (qOg (PySem.W.subIn K (.ref (ga K x)) (.type "BaseException")) true && qOg (PySem.W.typeIn K (.ref (ga K x))) (.type "type")))
theorem qAmp{K:W.Frag}{x:Str}(h:ex0F x K=true):Ex0 K (ga K x):=by
 obtain ⟨h1,h⟩:=ba h
 obtain ⟨h2,h⟩:=ba h
 obtain ⟨h3,h4⟩:=ba h
 exact ⟨h1,h2,qCi h3,qCi h4⟩
theorem mk0{X:Cx}{C:Addr}{x:Str}{p pos:Pos}(T:Ex0 X.K C)(gC:X.mg x=some (.ref C))(hg:Gl X x:=by rfl)(hdb:(x == ("__debug__":Str))=false:=by decide):PMk X (.Call (.Name x p) [] [] pos) (λσ H Q=>Q (.ref C) none H):=
 qAh1 PySem.F.excBase_ValueError T.xin gC T.kp (raises_own T.bs T.ty) hg hdb
theorem qZj{X:Cx}{C:Addr}{W:WX}{x:Str}{p1 pos pos2:Pos}(hc:X.calm=true)(tk:Takes X W)(T:Ex0 X.K C)(gC:X.mg x=some (.ref C))(hg:Gl X x:=by rfl)(hdb:(x == ("__debug__":Str))=false:=by decide) :
  PS X (.Raise (some (.Call (.Name x p1) [] [] pos)) none pos2) (qXc C W):=ps_raise hc tk (mk0 T gC hg hdb)
end MR
namespace MR
open PySem PySem.Spec PyProof.Rows L2
section
open PySem.W PySem.Calls
variable {M:Model} {A:Around} {E:Value->Shared->Prop} {s:Shared} {K:Frag} {env:PySem.Env} {pos:Pos} {x C:Addr} {first:List Value} {Q:Value->Shared->Prop}
end
section
open PySem.W
variable {prog:Program} {w:World} {A:Around} {E:Value->Shared->Prop} {s:Shared} {K:Frag} {x y C C2 L f g:Addr} {h₀:Heap} {m:Str->Option Value} {ox oy:Obj} {od od2:Option Obj}
end
structure Op2C (K:W.Frag) (C C2:Addr) (nm:String):Prop where
 ne:C≠C2
 sf:PySem.W.selfFirst K C=true
 sf2:PySem.W.selfFirst K C2=true
 sub:PySem.W.subIn K (.ref C2) (.ref C)=some false
 rc:∃ rc,PySem.W.findIn K (.ref C) (dunderR nm)=some rc/\(rc=none\/∃ g:Addr,rc=some (.ref g))
 s2:∃ g:Addr,PySem.W.findIn K (.ref C2) (PySem.dunder nm)=some (some (.ref g))
 rc2:∃ rc,PySem.W.findIn K (.ref C2) (dunderR nm)=some rc/\(rc=none\/∃ g:Addr,rc=some (.ref g))
open He in
open He in
def CEN(outer:List PySem.Env)(P:Program)(w:World)(H:Hp)(s:Shared)(Q:VK)(u:Value)(s':Shared):Prop:=
 ∃ H',s'.os=s.os/\AllBare s'.gens/\Un (frs outer) [] H H' s.heap s'.heap/\HOk P w H' s'.heap/\u = .notImplemented/\Q .non H'
def CRN(CX:CXT)(outer:List PySem.Env)(P:Program)(w:World)(H:Hp)(s:Shared)(Q:VK)(E:XK)(r:Result)(s':Shared):Prop:=
 match r with
 | .ok (.ret u)=>CEN outer P w H s Q u s'
 | .ok _=>False
 | .error e=>CX outer H s E e s'
structure NiOk (P:Program) (w:World) (K:W.Frag) (mg:Str->Option Value) (base:Heap) (CX:CXT) (k:Nat) (f:Addr) (fd:FuncData) (ps:List Str) (sp:Sp):Prop where
 len:∀ vs H Q E,sp vs H Q E->vs.length=ps.length
 run:∀ (A:Around) (outer:List PySem.Env) (s:Shared) (H:Hp) (args:Args) (us:List Value) (vs:List V) (Q:VK) (E:XK),Room k A->Env0 P w K mg base A outer s H->BindsTo s fd args (ps.zip us)->Vals vs us->sp vs H Q E->
  codeAny (model P w) A (.call (.ref f) args) (CRN CX outer P w H s Q E) s
section
open PySem.W
variable {prog:Program} {w:World} {A:Around} {E:Value->Shared->Prop} {s:Shared} {K:Frag} {x y C C2 L f g f2:Addr} {h₀:Heap} {m:Str->Option Value} {ox oy:Obj} {od od2:Option Obj}
end
section
variable {X:Cx} {k k2:Nat} {C:Addr} {sp spN:Sp} {E:XK}
def rIn(C:Addr)(sp:Sp)(E:XK):R2:=λx y H Q=>∃ p dx fs,y = .ref p/\H p=some (.ins C dx fs)/\sp [y,x] H (λv H1=>(∃ b,v = .bl b)/\Q v H1) E
end
structure NonC (K:W.Frag) (C:Addr):Prop where
 sub:PySem.W.subIn K (.type "NoneType") (.ref C)=some false
 subR:PySem.W.subIn K (.ref C) (.type "NoneType")=some false
open He in
open He in
section
open PySem.W
variable {prog:Program} {w:World} {A:Around} {E:Value->Shared->Prop} {s:Shared} {K:Frag} {x C dx f:Addr} {od:Option Obj}
end
structure NeC (K:W.Frag) (C:Addr):Prop where
 ne:PySem.W.findIn K (.ref C) "__ne__"=some (some (.builtin "object.__ne__"))
 ob:PySem.W.mroIn K C (.type "object")=some true
open He in
open He in
section
open PySem.W
variable {M:Model} {prog:Program} {w:World} {A:Around} {E:Value->Shared->Prop} {s:Shared} {K:Frag} {x y C f:Addr} {ox oy:Obj} {od od2:Option Obj}
end
structure SeeC (K:W.Frag):Prop where
 st:PySem.W.nsOkIn K cStatics=true
 st1:PySem.W.nsIn K cStatics "sys.audit-hooks"=some none
 st2:PySem.W.nsIn K cStatics "sys.dict"=some none
 sm:PySem.W.nsOkIn K sysModules=true
 sm1:PySem.W.nsIn K sysModules "_pylong"=some none
 mn:∃ bm ob,PySem.W.nsIn K mainGlobals "__builtins__"=some (some (.ref bm))/\K.lookup bm=some ob/\ob.cls = .type "module"/\ob.dict=some builtinsNs
def seeM(K:W.Frag):Bool:=match PySem.W.nsIn K mainGlobals "__builtins__" with
 | some (some (.ref bm))=>(match K.lookup bm with
  | some ob=>decide (ob.cls = .type "module") && decide (ob.dict=some builtinsNs)
  | none=>false)
 | _=>false
open He in
def seeF:Fct:=λK=>PySem.W.nsOkIn K cStatics && (decide (PySem.W.nsIn K cStatics "sys.audit-hooks"=some none) && (decide (PySem.W.nsIn K cStatics "sys.dict"=some none) && (PySem.W.nsOkIn K sysModules && (decide (PySem.W.nsIn K sysModules "_pylong"=some none) && seeM K))))
theorem qAkj{K:W.Frag}(h:seeM K=true):∃ bm ob,PySem.W.nsIn K mainGlobals "__builtins__"=some (some (.ref bm))/\K.lookup bm=some ob/\ob.cls = .type "module"/\ob.dict=some builtinsNs:=by
 unfold seeM at h
 split at h
 ·rename_i bm e
  split at h
  ·rename_i ob e2
   obtain ⟨h1,h2⟩:=Bool.and_eq_true_iff.mp h
   exact ⟨bm,ob,e,e2,of_decide_eq_true h1,of_decide_eq_true h2⟩
  ·cases h
 ·cases h
open He in
theorem qAkg{K:W.Frag}(h:seeF K=true):SeeC K:=by
 obtain ⟨h1,h⟩:=Bool.and_eq_true_iff.mp h
 obtain ⟨h2,h⟩:=Bool.and_eq_true_iff.mp h
 obtain ⟨h3,h⟩:=Bool.and_eq_true_iff.mp h
 obtain ⟨h4,h⟩:=Bool.and_eq_true_iff.mp h
 obtain ⟨h5,h⟩:=Bool.and_eq_true_iff.mp h
 exact ⟨h1,of_decide_eq_true h2,of_decide_eq_true h3,h4,of_decide_eq_true h5,qAkj h⟩
theorem SeeC.base{K:W.Frag}{mg:Str->Option Value}{base:Heap}(S:SeeC K)(M:Mod K mg base):base.NoSeer where
 statics:=⟨_, .of_isNs (PySem.W.isNs_of_in M.kin S.st),PySem.W.nsMap_none_of_in M.kin S.st S.st1,PySem.W.nsMap_none_of_in M.kin S.st S.st2⟩
 mods:=⟨_, .of_isNs (PySem.W.isNs_of_in M.kin S.sm),PySem.W.nsMap_none_of_in M.kin S.sm S.sm1⟩
 imp:=M.blt
 main:=by
  obtain ⟨bm,ob,h1,h2,h3,h4⟩:=S.mn
  exact ⟨mg,bm,ob,M.glob,PySem.W.mg_of M.kin M.glob h1,M.kin _ _ h2,h3,h4⟩
section
variable {X:Cx}
theorem qAf3(S:SeeC X.K)(ht:X.prog.given.tree=none)(hr:Room 32 X.A){e:PySem.Env}{l:List PySem.Env}(hk:X.stack=e :: l)(hg:e.scope.isGenerator=false)(hc:e.scope.isCoroutine=false)(hb:e.builtins=builtinsNs)(hgl:e.globals=mainGlobals){pins:List (Addr × Obj)}{σ:L2.St}{H:Hp}{s:Shared}(I:Inv X pins σ H s):PylongRoom (model X.prog X.w) X.A s:=
 PylongRoom.of I.nolimit (by have:=hr.dp;show X.A.depth+100<_;omega) (SeerAt.of ((S.base I.ok.mod).keeps I.bk) ht (by rw [I.ok.frames,hk]) hg hc hb hgl)
theorem qJ1(S:SeeC X.K)(ht:X.prog.given.tree=none)(hr:Room 32 X.A){e:PySem.Env}{l:List PySem.Env}(hk:X.stack=e :: l:=by rfl)(hg:e.scope.isGenerator=false:=by rfl)(hc:e.scope.isCoroutine=false:=by rfl)(hb:e.builtins=builtinsNs:=by rfl)(hgl:e.globals=mainGlobals:=by rfl):OpR X (binaryOp .FloorDiv) (rI qAgt λi j => .int (i.fdiv j)):=by
 intro pins s σ H x y v u Q I rx ry h
 obtain ⟨i,j,rfl,rfl,hj,q⟩:=h
 obtain ⟨t,rfl⟩:=rx
 obtain ⟨t',rfl⟩:=ry
 exact floordiv_int hj ⟨.int _,H,I.tok _,⟨_,rfl⟩,q⟩ (.inr (qAf3 S ht hr hk hg hc hb hgl I))
end
def top(i:Nat):Stmt:=pWW.main.body.getD i (.Pass ⟨0,0,0,0⟩)
abbrev qBk:Stmt:=top 8
abbrev qA4:Stmt:=top 9
abbrev qBg:Stmt:=inClass (top 10) 0
abbrev qBw:Stmt:=inClass (top 10) 7
abbrev qBx:Stmt:=inClass (top 10) 9
abbrev qBu:Stmt:=inClass (top 10) 11
abbrev qGx:Stmt:=inClass (top 10) 12
abbrev qBy:Stmt:=inClass (top 10) 19
abbrev qCb:Stmt:=inClass (top 10) 1
abbrev qI6:Stmt:=inClass (top 10) 2
abbrev qIr:Stmt:=inClass (top 10) 3
abbrev qIt:Stmt:=inClass (top 10) 5
abbrev qIx:Stmt:=inClass (top 10) 6
abbrev qBv:Stmt:=top 15
abbrev qCa:Stmt:=top 16
abbrev qBi:Stmt:=inClass (top 10) 21
abbrev qBo:Stmt:=top 19
abbrev qIv:Stmt:=inClass (top 10) 4
abbrev qGw:Stmt:=inClass (top 10) 8
abbrev qC1:Stmt:=top 25
abbrev qCx:Stmt:=top 26
abbrev qC8:Stmt:=top 27
abbrev qBp:Stmt:=top 28
abbrev qBj:Stmt:=top 30
abbrev qCw:Stmt:=top 31
abbrev qBl:Stmt:=top 29
abbrev qCv:Stmt:=top 32
abbrev qA5:Stmt:=top 33
abbrev qBn:Stmt:=top 20
abbrev qCz:Stmt:=top 22
abbrev qA7:Stmt:=top 19
abbrev qAx:Stmt:=top 23
abbrev qC0:Stmt:=top 34
abbrev qB4:Stmt:=top 35
abbrev qBm:Stmt:=top 36
abbrev qF7:Stmt:=top 37
def qJk:He.DefD:=⟨("is_integer",none),"is_integer","is_integer",defArgs qBk,defBody qBk,defScope qBk,[],[]⟩
def qIi:He.DefD:=⟨("common_part",none),"common_part","common_part",defArgs qA4,defBody qA4,defScope qA4,[],[]⟩
def qJo:He.DefD:=⟨("Ratio",some "__init__"),"__init__","Ratio.__init__",defArgs qBg,defBody qBg,defScope qBg,[.int 1],[]⟩
def qLa:He.DefD:=⟨("Ratio",some "__add__"),"__add__","Ratio.__add__",defArgs qBw,defBody qBw,defScope qBw,[],[]⟩
def qLc:He.DefD:=⟨("Ratio",some "__sub__"),"__sub__","Ratio.__sub__",defArgs qBx,defBody qBx,defScope qBx,[],[]⟩
def qK9:He.DefD:=⟨("Ratio",some "__mul__"),"__mul__","Ratio.__mul__",defArgs qBu,defBody qBu,defScope qBu,[],[]⟩
def qP6:He.DefD:=⟨("Ratio",some "__rmul__"),"__rmul__","Ratio.__rmul__",defArgs qGx,defBody qGx,defScope qGx,[],[]⟩
def qLe:He.DefD:=⟨("Ratio",some "__neg__"),"__neg__","Ratio.__neg__",defArgs qBy,defBody qBy,defScope qBy,[],[]⟩
def qNi:He.DefD:=⟨("Ratio",some "__eq__"),"__eq__","Ratio.__eq__",defArgs qCb,defBody qCb,defScope qCb,[],[]⟩
def qV6:He.DefD:=⟨("Ratio",some "__ne__"),"__ne__","Ratio.__ne__",defArgs qI6,defBody qI6,defScope qI6,[],[]⟩
def qW3:He.DefD:=⟨("Ratio",some "__lt__"),"__lt__","Ratio.__lt__",defArgs qIr,defBody qIr,defScope qIr,[],[]⟩
def qU3:He.DefD:=⟨("Ratio",some "__gt__"),"__gt__","Ratio.__gt__",defArgs qIt,defBody qIt,defScope qIt,[],[]⟩
def qVh:He.DefD:=⟨("Ratio",some "__ge__"),"__ge__","Ratio.__ge__",defArgs qIx,defBody qIx,defScope qIx,[],[]⟩
def qLm:He.DefD:=⟨("is_number",none),"is_number","is_number",defArgs qBv,defBody qBv,defScope qBv,[],[]⟩
def qMy:He.DefD:=⟨("as_ratio",none),"as_ratio","as_ratio",defArgs qCa,defBody qCa,defScope qCa,[],[]⟩
def qJi:He.DefD:=⟨("Ratio",some "over"),"over","Ratio.over",defArgs qBi,defBody qBi,defScope qBi,[],[]⟩
def qLi:He.DefD:=⟨("check_row",none),"check_row","check_row",defArgs qBo,defBody qBo,defScope qBo,[.int 13],[]⟩
def qW2:He.DefD:=⟨("Ratio",some "__le__"),"__le__","Ratio.__le__",defArgs qIv,defBody qIv,defScope qIv,[],[]⟩
def qQi:He.DefD:=⟨("Ratio",some "__radd__"),"__radd__","Ratio.__radd__",defArgs qGw,defBody qGw,defScope qGw,[],[]⟩
def qPd:He.DefD:=⟨("_law_cell",none),"_law_cell","_law_cell",defArgs qC1,defBody qC1,defScope qC1,[],[]⟩
def qPh:He.DefD:=⟨("_law_draw",none),"_law_draw","_law_draw",defArgs qCx,defBody qCx,defScope qCx,[],[]⟩
def qRy:He.DefD:=⟨("_law_row",none),"_law_row","_law_row",defArgs qC8,defBody qC8,defScope qC8,[],[]⟩
def qK4:He.DefD:=⟨("_law_ratios",none),"_law_ratios","_law_ratios",defArgs qBp,defBody qBp,defScope qBp,[],[]⟩
def qJp:He.DefD:=⟨("_law_integer",none),"_law_integer","_law_integer",defArgs qBj,defBody qBj,defScope qBj,[],[]⟩
def qPe:He.DefD:=⟨("_law_pair",none),"_law_pair","_law_pair",defArgs qCw,defBody qCw,defScope qCw,[],[]⟩
def qJh:He.DefD:=⟨("_law_changed",none),"_law_changed","_law_changed",defArgs qBl,defBody qBl,defScope qBl,[],[]⟩
def qO9:He.DefD:=⟨("_law_same",none),"_law_same","_law_same",defArgs qCv,defBody qCv,defScope qCv,[],[]⟩
def qIm:He.DefD:=⟨("_law_same_all",none),"_law_same_all","_law_same_all",defArgs qA5,defBody qA5,defScope qA5,[],[]⟩
def qK8:He.DefD:=⟨("moved_row",none),"moved_row","moved_row",defArgs qBn,defBody qBn,defScope qBn,[],[]⟩
def qPi:He.DefD:=⟨("centred",none),"centred","centred",defArgs qCz,defBody qCz,defScope qCz,[],[]⟩
def qJv:He.DefD:=⟨("check_row",none),"check_row","check_row",defArgs qA7,defBody qA7,defScope qA7,[.int 13],[]⟩
def qIg:He.DefD:=⟨("differences",none),"differences","differences",defArgs qAx,defBody qAx,defScope qAx,[],[]⟩
def qOz:He.DefD:=⟨("_law_plus",none),"_law_plus","_law_plus",defArgs qC0,defBody qC0,defScope qC0,[],[]⟩
def qNn:He.DefD:=⟨("_law_table",none),"_law_table","_law_table",defArgs qB4,defBody qB4,defScope qB4,[],[]⟩
def qKa:He.DefD:=⟨("_law_refused",none),"_law_refused","_law_refused",defArgs qBm,defBody qBm,defScope qBm,[],[]⟩
def qAij:He.DefD:=⟨("law",none),"law","law",defArgs qF7,defBody qF7,defScope qF7,[],[]⟩
def fn0:List He.DefD:=[qJk,qIi,qJo,qLa,qLc,qK9,qP6,qLe,qNi,qV6,qW3,qU3,qVh,qLm,qMy,qJi,qLi,qW2,qQi,qPd,qPh,qRy,qK4,qJp,qPe,qJh,qO9,qIm,qK8,qPi,qJv,qIg,qOz,qNn,qKa,qAij]
def fnL:List He.DefD:=fn0
abbrev csL:List Str:=["Ratio"]
abbrev xtL:XTab:=[("NoMean","NoMean",true)]
def bs0:List Fct:=[(λK=>(He.Fa.free "isinstance").ok K),
 (λK=>(He.Fa.free "int").ok K),
 (λK=>(He.Fa.free "bool").ok K),
 (λK=>(He.Fa.free "abs").ok K),
 (λK=>(He.Fa.free "list").ok K),
 (λK=>(He.Fa.free "tuple").ok K),
 (λK=>(He.Fa.free "len").ok K),
 (λK=>(He.Fa.free "enumerate").ok K),
 (λK=>(He.Fa.free "range").ok K),
 (λK=>(He.Fa.free "sum").ok K),
 (λK=>(He.Fa.free "zip").ok K),
 (λK=>(He.Fa.glo "is_integer").ok K),
 (λK=>(He.Fa.glo "common_part").ok K),
 (λK=>(He.Fa.glo "NoRatio").ok K),
 (λK=>(He.Fa.glo "Ratio").ok K),
 (λK=>(He.Fa.glo "is_number").ok K),
 (λK=>(He.Fa.glo "NoNumber").ok K),
 (λK=>(He.Fa.glo "as_ratio").ok K),
 (λK=>(He.Fa.glo "NoRow").ok K),
 (λK=>(He.Fa.glo "check_row").ok K),
 (λK=>(He.Fa.glo "_law_cell").ok K),
 (λK=>(He.Fa.glo "_law_draw").ok K),
 (λK=>(He.Fa.glo "_law_row").ok K),
 (λK=>(He.Fa.glo "_law_ratios").ok K),
 (λK=>(He.Fa.glo "_law_integer").ok K),
 (λK=>(He.Fa.glo "_law_pair").ok K),
 (λK=>(He.Fa.glo "_law_changed").ok K),
 (λK=>(He.Fa.glo "_law_same").ok K),
 (λK=>(He.Fa.glo "_law_same_all").ok K),
 (λK=>(He.Fa.glo "moved_row").ok K),
 (λK=>(He.Fa.glo "NoMean").ok K),
 (λK=>(He.Fa.glo "centred").ok K),
 (λK=>(He.Fa.glo "differences").ok K),
 (λK=>(He.Fa.glo "_law_plus").ok K),
 (λK=>(He.Fa.glo "_law_table").ok K),
 (λK=>(He.Fa.glo "_law_refused").ok K),
 (λK=>(He.Fa.glo "law").ok K),
 (supF pWW "NoRatio" "word"),
 (supF pWW "NoNumber" "word"),
 (supF pWW "NoRow" "index"),
 (ex0F "NoMean"),
 (ktF csL),
 (xoF xtL),
 (ioF xtL),
 seeF,
 (opF "Ratio" "add"),
 (opF "Ratio" "mul"),
 (opF "Ratio" "sub"),
 (λK=>(He.Fa.mkr "Ratio").ok K),
 (λK=>(He.Fa.meth "Ratio" "__add__").ok K),
 (λK=>(He.Fa.meth "Ratio" "__sub__").ok K),
 (λK=>(He.Fa.meth "Ratio" "__mul__").ok K),
 (λK=>(He.Fa.meth "Ratio" "__rmul__").ok K),
 (λK=>(He.Fa.meth "Ratio" "__neg__").ok K),
 (λK=>(He.Fa.meth "Ratio" "__eq__").ok K),
 (λK=>(He.Fa.meth "Ratio" "__ne__").ok K),
 (λK=>(He.Fa.meth "Ratio" "__lt__").ok K),
 (λK=>(He.Fa.meth "Ratio" "__gt__").ok K),
 (λK=>(He.Fa.meth "Ratio" "__ge__").ok K),
 (λK=>(He.Fa.meth "Ratio" "over").ok K)]
def bs1:List Fct:=[(λK=>(He.Fa.meth "Ratio" "__le__").ok K),
 (λK=>(He.Fa.meth "Ratio" "__radd__").ok K)]
def bsL:List Fct:=bs0 ++ (bs1)
def qApv:List Str:=["__name__","MeansError","NoRatio","NoNumber","NoRow","NoMean","MOST_DIGITS","is_integer","common_part","Ratio","is_plain","floor_of","power_of","whole_power","is_number","as_ratio","MOST_NUMBERS","check_row","moved_row","centred","differences","_law_cell","_law_draw","_law_row","_law_ratios","_law_changed","_law_integer","_law_pair","_law_same","_law_same_all"]
def qAnl:List Str:=["_law_plus","_law_table","_law_refused"]
def qTy:List Str:=qApv ++ qAnl
abbrev hk:PySem.W.Hook:=qAnn 4 bsL fnL
def ob(s:PySem.W.SharedT):AlM:=obsN 4 bsL fnL (HandSHeadRun.getT s)
theorem qArc(s:PySem.W.SharedT):ob s=hk.obs s.abs:=qAk0 (HandSHeadRun.getT_eq s)
section
open PySem PySem.W PySem.Calls PyProof.Rows HandSHeadRun
theorem qAlh(w:World)(os:OsState):(HandSHeadRun.endF (HandSHeadRun.stepQ (HandSHeadRun.denQ HandSHeadRun.tabQ) (PySem.W.OpenLaw.row rWW).prog w) 12000 (PySem.W.OpenLaw.row rWW).prog w os).map (λs=>(looksF (PySem.W.OpenLaw.row rWW).prog (boot_heap w.params) s.abs,seenQ (PySem.W.view (PySem.W.OpenLaw.row rWW).prog [37]) qTy (importedModules (PySem.W.OpenLaw.row rWW).prog.main.body) (λs=>xlAt (PySem.W.view (PySem.W.OpenLaw.row rWW).prog [37]) [] s && recOk (PySem.W.OpenLaw.row rWW).toRowW.records s) s.abs))=some (true,openGood (PySem.W.view (PySem.W.OpenLaw.row rWW).prog [37]) qTy):=by kernel_rfl
theorem qAnq(w:World)(os:OsState):PartB (HandSHeadRun.endF (HandSHeadRun.stepQ (HandSHeadRun.denQ HandSHeadRun.tabQ) (PySem.W.OpenLaw.row rWW).prog w) 12000 (PySem.W.OpenLaw.row rWW).prog w os) (λs=>frU (HandSHeadRun.getT s) 4) bs0:=by
 unfold PartB
 kernel_rfl
theorem qAng(w:World)(os:OsState):PartB (HandSHeadRun.endF (HandSHeadRun.stepQ (HandSHeadRun.denQ HandSHeadRun.tabQ) (PySem.W.OpenLaw.row rWW).prog w) 12000 (PySem.W.OpenLaw.row rWW).prog w os) (λs=>frU (HandSHeadRun.getT s) 4) bs1:=by
 unfold PartB
 kernel_rfl
theorem qAof(w:World)(os:OsState):PartD (HandSHeadRun.endF (HandSHeadRun.stepQ (HandSHeadRun.denQ HandSHeadRun.tabQ) (PySem.W.OpenLaw.row rWW).prog w) 12000 (PySem.W.OpenLaw.row rWW).prog w os) (λs=>frU (HandSHeadRun.getT s) 4) fn0:=by
 unfold PartD
 kernel_rfl
theorem run(w:World):HandSHeadRun.RunEq (PySem.W.OpenLaw.row rWW) (PySem.W.view (PySem.W.OpenLaw.row rWW).prog [37]) hk ob 12000 qTy w:=by
 intro os
 exact qAqz (qAlh w os) ((qAnq w os).app (qAng w os)) (qAof w os)
theorem dfK:(HandSHeadRun.topDef (OpenLaw.row rWW).prog 37).params.defaults=[]:=by kernel_rfl
theorem nmK:(HandSHeadRun.topDef (OpenLaw.row rWW).prog 37).name=("law":PySem.Str):=by kernel_rfl
set_option maxRecDepth 100000 in
set_option maxHeartbeats 0 in
theorem qArl(call:PySem.W.WalkO (view (OpenLaw.row rWW).prog [37]) qTy (PySem.W.XL (view (OpenLaw.row rWW).prog [37]) []) hk.says (OpenLaw.row rWW).toRowW (HandSHeadRun.topDef (OpenLaw.row rWW).prog 37) [] λf vs=>PySem.call f vs):rWW.Holds:=by
 w_on;o_law
 refine HandSHeadRun.head_any (r:=OpenLaw.row rWW) (q:=view (OpenLaw.row rWW).prog [37]) (H:=MR.hk) (ob:=MR.ob) (M:=12000) (loose:=MR.qTy) (d:=HandSHeadRun.topDef (OpenLaw.row rWW).prog 37) (kwd:=[]) MR.qArc
  (by kernel_rfl) (λs=>by kernel_rfl) MR.run (by kernel_rfl) (by kernel_rfl) (by kernel_rfl) (by rfl) (by first | assumption | decide +kernel) (by decide +kernel) ⟨rfl,rfl,rfl,rfl,rfl,by decide +kernel⟩ ?hw call
 case hw=>w_witness2
end
section
variable {P:D->Prop} {X:XP} {fsp:FSp} {ρ:Env} {R:Env->Prop} {a b c d:D} {q r:Rat} {cs es:List Rat} {n:Int} {C:Str} {i j k:Nat}
theorem qQb:qQy (.rat q)=some ("Ratio":Str):=rfl
theorem qNm:qQy (.poly cs)=some ("Poly":Str):=rfl
theorem qAbe:qOh "Ratio" fsp (.rat q) (.rat r) P X↔fsp [.rat q, .rat r] P X0:=⟨λh=>h.2.2,λh=>⟨rfl, .inr rfl,h⟩⟩
theorem qAbq:qOh "Ratio" fsp (.rat q) (.int n) P X↔fsp [.rat q, .int n] P X0:=⟨λh=>h.2.2,λh=>⟨rfl, .inl trivial,h⟩⟩
theorem qAb9:qOh "Poly" fsp (.poly cs) (.poly es) P X↔fsp [.poly cs, .poly es] P X0:=⟨λh=>h.2.2,λh=>⟨rfl, .inr rfl,h⟩⟩
theorem qAcl:qOh "Poly" fsp (.poly cs) (.int n) P X↔fsp [.poly cs, .int n] P X0:=⟨λh=>h.2.2,λh=>⟨rfl, .inl trivial,h⟩⟩
theorem qAa2:qAoy "Ratio" fsp (.int n) (.rat q) P X↔fsp [.rat q, .int n] P X0:=⟨λh=>h.2.2,λh=>⟨trivial,rfl,h⟩⟩
theorem qAfg:qAoy "Poly" fsp (.int n) (.poly cs) P X↔fsp [.poly cs, .int n] P X0:=⟨λh=>h.2.2,λh=>⟨trivial,rfl,h⟩⟩
theorem qAmb:qAgp "Ratio" fsp (.rat q) P X↔fsp [.rat q] P X0:=⟨λh=>h.2,λh=>⟨rfl,h⟩⟩
theorem qAlg:qAgp "Poly" fsp (.poly cs) P X↔fsp [.poly cs] P X0:=⟨λh=>h.2,λh=>⟨rfl,h⟩⟩
theorem qAka:qAqc "Ratio" fsp [.rat q] P X↔fsp [.rat q] P X0:=⟨λ⟨_,h1,h⟩=>by cases h1;exact h.2,λh=>⟨_,rfl,rfl,h⟩⟩
theorem qAl4:qSz [i,j] (.tup [a,b]) ρ R↔R ((ρ.set i (some a)).set j (some b)):=by
 constructor
 ·rintro ⟨ds,h,_,d1,r1,h1,d2,r2,h2,h3,hR⟩
  cases h;cases h1;cases h2;exact hR
 ·exact λh=>⟨_,rfl,rfl,_,_,rfl,_,_,rfl,rfl,h⟩
theorem qAlu{l:Nat}:qSz [i,j,k,l] (.tup [a,b,c,d]) ρ R↔R ((((ρ.set i (some a)).set j (some b)).set k (some c)).set l (some d)):=by
 constructor
 ·rintro ⟨ds,h,_,d1,r1,h1,d2,r2,h2,d3,r3,h3,d4,r4,h4,h5,hR⟩
  cases h;cases h1;cases h2;cases h3;cases h4;exact hR
 ·exact λh=>⟨_,rfl,rfl,_,_,rfl,_,_,rfl,_,_,rfl,_,_,rfl,rfl,h⟩
theorem qAmo{ds:List D}{Q:List D->Prop}:(∃ es,D.lst ds=D.lst es/\Q es)↔Q ds:=by
 constructor
 ·rintro ⟨es,h,q⟩;cases h;exact q
 ·exact λh=>⟨_,rfl,h⟩
theorem qAlv{ds:List D}{Q:List D->Prop}:(∃ es,D.tup ds=D.tup es/\Q es)↔Q ds:=by
 constructor
 ·rintro ⟨es,h,q⟩;cases h;exact q
 ·exact λh=>⟨_,rfl,h⟩
theorem qAm2{ds:List D}:(∃ es,D.lst ds=D.lst es)↔True:=⟨λ_=>trivial,λ_=>⟨_,rfl⟩⟩
theorem qAlo{ds:List D}:(∃ es,D.tup ds=D.tup es)↔True:=⟨λ_=>trivial,λ_=>⟨_,rfl⟩⟩
theorem qAld{Q:Int->Prop}:(∃ i,D.int n=D.int i/\Q i)↔Q n:=by
 constructor
 ·rintro ⟨es,h,q⟩;cases h;exact q
 ·exact λh=>⟨_,rfl,h⟩
theorem qAdg{ds:List D}{Q:List D->Prop}:(∃ es,[D.lst ds]=[D.lst es]/\Q es)↔Q ds:=by
 constructor
 ·rintro ⟨es,h,q⟩;cases h;exact q
 ·exact λh=>⟨_,rfl,h⟩
theorem qAff{ds fs:List D}{Q:List D->List D->Prop}:(∃ es gs,[D.lst ds,D.lst fs]=[D.lst es,D.lst gs]/\Q es gs)↔Q ds fs:=by
 constructor
 ·rintro ⟨es,gs,h,q⟩;cases h;exact q
 ·exact λh=>⟨_,_,rfl,h⟩
theorem qAd9{Q:Int->Prop}:(∃ i,[D.int n]=[D.int i]/\Q i)↔Q n:=by
 constructor
 ·rintro ⟨es,h,q⟩;cases h;exact q
 ·exact λh=>⟨_,rfl,h⟩
theorem qAbh{m:Int}{Q:Int->Int->Prop}:(∃ i j,[D.int n,D.int m]=[D.int i,D.int j]/\Q i j)↔Q n m:=by
 constructor
 ·rintro ⟨es,gs,h,q⟩;cases h;exact q
 ·exact λh=>⟨_,_,rfl,h⟩
theorem qAkr{Q:List D->Prop}:(∃ d ds,[a]=[d]/\itD d=some ds/\Q ds)↔∃ ds,itD a=some ds/\Q ds:=by
 constructor
 ·rintro ⟨d,ds,h,q⟩;cases h;exact ⟨ds,q⟩
 ·exact λ⟨ds,h⟩=>⟨_,ds,rfl,h⟩
theorem qRi{ds:List D}{P:D->Prop}{X:XP}:qH8 [.lst ds] P X↔P (.int (ds.length:Nat)):=Iff.rfl
theorem qQe{ds:List D}{P:D->Prop}{X:XP}:qH8 [.tup ds] P X↔P (.int (ds.length:Nat)):=Iff.rfl
theorem qWe{ds:List D}:truD (.lst ds)=some !ds.isEmpty:=rfl
theorem qWc{ds:List D}:truD (.tup ds)=some !ds.isEmpty:=rfl
theorem qUy:truD (.int n)=some (n != 0):=rfl
theorem qAfm{b:Bool}:truD (.bl b)=some b:=rfl
theorem qU7:truD .non=some false:=rfl
theorem qAey{ds:List D}:itD (.lst ds)=some ds:=rfl
theorem qAbm{ds:List D}:itD (.tup ds)=some ds:=rfl
theorem itEx{ds:List D}{Q:List D->Prop}(h:itD a=some ds):(∃ es,itD a=some es/\Q es)↔Q ds:=by
 constructor
 ·rintro ⟨es,h2,q⟩
  rw [h] at h2;cases h2;exact q
 ·exact λq=>⟨_,h,q⟩
theorem qAla{ds:List D}{Q:List D->Int->Nat->Prop}:(∃ es m l,D.lst ds=D.lst es/\D.int n=D.int m/\ixN es.length m=some l/\Q es m l)↔∃ l,ixN ds.length n=some l/\Q ds n l:=by
 constructor
 ·rintro ⟨es,m,l,h1,h2,h3,q⟩;cases h1;cases h2;exact ⟨l,h3,q⟩
 ·exact λ⟨l,h,q⟩=>⟨_,_,l,rfl,rfl,h,q⟩
end
end MR
local macro_rules | `(tactic| simp_arith [$ls,*]) => `(tactic| simp only [MR.qBf,MR.qGz,MR.fB,MR.qQk,MR.qAd,MR.fC,MR.fOp,MR.fUn,MR.fLs,MR.qEz,MR.qAkm,MR.qJn,MR.qAs,MR.qAc,MR.qAl,MR.qC6,MR.fNev,MR.qFl,MR.qDo,MR.qZ7,MR.qAbx,MR.fAsg,MR.fPar,MR.qMa,MR.fAnd,MR.fOr,MR.qNe,MR.fOrV,MR.qUr,MR.fIf,MR.fTru,MR.qKd,MR.qN2,MR.qAce,MR.qAcv,MR.qB1,MR.qHd,MR.qNc,MR.fBr,MR.fBor,MR.qPc,MR.qQx,MR.fAug,MR.qAd0,MR.qMd,MR.fSl,MR.qI2,MR.qW7,MR.fItL,MR.fItT,MR.fIt,MR.qZz,MR.fBrk,MR.fCnt,MR.qF9,MR.qBb,MR.toB,MR.oI,MR.oI0,MR.qZf,MR.oAbs,MR.oMax,MR.oMin,MR.qE8,MR.qRi,MR.qQe,MR.qTm,MR.qO5,MR.oCat,MR.oIsB,MR.qAly,MR.oEq,MR.oNe,MR.eqD,MR.oIsN,MR.qAao,MR.isN,MR.qAbe,MR.qAbq,MR.qAb9,MR.qAcl,MR.qAa2,MR.qAfg,MR.qAmb,MR.qAlg,MR.qAka,MR.qWe,MR.qWc,MR.qUy,MR.qAfm,MR.qU7,MR.qAl4,MR.qAlu,MR.qAmo,MR.qAlv,MR.qAm2,MR.qAlo,MR.qAld,MR.qAdg,MR.qAff,MR.qAd9,MR.qAbh,MR.qAkr,MR.qAla,MR.qAey,MR.qAbm,MR.qCc,MR.qGu,MR.InsD,List.map_cons,List.map_nil,List.cons_append,List.nil_append,Za0,List.length_nil,List.getElem?_cons_zero,List.getElem?_cons_succ,List.set_cons_zero,List.set_cons_succ,List.replicate_succ,List.replicate_zero,Option.some.injEq,exists_eq_left',MR.qQb,MR.qNm,if_true,if_false,List.append_nil,true_and,and_true,true_or,or_true,Bool.false_eq_true,Bool.true_eq_false,reduceCtorEq,Nat.add_one_sub_one,Nat.reduceSub,Nat.reduceAdd,Nat.sub_self,Nat.zero_add,Nat.add_sub_cancel, $ls,*])
namespace MR
open PySem PySem.Spec PyProof.Rows L2
def qZd:FSp:=λds P X=>∃ a b:Int,ds=[.int a, .int b]/\b≠0/\Sml b/\P (.rat (Za4 a b))
theorem qMo{K:W.Frag}:MkL K (CR K) (qC2 K) qZd:=qUu
def intD(cs:List Str)(d:D):Option Bool:=match isD cs (.ty "int") d with
 | some true=>(isD cs (.ty "bool") d).map λb => !b
 | some false=>some false
 | none=>none
def qD3(cs:List Str):FSp:=λds P _=>∃ d b,ds=[d]/\intD cs d=some b/\P (.bl b)
theorem qAkt{K:W.Frag}{cs:List Str}{F:Fd}{M:Addr->Prop}{H:Hp}{d:D}{v:V}{b:Bool}(T:KT K cs)(r:Rep K F M H d v)(h:intD cs d=some b):IntQ K H v b:=by
 unfold intD at h
 cases h1:isD cs (.ty "int") d with
 | none=>rw [h1] at h;cases h
 | some b1=>
  rw [h1] at h
  cases b1 with
  | false=>
   cases h
   obtain ⟨t,ty,k⟩:=qAi6 T r h1
   exact ⟨t,false,ty,k,λ_=>rfl,λz=>by cases z⟩
  | true=>
   cases h2:isD cs (.ty "bool") d with
   | none=>rw [h2] at h;cases h
   | some b2=>
    rw [h2] at h
    have hb:(!b2)=b:=Option.some.inj h
    subst hb
    obtain ⟨t,ty,k1,k2⟩:=qAdh T r h1 h2
    exact ⟨t,true,ty,k1,(λz=>by cases z),λ_=>⟨b2,k2,rfl⟩⟩
theorem qE7{K:W.Frag}{cs:List Str}(T:KT K cs):Lift K (qEr K) (qD3 cs):=by
 intro vs H Q E h
 obtain ⟨F,M,ds,P,X,lv,r,⟨d,b,rfl,hb,p⟩,q,x⟩:=h
 obtain ⟨v,rfl,rv⟩:=qKx r
 exact ⟨v,b,rfl,qAkt T rv hb,q _ _ _ p .refl rfl⟩
def qN3(a b:Rat):Prop:=∃ n m,Sz n a/\Sz m b/\n+m<=900000
def fR2(f:Rat->Rat->Rat):FSp:=λds P _=>match ds with
 | [.rat a, .rat b]=>qN3 a b/\P (.rat (f a b))
 | [.rat a, .int n]=>qN3 a n/\P (.rat (f a n))
 | _=>False
def fR1(f:Rat->Rat):FSp:=λds P _=>match ds with
 | [.rat a]=>(∃ n,Sz n a/\n<=900000)/\P (.rat (f a))
 | _=>False
def fRB(f:Rat->Rat->Bool):FSp:=λds P _=>match ds with
 | [.rat a, .rat b]=>qN3 a b/\P (.bl (f a b))
 | [.rat a, .int n]=>qN3 a n/\P (.bl (f a n))
 | _=>False
def qTw(cs:List Str)(d:D):Option Bool:=match isD cs (.own "Ratio") d with
 | some true=>some true
 | some false=>intD cs d
 | none=>none
def qHc(cs:List Str):FSp:=λds P _=>∃ d b,ds=[d]/\qTw cs d=some b/\P (.bl b)
def qFk(cs:List Str):FSp:=λds P X=>∃ d w b,ds=[d, .str w]/\qTw cs d=some b/\(b=false->X ⟨"NoNumber",[("word", .str w)]⟩)/\(b=true->match d with
 | .rat q=>P (.rat q)
 | .int n=>P (.rat (n:Rat))
 | _=>False)
def qSj:FSp:=λds P X=>match ds with
 | [.rat a, .rat b]=>qN3 a b/\(b=0->X ⟨"NoRatio",[("word", .str "zero")]⟩)/\(b≠0->P (.rat (a / b)))
 | [.rat a, .int n]=>qN3 a n/\(n=0->X ⟨"NoRatio",[("word", .str "zero")]⟩)/\(n≠0->P (.rat (a / n)))
 | _=>False
def qHr(K:W.Frag)(cs:List Str):TS:=
 (tSeq (tIfS (tB (tCB (rIsi K) (tCons (tVar 1) (tCons (tC (.ref (He.ga K "Ratio"))) tNil)))) (tRet (tMake (He.ga K "Ratio") (qC2 K) [] E0 (tCons (tOp qEc (tOp qCg (tFld K (tVar 0) "top") (tFld K (tVar 1) "bottom")) (tOp qCg (tFld K (tVar 1) "top") (tFld K (tVar 0) "bottom"))) (tCons (tOp qCg (tFld K (tVar 0) "bottom") (tFld K (tVar 1) "bottom")) tNil)))) tNext)
 (tSeq (tIfS (tB (tCall (qEr K) [] E0 (tCons (tVar 1) tNil))) (tRet (tMake (He.ga K "Ratio") (qC2 K) [] E0 (tCons (tOp qEc (tFld K (tVar 0) "top") (tOp qCg (tVar 1) (tFld K (tVar 0) "bottom"))) (tCons (tFld K (tVar 0) "bottom") tNil)))) tNext)
 tNever))
def qGn(cs:List Str):FS:=
 (qBf (qGz (fB (qQk cs (.own "Ratio") (qAd 1))) (qEz (qAs qZd [] (qAc (fOp qDs (fOp qDa (qFl "Ratio" "top" (qAd 0)) (qFl "Ratio" "bottom" (qAd 1))) (fOp qDa (qFl "Ratio" "top" (qAd 1)) (qFl "Ratio" "bottom" (qAd 0)))) (qAc (fOp qDa (qFl "Ratio" "bottom" (qAd 0)) (qFl "Ratio" "bottom" (qAd 1))) qAl)))) qC6)
 (qBf (qGz (fB (qAs (qD3 cs) [] (qAc (qAd 1) qAl))) (qEz (qAs qZd [] (qAc (fOp qDs (qFl "Ratio" "top" (qAd 0)) (fOp qDa (qAd 1) (qFl "Ratio" "bottom" (qAd 0)))) (qAc (qFl "Ratio" "bottom" (qAd 0)) qAl)))) qC6)
 fNev))
theorem qWb{K:W.Frag}{cs:List Str}(T:KF K cs)(hRa:("Ratio":Str)∈cs):SS K Ta [] [] [] [] (λ_=>E0) (qHr K cs) (qGn cs):=
 (qAi (ow1:=[]) (qEd (by decide) (qL1 (qG0 (c:=(.own "Ratio")) T.toKT (qAa (by decide)))) (qBa (by decide) (qFq qMo qAn (qAb (qAf (λ_=>qCf) (qAf (λ_=>qA9) (qAz (T.fld _ hRa _ (by decide)) (qAa (by decide))) (qAz (T.fld _ hRa _ (by decide)) (qAa (by decide)))) (qAf (λ_=>qA9) (qAz (T.fld _ hRa _ (by decide)) (qAa (by decide))) (qAz (T.fld _ hRa _ (by decide)) (qAa (by decide))))) (qAb (qAf (λ_=>qA9) (qAz (T.fld _ hRa _ (by decide)) (qAa (by decide))) (qAz (T.fld _ hRa _ (by decide)) (qAa (by decide)))) qAe)))) (qBd (by decide)))
 (qAi (ow1:=[]) (qEd (by decide) (qL1 (qAr (qE7 T.toKT) qAn (qAb (qAa (by decide)) qAe))) (qBa (by decide) (qFq qMo qAn (qAb (qAf (λ_=>qCf) (qAz (T.fld _ hRa _ (by decide)) (qAa (by decide))) (qAf (λ_=>qA9) (qAa (by decide)) (qAz (T.fld _ hRa _ (by decide)) (qAa (by decide))))) (qAb (qAz (T.fld _ hRa _ (by decide)) (qAa (by decide))) qAe)))) (qBd (by decide)))
 qAbg))
def qG9(K:W.Frag)(cs:List Str):TS:=
 (tSeq (tIfS (tB (tCB (rIsi K) (tCons (tVar 1) (tCons (tC (.ref (He.ga K "Ratio"))) tNil)))) (tRet (tMake (He.ga K "Ratio") (qC2 K) [] E0 (tCons (tOp qOa (tOp qCg (tFld K (tVar 0) "top") (tFld K (tVar 1) "bottom")) (tOp qCg (tFld K (tVar 1) "top") (tFld K (tVar 0) "bottom"))) (tCons (tOp qCg (tFld K (tVar 0) "bottom") (tFld K (tVar 1) "bottom")) tNil)))) tNext)
 (tSeq (tIfS (tB (tCall (qEr K) [] E0 (tCons (tVar 1) tNil))) (tRet (tMake (He.ga K "Ratio") (qC2 K) [] E0 (tCons (tOp qOa (tFld K (tVar 0) "top") (tOp qCg (tVar 1) (tFld K (tVar 0) "bottom"))) (tCons (tFld K (tVar 0) "bottom") tNil)))) tNext)
 tNever))
def qGv(cs:List Str):FS:=
 (qBf (qGz (fB (qQk cs (.own "Ratio") (qAd 1))) (qEz (qAs qZd [] (qAc (fOp qRl (fOp qDa (qFl "Ratio" "top" (qAd 0)) (qFl "Ratio" "bottom" (qAd 1))) (fOp qDa (qFl "Ratio" "top" (qAd 1)) (qFl "Ratio" "bottom" (qAd 0)))) (qAc (fOp qDa (qFl "Ratio" "bottom" (qAd 0)) (qFl "Ratio" "bottom" (qAd 1))) qAl)))) qC6)
 (qBf (qGz (fB (qAs (qD3 cs) [] (qAc (qAd 1) qAl))) (qEz (qAs qZd [] (qAc (fOp qRl (qFl "Ratio" "top" (qAd 0)) (fOp qDa (qAd 1) (qFl "Ratio" "bottom" (qAd 0)))) (qAc (qFl "Ratio" "bottom" (qAd 0)) qAl)))) qC6)
 fNev))
theorem qV4{K:W.Frag}{cs:List Str}(T:KF K cs)(hRa:("Ratio":Str)∈cs):SS K Ta [] [] [] [] (λ_=>E0) (qG9 K cs) (qGv cs):=
 (qAi (ow1:=[]) (qEd (by decide) (qL1 (qG0 (c:=(.own "Ratio")) T.toKT (qAa (by decide)))) (qBa (by decide) (qFq qMo qAn (qAb (qAf (λ_=>qJq) (qAf (λ_=>qA9) (qAz (T.fld _ hRa _ (by decide)) (qAa (by decide))) (qAz (T.fld _ hRa _ (by decide)) (qAa (by decide)))) (qAf (λ_=>qA9) (qAz (T.fld _ hRa _ (by decide)) (qAa (by decide))) (qAz (T.fld _ hRa _ (by decide)) (qAa (by decide))))) (qAb (qAf (λ_=>qA9) (qAz (T.fld _ hRa _ (by decide)) (qAa (by decide))) (qAz (T.fld _ hRa _ (by decide)) (qAa (by decide)))) qAe)))) (qBd (by decide)))
 (qAi (ow1:=[]) (qEd (by decide) (qL1 (qAr (qE7 T.toKT) qAn (qAb (qAa (by decide)) qAe))) (qBa (by decide) (qFq qMo qAn (qAb (qAf (λ_=>qJq) (qAz (T.fld _ hRa _ (by decide)) (qAa (by decide))) (qAf (λ_=>qA9) (qAa (by decide)) (qAz (T.fld _ hRa _ (by decide)) (qAa (by decide))))) (qAb (qAz (T.fld _ hRa _ (by decide)) (qAa (by decide))) qAe)))) (qBd (by decide)))
 qAbg))
def qHp(K:W.Frag)(cs:List Str):TS:=
 (tSeq (tIfS (tB (tCB (rIsi K) (tCons (tVar 1) (tCons (tC (.ref (He.ga K "Ratio"))) tNil)))) (tRet (tMake (He.ga K "Ratio") (qC2 K) [] E0 (tCons (tOp qCg (tFld K (tVar 0) "top") (tFld K (tVar 1) "top")) (tCons (tOp qCg (tFld K (tVar 0) "bottom") (tFld K (tVar 1) "bottom")) tNil)))) tNext)
 (tSeq (tIfS (tB (tCall (qEr K) [] E0 (tCons (tVar 1) tNil))) (tRet (tMake (He.ga K "Ratio") (qC2 K) [] E0 (tCons (tOp qCg (tFld K (tVar 0) "top") (tVar 1)) (tCons (tFld K (tVar 0) "bottom") tNil)))) tNext)
 tNever))
def qGd(cs:List Str):FS:=
 (qBf (qGz (fB (qQk cs (.own "Ratio") (qAd 1))) (qEz (qAs qZd [] (qAc (fOp qDa (qFl "Ratio" "top" (qAd 0)) (qFl "Ratio" "top" (qAd 1))) (qAc (fOp qDa (qFl "Ratio" "bottom" (qAd 0)) (qFl "Ratio" "bottom" (qAd 1))) qAl)))) qC6)
 (qBf (qGz (fB (qAs (qD3 cs) [] (qAc (qAd 1) qAl))) (qEz (qAs qZd [] (qAc (fOp qDa (qFl "Ratio" "top" (qAd 0)) (qAd 1)) (qAc (qFl "Ratio" "bottom" (qAd 0)) qAl)))) qC6)
 fNev))
theorem qVf{K:W.Frag}{cs:List Str}(T:KF K cs)(hRa:("Ratio":Str)∈cs):SS K Ta [] [] [] [] (λ_=>E0) (qHp K cs) (qGd cs):=
 (qAi (ow1:=[]) (qEd (by decide) (qL1 (qG0 (c:=(.own "Ratio")) T.toKT (qAa (by decide)))) (qBa (by decide) (qFq qMo qAn (qAb (qAf (λ_=>qA9) (qAz (T.fld _ hRa _ (by decide)) (qAa (by decide))) (qAz (T.fld _ hRa _ (by decide)) (qAa (by decide)))) (qAb (qAf (λ_=>qA9) (qAz (T.fld _ hRa _ (by decide)) (qAa (by decide))) (qAz (T.fld _ hRa _ (by decide)) (qAa (by decide)))) qAe)))) (qBd (by decide)))
 (qAi (ow1:=[]) (qEd (by decide) (qL1 (qAr (qE7 T.toKT) qAn (qAb (qAa (by decide)) qAe))) (qBa (by decide) (qFq qMo qAn (qAb (qAf (λ_=>qA9) (qAz (T.fld _ hRa _ (by decide)) (qAa (by decide))) (qAa (by decide))) (qAb (qAz (T.fld _ hRa _ (by decide)) (qAa (by decide))) qAe)))) (qBd (by decide)))
 qAbg))
def qHb(K:W.Frag)(cs:List Str):TS:=
 (tRet (tMake (He.ga K "Ratio") (qC2 K) [] E0 (tCons (tUn qM6 (tFld K (tVar 0) "top")) (tCons (tFld K (tVar 0) "bottom") tNil))))
def qI4(cs:List Str):FS:=
 (qEz (qAs qZd [] (qAc (fUn qZf (qFl "Ratio" "top" (qAd 0))) (qAc (qFl "Ratio" "bottom" (qAd 0)) qAl))))
theorem qUk{K:W.Frag}{cs:List Str}(T:KF K cs)(hRa:("Ratio":Str)∈cs):SS K Ta [] [] [] [] (λ_=>E0) (qHb K cs) (qI4 cs):=
 (qBa (by decide) (qFq qMo qAn (qAb (qRt (λ_=>qNl) (qAz (T.fld _ hRa _ (by decide)) (qAa (by decide)))) (qAb (qAz (T.fld _ hRa _ (by decide)) (qAa (by decide))) qAe))))
def qIs(K:W.Frag)(cs:List Str):TS:=
 (tSeq (tIfS (tB (tCB (rIsi K) (tCons (tVar 1) (tCons (tC (.ref (He.ga K "Ratio"))) tNil)))) (tRet (tAndV (tOp rEq (tFld K (tVar 0) "top") (tFld K (tVar 1) "top")) (tOp rEq (tFld K (tVar 0) "bottom") (tFld K (tVar 1) "bottom")))) tNext)
 (tSeq (tIfS (tB (tCall (qEr K) [] E0 (tCons (tVar 1) tNil))) (tRet (tAndV (tOp rEq (tFld K (tVar 0) "bottom") (tC (.int 1))) (tOp rEq (tFld K (tVar 0) "top") (tVar 1)))) tNext)
 (tRet (tC (.bl false)))))
def qHy(cs:List Str):FS:=
 (qBf (qGz (fB (qQk cs (.own "Ratio") (qAd 1))) (qEz (qNe (fOp oEq (qFl "Ratio" "top" (qAd 0)) (qFl "Ratio" "top" (qAd 1))) (fOp oEq (qFl "Ratio" "bottom" (qAd 0)) (qFl "Ratio" "bottom" (qAd 1))))) qC6)
 (qBf (qGz (fB (qAs (qD3 cs) [] (qAc (qAd 1) qAl))) (qEz (qNe (fOp oEq (qFl "Ratio" "bottom" (qAd 0)) (fC (.int 1))) (fOp oEq (qFl "Ratio" "top" (qAd 0)) (qAd 1)))) qC6)
 (qEz (fC (.bl false)))))
theorem qAag{K:W.Frag}{cs:List Str}(T:KF K cs)(hRa:("Ratio":Str)∈cs):SS K Ta [] [] [] [] (λ_=>E0) (qIs K cs) (qHy cs):=
 (qAi (ow1:=[]) (qEd (by decide) (qL1 (qG0 (c:=(.own "Ratio")) T.toKT (qAa (by decide)))) (qBa (by decide) (qKr (qAf (λ_=>qPt) (qAz (T.fld _ hRa _ (by decide)) (qAa (by decide))) (qAz (T.fld _ hRa _ (by decide)) (qAa (by decide)))) (qAf (λ_=>qPt) (qAz (T.fld _ hRa _ (by decide)) (qAa (by decide))) (qAz (T.fld _ hRa _ (by decide)) (qAa (by decide)))))) (qBd (by decide)))
 (qAi (ow1:=[]) (qEd (by decide) (qL1 (qAr (qE7 T.toKT) qAn (qAb (qAa (by decide)) qAe))) (qBa (by decide) (qKr (qAf (λ_=>qPt) (qAz (T.fld _ hRa _ (by decide)) (qAa (by decide))) qAg) (qAf (λ_=>qPt) (qAz (T.fld _ hRa _ (by decide)) (qAa (by decide))) (qAa (by decide))))) (qBd (by decide)))
 (qBa (by decide) qSp)))
def qHo(K:W.Frag)(cs:List Str):TS:=
 (tRet (tOrV (tCB (rIsi K) (tCons (tVar 0) (tCons (tC (.ref (He.ga K "Ratio"))) tNil))) (tCall (qEr K) [] E0 (tCons (tVar 0) tNil))))
def qI3(cs:List Str):FS:=
 (qEz (fOrV (qQk cs (.own "Ratio") (qAd 0)) (qAs (qD3 cs) [] (qAc (qAd 0) qAl))))
theorem qV1{K:W.Frag}{cs:List Str}(T:KF K cs)(hRa:("Ratio":Str)∈cs):SS K Ta [] [] [] [] (λ_=>E0) (qHo K cs) (qI3 cs):=
 (qBa (by decide) (qAih (qG0 (c:=(.own "Ratio")) T.toKT (qAa (by decide))) (qAr (qE7 T.toKT) qAn (qAb (qAa (by decide)) qAe))))
def qGg(K:W.Frag)(cs:List Str)(E:XK):TS:=
 (tSeq (tIfS (tB (tCB (rIsi K) (tCons (tVar 0) (tCons (tC (.ref (He.ga K "Ratio"))) tNil)))) (tRet (tVar 0)) tNext)
 (tSeq (tIfS (tB (tCall (qEr K) [] E0 (tCons (tVar 0) tNil))) (tRet (tMake (He.ga K "Ratio") (qC2 K) [.int 1] E (tCons (tVar 0) tNil))) tNext)
 (qE9 (He.ga K "NoNumber") "word" (λcls d _ H=>E cls d H) (tCons (tVar 1) tNil))))
def qKv(cs:List Str):FS:=
 (qBf (qGz (fB (qQk cs (.own "Ratio") (qAd 0))) (qEz (qAd 0)) qC6)
 (qBf (qGz (fB (qAs (qD3 cs) [] (qAc (qAd 0) qAl))) (qEz (qJn qZd [.int 1] (qAc (qAd 0) qAl))) qC6)
 (qHd "NoNumber" "word" (qAd 1))))
theorem qZm{K:W.Frag}{cs:List Str}(T:KF K cs)(hRa:("Ratio":Str)∈cs)(E:XK):SS K Ta [] [] [] [] (λ_=>E) (qGg K cs E) (qKv cs):=
 (qAi (ow1:=[]) (qEd (by decide) (qL1 (qG0 (c:=(.own "Ratio")) T.toKT (qAa (by decide)))) (qBa (by decide) (qAa (by decide))) (qBd (by decide)))
 (qAi (ow1:=[]) (qEd (by decide) (qL1 (qAr (qE7 T.toKT) qAn (qAb (qAa (by decide)) qAe))) (qBa (by decide) (qVk qMo (qRd qAn) (qAb (qAa (by decide)) qAe))) (qBd (by decide)))
 (qHw (by decide) (qAa (by decide)))))
def qE0(K:W.Frag)(cs:List Str)(E:XK):TS:=
 (tSeq (tAsg (tIf (tB (tCB (rIsi K) (tCons (tVar 1) (tCons (tC (.ref (He.ga K "Ratio"))) tNil)))) (tVar 1) (tMake (He.ga K "Ratio") (qC2 K) [.int 1] E (tCons (tVar 1) tNil))) (gName 2))
 (tSeq (tIfS (tTest (tOp rEq (tFld K (tVar 2) "top") (tC (.int 0)))) (qE9 (He.ga K "NoRatio") "word" (λcls d _ H=>E cls d H) (tCons (tC (.str "zero")) tNil)) tNext)
 (tRet (tMake (He.ga K "Ratio") (qC2 K) [] E (tCons (tOp qCg (tFld K (tVar 0) "top") (tFld K (tVar 2) "bottom")) (tCons (tOp qCg (tFld K (tVar 0) "bottom") (tFld K (tVar 2) "top")) tNil))))))
def qFs(cs:List Str):FS:=
 (qBf (qDo 2 (fIf (fB (qQk cs (.own "Ratio") (qAd 1))) (qAd 1) (qJn qZd [.int 1] (qAc (qAd 1) qAl))))
 (qBf (qGz (fB (fOp oEq (qFl "Ratio" "top" (qAd 2)) (fC (.int 0)))) (qHd "NoRatio" "word" (fC (.str "zero"))) qC6)
 (qEz (qJn qZd [] (qAc (fOp qDa (qFl "Ratio" "top" (qAd 0)) (qFl "Ratio" "bottom" (qAd 2))) (qAc (fOp qDa (qFl "Ratio" "bottom" (qAd 0)) (qFl "Ratio" "top" (qAd 2))) qAl))))))
theorem qTq{K:W.Frag}{cs:List Str}(T:KF K cs)(hRa:("Ratio":Str)∈cs)(E:XK):SS K Ta [] [] [] [] (λ_=>E) (qE0 K cs E) (qFs cs):=
 (qAi (ow1:=[]) (qBe (by decide) (by decide) (qArd (qL1 (qG0 (c:=(.own "Ratio")) T.toKT (qAa (by decide)))) (qAa (by decide)) (qVk qMo (qRd qAn) (qAb (qAa (by decide)) qAe))))
 (qAi (ow1:=[]) (qEd (by decide) (qCl (qAf (λ_=>qPt) (qAz (T.fld _ hRa _ (by decide)) (qAa (by decide))) qAg)) (qHw (by decide) qXl) (qBd (by decide)))
 (qBa (by decide) (qVk qMo qAn (qAb (qAf (λ_=>qA9) (qAz (T.fld _ hRa _ (by decide)) (qAa (by decide))) (qAz (T.fld _ hRa _ (by decide)) (qAa (by decide)))) (qAb (qAf (λ_=>qA9) (qAz (T.fld _ hRa _ (by decide)) (qAa (by decide))) (qAz (T.fld _ hRa _ (by decide)) (qAa (by decide)))) qAe))))))
theorem qD8{cs:List Str}(h:("Ratio":Str)∈cs)(q:Rat):isD cs (.own "Ratio") (.rat q)=some true:=by
 simp only [isD,tyN,qQy,if_pos h,decide_true]
theorem qEj{cs:List Str}(h:("Ratio":Str)∈cs)(i:Int):isD cs (.own "Ratio") (.int i)=some false:=by
 simp only [isD,tyN,if_pos h]
theorem qX6(cs:List Str)(i:Int):intD cs (.int i)=some true:=rfl
theorem qCh{cs:List Str}{i:Int}{P:D->Prop}{X:XP}:qD3 cs [.int i] P X↔P (.bl true):=by
 constructor
 ·rintro ⟨d,b,h,hb,p⟩
  cases h
  rw [qX6] at hb
  cases hb
  exact p
 ·exact λp=>⟨_,_,rfl,qX6 cs i,p⟩
theorem qEs(q:Rat):fldD "top" (.rat q)=some (.int q.num):=by simp [fldD]
theorem qEu(q:Rat):fldD "bottom" (.rat q)=some (.int (q.den:Nat)):=by
 have h:¬ (("bottom":Str)="top"):=qAoo
 simp only [fldD,if_neg h,if_true]
theorem mk_R{a b:Int}{P:D->Prop}{X:XP}:qZd [.int a, .int b] P X↔(b≠0/\Sml b/\P (.rat (Za4 a b))):=by
 constructor
 ·rintro ⟨a',b',h,h1,h2,h3⟩
  cases h
  exact ⟨h1,h2,h3⟩
 ·exact λ⟨h1,h2,h3⟩=>⟨a,b,rfl,h1,h2,h3⟩
theorem szI{m:Nat}{k:Int}(h:Sz m (k:Rat)):k.natAbs<2 ^ m:=h.num
theorem dsz{n:Nat}{a:Rat}(h:Sz n a):((a.den:Nat):Int).natAbs<2 ^ n:=by rw [Int.natAbs_natCast];exact h.den
theorem qAj8(a b:Rat):((a.den:Nat):Int)*((b.den:Nat):Int)≠0:=Int.ne_of_gt (Int.mul_pos (den_pos a) (den_pos b))
theorem d_ne(a:Rat):((a.den:Nat):Int)≠0:=Int.ne_of_gt (den_pos a)
theorem qAm0{n m:Nat}{a b:Rat}(h1:Sz n a)(h2:Sz m b)(hs:n+m<=900000):Sml (((a.den:Nat):Int)*((b.den:Nat):Int)):=trivial
theorem d_sz{n m:Nat}{a:Rat}(h1:Sz n a)(hs:n+m<=900000):Sml ((a.den:Nat):Int):=trivial
theorem mok{i j:Int}{n m:Nat}{a b:Rat}(h1:Sz n a)(h2:Sz m b)(hs:n+m<=900000)(hi:i.natAbs<2 ^ n)(hj:j.natAbs<2 ^ m):IntMulOk i j:=qAju hi hj h1.pos h2.pos (by omega)
theorem qUq{cs:List Str}(hR:("Ratio":Str)∈cs)(ds:List D)(P:D->Prop)(X:XP)(h:fR2 (λa b=>a+b) ds P X):qGn cs (qF9 P X0) (qBb 2 ds):=by
 match ds,h with
 | [.rat a, .rat b],⟨⟨n,m,ha,hb,hs⟩,p⟩=>
  simp_arith [qGn,qD8 hR,qEj hR,qCh,qEs,qEu,mk_R]
  exact ⟨mok ha hb hs ha.num (dsz hb),mok hb ha (by omega) hb.num (dsz ha),mok ha hb hs (dsz ha) (dsz hb),qAj8 a b,qAm0 ha hb hs,by rw [qAip];exact p⟩
 | [.rat a, .int k],⟨⟨n,m,ha,hb,hs⟩,p⟩=>
  simp_arith [qGn,qD8 hR,qEj hR,qCh,qEs,qEu,mk_R]
  exact ⟨mok hb ha (by omega) (szI hb) (dsz ha),d_ne a,d_sz ha hs,by rw [qAm5];exact p⟩
theorem qVr{cs:List Str}(hR:("Ratio":Str)∈cs)(ds:List D)(P:D->Prop)(X:XP)(h:fR2 (λa b=>a - b) ds P X):qGv cs (qF9 P X0) (qBb 2 ds):=by
 match ds,h with
 | [.rat a, .rat b],⟨⟨n,m,ha,hb,hs⟩,p⟩=>
  simp_arith [qGv,qD8 hR,qEj hR,qCh,qEs,qEu,mk_R]
  exact ⟨mok ha hb hs ha.num (dsz hb),mok hb ha (by omega) hb.num (dsz ha),mok ha hb hs (dsz ha) (dsz hb),qAj8 a b,qAm0 ha hb hs,by rw [qAnf];exact p⟩
 | [.rat a, .int k],⟨⟨n,m,ha,hb,hs⟩,p⟩=>
  simp_arith [qGv,qD8 hR,qEj hR,qCh,qEs,qEu,mk_R]
  exact ⟨mok hb ha (by omega) (szI hb) (dsz ha),d_ne a,d_sz ha hs,by rw [qAj1];exact p⟩
theorem qU8{cs:List Str}(hR:("Ratio":Str)∈cs)(ds:List D)(P:D->Prop)(X:XP)(h:fR2 (λa b=>a*b) ds P X):qGd cs (qF9 P X0) (qBb 2 ds):=by
 match ds,h with
 | [.rat a, .rat b],⟨⟨n,m,ha,hb,hs⟩,p⟩=>
  simp_arith [qGd,qD8 hR,qEj hR,qCh,qEs,qEu,mk_R]
  exact ⟨mok ha hb hs ha.num hb.num,mok ha hb hs (dsz ha) (dsz hb),qAj8 a b,qAm0 ha hb hs,by rw [qAjl];exact p⟩
 | [.rat a, .int k],⟨⟨n,m,ha,hb,hs⟩,p⟩=>
  simp_arith [qGd,qD8 hR,qEj hR,qCh,qEs,qEu,mk_R]
  exact ⟨mok ha hb hs ha.num (szI hb),d_ne a,d_sz ha hs,by rw [qAj4];exact p⟩
theorem qUo{cs:List Str}(hR:("Ratio":Str)∈cs)(ds:List D)(P:D->Prop)(X:XP)(h:fR1 (λa => -a) ds P X):qI4 cs (qF9 P X0) (qBb 1 ds):=by
 match ds,h with
 | [.rat a],⟨⟨n,ha,hs⟩,p⟩=>
  simp_arith [qI4,qD8 hR,qEj hR,qCh,qEs,qEu,mk_R]
  exact ⟨d_ne a,d_sz (m:=0) ha (by omega),by rw [qAnz];exact p⟩
theorem qKg(a b:Rat):a=b↔a.num=b.num/\a.den=b.den:=⟨λh=>by rw [h];exact ⟨rfl,rfl⟩,λ⟨h1,h2⟩=>Rat.ext h1 h2⟩
theorem qAdv(a:Rat)(k:Int):a=(k:Rat)↔a.den=1/\a.num=k:=by
 rw [qKg,Rat.num_intCast,Rat.den_intCast]
 exact And.comm
theorem ifP{P:D->Prop}{c:Bool}{x y z:D}(h1:c=true->x=z)(h2:c=false->y=z)(p:P z):if c=true then P x else P y:=by
 cases c with
 | true=>rw [if_pos rfl,h1 rfl];exact p
 | false=>rw [if_neg (by decide),h2 rfl];exact p
theorem qZ2{cs:List Str}(hR:("Ratio":Str)∈cs)(ds:List D)(P:D->Prop)(X:XP)(h:fRB (λa b=>decide (a=b)) ds P X):qHy cs (qF9 P X0) (qBb 2 ds):=by
 match ds,h with
 | [.rat a, .rat b],⟨⟨n,m,ha,hb,hs⟩,p⟩=>
  simp_arith [qHy,qD8 hR,qEj hR,qCh,qEs,qEu,mk_R]
  refine ifP (λh => ?_) (λh => ?_) p
  ·have h:=of_decide_eq_true h
   congr 1
   exact decide_eq_decide.mpr (by rw [qKg];exact ⟨(by intro z;exact ⟨h,by omega⟩), (by intro z;omega)⟩)
  ·have h:=of_decide_eq_false h
   congr 1
   exact (decide_eq_false (by rw [qKg];exact λz=>h z.1)).symm
 | [.rat a, .int k],⟨⟨n,m,ha,hb,hs⟩,p⟩=>
  simp_arith [qHy,qD8 hR,qEj hR,qCh,qEs,qEu,mk_R]
  refine ifP (λh => ?_) (λh => ?_) p
  ·have h:=of_decide_eq_true h
   congr 1
   exact decide_eq_decide.mpr (by rw [qAdv];exact ⟨(by intro z;exact ⟨by omega,z⟩), (by intro z;exact z.2)⟩)
  ·have h:=of_decide_eq_false h
   congr 1
   exact (decide_eq_false (by rw [qAdv];exact λz=>h (by omega))).symm
theorem qVz{cs:List Str}(hR:("Ratio":Str)∈cs)(ds:List D)(P:D->Prop)(X:XP)(h:qHc cs ds P X):qI3 cs (qF9 P X0) (qBb 1 ds):=by
 obtain ⟨d,b,rfl,hb,p⟩:=h
 simp_arith [qI3]
 unfold qTw at hb
 cases h1:isD cs (.own "Ratio") d with
 | none=>rw [h1] at hb;cases hb
 | some k=>
  rw [h1] at hb
  refine ⟨k,rfl, ?_⟩
  cases k with
  | true=>cases hb;exact p
  | false=>exact ⟨d,b,rfl,hb,p⟩
theorem qYk(n:Int):((n:Int):Rat)=Za4 n 1:=by
 rw [Za8]
 show (n:Rat)=(n:Rat) / 1
 grind
theorem qAn7{n:Int}{P:D->Prop}{X:XP}:qZd [.int n, .int 1] P X↔P (.rat (n:Rat)):=by
 rw [mk_R, ←qYk]
 constructor
 ·exact λh=>h.2.2
 ·exact λh=>⟨by decide,by decide,h⟩
theorem qZq{cs:List Str}(hR:("Ratio":Str)∈cs)(ds:List D)(P:D->Prop)(X:XP)(h:qFk cs ds P X):qKv cs (qF9 P X) (qBb 2 ds):=by
 obtain ⟨d,w,b,rfl,hb,h0,h1⟩:=h
 simp_arith [qKv]
 unfold qTw at hb
 cases hk:isD cs (.own "Ratio") d with
 | none=>rw [hk] at hb;cases hb
 | some k=>
  rw [hk] at hb
  refine ⟨k,rfl, ?_⟩
  cases k with
  | true=>
   cases hb
   have h1:=h1 rfl
   cases d with
   | rat q=>exact h1
   | int n=>rw [qEj hR] at hk;cases hk
   | _=>exact h1.elim
  | false=>
   refine ⟨d,b,rfl,hb, ?_⟩
   cases b with
   | false=>exact h0 rfl
   | true=>
    have h1:=h1 rfl
    cases d with
    | rat q=>rw [qD8 hR] at hk;cases hk
    | int n=>exact (qAn7 (X:=X)).mpr h1
    | _=>exact h1.elim
theorem qAlf{a b:Rat}(hb:b≠0):Za4 (a.num*b.den) (a.den*b.num)=a / b:=by
 have h1:=qHs a
 have h2:=qHs b
 have h3:((b.num:Int):Rat)≠0:=λh=>hb (by rw [<-qEv b,h,Rat.div_def,Za2])
 have e1:=qEv a
 have e2:=qEv b
 rw [Za8,Za7,Za7]
 grind
theorem qAew{a b:Rat}{n m:Nat}{P:D->Prop}{X:XP}{cs:List Str}(ha:Sz n a)(hb:Sz m b)(hs:n+m<=900000)(h0:b=0->X ⟨"NoRatio",[("word", .str "zero")]⟩)(h1:b≠0->P (.rat (a / b))) :
  if decide (b.num=0)=true then X ⟨"NoRatio",[("word", .str "zero")]⟩ else IntMulOk a.num ((b.den:Nat):Int)/\IntMulOk ((a.den:Nat):Int) b.num/\((a.den:Nat):Int)*b.num≠0/\Sml (((a.den:Nat):Int)*b.num)/\P (.rat (Za4 (a.num*(b.den:Nat)) ((a.den:Nat)*b.num))):=by
 by_cases h:b.num=0
 ·rw [if_pos (decide_eq_true h)]
  exact h0 (Rat.num_eq_zero.mp h)
 ·rw [if_neg (λz=>h (of_decide_eq_true z))]
  have nb:b≠0:=λz=>h (by rw [z];rfl)
  refine ⟨mok ha hb hs ha.num (dsz hb),mok ha hb hs (dsz ha) hb.num,Int.mul_ne_zero (d_ne a) h, ?_,by rw [qAlf nb];exact h1 nb⟩
  trivial
theorem qTi{cs:List Str}(hR:("Ratio":Str)∈cs)(ds:List D)(P:D->Prop)(X:XP)(h:qSj ds P X):qFs cs (qF9 P X) (qBb 3 ds):=by
 match ds,h with
 | [.rat a, .rat b],⟨⟨n,m,ha,hb,hs⟩,p0,p1⟩=>
  simp_arith [qFs,qD8 hR,qEj hR,qCh,qEs,qEu,mk_R]
  exact qAew (cs:=cs) ha hb hs p0 p1
 | [.rat a, .int k],⟨⟨n,m,ha,hb,hs⟩,p0,p1⟩=>
  simp_arith [qFs,qD8 hR,qEj hR,qCh,qEs,qEu,mk_R]
  refine ⟨by decide,by decide, ?_⟩
  rw [<-qYk]
  exact qAew (cs:=cs) ha hb hs (λh=>p0 (by
   have:=(Rat.intCast_inj (a:=k) (b:=0)).mp h
   exact this)) (λh=>p1 λz=>h (by rw [z];rfl))
theorem qPx{K:W.Frag}{cs:List Str}(vs:List V)(H:Hp)(Q:VK)(E:XK)(h:(lift K (fR2 λa b=>a+b)) vs H Q E):vs.length=2:=qA0 (λds P X h=>by unfold fR2 at h;first | ((repeat (first | (obtain ⟨rfl,_⟩:=h;exact rfl) | obtain ⟨_,h⟩:=h));done) | (split at h <;> first | rfl | exact h.elim)) h
theorem qSy{K:W.Frag}{cs:List Str}(T:KF K cs)(hRa:("Ratio":Str)∈cs)(vs:List V)(H:Hp)(Q:VK)(E:XK)(h:(lift K (fR2 λa b=>a+b)) vs H Q E):qHr K cs { nx:=λ_ H'=>Q .non H',rt:=Q } (start ["self","other"] vs) H:=
 qD1 rfl (qWb T hRa) (qUq hRa) vs H Q E h
theorem qQ9{K:W.Frag}{cs:List Str}(vs:List V)(H:Hp)(Q:VK)(E:XK)(h:(lift K (fR2 λa b=>a - b)) vs H Q E):vs.length=2:=qA0 (λds P X h=>by unfold fR2 at h;first | ((repeat (first | (obtain ⟨rfl,_⟩:=h;exact rfl) | obtain ⟨_,h⟩:=h));done) | (split at h <;> first | rfl | exact h.elim)) h
theorem qT3{K:W.Frag}{cs:List Str}(T:KF K cs)(hRa:("Ratio":Str)∈cs)(vs:List V)(H:Hp)(Q:VK)(E:XK)(h:(lift K (fR2 λa b=>a - b)) vs H Q E):qG9 K cs { nx:=λ_ H'=>Q .non H',rt:=Q } (start ["self","other"] vs) H:=
 qD1 rfl (qV4 T hRa) (qVr hRa) vs H Q E h
theorem qPu{K:W.Frag}{cs:List Str}(vs:List V)(H:Hp)(Q:VK)(E:XK)(h:(lift K (fR2 λa b=>a*b)) vs H Q E):vs.length=2:=qA0 (λds P X h=>by unfold fR2 at h;first | ((repeat (first | (obtain ⟨rfl,_⟩:=h;exact rfl) | obtain ⟨_,h⟩:=h));done) | (split at h <;> first | rfl | exact h.elim)) h
theorem qRv{K:W.Frag}{cs:List Str}(T:KF K cs)(hRa:("Ratio":Str)∈cs)(vs:List V)(H:Hp)(Q:VK)(E:XK)(h:(lift K (fR2 λa b=>a*b)) vs H Q E):qHp K cs { nx:=λ_ H'=>Q .non H',rt:=Q } (start ["self","other"] vs) H:=
 qD1 rfl (qVf T hRa) (qU8 hRa) vs H Q E h
theorem qQg{K:W.Frag}{cs:List Str}(vs:List V)(H:Hp)(Q:VK)(E:XK)(h:(lift K (fR1 λa => -a)) vs H Q E):vs.length=1:=qA0 (λds P X h=>by unfold fR1 at h;first | ((repeat (first | (obtain ⟨rfl,_⟩:=h;exact rfl) | obtain ⟨_,h⟩:=h));done) | (split at h <;> first | rfl | exact h.elim)) h
theorem qTe{K:W.Frag}{cs:List Str}(T:KF K cs)(hRa:("Ratio":Str)∈cs)(vs:List V)(H:Hp)(Q:VK)(E:XK)(h:(lift K (fR1 λa => -a)) vs H Q E):qHb K cs { nx:=λ_ H'=>Q .non H',rt:=Q } (start ["self"] vs) H:=
 qD1 rfl (qUk T hRa) (qUo hRa) vs H Q E h
theorem qTf{K:W.Frag}{cs:List Str}(vs:List V)(H:Hp)(Q:VK)(E:XK)(h:(lift K (fRB λa b=>decide (a=b))) vs H Q E):vs.length=2:=qA0 (λds P X h=>by unfold fRB at h;first | ((repeat (first | (obtain ⟨rfl,_⟩:=h;exact rfl) | obtain ⟨_,h⟩:=h));done) | (split at h <;> first | rfl | exact h.elim)) h
theorem qW6{K:W.Frag}{cs:List Str}(T:KF K cs)(hRa:("Ratio":Str)∈cs)(vs:List V)(H:Hp)(Q:VK)(E:XK)(h:(lift K (fRB λa b=>decide (a=b))) vs H Q E):qIs K cs { nx:=λ_ H'=>Q .non H',rt:=Q } (start ["self","other"] vs) H:=
 qD1 rfl (qAag T hRa) (qZ2 hRa) vs H Q E h
theorem qQd{K:W.Frag}{cs:List Str}(vs:List V)(H:Hp)(Q:VK)(E:XK)(h:(lift K (qHc cs)) vs H Q E):vs.length=1:=qA0 (λds P X h=>by unfold qHc at h;first | ((repeat (first | (obtain ⟨rfl,_⟩:=h;exact rfl) | obtain ⟨_,h⟩:=h));done) | (split at h <;> first | rfl | exact h.elim)) h
theorem qT4{K:W.Frag}{cs:List Str}(T:KF K cs)(hRa:("Ratio":Str)∈cs)(vs:List V)(H:Hp)(Q:VK)(E:XK)(h:(lift K (qHc cs)) vs H Q E):qHo K cs { nx:=λ_ H'=>Q .non H',rt:=Q } (start ["value"] vs) H:=
 qD1 rfl (qV1 T hRa) (qVz hRa) vs H Q E h
theorem qSr{K:W.Frag}{cs:List Str}(vs:List V)(H:Hp)(Q:VK)(E:XK)(h:(lift K (qFk cs)) vs H Q E):vs.length=2:=qA0 (λds P X h=>by unfold qFk at h;first | ((repeat (first | (obtain ⟨rfl,_⟩:=h;exact rfl) | obtain ⟨_,h⟩:=h));done) | (split at h <;> first | rfl | exact h.elim)) h
theorem qWj{K:W.Frag}{cs:List Str}(T:KF K cs)(hRa:("Ratio":Str)∈cs)(vs:List V)(H:Hp)(Q:VK)(E:XK)(h:(lift K (qFk cs)) vs H Q E):qGg K cs E { nx:=λ_ H'=>Q .non H',rt:=Q } (start ["value","word"] vs) H:=
 qAcm (t:=λE=>qGg K cs E) rfl (qZm T hRa) (qZq hRa) vs H Q E h
theorem qOk{K:W.Frag}{cs:List Str}(vs:List V)(H:Hp)(Q:VK)(E:XK)(h:(lift K qSj) vs H Q E):vs.length=2:=qA0 (λds P X h=>by unfold qSj at h;first | ((repeat (first | (obtain ⟨rfl,_⟩:=h;exact rfl) | obtain ⟨_,h⟩:=h));done) | (split at h <;> first | rfl | exact h.elim)) h
theorem qP0{K:W.Frag}{cs:List Str}(T:KF K cs)(hRa:("Ratio":Str)∈cs)(vs:List V)(H:Hp)(Q:VK)(E:XK)(h:(lift K qSj) vs H Q E):qE0 K cs E { nx:=λ_ H'=>Q .non H',rt:=Q } (start ["self","other","divisor"] vs) H:=
 qAcm (t:=λE=>qE0 K cs E) rfl (qTq T hRa) (qTi hRa) vs H Q E h
theorem qJz{d:D}{ds:List D}(h:itD d=some ds):d = .lst ds\/d = .tup ds:=by
 cases d <;> first | (cases h;done) | skip
 ·exact .inl (by cases h;rfl)
 ·exact .inr (by cases h;rfl)
theorem qKn{d:D}{ds:List D}{P:D->Prop}{X:XP}(h:itD d=some ds):qH8 [d] P X↔P (.int (ds.length:Nat)):=by
 rcases qJz h with rfl | rfl <;> exact Iff.rfl
theorem qO7{d:D}{ds:List D}(h:itD d=some ds):truD d=some !ds.isEmpty:=by
 rcases qJz h with rfl | rfl <;> rfl
theorem qDy{d:D}{ds:List D}{e:D}{k:Nat}{P:D->Prop}{X:XP}(h:itD d=some ds)(hk:ds[k]?=some e)(p:P e):oIx d (.int (k:Nat)) P X:=by
 rcases qJz h with rfl | rfl
 ·exact ⟨ds,_,e, .inl rfl,rfl,atI_nat hk,p⟩
 ·exact ⟨ds,_,e, .inr rfl,rfl,atI_nat hk,p⟩
def qCy(cs:List Rat):List D:=cs.map D.rat
theorem qE6(cs:List Rat):(qCy cs).length=cs.length:=Za6 ..
theorem qE1(lo:Int)(n:Nat):qIl lo (n+1) = .int lo :: qIl (lo+1) n:=by
 unfold qIl
 rw [List.range_succ_eq_map,List.map_cons,List.map_map]
 congr 1
 ·congr 1;omega
 ·refine List.map_congr_left λk _ => ?_
  show D.int (lo+((k+1:Nat):Int))=D.int (lo+1+(k:Int))
  congr 1;omega
def SzL(n:Nat)(cs:List Rat):Prop:=∀ c,c∈cs->Sz n c
theorem qFz:Sz 1 (0:Rat):=⟨by decide,by decide⟩
theorem SzL.coef{n:Nat}{cs:List Rat}(h:SzL n cs)(hn:0<n)(k:Nat):Sz n (coef cs k):=by
 by_cases hk:k<cs.length
 ·exact h _ (List.mem_of_getElem? (qMt hk))
 ·rw [qAk (by omega)]
  exact qFz.mono hn
structure MulSz (cs es:List Rat):Prop where
 prod:∀ i j,i<cs.length->j<es.length->qN3 (coef cs i) (coef es j)
 sum:∀ i j,i<cs.length->j<es.length->qN3 (conv (coef cs) (coef es) i (i+j)) (coef cs i*coef es j)
def horner(cs:List Rat)(x:Rat):Rat:=cs.foldr (λc v=>v*x+c) 0
def numV:D->Option Rat
 | .rat q=>some q
 | .int n=>some (n:Rat)
 | _=>none
def qDf:List D->Option (List Rat)
 | []=>some []
 | d :: ds=>match numV d,qDf ds with
  | some q,some qs=>some (q :: qs)
  | _,_=>none
theorem qMp{cs:List Str}(hR:("Ratio":Str)∈cs){d:D}{q:Rat}(h:numV d=some q):qTw cs d=some true:=by
 cases d <;> first | (cases h;done) | skip
 ·unfold qTw;rw [qEj hR];rfl
 ·unfold qTw;rw [qD8 hR]
theorem qBz{n:Nat}(h:n<=100000):n<sizeLine:=by
 have:sizeLine=2 ^ 24:=rfl
 omega
theorem qAe0{f:Rat->Rat->Rat}{a b:Rat}{P:D->Prop}{X:XP}:fR2 f [.rat a, .rat b] P X↔(qN3 a b/\P (.rat (f a b))):=Iff.rfl
theorem qAm4{f:Rat->Rat->Bool}{a:Rat}{n:Int}{P:D->Prop}{X:XP}:fRB f [.rat a, .int n] P X↔(qN3 a n/\P (.bl (f a n))):=Iff.rfl
theorem qM0{g:FG}{fe:FE}{ρ0:Env}{P:D->Prop}(f:D->D):∀ (ds acc:List D),(∀ d,d∈ds->∀ Q:D->Prop,Q (f d)->g d ρ0 λρ2=>fe ρ2 Q X0)->acc.length+ds.length<sizeLine->P (.lst (acc ++ ds.map f))->qUj g qMd fe ρ0 P ds acc
 | [],acc,_,_,p=>by
  rw [List.map_nil,List.append_nil] at p
  exact p
 | d :: ds,acc,h,hl,p=>by
  unfold qUj
  have h1:=h d Zad
  simp only [qMd,if_true]
  refine h1 _ ⟨by rw [Za0] at hl;omega, ?_⟩
  refine qM0 f ds (acc ++ [f d]) (λd' hd'=>h d' (Zab _ hd')) ?_ ?_
  ·rw [List.length_append,List.length_singleton]
   rw [Za0] at hl
   omega
  ·rw [List.append_assoc]
   exact p
def cell(f g:Nat->Rat)(i j k:Nat):Rat:=conv f g i k+if i<=k/\k<i+j then f i*g (k - i) else 0
theorem qWy{cs es:List Rat}{n m:Nat}(z1:SzL n cs)(z2:SzL m es)(n0:0<n)(m0:0<m):∀ i k,Sz (1+i*(n+m+1)) (conv (coef cs) (coef es) i k)
 | 0,k=>by
  show Sz _ 0
  rw [Nat.zero_mul]
  exact qFz
 | i+1,k=>by
  have ih:=qWy z1 z2 n0 m0 i k
  unfold conv
  split
  ·refine (ih.add ((z1.coef n0 i).mul (z2.coef m0 (k - i)))).mono ?_
   rw [Nat.add_mul];omega
  ·rw [Zac]
   refine ih.mono ?_
   rw [Nat.add_mul];omega
theorem qM4{cs es:List Rat}{n m:Nat}(z1:SzL n cs)(z2:SzL m es)(n0:0<n)(m0:0<m)(hs:(cs.length+1)*(n+m+1)<=900000):MulSz cs es:=by
 refine ⟨λi j hi hj => ?_,λi j hi hj => ?_⟩
 ·have hb:(0+1)*(n+m+1)<=900000:=Zaf (Nat.mul_le_mul_right _ (by omega)) hs
  exact ⟨n,m,z1.coef n0 i,z2.coef m0 j,by omega⟩
 ·have sm:=(z1.coef n0 i).mul (z2.coef m0 j)
  have sc:=qWy z1 z2 n0 m0 i (i+j)
  have hb:(i+1+1)*(n+m+1)<=900000:=Zaf (Nat.mul_le_mul_right _ (by omega)) hs
  refine ⟨_,_,sc,sm, ?_⟩
  rw [Nat.add_mul (i+1) 1,Nat.add_mul i 1,Nat.one_mul] at hb
  omega
theorem qAj3(d:D)(ds:List D)(k:Nat):enD (d :: ds) k = .tup [.int (k:Nat),d] :: enD ds (k+1):=rfl
theorem qAek(c:Rat)(cs:List Rat):qCy (c :: cs) = .rat c :: qCy cs:=rfl
theorem qVc{n k:Nat}(h:k<n):ixN n (k:Int)=some k:=by
 unfold ixN
 rw [if_pos (by omega),if_pos (by omega)]
 simp
theorem SzL.neg{n:Nat}{cs:List Rat}(h:SzL n cs):SzL n (qKc cs):=λc hc=>by
 unfold qKc at hc
 obtain ⟨d,hd,rfl⟩:=List.mem_map.mp hc
 exact (h d hd).neg
theorem qF4:∀ cs:List Rat,qDf (qCy cs)=some cs
 | []=>rfl
 | c :: cs=>by
  show (match numV (.rat c),qDf (qCy cs) with | some q,some qs=>some (q :: qs) | _,_=>none)=_
  rw [qF4 cs]
  rfl
def qAf2(d:D):D:=match numV d with
 | some q => .rat q
 | none=>d
theorem qOr:∀ {items:List D} {qs:List Rat},qDf items=some qs->items.map qAf2=qCy qs
 | [],qs,h=>by cases h;rfl
 | d :: items,qs,h=>by
  simp only [qDf] at h
  split at h
  ·rename_i q qs' h1 h2
   cases h
   rw [List.map_cons,qOr h2,qAek]
   unfold qAf2
   rw [h1]
  ·cases h
theorem qT6{d:D}:∀ {items:List D} {qs:List Rat},qDf items=some qs->d∈items->∃ q,numV d=some q
 | [],_,_,h=>by cases h
 | e :: items,qs,h,hd=>by
  simp only [qDf] at h
  split at h
  ·rename_i q qs' h1 h2
   rcases List.mem_cons.mp hd with rfl | hd
   ·exact ⟨q,h1⟩
   ·exact qT6 h2 hd
  ·cases h
theorem qNv:∀ {items:List D} {qs:List Rat},qDf items=some qs->items.length=qs.length
 | [],_,h=>by cases h;rfl
 | e :: items,qs,h=>by
  simp only [qDf] at h
  split at h
  ·rename_i q qs' h1 h2
   cases h
   rw [Za0,Za0,qNv h2]
  ·cases h
theorem qY1{cs:List Str}(hR:("Ratio":Str)∈cs){d:D}{q:Rat}{w:Str}{P:D->Prop}{X:XP}(h:numV d=some q)(p:P (.rat q)):qFk cs [d, .str w] P X:=by
 refine ⟨d,w,true,rfl,qMp hR h,(λz=>by cases z),λ_ => ?_⟩
 cases d <;> first | (cases h;done) | skip
 ·cases h;exact p
 ·cases h;exact p
theorem qAcx{cs:List Str}(hR:("Ratio":Str)∈cs){ρ0:Env}{P:D->Prop}{i:Nat}{w:Str}{items:List D}{qs:List Rat}(hi:i<ρ0.length)(hq:qDf items=some qs)(hl:items.length<=100000)(p:P (.lst (qCy qs))):qUj (qB1 i) qMd (qAs (qFk cs) [] (qAc (qAd i) (qAc (fC (.str w)) qAl))) ρ0 P items []:=by
 refine qM0 qAf2 _ [] (λd hd Q q => ?_) ?_ ?_
 ·obtain ⟨v,hv⟩:=qT6 hq hd
  refine ⟨_,by rw [qA8,if_pos rfl,if_pos hi], ?_⟩
  show qFk cs [d, .str w] Q X0
  refine qY1 hR hv ?_
  unfold qAf2 at q
  rw [hv] at q
  exact q
 ·exact qBz (by simp;omega)
 ·rw [qOr hq]
  exact p
def REq(K:W.Frag)(a b:Addr)(H:Hp):Prop:=∃ q,IsRat K H a q/\IsRat K H b q/\qN3 q q
theorem REq.mon{K:W.Frag}(a b:Addr)(H H':Hp)(e:Ext H H')(h:REq K a b H):REq K a b H':=by
 obtain ⟨q,⟨d1,h1⟩,⟨d2,h2⟩,s⟩:=h
 exact ⟨q,⟨d1,e _ _ h1⟩,⟨d2,e _ _ h2⟩,s⟩
section
variable {K:W.Frag} {E1:XK}
def qDl(ns:List Int):List D:=ns.map D.int
theorem qXp(ns:List Int):(qDl ns).length=ns.length:=Za6 ..
theorem qFr{ns:List Int}{k:Nat}{n:Int}(h:ns[k]?=some n):(qDl ns)[k]?=some (.int n):=by
 unfold qDl
 rw [Zae,h]
 rfl
theorem qAgl(ns:List Int)(n:Int):qDl ns ++ [.int n]=qDl (ns ++ [n]):=by
 unfold qDl
 rw [List.map_append]
 rfl
theorem qRr{F:Fd}{M:Addr->Prop}{H:Hp}:∀ {ns:List Int} {vs:List V},Reps K F M H (qDl ns) vs->vs=ns.map V.int
 | [],_,h=>h
 | n :: ns,_,h=>by
  obtain ⟨v,us,rfl,h1,h2⟩:=h
  rw [show v = .int n from h1,qRr h2]
  rfl
def oSum:OL:=λas P _=>∃ ns,as=[.lst (qDl ns)]/\P (.int ns.sum)
theorem qAe2:LsS K E1 (rSum K) oSum:=by
 intro F M H xs as P X Q lv ra h q x'
 obtain ⟨ns,rfl,p⟩:=h
 obtain ⟨v,rfl,r⟩:=qKx ra
 obtain ⟨a,vs,rfl,ok,e,r⟩:=r
 rw [qRr r] at e
 exact ⟨a,ns,rfl,SqL.of e,q _ _ _ p .refl rfl⟩
end
end MR
namespace MR
namespace TQ
open PySem PySem.SeqAt GQ
open AutoSeq1 (wpAny_loadPart')
open MeetsSeq MeetsSeq2 MeetsSeq3 SeqRoads2
end TQ
end MR
namespace MR
open PySem PySem.Spec PyProof.Rows L2
section
variable {X:Cx} {k:Nat} {E:XK}
def Rts(K:W.Frag)(H:Hp)(xs:List V)(qs:List Rat):Prop:=xs.length=qs.length/\∀ (i:Nat) x q,xs[i]?=some x->qs[i]?=some q->∃ p,x = .ref p/\IsRat K H p q
theorem Rts.ext{K:W.Frag}{H H':Hp}{xs:List V}{qs:List Rat}(h:Rts K H xs qs)(e:Ext H H'):Rts K H' xs qs:=⟨h.1,λi x q h1 h2=>let ⟨p,hx,dx,z⟩:=h.2 i x q h1 h2;⟨p,hx,dx,e _ _ z⟩⟩
end
end MR
namespace MR
open PySem PySem.Spec PyProof.Rows L2 LamX
section
variable {K:W.Frag} {Ta:List (Addr × Str)} {w:Wd} {ow ow' ow1 owb owx:List Nat} {H H':Hp} {σ:L2.St} {ρ:Env} {E:L2.St->XK} {N:L2.Ends} {FD:FEnds} {F:Fd} {M:Addr->Prop}
def qV9(fe:FE):FS:=λFD ρ=>fe ρ FD.rf (λx=>FD.ex x ρ)
theorem qAms{te:TE}{fe:FE}(hs:Sub owx ow)(he:SF K Ta [] E te fe):SS K Ta ow ow' owb owx E (tRet te) (qV9 fe):=by
 intro w H σ ρ N FD e h k
 refine he w H σ ρ _ _ _ (e.free (λ_ z=>nomatch z)) h (λd p o H' hd g np ho r=>k.rf d _ H' hd (e.gr.trans g) ?_) (k.px e hs)
 have n0:w.H0 p=none:=by
  cases z:w.H0 p with
  | none=>rfl
  | some u=>rw [e.gr.old p u z (e.lv.ok np).1] at np;cases np
 refine ⟨p,o,rfl,n0,(e.lv.ok np).1,ho,r.goes λq u hq _ m=>⟨hq,λz=>m ?_⟩⟩
 exact z.elim (λy => .inl (.inl y)) .inr
theorem qAci{fsp:FSp}{n:Nat}(h:∀ ds P X,fsp ds P X->ds.length=n){vs:List V}{H:Hp}{Q:VK}{E:XK}(l:qRx K fsp vs H Q E):vs.length=n:=by
 obtain ⟨F,M,ds,P,X,lv,r,hs,_⟩:=l
 rw [r.length]
 exact h ds P X hs
end
end MR
namespace MR
namespace TQ
open PySem PySem.SeqAt GQ
open AutoSeq1 (wpAny_loadPart')
open MeetsSeq MeetsSeq2 MeetsSeq3 SeqRoads2
end TQ
open PySem PySem.Spec PyProof.Rows L2
section
variable {X:Cx} {k:Nat} {E:XK}
def NumQ(K:W.Frag)(H:Hp)(x y:V)(b:Bool):Prop:=
 (∃ i j:Int,x = .int i/\y = .int j/\b=decide (i=j))\/∃ p q a c,x = .ref p/\y = .ref q/\IsRat K H p a/\IsRat K H q c/\qN3 a c/\b=decide (a=c)
theorem NumQ.ext{K:W.Frag}{H H':Hp}{x y:V}{b:Bool}(h:NumQ K H x y b)(e:Ext H H'):NumQ K H' x y b:=by
 rcases h with h | ⟨p,q,a,c,h1,h2,⟨dx,h3⟩,⟨dy,h4⟩,h5⟩
 ·exact .inl h
 ·exact .inr ⟨p,q,a,c,h1,h2,⟨dx,e _ _ h3⟩,⟨dy,e _ _ h4⟩,h5⟩
end
end MR
namespace MR
open PySem PySem.Spec PyProof.Rows L2 LamX
section
variable {K:W.Frag} {E1:XK} {F:Fd} {M:Addr->Prop} {H:Hp}
inductive NumE:D->D->Bool->Prop where
 | int (i j:Int):NumE (.int i) (.int j) (decide (i=j))
 | rat (a c:Rat) (h:qN3 a c):NumE (.rat a) (.rat c) (decide (a=c))
end
end MR
namespace MR
open PySem PySem.Spec PyProof.Rows L2
section
variable {K:W.Frag} {Ta:List (Addr × Str)} {ow:List Nat} {E:L2.St->XK} {E1:XK}
theorem Reps.reverse{F:Fd}{M:Addr->Prop}{H:Hp}:∀ {ds:List D} {vs:List V},Reps K F M H ds vs->Reps K F M H ds.reverse vs.reverse
 | [],_,h=>by rw [show _=[] from h];exact rfl
 | d :: ds,_,h=>by
  obtain ⟨v,us,rfl,h1,h2⟩:=h
  rw [List.reverse_cons,List.reverse_cons]
  exact (Reps.reverse h2).append (.one h1)
end
end MR
namespace MR
open PySem PySem.Spec PyProof.Rows L2 LamX
section
variable {K:W.Frag} {Ta:List (Addr × Str)} {ow:List Nat} {E:L2.St->XK} {E1:XK} {C m:Str} {sp:Sp} {fsp:FSp} {to:TE} {ta tk:TA} {fo:FE} {fa fk:FA}
theorem qOs{F:Fd}{M:Addr->Prop}{H:Hp}:∀ {is:List Int} {vs:List V},Reps K F M H (is.map D.int) vs->vs=is.map V.int
 | [],_,h=>h
 | i :: is,vs,h=>by
  obtain ⟨v,us,rfl,h1,h2⟩:=h
  rw [show v = .int i from h1,qOs h2]
  rfl
theorem qSu(i:Int):∀ is:List Int,L2.inV (.int i) (is.map V.int)=decide (i∈is)
 | []=>rfl
 | j :: is=>by
  have:=qSu i is
  unfold L2.inV at this ⊢
  rw [List.map_cons,List.any_cons,this]
  have e:L2.eqV (.int j) (.int i)=decide (j=i):=rfl
  rw [e]
  by_cases h:j=i
  ·subst h;simp
  ·simp [h,Ne.symm h,eq_comm]
end
mutual
def pyD:D->Option PyData
 | .non=>some .none
 | .bl b=>some (.bool b)
 | .int i=>some (.int i)
 | .str x=>some (.str x)
 | .lst ds=>(match pyDs ds with | some xs=>some (.list xs) | none=>none)
 | .tup ds=>(match pyDs ds with | some xs=>some (.tuple xs) | none=>none)
 | _=>none
def pyDs:List D->Option (List PyData)
 | []=>some []
 | d :: ds=>(match pyD d,pyDs ds with | some x,some xs=>some (x :: xs) | _,_=>none)
end
section
variable {K:W.Frag} {E1:XK} {F:Fd} {M:Addr->Prop} {H:Hp}
mutual
theorem qAeq:∀ (d:D) (v:V) (e:PyData),pyD d=some e->Rep K F M H d v->Dp K H v e
 | .non,v,e,h,r=>by cases h;rw [show v = .non from r];exact .non
 | .bl b,v,e,h,r=>by cases h;rw [show v = .bl b from r];exact .bl b
 | .int b,v,e,h,r=>by cases h;rw [show v = .int b from r];exact .int b
 | .str b,v,e,h,r=>by cases h;rw [show v = .str b from r];exact .str b
 | .lst ds,v,e,h,r=>by
  obtain ⟨p,vs,rfl,_,hp,rs⟩:=r
  simp only [pyD] at h
  cases hx:pyDs ds with
  | none=>rw [hx] at h;cases h
  | some xs=>
   rw [hx] at h
   cases h
   exact .lst (SqL.of hp) (pyDs_ok ds vs xs hx rs)
 | .tup ds,v,e,h,r=>by
  obtain ⟨p,vs,rfl,_,hp,rs⟩:=r
  simp only [pyD] at h
  cases hx:pyDs ds with
  | none=>rw [hx] at h;cases h
  | some xs=>
   rw [hx] at h
   cases h
   exact .tup (SqT.of hp) (pyDs_ok ds vs xs hx rs)
 | .rat _,_,_,h,_=>by simp [pyD] at h
 | .poly _,_,_,h,_=>by simp [pyD] at h
 | .ins _ _ _,_,_,h,_=>by simp [pyD] at h
 | .feed,_,_,h,_=>by simp [pyD] at h
 | .exc,_,_,h,_=>by simp [pyD] at h
 | .adr _,_,_,h,_=>by simp [pyD] at h
 | .scr _,_,_,h,_=>by simp [pyD] at h
 | .dct _ _,_,_,h,_=>by simp [pyD] at h
 | .exn _ _ _,_,_,h,_=>by simp [pyD] at h
theorem pyDs_ok:∀ (ds:List D) (vs:List V) (es:List PyData),pyDs ds=some es->Reps K F M H ds vs->DpAll K H vs es
 | [],vs,es,h,r=>by
  cases h
  rw [show vs=[] from r]
  exact .nil
 | d :: ds,vs,es,h,r=>by
  obtain ⟨v,us,rfl,r1,r2⟩:=r
  simp only [pyDs] at h
  cases h1:pyD d with
  | none=>rw [h1] at h;cases h
  | some x=>
   cases h2:pyDs ds with
   | none=>rw [h1,h2] at h;cases h
   | some xs=>
    rw [h1,h2] at h
    cases h
    exact .cons (qAeq d v x h1 r1) (pyDs_ok ds us xs h2 r2)
end
def oEqD:O2:=λa b P _=>∃ d e,pyD a=some d/\pyD b=some e/\SeqAt.shaped d=true/\SeqAt.shaped e=true/\P (.bl (PyData.eqv d e))
theorem qAo6:OpS K E1 (rEqD K) oEqD:=by
 intro F M H x y a b P X Q lv ra rb h q _
 obtain ⟨d,e,h1,h2,h3,h4,p⟩:=h
 exact ⟨d,e,qAeq _ _ _ h1 ra,qAeq _ _ _ h2 rb,h3,h4,q _ _ _ p .refl rfl⟩
theorem qAkq{X:Cx}{k:Nat}(hr:Room k X.A):OpR X (compareOp .Eq) (rEqD X.K):=op_eqD (by have:=hr.un;omega)
def oIxS:O2:=λa b P _=>∃ ns n v,a = .scr ns/\b = .int n/\atI ns n=some v/\P (.int v)
theorem qAk2{α β:Type}{f:α->β}{xs:List α}{n:Int}{v:α}(h:atI xs n=some v):atI (xs.map f) n=some (f v):=by
 unfold atI at h ⊢
 rw [Za6]
 cases z:ixN xs.length n with
 | none=>rw [z] at h;cases h
 | some j=>
  rw [z] at h
  show (xs.map f)[j]?=_
  rw [Zae]
  have h':xs[j]?=some v:=h
  rw [h']
  rfl
theorem qAo2:OpS K E1 (rIxL K) oIxS:=by
 intro F M H x y a b P X Q lv ra rb h q _
 obtain ⟨ns,n,v,rfl,rfl,h,p⟩:=h
 obtain ⟨a,rfl,hs⟩:=ra
 have rb':y = .int n:=rb
 subst rb'
 exact ⟨a,ns.map V.int,n, .int v,rfl,rfl,hs.sq,qAk2 h,q _ _ _ p .refl rfl⟩
def qAlj:OL:=λas P _=>∃ ns,as=[.scr ns]/\P (.int (ns.length:Nat))
theorem qAkk:LsS K E1 (qFb K) qAlj:=by
 intro F M H xs as P X Q lv ra h q x'
 obtain ⟨ns,rfl,p⟩:=h
 obtain ⟨v,rfl,r⟩:=qKx ra
 obtain ⟨a,rfl,hs⟩:=r
 exact ⟨.ref a,ns.length,rfl, .inl ⟨ns.map V.int,hs.sq,(Za6 ..).symm⟩,q _ _ _ p .refl rfl⟩
def qAfu:O2:=λa b P X=>∃ (i:Int) (is:List Int),a = .int i/\b = .lst (is.map D.int)/\P (.bl (!decide (i∈is)))
theorem qAkw:OpS K E1 (L2.rIn K true) qAfu:=by
 intro F M H x y a b P X Q lv ra rb h q _
 obtain ⟨i,is,rfl,rfl,p⟩:=h
 obtain ⟨pp,vs,rfl,ok,hp,rs⟩:=rb
 have ra':x = .int i:=ra
 subst ra'
 have hv:=qOs rs
 subst hv
 refine ⟨pp,_,rfl, .inl (SqL.of hp),rfl,by simp [List.all_map,L2.flatV], ?_⟩
 show Q (.bl (!L2.inV (.int i) (is.map V.int))) H
 rw [qSu]
 exact q _ _ H p .refl rfl
end
end MR
namespace MR
open PySem PySem.Spec PyProof.Rows L2
def qA6(cs:List Str):FSp:=λds P X=>∃ d n,ds=[d, .int n]/\(
 (∃ items qs,itD d=some items/\items≠[]/\(items.length:Int)<=n/\items.length<=100000/\qDf items=some qs/\P (.lst (qCy qs)))\/
 (∃ items pre b post,itD d=some items/\(items.length:Int)<=n/\items=pre ++ b :: post/\(∃ qs,qDf pre=some qs)/\qTw cs b=some false/\X ⟨"NoRow",[("index", .int (pre.length:Nat))]⟩)\/
 (∃ items,itD d=some items/\(items=[]\/n<(items.length:Int))/\X ⟨"NoRow",[("index", .int (-1))]⟩)\/
 (isD cs (.ty "list") d=some false/\isD cs (.ty "tuple") d=some false/\X ⟨"NoRow",[("index", .int (-1))]⟩))
def qIp(cs ms:List Rat):Nat->Rat
 | 0=>0
 | k+1=>qIp cs ms k+coef cs k*coef ms k
def shL(cs ms:List Rat):List Rat:=(Zag (ms.length - (cs.length - 1))).map λk=>qIp cs (ms.drop k) cs.length
def qFu(K:W.Frag)(cs:List Str)(E:XK):TS:=
 (tSeq (tIfS (tOr (tNot (tB (tCB (rIsiT K) (tCons (tVar 0) (tCons (tTup (tCons (tC (.ty "list")) (tCons (tC (.ty "tuple")) tNil))) tNil))))) (tOr (tNot (qAen K (tVar 0))) (tTest (tOp rGt0 (tCB (qFb K) (tCons (tVar 0) tNil)) (tVar 1))))) (qE9 (He.ga K "NoRow") "index" (λcls d _ H=>E cls d H) (tCons (tUn qM6 (tC (.int 1))) tNil)) tNext)
 (tSeq (tFor (qX3 K (tCons (tVar 0) tNil)) (gTup K 2 (gCons (gName 2) (gCons (gName 3) gNil))) (tIfS (tNot (tB (tCall (lift K (qHc cs)) [] E0 (tCons (tVar 3) tNil)))) (qE9 (He.ga K "NoRow") "index" (λcls d _ H=>E cls d H) (tCons (tVar 2) tNil)) tNext))
 (tRet (tLc (iSeq K (tVar 0)) (gName 3) tYes (tCall (lift K (qFk cs)) [] E0 (tCons (tVar 3) (tCons (tC (.str "row")) tNil))) [3]))))
def qDt(cs:List Str):FS:=
 (qBf (qGz (fOr (qMa (fB (qZz cs (qAd 0)))) (fOr (qMa (fTru (qAd 0))) (fB (fOp oGt (fLs qH8 (qAc (qAd 0) qAl)) (qAd 1))))) (qHd "NoRow" "index" (fUn qZf (fC (.int 1)))) qC6)
 (qBf (qIk (fEn (qAc (qAd 0) qAl)) (qSz [2,3]) (qGz (qMa (fB (qAs (qHc cs) [] (qAc (qAd 3) qAl)))) (qHd "NoRow" "index" (qAd 2)) qC6))
 (qEz (fLc (fIt (qAd 0)) (qB1 3) qMd (qAs (qFk cs) [] (qAc (qAd 3) (qAc (fC (.str "row")) qAl))) [3]))))
theorem qWa{K:W.Frag}{cs:List Str}(T:KF K cs)(hRa:("Ratio":Str)∈cs)(E:XK):SS K Ta [] [] [] [] (λ_=>E) (qFu K cs E) (qDt cs):=
 (qAi (ow1:=[]) (qEd (by decide) (qNo (qFc (qL1 (qAbi T.toKT (qAa (by decide))))) (qNo (qFc (qYm (qAa (by decide)))) (qCl (qAf (λ_=>qAdt) (qB7 (λ_=>qD0) (qAb (qAa (by decide)) qAe)) (qAa (by decide)))))) (qHw (by decide) (qRt (λ_=>qNl) qAg)) (qBd (by decide)))
 (qAi (ow1:=[]) (qG2 (by decide) (qApa (qAb (qAa (by decide)) qAe)) (qAct rfl (qHt (by decide) (qHt (by decide) qU6))) (qEd (by decide) (qFc (qL1 (qAr Lift.refl qAn (qAb (qAa (by decide)) qAe)))) (qHw (by decide) (qAa (by decide))) (qBd (by decide))))
 (qBa (by decide) (SF.se (qOm (by decide) (by decide) (qAjg (qAa (by decide))) (qCr (by decide)) qJs (qAr Lift.refl qAn (qAb (qAa (by decide)) (qAb qXl qAe))))))))
theorem qK0{cs:List Str}{d:D}{items:List D}(h:itD d=some items):∃ b b',isD cs (.ty "list") d=some b/\isD cs (.ty "tuple") d=some b'/\(b || b')=true:=by
 rcases qJz h with rfl | rfl
 ·exact ⟨true,false,by simp [isD,tyN,subN],by simp [isD,tyN,subN],rfl⟩
 ·exact ⟨false,true,by simp [isD,tyN,subN],by simp [isD,tyN,subN],rfl⟩
abbrev rowB(cs:List Str):FS:=qGz (qMa (fB (qAs (qHc cs) [] (qAc (qAd 3) qAl)))) (qHd "NoRow" "index" (qAd 2)) qC6
theorem qH0{cs:List Str}{FD:FEnds}{d n:D}(hR:("Ratio":Str)∈cs) :
  ∀ (items:List D) (k:Nat) (v2 v3:Option D),((∃ qs,qDf items=some qs)/\∀ v2 v3,FD.nx [some d,some n,v2,v3])\/(∃ pre b post,items=pre ++ b :: post/\(∃ qs,qDf pre=some qs)/\qTw cs b=some false/\∀ ρ,FD.ex ⟨"NoRow",[("index", .int ((k+pre.length:Nat):Int))]⟩ ρ)->qDk (qSz [2,3]) (rowB cs) FD (enD items k) [some d,some n,v2,v3]
 | [],k,v2,v3,h=>by
  rcases h with ⟨_,h⟩ | ⟨pre,b,post,h,_⟩
  ·exact h v2 v3
  ·cases pre <;> cases h
 | e :: items,k,v2,v3,h=>by
  rw [qAj3]
  unfold qDk
  simp_arith []
  rcases h with ⟨⟨qs,hq⟩,h⟩ | ⟨pre,b',post,h,⟨qs,hq⟩,hn,hx⟩
  ·have hv:∃ q,numV e=some q/\∃ qs,qDf items=some qs:=by
    simp only [qDf] at hq
    split at hq
    ·rename_i q' qs' h1 h2;exact ⟨_,h1,_,h2⟩
    ·cases hq
   obtain ⟨q,hv,qs',hqs⟩:=hv
   refine ⟨e,true,rfl,qMp hR hv, ?_⟩
   simp_arith [Bool.not_true]
   exact qH0 hR items _ _ _ (.inl ⟨⟨qs',hqs⟩,h⟩)
  ·cases pre with
   | nil=>
    simp only [List.nil_append,List.cons.injEq] at h
    obtain ⟨rfl,rfl⟩:=h
    refine ⟨e,false,rfl,hn, ?_⟩
    simp_arith [Bool.not_false]
    exact hx _
   | cons e' pre=>
    simp only [List.cons_append,List.cons.injEq] at h
    obtain ⟨rfl,rfl⟩:=h
    have hv:∃ q,numV e=some q/\∃ qs,qDf pre=some qs:=by
     simp only [qDf] at hq
     split at hq
     ·rename_i q' qs' h1 h2;exact ⟨_,h1,_,h2⟩
     ·cases hq
    obtain ⟨q,hv,qs',hqs⟩:=hv
    refine ⟨e,true,rfl,qMp hR hv, ?_⟩
    simp_arith [Bool.not_true]
    refine qH0 hR _ _ _ _ (.inr ⟨pre,b',post,rfl,⟨qs',hqs⟩,hn,λρ => ?_⟩)
    have z:=hx ρ
    rw [Za0] at z
    rw [show k+1+pre.length=k+(pre.length+1) by omega]
    exact z
theorem qVx{cs:List Str}(hR:("Ratio":Str)∈cs)(ds:List D)(P:D->Prop)(X:XP)(h:qA6 cs ds P X):qDt cs (qF9 P X) (qBb 4 ds):=by
 obtain ⟨d,n,rfl,h⟩:=h
 have good:∀ items,itD d=some items->items≠[]->(items.length:Int)<=n->items.length<=100000->((∃ qs,qDf items=some qs/\P (.lst (qCy qs)))\/(∃ pre b post,items=pre ++ b :: post/\(∃ qs,qDf pre=some qs)/\qTw cs b=some false/\X ⟨"NoRow",[("index", .int (pre.length:Nat))]⟩))->qDt cs (qF9 P X) (qBb 4 [d, .int n]):=λitems hi he hn hl h=>by
  obtain ⟨b,b',h1,h2,h3⟩:=qK0 (cs:=cs) hi
  have em:items.isEmpty=false:=by cases items with | nil=>exact absurd rfl he | cons a l=>rfl
  have dn:decide (n<(items.length:Int))=false:=decide_eq_false (by omega)
  simp_arith [qDt,qIk,fEn,itEx hi,qO7 hi,qKn hi]
  refine ⟨b,b',h1,h2, ?_⟩
  rw [h3]
  simp_arith [em,Bool.not_true,Bool.not_false,dn]
  refine qH0 hR items 0 none none ?_
  rcases h with ⟨qs,hq,hp⟩ | ⟨pre,bb,post,h,hq,hb,hX⟩
  ·refine .inl ⟨⟨qs,hq⟩,λv2 v3 => ?_⟩
   simp_arith [fLc,itEx hi]
   exact qAcx hR (by simp [qIa]) hq hl hp
  ·exact .inr ⟨pre,bb,post,h,hq,hb,λρ=>by rw [Nat.zero_add];exact hX⟩
 rcases h with ⟨items,qs,hi,he,hn,hl,hq,hp⟩ | ⟨items,pre,b,post,hi,hn,h1,h2,h3,h4⟩ | ⟨items,hi,he,h4⟩ | ⟨h1,h2,h3⟩
 ·exact good items hi he hn hl (.inl ⟨qs,hq,hp⟩)
 ·by_cases hl:items.length<=100000
  ·exact good items hi (by rw [h1];simp) hn hl (.inr ⟨pre,b,post,h1,h2,h3,h4⟩)
  ·obtain ⟨b0,b',k1,k2,k3⟩:=qK0 (cs:=cs) hi
   have em:items.isEmpty=false:=by cases items with | nil=>simp at hl | cons a l=>rfl
   have dn:decide (n<(items.length:Int))=false:=decide_eq_false (by omega)
   simp_arith [qDt,qIk,fEn,itEx hi,qO7 hi,qKn hi]
   refine ⟨b0,b',k1,k2, ?_⟩
   rw [k3]
   simp_arith [em,Bool.not_true,Bool.not_false,dn]
   exact qH0 hR items 0 none none (.inr ⟨pre,b,post,h1,h2,h3,λρ=>by rw [Nat.zero_add];exact h4⟩)
 ·obtain ⟨b,b',h1,h2,h3⟩:=qK0 (cs:=cs) hi
  simp_arith [qDt,qO7 hi,qKn hi]
  refine ⟨b,b',h1,h2, ?_⟩
  rw [h3]
  simp_arith [Bool.not_true]
  by_cases e:items=[]
  ·subst e
   simp_arith [List.isEmpty_nil,Bool.not_true,Bool.not_false]
   exact h4
  ·have em:items.isEmpty=false:=by cases items with | nil=>exact absurd rfl e | cons a l=>rfl
   have dn:decide (n<(items.length:Int))=true:=decide_eq_true (by rcases he with he | he;exact absurd he e;exact he)
   simp_arith [em,Bool.not_true,Bool.not_false,dn]
   exact h4
 ·simp_arith [qDt]
  refine ⟨false,false,h1,h2, ?_⟩
  simp_arith [Bool.not_false,Bool.or_false]
  exact h3
theorem qX7{α:Type}(xs:List α)(k:Nat):cutD xs (some (k:Int)) none=xs.drop k:=by
 unfold cutD
 rw [HT.sIx_none,HT.sIx_nat]
 rw [List.take_of_length_le (by rw [List.length_drop];omega)]
 rw [Nat.min_def]
 split
 ·rfl
 ·rename_i h
  rw [List.drop_of_length_le (Za9 _),List.drop_of_length_le (by omega)]
theorem qQj{K:W.Frag}{cs:List Str}(vs:List V)(H:Hp)(Q:VK)(E:XK)(h:(lift K (qA6 cs)) vs H Q E):vs.length=2:=qA0 (λds P X h=>by unfold qA6 at h;first | ((repeat (first | (obtain ⟨rfl,_⟩:=h;exact rfl) | obtain ⟨_,h⟩:=h));done) | (split at h <;> first | rfl | exact h.elim)) h
theorem qR0{K:W.Frag}{cs:List Str}(T:KF K cs)(hRa:("Ratio":Str)∈cs)(vs:List V)(H:Hp)(Q:VK)(E:XK)(h:(lift K (qA6 cs)) vs H Q E):qFu K cs E { nx:=λ_ H'=>Q .non H',rt:=Q } (start ["row","limit","index","item"] vs) H:=
 qAcm (t:=λE=>qFu K cs E) rfl (qWa T hRa) (qVx hRa) vs H Q E h
def addP(p q:Int × Int):Int × Int:=if p.1=0 then q else if q.1=0 then p else if p.2=q.2 then (p.1+q.1,p.2) else (p.1*q.2+q.1*p.2,p.2*q.2)
def mulP(p q:Int × Int):Int × Int:=(p.1*q.1,p.2*q.2)
structure SzP (n:Nat) (p:Int × Int):Prop where
 a:p.1.natAbs<2 ^ n
 b:p.2.natAbs<2 ^ n
 pos:0<p.2
def qCs(p:Int × Int):Rat:=Za4 p.1 p.2
def qF8(cs:List Str):FS:=
 (qEz (qNe (qQk cs (.ty "int") (qAd 0)) (qUr (qQk cs (.ty "bool") (qAd 0)))))
theorem qKq{cs:List Str}(hR:("Ratio":Str)∈cs)(ds:List D)(P:D->Prop)(X:XP)(h:qD3 cs ds P X):qF8 cs (qF9 P X0) (qBb 1 ds):=by
 obtain ⟨d,b,rfl,hb,p⟩:=h
 simp_arith [qF8]
 unfold intD at hb
 cases h1:isD cs (.ty "int") d with
 | none=>rw [h1] at hb;cases hb
 | some k=>
  rw [h1] at hb
  refine ⟨k,rfl, ?_⟩
  cases k with
  | false=>cases hb;exact p
  | true=>
   cases h2:isD cs (.ty "bool") d with
   | none=>rw [h2] at hb;cases hb
   | some k2=>
    rw [h2] at hb
    have:(!k2)=b:=Option.some.inj hb
    subst this
    exact ⟨k2,rfl,p⟩
theorem qKs{i j:Int}{n m:Nat}(hi:i.natAbs<2 ^ n)(hj:j.natAbs<2 ^ m)(hs:n+m<=900000):IntMulOk i j:=by
 refine qAju (a:=n+1) (b:=m+1) (Zam hi (Zaa (by decide) (by omega))) (Zam hj (Zaa (by decide) (by omega))) (by omega) (by omega) (by omega)
theorem p2{a:Int}{n:Nat}(h:a.natAbs<2 ^ n)(hn:n<=900000):Sml a:=trivial
theorem SzP.mono{n m:Nat}{p:Int × Int}(h:SzP n p)(hn:n<=m):SzP m p:=⟨Zam h.a (Zaa (by decide) hn),Zam h.b (Zaa (by decide) hn),h.pos⟩
theorem qIy{i j:Int}{n m:Nat}(h1:i.natAbs<2 ^ n)(h2:j.natAbs<2 ^ m):(i*j).natAbs<2 ^ (n+m):=by
 rw [Zao]
 exact qKl h1 h2
theorem qAe6{n:Nat}{p:Int × Int}(h:SzP n p):Sz n (qCs p):=qG3 (Int.ne_of_gt h.pos) h.a h.b
theorem qXm(cs:List Rat):(strip cs).length<=cs.length:=by
 rw [qFa]
 exact qT1 _ _
theorem qSs{n:Nat}{cs:List Rat}(h:SzL n cs):SzL n (strip cs):=λc hc=>h c (List.mem_of_mem_take hc)
def getP(ps:List (Int × Int))(k:Nat):Int × Int:=ps.getD k (0,1)
theorem qAgy{ps:List (Int × Int)}{k:Nat}(h:k<ps.length):ps[k]?=some (getP ps k):=by
 unfold getP
 rw [Zak,Za3 h]
 rfl
theorem qYb{ps:List (Int × Int)}{k:Nat}(h:k<ps.length):getP ps k∈ps:=List.mem_of_getElem? (qAgy h)
def prC(ps qs:List (Int × Int)):Nat->Nat->Int × Int
 | 0,_=>(0,1)
 | i+1,k=>if i<=k/\k<i+qs.length then addP (prC ps qs i k) (mulP (getP ps i) (getP qs (k - i))) else prC ps qs i k
structure SumS (ps qs:List (Int × Int)) (S:Nat->Int × Int->Prop):Prop where
 zero:S 0 (0,1)
 mono:∀ c r,S c r->S (c+1) r
 step:∀ c r p q,c<qs.length->S c r->p∈ps->q∈qs->(∃ n m,SzP n p/\SzP m q/\n+m<=900000)/\(∃ n m,SzP n r/\SzP m (mulP p q)/\n+m<=900000)/\S (c+1) (addP r (mulP p q))
section
variable {ps qs:List (Int × Int)} {S:Nat->Int × Int->Prop}
def cntC(m i k:Nat):Nat:=min i (k+1) - min i (k+1 - m)
theorem SumS.le(h:SumS ps qs S){c d:Nat}(hc:c<=d){r:Int × Int}(hr:S c r):S d r:=by
 obtain ⟨e,rfl⟩:=Nat.exists_eq_add_of_le hc
 induction e with
 | zero=>exact hr
 | succ e ih=>exact h.mono _ _ (ih (by omega))
theorem SumS.cell(h:SumS ps qs S):∀ i k,i<=ps.length->S (cntC qs.length i k) (prC ps qs i k)
 | 0,k,_=>h.le (Nat.zero_le _) h.zero
 | i+1,k,hi=>by
  have ih:=h.cell i k (by omega)
  unfold prC
  by_cases hc:i<=k/\k<i+qs.length
  ·rw [if_pos hc]
   have e:cntC qs.length (i+1) k=cntC qs.length i k+1:=by unfold cntC;omega
   rw [e]
   have hlt:cntC qs.length i k<qs.length:=by unfold cntC;omega
   exact (h.step _ _ _ _ hlt ih (qYb (by omega)) (qYb (by omega))).2.2
  ·rw [if_neg hc]
   refine h.le ?_ ih
   unfold cntC;omega
end
structure SzQ (m:Nat) (p:Int × Int):Prop where
 a:p.1.natAbs<2 ^ m
 b:p.2.natAbs<2 ^ m
 ne:p.2≠0
theorem SzP.q{m:Nat}{p:Int × Int}(h:SzP m p):SzQ m p:=⟨h.a,h.b,Int.ne_of_gt h.pos⟩
def optV:D->Option (Option Rat)
 | .non=>some none
 | .rat q=>some (some q)
 | .int n=>some (some (n:Rat))
 | _=>none
def optD:Option Rat->D
 | none => .non
 | some q => .rat q
def qAib(a b:Option Rat):D := .ins "Place" ["low","high"] [optD a,optD b]
def SzO(n:Nat):Option Rat->Prop
 | none=>True
 | some q=>Sz n q
end MR
namespace MR
def shf(s:Rat)(f:Nat->Rat)(i:Nat):Rat:=f (i+1)+s*f i
def itr(s:Rat):Nat->(Nat->Rat)->Nat->Rat
 | 0,f=>f
 | k+1,f=>shf s (itr s k f)
theorem qJ8{s:Rat}{f g:Nat->Rat}{n:Nat}(h:∀ i,i<n->f i=g i):∀ k i,i+k<n->itr s k f i=itr s k g i
 | 0,i,hi=>h i hi
 | k+1,i,hi=>by
  show itr s k f (i+1)+s*itr s k f i=itr s k g (i+1)+s*itr s k g i
  rw [qJ8 h k (i+1) (by omega),qJ8 h k i (by omega)]
def qLq(s:Rat)(as:List Rat):List Rat:=(Zag as.length).map λk=>itr s k (coef as) 0
theorem qO1(s:Rat)(as:List Rat):(qLq s as).length=as.length:=by simp [qLq]
theorem qAar{s:Rat}{as:List Rat}{k:Nat}(h:k<as.length):coef (qLq s as) k=itr s k (coef as) 0:=by
 unfold qLq
 rw [qCp,if_pos h]
theorem qCj{cs:List Rat}{n:Nat}(hl:cs.length=n+1)(h:coef cs n≠0):strip cs=cs:=by
 unfold strip
 have:szN (coef cs) cs.length=n+1:=by
  rw [hl]
  unfold szN
  rw [if_neg h]
 rw [this,List.take_of_length_le (by omega)]
def Ov(N:Nat)(d:Int)(q:Rat):Prop:=∃ a:Int,q*(d:Rat)=(a:Rat)/\a.natAbs<=N
theorem Ov.mono{N M:Nat}{d:Int}{q:Rat}(h:Ov N d q)(hn:N<=M):Ov M d q:=let ⟨a,h1,h2⟩:=h;⟨a,h1,by omega⟩
theorem Ov.div{N:Nat}{d:Int}{q:Rat}(h:Ov N d q)(hd:0<d):∃ a:Int,q=Za4 a d/\a.natAbs<=N:=by
 obtain ⟨a,h1,h2⟩:=h
 refine ⟨a, ?_,h2⟩
 have:(d:Rat)≠0:=λz=>by
  have:=Rat.intCast_inj.mp (z.trans Rat.intCast_zero.symm)
  omega
 rw [Za8, ←h1]
 grind
theorem Ov.sz{N n m:Nat}{d:Int}{q:Rat}(h:Ov N d q)(hd:0<d)(hN:N<2 ^ n)(hm:d.natAbs<2 ^ m):Sz (max n m) q:=by
 obtain ⟨a,rfl,h2⟩:=h.div hd
 have h1:2 ^ n<=2 ^ max n m:=Zaa (by decide) (Nat.le_max_left ..)
 have h3:2 ^ m<=2 ^ max n m:=Zaa (by decide) (Nat.le_max_right ..)
 exact qG3 (by omega) (by omega) (by omega)
theorem Ov.add{N M:Nat}{d:Int}{q r:Rat}(h1:Ov N d q)(h2:Ov M d r):Ov (N+M) d (q+r):=by
 obtain ⟨a,e1,b1⟩:=h1
 obtain ⟨b,e2,b2⟩:=h2
 exact ⟨a+b,by rw [Rat.intCast_add, ←e1, ←e2];grind,by omega⟩
theorem Ov.mul{N M:Nat}{d e:Int}{q r:Rat}(h1:Ov N d q)(h2:Ov M e r):Ov (N*M) (d*e) (q*r):=by
 obtain ⟨a,e1,b1⟩:=h1
 obtain ⟨b,e2,b2⟩:=h2
 exact ⟨a*b,by rw [Za7,Za7, ←e1, ←e2];grind,by rw [Zao];exact Nat.mul_le_mul b1 b2⟩
theorem Ov.lift{N:Nat}{d:Int}{q:Rat}(h:Ov N d q)(e:Int):Ov (N*e.natAbs) (d*e) q:=by
 obtain ⟨a,e1,b1⟩:=h
 exact ⟨a*e,by rw [Za7,Za7, ←e1];grind,by rw [Zao];exact Nat.mul_le_mul_right _ b1⟩
theorem Ov.neg{N:Nat}{d:Int}{q:Rat}(h:Ov N d q):Ov N d (-q):=by
 obtain ⟨a,e1,b1⟩:=h
 exact ⟨-a,by rw [Rat.intCast_neg, ←e1];grind,by omega⟩
theorem Ov.of{a b:Int}(hb:b≠0):Ov a.natAbs b (Za4 a b):=by
 refine ⟨a, ?_,Za9 _⟩
 have:(b:Rat)≠0:=λz=>hb (Rat.intCast_inj.mp (z.trans Rat.intCast_zero.symm))
 rw [Za8]
 grind
theorem Ov.zero{d:Int}{N:Nat}:Ov N d 0:=⟨0,by rw [Za2];rfl,Nat.zero_le _⟩
theorem Ov.int(a:Int):Ov a.natAbs 1 (a:Rat):=⟨a,by rw [Rat.intCast_one,Rat.mul_one],Za9 _⟩
def botP:List (Int × Int)->Int
 | []=>1
 | p :: ps=>p.2*botP ps
theorem qW8{T:Nat}:∀ {ps:List (Int × Int)},(∀ p,p∈ps->0<p.2/\p.2.natAbs<=T)->0<botP ps/\(botP ps).natAbs<=T ^ ps.length
 | [],_=>by simp [botP]
 | p :: ps,h=>by
  obtain ⟨h1,h2⟩:=qW8 λq hq=>h q (Zab _ hq)
  obtain ⟨h3,h4⟩:=h p (Zad ..)
  refine ⟨Int.mul_pos h3 h1, ?_⟩
  show (p.2*botP ps).natAbs<=_
  rw [Zao,Za0,Nat.pow_succ,Nat.mul_comm]
  exact Nat.mul_le_mul h2 h4
theorem qAcq{T M:Nat}(hT:0<T):∀ {ps:List (Int × Int)},(∀ p,p∈ps->0<p.2/\p.2.natAbs<=T/\p.1.natAbs<=M)->∀ p,p∈ps->Ov (M*T ^ ps.length) (botP ps) (Za4 p.1 p.2)
 | [],_,p,hp=>by cases hp
 | q :: ps,h,p,hp=>by
  have hq:=h q (Zad ..)
  obtain ⟨h1,h2⟩:=qW8 (T:=T) (ps:=ps) λq hq=>⟨(h q (Zab _ hq)).1,(h q (Zab _ hq)).2.1⟩
  rcases List.mem_cons.mp hp with rfl | hp
  ·refine ((Ov.of (a:=p.1) (b:=p.2) (by omega)).lift (botP ps)).mono ?_
   rw [Za0]
   exact Zaf (Nat.mul_le_mul hq.2.2 h2) (Nat.mul_le_mul_left _ (Zaa hT (by omega)))
  ·have:=(qAcq hT (ps:=ps) (λq hq=>h q (Zab _ hq)) p hp).lift q.2
   rw [Int.mul_comm] at this
   refine this.mono ?_
   rw [Za0,Nat.pow_succ, ←Nat.mul_assoc]
   exact Nat.mul_le_mul_left _ hq.2.1
end MR
namespace MR
open PySem PySem.Spec PyProof.Rows L2
def qAo:Option Rat->Option Rat->List (List Rat)
 | none,_=>[[1]]
 | some x,none=>[[1],[-x,1]]
 | some x,some y=>[[1],[-x,1],[y, -1],[-(x*y),x+y, -1]]
def Pl16(a b:Option Rat):Prop:=(a=none->b=none)/\SzO 400 a/\SzO 400 b
theorem qVw{α:Type}{g:FG}{fe:FE}{ρ0:Env}{P:D->Prop}(mk f:α->D):∀ (xs:List α) (acc:List D),(∀ x,x∈xs->∀ Q:D->Prop,Q (f x)->g (mk x) ρ0 λρ2=>fe ρ2 Q X0)->acc.length+xs.length<sizeLine->P (.lst (acc ++ xs.map f))->qUj g qMd fe ρ0 P (xs.map mk) acc
 | [],acc,_,_,p=>by
  rw [List.map_nil,List.append_nil] at p
  exact p
 | x :: xs,acc,h,hl,p=>by
  rw [List.map_cons]
  unfold qUj
  have h1:=h x Zad
  show g (mk x) ρ0 λρ2=>qMd ρ2 (λb=>if b=true then fe ρ2 (λy=>acc.length<sizeLine/\qUj g qMd fe ρ0 P (xs.map mk) (acc ++ [y])) X0 else qUj g qMd fe ρ0 P (xs.map mk) acc) X0
  have:=h1 (λy=>acc.length<sizeLine/\qUj g qMd fe ρ0 P (xs.map mk) (acc ++ [y])) ⟨by simp at hl;omega,qVw mk f xs (acc ++ [f x]) (λy hy=>h y (Zab _ hy)) (by simp at hl ⊢;omega) (by simpa using p)⟩
  exact this
abbrev prT(p:Int × Int):D := .tup [.int p.1, .int p.2]
def qEg(ps:List (Int × Int)):List D:=ps.map prT
theorem qEl(ps:List (Int × Int)):(qEg ps).length=ps.length:=Za6 ..
def qOd:FSp:=λds P _=>∃ (ns:List Int) (k:Int),ds=[.scr ns, .int k]/\0<=k/\∀ v:Int,P (.int v)
def InR(b:Int)(ns:List Int):Prop:=∀ n,n∈ns->0<=n/\n<b
def qMn:FSp:=λds P _=>∃ c m b:Int,ds=[.int c, .int m, .int b]/\0<=m/\m<=1000/\0<b/\∀ ns:List Int,ns.length=m.toNat->InR b ns->P (.lst (qDl ns))
structure Scene where
 shape:Int
 low:Int
 high:Int
 bottom:Int
 tops:List Int
 parts:List Int
 under:Int
structure Scene.Ok (s:Scene) (most:Nat):Prop where
 sh:s.shape=0\/s.shape=1\/s.shape=2
 lh:s.low<s.high
 lo : -1000000<=s.low
 hi:s.high<=3000001
 b0:0<s.bottom
 b1:s.bottom<=1000
 len:s.tops.length=s.parts.length
 most:s.tops.length<=most
 nd:s.tops.Nodup
 top:∀ t,t∈s.tops->s.low<=t/\t<=3000001/\(s.shape=2->t<=s.high)
 part:∀ w,w∈s.parts->0<w/\w<=1000000
 u0:0<s.under
 u1:s.under<=4000
theorem qPp{a b:Int}(h:0<b):0<=a.fmod b/\a.fmod b<b:=⟨Int.fmod_nonneg_of_pos a h,Int.fmod_lt_of_pos a h⟩
theorem fd_r{a b:Int}(h0:0<=a)(h:0<b):0<=a.fdiv b/\a.fdiv b<=a:=by
 rw [Int.fdiv_eq_ediv_of_nonneg a (by omega)]
 exact ⟨Int.ediv_nonneg h0 (by omega),Int.ediv_le_self b h0⟩
theorem qId{i j:Int}(h : -(2 ^ 64)<j)(h':j<2 ^ 64):IntMulOk i j:=L2.CMul.ok (.inr ⟨h,h'⟩)
theorem qAi1{i j:Int}(h : -(2 ^ 64)<i)(h':i<2 ^ 64):IntMulOk i j:=L2.CMul.ok (.inl ⟨h,h'⟩)
theorem qFd{ns:List Int}{b:Int}{i:Nat}{P:D->Prop}{X:XP}(hr:InR b ns)(hi:i<ns.length)(k:∀ n:Int,0<=n->n<b->P (.int n)):oIx (.lst (qDl ns)) (.int (i:Nat)) P X:=by
 refine qDy rfl (qFr (Za3 hi)) ?_
 obtain ⟨h1,h2⟩:=hr _ (List.getElem_mem hi)
 exact k _ h1 h2
def qKt(K:W.Frag)(cs:List Str):TS:=
 (tSeq (tIfS (tTest (tOp rLt0 (tVar 1) (tCB (qFb K) (tCons (tVar 0) tNil)))) (tRet (tCB qFm (tCons (tOp (rIxL K) (tVar 0) (tVar 1)) tNil))) tNext)
 (tRet (tC (.int 0))))
def qNt(cs:List Str):FS:=
 (qBf (qGz (fB (fOp oLt (qAd 1) (fLs qAlj (qAc (qAd 0) qAl)))) (qEz (fLs qE8 (qAc (fOp oIxS (qAd 0) (qAd 1)) qAl))) qC6)
 (qEz (fC (.int 0))))
theorem qAb8{K:W.Frag}{cs:List Str}(T:KF K cs)(hRa:("Ratio":Str)∈cs):SS K Ta [] [] [] [] (λ_=>E0) (qKt K cs) (qNt cs):=
 (qAi (ow1:=[]) (qEd (by decide) (qCl (qAf (λ_=>qAmm) (qAa (by decide)) (qB7 (λ_=>qAkk) (qAb (qAa (by decide)) qAe)))) (qBa (by decide) (qB7 (λ_=>qDn) (qAb (qAf (λ_=>qAo2) (qAa (by decide)) (qAa (by decide))) qAe))) (qBd (by decide)))
 (qBa (by decide) qAg))
def qKy(K:W.Frag)(cs:List Str):TS:=
 (tSeq (tAsg (tLst tNil) (gName 3))
 (tSeq (tAsg (tC (.int 0)) (gName 4))
 (tSeq (tIfS (tTest (tOp rGe0 (tVar 0) (tOp qVo (tC (.int 10)) (tC (.int 18))))) (tAsg (tVar 0) (gName 4)) tNext)
 (tSeq (tFor (iRng1 (tCons (tVar 1) tNil)) (gName 5) (tIfS (tTest (tOp rGt0 (tVar 4) (tC (.int 0)))) (tSeq (tDrop (tBM K "list" rAppend (tVar 3) (tCons (tOp qFn (tCB qFm (tCons (tVar 4) tNil)) (tVar 2)) tNil)))
 (tAsg (tOp qSk (tVar 4) (tVar 2)) (gName 4))) (tSeq (tAsg (tOp qFn (tCB qFm (tCons (tOp qCg (tOp qEc (tOp qEc (tVar 0) (tOp qCg (tC (.int 7919)) (tVar 5))) (tC (.int 1))) (tC (.int 48271))) tNil)) (tC (.int 2147483647))) (gName 6))
 (tSeq (tAsg (tOp qFn (tCB qFm (tCons (tOp qCg (tVar 6) (tOp qEc (tOp qSk (tVar 6) (tC (.int 1009))) (tC (.int 69621)))) tNil)) (tC (.int 2147483647))) (gName 6))
 (tSeq (tAsg (tOp qFn (tCB qFm (tCons (tOp qCg (tVar 6) (tOp qEc (tOp qSk (tVar 6) (tC (.int 2003))) (tC (.int 40692)))) tNil)) (tC (.int 2147483399))) (gName 6))
 (tDrop (tBM K "list" rAppend (tVar 3) (tCons (tOp qFn (tCB qFm (tCons (tVar 6) tNil)) (tVar 2)) tNil))))))))
 (tRet (tVar 3))))))
def qM1(cs:List Str):FS:=
 (qBf (qZ7 3 (qKd qAl))
 (qBf (qDo 4 (fC (.int 0)))
 (qBf (qGz (fB (fOp oGe (qAd 0) (fOp oPow (fC (.int 10)) (fC (.int 18))))) (qDo 4 (qAd 0)) qC6)
 (qBf (qIk (qDq (qAc (qAd 1) qAl)) (qB1 5) (qGz (fB (fOp oGt (qAd 4) (fC (.int 0)))) (qBf (qPc 3 (fOp qFv (fLs qE8 (qAc (qAd 4) qAl)) (qAd 2)))
 (qDo 4 (fOp oDiv (qAd 4) (qAd 2)))) (qBf (qDo 6 (fOp qFv (fLs qE8 (qAc (fOp qDa (fOp qDs (fOp qDs (qAd 0) (fOp qDa (fC (.int 7919)) (qAd 5))) (fC (.int 1))) (fC (.int 48271))) qAl)) (fC (.int 2147483647))))
 (qBf (qDo 6 (fOp qFv (fLs qE8 (qAc (fOp qDa (qAd 6) (fOp qDs (fOp oDiv (qAd 6) (fC (.int 1009))) (fC (.int 69621)))) qAl)) (fC (.int 2147483647))))
 (qBf (qDo 6 (fOp qFv (fLs qE8 (qAc (fOp qDa (qAd 6) (fOp qDs (fOp oDiv (qAd 6) (fC (.int 2003))) (fC (.int 40692)))) qAl)) (fC (.int 2147483399))))
 (qPc 3 (fOp qFv (fLs qE8 (qAc (qAd 6) qAl)) (qAd 2))))))))
 (qEz (qAd 3))))))
theorem qAcf{K:W.Frag}{cs:List Str}(T:KF K cs)(hRa:("Ratio":Str)∈cs):SS K Ta [] [] [] [] (λ_=>E0) (qKy K cs) (qM1 cs):=
 (qAi (ow1:=[3]) (qLp (by decide) (by decide) (qM5 qAe))
 (qAi (ow1:=[3]) (qBe (by decide) (by decide) qAg)
 (qAi (ow1:=[3]) (qEd (by decide) (qCl (qAf (λ_=>qAqj) (qAa (by decide)) (qAf (λ_=>qO3) qAg qAg))) (qBe (by decide) (by decide) (qAa (by decide))) (qBd (by decide)))
 (qAi (ow1:=[3]) (qG2 (by decide) (qEt (qAb (qAa (by decide)) qAe)) (qCr (by decide)) (qEd (by decide) (qCl (qAf (λ_=>qAdt) (qAa (by decide)) qAg)) (qAi (ow1:=[3]) (qLg (by decide) (by decide) (qAf (λ_=>qDv) (qB7 (λ_=>qDn) (qAb (qAa (by decide)) qAe)) (qAa (by decide))))
 (qBe (by decide) (by decide) (qAf (λ_=>qAcp) (qAa (by decide)) (qAa (by decide))))) (qAi (ow1:=[3]) (qBe (by decide) (by decide) (qAf (λ_=>qDv) (qB7 (λ_=>qDn) (qAb (qAf (λ_=>qA9) (qAf (λ_=>qCf) (qAf (λ_=>qCf) (qAa (by decide)) (qAf (λ_=>qA9) qAg (qAa (by decide)))) qAg) qAg) qAe)) qAg))
 (qAi (ow1:=[3]) (qBe (by decide) (by decide) (qAf (λ_=>qDv) (qB7 (λ_=>qDn) (qAb (qAf (λ_=>qA9) (qAa (by decide)) (qAf (λ_=>qCf) (qAf (λ_=>qAcp) (qAa (by decide)) qAg) qAg)) qAe)) qAg))
 (qAi (ow1:=[3]) (qBe (by decide) (by decide) (qAf (λ_=>qDv) (qB7 (λ_=>qDn) (qAb (qAf (λ_=>qA9) (qAa (by decide)) (qAf (λ_=>qCf) (qAf (λ_=>qAcp) (qAa (by decide)) qAg) qAg)) qAe)) qAg))
 (qLg (by decide) (by decide) (qAf (λ_=>qDv) (qB7 (λ_=>qDn) (qAb (qAa (by decide)) qAe)) (qAa (by decide)))))))))
 (qIw (ow1:=[]) (by decide) (qBa (by decide) (qAa (by decide))))))))
theorem qAcb{cs:List Str}(hR:("Ratio":Str)∈cs)(ds:List D)(P:D->Prop)(X:XP)(h:qOd ds P X):qNt cs (qF9 P X0) (qBb 2 ds):=by
 obtain ⟨ns,k,rfl,k0,p⟩:=h
 obtain ⟨j,rfl⟩:∃ j:Nat,k=(j:Int):=⟨k.toNat,by omega⟩
 simp_arith [qNt,qAlj,oIxS]
 refine ⟨ns,rfl, ?_⟩
 split
 ·next h=>
  have hk:(j:Int)<(ns.length:Nat):=of_decide_eq_true h
  exact ⟨ns,_,ns[j]'(by omega),rfl,rfl,atI_nat (Za3 (by omega)),p _⟩
 ·exact p 0
theorem e18:(10:Int) ^ Int.toNat 18=1000000000000000000:=by decide
theorem qUs{FD:FEnds}{c m b:Int}(b0:0<b)(fin:∀ ns:List Int,ns.length=m.toNat->InR b ns->∀ v4 v5 v6,FD.nx [some (.int c),some (.int m),some (.int b),some (.lst (qDl ns)),v4,v5,v6])(hm:m<=1000) :
  ∀ (r k:Nat) (ns:List Int) (rest:Int) (v5 v6:Option D),k+r=m.toNat->ns.length=k->InR b ns->qDk (qB1 5) (qGz (fB (fOp oGt (qAd 4) (fC (.int 0)))) (qBf (qPc 3 (fOp qFv (fLs qE8 (qAc (qAd 4) qAl)) (qAd 2)))
 (qDo 4 (fOp oDiv (qAd 4) (qAd 2)))) (qBf (qDo 6 (fOp qFv (fLs qE8 (qAc (fOp qDa (fOp qDs (fOp qDs (qAd 0) (fOp qDa (fC (.int 7919)) (qAd 5))) (fC (.int 1))) (fC (.int 48271))) qAl)) (fC (.int 2147483647))))
 (qBf (qDo 6 (fOp qFv (fLs qE8 (qAc (fOp qDa (qAd 6) (fOp qDs (fOp oDiv (qAd 6) (fC (.int 1009))) (fC (.int 69621)))) qAl)) (fC (.int 2147483647))))
 (qBf (qDo 6 (fOp qFv (fLs qE8 (qAc (fOp qDa (qAd 6) (fOp qDs (fOp oDiv (qAd 6) (fC (.int 2003))) (fC (.int 40692)))) qAl)) (fC (.int 2147483399))))
 (qPc 3 (fOp qFv (fLs qE8 (qAc (qAd 6) qAl)) (qAd 2))))))) FD (qIl (k:Nat) r) [some (.int c),some (.int m),some (.int b),some (.lst (qDl ns)),some (.int rest),v5,v6]
 | 0,k,ns,rest,v5,v6,hk,hn,hr=>fin ns (by omega) hr _ _ _
 | r+1,k,ns,rest,v5,v6,hk,hn,hr=>by
  have nx:∀ (x rest':Int) (v6:Option D),0<=x->x<b->qDk (qB1 5) _ FD (qIl ((k:Int)+1) r) [some (.int c),some (.int m),some (.int b),some (.lst (qDl ns ++ [.int x])),some (.int rest'),some (.int (k:Nat)),v6]:=λx rest' v6 h0 h1=>by
   have:=qUs b0 fin hm r (k+1) (ns ++ [x]) rest' (some (.int (k:Nat))) v6 (by omega) (by simp [hn]) (λn hn=>by
    rcases List.mem_append.mp hn with hn | hn
    ·exact hr n hn
    ·rw [Zai.mp hn];exact ⟨h0,h1⟩)
   rw [<-qAgl,show ((k+1:Nat):Int)=(k:Int)+1 by omega] at this
   exact this
  have bn:b≠0:=by omega
  have hl:(qDl ns).length<sizeLine:=by rw [qXp,sizeLine_eq];omega
  rw [qE1]
  unfold qDk
  simp_arith []
  split
  ·obtain ⟨h0,h1⟩:=qPp (a:=rest) b0
   refine ⟨bn,hl,cdiv bn, ?_⟩
   exact nx _ _ _ h0 h1
  ·refine ⟨qAi1 (by decide) (by decide),qId (by decide) (by decide),by decide, ?_⟩
   obtain ⟨a0,a1⟩:=qPp (a:=(c+7919*(k:Int)+1)*48271) (b:=2147483647) (by decide)
   generalize ((c+7919*(k:Int)+1)*48271).fmod 2147483647=y at a0 a1
   obtain ⟨c0,c1⟩:=fd_r (b:=1009) a0 (by decide)
   refine ⟨cdiv (by decide),qId (by omega) (by omega),by decide, ?_⟩
   obtain ⟨a0,a1⟩:=qPp (a:=y*(y.fdiv 1009+69621)) (b:=2147483647) (by decide)
   generalize (y*(y.fdiv 1009+69621)).fmod 2147483647=z at a0 a1
   obtain ⟨c0,c1⟩:=fd_r (b:=2003) a0 (by decide)
   refine ⟨cdiv (by decide),qId (by omega) (by omega),by decide, ?_⟩
   obtain ⟨h0,h1⟩:=qPp (a:=(z*(z.fdiv 2003+40692)).fmod 2147483399) b0
   refine ⟨bn,hl, ?_⟩
   exact nx _ _ _ h0 h1
theorem qAby{cs:List Str}(hR:("Ratio":Str)∈cs)(ds:List D)(P:D->Prop)(X:XP)(h:qMn ds P X):qM1 cs (qF9 P X0) (qBb 7 ds):=by
 obtain ⟨c,m,b,rfl,m0,m1,b0,p⟩:=h
 simp_arith [qM1,e18,qIk,qDq]
 refine ⟨by decide,by decide,⟨by decide,by decide,by decide⟩, ?_⟩
 split
 ·refine ⟨by omega,by omega, ?_⟩
  refine qUs b0 (λns h1 h2 v4 v5 v6 => ?_) m1 m.toNat 0 [] _ _ _ (by omega) rfl (λn h=>by simp at h)
  exact ⟨_,rfl,p ns h1 h2⟩
 ·refine ⟨by omega,by omega, ?_⟩
  refine qUs b0 (λns h1 h2 v4 v5 v6 => ?_) m1 m.toNat 0 [] _ _ _ (by omega) rfl (λn h=>by simp at h)
  exact ⟨_,rfl,p ns h1 h2⟩
theorem e12:(10:Int) ^ Int.toNat 12=1000000000000:=by decide
theorem e9:(10:Int) ^ Int.toNat 9=1000000000:=by decide
theorem pw{a n:Int}(h:CPow a n):CPow a n:=h
theorem ixT3{a b c:D}{j:Int}{P:D->Prop}{X:XP}(h0:0<=j)(h1:j<3)(ka:P a)(kb:P b)(kc:P c):oIx (.lst [a,b,c]) (.int j) P X:=by
 have hj:j=0\/j=1\/j=2:=by omega
 rcases hj with rfl | rfl | rfl
 ·exact qDy (k:=0) rfl rfl ka
 ·exact qDy (k:=1) rfl rfl kb
 ·exact qDy (k:=2) rfl rfl kc
theorem ixT2{a b:D}{j:Int}{P:D->Prop}{X:XP}(h0:0<=j)(h1:j<2)(ka:P a)(kb:P b):oIx (.lst [a,b]) (.int j) P X:=by
 have hj:j=0\/j=1:=by omega
 rcases hj with rfl | rfl
 ·exact qDy (k:=0) rfl rfl ka
 ·exact qDy (k:=1) rfl rfl kb
theorem qWu{K:W.Frag}{cs:List Str}(vs:List V)(H:Hp)(Q:VK)(E:XK)(h:(lift K qOd) vs H Q E):vs.length=2:=qA0 (λds P X h=>by unfold qOd at h;first | ((repeat (first | (obtain ⟨rfl,_⟩:=h;exact rfl) | obtain ⟨_,h⟩:=h));done) | (split at h <;> first | rfl | exact h.elim)) h
theorem qZt{K:W.Frag}{cs:List Str}(T:KF K cs)(hRa:("Ratio":Str)∈cs)(vs:List V)(H:Hp)(Q:VK)(E:XK)(h:(lift K qOd) vs H Q E):qKt K cs { nx:=λ_ H'=>Q .non H',rt:=Q } (start ["_law_script","_law_k"] vs) H:=
 qD1 rfl (qAb8 T hRa) (qAcb hRa) vs H Q E h
theorem qWz{K:W.Frag}{cs:List Str}(vs:List V)(H:Hp)(Q:VK)(E:XK)(h:(lift K qMn) vs H Q E):vs.length=3:=qA0 (λds P X h=>by unfold qMn at h;first | ((repeat (first | (obtain ⟨rfl,_⟩:=h;exact rfl) | obtain ⟨_,h⟩:=h));done) | (split at h <;> first | rfl | exact h.elim)) h
theorem qAad{K:W.Frag}{cs:List Str}(T:KF K cs)(hRa:("Ratio":Str)∈cs)(vs:List V)(H:Hp)(Q:VK)(E:XK)(h:(lift K qMn) vs H Q E):qKy K cs { nx:=λ_ H'=>Q .non H',rt:=Q } (start ["_law_cell_here","_law_many","_law_base_here","_law_found","_law_rest","_law_k","_law_number"] vs) H:=
 qD1 rfl (qAcf T hRa) (qAby hRa) vs H Q E h
def qEx(tops parts:List Int):Nat->List Int
 | 0=>parts
 | k+1=>(Zag tops.length).map λi=>(qEx tops parts k).getD i 0*tops.getD i 0
theorem qSf{tops parts:List Int}(h:tops.length=parts.length):∀ k,(qEx tops parts k).length=tops.length
 | 0=>h.symm
 | k+1=>by simp [qEx]
def rowP(tops parts:List Int)(under bottom:Int)(k:Nat):Int × Int:=((qEx tops parts k).sum,under*bottom ^ k)
def qI0(tops parts:List Int)(under bottom:Int)(n:Nat):List (Int × Int):=(Zag n).map (rowP tops parts under bottom)
theorem qL7(tops parts:List Int)(under bottom:Int)(n:Nat):(qI0 tops parts under bottom n).length=n:=by simp [qI0]
def I64(t:Int):Prop := -(2 ^ 64)<t/\t<2 ^ 64
def qOn:FSp:=λds P _=>∃ tops parts under bottom n,ds=[.lst (qDl tops), .lst (qDl parts), .int under, .int bottom, .int ((n:Nat):Int)]/\tops.length=parts.length/\tops.length<=100/\n<=100/\(∀ t,t∈tops->I64 t)/\I64 bottom/\P (.lst (qEg (qI0 tops parts under bottom n)))
def qCe:FSp:=λds P _=>∃ ps,ds=[.lst (qEg ps)]/\(∀ p,p∈ps->p.2≠0)/\ps.length<=1000/\P (.lst (qCy (ps.map qCs)))
def qEq:FSp:=λds P _=>∃ ps c n,ds=[.lst (qEg ps), .int c]/\0<ps.length/\ps.length<=100/\40<=n/\(∀ p,p∈ps->SzP n p)/\∀ qs:List (Int × Int),qs.length=ps.length->(∀ q,q∈qs->SzP (n+105) q)->P (.lst (qEg qs))
theorem qMj{ps:List (Int × Int)}{k:Nat}{p:Int × Int}(h:ps[k]?=some p):(qEg ps)[k]?=some (prT p):=by
 unfold qEg
 rw [Zae,h]
 rfl
theorem qAfr(ps:List (Int × Int))(p:Int × Int):qEg ps ++ [prT p]=qEg (ps ++ [p]):=by
 unfold qEg
 rw [List.map_append]
 rfl
theorem qZb(ps:List (Int × Int))(k:Nat)(p:Int × Int):(qEg ps).set k (prT p)=qEg (ps.set k p):=by
 unfold qEg
 rw [List.map_set]
theorem ixt0{a b:D}{P:D->Prop}{X:XP}:oIx (.tup [a,b]) (.int 0) P X↔P a:=by
 constructor
 ·rintro ⟨ds,n,d,h | h,rfl',h2,p⟩
  ·cases h
  ·cases h;cases rfl';cases h2;exact p
 ·exact λp=>qDy (k:=0) rfl rfl p
theorem ixt1{a b:D}{P:D->Prop}{X:XP}:oIx (.tup [a,b]) (.int 1) P X↔P b:=by
 constructor
 ·rintro ⟨ds,n,d,h | h,rfl',h2,p⟩
  ·cases h
  ·cases h;cases rfl';cases h2;exact p
 ·exact λp=>qDy (k:=1) rfl rfl p
def qNk(K:W.Frag)(cs:List Str):TS:=
 (tSeq (tAsg (tLst tNil) (gName 5))
 (tSeq (tAsg (tCB (qMe K) (tCons (tVar 1) tNil)) (gName 6))
 (tSeq (tAsg (tVar 2) (gName 7))
 (tSeq (tFor (iRng1 (tCons (tVar 4) tNil)) (gName 8) (tSeq (tDrop (tBM K "list" rAppend (tVar 5) (tCons (tTup (tCons (tCB (rSum K) (tCons (tVar 6) tNil)) (tCons (tVar 7) tNil))) tNil)))
 (tSeq (tAsg (tLc (iRng1 (tCons (tCB (qFb K) (tCons (tVar 0) tNil)) tNil)) (gName 9) tYes (tOp qCg (tOp (rIxL K) (tVar 6) (tVar 9)) (tOp (rIxL K) (tVar 0) (tVar 9))) [9]) (gName 6))
 (tAsg (tOp qCg (tVar 7) (tVar 3)) (gName 7)))))
 (tRet (tVar 5))))))
def qPq(cs:List Str):FS:=
 (qBf (qZ7 5 (qKd qAl))
 (qBf (qDo 6 (fLs qTm (qAc (qAd 1) qAl)))
 (qBf (qDo 7 (qAd 2))
 (qBf (qIk (qDq (qAc (qAd 4) qAl)) (qB1 8) (qBf (qPc 5 (qN2 (qAc (fLs oSum (qAc (qAd 6) qAl)) (qAc (qAd 7) qAl))))
 (qBf (qDo 6 (fLc (qDq (qAc (fLs qH8 (qAc (qAd 0) qAl)) qAl)) (qB1 9) qMd (fOp qDa (fOp qCc (qAd 6) (qAd 9)) (fOp qCc (qAd 0) (qAd 9))) [9]))
 (qDo 7 (fOp qDa (qAd 7) (qAd 3))))))
 (qEz (qAd 5))))))
theorem qAf7{K:W.Frag}{cs:List Str}(T:KF K cs)(hRa:("Ratio":Str)∈cs):SS K Ta [] [] [] [] (λ_=>E0) (qNk K cs) (qPq cs):=
 (qAi (ow1:=[5]) (qLp (by decide) (by decide) (qM5 qAe))
 (qAi (ow1:=[5]) (qBe (by decide) (by decide) (SF.se (qNd (qAb (qAa (by decide)) qAe))))
 (qAi (ow1:=[5]) (qBe (by decide) (by decide) (qAa (by decide)))
 (qAi (ow1:=[5]) (qG2 (by decide) (qEt (qAb (qAa (by decide)) qAe)) (qCr (by decide)) (qAi (ow1:=[5]) (qLg (by decide) (by decide) (qNj (qAb (qB7 (λ_=>qAe2) (qAb (qAa (by decide)) qAe)) (qAb (qAa (by decide)) qAe))))
 (qAi (ow1:=[5]) (qBe (by decide) (by decide) (SF.se (qOm (by decide) (by decide) (qEt (qAb (qB7 (λ_=>qD0) (qAb (qAa (by decide)) qAe)) qAe)) (qCr (by decide)) qJs (qAf (λ_=>qA9) (qAf (λ_=>qA2) (qAa (by decide)) (qAa (by decide))) (qAf (λ_=>qA2) (qAa (by decide)) (qAa (by decide)))))))
 (qBe (by decide) (by decide) (qAf (λ_=>qA9) (qAa (by decide)) (qAa (by decide)))))))
 (qIw (ow1:=[]) (by decide) (qBa (by decide) (qAa (by decide))))))))
def qHm(K:W.Frag)(cs:List Str):TS:=
 (tRet (tLc (iList K (tVar 0)) (gName 1) tYes (tMake (He.ga K "Ratio") (qC2 K) [] E0 (tCons (tOp (rIxT K) (tVar 1) (tC (.int 0))) (tCons (tOp (rIxT K) (tVar 1) (tC (.int 1))) tNil))) [1]))
def qI1(cs:List Str):FS:=
 (qEz (fLc (fItL (qAd 0)) (qB1 1) qMd (qAs qZd [] (qAc (fOp qGu (qAd 1) (fC (.int 0))) (qAc (fOp qGu (qAd 1) (fC (.int 1))) qAl))) [1]))
theorem qWr{K:W.Frag}{cs:List Str}(T:KF K cs)(hRa:("Ratio":Str)∈cs):SS K Ta [] [] [] [] (λ_=>E0) (qHm K cs) (qI1 cs):=
 (qBa (by decide) (SF.se (qOm (by decide) (by decide) (qPk (qAa (by decide))) (qCr (by decide)) qJs (qFq qMo qAn (qAb (qAf (λ_=>qDj) (qAa (by decide)) qAg) (qAb (qAf (λ_=>qDj) (qAa (by decide)) qAg) qAe))))))
def qGl(K:W.Frag)(cs:List Str):TS:=
 (tSeq (tAsg (tCall (lift K qMn) [] E0 (tCons (tVar 1) (tCons (tOp qEc (tC (.int 10)) (tOp qCg (tC (.int 2)) (tCB (qFb K) (tCons (tVar 0) tNil)))) (tCons (tOp qVo (tC (.int 10)) (tC (.int 12))) tNil)))) (gName 2))
 (tSeq (tAsg (tCB (qMe K) (tCons (tVar 0) tNil)) (gName 3))
 (tSeq (tIfS (tTest (tOp rEq (tOp qFn (tCB qFm (tCons (tOp (rIxL K) (tVar 2) (tC (.int 0))) tNil)) (tC (.int 4))) (tC (.int 0)))) (tFor (iRng1 (tCons (tCB (qFb K) (tCons (tVar 0) tNil)) tNil)) (gName 4) (tSeq (tAsg (tOp (rIxL K) (tLst (tCons (tC (.int 4)) (tCons (tOp qVo (tC (.int 10)) (tC (.int 9))) tNil))) (tOp qFn (tCB qFm (tCons (tOp (rIxL K) (tVar 2) (tC (.int 1))) tNil)) (tC (.int 2)))) (gName 8))
 (tAsg (tTup (tCons (tOp qOa (tOp qFn (tCB qFm (tCons (tOp (rIxL K) (tVar 2) (tOp qEc (tC (.int 10)) (tOp qCg (tC (.int 2)) (tVar 4)))) tNil)) (tOp qEc (tOp qCg (tC (.int 2)) (tVar 8)) (tC (.int 1)))) (tVar 8)) (tCons (tOp qEc (tC (.int 1)) (tOp qFn (tCB qFm (tCons (tOp (rIxL K) (tVar 2) (tOp qEc (tC (.int 11)) (tOp qCg (tC (.int 2)) (tVar 4)))) tNil)) (tC (.int 5)))) tNil))) (gSub (tVar 3) (tVar 4) rSetL)))) tNext)
 (tSeq (tFor (iRng1 (tCons (tOp qFn (tCB qFm (tCons (tOp (rIxL K) (tVar 2) (tC (.int 2))) tNil)) (tC (.int 4))) tNil)) (gName 4) (tSeq (tAsg (tOp qFn (tCB qFm (tCons (tOp (rIxL K) (tVar 2) (tOp qEc (tC (.int 3)) (tOp qCg (tC (.int 2)) (tVar 4)))) tNil)) (tCB (qFb K) (tCons (tVar 0) tNil))) (gName 5))
 (tSeq (tAsg (tOp (rIxL K) (tLst (tCons (tC (.int 1)) (tCons (tC (.int 7)) (tCons (tOp qVo (tC (.int 10)) (tC (.int 9))) tNil)))) (tOp qFn (tCB qFm (tCons (tOp (rIxL K) (tVar 2) (tC (.int 9))) tNil)) (tC (.int 3)))) (gName 6))
 (tSeq (tAsg (tOp qOa (tOp qFn (tCB qFm (tCons (tOp (rIxL K) (tVar 2) (tOp qEc (tC (.int 4)) (tOp qCg (tC (.int 2)) (tVar 4)))) tNil)) (tC (.int 9))) (tC (.int 4))) (gName 7))
 (tAsg (tTup (tCons (tOp qEc (tOp qCg (tOp (rIxT K) (tOp (rIxL K) (tVar 3) (tVar 5)) (tC (.int 0))) (tVar 6)) (tOp qCg (tVar 7) (tOp (rIxT K) (tOp (rIxL K) (tVar 3) (tVar 5)) (tC (.int 1))))) (tCons (tOp qCg (tOp (rIxT K) (tOp (rIxL K) (tVar 3) (tVar 5)) (tC (.int 1))) (tVar 6)) tNil))) (gSub (tVar 3) (tVar 5) rSetL))))))
 (tRet (tVar 3))))))
def qAc4(cs:List Str):FS:=
 (qEz (qAd 3))
def qAa5(cs:List Str):FS:=
 qBf (qIk (qDq (qAc (fOp qFv (fLs qE8 (qAc (fOp qCc (qAd 2) (fC (.int 2))) qAl)) (fC (.int 4))) qAl)) (qB1 4) (qBf (qDo 5 (fOp qFv (fLs qE8 (qAc (fOp qCc (qAd 2) (fOp qDs (fC (.int 3)) (fOp qDa (fC (.int 2)) (qAd 4)))) qAl)) (fLs qH8 (qAc (qAd 0) qAl))))
 (qBf (qDo 6 (fOp qCc (qKd (qAc (fC (.int 1)) (qAc (fC (.int 7)) (qAc (fOp oPow (fC (.int 10)) (fC (.int 9))) qAl)))) (fOp qFv (fLs qE8 (qAc (fOp qCc (qAd 2) (fC (.int 9))) qAl)) (fC (.int 3)))))
 (qBf (qDo 7 (fOp qRl (fOp qFv (fLs qE8 (qAc (fOp qCc (qAd 2) (fOp qDs (fC (.int 4)) (fOp qDa (fC (.int 2)) (qAd 4)))) qAl)) (fC (.int 9))) (fC (.int 4))))
 (qQx 3 (qN2 (qAc (fOp qDs (fOp qDa (fOp qGu (fOp oIx (qAd 3) (qAd 5)) (fC (.int 0))) (qAd 6)) (fOp qDa (qAd 7) (fOp qGu (fOp oIx (qAd 3) (qAd 5)) (fC (.int 1))))) (qAc (fOp qDa (fOp qGu (fOp oIx (qAd 3) (qAd 5)) (fC (.int 1))) (qAd 6)) qAl))) (qAd 5)))))) (qAc4 cs)
def qAiz(cs:List Str):FS:=
 qBf (qGz (fB (fOp oEq (fOp qFv (fLs qE8 (qAc (fOp qCc (qAd 2) (fC (.int 0))) qAl)) (fC (.int 4))) (fC (.int 0)))) (qIk (qDq (qAc (fLs qH8 (qAc (qAd 0) qAl)) qAl)) (qB1 4) (qBf (qDo 8 (fOp qCc (qKd (qAc (fC (.int 4)) (qAc (fOp oPow (fC (.int 10)) (fC (.int 9))) qAl))) (fOp qFv (fLs qE8 (qAc (fOp qCc (qAd 2) (fC (.int 1))) qAl)) (fC (.int 2)))))
 (qQx 3 (qN2 (qAc (fOp qRl (fOp qFv (fLs qE8 (qAc (fOp qCc (qAd 2) (fOp qDs (fC (.int 10)) (fOp qDa (fC (.int 2)) (qAd 4)))) qAl)) (fOp qDs (fOp qDa (fC (.int 2)) (qAd 8)) (fC (.int 1)))) (qAd 8)) (qAc (fOp qDs (fC (.int 1)) (fOp qFv (fLs qE8 (qAc (fOp qCc (qAd 2) (fOp qDs (fC (.int 11)) (fOp qDa (fC (.int 2)) (qAd 4)))) qAl)) (fC (.int 5)))) qAl))) (qAd 4)))) qC6) (qAa5 cs)
def qAjy(cs:List Str):FS:=
 qBf (qZ7 3 (fLs qTm (qAc (qAd 0) qAl))) (qAiz cs)
def qAh5(cs:List Str):FS:=
 qBf (qDo 2 (qAs qMn [] (qAc (qAd 1) (qAc (fOp qDs (fC (.int 10)) (fOp qDa (fC (.int 2)) (fLs qH8 (qAc (qAd 0) qAl)))) (qAc (fOp oPow (fC (.int 10)) (fC (.int 12))) qAl))))) (qAjy cs)
def qLn(cs:List Str):FS:=
 (qBf (qDo 2 (qAs qMn [] (qAc (qAd 1) (qAc (fOp qDs (fC (.int 10)) (fOp qDa (fC (.int 2)) (fLs qH8 (qAc (qAd 0) qAl)))) (qAc (fOp oPow (fC (.int 10)) (fC (.int 12))) qAl)))))
 (qBf (qZ7 3 (fLs qTm (qAc (qAd 0) qAl)))
 (qBf (qGz (fB (fOp oEq (fOp qFv (fLs qE8 (qAc (fOp qCc (qAd 2) (fC (.int 0))) qAl)) (fC (.int 4))) (fC (.int 0)))) (qIk (qDq (qAc (fLs qH8 (qAc (qAd 0) qAl)) qAl)) (qB1 4) (qBf (qDo 8 (fOp qCc (qKd (qAc (fC (.int 4)) (qAc (fOp oPow (fC (.int 10)) (fC (.int 9))) qAl))) (fOp qFv (fLs qE8 (qAc (fOp qCc (qAd 2) (fC (.int 1))) qAl)) (fC (.int 2)))))
 (qQx 3 (qN2 (qAc (fOp qRl (fOp qFv (fLs qE8 (qAc (fOp qCc (qAd 2) (fOp qDs (fC (.int 10)) (fOp qDa (fC (.int 2)) (qAd 4)))) qAl)) (fOp qDs (fOp qDa (fC (.int 2)) (qAd 8)) (fC (.int 1)))) (qAd 8)) (qAc (fOp qDs (fC (.int 1)) (fOp qFv (fLs qE8 (qAc (fOp qCc (qAd 2) (fOp qDs (fC (.int 11)) (fOp qDa (fC (.int 2)) (qAd 4)))) qAl)) (fC (.int 5)))) qAl))) (qAd 4)))) qC6)
 (qBf (qIk (qDq (qAc (fOp qFv (fLs qE8 (qAc (fOp qCc (qAd 2) (fC (.int 2))) qAl)) (fC (.int 4))) qAl)) (qB1 4) (qBf (qDo 5 (fOp qFv (fLs qE8 (qAc (fOp qCc (qAd 2) (fOp qDs (fC (.int 3)) (fOp qDa (fC (.int 2)) (qAd 4)))) qAl)) (fLs qH8 (qAc (qAd 0) qAl))))
 (qBf (qDo 6 (fOp qCc (qKd (qAc (fC (.int 1)) (qAc (fC (.int 7)) (qAc (fOp oPow (fC (.int 10)) (fC (.int 9))) qAl)))) (fOp qFv (fLs qE8 (qAc (fOp qCc (qAd 2) (fC (.int 9))) qAl)) (fC (.int 3)))))
 (qBf (qDo 7 (fOp qRl (fOp qFv (fLs qE8 (qAc (fOp qCc (qAd 2) (fOp qDs (fC (.int 4)) (fOp qDa (fC (.int 2)) (qAd 4)))) qAl)) (fC (.int 9))) (fC (.int 4))))
 (qQx 3 (qN2 (qAc (fOp qDs (fOp qDa (fOp qGu (fOp oIx (qAd 3) (qAd 5)) (fC (.int 0))) (qAd 6)) (fOp qDa (qAd 7) (fOp qGu (fOp oIx (qAd 3) (qAd 5)) (fC (.int 1))))) (qAc (fOp qDa (fOp qGu (fOp oIx (qAd 3) (qAd 5)) (fC (.int 1))) (qAd 6)) qAl))) (qAd 5))))))
 (qEz (qAd 3))))))
theorem qT7{K:W.Frag}{cs:List Str}(T:KF K cs)(hRa:("Ratio":Str)∈cs):SS K Ta [] [] [] [] (λ_=>E0) (qGl K cs) (qLn cs):=
 (qAi (ow1:=[]) (qBe (by decide) (by decide) (qAr Lift.refl qAn (qAb (qAa (by decide)) (qAb (qAf (λ_=>qCf) qAg (qAf (λ_=>qA9) qAg (qB7 (λ_=>qD0) (qAb (qAa (by decide)) qAe)))) (qAb (qAf (λ_=>qO3) qAg qAg) qAe)))))
 (qAi (ow1:=[3]) (qLp (by decide) (by decide) (qNd (qAb (qAa (by decide)) qAe)))
 (qAi (ow1:=[3]) (qEd (by decide) (qCl (qAf (λ_=>qPt) (qAf (λ_=>qDv) (qB7 (λ_=>qDn) (qAb (qAf (λ_=>qA2) (qAa (by decide)) qAg) qAe)) qAg) qAg)) (qG2 (by decide) (qEt (qAb (qB7 (λ_=>qD0) (qAb (qAa (by decide)) qAe)) qAe)) (qCr (by decide)) (qAi (ow1:=[3]) (qBe (by decide) (by decide) (qAf (λ_=>qA2) (qJ5 (qAb qAg (qAb (qAf (λ_=>qO3) qAg qAg) qAe))) (qAf (λ_=>qDv) (qB7 (λ_=>qDn) (qAb (qAf (λ_=>qA2) (qAa (by decide)) qAg) qAe)) qAg)))
 (qAd2 (by decide) (by decide) (qNj (qAb (qAf (λ_=>qJq) (qAf (λ_=>qDv) (qB7 (λ_=>qDn) (qAb (qAf (λ_=>qA2) (qAa (by decide)) (qAf (λ_=>qCf) qAg (qAf (λ_=>qA9) qAg (qAa (by decide))))) qAe)) (qAf (λ_=>qCf) (qAf (λ_=>qA9) qAg (qAa (by decide))) qAg)) (qAa (by decide))) (qAb (qAf (λ_=>qCf) qAg (qAf (λ_=>qDv) (qB7 (λ_=>qDn) (qAb (qAf (λ_=>qA2) (qAa (by decide)) (qAf (λ_=>qCf) qAg (qAf (λ_=>qA9) qAg (qAa (by decide))))) qAe)) qAg)) qAe))) (qAa (by decide))))) (qBd (by decide)))
 (qAi (ow1:=[3]) (qG2 (by decide) (qEt (qAb (qAf (λ_=>qDv) (qB7 (λ_=>qDn) (qAb (qAf (λ_=>qA2) (qAa (by decide)) qAg) qAe)) qAg) qAe)) (qCr (by decide)) (qAi (ow1:=[3]) (qBe (by decide) (by decide) (qAf (λ_=>qDv) (qB7 (λ_=>qDn) (qAb (qAf (λ_=>qA2) (qAa (by decide)) (qAf (λ_=>qCf) qAg (qAf (λ_=>qA9) qAg (qAa (by decide))))) qAe)) (qB7 (λ_=>qD0) (qAb (qAa (by decide)) qAe))))
 (qAi (ow1:=[3]) (qBe (by decide) (by decide) (qAf (λ_=>qA2) (qJ5 (qAb qAg (qAb qAg (qAb (qAf (λ_=>qO3) qAg qAg) qAe)))) (qAf (λ_=>qDv) (qB7 (λ_=>qDn) (qAb (qAf (λ_=>qA2) (qAa (by decide)) qAg) qAe)) qAg)))
 (qAi (ow1:=[3]) (qBe (by decide) (by decide) (qAf (λ_=>qJq) (qAf (λ_=>qDv) (qB7 (λ_=>qDn) (qAb (qAf (λ_=>qA2) (qAa (by decide)) (qAf (λ_=>qCf) qAg (qAf (λ_=>qA9) qAg (qAa (by decide))))) qAe)) qAg) qAg))
 (qAd2 (by decide) (by decide) (qNj (qAb (qAf (λ_=>qCf) (qAf (λ_=>qA9) (qAf (λ_=>qDj) (qS7 (by decide) (qAa (by decide))) qAg) (qAa (by decide))) (qAf (λ_=>qA9) (qAa (by decide)) (qAf (λ_=>qDj) (qS7 (by decide) (qAa (by decide))) qAg))) (qAb (qAf (λ_=>qA9) (qAf (λ_=>qDj) (qS7 (by decide) (qAa (by decide))) qAg) (qAa (by decide))) qAe))) (qAa (by decide)))))))
 (qIw (ow1:=[]) (by decide) (qBa (by decide) (qAa (by decide))))))))
def qAia:FS:=
 (qBf (qPc 5 (qN2 (qAc (fLs oSum (qAc (qAd 6) qAl)) (qAc (qAd 7) qAl))))
 (qBf (qDo 6 (fLc (qDq (qAc (fLs qH8 (qAc (qAd 0) qAl)) qAl)) (qB1 9) qMd (fOp qDa (fOp qCc (qAd 6) (qAd 9)) (fOp qCc (qAd 0) (qAd 9))) [9]))
 (qDo 7 (fOp qDa (qAd 7) (qAd 3)))))
def chA:FS:=
 (qBf (qDo 8 (fOp qCc (qKd (qAc (fC (.int 4)) (qAc (fOp oPow (fC (.int 10)) (fC (.int 9))) qAl))) (fOp qFv (fLs qE8 (qAc (fOp qCc (qAd 2) (fC (.int 1))) qAl)) (fC (.int 2)))))
 (qQx 3 (qN2 (qAc (fOp qRl (fOp qFv (fLs qE8 (qAc (fOp qCc (qAd 2) (fOp qDs (fC (.int 10)) (fOp qDa (fC (.int 2)) (qAd 4)))) qAl)) (fOp qDs (fOp qDa (fC (.int 2)) (qAd 8)) (fC (.int 1)))) (qAd 8)) (qAc (fOp qDs (fC (.int 1)) (fOp qFv (fLs qE8 (qAc (fOp qCc (qAd 2) (fOp qDs (fC (.int 11)) (fOp qDa (fC (.int 2)) (qAd 4)))) qAl)) (fC (.int 5)))) qAl))) (qAd 4)))
def chB2:FS:=qBf (qDo 7 (fOp qRl (fOp qFv (fLs qE8 (qAc (fOp qCc (qAd 2) (fOp qDs (fC (.int 4)) (fOp qDa (fC (.int 2)) (qAd 4)))) qAl)) (fC (.int 9))) (fC (.int 4)))) (qQx 3 (qN2 (qAc (fOp qDs (fOp qDa (fOp qGu (fOp oIx (qAd 3) (qAd 5)) (fC (.int 0))) (qAd 6)) (fOp qDa (qAd 7) (fOp qGu (fOp oIx (qAd 3) (qAd 5)) (fC (.int 1))))) (qAc (fOp qDa (fOp qGu (fOp oIx (qAd 3) (qAd 5)) (fC (.int 1))) (qAd 6)) qAl))) (qAd 5))
def chB:FS:=qBf (qDo 5 (fOp qFv (fLs qE8 (qAc (fOp qCc (qAd 2) (fOp qDs (fC (.int 3)) (fOp qDa (fC (.int 2)) (qAd 4)))) qAl)) (fLs qH8 (qAc (qAd 0) qAl)))) (qBf (qDo 6 (fOp qCc (qKd (qAc (fC (.int 1)) (qAc (fC (.int 7)) (qAc (fOp oPow (fC (.int 10)) (fC (.int 9))) qAl)))) (fOp qFv (fLs qE8 (qAc (fOp qCc (qAd 2) (fC (.int 9))) qAl)) (fC (.int 3))))) chB2)
theorem qAjt{FD:FEnds}{tops parts:List Int}{under bottom:Int}{n:Nat}(hl:tops.length=parts.length)(l1:tops.length<=100)(n1:n<=100)(ht:∀ t,t∈tops->I64 t)(hb:I64 bottom)
  (fin:∀ v6 v7 v8 v9,FD.nx [some (.lst (qDl tops)),some (.lst (qDl parts)),some (.int under),some (.int bottom),some (.int ((n:Nat):Int)),some (.lst (qEg (qI0 tops parts under bottom n))),v6,v7,v8,v9]) :
  ∀ (r k:Nat) (v8 v9:Option D),k+r=n->qDk (qB1 8) qAia FD (qIl (k:Nat) r) [some (.lst (qDl tops)),some (.lst (qDl parts)),some (.int under),some (.int bottom),some (.int ((n:Nat):Int)),some (.lst (qEg (qI0 tops parts under bottom k))),some (.lst (qDl (qEx tops parts k))),some (.int (under*bottom ^ k)),v8,v9]
 | 0,k,v8,v9,hk=>by
  have:k=n:=by omega
  subst this
  exact fin _ _ _ _
 | r+1,k,v8,v9,hk=>by
  have sl:sizeLine=16777216:=sizeLine_eq
  have pl:=qSf hl k
  have e1:qEg (qI0 tops parts under bottom k) ++ [.tup [.int (qEx tops parts k).sum, .int (under*bottom ^ k)]]=qEg (qI0 tops parts under bottom (k+1)):=by
   rw [show D.tup [.int (qEx tops parts k).sum, .int (under*bottom ^ k)]=prT (rowP tops parts under bottom k) from rfl,qAfr]
   unfold qI0
   rw [List.range_succ,List.map_append]
   rfl
  have e2:((Zag tops.length).map λi=>D.int ((qEx tops parts k).getD i 0*tops.getD i 0))=qDl (qEx tops parts (k+1)):=by
   rw [show qEx tops parts (k+1)=(Zag tops.length).map λi=>(qEx tops parts k).getD i 0*tops.getD i 0 from rfl]
   unfold qDl
   rw [List.map_map]
   rfl
  rw [qE1]
  unfold qDk qAia
  simp_arith [oSum,fLc,qDq,qIa,qXp]
  refine ⟨qEx tops parts k,rfl,by decide,by rw [qEl,qL7];omega, ?_⟩
  rw [e1]
  refine ⟨by omega,by omega, ?_⟩
  rw [Int.toNat_natCast]
  refine qVw (α:=Nat) (λk=>D.int (0+((k:Nat):Int))) (λi=>D.int ((qEx tops parts k).getD i 0*tops.getD i 0)) (Zag tops.length) [] (λi hi Q q => ?_) (by simp;omega) ?_
  ·have hi':=List.mem_range.mp hi
   rw [Int.zero_add]
   simp_arith []
   have g1:(qEx tops parts k)[i]?=some ((qEx tops parts k).getD i 0):=by
    rw [Zak,Za3 (by omega)]
    rfl
   have g2:tops[i]?=some (tops.getD i 0):=by
    rw [Zak,Za3 hi']
    rfl
   refine qDy rfl (qFr g1) ?_
   refine qDy rfl (qFr g2) ?_
   obtain ⟨t0,t1⟩:=ht _ (List.mem_of_getElem? g2)
   simp_arith []
   exact ⟨qId t0 t1,q⟩
  ·rw [List.nil_append,e2]
   refine ⟨qId hb.1 hb.2, ?_⟩
   have:=qAjt hl l1 n1 ht hb fin r (k+1) (some (.int (k:Nat))) v9 (by omega)
   rw [show ((k+1:Nat):Int)=(k:Int)+1 by omega,Int.pow_succ, ←Int.mul_assoc] at this
   exact this
theorem qAgs{cs:List Str}(hR:("Ratio":Str)∈cs)(ds:List D)(P:D->Prop)(X:XP)(h:qOn ds P X):qPq cs (qF9 P X0) (qBb 10 ds):=by
 obtain ⟨tops,parts,under,bottom,n,rfl,hl,l1,n1,ht,hb,p⟩:=h
 simp_arith [qPq,qIk,qDq]
 refine ⟨by decide,by decide,by omega,by omega, ?_⟩
 rw [Int.toNat_natCast]
 have:=qAjt (FD := { nx:=qEz (qAd 5) (qF9 P X0),rt:=P,bk:=λ_=>False,ct:=λ_=>False,ex:=λx _=>X0 x,rf:=P }) (under:=under) hl l1 n1 ht hb (λv6 v7 v8 v9=>⟨_,rfl,p⟩) n 0 none none (by omega)
 rw [show under*bottom ^ 0=under by simp] at this
 exact this
theorem qVu{cs:List Str}(hR:("Ratio":Str)∈cs)(ds:List D)(P:D->Prop)(X:XP)(h:qCe ds P X):qI1 cs (qF9 P X0) (qBb 2 ds):=by
 obtain ⟨ps,rfl,hp,hl,p⟩:=h
 simp_arith [qI1,fLc,qIa]
 refine qVw prT (λp=>D.rat (qCs p)) ps [] (λq hq Q k => ?_) (by rw [sizeLine_eq];simp;omega) ?_
 ·simp_arith [ixt0,ixt1,mk_R]
  exact ⟨hp q hq,trivial,k⟩
 ·rw [List.nil_append]
  have:ps.map (λp=>D.rat (qCs p))=qCy (ps.map qCs):=by
   unfold qCy
   rw [List.map_map]
   rfl
  rw [this]
  exact p
theorem qPz{l h b:Int}(b0:0<b)(hl:l<h):Za4 l b<Za4 h b:=by
 have b1:(0:Rat)<(b:Rat):=Rat.intCast_lt_intCast.mpr b0
 have l1:(l:Rat)<(h:Rat):=Rat.intCast_lt_intCast.mpr hl
 rw [Za8,Za8,Rat.div_def,Rat.div_def]
 exact Rat.mul_lt_mul_of_pos_right l1 (Rat.inv_pos.mpr b1)
theorem qAed{a b:Int}{n:Nat}(hn:40<=n)(ha:a.natAbs<=1000000000)(b0:0<b)(b1:b<=1000000000):SzP n (a,b):=by
 have:(2:Nat) ^ 40<=2 ^ n:=Zaa (by decide) hn
 exact ⟨Zam (Nat.lt_of_le_of_lt ha (by decide)) this,Zam (Nat.lt_of_le_of_lt (show b.natAbs<=1000000000 by omega) (by decide)) this,b0⟩
theorem qAmz{p:Int × Int}{n:Nat}{u y:Int}(h:SzP n p)(u0:0<u)(u1:u<=1000000000)(y0 : -4<=y)(y1:y<=4):SzP (n+35) (p.1*u+y*p.2,p.2*u):=by
 have e:(2:Nat) ^ (n+35)=2 ^ n*2 ^ 35:=Nat.pow_add ..
 have hu:u.natAbs<=1000000000:=by omega
 have hy:y.natAbs<=4:=by omega
 have pu:(p.1*u).natAbs<=2 ^ n*1000000000:=by
  rw [Zao]
  exact Nat.mul_le_mul (Nat.le_of_lt h.a) hu
 have yp:(y*p.2).natAbs<=4*2 ^ n:=by
  rw [Zao]
  exact Nat.mul_le_mul hy (Nat.le_of_lt h.b)
 have bu:(p.2*u).natAbs<=2 ^ n*1000000000:=by
  rw [Zao]
  exact Nat.mul_le_mul (Nat.le_of_lt h.b) hu
 have pos:0<2 ^ n:=Nat.two_pow_pos n
 refine ⟨?_, ?_,Int.mul_pos h.pos u0⟩
 ·show (p.1*u+y*p.2).natAbs<_
  rw [e]
  have:=Int.natAbs_add_le (p.1*u) (y*p.2)
  have:(2:Nat) ^ 35=34359738368:=by decide
  rw [this]
  omega
 ·show (p.2*u).natAbs<_
  rw [e]
  have:(2:Nat) ^ 35=34359738368:=by decide
  rw [this]
  omega
def ChE(ps:List (Int × Int))(c:Int)(ns:List Int)(qs:List (Int × Int))(v4 v5 v6 v7 v8:Option D):Env:=[some (.lst (qEg ps)),some (.int c),some (.lst (qDl ns)),some (.lst (qEg qs)),v4,v5,v6,v7,v8]
theorem qAfh{α:Type}{xs:List α}{k:Nat}{x y:α}{S:α->Prop}(h:∀ z,z∈xs->S z)(hx:S x)(hy:y∈xs.set k x):S y:=by
 rcases List.mem_or_eq_of_mem_set hy with hy | hy
 ·exact h y hy
 ·rw [hy];exact hx
theorem qAjd{FD:FEnds}{ps:List (Int × Int)}{c:Int}{ns:List Int}{n:Nat}(hn:40<=n)(hr:InR 1000000000000 ns)(hl:ns.length=10+2*ps.length)(l1:ps.length<=100)
  (fin:∀ qs v4 v5 v6 v7 v8,qs.length=ps.length->(∀ q,q∈qs->SzP n q)->FD.nx (ChE ps c ns qs v4 v5 v6 v7 v8)):∀ (r k:Nat) (qs:List (Int × Int)) (v4 v5 v6 v7 v8:Option D),k+r=ps.length->qs.length=ps.length->(∀ q,q∈qs->SzP n q)->
  qDk (qB1 4) chA FD (qIl (k:Nat) r) (ChE ps c ns qs v4 v5 v6 v7 v8)
 | 0,k,qs,v4,v5,v6,v7,v8,hk,lq,hq=>fin qs _ _ _ _ _ lq hq
 | r+1,k,qs,v4,v5,v6,v7,v8,hk,lq,hq=>by
  have i10:(10:Int)+2*(k:Int)=((10+2*k:Nat):Int):=by omega
  have i11:(11:Int)+2*(k:Int)=((11+2*k:Nat):Int):=by omega
  have mk:∀ {a:Int},IntMulOk a (k:Int):=λ{a}=>qId (by omega) (by omega)
  have step:∀ wide:Int,0<wide->wide<=1000000000->qQx 3 (qN2 (qAc (fOp qRl (fOp qFv (fLs qE8 (qAc (fOp qCc (qAd 2) (fOp qDs (fC (.int 10)) (fOp qDa (fC (.int 2)) (qAd 4)))) qAl)) (fOp qDs (fOp qDa (fC (.int 2)) (qAd 8)) (fC (.int 1)))) (qAd 8)) (qAc (fOp qDs (fC (.int 1)) (fOp qFv (fLs qE8 (qAc (fOp qCc (qAd 2) (fOp qDs (fC (.int 11)) (fOp qDa (fC (.int 2)) (qAd 4)))) qAl)) (fC (.int 5)))) qAl))) (qAd 4) { FD with nx:=qDk (qB1 4) chA FD (qIl ((k:Int)+1) r),ct:=qDk (qB1 4) chA FD (qIl ((k:Int)+1) r),bk:=FD.nx } (ChE ps c ns qs (some (.int (k:Nat))) v5 v6 v7 (some (.int wide))):=λwide w0 w1=>by
   unfold ChE
   simp_arith []
   refine ⟨mk, ?_⟩
   rw [i10]
   refine qFd hr (by omega) λa a0 a1 => ?_
   simp_arith []
   refine ⟨qId (by omega) (by omega),by omega,mk, ?_⟩
   rw [i11]
   refine qFd hr (by omega) λb b0 b1 => ?_
   simp_arith []
   refine ⟨by decide,by decide,k,qVc (by rw [qEl];omega), ?_⟩
   obtain ⟨f0,f1⟩:=qPp (a:=a) (b:=2*wide+1) (by omega)
   obtain ⟨g0,g1⟩:=qPp (a:=b) (b:=5) (by decide)
   rw [show D.tup [.int (a.fmod (2*wide+1) - wide), .int (1+b.fmod 5)]=prT (a.fmod (2*wide+1) - wide,1+b.fmod 5) from rfl,qZb]
   have:=qAjd hn hr hl l1 fin r (k+1) (qs.set k (a.fmod (2*wide+1) - wide,1+b.fmod 5)) (some (.int (k:Nat))) v5 v6 v7 (some (.int wide)) (by omega) (by rw [List.length_set];exact lq) (λq=>qAfh hq (qAed hn (by omega) (by omega) (by omega)))
   rw [show ((k+1:Nat):Int)=(k:Int)+1 by omega] at this
   exact this
  rw [qE1]
  unfold qDk chA ChE
  simp only [qBf,qGz,fB,qQk,qAd,fC,fOp,fUn,fLs,qEz,qAkm,qJn,qAs,qAc,qAl,qC6,fNev,qFl,qDo,qZ7,qAbx,fAsg,fPar,qMa,fAnd,fOr,qNe,fOrV,qUr,fIf,fTru,qKd,qN2,qAce,qAcv,qB1,qHd,qNc,fBr,fBor,qPc,fAug,qAd0,qMd,fSl,qI2,qW7,fItL,fItT,fIt,qZz,fBrk,fCnt,qF9,qBb,toB,oI,oI0,qZf,oAbs,oMax,oMin,qE8,qRi,qQe,qTm,qO5,oCat,oIsB,qAly,oEq,oNe,eqD,oIsN,qAao,isN,qAbe,qAbq,qAb9,qAcl,qAa2,qAfg,qAmb,qAlg,qAka,qWe,qWc,qUy,qAfm,qU7,qAl4,qAlu,qAmo,qAlv,qAm2,qAlo,qAld,qAdg,qAff,qAd9,qAbh,qAkr,qAla,qAey,qAbm,qCc,qGu,InsD,List.map_cons,List.map_nil,List.cons_append,List.nil_append,Za0,List.length_nil,List.getElem?_cons_zero,List.getElem?_cons_succ,List.set_cons_zero,List.set_cons_succ,List.replicate_succ,List.replicate_zero,Option.some.injEq,exists_eq_left',qQb,qNm,if_true,if_false,List.append_nil,true_and,and_true,true_or,or_true,Bool.false_eq_true,Bool.true_eq_false,reduceCtorEq,Nat.add_one_sub_one,Nat.reduceSub,Nat.reduceAdd,Nat.sub_self,Nat.zero_add,Nat.add_sub_cancel,e9]
  refine ⟨⟨by decide,by decide,by decide⟩,by decide, ?_⟩
  refine qFd (i:=1) hr (by omega) λa a0 a1 => ?_
  simp only [qBf,qGz,fB,qQk,qAd,fC,fOp,fUn,fLs,qEz,qAkm,qJn,qAs,qAc,qAl,qC6,fNev,qFl,qDo,qZ7,qAbx,fAsg,fPar,qMa,fAnd,fOr,qNe,fOrV,qUr,fIf,fTru,qKd,qN2,qAce,qAcv,qB1,qHd,qNc,fBr,fBor,qPc,fAug,qAd0,qMd,fSl,qI2,qW7,fItL,fItT,fIt,qZz,fBrk,fCnt,qF9,qBb,toB,oI,oI0,qZf,oAbs,oMax,oMin,qE8,qRi,qQe,qTm,qO5,oCat,oIsB,qAly,oEq,oNe,eqD,oIsN,qAao,isN,qAbe,qAbq,qAb9,qAcl,qAa2,qAfg,qAmb,qAlg,qAka,qWe,qWc,qUy,qAfm,qU7,qAl4,qAlu,qAmo,qAlv,qAm2,qAlo,qAld,qAdg,qAff,qAd9,qAbh,qAkr,qAla,qAey,qAbm,qCc,qGu,InsD,List.map_cons,List.map_nil,List.cons_append,List.nil_append,Za0,List.length_nil,List.getElem?_cons_zero,List.getElem?_cons_succ,List.set_cons_zero,List.set_cons_succ,List.replicate_succ,List.replicate_zero,Option.some.injEq,exists_eq_left',qQb,qNm,if_true,if_false,List.append_nil,true_and,and_true,true_or,or_true,Bool.false_eq_true,Bool.true_eq_false,reduceCtorEq,Nat.add_one_sub_one,Nat.reduceSub,Nat.reduceAdd,Nat.sub_self,Nat.zero_add,Nat.add_sub_cancel]
  refine ⟨by decide, ?_⟩
  obtain ⟨f0,f1⟩:=qPp (a:=a) (b:=2) (by decide)
  refine ixT2 f0 f1 ?_ ?_
  ·exact step 4 (by decide) (by decide)
  ·exact step 1000000000 (by decide) (by decide)
theorem qAid{FD:FEnds}{ps:List (Int × Int)}{c:Int}{ns:List Int}{n:Nat}(l0:0<ps.length)(l1:ps.length<=100)(hr:InR 1000000000000 ns)(hl:ns.length=10+2*ps.length)
  (fin:∀ qs v4 v5 v6 v7 v8,qs.length=ps.length->(∀ q,q∈qs->SzP (n+105) q)->FD.nx (ChE ps c ns qs v4 v5 v6 v7 v8)):∀ (r k:Nat) (qs:List (Int × Int)) (v4 v5 v6 v7 v8:Option D),k+r<=3->qs.length=ps.length->(∀ q,q∈qs->SzP (n+35*k) q)->
  qDk (qB1 4) chB FD (qIl (k:Nat) r) (ChE ps c ns qs v4 v5 v6 v7 v8)
 | 0,k,qs,v4,v5,v6,v7,v8,hk,lq,hq=>fin qs _ _ _ _ _ lq (λq h=>(hq q h).mono (by omega))
 | r+1,k,qs,v4,v5,v6,v7,v8,hk,lq,hq=>by
  have i3:(3:Int)+2*(k:Int)=((3+2*k:Nat):Int):=by omega
  have i4:(4:Int)+2*(k:Int)=((4+2*k:Nat):Int):=by omega
  have mk:∀ {a:Int},IntMulOk a (k:Int):=λ{a}=>qId (by omega) (by omega)
  rw [qE1]
  unfold qDk chB ChE
  simp_arith [e9]
  refine ⟨mk, ?_⟩
  rw [i3]
  refine qFd hr (by omega) λa a0 a1 => ?_
  simp_arith [qEl]
  refine ⟨by omega, ?_⟩
  obtain ⟨f0,f1⟩:=qPp (a:=a) (b:=(ps.length:Nat)) (by omega)
  obtain ⟨j,hj⟩:∃ j:Nat,a.fmod (ps.length:Nat)=(j:Int):=⟨(a.fmod (ps.length:Nat)).toNat,by omega⟩
  rw [hj] at f1
  have hjl:j<qs.length:=by omega
  have gq:(qEg qs)[j]?=some (prT qs[j]):=qMj (Za3 hjl)
  have zq:=hq _ (List.getElem_mem hjl)
  refine ⟨⟨by decide,by decide,by decide⟩,by decide, ?_⟩
  refine qFd (i:=9) hr (by omega) λd d0 d1 => ?_
  simp_arith []
  refine ⟨by decide, ?_⟩
  obtain ⟨g0,g1⟩:=qPp (a:=d) (b:=3) (by decide)
  have go:∀ u:Int,0<u->u<=1000000000->chB2 { FD with nx:=qDk (qB1 4) chB FD (qIl ((k:Int)+1) r),ct:=qDk (qB1 4) chB FD (qIl ((k:Int)+1) r),bk:=FD.nx } (ChE ps c ns qs (some (.int (k:Nat))) (some (.int (j:Nat))) (some (.int u)) v7 v8):=λu u0 u1=>by
   unfold chB2 ChE
   simp_arith []
   refine ⟨mk, ?_⟩
   rw [i4]
   refine qFd hr (by omega) λz z0 z1 => ?_
   simp_arith []
   refine ⟨by decide, ?_⟩
   obtain ⟨y0,y1⟩:=qPp (a:=z) (b:=9) (by decide)
   refine qDy rfl gq ?_
   simp_arith [ixt0,ixt1]
   refine ⟨qId (by omega) (by omega),qDy rfl gq ?_⟩
   simp_arith [ixt0,ixt1]
   refine ⟨qAi1 (by omega) (by omega),qDy rfl gq ?_⟩
   simp_arith [ixt0,ixt1]
   refine ⟨qId (by omega) (by omega),by decide,j,qVc (by rw [qEl];exact hjl), ?_⟩
   rw [show D.tup [.int (qs[j].1*u+(z.fmod 9 - 4)*qs[j].2), .int (qs[j].2*u)]=prT (qs[j].1*u+(z.fmod 9 - 4)*qs[j].2,qs[j].2*u) from rfl,qZb]
   have:=qAid (n:=n) l0 l1 hr hl fin r (k+1) (qs.set j (qs[j].1*u+(z.fmod 9 - 4)*qs[j].2,qs[j].2*u)) (some (.int (k:Nat))) (some (.int (j:Nat))) (some (.int u)) (some (.int (z.fmod 9 - 4))) v8 (by omega) (by rw [List.length_set];exact lq) (λq=>qAfh (λz hz=>(hq z hz).mono (by omega)) ((qAmz zq u0 u1 (by omega) (by omega)).mono (by omega)))
   rw [show ((k+1:Nat):Int)=(k:Int)+1 by omega] at this
   exact this
  rw [hj]
  refine ixT3 g0 g1 ?_ ?_ ?_
  ·exact go 1 (by decide) (by decide)
  ·exact go 7 (by decide) (by decide)
  ·exact go 1000000000 (by decide) (by decide)
theorem qS2{cs:List Str}(hR:("Ratio":Str)∈cs)(ds:List D)(P:D->Prop)(X:XP)(h:qEq ds P X):qLn cs (qF9 P X0) (qBb 9 ds):=by
 obtain ⟨ps,c,n,rfl,l0,l1,hn,hp,p⟩:=h
 show qAh5 cs (qF9 P X0) (qBb 9 [.lst (qEg ps), .int c])
 unfold qAh5
 simp_arith [e12,qEl]
 refine ⟨qId (by omega) (by omega),⟨by decide,by decide,by decide⟩, ?_⟩
 refine ⟨_,_,_,rfl,by omega,by omega,by decide,λns hl hr => ?_⟩
 have hl':ns.length=10+2*ps.length:=by omega
 unfold qAjy
 simp_arith []
 refine ⟨by decide, ?_⟩
 have last:∀ qs v4 v5 v6 v7 v8,qs.length=ps.length->(∀ q,q∈qs->SzP n q)->qAa5 cs (qF9 P X0) (ChE ps c ns qs v4 v5 v6 v7 v8):=λqs v4 v5 v6 v7 v8 lq hq=>by
  unfold qAa5 ChE
  simp_arith [qIk,qDq]
  refine qFd (i:=2) hr (by omega) λa a0 a1 => ?_
  simp_arith []
  refine ⟨by decide, ?_⟩
  obtain ⟨f0,f1⟩:=qPp (a:=a) (b:=4) (by decide)
  refine ⟨by omega,by omega, ?_⟩
  refine qAid (n:=n) l0 l1 hr hl' (λqs v4 v5 v6 v7 v8 lq hq => ?_) (a.fmod 4).toNat 0 qs v4 v5 v6 v7 v8 (by omega) lq (λq h=>(hq q h).mono (by omega))
  show qAc4 cs _ _
  unfold qAc4 ChE
  exact ⟨_,rfl,p qs lq hq⟩
 unfold qAiz
 simp_arith []
 refine qFd (i:=0) hr (by omega) λa a0 a1 => ?_
 simp_arith [qIk,qDq]
 refine ⟨by decide, ?_⟩
 split
 ·simp_arith [qEl]
  refine ⟨by omega,by omega, ?_⟩
  rw [Int.toNat_natCast]
  exact qAjd hn hr hl' l1 (λqs v4 v5 v6 v7 v8 lq hq=>last qs v4 v5 v6 v7 v8 lq hq) ps.length 0 ps none none none none none (by omega) rfl hp
 ·exact last ps none none none none none rfl hp
theorem qAak{K:W.Frag}{cs:List Str}(vs:List V)(H:Hp)(Q:VK)(E:XK)(h:(lift K qOn) vs H Q E):vs.length=5:=qA0 (λds P X h=>by unfold qOn at h;first | ((repeat (first | (obtain ⟨rfl,_⟩:=h;exact rfl) | obtain ⟨_,h⟩:=h));done) | (split at h <;> first | rfl | exact h.elim)) h
theorem qAds{K:W.Frag}{cs:List Str}(T:KF K cs)(hRa:("Ratio":Str)∈cs)(vs:List V)(H:Hp)(Q:VK)(E:XK)(h:(lift K qOn) vs H Q E):qNk K cs { nx:=λ_ H'=>Q .non H',rt:=Q } (start ["_law_tops","_law_parts","_law_under","_law_bottom","_law_size","_law_row_here","_law_powers","_law_scale_here","_law_k","_law_at"] vs) H:=
 qD1 rfl (qAf7 T hRa) (qAgs hRa) vs H Q E h
theorem qQ6{K:W.Frag}{cs:List Str}(vs:List V)(H:Hp)(Q:VK)(E:XK)(h:(lift K qCe) vs H Q E):vs.length=1:=qA0 (λds P X h=>by unfold qCe at h;first | ((repeat (first | (obtain ⟨rfl,_⟩:=h;exact rfl) | obtain ⟨_,h⟩:=h));done) | (split at h <;> first | rfl | exact h.elim)) h
theorem qTl{K:W.Frag}{cs:List Str}(T:KF K cs)(hRa:("Ratio":Str)∈cs)(vs:List V)(H:Hp)(Q:VK)(E:XK)(h:(lift K qCe) vs H Q E):qHm K cs { nx:=λ_ H'=>Q .non H',rt:=Q } (start ["_law_row_here","_law_pair_here"] vs) H:=
 qD1 rfl (qWr T hRa) (qVu hRa) vs H Q E h
theorem qOp{K:W.Frag}{cs:List Str}(vs:List V)(H:Hp)(Q:VK)(E:XK)(h:(lift K qEq) vs H Q E):vs.length=2:=qA0 (λds P X h=>by unfold qEq at h;first | ((repeat (first | (obtain ⟨rfl,_⟩:=h;exact rfl) | obtain ⟨_,h⟩:=h));done) | (split at h <;> first | rfl | exact h.elim)) h
theorem qQm{K:W.Frag}{cs:List Str}(T:KF K cs)(hRa:("Ratio":Str)∈cs)(vs:List V)(H:Hp)(Q:VK)(E:XK)(h:(lift K qEq) vs H Q E):qGl K cs { nx:=λ_ H'=>Q .non H',rt:=Q } (start ["_law_row_here","_law_cell_here","_law_digits","_law_found","_law_k","_law_at","_law_under","_law_by","_law_wide"] vs) H:=
 qD1 rfl (qT7 T hRa) (qS2 hRa) vs H Q E h
def sclF(s:Int)(p:Int × Int):Int:=s*p.2.fdiv ((Int.gcd s p.2:Nat):Int)
def qAi9(ps:List (Int × Int)):Int:=ps.foldl sclF 1
def ci(xs:List Int)(k:Nat):Int:=xs.getD k 0
theorem qSv{xs:List Int}{k:Nat}(h:k<xs.length):xs[k]?=some (ci xs k):=by
 unfold ci
 rw [Zak,Za3 h]
 rfl
def SzI(n:Nat)(xs:List Int):Prop:=∀ x,x∈xs->x.natAbs<2 ^ n
def ndP(q:Rat):Int × Int:=(q.num,((q.den:Nat):Int))
def qLf:FSp:=λds P _=>∃ q,ds=[.rat q]/\P (prT (ndP q))
structure SzW (n:Nat) (p:Int × Int):Prop where
 a:p.1.natAbs<2 ^ n
 b:p.2.natAbs<2 ^ n
theorem qAh6{n:Nat}{q:Rat}(h:Sz n q):SzW n (ndP q):=⟨h.num,dsz h⟩
def qGc(K:W.Frag)(cs:List Str):TS:=
 (tRet (tAndV (tCB (rIsi K) (tCons (tVar 0) (tCons (tC (.ty "int")) tNil))) (tNotV (tCB (rIsi K) (tCons (tVar 0) (tCons (tC (.ty "bool")) tNil))))))
def qLb(cs:List Str):FS:=
 (qEz (qNe (qQk cs (.ty "int") (qAd 0)) (qUr (qQk cs (.ty "bool") (qAd 0)))))
theorem qRp{K:W.Frag}{cs:List Str}(T:KF K cs)(hRa:("Ratio":Str)∈cs):SS K Ta [] [] [] [] (λ_=>E0) (qGc K cs) (qLb cs):=
 (qBa (by decide) (qKr (qG0 (c:=(.ty "int")) T.toKT (qAa (by decide))) (qAfj (qG0 (c:=(.ty "bool")) T.toKT (qAa (by decide))))))
def qKz(K:W.Frag)(cs:List Str):TS:=
 (tSeq (tIfS (tNot (tB (tCB (rIsi K) (tCons (tVar 0) (tCons (tC (.ref (He.ga K "Ratio"))) tNil))))) (tRet (tC .non)) tNext)
 (tSeq (tIfS (tOr (tNot (tB (tCall (lift K (qD3 cs)) [] E0 (tCons (tFld K (tVar 0) "top") tNil)))) (tOr (tNot (tB (tCall (lift K (qD3 cs)) [] E0 (tCons (tFld K (tVar 0) "bottom") tNil)))) (tTest (tOp rLt0 (tFld K (tVar 0) "bottom") (tC (.int 1)))))) (tRet (tC .non)) tNext)
 (tRet (tTup (tCons (tFld K (tVar 0) "top") (tCons (tFld K (tVar 0) "bottom") tNil))))))
def qN1(cs:List Str):FS:=
 (qBf (qGz (qMa (fB (qQk cs (.own "Ratio") (qAd 0)))) (qEz (fC .non)) qC6)
 (qBf (qGz (fOr (qMa (fB (qAs (qD3 cs) [] (qAc (qFl "Ratio" "top" (qAd 0)) qAl)))) (fOr (qMa (fB (qAs (qD3 cs) [] (qAc (qFl "Ratio" "bottom" (qAd 0)) qAl)))) (fB (fOp oLt (qFl "Ratio" "bottom" (qAd 0)) (fC (.int 1)))))) (qEz (fC .non)) qC6)
 (qEz (qN2 (qAc (qFl "Ratio" "top" (qAd 0)) (qAc (qFl "Ratio" "bottom" (qAd 0)) qAl))))))
theorem qAez{K:W.Frag}{cs:List Str}(T:KF K cs)(hRa:("Ratio":Str)∈cs):SS K Ta [] [] [] [] (λ_=>E0) (qKz K cs) (qN1 cs):=
 (qAi (ow1:=[]) (qEd (by decide) (qFc (qL1 (qG0 (c:=(.own "Ratio")) T.toKT (qAa (by decide))))) (qBa (by decide) qT5) (qBd (by decide)))
 (qAi (ow1:=[]) (qEd (by decide) (qNo (qFc (qL1 (qAr Lift.refl qAn (qAb (qAz (T.fld _ hRa _ (by decide)) (qAa (by decide))) qAe)))) (qNo (qFc (qL1 (qAr Lift.refl qAn (qAb (qAz (T.fld _ hRa _ (by decide)) (qAa (by decide))) qAe)))) (qCl (qAf (λ_=>qAmm) (qAz (T.fld _ hRa _ (by decide)) (qAa (by decide))) qAg)))) (qBa (by decide) qT5) (qBd (by decide)))
 (qBa (by decide) (qNj (qAb (qAz (T.fld _ hRa _ (by decide)) (qAa (by decide))) (qAb (qAz (T.fld _ hRa _ (by decide)) (qAa (by decide))) qAe))))))
theorem qR5{cs:List Str}(hR:("Ratio":Str)∈cs)(ds:List D)(P:D->Prop)(X:XP)(h:qD3 cs ds P X):qLb cs (qF9 P X0) (qBb 1 ds):=qKq hR ds P X h
theorem qAc8{cs:List Str}(hR:("Ratio":Str)∈cs)(ds:List D)(P:D->Prop)(X:XP)(h:qLf ds P X):qN1 cs (qF9 P X0) (qBb 1 ds):=by
 obtain ⟨q,rfl,p⟩:=h
 have d0:¬ (((q.den:Nat):Int)<1):=by have:=q.den_pos;omega
 simp_arith [qN1,qD8 hR,Bool.not_true,qEs,qEu]
 refine ⟨_,true,rfl,rfl, ?_⟩
 simp_arith [Bool.not_true]
 refine ⟨_,true,rfl,rfl, ?_⟩
 simp_arith [Bool.not_true,decide_eq_false d0]
 exact ⟨by decide,p⟩
theorem qOj{K:W.Frag}{cs:List Str}(vs:List V)(H:Hp)(Q:VK)(E:XK)(h:(lift K (qD3 cs)) vs H Q E):vs.length=1:=qA0 (λds P X h=>by unfold qD3 at h;first | ((repeat (first | (obtain ⟨rfl,_⟩:=h;exact rfl) | obtain ⟨_,h⟩:=h));done) | (split at h <;> first | rfl | exact h.elim)) h
theorem qRh{K:W.Frag}{cs:List Str}(T:KF K cs)(hRa:("Ratio":Str)∈cs)(vs:List V)(H:Hp)(Q:VK)(E:XK)(h:(lift K (qD3 cs)) vs H Q E):qGc K cs { nx:=λ_ H'=>Q .non H',rt:=Q } (start ["_law_value"] vs) H:=
 qD1 rfl (qRp T hRa) (qR5 hRa) vs H Q E h
theorem qV2{K:W.Frag}{cs:List Str}(vs:List V)(H:Hp)(Q:VK)(E:XK)(h:(lift K qLf) vs H Q E):vs.length=1:=qA0 (λds P X h=>by unfold qLf at h;first | ((repeat (first | (obtain ⟨rfl,_⟩:=h;exact rfl) | obtain ⟨_,h⟩:=h));done) | (split at h <;> first | rfl | exact h.elim)) h
theorem qAas{K:W.Frag}{cs:List Str}(T:KF K cs)(hRa:("Ratio":Str)∈cs)(vs:List V)(H:Hp)(Q:VK)(E:XK)(h:(lift K qLf) vs H Q E):qKz K cs { nx:=λ_ H'=>Q .non H',rt:=Q } (start ["_law_value"] vs) H:=
 qD1 rfl (qAez T hRa) (qAc8 hRa) vs H Q E h
structure BarOk (f b:List Rat) (o:Option (List Rat)):Prop where
 zf:SzL 100 f
 zb:SzL 100 b
 zo:∀ q,o=some q->SzL 100 q/\q.length<=6
 lf:f.length<=3
 lb:b.length<=6
theorem qAbo{cs es:List Rat}{n m:Nat}(z1:SzL n cs)(z2:SzL m es)(n0:0<n)(m0:0<m):SzL (1+cs.length*(n+m+1)) (qBc cs es):=λc hc=>by
 unfold qBc at hc
 split at hc
 ·simp at hc
 ·obtain ⟨k,_,rfl⟩:=List.mem_map.mp hc
  exact qWy z1 z2 n0 m0 _ _
theorem qAcs(cs es:List Rat):(qBc cs es).length<=cs.length+es.length:=by
 unfold qBc
 split
 ·simp
 ·simp
section
variable {f b:List Rat} {o:Option (List Rat)} {q:List Rat}
theorem BarOk.m1(h:BarOk f b o):MulSz f b:=qM4 h.zf h.zb (by decide) (by decide) (Zaf (Nat.mul_le_mul_right _ (show f.length+1<=4 by have:=h.lf;omega)) (by decide))
theorem BarOk.z1(h:BarOk f b o):SzL 604 (strip (qBc f b)):=qSs λc hc=>(qAbo h.zf h.zb (by decide) (by decide) c hc).mono (by
 have:f.length*(100+100+1)<=3*(100+100+1):=Nat.mul_le_mul_right _ h.lf
 omega)
theorem BarOk.l1(h:BarOk f b o):(strip (qBc f b)).length<=9:=Zaf (qXm _) (Zaf (qAcs f b) (by have:=h.lf;have:=h.lb;omega))
theorem BarOk.m2(h:BarOk f b o)(zq:SzL 100 q):MulSz (strip (qBc f b)) q:=qM4 h.z1 zq (by decide) (by decide) (Zaf (Nat.mul_le_mul_right _ (show _+1<=10 by have:=h.l1;omega)) (by decide))
theorem BarOk.z2(h:BarOk f b o)(zq:SzL 100 q):SzL 6346 (strip (qBc (strip (qBc f b)) q)):=qSs λc hc=>(qAbo h.z1 zq (by decide) (by decide) c hc).mono (by
 have:(strip (qBc f b)).length*(604+100+1)<=9*(604+100+1):=Nat.mul_le_mul_right _ h.l1
 omega)
theorem BarOk.l2(h:BarOk f b o)(lq:q.length<=6):(strip (qBc (strip (qBc f b)) q)).length<=15:=Zaf (qXm _) (Zaf (qAcs _ q) (by have:=h.l1;omega))
end
end MR
namespace MR
open PySem PySem.Spec PyProof.Rows L2 LamX
theorem qAex{lo:Int}{n x:Nat}{tb:TS}{D:L2.Ends}{σ:L2.St}{H:Hp}(W:Nat->L2.St->Hp->Prop)(h0:W 0 σ H)(step:∀ i,i<n->∀ σ H,W i σ H->tb { D with nx:=W (i+1),ct:=W (i+1),bk:=D.nx } (σ.set x (some (.int (lo+(i:Int))))) H)(fin:∀ σ H,W n σ H->D.nx σ H) :
  ∃ W':Nat->Nat->L2.St->Hp->Prop,(∃ m,W' 0 m σ H)/\∀ i m σ H,W' i m σ H->((Itr lo n).stop i H/\D.nx σ H)\/((Itr lo n).go i H/\∃ N:L2.St->Hp->Prop,(∀ σ' H',N σ' H'->∃ m',m'<m/\W' (i+1) m' σ' H')/\∀ y H',(Itr lo n).yld i H y H'->gName x y σ H' λσ2 H2=>tb { D with nx:=N,ct:=N,bk:=D.nx } σ2 H2):=by
 refine ⟨λi m σ H=>i<=n/\m=n - i/\W i σ H,⟨n,Nat.zero_le _,rfl,h0⟩,λi m σ H ⟨hi,hm,w⟩ => ?_⟩
 by_cases e:i=n
 ·left
  subst e
  exact ⟨Za9 _,fin σ H w⟩
 ·right
  have hlt:i<n:=by omega
  refine ⟨hlt,W (i+1),λσ' H' w'=>⟨n - (i+1),by omega,by omega,rfl,w'⟩,λy H' hy => ?_⟩
  obtain ⟨rfl,rfl⟩:=hy
  exact step i hlt σ H' w
def qIe(K:W.Frag)(fsp:FSp):Sp:=λvs H Q E=>∃ (F:Fd) (M:Addr->Prop) (ds:List D) (P:D->Prop),Lv K F M H/\Reps K F M H ds vs/\fsp ds P X0/\
 (∀ d0 rest a b us zs H',P (.lst (.lst d0 :: rest))->Gr K F H H'->H b=none->H' a=some (.lst (.ref b :: us))->H' b=some (.lst zs)->Rep K F M H' (.lst (.lst d0 :: rest)) (.ref a)->Q (.ref a) H')
theorem Lift.d1{K:W.Frag}{fsp:FSp}(hx:∀ ds P X,fsp ds P X->fsp ds P X0):Lift K (qIe K fsp) fsp:=by
 intro vs H Q E h
 obtain ⟨F,M,ds,P,X,lv,r,hs,q,x⟩:=h
 exact ⟨F,M,ds,P,lv,r,hx _ _ _ hs,λd0 rest a b us zs H' p g _ _ _ r=>q _ _ _ p g r⟩
theorem qAoq{K:W.Frag}{fsp:FSp}{n:Nat}(h:∀ ds P X,fsp ds P X->ds.length=n){vs:List V}{H:Hp}{Q:VK}{E:XK}(l:qIe K fsp vs H Q E):vs.length=n:=by
 obtain ⟨F,M,ds,P,lv,r,hs,_⟩:=l
 rw [r.length]
 exact h ds P X0 hs
section
variable {K:W.Frag} {Ta:List (Addr × Str)} {w:Wd} {ow ow' ow1 owb owx:List Nat} {H H':Hp} {σ:L2.St} {ρ:Env} {E:L2.St->XK}
theorem REnv.growU(e:REnv K Ta w ow H σ ρ)(g:Gr K w.F H H'){b:Addr}{o o':HO}(hb:H b=none)(h1:H' b=some o)(hp:Pl o):REnv K Ta w ow (upd H' b o') σ ρ:=by
 refine e.grow ⟨λp u hu n => ?_,λf c hf h => ?_,λt=>qJ4 (g.tab t) h1 hp⟩
 ·rw [upd_ne (λz=>by rw [z,hb] at hu;cases hu)]
  exact g.old p u hu n
 ·have ff:H f≠none:=λz=>by obtain ⟨o,e⟩:=h.some;rw [z] at e;cases e
  have cc:H c≠none:=λz=>by obtain ⟨_,_,_,_,_,_,o,_,e⟩:=h;rw [z] at e;cases e
  exact (g.feed f c hf h).keep (λz=>ff (by rw [<-z];exact hb)) λz=>cc (by rw [<-z];exact hb)
def qYe(fsp:FSp)(i j k:Nat)(fa:FA)(fe:FE)(fc:FT)(fn:FA)(f1 f2:FT)(fr:FS):FS:=λFD ρ=>
 i<ρ.length/\fa ρ (λds=>fsp ds (λdd=>∀ d0 rest,dd = .lst (.lst d0 :: rest)->d0.length<1000/\fe (ρ.set i (some dd)) (λdue=>(∃ dl,due = .lst dl)/\fc ((ρ.set i (some dd)).set j (some due)) (λb=>b=false/\
  fn ((ρ.set i (some dd)).set j (some due)) (λas=>∃ n:Nat,as=[.int (n:Int)]/\0<n/\n<1000/\
   (∀ q:Nat,q<n->f1 (((ρ.set i (some dd)).set j (some due)).set k (some (.int (q:Int)))) (λb=>b=false/\f2 (((ρ.set i (some dd)).set j (some due)).set k (some (.int (q:Int)))) (λb=>b=false) X0) X0)/\
   fr FD (((ρ.set i (some .exc)).set j (some .exc)).set k (some (.int (((n - 1:Nat):Int)))))) X0) X0) X0) X0) X0
theorem px00{F:Fd}{M:Addr->Prop}{E1:XK}:PostX K F M H X0 E1:=λ_ _ _ _ z _ _=>z.elim
theorem qAhe{fsp:FSp}{i j k:Nat}{ta tn:TA}{te:TE}{tc t1 t2:TT}{u0 u1 u2 tr:TS}{fa fn:FA}{fe:FE}{fc f1 f2:FT}{fr:FS}{E1:XK}(ij:i≠j)(ik:i≠k)
  (ha:SA K Ta [] E ta fa) (he:SE K Ta [] E te fe) (hc:STt K Ta [] E tc fc) (hn:SA K Ta [] E tn fn) (h1:STt K Ta [] E t1 f1) (h2:STt K Ta [] E t2 f2) (hr:SS K Ta [] ow' owb owx E tr fr) :
  SS K Ta [] ow' owb owx E
   (tSeq (tAsg (tCall (qIe K fsp) [] E1 ta) (gName i)) (tSeq (tAsg te (gName j)) (tSeq (tIfS tc u0 tNext) (tSeq (tFor (iRng1 tn) (gName k) (tSeq (tIfS t1 u1 tNext) (tIfS t2 u2 tNext)))
    (tSeq (tDrop (tBM K "list" rAppend (tOp (rIxL K) (tVar i) (tC (.int 0))) (tCons (tC .non) tNil))) tr)))))
   (qYe fsp i j k fa fe fc fn f1 f2 fr):=by
 intro w H σ ρ N FD e h kk
 refine ha w H σ ρ _ X0 _ e h.2 (λds vs H1 hd g1 r1 => ?_) px00
 refine ⟨w.F,w.Mx [] σ,ds,_,(e.grow g1).lv,by rw [List.append_nil];exact r1,hd,λd0 rest a b us zs H2 p2 g2 hb ha2 hb2 r2 => ?_⟩
 have nm:∀ x:Nat,x ∉ ([]:List Nat):=λ_ h=>nomatch h
 have e2:=((e.grow g1).grow g2).put (i:=i) (nm i) r2
 refine he w H2 _ _ _ X0 _ e2 (p2 d0 rest rfl).2 (λdue v H3 hdue g3 r3 => ?_) px00
 obtain ⟨⟨dl,rfl⟩,hdue⟩:=hdue
 have e3:=(e2.grow g3).put (i:=j) (nm j) r3
 refine hc w H3 _ _ _ X0 _ e3 hdue (λc H4 hb4 g4 => ?_) px00
 obtain ⟨rfl,hb4⟩:=hb4
 have e4:=e3.grow g4
 refine hn w H4 _ _ _ X0 _ e4 hb4 (λas vn H5 has g5 r5 => ?_) px00
 obtain ⟨n,rfl,n0,nn,hq,hrest⟩:=has
 have e5:=e4.grow g5
 have ev:=Reps.ints (ns:=[(n:Int)]) r5
 refine ⟨(n:Int),ev,by omega,by omega, ?_⟩
 have hil:i<σ.length\/σ.length<=i:=Nat.lt_or_ge i σ.length
 rw [Int.toNat_natCast]
 have nf:=r2
 obtain ⟨pa,ua,ea,oka,ha2',ra⟩:=nf
 cases ea
 rw [ha2] at ha2'
 cases ha2'
 obtain ⟨vb,ub,eb,rb,_⟩:=ra
 cases eb
 obtain ⟨pb,ubs,eb,okb,hb2',rz⟩:=rb
 cases eb
 have g25:Gr K w.F H2 H5:=(g3.trans g4).trans g5
 refine qAex (λx σ' H'=>Gr K w.F H5 H'/\(x=0->σ'=(σ.set i (some (.ref a))).set j (some v))/\(0<x->σ'=((σ.set i (some (.ref a))).set j (some v)).set k (some (.int ((x - 1:Nat):Int))))) ⟨.refl,λ_=>rfl,λh=>absurd h (Nat.lt_irrefl 0)⟩ (λx hx σ' H' wv => ?_) (λσ' H' wv => ?_)
 ·obtain ⟨g,w0,w1⟩:=wv
  have es:σ'.set k (some (.int (0+(x:Int))))=((σ.set i (some (.ref a))).set j (some v)).set k (some (.int (x:Int))):=by
   rw [Int.zero_add]
   by_cases h0:x=0
   ·rw [w0 h0]
   ·rw [w1 (by omega),List.set_set]
  rw [es]
  have e6:=(e5.grow g).put (i:=k) (nm k) (d := .int (x:Int)) (v := .int (x:Int)) rfl
  refine h1 w H' _ _ _ X0 _ e6 (hq x hx) (λc H6 h6 g6 => ?_) px00
  obtain ⟨rfl,h6⟩:=h6
  refine h2 w H6 _ _ _ X0 _ (e6.grow g6) h6 (λc H7 h7 g7 => ?_) px00
  subst h7
  exact ⟨(g.trans g6).trans g7,λz=>absurd z (Nat.succ_ne_zero x),λ_=>by rw [Nat.add_sub_cancel]⟩
 ·obtain ⟨g,_,w1⟩:=wv
  rw [w1 n0]
  have g27:Gr K w.F H2 H':=g25.trans g
  have ha7:=g27.old _ _ ha2 oka.1
  have hb7:=g27.old _ _ hb2 okb.1
  have hb0:H b=none:=by
   cases z:H b with
   | none=>rfl
   | some o=>rw [g1.old _ _ z okb.1] at hb;cases hb
  have hli:i<σ.length:=(e.imm i (nm i)).len.mp h.1
  have si:(((σ.set i (some (V.ref a))).set j (some v)).set k (some (.int ((n - 1:Nat):Int))))[i]?=some (some (.ref a)):=by
   rw [qA8,if_neg (Ne.symm ik),qA8,if_neg (Ne.symm ij),qA8,if_pos rfl,if_pos hli]
  have ln:zs.length=d0.length:=by
   rw [hb2] at hb2'
   cases hb2'
   exact rz.length
  have l1000:=(p2 d0 rest rfl).1
  have s24:sizeLine=16777216:=sizeLine_eq
  obtain ⟨pv,uv,rfl,_⟩:=r3
  refine ⟨_,si,a,_,0, .ref b,rfl,rfl,SqL.of ha7,L2.atI_nat (j:=0) rfl, .inl ⟨rfl,_,SqL.of hb7⟩, ?_⟩
  refine ⟨b,zs, .non,rfl,rfl,hb7,by omega, ?_⟩
  have ef:=e.growU (o' := .lst (zs ++ [.non])) ((g1.trans g2).trans g27) hb0 hb7 trivial
  exact hr w _ _ _ N FD (((ef.put (i:=i) (d := .exc) (nm i) ⟨a,rfl⟩).put (i:=j) (d := .exc) (nm j) ⟨pv,rfl⟩).put (i:=k) (d := .int ((n - 1:Nat):Int)) (nm k) rfl) hrest kk
end
end MR
namespace MR
open PySem PySem.Spec PyProof.Rows L2
structure Cd (n:Nat) (d:Int) (cs:List Rat):Prop where
 pos:0<d
 le:d.natAbs<=2 ^ n
 ov:∀ i,Ov (2 ^ n) d (coef cs i)
theorem qAjo{n m:Nat}(h:n<m){a:Nat}(ha:a<=2 ^ n):a<2 ^ m:=Nat.lt_of_le_of_lt ha (Nat.pow_lt_pow_right (by decide) h)
theorem qDe{n m:Nat}(h:n<=m):2 ^ n<=2 ^ m:=Zaa (by decide) h
theorem qLt{n:Nat}{d:Int}{q:Rat}(h:Ov (2 ^ n) d q)(hd:0<d)(hl:d.natAbs<=2 ^ n):Sz (n+1) q:=by
 have:=h.sz hd (qAjo (Nat.lt_succ_self n) (Za9 _)) (qAjo (Nat.lt_succ_self n) hl)
 rw [Nat.max_self] at this
 exact this
section
variable {n m:Nat} {d e:Int} {cs es:List Rat}
theorem Cd.mono(h:Cd n d cs)(hn:n<=m):Cd m d cs:=⟨h.pos,Zaf h.le (qDe hn),λi=>(h.ov i).mono (qDe hn)⟩
theorem Cd.sz(h:Cd n d cs)(i:Nat):Sz (n+1) (coef cs i):=qLt (h.ov i) h.pos h.le
theorem Cd.szL(h:Cd n d cs):SzL (n+1) cs:=λc hc=>by
 obtain ⟨i,hi,rfl⟩:=List.mem_iff_getElem.mp hc
 have:=h.sz i
 rw [qCt (Za3 hi)] at this
 exact this
theorem Cd.strip(h:Cd n d cs):Cd n d (strip cs):=⟨h.pos,h.le,λi=>by rw [qB8];exact h.ov i⟩
theorem Cd.of_coef(h:Cd n d cs)(he:∀ i,coef es i=coef cs i):Cd n d es:=⟨h.pos,h.le,λi=>by rw [he i];exact h.ov i⟩
theorem qL3{f g:Nat->Rat}{N M:Nat}(hf:∀ i,Ov N d (f i))(hg:∀ i,Ov M e (g i))(k:Nat):∀ n,Ov (n*(N*M)) (d*e) (conv f g n k)
 | 0=>Ov.zero
 | n+1=>by
  show Ov _ _ (conv f g n k+(if n<=k then f n*g (k - n) else 0))
  refine (Ov.add (M:=N*M) (qL3 hf hg k n) ?_).mono (by rw [Nat.add_mul,Nat.one_mul];exact Za9 _)
  split
  ·exact (hf n).mul (hg (k - n))
  ·exact Ov.zero
theorem qAca{N M:Nat}(hf:∀ i,Ov N d (coef cs i))(hg:∀ i,Ov M e (coef es i)):∀ n,Ov (n*(N*M)) (d*e) (qIp cs es n)
 | 0=>Ov.zero
 | n+1=>by
  show Ov _ _ (qIp cs es n+coef cs n*coef es n)
  exact (Ov.add (qAca hf hg n) ((hf n).mul (hg n))).mono (by rw [Nat.add_mul,Nat.one_mul];exact Za9 _)
theorem qSo{k:Nat}(hk:k<=16):k*(2 ^ n*2 ^ m)<=2 ^ (n+m+4):=by
 rw [Nat.pow_add,Nat.pow_add,Nat.mul_comm]
 exact Nat.mul_le_mul_left _ hk
theorem qB5{a b:Int}(ha:a.natAbs<=2 ^ n)(hb:b.natAbs<=2 ^ m):(a*b).natAbs<=2 ^ (n+m):=by
 rw [Zao,Nat.pow_add]
 exact Nat.mul_le_mul ha hb
theorem Cd.conv(h:Cd n d cs)(g:Cd m e es){j:Nat}(hj:j<=16)(k:Nat):Ov (2 ^ (n+m+4)) (d*e) (conv (coef cs) (coef es) j k):=(qL3 h.ov g.ov k j).mono (qSo hj)
theorem Cd.dot(h:Cd n d cs)(g:Cd m e es){j:Nat}(hj:j<=16):Ov (2 ^ (n+m+4)) (d*e) (qIp cs es j):=(qAca h.ov g.ov j).mono (qSo hj)
theorem Cd.de(h:Cd n d cs)(g:Cd m e es):(d*e).natAbs<=2 ^ (n+m+4):=Zaf (qB5 h.le g.le) (qDe (by omega))
theorem Cd.one(h:Cd n d cs)(g:Cd m e es)(i j:Nat):Ov (2 ^ (n+m+4)) (d*e) (coef cs i*coef es j):=((h.ov i).mul (g.ov j)).mono (by rw [<-Nat.pow_add];exact qDe (by omega))
theorem Cd.mul(h:Cd n d cs)(g:Cd m e es)(hl:cs.length<=16):Cd (n+m+4) (d*e) (qBc cs es):=⟨Int.mul_pos h.pos g.pos,h.de g,λi=>by rw [qFo];exact h.conv g hl i⟩
theorem Cd.mulSz(h:Cd n d cs)(g:Cd m e es)(hl:cs.length<=16)(hs:2*(n+m+5)<=900000):MulSz cs es:=by
 have p:=Int.mul_pos h.pos g.pos
 refine ⟨λi j _ _=>⟨_,_,h.sz i,g.sz j,by omega⟩,λi j hi _=>⟨_,_,qLt (h.conv g (by omega) (i+j)) p (h.de g),qLt (h.one g i j) p (h.de g),by omega⟩⟩
def qAlq(cs ms:List Rat):Prop:=∀ i,i<cs.length->qN3 (coef cs i) (coef ms i)/\qN3 (qIp cs ms i) (coef cs i*coef ms i)
theorem Cd.dotSz(h:Cd n d cs)(g:Cd m e es)(hl:cs.length<=16)(hs:2*(n+m+5)<=900000):qAlq cs es:=by
 have p:=Int.mul_pos h.pos g.pos
 exact λi hi=>⟨⟨_,_,h.sz i,g.sz i,by omega⟩,⟨_,_,qLt (h.dot g (by omega)) p (h.de g),qLt (h.one g i i) p (h.de g),by omega⟩⟩
theorem qAv(cs:List Rat)(k i:Nat):coef (cs.drop k) i=coef cs (k+i):=by
 unfold coef
 rw [List.getElem?_drop]
theorem Cd.drop(h:Cd n d cs)(k:Nat):Cd n d (cs.drop k):=⟨h.pos,h.le,λi=>by rw [qAv];exact h.ov _⟩
theorem qHz(cs:List Rat)(k i:Nat):coef (cs.take k) i=if i<k then coef cs i else 0:=by
 by_cases h:i<k
 ·rw [if_pos h,qSa h]
 ·rw [if_neg h,qAk (by rw [Zaj];omega)]
theorem Cd.take(h:Cd n d cs)(k:Nat):Cd n d (cs.take k):=⟨h.pos,h.le,λi=>by
 rw [qHz]
 split
 ·exact h.ov i
 ·exact Ov.zero⟩
theorem Cd.sh(h:Cd n d cs)(g:Cd m e es)(hl:cs.length<=16):Cd (n+m+4) (d*e) (shL cs es):=⟨Int.mul_pos h.pos g.pos,h.de g,λi=>by
 unfold shL
 rw [qCp]
 split
 ·exact h.dot (g.drop i) hl
 ·exact Ov.zero⟩
end
abbrev PW:=List Rat × Rat
def xL:List Rat:=[0,1]
def qUi(q:Rat):List Rat:=if q=0 then [] else [q]
def qDp(p ms:List Rat):Rat:=qIp p ms p.length
def xpN(p:List Rat):List Rat:=strip (qBc xL p)
def xppN(p:List Rat):List Rat:=strip (qBc (xpN p) p)
def alN(ms p:List Rat)(w:Rat):Rat:=qDp (xppN p) ms / w
def qLv(ms p:List Rat)(w:Rat):List Rat:=strip (qV5 xL (qKc (qUi (alN ms p w))))
def f1N(ms p:List Rat)(w:Rat):List Rat:=strip (qBc (qLv ms p w) p)
def beN(w:Rat)(b:PW):List Rat:=strip (qBc b.1 (qUi (w / b.2)))
def fN(ms p:List Rat)(w:Rat):Option PW->List Rat
 | none=>f1N ms p w
 | some b=>strip (qV5 (f1N ms p w) (qKc (beN w b)))
def sqN(p:List Rat):List Rat:=strip (qBc p p)
def qUb(ms:List Rat):Option PW->Option PW->PW
 | none,_=>([1],coef ms 0)
 | some (p,w),b=>(fN ms p w b,qDp (sqN (fN ms p w b)) ms)
def chN(ms:List Rat):Nat->PW × Option PW
 | 0=>(([1],coef ms 0),none)
 | k+1=>(qUb ms (some (chN ms k).1) (chN ms k).2,some (chN ms k).1)
theorem qJj(ms:List Rat)(k:Nat):chN ms (k+1)=(qUb ms (some (chN ms k).1) (chN ms k).2,some (chN ms k).1):=rfl
theorem qD4(q:Rat)(i:Nat):coef (qUi q) i=if i=0 then q else 0:=by
 unfold qUi
 by_cases h:q=0
 ·rw [if_pos h,qAk (Nat.zero_le _)]
  subst h
  simp
 ·rw [if_neg h]
  cases i with
  | zero=>rfl
  | succ i=>rw [qAk (by simp)];simp
theorem qAee(q:Rat):(qUi q).length<=1:=by
 unfold qUi
 split <;> simp
theorem qDd(cs:List Rat):(strip cs).length<=cs.length:=by rw [qFa];exact qT1 _ _
theorem qGy(cs es:List Rat):(qBc cs es).length<=cs.length+es.length - 1:=by
 unfold qBc
 split
 ·simp
 ·simp
theorem qAa6(p:List Rat):(xpN p).length<=p.length+1:=by
 have h1:=qDd (qBc xL p)
 have h2:=qGy xL p
 have:xL.length=2:=rfl
 unfold xpN
 omega
theorem qWm(p:List Rat):(xppN p).length<=2*p.length:=by
 have h1:=qDd (qBc (xpN p) p)
 have h2:=qGy (xpN p) p
 have h3:=qAa6 p
 unfold xppN
 omega
theorem qXu(ms p:List Rat)(w:Rat):(qLv ms p w).length<=2:=by
 have h1:=qDd (qV5 xL (qKc (qUi (alN ms p w))))
 have h2:=qMb xL (qKc (qUi (alN ms p w)))
 rw [qE5] at h2
 have h3:=qAee (alN ms p w)
 have:xL.length=2:=rfl
 unfold qLv
 omega
theorem qAbj(ms p:List Rat)(w:Rat):(f1N ms p w).length<=p.length+1:=by
 have h1:=qDd (qBc (qLv ms p w) p)
 have h2:=qGy (qLv ms p w) p
 have h3:=qXu ms p w
 unfold f1N
 omega
theorem qAdy(w:Rat)(b:PW):(beN w b).length<=b.1.length:=by
 have h1:=qDd (qBc b.1 (qUi (w / b.2)))
 have h2:=qGy b.1 (qUi (w / b.2))
 have h3:=qAee (w / b.2)
 unfold beN
 omega
theorem qAfn(p:List Rat):(sqN p).length<=2*p.length - 1:=by
 have h1:=qDd (qBc p p)
 have h2:=qGy p p
 unfold sqN
 omega
theorem qGr(ms:List Rat):∀ k,(chN ms k).1.1.length<=k+1/\∀ b,(chN ms k).2=some b->b.1.length<=k
 | 0=>⟨Za9 _,λb h=>by cases h⟩
 | k+1=>by
  obtain ⟨h1,h2⟩:=qGr ms k
  refine ⟨?_,λb h=>by cases h;exact h1⟩
  show (fN ms (chN ms k).1.1 (chN ms k).1.2 (chN ms k).2).length<=_
  have e1:=qAbj ms (chN ms k).1.1 (chN ms k).1.2
  cases hb:(chN ms k).2 with
  | none=>
   show (f1N ms (chN ms k).1.1 (chN ms k).1.2).length<=_
   omega
  | some q=>
   have e2:=qAdy (chN ms k).1.2 q
   have e3:=h2 q hb
   have e4:=qDd (qV5 (f1N ms (chN ms k).1.1 (chN ms k).1.2) (qKc (beN (chN ms k).1.2 q)))
   have e5:=qMb (f1N ms (chN ms k).1.1 (chN ms k).1.2) (qKc (beN (chN ms k).1.2 q))
   rw [qE5] at e5
   show (strip (qV5 (f1N ms (chN ms k).1.1 (chN ms k).1.2) (qKc (beN (chN ms k).1.2 q)))).length<=_
   omega
theorem qF3{cs ms ns:List Rat}:∀ {n:Nat},(∀ i,i<n->coef ms i=coef ns i)->qIp cs ms n=qIp cs ns n
 | 0,_=>rfl
 | n+1,h=>by
  show qIp cs ms n+coef cs n*coef ms n=qIp cs ns n+coef cs n*coef ns n
  rw [qF3 λi hi=>h i (by omega),h n (by omega)]
theorem qJe{ms ns:List Rat}:∀ {k:Nat},(∀ i,i<=2*k->coef ms i=coef ns i)->chN ms k=chN ns k
 | 0,h=>by
  show ((([1]:List Rat),coef ms 0),none)=((([1]:List Rat),coef ns 0),none)
  rw [h 0 (Za9 _)]
 | k+1,h=>by
  have ih:=qJe (ms:=ms) (ns:=ns) (k:=k) λi hi=>h i (by omega)
  rw [qJj,qJj, ←ih]
  obtain ⟨l1,l2⟩:=qGr ms k
  generalize chN ms k=c at l1 l2
  obtain ⟨⟨p,w⟩,b⟩:=c
  have l1:p.length<=k+1:=l1
  have ea:alN ms p w=alN ns p w:=by
   unfold alN qDp
   rw [qF3 λi hi=>h i (by have:=qWm p;omega)]
  have ef1:f1N ms p w=f1N ns p w:=by
   unfold f1N qLv
   rw [ea]
  have ef:fN ms p w b=fN ns p w b:=by
   cases b with
   | none=>exact ef1
   | some q=>
    exact congrArg (λz=>strip (qV5 z (qKc (beN w q)))) ef1
  have lf:(fN ms p w b).length<=k+2:=by
   have e1:=qAbj ms p w
   cases b with
   | none=>exact Zaf e1 (by omega)
   | some q=>
    have e2:=qAdy w q
    have e3:=l2 q rfl
    have e4:=qDd (qV5 (f1N ms p w) (qKc (beN w q)))
    have e5:=qMb (f1N ms p w) (qKc (beN w q))
    rw [qE5] at e5
    show (strip (qV5 (f1N ms p w) (qKc (beN w q)))).length<=_
    omega
  have ew:qDp (sqN (fN ms p w b)) ms=qDp (sqN (fN ms p w b)) ns:=by
   unfold qDp
   exact qF3 λi hi=>h i (by have:=qAfn (fN ms p w b);omega)
  have e1:qUb ms (some (p,w)) b=(fN ms p w b,qDp (sqN (fN ms p w b)) ms):=rfl
  have e2:qUb ns (some (p,w)) b=(fN ns p w b,qDp (sqN (fN ns p w b)) ns):=rfl
  have e3:qUb ms (some (p,w)) b=qUb ns (some (p,w)) b:=by rw [e1,e2, ←ef,ew]
  exact congrArg (λz=>(z,some (p,w))) e3
abbrev Fu:=Nat->Rat
def sm:Nat->Fu->Rat
 | 0,_=>0
 | n+1,F=>sm n F+F n
theorem qAh{F G:Fu}:∀ {n:Nat},(∀ i,i<n->F i=G i)->sm n F=sm n G
 | 0,_=>rfl
 | n+1,h=>by
  show sm n F+F n=sm n G+G n
  rw [qAh λi hi=>h i (by omega),h n (by omega)]
theorem qIn(F G:Fu):∀ n,sm n (λi=>F i+G i)=sm n F+sm n G
 | 0=>by show (0:Rat)=0+0;rw [Zac]
 | n+1=>by
  show sm n _+(F n+G n)=(sm n F+F n)+(sm n G+G n)
  rw [qIn F G n]
  grind
theorem qDx(c:Rat)(F:Fu):∀ n,sm n (λi=>c*F i)=c*sm n F
 | 0=>by show (0:Rat)=c*0;rw [Za1]
 | n+1=>by
  show sm n _+c*F n=c*(sm n F+F n)
  rw [qDx c F n,Rat.mul_add]
theorem qB0{F:Fu}:∀ {n:Nat},(∀ i,i<n->F i=0)->sm n F=0
 | 0,_=>rfl
 | n+1,h=>by
  show sm n F+F n=0
  rw [qB0 λi hi=>h i (by omega),h n (by omega),Zac]
theorem qEf{F:Fu}{n:Nat}(h:∀ i,n<=i->F i=0):∀ m,n<=m->sm m F=sm n F
 | 0,hm=>by rw [show n=0 by omega]
 | m+1,hm=>by
  by_cases e:n=m+1
  ·rw [e]
  ·show sm m F+F m=_
   rw [qEf h m (by omega),h m (by omega),Zac]
theorem qHx(F:Fu):∀ n,sm (n+1) F=F 0+sm n (λi=>F (i+1))
 | 0=>by show 0+F 0=F 0+0;rw [Zah,Zac]
 | n+1=>by
  show sm (n+1) F+F (n+1)=F 0+(sm n (λi=>F (i+1))+F (n+1))
  rw [qHx F n,Rat.add_assoc]
theorem qAc2(F:Nat->Nat->Rat)(m:Nat):∀ n,sm n (λi=>sm m (λj=>F i j))=sm m (λj=>sm n (λi=>F i j))
 | 0=>by
  show (0:Rat)=_
  rw [qB0]
  intro i _
  rfl
 | n+1=>by
  show sm n (λi=>sm m (λj=>F i j))+sm m (λj=>F n j)=_
  rw [qAc2 F m n, ←qIn]
  rfl
def Dg(n:Nat)(f:Fu):Prop:=∀ i,n<=i->f i=0
theorem Dg.mono{n m:Nat}{f:Fu}(h:Dg n f)(hn:n<=m):Dg m f:=λi hi=>h i (by omega)
def xF(f:Fu):Fu
 | 0=>0
 | i+1=>f i
theorem Dg.x{n:Nat}{f:Fu}(h:Dg n f):Dg (n+1) (xF f):=λi hi=>by
 cases i with
 | zero=>rfl
 | succ i=>exact h i (by omega)
theorem Dg.sub{n:Nat}{f g:Fu}(h:Dg n f)(h':Dg n g)(c:Rat):Dg n (λi=>f i - c*g i):=λi hi=>by
 show f i - c*g i=0
 rw [h i hi,h' i hi,Za1,Rat.sub_eq_add_neg,Rat.neg_zero,Zac]
def Bf(N:Nat)(m f g:Fu):Rat:=sm N λi=>sm N λj=>f i*g j*m (i+j)
section
variable {N:Nat} {m:Fu}
theorem qEw(f g:Fu):Bf N m f g=Bf N m g f:=by
 unfold Bf
 rw [qAc2]
 refine qAh λi _=>qAh λj _ => ?_
 rw [Nat.add_comm j i,Rat.mul_comm (f j)]
theorem qJm{f f' g g':Fu}(h:∀ i,f i=f' i)(h':∀ i,g i=g' i):Bf N m f g=Bf N m f' g':=by
 rw [show f=f' from funext h,show g=g' from funext h']
theorem qAjx(f f' g:Fu):Bf N m (λi=>f i+f' i) g=Bf N m f g+Bf N m f' g:=by
 unfold Bf
 rw [<-qIn]
 refine qAh λi _ => ?_
 rw [<-qIn]
 refine qAh λj _ => ?_
 grind
theorem qAja(c:Rat)(f g:Fu):Bf N m (λi=>c*f i) g=c*Bf N m f g:=by
 unfold Bf
 rw [<-qDx]
 refine qAh λi _ => ?_
 rw [<-qDx]
 refine qAh λj _ => ?_
 grind
theorem qHi(f f' g:Fu)(c:Rat):Bf N m (λi=>f i - c*f' i) g=Bf N m f g - c*Bf N m f' g:=by
 rw [show (λi=>f i - c*f' i)=(λi=>f i+(-c)*f' i) from funext λi=>by grind,qAjx,qAja]
 grind
theorem qI5(g f f':Fu)(c:Rat):Bf N m g (λi=>f i - c*f' i)=Bf N m g f - c*Bf N m g f':=by
 rw [qEw,qHi,qEw f,qEw f']
theorem qVp(g f f':Fu):Bf N m g (λi=>f i+f' i)=Bf N m g f+Bf N m g f':=by
 rw [qEw,qAjx,qEw f,qEw f']
theorem qWx(c:Rat)(g f:Fu):Bf N m g (λi=>c*f i)=c*Bf N m g f:=by
 rw [qEw,qAja,qEw f]
theorem Bf_x{f g:Fu}(hf:Dg N f)(hg:Dg N g):Bf (N+1) m (xF f) g=Bf (N+1) m f (xF g):=by
 have e1:Bf (N+1) m (xF f) g=sm N λi=>sm N λj=>f i*g j*m (i+1+j):=by
  unfold Bf
  rw [qHx]
  rw [qB0 (F:=λj=>xF f 0*g j*m (0+j)) λj _=>by show 0*g j*_=0;rw [Za2,Za2],Zah]
  refine qAh λi _ => ?_
  show sm N _+xF f (i+1)*g N*_=_
  rw [hg N (Za9 _),Za1,Za2,Zac]
  rfl
 have e2:Bf (N+1) m f (xF g)=sm N λi=>sm N λj=>f i*g j*m (i+1+j):=by
  unfold Bf
  show sm N _+sm (N+1) (λj=>f N*xF g j*m (N+j))=_
  rw [qB0 (F:=λj=>f N*xF g j*m (N+j)) λj _=>by rw [hf N (Za9 _),Za2,Za2],Zac]
  refine qAh λi _ => ?_
  rw [qHx]
  show f i*0*_+_=_
  rw [Za1,Za2,Zah]
  refine qAh λj _ => ?_
  show f i*g j*m (i+(j+1))=_
  rw [show i+(j+1)=i+1+j by omega]
 rw [e1,e2]
theorem qAkl{n:Nat}{f g:Fu}(hf:Dg n f)(hg:Dg n g)(hn:n<=N):Bf N m f g=Bf n m f g:=by
 unfold Bf
 rw [qEf (n:=n) (λi hi=>qB0 λj _=>by rw [hf i hi,Za2,Za2]) N hn]
 refine qAh λi _ => ?_
 exact qEf (λj hj=>by rw [hg j hj,Za1,Za2]) N hn
theorem qDg{n:Nat}{f g m':Fu}(hf:Dg n f)(hg:Dg n g)(h:∀ i,i+1<2*n->m i=m' i):Bf N m f g=Bf N m' f g:=by
 unfold Bf
 refine qAh λi _=>qAh λj _ => ?_
 by_cases hi:i<n
 ·by_cases hj:j<n
  ·rw [h (i+j) (by omega)]
  ·rw [hg j (by omega),Za1,Za2,Za2]
 ·rw [hf i (by omega),Za2,Za2,Za2]
end
theorem qB6(cs ms:List Rat):∀ n,qIp cs ms n=sm n λi=>coef cs i*coef ms i
 | 0=>rfl
 | n+1=>by
  show qIp cs ms n+coef cs n*coef ms n=_
  rw [qB6 cs ms n]
  rfl
theorem qAlx(cs:List Rat):Dg cs.length (coef cs):=λi hi=>qAk hi
theorem qQh(cs ms:List Rat){N:Nat}(h:cs.length<=N):qDp cs ms=sm N λi=>coef cs i*coef ms i:=by
 unfold qDp
 rw [qB6]
 exact (qEf (λi hi=>by rw [qAk hi,Za2]) N h).symm
theorem qAph(g m:Fu)(c:Rat)(n:Nat){M:Nat}(hg:Dg M g):∀ K,n+M<=K->sm K (λk=>(if n<=k then c*g (k - n) else 0)*m k)=sm M (λj=>c*g j*m (n+j)):=by
 intro K hK
 have h1:∀ K,sm (n+K) (λk=>(if n<=k then c*g (k - n) else 0)*m k)=sm K (λj=>c*g j*m (n+j)):=by
  intro K
  induction K with
  | zero=>
   rw [Nat.add_zero]
   refine qB0 λi hi => ?_
   rw [if_neg (by omega),Za2]
  | succ K ih=>
   show sm (n+K) _+(if n<=n+K then c*g (n+K - n) else 0)*m (n+K)=sm K _+c*g K*m (n+K)
   rw [ih,if_pos (by omega),show n+K - n=K by omega]
 obtain ⟨d,rfl⟩:∃ d,K=n+(M+d):=⟨K - n - M,by omega⟩
 rw [h1]
 exact qEf (λi hi=>by rw [hg i hi,Za1,Za2]) _ (by omega)
theorem qAc9(f g m:Fu){M:Nat}(hg:Dg M g):∀ n K,n+M<=K->sm K (λk=>conv f g n k*m k)=sm n (λi=>sm M (λj=>f i*g j*m (i+j)))
 | 0,K,_=>by
  rw [qB0 λi _=>by show (0:Rat)*_=0;rw [Za2]]
  rfl
 | n+1,K,h=>by
  have e:∀ k,conv f g (n+1) k*m k=conv f g n k*m k+(if n<=k then f n*g (k - n) else 0)*m k:=λk=>by
   show (conv f g n k+(if n<=k then f n*g (k - n) else 0))*m k=_
   rw [Rat.add_mul]
  rw [qAh λk _=>e k,qIn,qAc9 f g m hg n K (by omega),qAph g m (f n) n hg K (by omega)]
  rfl
theorem qJf(a b ms:List Rat){N:Nat}(ha:a.length<=N)(hb:b.length<=N):qDp (strip (qBc a b)) ms=Bf N (coef ms) (coef a) (coef b):=by
 have l1:=qDd (qBc a b)
 have l2:=qGy a b
 rw [qQh _ _ (N:=a.length+b.length) (by omega)]
 rw [qAh (G:=λk=>conv (coef a) (coef b) a.length k*coef ms k) λk _=>by rw [qB8,qFo]]
 rw [qAc9 _ _ _ (qAlx b) _ _ (Za9 _)]
 unfold Bf
 rw [qEf (n:=a.length) (λi hi=>qB0 λj _=>by rw [qAk hi,Za2,Za2]) N ha]
 refine qAh λi _ => ?_
 exact (qEf (λj hj=>by rw [qAk hj,Za1,Za2]) N hb).symm
theorem qAol(p:List Rat)(i:Nat):coef (xpN p) i=xF (coef p) i:=by
 unfold xpN
 rw [qB8,qFo]
 show conv (coef xL) (coef p) 2 i=_
 show (0+(if 0<=i then coef xL 0*coef p (i - 0) else 0))+(if 1<=i then coef xL 1*coef p (i - 1) else 0)=_
 rw [show coef xL 0=0 from rfl,show coef xL 1=1 from rfl,if_pos (Nat.zero_le _),Za2,Zah,Zah]
 cases i with
 | zero=>rfl
 | succ i=>
  rw [if_pos (by omega),Rat.one_mul]
  rfl
theorem qYy{q p:List Rat}{a:Rat}(h0:coef q 0 = -a)(h1:coef q 1=1)(h2:∀ i,2<=i->coef q i=0)(i:Nat):coef (strip (qBc q p)) i=xF (coef p) i - a*coef p i:=by
 rw [qB8,qFo]
 have e:conv (coef q) (coef p) q.length i=conv (coef q) (coef p) 2 i:=by
  by_cases hq:q.length<=2
  ·exact (qTr (λk hk=>qAk hk) 2 hq i).symm
  ·exact qTr h2 q.length (by omega) i
 rw [e]
 show (0+(if 0<=i then coef q 0*coef p (i - 0) else 0))+(if 1<=i then coef q 1*coef p (i - 1) else 0)=_
 rw [h0,h1,if_pos (Nat.zero_le _),Nat.sub_zero]
 cases i with
 | zero=>
  rw [if_neg (by omega)]
  show _=0 - a*coef p 0
  grind
 | succ i=>
  rw [if_pos (by omega)]
  show 0 + -a*coef p (i+1)+1*coef p i=coef p i - a*coef p (i+1)
  grind
theorem qAbb(ms p:List Rat)(w:Rat)(i:Nat):coef (f1N ms p w) i=xF (coef p) i - alN ms p w*coef p i:=by
 refine qYy ?_ ?_ (λi hi => ?_) i
 ·unfold qLv
  rw [qB8,qH6,qE4,qD4,if_pos rfl,show coef xL 0=0 from rfl,Zah]
 ·unfold qLv
  rw [qB8,qH6,qE4,qD4,if_neg (by decide),show coef xL 1=1 from rfl,Rat.neg_zero,Zac]
 ·unfold qLv
  rw [qB8,qH6,qE4,qD4,if_neg (by omega),qAk (show xL.length<=i from hi),Rat.neg_zero,Zac]
theorem qYt{f g:Nat->Rat}(hg:∀ j,g (j+1)=0)(k:Nat):∀ n,conv f g n k=if k<n then f k*g 0 else 0
 | 0=>by simp [conv]
 | n+1=>by
  show conv f g n k+(if n<=k then f n*g (k - n) else 0)=_
  rw [qYt hg k n]
  by_cases h1:k<n
  ·rw [if_pos h1,if_neg (by omega),if_pos (by omega),Zac]
  ·rw [if_neg h1,Zah]
   by_cases h2:k=n
   ·subst h2
    rw [if_pos (Za9 _),if_pos (by omega),Nat.sub_self]
   ·rw [if_pos (by omega),if_neg (by omega)]
    obtain ⟨j,hj⟩:∃ j,k - n=j+1:=⟨k - n - 1,by omega⟩
    rw [hj,hg,Za1]
theorem qAk1(w:Rat)(b:PW)(i:Nat):coef (beN w b) i=w / b.2*coef b.1 i:=by
 unfold beN
 rw [qB8,qFo,qYt (λj=>by rw [qD4,if_neg (by omega)]),qD4,if_pos rfl]
 split
 ·exact Rat.mul_comm _ _
 ·rw [qAk (by omega),Za1]
theorem qAhi(ms:List Rat)(x:PW)(b:Option PW):(qUb ms (some x) b).1=fN ms x.1 x.2 b:=by cases x;rfl
theorem qAhy(ms:List Rat)(x:PW)(b:Option PW):(qUb ms (some x) b).2=qDp (sqN (fN ms x.1 x.2 b)) ms:=by cases x;rfl
theorem ch1(ms:List Rat)(k:Nat):(chN ms (k+1)).1.1=fN ms (chN ms k).1.1 (chN ms k).1.2 (chN ms k).2:=by rw [qJj,qAhi]
theorem ch2(ms:List Rat)(k:Nat):(chN ms (k+1)).1.2=qDp (sqN (chN ms (k+1)).1.1) ms:=by rw [ch1,qJj,qAhy]
theorem chb(ms:List Rat)(k:Nat):(chN ms (k+1)).2=some (chN ms k).1:=by rw [qJj]
theorem qAlb(ms p:List Rat)(w:Rat)(b:PW):fN ms p w (some b)=strip (qV5 (f1N ms p w) (qKc (beN w b))):=rfl
def pS(ms:List Rat)(k:Nat):Fu:=coef (chN ms k).1.1
def hS(ms:List Rat)(k:Nat):Rat:=(chN ms k).1.2
def aS(ms:List Rat)(k:Nat):Rat:=alN ms (chN ms k).1.1 (chN ms k).1.2
theorem qRc(ms:List Rat)(i:Nat):pS ms 0 i=if i=0 then 1 else 0:=by
 show coef [1] i=_
 cases i with
 | zero=>rfl
 | succ i=>rw [qAk (by simp)];simp
theorem qY0(ms:List Rat)(i:Nat):pS ms 1 i=xF (pS ms 0) i - aS ms 0*pS ms 0 i:=qAbb ms _ _ i
theorem qQz(ms:List Rat)(k i:Nat):pS ms (k+2) i=xF (pS ms (k+1)) i - aS ms (k+1)*pS ms (k+1) i - hS ms (k+1) / hS ms k*pS ms k i:=by
 unfold pS hS aS
 rw [ch1 ms (k+1),chb,qAlb,qB8,qH6,qE4,qAbb,qAk1,Rat.sub_eq_add_neg (_ - _)]
theorem qAy(ms:List Rat)(k:Nat):Dg (k+1) (pS ms k):=λi hi=>qAk (Zaf (qGr ms k).1 hi)
theorem qB9(ms:List Rat):∀ k,pS ms k k=1
 | 0=>by rw [qRc,if_pos rfl]
 | 1=>by
  rw [qY0]
  show pS ms 0 0 - aS ms 0*pS ms 0 1=1
  rw [qRc,if_pos rfl,qRc,if_neg (by decide),Za1]
  grind
 | k+2=>by
  rw [qQz]
  show pS ms (k+1) (k+1) - _*pS ms (k+1) (k+2) - _*pS ms k (k+2)=1
  rw [qB9 ms (k+1),qAy ms (k+1) (k+2) (by omega),qAy ms k (k+2) (by omega),Za1,Za1]
  grind
theorem qHn(ms:List Rat)(k:Nat){N:Nat}(hN:k+1<=N):hS ms k=Bf N (coef ms) (pS ms k) (pS ms k):=by
 cases k with
 | zero=>
  have e:=qJf [1] [1] ms (N:=N) (by simpa using hN) (by simpa using hN)
  show coef ms 0=Bf N (coef ms) (coef [1]) (coef [1])
  rw [<-e]
  have e2:strip (qBc [1] [1])=[(1:Rat)]:=by
   have:qBc [(1:Rat)] [1]=[1]:=by
    unfold qBc conv
    simp [coef,conv]
    grind
   rw [this]
   exact qCj (n:=0) rfl (by decide)
  rw [e2]
  show coef ms 0=0+1*coef ms 0
  grind
 | succ k=>
  have l:=(qGr ms (k+1)).1
  unfold hS pS
  rw [ch2]
  exact qJf (chN ms (k+1)).1.1 (chN ms (k+1)).1.1 ms (by omega) (by omega)
theorem qAny(ms:List Rat)(k:Nat){N:Nat}(hN:k+2<=N):aS ms k=Bf N (coef ms) (xF (pS ms k)) (pS ms k) / hS ms k:=by
 have l:=(qGr ms k).1
 have l2:=qAa6 (chN ms k).1.1
 have e:qDp (xppN (chN ms k).1.1) ms=Bf N (coef ms) (coef (xpN (chN ms k).1.1)) (coef (chN ms k).1.1):=qJf _ _ ms (by omega) (by omega)
 show qDp (xppN (chN ms k).1.1) ms / hS ms k=_
 rw [e,qJm (λi=>qAol (chN ms k).1.1 i) (λi=>rfl)]
 rfl
structure Ps where
 c:Nat->Rat
theorem Ps.ext'{f g:Ps}(h:∀ k,f.c k=g.c k):f=g:=by
 cases f;cases g
 congr
 exact funext h
def tlF(f:Nat->Rat):Nat->Rat:=λi=>f (i+1)
def cvF:Nat->(Nat->Rat)->(Nat->Rat)->Rat
 | 0,f,g=>f 0*g 0
 | k+1,f,g=>f 0*g (k+1)+cvF k (tlF f) g
theorem qV0(f g h:Nat->Rat):∀ k,cvF k (λi=>f i+g i) h=cvF k f h+cvF k g h
 | 0=>by show (f 0+g 0)*h 0=f 0*h 0+g 0*h 0;grind
 | k+1=>by
  show (f 0+g 0)*h (k+1)+cvF k (λi=>tlF f i+tlF g i) h=(f 0*h (k+1)+cvF k (tlF f) h)+(g 0*h (k+1)+cvF k (tlF g) h)
  rw [qV0 (tlF f) (tlF g) h k]
  grind
theorem qAhd(h f g:Nat->Rat):∀ k,cvF k h (λi=>f i+g i)=cvF k h f+cvF k h g:=by
 intro k
 induction k generalizing h with
 | zero=>show h 0*(f 0+g 0)=h 0*f 0+h 0*g 0;grind
 | succ k ih=>
  show h 0*(f (k+1)+g (k+1))+cvF k (tlF h) (λi=>f i+g i)=(h 0*f (k+1)+cvF k (tlF h) f)+(h 0*g (k+1)+cvF k (tlF h) g)
  rw [ih (tlF h)]
  grind
theorem qAkc(a:Rat)(f g:Nat->Rat):∀ k,cvF k (λi=>a*f i) g=a*cvF k f g:=by
 intro k
 induction k generalizing f with
 | zero=>show a*f 0*g 0=a*(f 0*g 0);grind
 | succ k ih=>
  show a*f 0*g (k+1)+cvF k (λi=>a*tlF f i) g=a*(f 0*g (k+1)+cvF k (tlF f) g)
  rw [ih (tlF f)]
  grind
theorem qL8(f g:Nat->Rat)(h:∀ i,f i=0):∀ k,cvF k f g=0:=by
 intro k
 induction k generalizing f with
 | zero=>show f 0*g 0=0;rw [h 0,Za2]
 | succ k ih=>
  show f 0*g (k+1)+cvF k (tlF f) g=0
  rw [ih (tlF f) (λi=>h (i+1)),h 0,Za2,Zac]
theorem qAhc(f g:Nat->Rat):∀ k,cvF (k+1) f g=cvF k f (tlF g)+f (k+1)*g 0:=by
 intro k
 induction k generalizing f with
 | zero=>rfl
 | succ k ih=>
  show f 0*g (k+2)+cvF (k+1) (tlF f) g=(f 0*g (k+2)+cvF k (tlF f) (tlF g))+f (k+2)*g 0
  rw [ih (tlF f)]
  show f 0*g (k+2)+(cvF k (tlF f) (tlF g)+f (k+2)*g 0)=_
  grind
theorem qRb(f g:Nat->Rat):∀ k,cvF k f g=cvF k g f:=by
 intro k
 induction k generalizing f with
 | zero=>show f 0*g 0=g 0*f 0;grind
 | succ k ih=>
  rw [qAhc g f k, ←ih (tlF f)]
  show f 0*g (k+1)+cvF k (tlF f) g=_
  grind
theorem qAdl(f g h:Nat->Rat):∀ k,cvF k (λi=>cvF i f g) h=cvF k f (λi=>cvF i g h):=by
 intro k
 induction k generalizing f with
 | zero=>show f 0*g 0*h 0=f 0*(g 0*h 0);grind
 | succ k ih=>
  have e:tlF (λi=>cvF i f g)=λi=>f 0*tlF g i+cvF i (tlF f) g:=funext λi=>rfl
  show cvF 0 f g*h (k+1)+cvF k (tlF (λi=>cvF i f g)) h=f 0*cvF (k+1) g h+cvF k (tlF f) (λi=>cvF i g h)
  rw [e,qV0,qAkc,ih (tlF f)]
  show f 0*g 0*h (k+1)+_=f 0*(g 0*h (k+1)+cvF k (tlF g) h)+_
  grind
def cstF(a:Rat):Nat->Rat:=λi=>if i=0 then a else 0
theorem qIu(a:Rat)(g:Nat->Rat):∀ k,cvF k (cstF a) g=a*g k
 | 0=>rfl
 | k+1=>by
  show a*g (k+1)+cvF k (tlF (cstF a)) g=_
  rw [qL8 _ _ (λi=>by show (if i+1=0 then a else 0)=0;rw [if_neg (by omega)]),Zac]
namespace Ps
def mul(f g:Ps):Ps:=⟨λk=>cvF k f.c g.c⟩
def cst(a:Rat):Ps:=⟨cstF a⟩
def npow(f:Ps):Nat->Ps
 | 0=>cst 1
 | k+1=>mul (npow f k) f
instance:Add Ps:=⟨λf g=>⟨λk=>f.c k+g.c k⟩⟩
instance:Mul Ps:=⟨mul⟩
instance:Neg Ps:=⟨λf=>⟨λk => -f.c k⟩⟩
instance:_root_.Sub Ps:=⟨λf g=>⟨λk=>f.c k - g.c k⟩⟩
instance:NatCast Ps:=⟨λn=>cst (n:Rat)⟩
instance:IntCast Ps:=⟨λn=>cst (n:Rat)⟩
instance (n:Nat):OfNat Ps n:=⟨cst (n:Rat)⟩
instance:HPow Ps Nat Ps:=⟨npow⟩
instance:SMul Nat Ps:=⟨λn f=>⟨λk=>(n:Rat)*f.c k⟩⟩
instance:SMul Int Ps:=⟨λn f=>⟨λk=>(n:Rat)*f.c k⟩⟩
theorem qIb(a:Rat)(k:Nat):(cst a).c k=if k=0 then a else 0:=rfl
theorem qKi(f g:Ps)(k:Nat):(f+g).c k=f.c k+g.c k:=rfl
theorem qGp(f g:Ps)(k:Nat):(f - g).c k=f.c k - g.c k:=rfl
theorem qTk(f:Ps)(k:Nat):(-f).c k = -f.c k:=rfl
theorem qA1(a:Rat)(f:Ps)(k:Nat):(cst a*f).c k=a*f.c k:=qIu a f.c k
instance:Lean.Grind.CommRing Ps where
 nsmul:=⟨λn f=>n • f⟩
 npow:=⟨npow⟩
 zsmul:=⟨λn f=>n • f⟩
 natCast:=⟨λn=>cst (n:Rat)⟩
 intCast:=⟨λn=>cst (n:Rat)⟩
 ofNat:=λn=>⟨cst (n:Rat)⟩
 add_zero f:=ext' λk=>by
  show f.c k+(if k=0 then ((0:Nat):Rat) else 0)=f.c k
  split
  ·exact Zac _
  ·rw [Zac]
 add_comm f g:=ext' λk=>Rat.add_comm _ _
 add_assoc f g h:=ext' λk=>Rat.add_assoc _ _ _
 mul_assoc f g h:=ext' λk=>qAdl f.c g.c h.c k
 mul_comm f g:=ext' λk=>qRb f.c g.c k
 mul_one f:=ext' λk=>by
  show cvF k f.c (cstF ((1:Nat):Rat))=f.c k
  rw [qRb,qIu]
  simp
 one_mul f:=ext' λk=>by
  show cvF k (cstF ((1:Nat):Rat)) f.c=f.c k
  rw [qIu]
  simp
 left_distrib f g h:=ext' λk=>qAhd f.c g.c h.c k
 right_distrib f g h:=ext' λk=>qV0 f.c g.c h.c k
 zero_mul f:=ext' λk=>by
  show cvF k (cstF ((0:Nat):Rat)) f.c=if k=0 then ((0:Nat):Rat) else 0
  rw [qIu]
  simp
 mul_zero f:=ext' λk=>by
  show cvF k f.c (cstF ((0:Nat):Rat))=if k=0 then ((0:Nat):Rat) else 0
  rw [qRb,qIu]
  simp
 pow_zero f:=ext' λk=>by
  show (if k=0 then (1:Rat) else 0)=if k=0 then ((1:Nat):Rat) else 0
  rfl
 pow_succ f n:=rfl
 ofNat_succ n:=ext' λk=>by
  show (if k=0 then ((n+1:Nat):Rat) else 0)=(if k=0 then ((n:Nat):Rat) else 0)+(if k=0 then ((1:Nat):Rat) else 0)
  split
  ·rw [Rat.natCast_add]
  ·rw [Zac]
 ofNat_eq_natCast n:=rfl
 nsmul_eq_natCast_mul n f:=ext' λk=>(qIu (n:Rat) f.c k).symm
 neg_add_cancel f:=ext' λk=>by
  show -f.c k+f.c k=if k=0 then ((0:Nat):Rat) else 0
  rw [Rat.neg_add_cancel]
  split <;> rfl
 sub_eq_add_neg f g:=ext' λk=>Rat.sub_eq_add_neg _ _
 neg_zsmul n f:=ext' λk=>by
  show ((-n:Int):Rat)*f.c k = -((n:Rat)*f.c k)
  rw [Rat.intCast_neg,Rat.neg_mul]
 zsmul_natCast_eq_nsmul n f:=ext' λk=>by
  show (((n:Nat):Int):Rat)*f.c k=(n:Rat)*f.c k
  rw [Rat.intCast_natCast]
 intCast_ofNat n:=ext' λk=>by
  show (if k=0 then (((n:Nat):Int):Rat) else 0)=if k=0 then ((n:Nat):Rat) else 0
  rw [Rat.intCast_natCast]
 intCast_neg n:=ext' λk=>by
  show (if k=0 then ((-n:Int):Rat) else 0) = -(if k=0 then ((n:Int):Rat) else 0)
  split
  ·rw [Rat.intCast_neg]
  ·rw [Rat.neg_zero]
example (f g h:Ps):(f - g)*(f+g)*h=h*f*f - g*g*h:=by grind
end Ps
section
variable {N:Nat} {ms:List Rat} {g f:Fu}
theorem qAmi(g:Fu):Bf N (coef ms) g (xF (pS ms 0))=Bf N (coef ms) g (pS ms 1)+aS ms 0*Bf N (coef ms) g (pS ms 0):=by
 have e:∀ i,xF (pS ms 0) i=pS ms 1 i+aS ms 0*pS ms 0 i:=λi=>by rw [qY0];grind
 rw [qJm (λi=>rfl) e,qVp,qWx]
theorem qAkb(g:Fu)(a:Nat):Bf N (coef ms) g (xF (pS ms (a+1)))=Bf N (coef ms) g (pS ms (a+2))+aS ms (a+1)*Bf N (coef ms) g (pS ms (a+1))+hS ms (a+1) / hS ms a*Bf N (coef ms) g (pS ms a):=by
 have e:∀ i,xF (pS ms (a+1)) i=(pS ms (a+2) i+aS ms (a+1)*pS ms (a+1) i)+hS ms (a+1) / hS ms a*pS ms a i:=λi=>by
  rw [qQz ms a i]
  generalize hS ms (a+1) / hS ms a=c
  grind
 rw [qJm (λi=>rfl) e,qVp,qVp,qWx,qWx]
theorem qAri(g:Fu):Bf N (coef ms) (pS ms 1) g=Bf N (coef ms) (xF (pS ms 0)) g - aS ms 0*Bf N (coef ms) (pS ms 0) g:=by
 rw [qJm (λi=>qY0 ms i) (λi=>rfl),qHi]
theorem qAoa(g:Fu)(k:Nat):Bf N (coef ms) (pS ms (k+2)) g=Bf N (coef ms) (xF (pS ms (k+1))) g - aS ms (k+1)*Bf N (coef ms) (pS ms (k+1)) g - hS ms (k+1) / hS ms k*Bf N (coef ms) (pS ms k) g:=by
 rw [qJm (λi=>qQz ms k i) (λi=>rfl),qHi,qHi]
end
theorem sub0(a:Rat):a - 0=a:=by grind
theorem qH3{a b:Rat}(h:b≠0):a / b*b=a:=by grind
theorem orth{ms:List Rat}{n N:Nat}(hN:n+1<=N)(h:∀ k,k<n->hS ms k≠0):∀ k,k<=n->∀ a b,a<b->b<=k->Bf (N+1) (coef ms) (pS ms b) (pS ms a)=0
 | 0,_,a,b,h1,h2=>by omega
 | 1,hk,a,b,h1,h2=>by
  obtain rfl:b=1:=by omega
  obtain rfl:a=0:=by omega
  have h0:=h 0 (by omega)
  rw [qAri, ←qHn ms 0 (by omega),qAny ms 0 (N:=N+1) (by omega),qH3 h0,Rat.sub_self]
 | k+2,hk,a,b,h1,h2=>by
  have ih:=orth hN h (k+1) (by omega)
  by_cases hb:b<=k+1
  ·exact ih a b h1 hb
  ·obtain rfl:b=k+2:=by omega
   have sy:∀ i j,i<j->j<=k+1->Bf (N+1) (coef ms) (pS ms i) (pS ms j)=0:=λi j hij hj=>by rw [qEw];exact ih i j hij hj
   rw [qAoa]
   have hk0:=h k (by omega)
   have hk1:=h (k+1) (by omega)
   by_cases ha:a=k+1
   ·subst ha
    rw [<-qHn ms (k+1) (by omega),sy k (k+1) (by omega) (by omega),qAny ms (k+1) (N:=N+1) (by omega),qH3 hk1,Rat.sub_self,Za1,Rat.sub_self]
   ·rw [Bf_x ((qAy ms (k+1)).mono (by omega)) ((qAy ms a).mono (by omega)),ih a (k+1) (by omega) (by omega),Za1,sub0]
    cases a with
    | zero=>
     rw [qAmi,ih 0 (k+1) (by omega) (by omega),Za1,Zac]
     cases k with
     | zero=>
      rw [<-qHn ms (0+1) (by omega), ←qHn ms 0 (by omega),qH3 hk0,Rat.sub_self]
     | succ k=>
      rw [ih 1 (k+1+1) (by omega) (by omega),ih 0 (k+1) (by omega) (by omega),Za1,Rat.sub_self]
    | succ a=>
     rw [qAkb,ih (a+1) (k+1) (by omega) (by omega),ih a (k+1) (by omega) (by omega),Za1,Zac,Za1,Zac]
     by_cases hak:a+1=k
     ·subst hak
      rw [<-qHn ms (a+1+1) (by omega), ←qHn ms (a+1) (by omega),qH3 hk0,Rat.sub_self]
     ·rw [ih (a+2) (k+1) (by omega) (by omega),ih (a+1) k (by omega) (by omega),Za1,Rat.sub_self]
theorem qAcz{ms:List Rat}{M:Nat}{g:Fu}:∀ {n:Nat},(∀ i,i<n->Bf M (coef ms) g (pS ms i)=0)->∀ {f:Fu},Dg n f->Bf M (coef ms) g f=0
 | 0,_,f,hf=>by
  unfold Bf
  exact qB0 λi _=>qB0 λj _=>by rw [hf j (by omega),Za1,Za2]
 | n+1,h,f,hf=>by
  have d:Dg n (λi=>f i - f n*pS ms n i):=λi hi=>by
   show f i - f n*pS ms n i=0
   by_cases e:i=n
   ·subst e
    rw [qB9,Rat.mul_one,Rat.sub_self]
   ·rw [hf i (by omega),qAy ms n i (by omega),Za1,Rat.sub_self]
  have:=qAcz (λi hi=>h i (by omega)) d
  rw [qI5,h n (by omega),Za1] at this
  grind
theorem qFp{ms:List Rat}{n N:Nat}(hN:n+1<=N)(h:∀ k,k<n->hS ms k≠0){f:Fu}(hf:Dg n f):Bf (N+1) (coef ms) (pS ms n) f=0:=qAcz (λi hi=>orth hN h n (Za9 _) i n hi (Za9 _)) hf
theorem nondeg{ms:List Rat}{N:Nat}:∀ (n:Nat),n<=N->(∀ k,k<n->hS ms k≠0)->∀ {f:Fu},Dg n f->(∀ i,i<n->Bf (N+1) (coef ms) f (pS ms i)=0)->∀ i,f i=0
 | 0,_,_,f,hf,_=>λi=>hf i (by omega)
 | n+1,hN,h,f,hf,ho=>by
  have hn:=h n (by omega)
  have d:Dg n (λi=>f i - f n*pS ms n i):=λi hi=>by
   show f i - f n*pS ms n i=0
   by_cases e:i=n
   ·subst e
    rw [qB9,Rat.mul_one,Rat.sub_self]
   ·rw [hf i (by omega),qAy ms n i (by omega),Za1,Rat.sub_self]
  have e:=qFp (ms:=ms) (n:=n) (N:=N) (by omega) (λk hk=>h k (by omega)) d
  rw [qI5, ←qHn ms n (by omega),qEw,ho n (by omega)] at e
  have f0:f n=0:=by
   have:f n*hS ms n=0:=by grind
   rcases Rat.mul_eq_zero.mp this with z | z
   ·exact z
   ·exact absurd z hn
  refine nondeg n (by omega) (λk hk=>h k (by omega)) (λi hi => ?_) (λi hi=>ho i (by omega))
  by_cases e:i=n
  ·rw [e,f0]
  ·exact hf i (by omega)
namespace Ps
theorem qA3{n m k:Nat}{f g:Ps}(hf:Dg n f.c)(hg:Dg m g.c)(h:n+m<=k+1):Dg k (f*g).c:=by
 have go:∀ (i:Nat) (f:Nat->Rat) (n:Nat),Dg n f->n+m<=i+1->cvF i f g.c=0:=by
  intro i
  induction i with
  | zero=>
   intro f n hf hn
   show f 0*g.c 0=0
   by_cases h0:n=0
   ·rw [hf 0 (by omega),Za2]
   ·rw [hg 0 (by omega),Za1]
  | succ i ih=>
   intro f n hf hn
   show f 0*g.c (i+1)+cvF i (tlF f) g.c=0
   by_cases h0:n=0
   ·rw [hf 0 (by omega),Za2,qL8 (tlF f) _ (λj=>hf (j+1) (by omega)),Zac]
   ·rw [hg (i+1) (by omega),Za1,Zah]
    exact ih (tlF f) (n - 1) (λj hj=>hf (j+1) (by omega)) (by omega)
 exact λi hi=>go i f.c n hf (by omega)
theorem mul_top{n m:Nat}{f g:Ps}(hf:Dg (n+1) f.c)(hg:Dg (m+1) g.c):(f*g).c (n+m)=f.c n*g.c m:=by
 have go:∀ (n:Nat) (f:Nat->Rat),Dg (n+1) f->cvF (n+m) f g.c=f n*g.c m:=by
  intro n
  induction n with
  | zero=>
   intro f hf
   rw [Nat.zero_add]
   cases m with
   | zero=>rfl
   | succ m=>
    show f 0*g.c (m+1)+cvF m (tlF f) g.c=_
    rw [qL8 (tlF f) _ (λj=>hf (j+1) (by omega)),Zac]
  | succ n ih=>
   intro f hf
   rw [show n+1+m=(n+m)+1 by omega]
   show f 0*g.c (n+m+1)+cvF (n+m) (tlF f) g.c=_
   rw [ih (tlF f) λj hj=>hf (j+1) (by omega),hg (n+m+1) (by omega),Za1,Zah]
   rfl
 exact go n f.c hf
theorem qY6{n:Nat}{f g:Ps}(hf:Dg n f.c)(hg:Dg n g.c):Dg n (f+g).c:=λi hi=>by
 rw [qKi,hf i hi,hg i hi,Zac]
theorem qXh{n:Nat}{f g:Ps}(hf:Dg n f.c)(hg:Dg n g.c):Dg n (f - g).c:=λi hi=>by
 rw [qGp,hf i hi,hg i hi,Rat.sub_self]
theorem qAc5{n:Nat}{f:Ps}(hf:Dg n f.c):Dg n (-f).c:=λi hi=>by
 rw [qTk,hf i hi,Rat.neg_zero]
theorem qAir(a:Rat):Dg 1 (cst a).c:=λi hi=>by
 rw [qIb,if_neg (by omega)]
theorem qGo{n:Nat}{a:Rat}{f:Ps}(hf:Dg n f.c):Dg n (cst a*f).c:=λi hi=>by
 rw [qA1,hf i hi,Za1]
theorem qFi(k:Nat):(0:Ps).c k=0:=by
 show (if k=0 then ((0:Nat):Rat) else 0)=0
 split <;> rfl
theorem qFe{f:Ps}(h:∀ i,f.c i=0):f=0:=ext' λk=>by rw [h,qFi]
def mo(a:Rat)(k:Nat):Ps:=⟨λi=>if i=k then a else 0⟩
theorem qAl1(a:Rat)(k:Nat):Dg (k+1) (mo a k).c:=λi hi=>by
 show (if i=k then a else 0)=0
 rw [if_neg (by omega)]
theorem qAeb(a:Rat)(f:Ps):∀ k i,(mo a k*f).c i=if k<=i then a*f.c (i - k) else 0
 | 0,i=>by
  rw [if_pos (Nat.zero_le _)]
  exact qIu a f.c i
 | k+1,0=>by
  show (if 0=k+1 then a else 0)*f.c 0=_
  rw [if_neg (by omega),if_neg (by omega),Za2]
 | k+1,i+1=>by
  show (if 0=k+1 then a else 0)*f.c (i+1)+cvF i (tlF (mo a (k+1)).c) f.c=_
  have e:tlF (mo a (k+1)).c=(mo a k).c:=funext λj=>by
   show (if j+1=k+1 then a else 0)=if j=k then a else 0
   by_cases h:j=k
   ·rw [if_pos h,if_pos (by omega)]
   ·rw [if_neg h,if_neg (by omega)]
  have ih:=qAeb a f k i
  rw [if_neg (by omega),Za2,Zah,e]
  show (mo a k*f).c i=_
  rw [ih,show i+1 - (k+1)=i - k by omega]
  by_cases h:k<=i
  ·rw [if_pos h,if_pos (by omega)]
  ·rw [if_neg h,if_neg (by omega)]
def X:Ps:=mo 1 1
theorem qLw(f:Ps)(i:Nat):(X*f).c i=xF f.c i:=by
 rw [show X=mo 1 1 from rfl,qAeb]
 cases i with
 | zero=>rfl
 | succ i=>rw [if_pos (by omega),Rat.one_mul];rfl
end Ps
open Ps
def La(m:Nat->Rat)(f:Ps):Rat:=sm 64 λi=>f.c i*m i
section
variable {m:Nat->Rat}
theorem qCm(f g:Ps):La m (f+g)=La m f+La m g:=by
 unfold La
 rw [<-qIn]
 exact qAh λi _=>by rw [qKi];grind
theorem qDi(a:Rat)(f:Ps):La m (cst a*f)=a*La m f:=by
 unfold La
 rw [<-qDx]
 exact qAh λi _=>by rw [qA1];grind
theorem qAo0(f:Ps):La m (-f) = -La m f:=by
 have:=qDi (m:=m) (-1) f
 rw [show cst (-1)*f = -f from ext' λk=>by rw [qA1,qTk];grind] at this
 rw [this];grind
theorem qK6(f g:Ps):La m (f - g)=La m f - La m g:=by
 rw [show f - g=f + -g by grind,qCm,qAo0];grind
theorem qQp:La m 0=0:=by
 unfold La
 exact qB0 λi _=>by rw [qFi,Za2]
theorem qCk{n:Nat}{f:Ps}(h:Dg n f.c)(hn:n<=64):La m f=sm n λi=>f.c i*m i:=
 qEf (λi hi=>by rw [h i hi,Za2]) 64 hn
theorem qLo{g:Ps}{k:Nat}(hg:Dg k g.c):∀ (n:Nat) (f:Ps) (m:Nat->Rat),Dg n f.c->n+k<=65->La m (f*g)=sm n λi=>f.c i*La (λj=>m (i+j)) g
 | 0,f,m,hf,_=>by
  show _=0
  have:f*g=0:=by
   rw [qFe (f:=f) λi=>hf i (by omega)];grind
  rw [this,qQp]
 | n+1,f,m,hf,hn=>by
  have ih:=qLo hg n ⟨tlF f.c⟩ (tlF m) (λi hi=>hf (i+1) (by omega)) (by omega)
  have e:f*g=cst (f.c 0)*g+X*(⟨tlF f.c⟩*g):=ext' λi=>by
   rw [qKi,qA1,qLw]
   cases i with
   | zero=>show f.c 0*g.c 0=_+0;rw [Zac]
   | succ i=>rfl
  have e2:La m (X*(⟨tlF f.c⟩*g))=La (tlF m) (⟨tlF f.c⟩*g):=by
   have dg:Dg 63 ((⟨tlF f.c⟩:Ps)*g).c:=qA3 (n:=n) (λi hi=>hf (i+1) (by omega)) hg (by omega)
   unfold La
   rw [qHx (λi=>(X*(⟨tlF f.c⟩*g)).c i*m i) 63,qLw]
   show 0*_+_=sm 63 _+((⟨tlF f.c⟩:Ps)*g).c 63*_
   rw [dg 63 (Za9 _),Za2,Za2,Zah,Zac]
   exact qAh λi _=>by rw [qLw];rfl
  rw [e,qCm,qDi,e2,ih,qHx]
  have e3:(λj=>m (0+j))=m:=funext λj=>by rw [Nat.zero_add]
  have e4:∀ i,(λj=>tlF m (i+j))=λj=>m (i+1+j):=λi=>funext λj=>by
   show m (i+j+1)=_
   rw [show i+j+1=i+1+j by omega]
  rw [e3]
  refine congrArg (f.c 0*La m g + ·) (qAh λi _ => ?_)
  rw [e4]
  rfl
def Kd(p:Ps)(n:Nat)(m:Nat->Rat):Prop:=∀ k,sm (n+1) (λi=>p.c i*m (k+i))=0
theorem qRm{p f:Ps}{n k:Nat}(hp:Dg (n+1) p.c)(h:Kd p n m)(hf:Dg k f.c)(hk:k+n<=63):La m (f*p)=0:=by
 rw [qLo hp k f m hf (by omega)]
 refine qB0 λi _ => ?_
 rw [qCk hp (by omega),h i,Za1]
theorem qTs{f g:Nat->Rat}{n k N:Nat}(hf:Dg n f)(hg:Dg k g)(hn:n<=N)(hk:k<=N)(h:n+k<=65)(h4:k<=64):Bf N m f g=La m (⟨f⟩*⟨g⟩):=by
 rw [qLo (g:=⟨g⟩) hg n ⟨f⟩ m hf h]
 unfold Bf
 rw [qEf (n:=n) (λi hi=>qB0 λj _=>by rw [hf i hi,Za2,Za2]) N hn]
 refine qAh λi _ => ?_
 rw [qEf (n:=k) (λj hj=>by rw [hg j hj,Za1,Za2]) N hk,qCk (f:=⟨g⟩) hg h4, ←qDx]
 exact qAh λj _=>by show f i*g j*_=f i*(g j*_);rw [Rat.mul_assoc]
end
structure Mon (n:Nat) (p:Ps):Prop where
 d:Dg (n+1) p.c
 t:p.c n=1
theorem qRq{n:Nat}{p:Ps}(hp:Mon n p):∀ (k:Nat) (f:Ps),Dg (n+k) f.c->∃ Q r:Ps,Dg k Q.c/\Dg n r.c/\f=Q*p+r
 | 0,f,hf=>⟨0,f,λi _=>qFi i,hf,by grind⟩
 | k+1,f,hf=>by
  have d2:Dg (n+k) (f - mo (f.c (n+k)) k*p).c:=λi hi=>by
   rw [qGp,qAeb,if_pos (by omega)]
   by_cases e:i=n+k
   ·rw [e,show n+k - k=n by omega,hp.t,Rat.mul_one,Rat.sub_self]
   ·rw [hf i (by omega),hp.d (i - k) (by omega),Za1,Rat.sub_self]
  obtain ⟨Q,r,h1,h2,h3⟩:=qRq hp k _ d2
  refine ⟨Q+mo (f.c (n+k)) k,r,qY6 (h1.mono (by omega)) (qAl1 _ _),h2, ?_⟩
  have:f=(f - mo (f.c (n+k)) k*p)+mo (f.c (n+k)) k*p:=by grind
  rw [this,h3]
  grind
def qYa(p:Nat->Rat)(n:Nat)(b:Nat->Rat):Nat->Nat->Rat
 | 0,i=>b i
 | k+1,i=>if i+1<n then qYa p n b k (i+1) else -sm n λj=>p j*qYa p n b k j
def goS(p:Nat->Rat)(n:Nat)(b:Nat->Rat)(k:Nat):Rat:=qYa p n b k 0
theorem qY8{p b:Nat->Rat}{n:Nat}:∀ i k,i<n->qYa p n b k i=goS p n b (k+i)
 | 0,k,_=>rfl
 | i+1,k,h=>by
  have ih:=qY8 (p:=p) (b:=b) (n:=n) i (k+1) (by omega)
  have:qYa p n b (k+1) i=qYa p n b k (i+1):=by
   show (if i+1<n then _ else _)=_
   rw [if_pos h]
  rw [<-this,ih,show k+1+i=k+(i+1) by omega]
theorem qJ3{p b:Nat->Rat}{n i:Nat}(h:i<n):goS p n b i=b i:=by
 have:=qY8 (p:=p) (b:=b) i 0 h
 rw [Nat.zero_add] at this
 exact this.symm
theorem qP8{p b:Nat->Rat}{n:Nat}(h:0<n)(k:Nat):goS p n b (k+n) = -sm n λj=>p j*goS p n b (k+j):=by
 have e:=qY8 (p:=p) (b:=b) (n:=n) (n - 1) (k+1) (by omega)
 rw [show k+1+(n - 1)=k+n by omega] at e
 rw [<-e]
 show (if n - 1+1<n then _ else _)=_
 rw [if_neg (by omega)]
 congr 1
 exact qAh λj hj=>by rw [qY8 j k hj]
theorem qZk{p:Ps}{n:Nat}{b:Nat->Rat}(hp:Mon n p)(h:0<n):Kd p n (goS p.c n b):=λk=>by
 show sm n (λi=>p.c i*goS p.c n b (k+i))+p.c n*goS p.c n b (k+n)=0
 rw [hp.t,Rat.one_mul,qP8 h,Rat.add_neg_cancel]
theorem qAcd{p:Ps}{n:Nat}{m m':Nat->Rat}(hp:Mon n p)(h:Kd p n m)(h':Kd p n m')(e:∀ i,i<n->m i=m' i):∀ i,m i=m' i:=by
 intro i
 induction i using Nat.strongRecOn with
 | _ i ih=>
  by_cases hi:i<n
  ·exact e i hi
  ·have a:=h (i - n)
   have b:=h' (i - n)
   have e2:sm n (λj=>p.c j*m (i - n+j))=sm n (λj=>p.c j*m' (i - n+j)):=qAh λj hj=>by rw [ih (i - n+j) (by omega)]
   have a':sm n (λj=>p.c j*m (i - n+j))+p.c n*m (i - n+n)=0:=a
   have b':sm n (λj=>p.c j*m' (i - n+j))+p.c n*m' (i - n+n)=0:=b
   rw [hp.t,show i - n+n=i by omega] at a' b'
   rw [e2] at a'
   grind
abbrev Nz(f:Ps):Prop:=∃ i,f.c i≠0
def PosF(n:Nat)(m:Nat->Rat):Prop:=∀ f:Ps,Dg n f.c->Nz f->0<La m (f*f)
theorem qAcw(a:Rat):0<=a*a:=by
 by_cases h:0<=a
 ·exact Zal h h
 ·have:0 <= -a:=by grind
  have:=Zal this this
  grind
theorem qAjm{a:Rat}(h:a≠0):0<a*a:=by
 have h1:=qAcw a
 have h2:a*a≠0:=λz=>by
  rcases Rat.mul_eq_zero.mp z with y | y
  ·exact h y
  ·exact h y
 grind
section
variable {ms:List Rat} {n:Nat}
theorem qAf4{N:Nat}(hN:n+1<=N)(h:∀ k,k<n->0<hS ms k):∀ j,j<=n->∀ f:Fu,Dg j f->0<=Bf (N+1) (coef ms) f f/\((∃ i,f i≠0)->0<Bf (N+1) (coef ms) f f):=by
 intro j
 induction j with
 | zero=>
  intro _ f hf
  have e:∀ i,f i=0:=λi=>hf i (by omega)
  have:Bf (N+1) (coef ms) f f=0:=by
   unfold Bf
   exact qB0 λi _=>qB0 λk _=>by rw [e i,Za2,Za2]
  exact ⟨by rw [this];exact Rat.le_refl,λ⟨i,hi⟩=>absurd (e i) hi⟩
 | succ j ih=>
  intro hj f hf
  have dg:Dg j (λi=>f i - f j*pS ms j i):=λi hi=>by
   show f i - f j*pS ms j i=0
   by_cases e:i=j
   ·rw [e,qB9,Rat.mul_one,Rat.sub_self]
   ·rw [hf i (by omega),qAy ms j i (by omega),Za1,Rat.sub_self]
  obtain ⟨i1,i2⟩:=ih (by omega) _ dg
  have o:=qFp (ms:=ms) (n:=j) (N:=N) (by omega) (λk hk=>(Zan (h k (by omega)))) dg
  have hh:=qHn ms j (N:=N+1) (by omega)
  have e1:=qHi (N:=N+1) (m:=coef ms) f (pS ms j) (λi=>f i - f j*pS ms j i) (f j)
  have e2:=qI5 (N:=N+1) (m:=coef ms) f f (pS ms j) (f j)
  have e3:=qI5 (N:=N+1) (m:=coef ms) (pS ms j) f (pS ms j) (f j)
  rw [o] at e3
  have e4:=qEw (N:=N+1) (m:=coef ms) f (pS ms j)
  have e5:=e1
  rw [o] at e5
  have sum:Bf (N+1) (coef ms) f f=Bf (N+1) (coef ms) (λi=>f i - f j*pS ms j i) (λi=>f i - f j*pS ms j i)+f j*f j*hS ms j:=by
   rw [hh]
   grind
  have hp:=h j (by omega)
  have s1:0<=f j*f j*hS ms j:=Zal (qAcw _) (Rat.le_of_lt hp)
  refine ⟨by rw [sum];grind,λ⟨i,hi⟩ => ?_⟩
  rw [sum]
  by_cases z:f j=0
  ·have:0<Bf (N+1) (coef ms) (λi=>f i - f j*pS ms j i) (λi=>f i - f j*pS ms j i):=i2 ⟨i,by rw [z,Za2];grind⟩
   grind
  ·have:0<f j*f j*hS ms j:=Rat.mul_pos (qAjm z) hp
   grind
theorem qAbs{m:Nat->Rat}(hn:n<=30)(e:∀ i,i+1<2*n->coef ms i=m i)(h:∀ k,k<n->0<hS ms k):PosF n m:=λf hf nz=>by
 have:=(qAf4 (N:=32) (by omega) h n (Za9 _) f.c hf).2 nz
 rw [qDg hf hf (m':=m) (λi hi=>e i (by omega)),qTs hf hf (by omega) (by omega) (by omega) (by omega)] at this
 exact this
theorem qApb{m:Nat->Rat}(hn:n<=30)(e:∀ i,i+1<2*n->coef ms i=m i)(h:PosF n m):∀ k,k<n->0<hS ms k:=λk hk=>by
 have d:=qAy ms k
 rw [qHn ms k (N:=32) (by omega),qDg d d (m':=m) (λi hi=>e i (by omega)),qTs d d (by omega) (by omega) (by omega) (by omega)]
 exact h ⟨pS ms k⟩ (d.mono (by omega)) ⟨k,by show pS ms k k≠0;rw [qB9];decide⟩
end
def dP(f:Ps):Ps:=⟨λi=>((i:Rat)+1)*f.c (i+1)⟩
theorem qAe3(f g:Ps):dP (f - g)=dP f - dP g:=ext' λi=>by
 show ((i:Rat)+1)*(f.c (i+1) - g.c (i+1))=((i:Rat)+1)*f.c (i+1) - ((i:Rat)+1)*g.c (i+1)
 grind
theorem qAbp(a:Rat)(f:Ps):dP (cst a*f)=cst a*dP f:=ext' λi=>by
 rw [qA1]
 show ((i:Rat)+1)*(cst a*f).c (i+1)=a*(((i:Rat)+1)*f.c (i+1))
 rw [qA1]
 grind
theorem dP_X(f:Ps):dP (X*f)=f+X*dP f:=ext' λi=>by
 show ((i:Rat)+1)*(X*f).c (i+1)=f.c i+(X*dP f).c i
 rw [qLw,qLw]
 show ((i:Rat)+1)*f.c i=_
 cases i with
 | zero=>show (((0:Nat):Rat)+1)*f.c 0=f.c 0+0;grind
 | succ i=>
  show (((i+1:Nat):Rat)+1)*f.c (i+1)=f.c (i+1)+((i:Rat)+1)*f.c (i+1)
  rw [Rat.natCast_add]
  have:((1:Nat):Rat)=1:=rfl
  rw [this]
  grind
theorem qAgc{n:Nat}{f:Ps}(hf:Dg (n+1) f.c):Dg n (dP f).c:=λi hi=>by
 show ((i:Rat)+1)*f.c (i+1)=0
 rw [hf (i+1) (by omega),Za1]
def sqL(m:Nat->Rat):List Rat:=(Zag 64).map m
theorem qRj{m:Nat->Rat}{i:Nat}(h:i<64):coef (sqL m) i=m i:=by
 unfold coef sqL
 rw [Zae,List.getElem?_range h]
 rfl
def eS(p:Ps)(n:Nat):Nat->Rat:=goS p.c n λi=>if i+1=n then 1 else 0
theorem qAe9{p:Ps}{n:Nat}(hn:n<=30)(h0:0<n){r:Ps}(hr:Dg n r.c):La (eS p n) r=r.c (n - 1):=by
 rw [qCk hr (by omega)]
 obtain ⟨k,rfl⟩:∃ k,n=k+1:=⟨n - 1,by omega⟩
 show sm k _+r.c k*_=r.c k
 have e1:∀ i,i<k+1->eS p (k+1) i=if i+1=k+1 then 1 else 0:=λi hi=>qJ3 hi
 rw [qB0 λi hi=>by rw [e1 i (by omega),if_neg (by omega),Za1],e1 k (by omega),if_pos rfl,Rat.mul_one,Zah]
def Hm(n:Nat)(p c:Ps):Prop:=∀ f:Ps,Dg n f.c->Nz f->0<La (eS p n) (c*(f*f))
section
variable {m:Nat->Rat} {n:Nat} {p:Ps}
theorem qArm(hp:Mon n p)(hk:Kd p n m)(h:PosF n m)(hn:n<=15){g:Ps}{k:Nat}(hg:Dg (n+k) g.c)(hk2:k+k+n+n<=60):0<=La m (g*g):=by
 obtain ⟨Q,r,dQ,dr,rfl⟩:=qRq hp k g hg
 have e:(Q*p+r)*(Q*p+r)=(Q*(Q*p+r)+Q*r)*p+r*r:=by grind
 have d1:Dg (k+(n+k)) (Q*(Q*p+r)+Q*r).c:=qY6 (qA3 dQ hg (by omega)) (qA3 dQ dr (by omega))
 rw [e,qCm,qRm hp.d hk d1 (by omega),Zah]
 by_cases z:Nz r
 ·exact Rat.le_of_lt (h r dr z)
 ·have:r=0:=qFe λi=>Za5 λy=>z ⟨i,y⟩
  rw [this,show (0:Ps)*0=0 by grind,qQp]
  exact Rat.le_refl
def Pk(m:Nat->Rat)(k:Nat):Ps:=⟨pS (sqL m) k⟩
theorem qAfc(k:Nat):Dg (k+1) (Pk m k).c:=qAy _ k
theorem Pk_c(k i:Nat):(Pk m k).c i=pS (sqL m) k i:=rfl
theorem qJ9(i:Nat):(1:Ps).c i=if i=0 then 1 else 0:=rfl
theorem qAmu:Pk m 0=1:=ext' λi=>by
 rw [Pk_c,qRc,qJ9]
theorem qAll{f g:Nat->Rat}{a:Rat}(h:∀ i,f i=xF g i - a*g i):(⟨f⟩:Ps)=X*⟨g⟩ - cst a*⟨g⟩:=ext' λi=>by
 rw [qGp,qLw,qA1]
 exact h i
theorem qAk9{f g k:Nat->Rat}{a b:Rat}(h:∀ i,f i=xF g i - a*g i - b*k i):(⟨f⟩:Ps)=X*⟨g⟩ - cst a*⟨g⟩ - cst b*⟨k⟩:=ext' λi=>by
 rw [qGp,qGp,qLw,qA1,qA1]
 exact h i
theorem qAo9:Pk m 1=X*Pk m 0 - cst (aS (sqL m) 0)*Pk m 0:=qAll (f:=pS (sqL m) 1) (g:=pS (sqL m) 0) (a:=aS (sqL m) 0) (qY0 (sqL m))
theorem qAkz(k:Nat):Pk m (k+2)=X*Pk m (k+1) - cst (aS (sqL m) (k+1))*Pk m (k+1) - cst (hS (sqL m) (k+1) / hS (sqL m) k)*Pk m k:=qAk9 (f:=pS (sqL m) (k+2)) (g:=pS (sqL m) (k+1)) (k:=pS (sqL m) k) (a:=aS (sqL m) (k+1)) (b:=hS (sqL m) (k+1) / hS (sqL m) k) (qQz (sqL m) k)
theorem qWf(hn:n<=15)(h:PosF n m){k:Nat}(hk:k<n):0<hS (sqL m) k:=qApb (n:=n) (by omega) (λi hi=>qRj (by omega)) h k hk
theorem qAa3(hn:n<=15)(h:PosF n m){k:Nat}(hk:k<=n){f:Ps}(hf:Dg k f.c):La m (Pk m k*f)=0:=by
 have o:=qFp (ms:=sqL m) (n:=k) (N:=32) (by omega) (λj hj=>Zan (qWf hn h (by omega))) hf
 rw [qDg (n:=k+1) (m':=m) (qAy _ k) (hf.mono (by omega)) (λi hi=>qRj (by omega)),qTs (n:=k+1) (k:=k) (qAy _ k) hf (by omega) (by omega) (by omega) (by omega)] at o
 exact o
theorem qAq0{k:Nat}(hk:k<=15):hS (sqL m) k=La m (Pk m k*Pk m k):=by
 have d:=qAy (sqL m) k
 rw [qHn (sqL m) k (N:=32) (by omega),qDg d d (m':=m) (λi hi=>qRj (by omega)),qTs d d (by omega) (by omega) (by omega) (by omega)]
 rfl
theorem qAk3(hp:Mon n p)(hk:Kd p n m)(h:PosF n m)(hn:n<=15):p=Pk m n:=by
 have d:Dg n (p - Pk m n).c:=λi hi=>by
  rw [qGp]
  by_cases e:i=n
  ·rw [e,hp.t]
   show 1 - pS (sqL m) n n=0
   rw [qB9,Rat.sub_self]
  ·rw [hp.d i (by omega),qAfc n i (by omega),Rat.sub_self]
 have z:La m ((p - Pk m n)*(p - Pk m n))=0:=by
  have e:(p - Pk m n)*(p - Pk m n)=(p - Pk m n)*p - Pk m n*(p - Pk m n):=by grind
  rw [e,qK6,qRm hp.d hk d (by omega),qAa3 hn h (Za9 _) d,Rat.sub_self]
 refine Za5 λne => ?_
 have:Nz (p - Pk m n):=Za5 λy=>ne (ext' λi=>by
  have:(p - Pk m n).c i=0:=Za5 λw=>y ⟨i,w⟩
  rw [qGp] at this
  grind)
 have:=h _ d this
 grind
theorem qApf(hp:Mon n p)(hk:Kd p n m)(h:PosF n m)(hn:n<=8){f:Ps}(hf:Dg n f.c):∀ k,k<n->
  hS (sqL m) k / hS (sqL m) 0*La m (f*f)<=La m (f*f*(dP (Pk m (k+1))*Pk m k - Pk m (k+1)*dP (Pk m k)))
 | 0,h0=>by
  have hp0:=qWf (k:=0) (by omega) h h0
  have e:dP (Pk m 1)*Pk m 0 - Pk m 1*dP (Pk m 0)=1:=by
   have d0:dP (1:Ps)=0:=ext' λi=>by
    show ((i:Rat)+1)*(if i+1=0 then ((1:Nat):Rat) else 0)=_
    rw [if_neg (by omega),Za1,qFi]
   rw [qAo9,qAmu,qAe3,dP_X,qAbp,d0]
   grind
  rw [e,show f*f*1=f*f by grind]
  have:hS (sqL m) 0 / hS (sqL m) 0=1:=by grind
  rw [this,Rat.one_mul]
  exact Rat.le_refl
 | k+1,h1=>by
  have ih:=qApf hp hk h hn hf k (by omega)
  have p0:=qWf (k:=0) (by omega) h (by omega)
  have pk:=qWf (k:=k) (by omega) h (by omega)
  have pk1:=qWf (k:=k+1) (by omega) h (by omega)
  have e:f*f*(dP (Pk m (k+2))*Pk m (k+1) - Pk m (k+2)*dP (Pk m (k+1)))=f*Pk m (k+1)*(f*Pk m (k+1))+cst (hS (sqL m) (k+1) / hS (sqL m) k)*(f*f*(dP (Pk m (k+1))*Pk m k - Pk m (k+1)*dP (Pk m k))):=by
   rw [qAkz,qAe3,qAe3,dP_X,qAbp,qAbp]
   grind
  rw [e,qCm,qDi]
  have g1:0<=La m (f*Pk m (k+1)*(f*Pk m (k+1))):=qArm hp hk h (by omega) (k:=n) (qA3 hf (qAfc (k+1)) (by omega)) (by omega)
  generalize La m (f*Pk m (k+1)*(f*Pk m (k+1)))=s at *
  generalize La m (f*f*(dP (Pk m (k+1))*Pk m k - Pk m (k+1)*dP (Pk m k)))=t at *
  generalize La m (f*f)=z at *
  generalize hS (sqL m) (k+1)=b at *
  generalize hS (sqL m) k=a at *
  generalize hS (sqL m) 0=c at *
  have q:0<b / a:=by rw [Rat.div_def];exact Rat.mul_pos pk1 (Rat.inv_pos.mpr pk)
  have:=Rat.mul_le_mul_of_nonneg_left ih (Rat.le_of_lt q)
  have e2:b / a*(a / c*z)=b / c*z:=by grind
  rw [e2] at this
  grind
theorem qAqt(hp:Mon n p)(hk:Kd p n m)(h:PosF n m)(hn:n<=15)(h0:0<n){g:Ps}(hg:Dg (n+29) g.c):La m (Pk m (n - 1)*g)=hS (sqL m) (n - 1)*La (eS p n) g:=by
 obtain ⟨Q,r,dQ,dr,rfl⟩:=qRq hp 29 g hg
 have e:Pk m (n - 1)*(Q*p+r)=Pk m (n - 1)*Q*p+Pk m (n - 1)*r:=by grind
 have d1:Dg (n - 1) (r - cst (r.c (n - 1))*Pk m (n - 1)).c:=λi hi=>by
  rw [qGp,qA1]
  by_cases z:i=n - 1
  ·rw [z]
   show _ - _*pS (sqL m) (n - 1) (n - 1)=0
   rw [qB9,Rat.mul_one,Rat.sub_self]
  ·rw [dr i (by omega),qAfc (n - 1) i (by omega),Za1,Rat.sub_self]
 have e2:Pk m (n - 1)*r=Pk m (n - 1)*(r - cst (r.c (n - 1))*Pk m (n - 1))+cst (r.c (n - 1))*(Pk m (n - 1)*Pk m (n - 1)):=by grind
 rw [e,qCm,qRm hp.d hk (k:=48) ((qA3 (qAfc (n - 1)) dQ (k:=n+29) (by omega)).mono (by omega)) (by omega),Zah,e2,qCm,qDi,qAa3 hn h (by omega) d1, ←qAq0 (by omega),Zah,qCm,qRm (m:=eS p n) hp.d (qZk hp h0) (k:=29) dQ (by omega),qAe9 (by omega) h0 dr,Zah]
 grind
theorem qAl5(hp:Mon n p)(hk:Kd p n m)(h:PosF n m)(hn:n<=8):Hm n p (dP p):=λf hf nz=>by
 have h0:0<n:=by
  obtain ⟨i,hi⟩:=nz
  refine Nat.pos_of_ne_zero λz=>hi (hf i (by omega))
 have c:=qApf hp hk h hn hf (n - 1) (by omega)
 rw [show n - 1+1=n by omega, ←qAk3 hp hk h (by omega)] at c
 have e:f*f*(dP p*Pk m (n - 1) - p*dP (Pk m (n - 1)))=Pk m (n - 1)*(dP p*(f*f)) - f*f*dP (Pk m (n - 1))*p:=by grind
 have dd:Dg (n+n+n) (dP p*(f*f)).c:=qA3 (qAgc hp.d) (qA3 hf hf (k:=n+n) (by omega)) (by omega)
 have d2:Dg (n - 1) (dP (Pk m (n - 1))).c:=qAgc (n:=n - 1) (by rw [show n - 1+1=n by omega];have:=qAfc (m:=m) (n - 1);rw [show n - 1+1=n by omega] at this;exact this)
 rw [e,qK6,qRm hp.d hk (k:=n+n+n) (qA3 (qA3 hf hf (k:=n+n) (by omega)) d2 (by omega)) (by omega),qAqt hp hk h (by omega) h0 (dd.mono (by omega))] at c
 have p0:=qWf (k:=0) (by omega) h h0
 have p1:=qWf (k:=n - 1) (by omega) h (by omega)
 have s:=h f hf nz
 have q:0<hS (sqL m) (n - 1) / hS (sqL m) 0*La m (f*f):=Rat.mul_pos (by rw [Rat.div_def];exact Rat.mul_pos p1 (Rat.inv_pos.mpr p0)) s
 have:0<hS (sqL m) (n - 1)*La (eS p n) (dP p*(f*f)):=by grind
 refine Za5 λz => ?_
 have z':0 <= -La (eS p n) (dP p*(f*f)):=by grind
 have:=Zal (Rat.le_of_lt p1) z'
 grind
end
end MR
namespace MR
open PySem PySem.Spec PyProof.Rows L2
def qAky(a c:List Rat):Prop:=∃ n m,SzL n a/\SzL m c/\0<n/\0<m/\n+m<=900000
structure StepSz (ms p:List Rat) (w:Rat) (b:Option PW):Prop where
 s1:MulSz xL p
 s2:MulSz (xpN p) p
 s3:qAlq (xppN p) ms
 s4:qN3 (qDp (xppN p) ms) w
 s5:qAky xL (qUi (alN ms p w))
 s6:MulSz (qLv ms p w) p
 s7:∀ q,b=some q->qN3 w q.2/\MulSz q.1 (qUi (w / q.2))/\qAky (f1N ms p w) (beN w q)
 s8:MulSz (fN ms p w b) (fN ms p w b)
 s9:qAlq (sqN (fN ms p w b)) ms
structure Lv2 (m:Nat) (M:Int) (b:Nat) (D:Int) (p:List Rat) (w:Rat):Prop where
 cd:Cd b D p
 ov:Ov (2 ^ (2*b+m+8)) (D*D*M) w
theorem qAmf:Cd 0 1 xL:=⟨by decide,by decide,λi=>by
 match i with
 | 0=>exact Ov.zero
 | 1=>exact ⟨1,by show (1:Rat)*((1:Int):Rat)=((1:Int):Rat);rw [Rat.one_mul],by decide⟩
 | i+2=>rw [qAk (show xL.length<=i+2 by show 2<=_;omega)];exact Ov.zero⟩
theorem qAjz:Cd 0 1 [1]:=⟨by decide,by decide,λi=>by
 match i with
 | 0=>exact ⟨1,by show (1:Rat)*((1:Int):Rat)=((1:Int):Rat);rw [Rat.one_mul],by decide⟩
 | i+1=>rw [qAk (show ([1]:List Rat).length<=i+1 by show 1<=_;omega)];exact Ov.zero⟩
theorem qAbv{n:Nat}{d:Int}{q:Rat}(hd:0<d)(hl:d.natAbs<=2 ^ n)(h:Ov (2 ^ n) d q):Cd n d (qUi q):=⟨hd,hl,λi=>by
 rw [qD4]
 split
 ·exact h
 ·exact Ov.zero⟩
theorem qW9{f g:Nat->Rat}(hg:∀ j,g (j+1)=0)(k:Nat):∀ n,conv f g n k=if k<n then f k*g 0 else 0
 | 0=>by simp [conv]
 | n+1=>by
  show conv f g n k+(if n<=k then f n*g (k - n) else 0)=_
  rw [qW9 hg k n]
  by_cases h1:k<n
  ·rw [if_pos h1,if_neg (by omega),if_pos (by omega),Zac]
  ·rw [if_neg h1,Zah]
   by_cases h2:k=n
   ·subst h2
    rw [if_pos (Za9 _),if_pos (by omega),Nat.sub_self]
   ·rw [if_pos (by omega),if_neg (by omega)]
    obtain ⟨j,hj⟩:∃ j,k - n=j+1:=⟨k - n - 1,by omega⟩
    rw [hj,hg,Za1]
theorem qAef(a:List Rat)(q:Rat)(i:Nat):coef (qBc a (qUi q)) i=coef a i*q:=by
 rw [qFo,qW9 (λj=>by rw [qD4,if_neg (by omega)])]
 split
 ·rw [qD4,if_pos rfl]
 ·rw [qAk (by omega),Za2]
theorem qEa{a:Int}(h:0<a):(a:Rat)≠0:=λz=>by
 have:=Rat.intCast_inj.mp (z.trans Rat.intCast_zero.symm)
 omega
theorem qQ0{a:Int}:0<(a:Rat)↔0<a:=by
 rw [<-Rat.intCast_zero]
 exact Rat.intCast_lt_intCast
theorem qXj{n:Nat}{E:Int}{w:Rat}(h:Ov (2 ^ n) E w)(hE:0<E)(hw:0<w):∃ W:Int,w*(E:Rat)=(W:Rat)/\0<W/\W.natAbs<=2 ^ n:=by
 obtain ⟨W,e,l⟩:=h
 exact ⟨W,e,qQ0.mp (by rw [<-e];exact Rat.mul_pos hw (qQ0.mpr hE)),l⟩
theorem qAl3{m b b' B:Nat}{M D:Int}{ms p:List Rat}{w:Rat}{bf:Option PW}(hm:Cd m M ms)(h:Lv2 m M b D p w)(w0:0<w)(lp:p.length<=7)
  (hb:∀ q,bf=some q->q.1.length<=8/\0<q.2/\∃ D',Lv2 m M b' D' q.1 q.2) (hB:4*b+2*b'+2*m+25<=B) (hs:4*B+2*m+60<=900000) :
  StepSz ms p w bf/\∃ D',Lv2 m M B D' (fN ms p w bf) (qDp (sqN (fN ms p w bf)) ms):=by
 have lx:xL.length<=16:=by decide
 have l1:=qAa6 p
 have l2:=qWm p
 have l3:=qXu ms p w
 have c1:Cd (b+4) (1*D) (xpN p):=((qAmf.mul h.cd lx).strip).mono (by omega)
 have c2:Cd (2*b+8) (1*D*D) (xppN p):=((c1.mul h.cd (by omega)).strip).mono (by omega)
 have c3:Ov (2 ^ (2*b+m+12)) (1*D*D*M) (qDp (xppN p) ms):=(c2.dot hm (by omega)).mono (qDe (by omega))
 have pDD:0<D*D:=Int.mul_pos h.cd.pos h.cd.pos
 have pE:0<D*D*M:=Int.mul_pos pDD hm.pos
 obtain ⟨W,eW,pW,lW⟩:=qXj h.ov pE w0
 have wne:w≠0:=Zan w0
 obtain ⟨A,eA,lA⟩:=c3
 have ea:alN ms p w*(W:Rat)=(A:Rat):=by
  rw [<-eA, ←eW]
  unfold alN
  rw [show (1:Int)*D*D*M=D*D*M by rw [Int.one_mul]]
  grind
 have oa:Ov (2 ^ (2*b+m+12)) W (alN ms p w):=⟨A,ea,lA⟩
 have lW':W.natAbs<=2 ^ (2*b+m+12):=Zaf lW (qDe (by omega))
 have c4:Cd (2*b+m+12) W (qLv ms p w):=Cd.strip ⟨pW,lW',λi=>by
  rw [qH6,qE4,qD4]
  match i with
  | 0=>
   rw [if_pos rfl,show coef xL 0=0 from rfl,Zah]
   exact oa.neg
  | 1=>
   rw [if_neg (by decide),show coef xL 1=1 from rfl,Rat.neg_zero,Zac]
   exact ⟨W,by rw [Rat.one_mul],lW'⟩
  | i+2=>
   rw [if_neg (by omega),qAk (show xL.length<=i+2 by show 2<=_;omega),Rat.neg_zero,Zac]
   exact Ov.zero⟩
 have c5:Cd (3*b+m+16) (W*D) (f1N ms p w):=((c4.mul h.cd (by omega)).strip).mono (by omega)
 have zm:Sz (2*b+m+13) (qDp (xppN p) ms):=qLt (n:=2*b+m+12) ⟨A,eA,lA⟩ (by rw [Int.one_mul];exact pE) (by
  rw [Int.one_mul]
  exact Zaf (qB5 (qB5 h.cd.le h.cd.le) hm.le) (qDe (by omega)))
 have zw:Sz (2*b+m+9) w:=qLt (n:=2*b+m+8) h.ov pE (Zaf (qB5 (qB5 h.cd.le h.cd.le) hm.le) (qDe (by omega)))
 have main:(∀ q,bf=some q->qN3 w q.2/\MulSz q.1 (qUi (w / q.2))/\qAky (f1N ms p w) (beN w q))/\∃ D',Cd B D' (fN ms p w bf):=by
  cases bf with
  | none=>exact ⟨λq z=>(by cases z),_,c5.mono (by omega)⟩
  | some q=>
   obtain ⟨lq,q0,D',h'⟩:=hb q rfl
   obtain ⟨p',w'⟩:=q
   have q0:0<w':=q0
   have lq:p'.length<=8:=lq
   have h':Lv2 m M b' D' p' w':=h'
   have pE':0<D'*D'*M:=Int.mul_pos (Int.mul_pos h'.cd.pos h'.cd.pos) hm.pos
   obtain ⟨W',eW',pW',lWW⟩:=qXj h'.ov pE' q0
   have wne':w'≠0:=Zan q0
   have zw':Sz (2*b'+m+9) w':=qLt (n:=2*b'+m+8) h'.ov pE' (Zaf (qB5 (qB5 h'.cd.le h'.cd.le) hm.le) (qDe (by omega)))
   have pG:0<W'*(D*D):=Int.mul_pos pW' pDD
   have lG:(W'*(D*D)).natAbs<=2 ^ (2*b+2*b'+m+8):=Zaf (qB5 lWW (qB5 h.cd.le h.cd.le)) (qDe (by omega))
   have nM:(M:Rat)≠0:=qEa hm.pos
   have nD:(D:Rat)≠0:=qEa h.cd.pos
   have nD':(D':Rat)≠0:=qEa h'.cd.pos
   have nW':(W':Rat)≠0:=qEa pW'
   have eb:w / w'*((W'*(D*D):Int):Rat)=((W*(D'*D'):Int):Rat):=by
    simp only [Za7] at eW eW' ⊢
    rw [<-eW', ←eW]
    grind
   have ob:Ov (2 ^ (2*b+2*b'+m+8)) (W'*(D*D)) (w / w'):=⟨W*(D'*D'),eb,Zaf (qB5 lW (qB5 h'.cd.le h'.cd.le)) (qDe (by omega))⟩
   have cr:Cd (2*b+2*b'+m+8) (W'*(D*D)) (qUi (w / w')):=qAbv pG lG ob
   have cb:Cd (2*b+2*b'+m+8) (W'*(D*D)) (beN w (p',w')):=Cd.strip ⟨pG,lG,λi=>by
    rw [qAef]
    obtain ⟨z,ez,lz⟩:=h'.cd.ov i
    refine ⟨W*(D'*z), ?_,Zaf (qB5 lW (qB5 h'.cd.le lz)) (qDe (by omega))⟩
    show coef p' i*(w / w')*_=_
    rw [Rat.mul_assoc,eb]
    simp only [Za7]
    rw [<-ez]
    grind⟩
   refine ⟨λq z => ?_,(W*D)*(W'*D), ?_⟩
   ·cases z
    exact ⟨⟨_,_,zw,zw',by omega⟩,h'.cd.mulSz cr (by omega) (by omega),_,_,c5.szL,cb.szL,by omega,by omega,by omega⟩
   ·have eD:(W'*(D*D))*W=(W*D)*(W'*D):=by ac_rfl
    have lWD:(W'*D).natAbs<=2 ^ (2*b'+m+8+b):=qB5 lWW h.cd.le
    have g1:∀ i,Ov (2 ^ (4*b+2*b'+2*m+24)) ((W*D)*(W'*D)) (coef (f1N ms p w) i):=λi=>((c5.ov i).lift (W'*D)).mono (Zaf (Nat.mul_le_mul_left _ lWD) (by rw [<-Nat.pow_add];exact qDe (by omega)))
    have g2:∀ i,Ov (2 ^ (4*b+2*b'+2*m+24)) ((W*D)*(W'*D)) (coef (beN w (p',w')) i):=λi=>by
     have:=(cb.ov i).lift W
     rw [eD] at this
     exact this.mono (Zaf (Nat.mul_le_mul_left _ lW) (by rw [<-Nat.pow_add];exact qDe (by omega)))
    refine Cd.mono (n:=4*b+2*b'+2*m+25) (Cd.strip ⟨Int.mul_pos (Int.mul_pos pW h.cd.pos) (Int.mul_pos pW' h.cd.pos), ?_,λi => ?_⟩) hB
    ·exact Zaf (qB5 (qB5 lW h.cd.le) lWD) (qDe (by omega))
    ·rw [qH6,qE4]
     refine ((g1 i).add (g2 i).neg).mono ?_
     rw [Nat.pow_succ 2 (4*b+2*b'+2*m+24)]
     generalize 2 ^ (4*b+2*b'+2*m+24)=z
     omega
 obtain ⟨m7,DD,cf⟩:=main
 have lf:(fN ms p w bf).length<=8:=by
  have e1:=qAbj ms p w
  cases bf with
  | none=>exact Zaf e1 (by omega)
  | some q=>
   obtain ⟨lq,_⟩:=hb q rfl
   have e2:=qAdy w q
   have e4:=qDd (qV5 (f1N ms p w) (qKc (beN w q)))
   have e5:=qMb (f1N ms p w) (qKc (beN w q))
   rw [qE5] at e5
   show (strip (qV5 (f1N ms p w) (qKc (beN w q)))).length<=_
   omega
 have ls:=qAfn (fN ms p w bf)
 have cs:Cd (2*B+4) (DD*DD) (sqN (fN ms p w bf)):=((cf.mul cf (by omega)).strip).mono (by omega)
 refine ⟨⟨qAmf.mulSz h.cd lx (by omega),c1.mulSz h.cd (by omega) (by omega),c2.dotSz hm (by omega) (by omega),⟨_,_,zm,zw,by omega⟩,⟨_,_,qAmf.szL,(qAbv pW lW' oa).szL,by omega,by omega,by omega⟩,c4.mulSz h.cd (by omega) (by omega),m7,cf.mulSz cf (by omega) (by omega),cs.dotSz hm (by omega) (by omega)⟩,DD,cf, ?_⟩
 exact (cs.dot hm (by omega)).mono (qDe (by omega))
theorem pig:∀ (B A:Nat) (f:Nat->Nat),B<A->(∀ i,i<A->f i<B)->∃ i j,i<j/\j<A/\f i=f j
 | 0,A,f,h,hf=>absurd (hf 0 (by omega)) (by omega)
 | B+1,A,f,h,hf=>by
  by_cases e:∃ i,i<A - 1/\f i=f (A - 1)
  ·obtain ⟨i,h1,h2⟩:=e
   exact ⟨i,A - 1,h1,by omega,h2⟩
  ·have ne:∀ i,i<A - 1->f i≠f (A - 1):=λi hi z=>e ⟨i,hi,z⟩
   have hl:=hf (A - 1) (by omega)
   obtain ⟨i,j,h1,h2,h3⟩:=pig B (A - 1) (λi=>if f i=B then f (A - 1) else f i) (by omega) (λi hi=>by
    show (if f i=B then f (A - 1) else f i)<B
    have hi2:=hf i (by omega)
    have hn:=ne i hi
    split
    ·omega
    ·omega)
   refine ⟨i,j,h1,by omega, ?_⟩
   have h3:(if f i=B then f (A - 1) else f i)=(if f j=B then f (A - 1) else f j):=h3
   have n1:=ne i (by omega)
   have n2:=ne j (by omega)
   split at h3
   ·split at h3
    ·omega
    ·exact absurd h3.symm n2
   ·split at h3
    ·exact absurd h3 n1
    ·exact h3
def enc(B:Nat)(v:Nat->Nat):Nat->Nat
 | 0=>0
 | s+1=>v 0+B*enc B (λi=>v (i+1)) s
theorem qAec{B:Nat}:∀ {s:Nat} {v:Nat->Nat},(∀ i,i<s->v i<B)->enc B v s<B ^ s
 | 0,v,_=>by show 0<B ^ 0;simp
 | s+1,v,h=>by
  have h0:=h 0 (by omega)
  have ih:=qAec (B:=B) (s:=s) (v:=λi=>v (i+1)) λi hi=>h (i+1) (by omega)
  show v 0+B*enc B (λi=>v (i+1)) s<B ^ (s+1)
  have:B*(enc B (λi=>v (i+1)) s+1)<=B*B ^ s:=Nat.mul_le_mul_left _ ih
  rw [Nat.mul_add,Nat.mul_one] at this
  have e:B ^ (s+1)=B*B ^ s:=by rw [Nat.pow_succ,Nat.mul_comm]
  rw [e]
  omega
theorem qWh{B:Nat}:∀ {s:Nat} {v w:Nat->Nat},(∀ i,i<s->v i<B)->(∀ i,i<s->w i<B)->enc B v s=enc B w s->∀ i,i<s->v i=w i
 | 0,v,w,_,_,_,i,hi=>by omega
 | s+1,v,w,hv,hw,he,i,hi=>by
  have he:v 0+B*enc B (λi=>v (i+1)) s=w 0+B*enc B (λi=>w (i+1)) s:=he
  have h0:=hv 0 (by omega)
  have h1:=hw 0 (by omega)
  have e0:v 0=w 0:=by
   have:=congrArg (· % B) he
   simpa [Nat.add_mul_mod_self_left,Nat.mod_eq_of_lt h0,Nat.mod_eq_of_lt h1] using this
  have e1:enc B (λi=>v (i+1)) s=enc B (λi=>w (i+1)) s:=by
   have:B*enc B (λi=>v (i+1)) s=B*enc B (λi=>w (i+1)) s:=by omega
   exact Nat.eq_of_mul_eq_mul_left (by omega) this
  cases i with
  | zero=>exact e0
  | succ i=>exact qWh (λi hi=>hv (i+1) (by omega)) (λi hi=>hw (i+1) (by omega)) e1 i (by omega)
def dig(B:Nat):Nat->Nat->Nat
 | 0,n=>n % B
 | j+1,n=>dig B j (n / B)
theorem qNf{B:Nat}(hB:0<B):∀ j n,dig B j n<B
 | 0,n=>Nat.mod_lt _ hB
 | j+1,n=>qNf hB j (n / B)
theorem qV3{B:Nat}(hB:0<B):∀ {s n n':Nat},n<B ^ s->n'<B ^ s->(∀ j,j<s->dig B j n=dig B j n')->n=n'
 | 0,n,n',h,h',_=>by
  rw [Nat.pow_zero] at h h'
  omega
 | s+1,n,n',h,h',hd=>by
  rw [Nat.pow_succ,Nat.mul_comm] at h h'
  have h0:n % B=n' % B:=hd 0 (by omega)
  have ih:=qV3 hB (s:=s) (Nat.div_lt_of_lt_mul h) (Nat.div_lt_of_lt_mul h') λj hj=>hd (j+1) (by omega)
  rw [<-Nat.div_add_mod n B, ←Nat.div_add_mod n' B,ih,h0]
def smI:Nat->(Nat->Int)->Int
 | 0,_=>0
 | n+1,F=>smI n F+F n
theorem qNy{F G:Nat->Int}:∀ {n:Nat},(∀ i,i<n->F i=G i)->smI n F=smI n G
 | 0,_=>rfl
 | n+1,h=>by
  show smI n F+F n=smI n G+G n
  rw [qNy λi hi=>h i (by omega),h n (by omega)]
theorem qWi(F G:Nat->Int):∀ n,smI n (λi=>F i - G i)=smI n F - smI n G
 | 0=>rfl
 | n+1=>by
  show smI n _+(F n - G n)=(smI n F+F n) - (smI n G+G n)
  rw [qWi F G n]
  omega
theorem qWk{F:Nat->Int}{T:Nat}:∀ n,(∀ i,i<n->(F i).natAbs<=T)->(smI n F).natAbs<=n*T
 | 0,_=>Nat.zero_le _
 | n+1,h=>by
  have h1:=qWk n λi hi=>h i (by omega)
  have h2:=h n (by omega)
  show (smI n F+F n).natAbs<=(n+1)*T
  rw [Nat.add_mul,Nat.one_mul]
  omega
theorem qMc(F:Nat->Int):∀ n,((smI n F:Int):Rat)=sm n λi=>((F i:Int):Rat)
 | 0=>Rat.intCast_zero
 | n+1=>by
  show ((smI n F+F n:Int):Rat)=sm n _+_
  rw [Rat.intCast_add,qMc F n]
theorem siegel{s mu:Nat}(hs:s<=7)(a:Nat->Nat->Int)(ha:∀ i j,(a i j).natAbs<=2 ^ mu):∃ x:Nat->Int,(∀ j,(x j).natAbs<=2 ^ ((mu+5)*s+1))/\(∃ j,j<s+1/\x j≠0)/\(∀ j,s+1<=j->x j=0)/\∀ i,i<s->smI (s+1) (λj=>a i j*x j)=0:=by
 obtain ⟨t,ht⟩:∃ t,t=(mu+5)*s+1:=⟨_,rfl⟩
 rw [<-ht]
 have pB:0<2 ^ t:=Nat.two_pow_pos t
 let v:Nat->Nat->Int:=λn i=>smI (s+1) (λj=>a i j*(dig (2 ^ t) j n:Int))
 have hv:∀ n i,(v n i).natAbs<=2 ^ (t+mu+3):=λn i=>by
  refine Zaf (qWk (T:=2 ^ mu*2 ^ t) (s+1) λj _ => ?_) ?_
  ·rw [Zao]
   exact Nat.mul_le_mul (ha i j) (Nat.le_of_lt (qNf pB j n))
  ·rw [<-Nat.pow_add,show t+mu+3=3+(mu+t) by omega,Nat.pow_add 2 3]
   exact Nat.mul_le_mul_right _ (by omega)
 obtain ⟨O,hO⟩:∃ O:Nat,O=2 ^ (t+mu+3):=⟨_,rfl⟩
 have e5:2 ^ (t+mu+4)=2*O:=by rw [hO,show t+mu+4=(t+mu+3)+1 by omega,Nat.pow_succ,Nat.mul_comm]
 have e6:2 ^ (t+mu+5)=4*O:=by rw [show t+mu+5=(t+mu+4)+1 by omega,Nat.pow_succ,e5];omega
 have pO:0<O:=by rw [hO];exact Nat.two_pow_pos _
 let w:Nat->Nat->Nat:=λn i=>(v n i+(O:Int)).toNat
 have hv':∀ n i,(v n i).natAbs<=O:=λn i=>by rw [hO];exact hv n i
 have hw:∀ n i,w n i<2 ^ (t+mu+5):=λn i=>by
  have:=hv' n i
  rw [e6]
  show (v n i+(O:Int)).toNat<_
  omega
 have hexp:(t+mu+5)*s<t*(s+1):=by
  rw [Nat.mul_add t,Nat.mul_one,show t+mu+5=t+(mu+5) by omega,Nat.add_mul]
  omega
 obtain ⟨n,n',h1,h2,h3⟩:=pig ((2 ^ (t+mu+5)) ^ s) ((2 ^ t) ^ (s+1)) (λn=>enc (2 ^ (t+mu+5)) (w n) s) (by
  rw [<-Nat.pow_mul, ←Nat.pow_mul]
  exact Nat.pow_lt_pow_right (by decide) hexp) (λn _=>qAec λi _=>hw n i)
 have hwe:=qWh (λi _=>hw n i) (λi _=>hw n' i) h3
 have hve:∀ i,i<s->v n i=v n' i:=λi hi=>by
  have e:(v n i+(O:Int)).toNat=(v n' i+(O:Int)).toNat:=hwe i hi
  have b1:=hv' n i
  have b2:=hv' n' i
  omega
 refine ⟨λj=>if j<s+1 then (dig (2 ^ t) j n:Int) - (dig (2 ^ t) j n':Int) else 0,λj => ?_, ?_,λj hj=>if_neg (by omega),λi hi => ?_⟩
 ·have d1:=qNf pB j n
  have d2:=qNf pB j n'
  show (if j<s+1 then _ else _:Int).natAbs<=_
  split
  ·omega
  ·simp
 ·refine Za5 λz => ?_
  have:∀ j,j<s+1->dig (2 ^ t) j n=dig (2 ^ t) j n':=λj hj=>by
   refine Za5 λy=>z ⟨j,hj, ?_⟩
   show (if j<s+1 then _ else _:Int)≠0
   rw [if_pos hj]
   omega
  have:=qV3 pB (s:=s+1) (by omega) h2 this
  omega
 ·have e:∀ j,j<s+1->a i j*(if j<s+1 then (dig (2 ^ t) j n:Int) - (dig (2 ^ t) j n':Int) else 0)=a i j*(dig (2 ^ t) j n:Int) - a i j*(dig (2 ^ t) j n':Int):=λj hj=>by
   rw [if_pos hj,Int.mul_sub]
  rw [qNy e,qWi]
  have:=hve i hi
  show v n i - v n' i=0
  omega
theorem qAat{mu:Nat}{M:Int}{ms:List Rat}{s:Nat}(hm:Cd mu M ms)(hs:s<=7)(h:∀ k,k<s->hS ms k≠0):∃ D,Cd ((mu+5)*s+1) D (chN ms s).1.1:=by
 have hM:∀ i,∃ z:Int,coef ms i*(M:Rat)=(z:Rat)/\z.natAbs<=2 ^ mu:=hm.ov
 obtain ⟨z,hz⟩:∃ z:Nat->Int,∀ i,coef ms i*(M:Rat)=(z i:Rat)/\(z i).natAbs<=2 ^ mu:=⟨λi=>(hM i).choose,λi=>(hM i).choose_spec⟩
 obtain ⟨x,xb,⟨j0,hj0,x0⟩,xd,xe⟩:=siegel (s:=s) (mu:=mu) hs (λi j=>z (i+j)) (λi j=>(hz (i+j)).2)
 have nM:=qEa hm.pos
 have dx:Dg (s+1) (λj=>((x j:Int):Rat)):=λj hj=>by
  show ((x j:Int):Rat)=0
  rw [xd j hj,Rat.intCast_zero]
 have eqs:∀ i,i<s->sm (s+1) (λj=>coef ms (i+j)*((x j:Int):Rat))=0:=λi hi=>by
  have e:=congrArg (λy:Int=>(y:Rat)) (xe i hi)
  rw [qMc,Rat.intCast_zero] at e
  have e2:sm (s+1) (λj=>((z (i+j)*x j:Int):Rat))=(M:Rat)*sm (s+1) (λj=>coef ms (i+j)*((x j:Int):Rat)):=by
   rw [<-qDx]
   refine qAh λj _ => ?_
   rw [Za7, ←(hz (i+j)).1]
   grind
  rw [e2] at e
  rcases Rat.mul_eq_zero.mp e with y | y
  ·exact absurd y nM
  ·exact y
 have low:∀ g,Dg s g->Bf (s+2) (coef ms) g (λj=>((x j:Int):Rat))=0:=λg hg=>by
  unfold Bf
  refine qB0 λi _ => ?_
  by_cases hi:i<s
  ·rw [qEf (n:=s+1) (λj hj=>by rw [dx j hj,Za1,Za2]) (s+2) (by omega)]
   have e:sm (s+1) (λj=>g i*((x j:Int):Rat)*coef ms (i+j))=g i*sm (s+1) (λj=>coef ms (i+j)*((x j:Int):Rat)):=by
    rw [<-qDx]
    exact qAh λj _=>by grind
   rw [e,eqs i hi,Za1]
  ·exact qB0 λj _=>by rw [hg i (by omega),Za2,Za2]
 have p1:=λ(i:Nat) (hi:i<s)=>low (pS ms i) ((qAy ms i).mono (by omega))
 have dy:Dg s (λj=>((x j:Int):Rat) - ((x s:Int):Rat)*pS ms s j):=λj hj=>by
  show ((x j:Int):Rat) - ((x s:Int):Rat)*pS ms s j=0
  by_cases e:j=s
  ·subst e
   rw [qB9,Rat.mul_one,Rat.sub_self]
  ·rw [show ((x j:Int):Rat)=0 from dx j (by omega),qAy ms s j (by omega),Za1,Rat.sub_self]
 have ey:=nondeg (ms:=ms) (N:=s+1) s (by omega) h dy (λi hi=>by
  rw [qHi,qEw,p1 i hi,orth (n:=s) (Za9 _) h s (Za9 _) i s hi (Za9 _),Za1,Rat.sub_self])
 have xs0:x s≠0:=λe=>by
  have e2:((x j0:Int):Rat) - ((x s:Int):Rat)*pS ms s j0=0:=ey j0
  rw [e,Rat.intCast_zero,Za2,sub0, ←Rat.intCast_zero] at e2
  exact x0 (Rat.intCast_inj.mp e2)
 have val:∀ i,coef (chN ms s).1.1 i*((x s:Int):Rat)=((x i:Int):Rat):=λi=>by
  have e2:((x i:Int):Rat) - ((x s:Int):Rat)*coef (chN ms s).1.1 i=0:=ey i
  grind
 refine ⟨((x s).natAbs:Int),by omega,by rw [Int.natAbs_natCast];exact xb s,λi => ?_⟩
 by_cases hp:0<=x s
 ·rw [show ((x s).natAbs:Int)=x s by omega]
  exact ⟨x i,val i,xb i⟩
 ·rw [show ((x s).natAbs:Int) = -x s by omega]
  exact ⟨-x i,by rw [Rat.intCast_neg,Rat.intCast_neg, ←val i];grind,by have:=xb i;omega⟩
end MR
namespace MR
open PySem PySem.Spec PyProof.Rows L2
open Ps
structure Sg (n:Nat) (p c:Ps) (j:Nat) (u v:Ps):Prop where
 j1:1<=j
 jn:j<=n
 du:Dg (n - j+2) u.c
 tu:0<u.c (n - j+1)
 dv:Dg (n - j+1) v.c
 tv:0<v.c (n - j)
 cu:∃ A B:Ps,Dg j A.c/\Dg j B.c/\u=A*p+B*c
 cv:∃ A B:Ps,Dg (j - 1) A.c/\Dg j B.c/\0<B.c (j - 1)/\v=A*p+B*c
section
variable {n j:Nat} {p c u v:Ps}
theorem qAbu(hp:Mon n p)(hc:Dg n c.c)(h:Hm n p c)(hn:n<=8)(h0:0<n):Sg n p c 1 p c:=by
 have one:La (eS p n) (c*(1*1))=c.c (n - 1):=by
  rw [show c*((1:Ps)*1)=c by grind,qAe9 (by omega) h0 hc]
 have t:0<c.c (n - 1):=by
  rw [<-one]
  refine h 1 (λi hi => ?_) ⟨0, ?_⟩
  ·rw [qJ9,if_neg (by omega)]
  ·rw [qJ9,if_pos rfl];decide
 refine ⟨Za9 _,h0, ?_, ?_, ?_,t,⟨1,0,λi hi => ?_,λi _=>qFi i,by grind⟩,⟨0,1,λi _=>qFi i,λi hi => ?_, ?_,by grind⟩⟩
 ·rw [show n - 1+2=n+1 by omega];exact hp.d
 ·rw [show n - 1+1=n by omega,hp.t];decide
 ·rw [show n - 1+1=n by omega];exact hc
 ·rw [qJ9,if_neg (by omega)]
 ·rw [qJ9,if_neg (by omega)]
 ·rw [qJ9,if_pos rfl];decide
theorem qAj2(hp:Mon n p)(hc:Dg n c.c)(h:Hm n p c)(hn:n<=8)(s:Sg n p c j u v)(hj:j<n){Q r:Ps}(dQ:Dg 2 Q.c)(dr:Dg (n - j) r.c)(e:u=Q*v+r){a:Rat}(ha:0<a) :
  r.c (n - j - 1)<0/\Sg n p c (j+1) v (cst a * -r):=by
 obtain ⟨A0,B0,dA0,dB0,eu⟩:=s.cu
 obtain ⟨A,B,dA,dB,tB,ev⟩:=s.cv
 have j1:=s.j1
 have h0:0<n:=by omega
 have tq:u.c (n - j+1)=Q.c 1*v.c (n - j):=by
  have:=mul_top (n:=1) (m:=n - j) dQ s.dv
  rw [show 1+(n - j)=n - j+1 by omega] at this
  rw [<-this,e,qKi,dr (n - j+1) (by omega),Zac]
 have q1:0<Q.c 1:=by
  have t1:=s.tu
  rw [tq] at t1
  refine Za5 λz => ?_
  have:0 <= -Q.c 1:=by grind
  have:=Zal this (Rat.le_of_lt s.tv)
  grind
 have eV : -r=(Q*A - A0)*p+(Q*B - B0)*c:=by
  have:r=u - Q*v:=by grind
  rw [this,eu,ev];grind
 have dA':Dg j (Q*A - A0).c:=qXh (qA3 dQ dA (by omega)) dA0
 have dB':Dg (j+1) (Q*B - B0).c:=qXh (qA3 dQ dB (by omega)) (dB0.mono (by omega))
 have tB':0<(Q*B - B0).c j:=by
  have:(Q*B).c j=Q.c 1*B.c (j - 1):=by
   obtain ⟨i,rfl⟩:∃ i,j=i+1:=⟨j - 1,by omega⟩
   have:=mul_top (n:=1) (m:=i) dQ (g:=B) dB
   rw [show 1+i=i+1 by omega] at this
   exact this
  rw [qGp,this,dB0 j (Za9 _)]
  have:=Rat.mul_pos q1 tB
  grind
 have pos:=h (Q*B - B0) (dB'.mono (by omega)) ⟨j,Zan tB'⟩
 have e1:c*((Q*B - B0)*(Q*B - B0)) = -r*(Q*B - B0) - (Q*A - A0)*(Q*B - B0)*p:=by
  rw [eV];grind
 have dn:Dg n (-r*(Q*B - B0)).c:=qA3 (qAc5 dr) dB' (by omega)
 rw [e1,qK6,qRm (m:=eS p n) hp.d (qZk hp h0) (k:=j+(j+1)) (qA3 dA' dB' (by omega)) (by omega),qAe9 (by omega) h0 dn] at pos
 have e2:(-r*(Q*B - B0)).c (n - 1) = -r.c (n - j - 1)*(Q*B - B0).c j:=by
  have:=mul_top (n:=n - j - 1) (m:=j) (f := -r) (g:=Q*B - B0) (by rw [show n - j - 1+1=n - j by omega];exact qAc5 dr) dB'
  rw [show n - j - 1+j=n - 1 by omega,qTk] at this
  exact this
 rw [e2] at pos
 have neg:r.c (n - j - 1)<0:=by
  refine Za5 λz => ?_
  have:0<=r.c (n - j - 1):=by grind
  have:=Zal this (Rat.le_of_lt tB')
  grind
 refine ⟨neg,by omega,by omega, ?_, ?_, ?_, ?_,⟨A,B,dA.mono (by omega),dB.mono (by omega),ev⟩,⟨cst a*(Q*A - A0),cst a*(Q*B - B0), ?_,qGo dB', ?_, ?_⟩⟩
 ·rw [show n - (j+1)+2=n - j+1 by omega];exact s.dv
 ·rw [show n - (j+1)+1=n - j by omega];exact s.tv
 ·rw [show n - (j+1)+1=n - j by omega];exact qGo (qAc5 dr)
 ·rw [qA1,qTk,show n - (j+1)=n - j - 1 by omega]
  exact Rat.mul_pos ha (by grind)
 ·rw [show j+1 - 1=j by omega];exact qGo dA'
 ·rw [show j+1 - 1=j by omega,qA1];exact Rat.mul_pos ha tB'
 ·rw [eV];grind
theorem qK3{A p:Ps}{n k:Nat}(hp:Mon n p)(hA:Dg k A.c)(h:Dg n (A*p).c):∀ i,A.c i=0:=by
 refine Za5 λz => ?_
 have key:∀ j,j<=k->Dg (k - j) A.c:=by
  intro j
  induction j with
  | zero=>intro _;exact hA
  | succ j ih=>
   intro hj
   have d:=ih (by omega)
   intro i hi
   by_cases e:i=k - j - 1
   ·have t:=mul_top (n:=k - j - 1) (m:=n) (f:=A) (g:=p) (by rw [show k - j - 1+1=k - j by omega];exact d) hp.d
    rw [h (k - j - 1+n) (by omega),hp.t] at t
    rw [e]
    grind
   ·exact d i (by omega)
 exact z λi=>key k (Za9 _) i (by omega)
theorem qAmq(hp:Mon n p)(hc:Dg n c.c)(h:Hm n p c)(hn:n<=8)(s:Sg n p c j u v){A' B':Ps}(dA':Dg (j - 1) A'.c)(dB':Dg j B'.c)(dW:Dg (n - j+1) (A'*p+B'*c).c)(nz:Nz A'\/Nz B') :
  ∃ g:Rat,g≠0/\A'*p+B'*c=cst g*v:=by
 obtain ⟨A,B,dA,dB,tB,ev⟩:=s.cv
 have j1:=s.j1
 have jn:=s.jn
 have h0:0<n:=by omega
 obtain ⟨g,hg⟩:∃ g,g=B'.c (j - 1) / B.c (j - 1):=⟨_,rfl⟩
 have g1:g*B.c (j - 1)=B'.c (j - 1):=by rw [hg];grind
 have dD:Dg (j - 1) (B' - cst g*B).c:=λi hi=>by
  rw [qGp,qA1]
  by_cases e:i=j - 1
  ·rw [e,g1,Rat.sub_self]
  ·rw [dB' i (by omega),dB i (by omega),Za1,Rat.sub_self]
 have dC:Dg (j - 1) (A' - cst g*A).c:=qXh dA' (qGo dA)
 have eV:(A'*p+B'*c) - cst g*v=(A' - cst g*A)*p+(B' - cst g*B)*c:=by rw [ev];grind
 have dV:Dg (n - j+1) ((A' - cst g*A)*p+(B' - cst g*B)*c).c:=by
  rw [<-eV]
  exact qXh dW (qGo s.dv)
 have zB:B' - cst g*B=0:=by
  refine Za5 λne => ?_
  have nz:Nz (B' - cst g*B):=Za5 λy=>ne (qFe λi=>Za5 λw=>y ⟨i,w⟩)
  have pos:=h _ (dD.mono (by omega)) nz
  have e1:c*((B' - cst g*B)*(B' - cst g*B))=((A' - cst g*A)*p+(B' - cst g*B)*c)*(B' - cst g*B) - (A' - cst g*A)*(B' - cst g*B)*p:=by grind
  have d1:Dg (n - 1) (((A' - cst g*A)*p+(B' - cst g*B)*c)*(B' - cst g*B)).c:=qA3 dV dD (by omega)
  rw [e1,qK6,qRm (m:=eS p n) hp.d (qZk hp h0) (k:=j+j) ((qA3 dC dD (k:=j+j) (by omega))) (by omega),qAe9 (by omega) h0 (d1.mono (by omega)),d1 (n - 1) (Za9 _)] at pos
  grind
 rw [zB] at eV dV
 have eV2:(A'*p+B'*c) - cst g*v=(A' - cst g*A)*p:=by rw [eV];grind
 have dV2:Dg n ((A' - cst g*A)*p).c:=by
  rw [show (A' - cst g*A)*p=(A' - cst g*A)*p+0*c by grind]
  exact dV.mono (by omega)
 have zA:A' - cst g*A=0:=qFe (qK3 hp dC dV2)
 refine ⟨g,λz => ?_, ?_⟩
 ·have c0:cst (0:Rat)=0:=ext' λi=>by rw [qIb,qFi];split <;> rfl
  rw [z,c0] at zA zB
  have a0:A'=0:=by grind
  have b0:B'=0:=by grind
  rcases nz with ⟨i,hi⟩ | ⟨i,hi⟩
  ·rw [a0,qFi] at hi;exact hi rfl
  ·rw [b0,qFi] at hi;exact hi rfl
 ·rw [zA] at eV2
  have:(A'*p+B'*c) - cst g*v=0:=by rw [eV2];grind
  grind
end
theorem qAml{s mu:Nat}(hs:s<=14)(a:Nat->Nat->Int)(ha:∀ i j,(a i j).natAbs<=2 ^ mu):∃ x:Nat->Int,(∀ j,(x j).natAbs<=2 ^ ((mu+6)*s+1))/\(∃ j,j<s+1/\x j≠0)/\(∀ j,s+1<=j->x j=0)/\∀ i,i<s->smI (s+1) (λj=>a i j*x j)=0:=by
 obtain ⟨t,ht⟩:∃ t,t=(mu+6)*s+1:=⟨_,rfl⟩
 rw [<-ht]
 have pB:0<2 ^ t:=Nat.two_pow_pos t
 let v:Nat->Nat->Int:=λn i=>smI (s+1) (λj=>a i j*(dig (2 ^ t) j n:Int))
 have hv:∀ n i,(v n i).natAbs<=2 ^ (t+mu+4):=λn i=>by
  refine Zaf (qWk (T:=2 ^ mu*2 ^ t) (s+1) λj _ => ?_) ?_
  ·rw [Zao]
   exact Nat.mul_le_mul (ha i j) (Nat.le_of_lt (qNf pB j n))
  ·rw [<-Nat.pow_add,show t+mu+4=4+(mu+t) by omega,Nat.pow_add 2 4]
   exact Nat.mul_le_mul_right _ (by omega)
 obtain ⟨O,hO⟩:∃ O:Nat,O=2 ^ (t+mu+4):=⟨_,rfl⟩
 have e5:2 ^ (t+mu+5)=2*O:=by rw [hO,show t+mu+5=(t+mu+4)+1 by omega,Nat.pow_succ,Nat.mul_comm]
 have e6:2 ^ (t+mu+6)=4*O:=by rw [show t+mu+6=(t+mu+5)+1 by omega,Nat.pow_succ,e5];omega
 have pO:0<O:=by rw [hO];exact Nat.two_pow_pos _
 let w:Nat->Nat->Nat:=λn i=>(v n i+(O:Int)).toNat
 have hv':∀ n i,(v n i).natAbs<=O:=λn i=>by rw [hO];exact hv n i
 have hw:∀ n i,w n i<2 ^ (t+mu+6):=λn i=>by
  have:=hv' n i
  rw [e6]
  show (v n i+(O:Int)).toNat<_
  omega
 have hexp:(t+mu+6)*s<t*(s+1):=by
  rw [Nat.mul_add t,Nat.mul_one,show t+mu+6=t+(mu+6) by omega,Nat.add_mul]
  omega
 obtain ⟨n,n',h1,h2,h3⟩:=pig ((2 ^ (t+mu+6)) ^ s) ((2 ^ t) ^ (s+1)) (λn=>enc (2 ^ (t+mu+6)) (w n) s) (by
  rw [<-Nat.pow_mul, ←Nat.pow_mul]
  exact Nat.pow_lt_pow_right (by decide) hexp) (λn _=>qAec λi _=>hw n i)
 have hwe:=qWh (λi _=>hw n i) (λi _=>hw n' i) h3
 have hve:∀ i,i<s->v n i=v n' i:=λi hi=>by
  have e:(v n i+(O:Int)).toNat=(v n' i+(O:Int)).toNat:=hwe i hi
  have b1:=hv' n i
  have b2:=hv' n' i
  omega
 refine ⟨λj=>if j<s+1 then (dig (2 ^ t) j n:Int) - (dig (2 ^ t) j n':Int) else 0,λj => ?_, ?_,λj hj=>if_neg (by omega),λi hi => ?_⟩
 ·have d1:=qNf pB j n
  have d2:=qNf pB j n'
  show (if j<s+1 then _ else _:Int).natAbs<=_
  split
  ·omega
  ·simp
 ·refine Za5 λz => ?_
  have:∀ j,j<s+1->dig (2 ^ t) j n=dig (2 ^ t) j n':=λj hj=>by
   refine Za5 λy=>z ⟨j,hj, ?_⟩
   show (if j<s+1 then _ else _:Int)≠0
   rw [if_pos hj]
   omega
  have:=qV3 pB (s:=s+1) (by omega) h2 this
  omega
 ·have e:∀ j,j<s+1->a i j*(if j<s+1 then (dig (2 ^ t) j n:Int) - (dig (2 ^ t) j n':Int) else 0)=a i j*(dig (2 ^ t) j n:Int) - a i j*(dig (2 ^ t) j n':Int):=λj hj=>by
   rw [if_pos hj,Int.mul_sub]
  rw [qNy e,qWi]
  have:=hve i hi
  show v n i - v n' i=0
  omega
theorem qPf(f g:Nat->Rat)(k:Nat):∀ n,conv f g (n+1) (k+1)=f 0*g (k+1)+conv (tlF f) g n k
 | 0=>by
  show (0:Rat)+(if 0<=k+1 then f 0*g (k+1 - 0) else 0)=f 0*g (k+1)+0
  rw [if_pos (by omega),Zah,Zac]
  rfl
 | n+1=>by
  show conv f g (n+1) (k+1)+(if n+1<=k+1 then f (n+1)*g (k+1 - (n+1)) else 0)=f 0*g (k+1)+(conv (tlF f) g n k+(if n<=k then tlF f n*g (k - n) else 0))
  rw [qPf f g k n]
  by_cases h:n<=k
  ·rw [if_pos (by omega),if_pos h,show k+1 - (n+1)=k - n by omega,Rat.add_assoc]
   rfl
  ·rw [if_neg (by omega),if_neg h,Zac,Zac]
theorem qOy(f g:Nat->Rat):∀ n,conv f g (n+1) 0=f 0*g 0
 | 0=>by
  show (0:Rat)+(if 0<=0 then f 0*g 0 else 0)=_
  rw [if_pos (Za9 _),Zah]
 | n+1=>by
  show conv f g (n+1) 0+(if n+1<=0 then _ else 0)=_
  rw [qOy f g n,if_neg (by omega),Zac]
theorem qM2{f g:Nat->Rat}:∀ (k n:Nat) (f:Nat->Rat),Dg n f->cvF k f g=conv f g n k
 | k,0,f,h=>by
  rw [qL8 _ _ λi=>h i (by omega)]
  rfl
 | 0,n+1,f,h=>by rw [qOy];rfl
 | k+1,n+1,f,h=>by
  rw [qPf, ←qM2 (f:=f) k n (tlF f) λi hi=>h (i+1) (by omega)]
  rfl
abbrev pl(cs:List Rat):Ps:=⟨coef cs⟩
theorem qEp(cs:List Rat):Dg cs.length (pl cs).c:=λi hi=>qAk hi
theorem qUa(a b:List Rat):pl (qBc a b)=pl a*pl b:=ext' λk=>by
 show coef (qBc a b) k=cvF k (coef a) (coef b)
 rw [qFo,qM2 (f:=coef a) k a.length (coef a) (qEp a)]
def CdP(b:Nat)(D:Int)(f:Ps):Prop:=0<D/\D.natAbs<=2 ^ b/\∀ i,Ov (2 ^ b) D (f.c i)
theorem Ov.castInt{N:Nat}{z:Int}(h:z.natAbs<=N):Ov N 1 (z:Rat):=⟨z,by rw [Rat.intCast_one,Rat.mul_one],h⟩
section
variable {n j b:Nat} {D:Int} {p c u v:Ps}
theorem qYq(hp:Mon n p)(hc:Dg n c.c)(h:Hm n p c)(hn:n<=8)(s:Sg n p c j u v)(zp:CdP b D p)(zc:CdP b D c):∃ W,CdP (15*b+89) W (cst (1 / v.c (n - j))*v):=by
 have j1:=s.j1
 have jn:=s.jn
 obtain ⟨D0,Db,op⟩:=zp
 have oc:=zc.2.2
 have nD:=qEa D0
 obtain ⟨z,hz⟩:∃ z:Nat->Int,∀ i,p.c i*(D:Rat)=(z i:Rat)/\(z i).natAbs<=2 ^ b:=⟨λi=>(op i).choose,λi=>(op i).choose_spec⟩
 obtain ⟨y,hy⟩:∃ y:Nat->Int,∀ i,c.c i*(D:Rat)=(y i:Rat)/\(y i).natAbs<=2 ^ b:=⟨λi=>(oc i).choose,λi=>(oc i).choose_spec⟩
 obtain ⟨x,xb,⟨i0,hi0,x0⟩,xd,xe⟩:=qAml (s:=2*j - 2) (mu:=b) (by omega)
  (λi l=>if l<j - 1 then (if l<=n - j+1+i then z (n - j+1+i - l) else 0) else (if l - (j - 1)<=n - j+1+i then y (n - j+1+i - (l - (j - 1))) else 0))
  (λi l=>by
   show (if l<j - 1 then (if l<=n - j+1+i then z (n - j+1+i - l) else 0) else (if l - (j - 1)<=n - j+1+i then y (n - j+1+i - (l - (j - 1))) else 0):Int).natAbs<=_
   split
   ·split
    ·exact (hz _).2
    ·exact Nat.zero_le _
   ·split
    ·exact (hy _).2
    ·exact Nat.zero_le _)
 obtain ⟨t,ht⟩:∃ t,t=(b+6)*(2*j - 2)+1:=⟨_,rfl⟩
 rw [<-ht] at xb
 have tb:t<=14*b+85:=by
  have:(b+6)*(2*j - 2)<=(b+6)*14:=Nat.mul_le_mul_left _ (by omega)
  omega
 obtain ⟨A,hA⟩:∃ A:Ps,∀ i,A.c i=if i<j - 1 then (x i:Rat) else 0:=⟨⟨λi=>if i<j - 1 then (x i:Rat) else 0⟩,λi=>rfl⟩
 obtain ⟨B,hB⟩:∃ B:Ps,∀ i,B.c i=if i<j then (x (j - 1+i):Rat) else 0:=⟨⟨λi=>if i<j then (x (j - 1+i):Rat) else 0⟩,λi=>rfl⟩
 have dA:Dg (j - 1) A.c:=λi hi=>by rw [hA,if_neg (by omega)]
 have dB:Dg j B.c:=λi hi=>by rw [hB,if_neg (by omega)]
 have zA:∀ i,Ov (2 ^ t) 1 (A.c i):=λi=>by
  rw [hA]
  split
  ·exact Ov.castInt (xb _)
  ·exact Ov.zero
 have zB:∀ i,Ov (2 ^ t) 1 (B.c i):=λi=>by
  rw [hB]
  split
  ·exact Ov.castInt (xb _)
  ·exact Ov.zero
 have eA:∀ k,(A*p).c k=conv A.c p.c (j - 1) k:=λk=>qM2 (f:=A.c) k _ A.c dA
 have eB:∀ k,(B*c).c k=conv B.c c.c j k:=λk=>qM2 (f:=B.c) k _ B.c dB
 have cs:∀ (f:Nat->Rat) (g:Nat->Rat) (k:Nat) (N:Nat),conv f g N k=sm N λl=>if l<=k then f l*g (k - l) else 0:=by
  intro f g k N
  induction N with
  | zero=>rfl
  | succ N ih=>
   show conv f g N k+_=sm N _+_
   rw [ih]
 have dW:Dg (n - j+1) (A*p+B*c).c:=λk hk=>by
  by_cases hk2:k<n - j+1+(2*j - 2)
  ·obtain ⟨i,rfl⟩:∃ i,k=n - j+1+i:=⟨k - (n - j+1),by omega⟩
   have e:=congrArg (λq:Int=>(q:Rat)) (xe i (by omega))
   rw [qMc,Rat.intCast_zero] at e
   rw [qKi,eA,eB,cs,cs]
   have split:∀ (F:Nat->Rat) (a:Nat) (d:Nat),sm (a+d) F=sm a F+sm d (λl=>F (a+l)):=by
    intro F a d
    induction d with
    | zero=>show sm a F=sm a F+0;rw [Zac]
    | succ d ih=>
     show sm (a+d) F+F (a+d)=sm a F+(sm d _+F (a+d))
     rw [ih,Rat.add_assoc]
   rw [show 2*j - 2+1=(j - 1)+j by omega,split] at e
   have m1:(D:Rat)*sm (j - 1) (λl=>if l<=n - j+1+i then A.c l*p.c (n - j+1+i - l) else 0)=sm (j - 1) λl=>(((if l<j - 1 then (if l<=n - j+1+i then z (n - j+1+i - l) else 0) else (if l - (j - 1)<=n - j+1+i then y (n - j+1+i - (l - (j - 1))) else 0))*x l:Int):Rat):=by
    rw [<-qDx]
    refine qAh λl hl => ?_
    rw [if_pos hl]
    split
    ·rw [Za7, ←(hz _).1,hA,if_pos hl];grind
    ·rw [Int.zero_mul,Za1];rfl
   have m2:(D:Rat)*sm j (λl=>if l<=n - j+1+i then B.c l*c.c (n - j+1+i - l) else 0)=sm j λl=>(((if j - 1+l<j - 1 then (if j - 1+l<=n - j+1+i then z (n - j+1+i - (j - 1+l)) else 0) else (if j - 1+l - (j - 1)<=n - j+1+i then y (n - j+1+i - (j - 1+l - (j - 1))) else 0))*x (j - 1+l):Int):Rat):=by
    rw [<-qDx]
    refine qAh λl hl => ?_
    rw [if_neg (show ¬ (j - 1+l<j - 1) by omega),show j - 1+l - (j - 1)=l by omega]
    split
    ·rw [Za7, ←(hy _).1,hB,if_pos hl];grind
    ·rw [Int.zero_mul,Za1];rfl
   rw [<-m1, ←m2, ←Rat.mul_add] at e
   rcases Rat.mul_eq_zero.mp e with q | q
   ·exact absurd q nD
   ·exact q
  ·have d1:Dg (n+j - 1) (A*p).c:=qA3 dA hp.d (by omega)
   have d2:Dg (n+j - 1) (B*c).c:=qA3 dB hc (by omega)
   rw [qKi,d1 k (by omega),d2 k (by omega),Zac]
 have nz:Nz A\/Nz B:=by
  by_cases q:i0<j - 1
  ·refine .inl ⟨i0, ?_⟩
   rw [hA,if_pos q]
   exact λw=>x0 (by exact_mod_cast w)
  ·refine .inr ⟨i0 - (j - 1), ?_⟩
   rw [hB,if_pos (by omega),show j - 1+(i0 - (j - 1))=i0 by omega]
   exact λw=>x0 (by exact_mod_cast w)
 obtain ⟨g,g0,eg⟩:=qAmq hp hc h hn s dA dB dW nz
 have ov:∀ k,Ov (2 ^ (15*b+89)) D ((cst g*v).c k):=λk=>by
  rw [<-eg,qKi,eA,eB]
  have o1:=qL3 (f:=A.c) (g:=p.c) zA op k (j - 1)
  have o2:=qL3 (f:=B.c) (g:=c.c) zB oc k j
  rw [Int.one_mul] at o1 o2
  refine (o1.add o2).mono ?_
  rw [<-Nat.pow_add, ←Nat.add_mul]
  refine Zaf (Nat.mul_le_mul_right (m:=2 ^ 4) _ (by omega)) ?_
  rw [<-Nat.pow_add]
  exact Zaa (by decide) (by omega)
 have tv:=s.tv
 obtain ⟨yt,y1,y2⟩:=ov (n - j)
 rw [qA1] at y1
 have yn:yt≠0:=λq=>by
  rw [q,Rat.intCast_zero] at y1
  rcases Rat.mul_eq_zero.mp y1 with w | w
  ·rcases Rat.mul_eq_zero.mp w with w | w
   ·exact g0 w
   ·exact absurd w (Zan tv)
  ·exact nD w
 refine ⟨(yt.natAbs:Int),by omega,by rw [Int.natAbs_natCast];exact y2,λi => ?_⟩
 obtain ⟨yi,i1,i2⟩:=ov i
 rw [qA1] at i1
 have tn:=Zan tv
 have key:(cst (1 / v.c (n - j))*v).c i*(yt:Rat)=(yi:Rat):=by
  rw [qA1, ←y1, ←i1]
  grind
 rcases Int.natAbs_eq yt with e | e
 ·refine ⟨yi, ?_,i2⟩
  rw [<-e];exact key
 ·refine ⟨-yi, ?_,by rw [Int.natAbs_neg];exact i2⟩
  have e2:((yt.natAbs:Int):Rat) = -(yt:Rat):=by
   have:(yt.natAbs:Int) = -yt:=by omega
   rw [this,Rat.intCast_neg]
  rw [e2,Rat.intCast_neg, ←key]
  grind
end
end MR
namespace MR
open PySem PySem.Spec PyProof.Rows L2
def qEe(cs:List Rat):List Rat:=(strip cs).map λc=>c / qAm (strip cs)
structure LotOk (n:Nat) (xs ws:List Int) (b c:Int):Prop where
 l:xs.length=ws.length
 l1:xs.length<=100
 x:∀ x,x∈xs->x.natAbs<2 ^ 70
 w:∀ w,w∈ws->w.natAbs<2 ^ n
 b0:0<b
 b1:b.natAbs<2 ^ 6
 c0:0<c
 c1:c.natAbs<2 ^ n
structure LotS (k:Int) (xs ws:List Int) (b c:Int):Prop extends LotOk 28 xs ws b c where
 sx:∀ x,x∈xs->x.natAbs<2 ^ 34
 sb:b<=5
 sc:c<=9
 sl:(xs.length:Int)<=k
def qTa(ws xs:List Int)(k:Nat):List Int:=(Zag xs.length).map λi=>ws.getD i 0*xs.getD i 0 ^ k
def qAho(xs ws:List Int)(b c:Int)(k:Nat):Int × Int:=((qTa ws xs k).sum,c*b ^ k)
theorem qAjh{n:Nat}:∀ {xs:List Int},(∀ x,x∈xs->x.natAbs<2 ^ n)->xs.sum.natAbs<=xs.length*2 ^ n
 | [],_=>by simp
 | x :: xs,h=>by
  have h1:=h x (Zad ..)
  have h2:=qAjh λy hy=>h y (Zab _ hy)
  rw [List.sum_cons,Za0,Nat.add_mul,Nat.one_mul]
  omega
theorem qM3{xs:List Int}{i:Nat}(h:i<xs.length):xs.getD i 0∈xs:=by
 rw [Zak,Za3 h]
 exact List.getElem_mem h
theorem qO4{x:Int}{m:Nat}(h:x.natAbs<2 ^ m):∀ k,(x ^ k).natAbs<2 ^ (m*k+1)
 | 0=>by simp
 | k+1=>by
  rw [Int.pow_succ]
  have:=qIy (qO4 h k) h
  exact Zam this (Zaa (by decide) (by rw [Nat.mul_add];omega))
theorem qAhr(ws xs:List Int)(k:Nat):(qTa ws xs k).length=xs.length:=by simp [qTa]
theorem qAhz{ws xs:List Int}{k i:Nat}(h:i<xs.length):(qTa ws xs k)[i]?=some (ws.getD i 0*xs.getD i 0 ^ k):=by
 unfold qTa
 rw [Zae,List.getElem?_range h]
 rfl
section
variable {n:Nat} {xs ws:List Int} {b c:Int}
theorem LotOk.pw(h:LotOk n xs ws b c)(k:Nat)(x:Int)(hx:x∈qTa ws xs k):x.natAbs<2 ^ (n+(70*k+1)):=by
 unfold qTa at hx
 obtain ⟨i,hi,rfl⟩:=List.mem_map.mp hx
 have hi':=List.mem_range.mp hi
 exact qIy (h.w _ (qM3 (by rw [<-h.l];exact hi'))) (qO4 (h.x _ (qM3 hi')) k)
theorem LotOk.bt(h:LotOk n xs ws b c)(k:Nat):(c*b ^ k).natAbs<2 ^ (n+(6*k+1)):=qIy h.c1 (qO4 (m:=6) h.b1 k)
theorem LotOk.num(h:LotOk n xs ws b c){k:Nat}(hk:k<=12):SzP (n+848) (qAho xs ws b c k):=by
 have s:=qAjh (h.pw k)
 have p0:2 ^ (n+(70*k+1))<=2 ^ (n+841):=Zaa (by decide) (by omega)
 have l1:=h.l1
 refine ⟨?_, ?_, ?_⟩
 ·show (qTa ws xs k).sum.natAbs<_
  rw [qAhr] at s
  have:xs.length*2 ^ (n+(70*k+1))<=100*2 ^ (n+841):=Nat.mul_le_mul l1 p0
  have e:2 ^ (n+848)=128*2 ^ (n+841):=by rw [show n+848=7+(n+841) by omega,Nat.pow_add]
  have pos:0<2 ^ (n+841):=Nat.pow_pos (by decide)
  omega
 ·exact Zam (h.bt k) (Zaa (by decide) (by omega))
 ·exact Int.mul_pos h.c0 (Int.pow_pos h.b0)
end
end MR
namespace MR
open PySem PySem.Spec PyProof.Rows L2 LamX
end MR
namespace MR
open PySem PySem.Spec PyProof.Rows L2
structure EndsOk (lo hi:Option Int):Prop where
 no:lo=none->hi=none
 lt:∀ a b,lo=some a->hi=some b->a<b
 la:∀ a,lo=some a->a.natAbs<2 ^ 36
 lb:∀ b,hi=some b->b.natAbs<2 ^ 36
structure SzT (p:Int × Int):Prop where
 a:p.1.natAbs<2 ^ 320
 b:p.2.natAbs<2 ^ 24
 pos:0<p.2
structure SzM (m:Nat) (p:Int × Int):Prop where
 a:p.1.natAbs<2 ^ 319+m
 b:p.2.natAbs<2 ^ 24
 pos:0<p.2
end MR
namespace MR
open PySem PySem.Spec PyProof.Rows L2 LamX
end MR
namespace MR
open PySem PySem.Spec PyProof.Rows L2
theorem qYp{α:Type}{xs:List α}{k:Nat}{v:α}(h:xs[k]?=some v):atI xs (k:Int)=some v:=by
 unfold atI
 rw [qVc (List.getElem?_eq_some_iff.mp h).1]
 exact h
abbrev Step:=Nat × List Rat × List Rat × Rat
def qG5(u:List Rat)(k:Nat):Nat:=(k+2 - u.length) / 2
abbrev OnN(u:List Rat)(k:Nat):Prop:=u.length<=k+1/\(k+1 - u.length) % 2=0
def qHf(ms u:List Rat)(k:Nat):Step:=(k,u,(chN (shL u ms) (qG5 u k)).1)
def qDm(ms:List Rat):List (List Rat)->Nat->List Step
 | [],_=>[]
 | u :: us,k=>if OnN u k then qHf ms u k :: qDm ms us k else qDm ms us k
def qXi(s:Step):Bool:=decide (0<s.2.2.2)
def goN(ms:List Rat)(fs:List (List Rat)):Nat->Nat->List Step
 | 0,_=>[]
 | n+1,k=>qDm ms fs k ++ (if (qDm ms fs k).all qXi then goN ms fs n (k+1) else [])
def qAp(l:List Step):Option Step:=l.find? λs => !qXi s
def qN4(j:Nat):List Rat:=List.replicate j 0 ++ [1]
def unN(ms q:List Rat):Option Nat:=(Zag (ms.length+1 - q.length)).find? λj=>decide (qDp (strip (qBc q (qN4 j))) ms≠0)
def qAt(s:Step):List Rat:=strip (qEe (strip (qBc s.2.1 s.2.2.1)))
def qK2(ms:List Rat)(fs:List (List Rat)):Bool:=match qAp (goN ms fs ms.length 0) with
 | none=>true
 | some s=>if s.2.2.2<0 then false else (unN ms (qAt s)).isNone
def tbN(m K:Nat):Nat:=(m+5)*K+1
theorem qLz{m j k:Nat}(h:j<=k):tbN m j<=tbN m k:=by
 have:=Nat.mul_le_mul_left (m+5) h
 unfold tbN
 omega
theorem qZs(ms:List Rat)(k:Nat):(chN ms k).1.2=qDp (sqN (chN ms k).1.1) ms:=by
 have l:=(qGr ms k).1
 have e1:=qHn ms k (N:=k+1) (Za9 _)
 have e2:=qJf (chN ms k).1.1 (chN ms k).1.1 ms (N:=k+1) l l
 unfold hS pS at e1
 unfold sqN
 rw [e1,e2]
theorem qL9{m:Nat}{M:Int}{ms:List Rat}{k T:Nat}(hm:Cd m M ms)(hk:k<=7)(hT:tbN m k<=T)(h:∀ j,j<k->0<(chN ms j).1.2):∃ D,Lv2 m M T D (chN ms k).1.1 (chN ms k).1.2:=by
 obtain ⟨D,hD⟩:=qAat hm hk λj hj=>Zan (h j hj)
 have hD:Cd T D (chN ms k).1.1:=hD.mono hT
 have l:=(qGr ms k).1
 have cs:Cd (2*T+4) (D*D) (sqN (chN ms k).1.1):=((hD.mul hD (by omega)).strip).mono (by omega)
 refine ⟨D,hD, ?_⟩
 rw [qZs]
 have ls:=qAfn (chN ms k).1.1
 exact (cs.dot hm (by omega)).mono (qDe (by omega))
structure StOk (K:Nat) (ms:List Rat) (fs:List (List Rat)) (a c:Nat):Prop where
 k6:K<=7
 len:ms.length<=2*K+2
 cm:∃ M,Cd c M ms
 cu:∀ u,u∈fs->0<u.length/\u.length<=3/\∃ d,Cd a d u
 bt:24*tbN (a+c+4) K+10*(a+c+4)+200<=900000
theorem StOk.row{K:Nat}{ms:List Rat}{fs:List (List Rat)}{a c:Nat}(h:StOk K ms fs a c){u:List Rat}(hu:u∈fs):∃ M,Cd (a+c+4) M (shL u ms):=by
 obtain ⟨M,hM⟩:=h.cm
 obtain ⟨_,hl,d,hd⟩:=h.cu u hu
 exact ⟨_,hd.sh hM (by omega)⟩
theorem StOk.step{K:Nat}{ms:List Rat}{fs:List (List Rat)}{a c:Nat}(h:StOk K ms fs a c){u:List Rat}(hu:u∈fs){k:Nat}(hk:k+1<=K)(hw:∀ j,j<=k->0<(chN (shL u ms) j).1.2):StepSz (shL u ms) (chN (shL u ms) k).1.1 (chN (shL u ms) k).1.2 (chN (shL u ms) k).2:=by
 obtain ⟨M,hM⟩:=h.row hu
 have h6:=h.k6
 have hb:=h.bt
 have t1:=qLz (m:=a+c+4) (show k<=K by omega)
 obtain ⟨D,h1⟩:=qL9 hM (show k<=7 by omega) t1 λj hj=>hw j (by omega)
 obtain ⟨l1,l2⟩:=qGr (shL u ms) k
 have hb':∀ q,(chN (shL u ms) k).2=some q->q.1.length<=8/\0<q.2/\∃ D',Lv2 (a+c+4) M (tbN (a+c+4) K) D' q.1 q.2:=λq hq=>by
  refine ⟨Zaf (l2 q hq) (by omega), ?_⟩
  cases k with
  | zero=>cases hq
  | succ j=>
   cases hq
   exact ⟨hw j (by omega),qL9 hM (show j<=7 by omega) (qLz (by omega)) λi hi=>hw i (by omega)⟩
 exact (qAl3 hM h1 (hw k (by omega)) (by omega) hb' (Za9 _) (by omega)).1
theorem StOk.lv{K:Nat}{ms:List Rat}{fs:List (List Rat)}{a c:Nat}(h:StOk K ms fs a c){u:List Rat}(hu:u∈fs){k:Nat}(hk:k<=K)(hw:∀ j,j<k->0<(chN (shL u ms) j).1.2):∃ D,Cd (tbN (a+c+4) K) D (chN (shL u ms) k).1.1:=by
 obtain ⟨M,hM⟩:=h.row hu
 have h6:=h.k6
 obtain ⟨D,hD⟩:=qL9 hM (show k<=7 by omega) (qLz hk) hw
 exact ⟨D,hD.cd⟩
theorem StOk.worth{K:Nat}{ms:List Rat}{fs:List (List Rat)}{a c:Nat}(h:StOk K ms fs a c){u:List Rat}(hu:u∈fs){k:Nat}(hk:k<=K)(hw:∀ j,j<k->0<(chN (shL u ms) j).1.2):Sz (2*tbN (a+c+4) K+(a+c+4)+9) (chN (shL u ms) k).1.2:=by
 obtain ⟨M,hM⟩:=h.row hu
 have h6:=h.k6
 obtain ⟨D,hD⟩:=qL9 hM (show k<=7 by omega) (qLz hk) hw
 exact qLt (n:=2*tbN (a+c+4) K+(a+c+4)+8) hD.ov (Int.mul_pos (Int.mul_pos hD.cd.pos hD.cd.pos) hM.pos) (Zaf (qB5 (qB5 hD.cd.le hD.cd.le) hM.le) (qDe (by omega)))
theorem qW1(u ms:List Rat):(shL u ms).length=ms.length - (u.length - 1):=by simp [shL]
theorem qJ7{ms:List Rat}{k:Nat}:∀ {us:List (List Rat)} {s:Step},s∈qDm ms us k->∃ u,u∈us/\OnN u k/\s=qHf ms u k
 | [],s,h=>by simp [qDm] at h
 | u :: us,s,h=>by
  rw [qDm] at h
  split at h
  ·rename_i hu
   rcases List.mem_cons.mp h with rfl | h
   ·exact ⟨u,Zad,hu,rfl⟩
   ·obtain ⟨v,h1,h2⟩:=qJ7 h
    exact ⟨v,Zab _ h1,h2⟩
  ·obtain ⟨v,h1,h2⟩:=qJ7 h
   exact ⟨v,Zab _ h1,h2⟩
theorem qRe{ms:List Rat}{k:Nat}:∀ {us:List (List Rat)} {u:List Rat},u∈us->OnN u k->qHf ms u k∈qDm ms us k
 | v :: us,u,h,ho=>by
  rw [qDm]
  rcases List.mem_cons.mp h with rfl | h
  ·rw [if_pos ho];exact Zad
  ·have:=qRe (ms:=ms) h ho
   split
   ·exact Zab _ this
   ·exact this
theorem qXz{u:List Rat}{k:Nat}(hu:0<u.length)(h:OnN u k):qG5 u (k+1)=qG5 u k+1/\2*qG5 u k+(u.length - 1)=k:=by
 obtain ⟨h1,h2⟩:=h
 unfold qG5
 omega
theorem qAj9{u:List Rat}{k:Nat}(hu:0<u.length)(h:¬ OnN u k):qG5 u (k+1)=qG5 u k:=by
 unfold qG5
 unfold OnN at h
 by_cases h1:u.length<=k+1
 ·have h2:¬ (k+1 - u.length) % 2=0:=λz=>h ⟨h1,z⟩
  omega
 ·omega
theorem qAkv{u ms:List Rat}{n i:Nat}(h:i+u.length<=n)(hu:0<u.length)(hn:n<=ms.length):coef (shL u (ms.take n)) i=coef (shL u ms) i:=by
 unfold shL
 rw [qCp,qCp,if_pos (by rw [Zaj];omega),if_pos (by omega)]
 refine qF3 λj hj => ?_
 rw [qAv,qAv,qHz ,if_pos (by omega)]
theorem qMk{u ms:List Rat}{n k:Nat}(hu:0<u.length)(ho:OnN u k)(hk:k<n)(hn:n<=ms.length):qHf (ms.take n) u k=qHf ms u k:=by
 have e:=(qXz hu ho).2
 unfold qHf
 rw [qJe λi hi=>qAkv (by omega) hu hn]
theorem qY3{ms:List Rat}{n k:Nat}(hk:k<n)(hn:n<=ms.length):∀ {fs:List (List Rat)},(∀ u,u∈fs->0<u.length)->qDm (ms.take n) fs k=qDm ms fs k
 | [],_=>rfl
 | u :: us,h=>by
  have ih:=qY3 hk hn (fs:=us) λv hv=>h v (Zab _ hv)
  rw [qDm,qDm,ih]
  split
  ·rename_i ho
   rw [qMk (h u Zad) ho hk hn]
  ·rfl
theorem qW0{ms:List Rat}{n:Nat}{fs:List (List Rat)}(hf:∀ u,u∈fs->0<u.length)(hn:n<=ms.length):∀ r k,k+r<=n->goN (ms.take n) fs r k=goN ms fs r k
 | 0,_,_=>rfl
 | r+1,k,h=>by
  rw [goN,goN,qY3 (by omega) hn hf,qW0 hf hn r (k+1) (by omega)]
def stG(ms:List Rat)(fs:List (List Rat)):Nat->Nat->Option Step
 | 0,_=>none
 | n+1,k=>match qAp (qDm ms fs k) with
  | some s=>some s
  | none=>stG ms fs n (k+1)
theorem qAgn{l:List Step}:l.all qXi=(qAp l).isNone:=by
 unfold qAp
 induction l with
 | nil=>rfl
 | cons s l ih=>
  rw [List.all_cons,List.find?_cons]
  cases h:qXi s with
  | true=>simpa using ih
  | false=>rfl
theorem qAhg{l r:List Step}:qAp (l ++ r)=(match qAp l with | some s=>some s | none=>qAp r):=by
 unfold qAp
 rw [List.find?_append]
 cases List.find? (λs => !qXi s) l <;> rfl
theorem qF0(ms:List Rat)(fs:List (List Rat)):∀ n k,qAp (goN ms fs n k)=stG ms fs n k
 | 0,_=>rfl
 | n+1,k=>by
  rw [goN,stG,qAhg,qAgn]
  cases h:qAp (qDm ms fs k) with
  | some s=>rfl
  | none=>exact qF0 ms fs n (k+1)
theorem qQf(ms:List Rat)(fs:List (List Rat)):∀ n k,stG ms fs (n+1) k=(match stG ms fs n k with | some s=>some s | none=>qAp (qDm ms fs (k+n)))
 | 0,k=>by
  rw [stG]
  cases h:qAp (qDm ms fs k) <;> simp [stG,h]
 | n+1,k=>by
  have e1:stG ms fs (n+1+1) k=(match qAp (qDm ms fs k) with | some s=>some s | none=>stG ms fs (n+1) (k+1)):=rfl
  have e2:stG ms fs (n+1) k=(match qAp (qDm ms fs k) with | some s=>some s | none=>stG ms fs n (k+1)):=rfl
  rw [e1,e2]
  cases h:qAp (qDm ms fs k) with
  | some s=>rfl
  | none=>
   show stG ms fs (n+1) (k+1)=_
   rw [qQf ms fs n (k+1),show k+1+n=k+(n+1) by omega]
theorem qAmg{ms q:List Rat}{n:Nat}(hn:n<=ms.length):unN (ms.take n) q=(Zag (n+1 - q.length)).find? λj=>decide (qDp (strip (qBc q (qN4 j))) ms≠0):=by
 unfold unN
 rw [show (ms.take n).length=n by rw [Zaj];omega]
 have:∀ l:List Nat,(∀ j,j∈l->j+q.length<n+1)->(l.find? λj=>decide (qDp (strip (qBc q (qN4 j))) (ms.take n)≠0))=(l.find? λj=>decide (qDp (strip (qBc q (qN4 j))) ms≠0)):=by
  intro l
  induction l with
  | nil=>intro _;rfl
  | cons j l ih=>
   intro hj
   have e:qDp (strip (qBc q (qN4 j))) (ms.take n)=qDp (strip (qBc q (qN4 j))) ms:=by
    unfold qDp
    refine qF3 λi hi => ?_
    have h1:=qDd (qBc q (qN4 j))
    have h2:=qGy q (qN4 j)
    have h3:(qN4 j).length=j+1:=by simp [qN4]
    have h4:=hj j Zad
    rw [qHz,if_pos (by omega)]
   rw [List.find?_cons,List.find?_cons,e,ih λi hi=>hj i (Zab _ hi)]
 exact this _ λj hj=>by have:=List.mem_range.mp hj;omega
def dK(ms:List Rat)(fs:List (List Rat))(n:Nat):Bool:=match stG ms fs n 0 with
 | none=>true
 | some s=>if s.2.2.2<0 then false else ((Zag (n+1 - (qAt s).length)).find? λj=>decide (qDp (strip (qBc (qAt s) (qN4 j))) ms≠0)).isNone
theorem qAhx{ms:List Rat}{fs:List (List Rat)}(hf:∀ u,u∈fs->0<u.length){n:Nat}(hn:n<=ms.length):qK2 (ms.take n) fs=dK ms fs n:=by
 unfold qK2 dK
 rw [show (ms.take n).length=n by rw [Zaj];omega,qW0 hf hn n 0 (by omega),qF0]
 cases stG ms fs n 0 with
 | none=>rfl
 | some s=>
  show (if s.2.2.2<0 then false else (unN (ms.take n) (qAt s)).isNone)=_
  rw [qAmg hn]
theorem qUh{p:Nat->Bool}{a b:Nat}(h:a<=b)(e:((Zag b).find? p).isNone=true):((Zag a).find? p).isNone=true:=by
 rw [Option.isNone_iff_eq_none,List.find?_eq_none] at e ⊢
 intro x hx
 exact e x (List.mem_range.mpr (by have:=List.mem_range.mp hx;omega))
theorem qAli{ms:List Rat}{fs:List (List Rat)}{n:Nat}(h:dK ms fs (n+1)=true):dK ms fs n=true:=by
 unfold dK at h ⊢
 rw [qQf] at h
 cases e:stG ms fs n 0 with
 | none=>rfl
 | some s=>
  rw [e] at h
  dsimp only at h ⊢
  split at h
  ·cases h
  ·rename_i h1
   rw [if_neg h1]
   exact qUh (by omega) h
theorem qArb{ms:List Rat}{fs:List (List Rat)}{n m:Nat}(hm:n<=m)(h:dK ms fs m=true):dK ms fs n=true:=by
 induction m with
 | zero=>rw [show n=0 by omega];exact h
 | succ m ih=>
  by_cases e:n=m+1
  ·rw [e];exact h
  ·exact ih (by omega) (qAli h)
def lgN(p:Nat->Bool):Nat->Nat
 | 0=>0
 | n+1=>if p (n+1) then n+1 else lgN p n
theorem qAh4(p:Nat->Bool):∀ n,lgN p n<=n
 | 0=>Za9 _
 | n+1=>by
  unfold lgN
  have:=qAh4 p n
  split <;> omega
theorem qAeu{p:Nat->Bool}(hp:∀ a b,a<=b->p b=true->p a=true):∀ n k,1<=k->k<=n->(p k=true↔k<=lgN p n)
 | 0,k,h1,h2=>by omega
 | n+1,k,h1,h2=>by
  unfold lgN
  by_cases h:p (n+1)=true
  ·rw [if_pos h]
   exact ⟨λ_=>h2,λ_=>hp k (n+1) h2 h⟩
  ·rw [if_neg h]
   by_cases e:k=n+1
   ·subst e
    have:=qAh4 p n
    exact ⟨λz=>absurd z h,λz=>by omega⟩
   ·exact qAeu hp n k h1 (by omega)
def UnSz(ms q:List Rat):Prop:=∃ n d c M,Cd n d q/\Cd c M ms/\2*(n+c+20)<=900000/\ms.length<=16/\q.length<=ms.length+1
def BoSz(s:Step):Prop:=∃ a b du dp,Cd a du s.2.1/\Cd b dp s.2.2.1/\2*(a+b+10)<=900000/\s.2.1.length<=8/\s.2.2.1.length<=8
theorem qAgo(j:Nat):(qN4 j).length=j+1:=by simp [qN4]
theorem qAdq(j i:Nat):coef (qN4 j) i=if i=j then 1 else 0:=by
 unfold qN4 coef
 by_cases h:i<j
 ·rw [List.getElem?_append_left (by simpa using h),List.getElem?_replicate,if_pos h,if_neg (by omega)]
  rfl
 ·rw [List.getElem?_append_right (by simp;omega),List.length_replicate]
  by_cases e:i=j
  ·subst e
   rw [Nat.sub_self,if_pos rfl]
   rfl
  ·rw [if_neg e,List.getElem?_eq_none (by simp;omega)]
   rfl
theorem qAok{n:Nat}{d:Int}{r:List Rat}(h:Cd n d r)(hn:Nrm r):∃ e,Cd n e (qEe r):=by
 unfold qEe
 rw [hn]
 by_cases h0:r.length=0
 ·have:r=[]:=List.length_eq_zero_iff.mp h0
  subst this
  exact ⟨d,h.pos,h.le,λi=>by rw [List.map_nil,qAk (Nat.zero_le _)];exact Ov.zero⟩
 ·have ld:qAm r≠0:=qAfz hn (by omega)
  obtain ⟨l,el,ll⟩:=h.ov (r.length - 1)
  have el':qAm r*(d:Rat)=(l:Rat):=el
  have nd:=qEa h.pos
  have l0:l≠0:=λz=>by
   rw [z,Rat.intCast_zero] at el'
   rcases Rat.mul_eq_zero.mp el' with z | z
   ·exact ld z
   ·exact nd z
  have nl:(l:Rat)≠0:=λz=>l0 (Rat.intCast_inj.mp (z.trans Rat.intCast_zero.symm))
  refine ⟨l.natAbs,by omega,by rw [Int.natAbs_natCast];exact ll,λi => ?_⟩
  have ec:coef (r.map λc=>c / qAm r) i=coef r i / qAm r:=by
   unfold coef
   rw [Zae]
   cases r[i]? with
   | none=>show (0:Rat)=0 / _;rw [Rat.div_def,Za2]
   | some v=>rfl
  rw [ec]
  obtain ⟨z,ez,lz⟩:=h.ov i
  have key:coef r i / qAm r*(l:Rat)=(z:Rat):=by
   rw [<-ez, ←el']
   grind
  by_cases hl:0<=l
  ·refine ⟨z, ?_,lz⟩
   rw [show ((l.natAbs:Nat):Int)=l by omega]
   exact key
  ·refine ⟨-z, ?_,by omega⟩
   rw [show ((l.natAbs:Nat):Int) = -l by omega,Rat.intCast_neg,Rat.intCast_neg, ←key]
   grind
theorem qAie{ms:List Rat}{fs:List (List Rat)}(h0:∀ u,u∈fs->0<u.length):∀ (r k:Nat),(∀ u,u∈fs->∀ j,j<qG5 u k->0<(chN (shL u ms) j).1.2)->∀ s,s∈goN ms fs r k->∃ u i,u∈fs/\OnN u i/\k<=i/\i<k+r/\s=qHf ms u i/\(∀ v,v∈fs->∀ j,j<qG5 v i->0<(chN (shL v ms) j).1.2)
 | 0,k,hw,s,hs=>by simp [goN] at hs
 | r+1,k,hw,s,hs=>by
  rw [goN] at hs
  rcases List.mem_append.mp hs with hs | hs
  ·obtain ⟨u,h1,h2,h3⟩:=qJ7 hs
   exact ⟨u,k,h1,h2,Za9 _,by omega,h3,hw⟩
  ·split at hs
   ·rename_i ha
    obtain ⟨u,i,h1,h2,h3,h4,h5⟩:=qAie h0 r (k+1) (λu hu j hj=>by
     by_cases hj1:j<qG5 u k
     ·exact hw u hu j hj1
     ·by_cases ho:OnN u k
      ·have:=(qXz (h0 u hu) ho).1
       rw [show j=qG5 u k by omega]
       exact of_decide_eq_true (List.all_eq_true.mp ha _ (qRe (ms:=ms) hu ho))
      ·have:=qAj9 (h0 u hu) ho
       omega) s hs
    exact ⟨u,i,h1,h2,by omega,by omega,h5⟩
   ·cases hs
theorem qAhv{u:List Rat}(h:0<u.length):qG5 u 0=0:=by unfold qG5;omega
structure StepOk (K:Nat) (ms:List Rat) (fs:List (List Rat)) (a c:Nat) (s:Step):Prop where
 w:qN3 s.2.2.2 ((0:Int):Rat)
 bo:BoSz s
 un:UnSz ms (qAt s)
 len:s.2.1.length+s.2.2.1.length<=ms.length+1
 l8:s.2.1.length<=3/\s.2.2.1.length<=K+1
 num:s.1<ms.length
 fac:s.2.1∈fs
def rstF(dv q r:Nat->Rat)(t k:Nat):Rat:=conv q dv t k+r k
structure DivZ (za zb zc:Nat) (one dv q r:List Rat):Prop where
 n:Nrm dv
 l:0<dv.length
 eq:∀ k,coef one k=conv (coef q) (coef dv) q.length k+coef r k
 lr:r.length<dv.length
 lq:q.length=one.length+1 - dv.length
 l1:one.length<=1000
 l2:dv.length<=1000
 za0:0<za
 zb0:0<zb
 zq:SzL za q
 zd:SzL zb dv
 zr:∀ t k,t<=q.length->Sz zc (rstF (coef dv) (coef q) (coef r) t k)
 b:za+zb+zc<=900000
section
variable {za zb zc:Nat} {one dv q r:List Rat} {FD:FEnds}
theorem DivZ.done(h:DivZ za zb zc one dv q r):one=(Zag one.length).map λk=>rstF (coef dv) (coef q) (coef r) q.length k:=by
 refine qC9 (by simp) λk => ?_
 rw [qCp]
 split
 ·exact h.eq k
 ·exact qAk (by omega)
end
def qF6(a:List Rat):List Rat:=(Zag (a.length - 1)).map λk=>coef a (k+1)*(((k+1:Nat):Int):Rat)
structure OkL (a:List Rat):Prop where
 l:a.length<=1000
 z:∃ n,SzL n a/\0<n/\n+n<=900000
inductive Euc:List Rat->List Rat->List Rat->Prop
 | nil {a:List Rat}:OkL a->Euc a [] (qEe a)
 | step {a b q r g:List Rat} {za zb zc:Nat}:Nrm b->DivZ za zb zc a b q r->OkL b->OkL (strip r)->Euc (qEe b) (qEe (strip r)) g->Euc a b g
structure SqF (a s:List Rat):Prop where
 ex:∃ g q r za zb zc,OkL a/\Euc a (strip (qF6 a)) g/\DivZ za zb zc a (strip g) q r/\OkL (strip q)/\s=strip (qEe (strip q))
def sdN(a:List Rat):List Rat:=if a=[] then a else if qAm a<0 then strip (qKc (strip (qEe a))) else strip (qEe a)
inductive Stu:List Rat->List Rat->List (List Rat)->Prop
 | nil {a:List Rat}:Stu a [] []
 | step {a b q r:List Rat} {l:List (List Rat)} {za zb zc:Nat}:Nrm b->DivZ za zb zc a b q r->OkL (strip r)->OkL (strip (qEe (strip r)))->OkL (sdN (strip r))->Stu b (strip (qKc (sdN (strip r)))) l->Stu a b (b :: l)
def sgN(q:Rat):Int:=if q<0 then -1 else if 0<q then 1 else 0
def chgA:List Int->Nat
 | a :: b :: l=>(if b≠a then 1 else 0)+chgA (b :: l)
 | _=>0
def chg(l:List Int):Nat:=chgA (l.filter λs=>decide (s≠0))
def sgAt(l:List (List Rat))(x:Option Rat)(side:Int):List Int:=l.map λp=>match x with
 | some x=>sgN (horner p x)
 | none=>if side<0/\p.length % 2=0 then -sgN (qAm p) else sgN (qAm p)
def qAgr(l:List (List Rat))(x:Option Rat):Prop:=∀ p,p∈l->0<p.length/\∀ y,x=some y->∃ n m,SzL n p/\Sz m y/\0<n/\(p.length+1)*(n+m+1)<=900000/\p.length<=1000
def cntA(l:List (List Rat))(a b:Option Rat):Int:=((chg (sgAt l a (-1)):Nat):Int) - ((chg (sgAt l b 1):Nat):Int)
def nnX(w:Str):Exn:=⟨"NoNumber",[("word", .str w)]⟩
def EndsP(cs:List Str)(p:List Rat)(lo hi:D)(X:XP)(G:Option Rat->Option Rat->Prop):Prop:=(p=[]/\X ⟨"NoPoly",[]⟩)\/(p≠[]/\((lo ≠ .non/\qTw cs lo=some false/\X (nnX "low"))\/∃ a,optV lo=some a/\((hi ≠ .non/\qTw cs hi=some false/\X (nnX "high"))\/∃ b,optV hi=some b/\G a b)))
def ChOk(p:List Rat)(a b:Option Rat)(l:List (List Rat)):Prop:=∃ s r,SqF p s/\OkL s/\Stu s (strip (qF6 s)) r/\r.length<1000/\l=s :: r/\qAgr l a/\qAgr l b
def LtO(a b:Option Rat):Prop:=∀ x y,a=some x->b=some y->x<y
def LeO(a b:Option Rat):Prop:=∀ x y,a=some x->b=some y->x<=y
def CmO(a b:Option Rat):Prop:=∀ x y,a=some x->b=some y->qN3 x y
def AftP(p:List Rat)(a b:Option Rat)(P:D->Prop):Prop:=CmO a b/\(¬ LtO a b->P (.int 0))/\(LtO a b->∃ l,ChOk p a b l/\P (.int (cntA l a b)))
def RinP(p:List Rat)(a b:Option Rat)(P:D->Prop):Prop:=CmO a b/\(¬ LeO a b->P (.int 0))/\(LeO a b->(∀ x,a=some x->qAgr [p] a/\qN3 (horner p x) 0)/\AftP p a b λd=>∃ k:Int,d = .int k/\P (.int (k+(match a with | some x=>if horner p x=0 then 1 else 0 | none=>0))))
def qAdb(cs:List Str):FSp:=λds P X=>∃ p lo hi,ds=[.poly p,lo,hi]/\EndsP cs p lo hi X λa b=>RinP p a b P
theorem qAln{n:Nat}{cs:List Rat}(h:∀ k,Sz n (coef cs k)):SzL n cs:=λc hc=>by
 obtain ⟨i,hi⟩:=List.mem_iff_getElem?.mp hc
 have hl:=(List.getElem?_eq_some_iff.mp hi).1
 have:=qMt hl
 rw [hi] at this
 rw [Option.some.inj this]
 exact h i
theorem qAcg(a:List Rat):(qEe a).length<=a.length:=by
 unfold qEe
 rw [Za6,qFa]
 exact qT1 _ _
theorem Euc.len{a b g:List Rat}(h:Euc a b g):g.length<=1000:=by
 induction h with
 | nil h=>exact Zaf (qAcg _) h.l
 | step _ _ _ _ _ ih=>exact ih
theorem qFf(m:List Int):(qDl m).length=m.length:=by unfold qDl;rw [Za6]
theorem EndsP.mono{cs:List Str}{p:List Rat}{lo hi:D}{X:XP}{G G':Option Rat->Option Rat->Prop}(h:EndsP cs p lo hi X G)(k:∀ a b,p≠[]->optV lo=some a->optV hi=some b->G a b->G' a b):EndsP cs p lo hi X G':=by
 rcases h with h | ⟨hp,h | ⟨a,ha,h | ⟨b,hb,h⟩⟩⟩
 ·exact .inl h
 ·exact .inr ⟨hp, .inl h⟩
 ·exact .inr ⟨hp, .inr ⟨a,ha, .inl h⟩⟩
 ·exact .inr ⟨hp, .inr ⟨a,ha, .inr ⟨b,hb,k a b hp ha hb h⟩⟩⟩
def qOq(p b:List Rat)(size:Nat):List Rat:=(Zag size).map (goS (coef p) b.length (coef b))
structure ContOk (p b:List Rat) (size:Nat):Prop where
 l:b.length+1=p.length
 l9:p.length<=20
 s:size<=1000
 z:∃ n m,SzL n p/\(∀ k,k<size->Sz m (goS (coef p) b.length (coef b) k))/\0<n/\0<m/\21*(n+m+1)<=900000
def loX(w:Str):Exn:=⟨"NoLot",[("part", .str w)]⟩
def qAfs(cs:List Str):FSp:=λds P X=>∃ p d,ds=[.poly p,d]/\((isD cs (.ty "list") d=some false/\isD cs (.ty "tuple") d=some false/\X (loX "begin"))\/∃ items,itD d=some items/\items.length<=100000/\
 ((((items.length:Nat):Int)≠(p.length:Int) - 1/\X (loX "begin"))\/(((items.length:Nat):Int)=(p.length:Int) - 1/\
  ((∃ qs,qDf items=some qs/\P (.lst (qCy qs)))\/(∃ pre b post,items=pre ++ b :: post/\(∃ qs,qDf pre=some qs)/\qTw cs b=some false/\X (loX "begin"))))))
def LotD(p b:List Rat):D := .ins "Lot" ["poly","begin","count"] [.poly p, .tup (qCy b), .int ((p.length:Int) - 1)]
def qAma(p b:List Rat)(A B:Prop):Prop:=ContOk p b (2*b.length - 1)/\(∃ K al c,StOk K (qOq p b (2*b.length - 1)) [[1]] al c)/\
 (qAp (goN (qOq p b (2*b.length - 1)) [[1]] (2*b.length - 1) 0)=none->A)/\(qAp (goN (qOq p b (2*b.length - 1)) [[1]] (2*b.length - 1) 0)≠none->B)
def qAic(cs:List Str):FSp:=λds P X=>∃ p d,ds=[.poly p,d]/\qN3 (qAm p) 1/\(¬ (qAm p=1/\p.length<=9)->X (loX "poly"))/\
 (qAm p=1/\p.length<=9->qAdb cs [.poly p, .non, .non] (λr=>∃ k:Int,r = .int k/\(k≠(p.length:Int) - 1->X (loX "roots"))/\
  (k=(p.length:Int) - 1->qAfs cs [.poly p,d] (λe=>∃ qs,e = .lst (qCy qs)/\(qs=[]->P (LotD p qs))/\(qs≠[]->qAma p qs (P (LotD p qs)) (X (loX "weights")))) X)) X)
theorem qS9(p b:List Rat)(n:Nat):(qOq p b n).length=n:=by simp [qOq]
theorem qK1{p b:List Rat}{n k:Nat}(h:k<n):coef (qOq p b n) k=goS (coef p) b.length (coef b) k:=by
 unfold qOq coef
 rw [Zae,List.getElem?_range h]
 rfl
theorem qAn8(p:Nat->Rat)(b:Nat->Rat)(hb:b 0=0):∀ k,goS p 0 b k=0
 | 0=>hb
 | k+1=>by
  show -(0:Rat)=0
  rw [Rat.neg_zero]
theorem AftP.mono{p:List Rat}{a b:Option Rat}{P P':D->Prop}(h:AftP p a b P)(k:∀ d,P d->P' d):AftP p a b P':=⟨h.1,λz=>k _ (h.2.1 z),λz=>let ⟨l,hl,q⟩:=h.2.2 z;⟨l,hl,k _ q⟩⟩
theorem RinP.mono{p:List Rat}{a b:Option Rat}{P P':D->Prop}(h:RinP p a b P)(k:∀ d,P d->P' d):RinP p a b P':=⟨h.1,λz=>k _ (h.2.1 z),λz=>⟨(h.2.2 z).1,(h.2.2 z).2.mono λ_ ⟨i,e,q⟩=>⟨i,e,k _ q⟩⟩⟩
end MR
namespace MR
open PySem PySem.Spec PyProof.Rows L2
open Ps
theorem Sz.inv{n:Nat}{a:Rat}(h:Sz n a):Sz n a⁻¹:=by
 by_cases e:a=0
 ·rw [e,Rat.inv_zero]
  exact ⟨by show 0<2 ^ n;exact Nat.two_pow_pos n,by have:=h.pos;exact Nat.one_lt_two_pow (by omega)⟩
 ·rw [Rat.inv_def]
  refine qG3 (λz=>e (Rat.num_eq_zero.mp z)) ?_ h.num
  rw [Int.natAbs_natCast]
  exact h.den
theorem Sz.div{n m:Nat}{a b:Rat}(h:Sz n a)(g:Sz m b):Sz (n+m) (a / b):=by
 rw [Rat.div_def]
 exact h.mul g.inv
theorem qB3(a:List Rat):qAm a=coef a (a.length - 1):=rfl
theorem qKh{n:Nat}{cs:List Rat}(h:∀ k,Sz n (coef cs k)):SzL n cs:=qAln h
theorem qF5{a:List Rat}(h:qAm a≠0)(l:0<a.length):strip a=a:=qCj (n:=a.length - 1) (by omega) h
theorem qMv{a:List Rat}(h:qAm a≠0)(l:0<a.length):qEe a=a.map λc=>c / qAm a:=by
 unfold qEe
 rw [qF5 h l]
theorem qJy{a:List Rat}(h:qAm a≠0)(l:0<a.length)(k:Nat):coef (qEe a) k=1 / qAm a*coef a k:=by
 rw [qMv h l]
 unfold coef
 rw [Zae]
 cases a[k]? with
 | none=>show (0:Rat)=_*0;rw [Za1]
 | some c=>show c / _=1 / _*c;grind
theorem qD2{a:List Rat}(h:qAm a≠0)(l:0<a.length):(qEe a).length=a.length:=by rw [qMv h l,Za6]
theorem qHe{a:List Rat}(h:qAm a≠0)(l:0<a.length):qAm (qEe a)=1:=by
 rw [qB3,qD2 h l,qJy h l, ←qB3]
 grind
theorem qHg:(1:Rat)≠0:=by decide
theorem qH1{a:List Rat}(h:qAm a≠0)(l:0<a.length):strip (qEe a)=qEe a:=qF5 (by rw [qHe h l];exact qHg) (by rw [qD2 h l];exact l)
theorem qAgd(a:List Rat):qKc (qKc a)=a:=qC9 (by rw [qE5,qE5]) λk=>by rw [qE4,qE4,Rat.neg_neg]
theorem qZ1{a:List Rat}(h:qAm a≠0)(l:0<a.length):strip (qKc a)=qKc a:=qF5 (by rw [qB3,qE5,qE4, ←qB3];grind) (by rw [qE5];exact l)
theorem qAlw{L s:Nat}{u v:List Rat}(hL:0<L)(lu:u.length=L+1)(lv:v.length=L)(l9:L<=100)(tv:qAm v≠0)(s0:0<s)(zu:SzL s u)(zv:SzL s v)(hs:22*s+20<=900000) :
  ∃ q r:List Rat,q.length=2/\r.length=L - 1/\DivZ (5*s+2) s (16*s+7) u v q r/\SzL (10*s+4) r:=by
 obtain ⟨t,ht⟩:∃ t,t=coef v (L - 1):=⟨_,rfl⟩
 have t0:t≠0:=by rw [ht];rw [qB3,lv] at tv;exact tv
 obtain ⟨vm,hvm⟩:∃ vm,vm=if 2<=L then coef v (L - 2) else 0:=⟨_,rfl⟩
 have cu:=λk=>zu.coef s0 k
 have cv:=λk=>zv.coef s0 k
 have zt:Sz s t:=by rw [ht];exact cv _
 have zvm:Sz s vm:=by
  rw [hvm];split
  ·exact cv _
  ·exact qFz.mono s0
 obtain ⟨q1,h1⟩:∃ q1,q1=coef u L / t:=⟨_,rfl⟩
 obtain ⟨q0,h0⟩:∃ q0,q0=(coef u (L - 1) - q1*vm) / t:=⟨_,rfl⟩
 have z1:Sz (2*s) q1:=by rw [h1];exact ((cu _).div zt).mono (by omega)
 have z0:Sz (5*s+2) q0:=by rw [h0];exact (((cu _).sub (z1.mul zvm)).div zt).mono (by omega)
 have cq:∀ k,coef [q0,q1] k=if k=0 then q0 else if k=1 then q1 else 0:=λk=>by
  match k with
  | 0=>rfl
  | 1=>rfl
  | k+2=>rw [if_neg (by omega),if_neg (by omega)];rfl
 have c0:coef [q0,q1] 0=q0:=rfl
 have c1:coef [q0,q1] 1=q1:=rfl
 have cv2:∀ k,conv (coef [q0,q1]) (coef v) 2 k=q0*coef v k+(if 1<=k then q1*coef v (k - 1) else 0):=λk=>by
  show (0:Rat)+(if 0<=k then coef [q0,q1] 0*coef v (k - 0) else 0)+(if 1<=k then coef [q0,q1] 1*coef v (k - 1) else 0)=_
  rw [if_pos (Nat.zero_le k),c0,c1,Nat.sub_zero,Zah]
 refine ⟨[q0,q1],(Zag (L - 1)).map λk=>coef u k - (q0*coef v k+(if 1<=k then q1*coef v (k - 1) else 0)),rfl,by simp, ?_, ?_⟩
 have zr:∀ k,Sz (10*s+4) (coef ((Zag (L - 1)).map λk=>coef u k - (q0*coef v k+(if 1<=k then q1*coef v (k - 1) else 0))) k):=λk=>by
  rw [qCp]
  split
  ·split
   ·exact ((cu k).sub ((z0.mul (cv k)).add (z1.mul (cv (k - 1))))).mono (by omega)
   ·rw [Zac]
    exact ((cu k).sub (z0.mul (cv k))).mono (by omega)
  ·exact qFz.mono (by omega)
 ·have eq:∀ k,coef u k=conv (coef [q0,q1]) (coef v) 2 k+coef ((Zag (L - 1)).map λk=>coef u k - (q0*coef v k+(if 1<=k then q1*coef v (k - 1) else 0))) k:=λk=>by
   rw [cv2,qCp]
   by_cases k1:k<L - 1
   ·rw [if_pos k1];grind
   ·rw [if_neg k1,Zac]
    by_cases k2:k=L - 1
    ·subst k2
     have e1:(if 1<=L - 1 then q1*coef v (L - 1 - 1) else 0)=q1*vm:=by
      rw [hvm]
      by_cases h2:2<=L
      ·rw [if_pos (by omega),if_pos h2,show L - 1 - 1=L - 2 by omega]
      ·rw [if_neg (by omega),if_neg h2,Za1]
     rw [e1, ←ht,h0]
     grind
    ·by_cases k3:k=L
     ·subst k3
      rw [qAk (cs:=v) (k:=k) (by omega),if_pos (by omega), ←ht,h1,Za1,Zah]
      grind
     ·rw [qAk (cs:=u) (by omega),qAk (cs:=v) (k:=k) (by omega),Za1,Zah]
      split
      ·rw [qAk (cs:=v) (by omega),Za1]
      ·rfl
  refine ⟨qF5 tv (by omega),by omega,eq,by simp;omega,by show 2=_;omega,by omega,by omega,by omega,s0,qKh λk => ?_,zv,λt' k ht' => ?_,by omega⟩
  ·rw [cq]
   split
   ·exact z0
   ·split
    ·exact z1.mono (by omega)
    ·exact qFz.mono (by omega)
  ·have:t'=0\/t'=1\/t'=2:=by
    have:t'<=2:=ht'
    omega
   rcases this with rfl | rfl | rfl
   ·show Sz _ ((0:Rat)+_)
    rw [Zah]
    exact (zr k).mono (by omega)
   ·show Sz _ ((0:Rat)+(if 0<=k then coef [q0,q1] 0*coef v (k - 0) else 0)+_)
    rw [if_pos (Nat.zero_le _),Zah,Nat.sub_zero,c0]
    exact ((z0.mul (cv k)).add (zr k)).mono (by omega)
   ·show Sz _ (conv _ _ 2 k+_)
    rw [<-eq k]
    exact (cu k).mono (by omega)
 ·exact qKh λk=>by
   rw [qCp]
   split
   ·split
    ·exact ((cu k).sub ((z0.mul (cv k)).add (z1.mul (cv (k - 1))))).mono (by omega)
    ·rw [Zac]
     exact ((cu k).sub (z0.mul (cv k))).mono (by omega)
   ·exact qFz.mono (by omega)
theorem qAod{za zb zc:Nat}{u v q r:List Rat}(h:DivZ za zb zc u v q r):pl u=pl q*pl v+pl r:=ext' λk=>by
 show coef u k=cvF k (coef q) (coef v)+coef r k
 rw [h.eq k,qM2 (f:=coef q) k q.length (coef q) (qEp q)]
def ChP:Nat->List (List Rat)->Prop
 | 0,l=>l=[]
 | k+1,l=>∃ v r,l=v :: r/\v.length=k+1/\0<qAm v/\ChP k r
theorem ChP.len:∀ {k:Nat} {l:List (List Rat)},ChP k l->l.length=k
 | 0,l,h=>by rw [show l=[] from h];rfl
 | k+1,l,h=>by
  obtain ⟨v,r,rfl,_,_,hr⟩:=h
  rw [Za0,hr.len]
theorem ChP.pos:∀ {k:Nat} {l:List (List Rat)},ChP k l->∀ v,v∈l->0<v.length/\0<qAm v
 | 0,l,h,v,hv=>by rw [show l=[] from h] at hv;cases hv
 | k+1,l,h,v,hv=>by
  obtain ⟨w,r,rfl,h1,h2,hr⟩:=h
  rcases List.mem_cons.mp hv with rfl | hv
  ·exact ⟨by omega,h2⟩
  ·exact hr.pos v hv
structure SgL (n:Nat) (p c:Ps) (j s:Nat) (u v:List Rat):Prop where
 g:Sg n p c j (pl u) (pl v)
 lu:u.length=n - j+2
 lv:v.length=n - j+1
 zu:SzL s u
 zv:SzL s v
theorem SgL.tv{n j s:Nat}{p c:Ps}{u v:List Rat}(h:SgL n p c j s u v):0<qAm v:=by
 rw [qB3,h.lv]
 exact h.g.tv
theorem qAqg{n j:Nat}{p c u v:Ps}(h:Sg n p c j u v){a:Rat}(ha:0<a):Sg n p c j (cst a*u) v:=by
 obtain ⟨A,B,dA,dB,e⟩:=h.cu
 exact ⟨h.j1,h.jn,qGo h.du,by rw [qA1];exact Rat.mul_pos ha h.tu,h.dv,h.tv,⟨cst a*A,cst a*B,qGo dA,qGo dB,by rw [e];grind⟩,h.cv⟩
theorem okl{s:Nat}{a:List Rat}(l:a.length<=1000)(z:SzL s a)(s0:0<s)(hs:s+s<=900000):OkL a:=⟨l,s,z,s0,hs⟩
section
variable {n b s:Nat} {D:Int} {p c:Ps}
theorem qMi(hp:Mon n p)(hc:Dg n c.c)(h:Hm n p c)(hn:n<=8)(zp:CdP b D p)(zc:CdP b D c)(hb:15*b+90<=s)(hs:22*s+20<=900000){j:Nat}{u v:List Rat}(g:SgL n p c j s u v) :
  ∃ q r,q.length=2/\DivZ (5*s+2) s (16*s+7) u v q r/\OkL r/\r.length=n - j/\(j<n->qAm r<0/\SgL n p c (j+1) s v (qEe r)):=by
 have j1:=g.g.j1
 have jn:=g.g.jn
 obtain ⟨q,r,lq,lr,hd,zr⟩:=qAlw (L:=n - j+1) (by omega) (by rw [g.lu]) g.lv (by omega) (Zan g.tv) (by omega) g.zu g.zv hs
 have lr':r.length=n - j:=by omega
 refine ⟨q,r,lq,hd,okl (by omega) zr (by omega) (by omega),lr',λhj => ?_⟩
 have dQ:Dg 2 (pl q).c:=by have:=qEp q;rw [lq] at this;exact this
 have dr:Dg (n - j) (pl r).c:=by have:=qEp r;rw [lr'] at this;exact this
 have st:=λ(a:Rat) (ha:0<a)=>qAj2 hp hc h hn g.g hj dQ dr (qAod hd) ha
 have neg:qAm r<0:=by
  rw [qB3,lr']
  exact (st 1 (by decide)).1
 have ln:qAm r≠0:=Rat.ne_of_lt neg
 have ap:0 < -(1 / qAm r):=by
  have:0<1 / -qAm r:=by rw [Rat.div_def,Rat.one_mul];exact Rat.inv_pos.mpr (by grind)
  grind
 have e:cst (-(1 / qAm r)) * -pl r=pl (qEe r):=ext' λk=>by
  rw [qA1,qTk]
  show _=coef (qEe r) k
  rw [qJy ln (by omega)]
  show _ * -coef r k=_
  grind
 have s2:=(st _ ap).2
 rw [e] at s2
 have lm:(qEe r).length=n - (j+1)+1:=by rw [qD2 ln (by omega)];omega
 refine ⟨neg,s2,by rw [g.lv];omega,lm,g.zv, ?_⟩
 obtain ⟨W,w0,w1,w2⟩:=qYq hp hc h hn s2 zp zc
 have tm:coef (qEe r) (n - (j+1))=1:=by
  have:=qHe ln (by omega:0<r.length)
  rw [qB3,lm] at this
  exact this
 refine qKh λk => ?_
 have o:=w2 k
 rw [qA1] at o
 have e1:1 / (pl (qEe r)).c (n - (j+1))*(pl (qEe r)).c k=coef (qEe r) k:=by
  show 1 / coef (qEe r) (n - (j+1))*coef (qEe r) k=_
  rw [tm];grind
 rw [e1] at o
 exact (qLt o w0 w1).mono (by omega)
theorem qAk4{r:List Rat}(h:qAm r<0)(l:0<r.length):sdN r=qKc (qEe r):=by
 have ln:qAm r≠0:=Rat.ne_of_lt h
 unfold sdN
 rw [if_neg (List.length_pos_iff.mp l),if_pos h,qH1 ln l,qZ1 (by rw [qHe ln l];exact qHg) (by rw [qD2 ln l];exact l)]
theorem qApd(hp:Mon n p)(hc:Dg n c.c)(h:Hm n p c)(hn:n<=8)(zp:CdP b D p)(zc:CdP b D c)(hb:15*b+90<=s)(hs:22*s+20<=900000):∀ (k j:Nat) (u v:List Rat),n - j=k->SgL n p c j s u v->∃ l,Stu u v l/\ChP (k+1) l:=by
 intro k
 induction k with
 | zero=>
  intro j u v hk g
  have jn:=g.g.jn
  obtain ⟨q,r,_,hd,or,lr,_⟩:=qMi hp hc h hn zp zc hb hs g
  have r0:r=[]:=List.length_eq_zero_iff.mp (by omega)
  subst r0
  have tv:=g.tv
  have lv:=g.lv
  have e1:strip ([]:List Rat)=[]:=rfl
  have e2:qEe ([]:List Rat)=[]:=rfl
  have e3:sdN ([]:List Rat)=[]:=rfl
  have ok:OkL ([]:List Rat):=or
  refine ⟨[v],Stu.step (qF5 (Zan tv) (by omega)) hd (by rw [e1];exact ok) (by rw [e1,e2,e1];exact ok) (by rw [e1,e3];exact ok) ?_,v,[],rfl,by rw [lv,hk],tv,rfl⟩
  rw [e1,e3]
  exact Stu.nil
 | succ k ih=>
  intro j u v hk g
  obtain ⟨q,r,_,hd,or,lr,hj⟩:=qMi hp hc h hn zp zc hb hs g
  obtain ⟨neg,g'⟩:=hj (by omega)
  have ln:qAm r≠0:=Rat.ne_of_lt neg
  have l0:0<r.length:=by omega
  have tv:=g.tv
  have lv:=g.lv
  have e1:strip r=r:=qF5 ln l0
  have e3:=qAk4 neg l0
  have lm:=qD2 ln l0
  have t1:=qHe ln l0
  obtain ⟨l,hl,cl⟩:=ih (j+1) v (qEe r) (by omega) g'
  have om:OkL (qEe r):=okl (by omega) g'.zv (by omega) (by omega)
  refine ⟨v :: l,Stu.step (qF5 (Zan tv) (by omega)) hd (by rw [e1];exact or) (by rw [e1,qH1 ln l0];exact om) (by rw [e1,e3];exact okl (by rw [qE5];omega) g'.zv.neg (by omega) (by omega)) ?_,v,l,rfl,by omega,tv,cl⟩
  rw [e1,e3,qAgd,qH1 ln l0]
  exact hl
theorem qAoh(hp:Mon n p)(hc:Dg n c.c)(h:Hm n p c)(hn:n<=8)(zp:CdP b D p)(zc:CdP b D c)(hb:15*b+90<=s)(hs:22*s+20<=900000):∀ (k j:Nat) (u v:List Rat),n - j=k->SgL n p c j s u v->Euc u v [1]:=by
 intro k
 induction k with
 | zero=>
  intro j u v hk g
  have jn:=g.g.jn
  obtain ⟨q,r,_,hd,or,lr,_⟩:=qMi hp hc h hn zp zc hb hs g
  have r0:r=[]:=List.length_eq_zero_iff.mp (by omega)
  subst r0
  have tv:=g.tv
  have lv:=g.lv
  have tn:=Zan tv
  have e1:strip ([]:List Rat)=[]:=rfl
  have e2:qEe ([]:List Rat)=[]:=rfl
  have em:qEe v=[1]:=qC9 (by rw [qD2 tn (by omega)];simpa using (show v.length=1 by omega)) λi=>by
   by_cases hi:i=0
   ·subst hi
    have:=qHe tn (by omega:0<v.length)
    rw [qB3,qD2 tn (by omega),show v.length - 1=0 by omega] at this
    rw [this];rfl
   ·rw [qAk (by rw [qD2 tn (by omega)];omega),qAk (by simp;omega)]
  have m1:qEe ([1]:List Rat)=[1]:=by
   rw [qMv (by show (1:Rat)≠0;exact qHg) (by decide)]
   show [(1:Rat) / 1]=[1]
   rw [show (1:Rat) / 1=1 by grind]
  have ok1:OkL ([1]:List Rat):=⟨by decide,2,λc hc=>by rw [Zai.mp hc];exact ⟨by decide,by decide⟩,by decide,by decide⟩
  refine Euc.step (qF5 tn (by omega)) hd (okl (by omega) g.zv (by omega) (by omega)) (by rw [e1];exact or) ?_
  rw [e1,e2,em]
  have:=Euc.nil ok1
  rw [m1] at this
  exact this
 | succ k ih=>
  intro j u v hk g
  obtain ⟨q,r,_,hd,or,lr,hj⟩:=qMi hp hc h hn zp zc hb hs g
  obtain ⟨neg,g'⟩:=hj (by omega)
  have ln:qAm r≠0:=Rat.ne_of_lt neg
  have l0:0<r.length:=by omega
  have tv:=g.tv
  have lv:=g.lv
  have tn:=Zan tv
  have e1:strip r=r:=qF5 ln l0
  have lm:=qD2 tn (by omega:0<v.length)
  refine Euc.step (qF5 tn (by omega)) hd (okl (by omega) g.zv (by omega) (by omega)) (by rw [e1];exact or) ?_
  rw [e1]
  refine ih (j+1) (qEe v) (qEe r) (by omega) ⟨?_,by rw [lm,lv];omega,g'.lv, ?_,g'.zv⟩
  ·have e:pl (qEe v)=cst (1 / qAm v)*pl v:=ext' λk=>by
    rw [qA1]
    exact qJy tn (by omega) k
   rw [e]
   exact qAqg g'.g (by rw [Rat.div_def,Rat.one_mul];exact Rat.inv_pos.mpr tv)
  ·obtain ⟨W,w0,w1,w2⟩:=qYq hp hc h hn g.g zp zc
   refine qKh λk => ?_
   have o:=w2 k
   rw [qA1] at o
   have e1:1 / (pl v).c (n - j)*(pl v).c k=coef (qEe v) k:=by
    rw [qJy tn (by omega),qB3,lv]
    rfl
   rw [e1] at o
   exact (qLt o w0 w1).mono (by omega)
end
theorem qAjw{q:Rat}(h:0<q):sgN q=1:=by
 unfold sgN
 rw [if_neg (by grind),if_pos h]
theorem qS3:∀ {k:Nat} {l:List (List Rat)},ChP k l->sgAt l none 1=List.replicate k 1
 | 0,l,h=>by rw [show l=[] from h];rfl
 | k+1,l,h=>by
  obtain ⟨v,r,rfl,h1,h2,hr⟩:=h
  have ih:=qS3 hr
  unfold sgAt at ih ⊢
  rw [List.map_cons,ih,List.replicate_succ]
  congr 1
  show (if (1:Int)<0/\_ then _ else sgN (qAm v))=1
  rw [if_neg (λz=>absurd z.1 (by decide)),qAjw h2]
theorem qX2:∀ {k:Nat} {l:List (List Rat)},ChP k l->sgAt l none (-1)=(Zag k).map λi=>if (k - i) % 2=0 then -1 else 1
 | 0,l,h=>by rw [show l=[] from h];rfl
 | k+1,l,h=>by
  obtain ⟨v,r,rfl,h1,h2,hr⟩:=h
  have ih:=qX2 hr
  unfold sgAt at ih ⊢
  rw [List.map_cons,ih,List.range_succ_eq_map,List.map_cons,List.map_map]
  have e1:(if (-1:Int)<0/\v.length % 2=0 then -sgN (qAm v) else sgN (qAm v))=if (k+1 - 0) % 2=0 then -1 else 1:=by
   rw [qAjw h2,h1,Nat.sub_zero]
   by_cases z:(k+1) % 2=0
   ·rw [if_pos ⟨by decide,z⟩,if_pos z]
   ·rw [if_neg (λy=>z y.2),if_neg z]
  rw [<-e1]
  congr 1
  refine List.map_congr_left λi _ => ?_
  show (if (k - i) % 2=0 then (-1:Int) else 1)=if (k+1 - (i+1)) % 2=0 then -1 else 1
  rw [show k+1 - (i+1)=k - i by omega]
theorem qX9:∀ k,chgA (List.replicate k 1)=0
 | 0=>rfl
 | 1=>rfl
 | k+2=>by
  show (if (1:Int)≠1 then 1 else 0)+chgA (1 :: List.replicate k 1)=0
  rw [if_neg (λz=>z rfl),Nat.zero_add]
  exact qX9 (k+1)
theorem qAc7:∀ (k:Nat),chgA ((Zag k).map λi=>if (k - i) % 2=0 then (-1:Int) else 1)=k - 1
 | 0=>rfl
 | 1=>rfl
 | k+2=>by
  have ih:=qAc7 (k+1)
  rw [List.range_succ_eq_map,List.map_cons,List.map_map]
  have e:((λi=>if (k+2 - i) % 2=0 then (-1:Int) else 1) ∘ Nat.succ)=λi=>if (k+1 - i) % 2=0 then (-1:Int) else 1:=funext λi=>by
   show (if (k+2 - (i+1)) % 2=0 then (-1:Int) else 1)=_
   rw [show k+2 - (i+1)=k+1 - i by omega]
  rw [e]
  rw [List.range_succ_eq_map,List.map_cons] at ih ⊢
  show (if (if (k+1 - 0) % 2=0 then (-1:Int) else 1)≠(if (k+2 - 0) % 2=0 then (-1:Int) else 1) then 1 else 0)+chgA _=_
  rw [ih,if_pos]
  ·omega
  ·split
   ·rw [if_neg (by omega)];decide
   ·rw [if_pos (by omega)];decide
theorem qAgv{k:Nat}{l:List (List Rat)}(h:ChP (k+1) l):cntA l none none=(k:Int):=by
 unfold cntA chg
 have f1:(List.replicate (k+1) (1:Int)).filter (λs=>decide (s≠0))=List.replicate (k+1) 1:=List.filter_eq_self.mpr λa ha=>by
  rw [List.eq_of_mem_replicate ha];rfl
 have f2:((Zag (k+1)).map λi=>if (k+1 - i) % 2=0 then (-1:Int) else 1).filter (λs=>decide (s≠0))=(Zag (k+1)).map λi=>if (k+1 - i) % 2=0 then (-1:Int) else 1:=List.filter_eq_self.mpr λa ha=>by
  obtain ⟨i,_,rfl⟩:=List.mem_map.mp ha
  split <;> rfl
 rw [qX2 h,qS3 h,f1,f2,qX9,qAc7]
 omega
end MR
namespace MR
open PySem PySem.Spec PyProof.Rows L2
def lF(c:Rat)(f:Fu):Fu:=λi=>xF f i - c*f i
theorem Dg.l{n:Nat}{f:Fu}(h:Dg n f)(c:Rat):Dg (n+1) (lF c f):=h.x.sub (h.mono (by omega)) c
theorem qAjn{n:Nat}{f:Fu}(h:Dg (n+1) f)(c:Rat):lF c f (n+1)=f n:=by
 show f n - c*f (n+1)=f n
 rw [h (n+1) (by omega),Za1,sub0]
section
variable {N:Nat} {m:Fu}
theorem Bf_l(c:Rat)(f g:Fu):Bf N m (lF c f) g=Bf N m (xF f) g - c*Bf N m f g:=qHi (xF f) f g c
theorem qAra{f g:Fu}(hf:Dg N f)(hg:Dg N g):Bf N (λi=>m (i+1)) f g=Bf (N+1) m (xF f) g:=by
 unfold Bf
 rw [qHx,qB0 (F:=λj=>xF f 0*g j*m (0+j)) λj _=>by show 0*g j*_=0;rw [Za2,Za2],Zah]
 refine qAh λi _ => ?_
 show _=sm N (λj=>xF f (i+1)*g j*m (i+1+j))+xF f (i+1)*g N*_
 rw [hg N (Za9 _),Za1,Za2,Zac]
 refine qAh λj _ => ?_
 show f i*g j*m (i+j+1)=f i*g j*m (i+1+j)
 rw [show i+j+1=i+1+j by omega]
theorem qAo7(m1 m2 f g:Fu)(c d:Rat):Bf N (λi=>c*m1 i+d*m2 i) f g=c*Bf N m1 f g+d*Bf N m2 f g:=by
 unfold Bf
 rw [<-qDx, ←qDx, ←qIn]
 refine qAh λi _ => ?_
 rw [<-qDx, ←qDx, ←qIn]
 refine qAh λj _ => ?_
 grind
end
theorem qKk{u ms:List Rat}{i:Nat}(h:i+u.length<=ms.length)(hu:0<u.length):coef (shL u ms) i=qIp u (ms.drop i) u.length:=by
 unfold shL
 rw [qCp,if_pos (by omega)]
theorem qAjq{ms:List Rat}(i:Nat):coef (shL [1] ms) i=coef ms i:=by
 by_cases h:i<ms.length
 ·rw [qKk (u:=[1]) (show i+1<=ms.length by omega) (by simp)]
  show 0+1*coef (ms.drop i) 0=_
  rw [qAv,Zah,Rat.one_mul,Nat.add_zero]
 ·rw [qAk (by rw [qW1];simp;omega),qAk (by omega)]
theorem qOw{ms:List Rat}{a:Rat}{i:Nat}(h:i+2<=ms.length):coef (shL [-a,1] ms) i=(-a)*coef ms i+1*coef ms (i+1):=by
 rw [qKk (by simpa using h) (by simp)]
 show (0 + -a*coef (ms.drop i) 0)+1*coef (ms.drop i) 1=_
 rw [qAv,qAv,Zah,Nat.add_zero]
theorem qAl0{ms:List Rat}{b:Rat}{i:Nat}(h:i+2<=ms.length):coef (shL [b, -1] ms) i=b*coef ms i+(-1)*coef ms (i+1):=by
 rw [qKk (by simpa using h) (by simp)]
 show (0+b*coef (ms.drop i) 0) + -1*coef (ms.drop i) 1=_
 rw [qAv,qAv,Zah,Nat.add_zero]
section
variable {N n:Nat} {ms:List Rat} {a b:Rat} {f g:Fu}
theorem qAfq(hf:Dg n f)(hg:Dg n g)(hn:2*n<=ms.length)(hN:n<=N):Bf (N+1) (coef (shL [-a,1] ms)) f g=Bf (N+1) (coef ms) (lF a f) g:=by
 rw [qDg (m':=λi=>(-a)*coef ms i+1*coef ms (i+1)) hf hg λi hi=>qOw (by omega),qAo7,qAkl (n:=N) (N:=N+1) (m:=λi=>coef ms (i+1)) (hf.mono (by omega)) (hg.mono (by omega)) (by omega),qAra (hf.mono hN) (hg.mono hN),Bf_l]
 grind
end
theorem kernel{rs:List Rat}{n N:Nat}(hN:n+1<=N)(h:∀ k,k<n->hS rs k≠0)(h0:hS rs n=0){f:Fu}(hf:Dg (n+1) f):Bf (N+1) (coef rs) (pS rs n) f=0:=by
 refine qAcz (n:=n+1) (λi hi => ?_) hf
 by_cases e:i=n
 ·subst e
  rw [<-qHn rs i (by omega),h0]
 ·exact orth hN h n (Za9 _) i n (by omega) (Za9 _)
end MR
namespace MR
open PySem PySem.Spec PyProof.Rows L2
open Ps
theorem qAcu(p:List Rat):pl (qF6 p)=dP (pl p):=ext' λk=>by
 show coef (qF6 p) k=((k:Rat)+1)*coef p (k+1)
 unfold qF6
 rw [qCp]
 split
 ·have:(((k+1:Nat):Int):Rat)=(k:Rat)+1:=by
   rw [Rat.intCast_natCast,Rat.natCast_add]
   rfl
  rw [this]
  grind
 ·rw [qAk (cs:=p) (by omega),Za1]
theorem qLy(p:List Rat):(qF6 p).length=p.length - 1:=by simp [qF6]
structure LotQ (p b:List Rat):Prop where
 n8:b.length<=8
 l:p.length=b.length+1
 t:qAm p=1
 pos:PosF b.length (goS (coef p) b.length (coef b))
theorem LotQ.mon{p b:List Rat}(h:LotQ p b):Mon b.length (pl p):=⟨by have:=qEp p;rw [h.l] at this;exact this,by
 have:=h.t
 rw [qB3,h.l] at this
 exact this⟩
theorem qTg:strip ([1]:List Rat)=[1]:=qCj (n:=0) rfl qHg
theorem qXq{p:List Rat}{s:Nat}(l:0<p.length)(l9:p.length<=100)(t:qAm p=1)(z:SzL s p)(s0:0<s)(hs:2*s+10<=900000)(he:Euc p (strip (qF6 p)) [1]):SqF p p:=by
 have tn:qAm p≠0:=by rw [t];exact qHg
 have c1:∀ k,coef [(1:Rat)] k=if k=0 then 1 else 0:=λk=>by
  cases k with
  | zero=>rfl
  | succ k=>rw [if_neg (by omega)];rfl
 have cv:∀ k n,conv (coef p) (coef [1]) n k=if k<n then coef p k else 0:=λk n=>by
  rw [qW9 (g:=coef [1]) (λj=>by rw [c1,if_neg (by omega)])]
  split
  ·rw [c1,if_pos rfl,Rat.mul_one]
  ·rfl
 have op:=okl (a:=p) (s:=s) (by omega) z s0 (by omega)
 refine ⟨[1],p,[],s,2,s+1,op,he, ?_,by rw [qF5 tn l];exact op, ?_⟩
 ·rw [qTg]
  refine ⟨qTg,by decide,λk => ?_,by decide,by simp,by omega,by decide,s0,by decide,z,λc hc=>by rw [Zai.mp hc];exact ⟨by decide,by decide⟩,λt k ht => ?_,by omega⟩
  ·rw [cv]
   show coef p k=_+(0:Rat)
   rw [Zac]
   split
   ·rfl
   ·exact qAk (by omega)
  ·show Sz _ (conv _ _ _ _+(0:Rat))
   rw [Zac,cv]
   split
   ·exact (z.coef s0 k).mono (by omega)
   ·exact qFz.mono (by omega)
 ·rw [qF5 tn l,qH1 tn l,qMv tn l,t]
  refine qC9 (by simp) λk => ?_
  unfold coef
  rw [Zae]
  cases p[k]? with
  | none=>rfl
  | some c=>show c=c / 1;grind
theorem qAg8{p b:List Rat}(h:LotQ p b){e:Nat}{D:Int}(zp:Cd e D p)(he:15*e+135<=40000):∃ l,SqF p p/\OkL p/\Stu p (strip (qF6 p)) l/\ChP (b.length+1) (p :: l):=by
 obtain ⟨n,hn⟩:∃ n,n=b.length:=⟨_,rfl⟩
 have n8:=h.n8
 have lp:=h.l
 have t:=h.t
 have mn:=h.mon
 have pos:=h.pos
 rw [<-hn] at n8 lp mn pos ⊢
 have tp:0<qAm p:=by rw [t];decide
 have zp1:SzL (15*(e+3)+90) p:=qKh λk=>(zp.sz k).mono (by omega)
 have op:OkL p:=okl (by omega) zp1 (by omega) (by omega)
 by_cases h0:n=0
 ·have l1:p.length=1:=by omega
  have ep:p=[1]:=by
   match p,l1 with
   | [x],_=>rw [show x=1 from t]
  have e1:strip (qF6 p)=[]:=by
   have:qF6 p=[]:=List.length_eq_zero_iff.mp (by rw [qLy];omega)
   rw [this];rfl
  have m1:qEe p=[1]:=by
   rw [ep,qMv (by show (1:Rat)≠0;exact qHg) (by decide)]
   show [(1:Rat) / 1]=[1]
   rw [show (1:Rat) / 1=1 by grind]
  have eu:Euc p (strip (qF6 p)) [1]:=by
   rw [e1, ←m1]
   exact Euc.nil op
  refine ⟨[],qXq (by omega) (by omega) t zp1 (by omega) (by omega) eu,op,by rw [e1];exact Stu.nil,p,[],rfl,by omega,tp, ?_⟩
  rw [h0];rfl
 ·have kd:Kd (pl p) n (goS (coef p) n (coef b)):=qZk mn (by omega)
  have hm:Hm n (pl p) (dP (pl p)):=qAl5 mn kd pos n8
  have dc:Dg n (dP (pl p)).c:=qAgc mn.d
  have td:qAm (qF6 p)≠0:=by
   rw [qB3,qLy,show p.length - 1 - 1=n - 1 by omega]
   have:coef (qF6 p) (n - 1)=(dP (pl p)).c (n - 1):=by rw [<-qAcu]
   rw [this]
   have s1:=qAbu mn dc hm n8 (by omega)
   exact Zan s1.tv
  have es:strip (qF6 p)=qF6 p:=qF5 td (by rw [qLy];omega)
  have zP:CdP (e+3) D (pl p):=⟨zp.pos,Zaf zp.le (qDe (by omega)),λi=>(zp.ov i).mono (qDe (by omega))⟩
  have zC:CdP (e+3) D (dP (pl p)):=⟨zp.pos,Zaf zp.le (qDe (by omega)),λi=>by
   by_cases hi:i<n
   ·obtain ⟨a,a1,a2⟩:=zp.ov (i+1)
    refine ⟨((i+1:Nat):Int)*a, ?_, ?_⟩
    ·show ((i:Rat)+1)*coef p (i+1)*(D:Rat)=_
     rw [Za7, ←a1,Rat.intCast_natCast,Rat.natCast_add]
     have:((1:Nat):Rat)=1:=rfl
     rw [this]
     grind
    ·rw [Zao,Int.natAbs_natCast,Nat.pow_add,Nat.mul_comm]
     exact Nat.mul_le_mul a2 (by omega)
   ·rw [dc i (by omega)]
    exact Ov.zero⟩
  have g:SgL n (pl p) (dP (pl p)) 1 (15*(e+3)+90) p (qF6 p):=by
   refine ⟨?_,by omega,by rw [qLy];omega,zp1,qKh λk => ?_⟩
   ·rw [qAcu]
    exact qAbu mn dc hm n8 (by omega)
   ·have:coef (qF6 p) k=(dP (pl p)).c k:=by rw [<-qAcu]
    rw [this]
    exact (qLt (zC.2.2 k) zC.1 zC.2.1).mono (by omega)
  obtain ⟨l,hl,cl⟩:=qApd (s:=15*(e+3)+90) mn dc hm n8 zP zC (Za9 _) (by omega) (n - 1) 1 p (qF6 p) rfl g
  have eu:=qAoh (s:=15*(e+3)+90) mn dc hm n8 zP zC (Za9 _) (by omega) (n - 1) 1 p (qF6 p) rfl g
  rw [<-es] at hl eu
  refine ⟨l,qXq (by omega) (by omega) t zp1 (by omega) (by omega) eu,op,hl,p,l,rfl,by omega,tp, ?_⟩
  rw [show n - 1+1=n by omega] at cl
  exact cl
theorem qOx{k:Nat}{l:List (List Rat)}(h:ChP k l):qAgr l none:=λv hv=>⟨(h.pos v hv).1,λy z=>nomatch z⟩
theorem qAgm{cs:List Str}{p b:List Rat}(h:LotQ p b){e:Nat}{dd:Int}(zp:Cd e dd p)(he:15*e+135<=40000){P:D->Prop}{X:XP}(k:P (.int (b.length:Int))):qAdb cs [.poly p, .non, .non] P X:=by
 obtain ⟨l,sq,op,st,ch⟩:=qAg8 h zp he
 have hl:=ch.len
 have n8:=h.n8
 have lp:=h.l
 have pn:p≠[]:=λz=>by rw [z] at lp;simp at lp
 have ck:ChOk p none none (p :: l):=⟨p,l,sq,op,st,by simp at hl;omega,rfl,qOx ch,qOx ch⟩
 refine ⟨p, .non, .non,rfl, .inr ⟨pn, .inr ⟨none,rfl, .inr ⟨none,rfl,λx y z=>(nomatch z),λz=>absurd (λx y q=>nomatch q) z,λ_=>⟨λx z=>(nomatch z),λx y z=>(nomatch z),λz=>absurd (λx y q=>nomatch q) z,λ_=>⟨p :: l,ck,_,rfl, ?_⟩⟩⟩⟩⟩⟩
 rw [qAgv ch,Int.add_zero]
 exact k
theorem qAfx{m:Nat->Rat}{n:Nat}{ms:List Rat}(hn:n<=30)(hl:ms.length<=2*n)(e:∀ i,i<ms.length->coef ms i=m i)(h:PosF n m):qAp (goN ms [[1]] ms.length 0)=none:=by
 refine List.find?_eq_none.mpr λs hs => ?_
 obtain ⟨u,i,hu,ho,_,hi,rfl,hw⟩:=qAie (fs:=[[1]]) (λu hu=>by rw [Zai.mp hu];decide) ms.length 0 (λu hu j hj=>by
  rw [Zai.mp hu,qAhv (by decide)] at hj;omega) s hs
 rw [Zai.mp hu]
 rw [Zai.mp hu] at ho
 have c:qG5 [1] i=i / 2:=by
  unfold qG5
  have:=ho.2
  simp only [Za0,List.length_nil] at this ⊢
  omega
 have i2:i % 2=0:=by have:=ho.2;simp only [Za0,List.length_nil] at this;omega
 have:0<hS (shL [1] ms) (i / 2):=by
  rw [qHn (shL [1] ms) (i / 2) (N:=64) (by omega),qDg (n:=i / 2+1) (m':=m) (qAy _ _) (qAy _ _) (λk hk=>by rw [qAjq,e k (by omega)]),qTs (n:=i / 2+1) (k:=i / 2+1) (qAy _ _) (qAy _ _) (by omega) (by omega) (by omega) (by omega)]
  exact h ⟨pS (shL [1] ms) (i / 2)⟩ ((qAy (shL [1] ms) (i / 2)).mono (by omega)) ⟨i / 2,by show pS _ (i / 2) (i / 2)≠0;rw [qB9];exact qHg⟩
 have e2:qXi (qHf ms [1] i)=true:=by
  unfold qXi qHf
  rw [c]
  exact decide_eq_true this
 rw [e2]
 decide
theorem qAoi{cs:List Str}{p b:List Rat}(h:LotQ p b){e:Nat}{dd:Int}(zp:Cd e dd p)(he:15*e+135<=40000){c:Nat}{M:Int}(zr:Cd c M (qOq p b (2*b.length - 1)))(hc:c<=4900){d:D}{items:List D}(hd:itD d=some items)(hq:qDf items=some b){P:D->Prop}{X:XP}(k:P (LotD p b)):qAic cs [.poly p,d] P X:=by
 have n8:=h.n8
 have lp:=h.l
 have zs:=zp.szL
 have li:items.length=b.length:=by
  have:∀ (is:List D) (qs:List Rat),qDf is=some qs->is.length=qs.length:=by
   intro is
   induction is with
   | nil=>intro qs e;cases e;rfl
   | cons x is ih=>
    intro qs e
    simp only [qDf] at e
    split at e
    ·rename_i q' qs' h1 h2
     cases e
     rw [Za0,Za0,ih _ h2]
    ·cases e
  exact this _ _ hq
 refine ⟨p,d,rfl,⟨e+1,1,by rw [qB3];exact zp.sz _,⟨by decide,by decide⟩,by omega⟩,λz=>absurd ⟨h.t,by omega⟩ z,λ_=>qAgm h zp he ⟨b.length,rfl,λz=>absurd (by omega) z,λ_ => ?_⟩⟩
 refine ⟨p,d,rfl, .inr ⟨items,hd,by omega, .inr ⟨by omega, .inl ⟨b,hq,b,rfl,λ_=>k,λhb => ?_⟩⟩⟩⟩
 have hl:0<b.length:=List.length_pos_iff.mpr hb
 have co:ContOk p b (2*b.length - 1):=⟨by omega,by omega,by omega,e+1,c+1,zs,λk hk=>by rw [<-qK1 hk];exact zr.sz k,by omega,by omega,by omega⟩
 have cl:=qS9 p b (2*b.length - 1)
 refine ⟨co,⟨7,0,c,⟨by decide,by omega,⟨M,zr⟩,λu hu=>by rw [Zai.mp hu];exact ⟨by decide,by decide,1,qAjz⟩, ?_⟩⟩,λ_=>k,λz=>absurd ?_ z⟩
 ·show 24*((0+c+4+5)*7+1)+10*(0+c+4)+200<=900000
  omega
 ·have:=qAfx (ms:=qOq p b (2*b.length - 1)) (n:=b.length) (m:=goS (coef p) b.length (coef b)) (by omega) (by omega) (λi hi=>qK1 (by omega)) h.pos
  rw [cl] at this
  exact this
theorem qH7(x:Rat)(i:Nat):∀ j,x ^ (i+j)=x ^ i*x ^ j
 | 0=>by rw [Nat.add_zero,Rat.pow_zero,Rat.mul_one]
 | j+1=>by rw [<-Nat.add_assoc,Rat.pow_succ,Rat.pow_succ,qH7 x i j,Rat.mul_assoc]
def ev(x:Rat)(f:Ps):Rat:=La (λi=>x ^ i) f
theorem qHh{x:Rat}{f g:Ps}{n k:Nat}(hf:Dg n f.c)(hg:Dg k g.c)(h:n+k<=65)(hn:n<=64):ev x (f*g)=ev x f*ev x g:=by
 unfold ev
 rw [qLo hg n f _ hf h,qCk hf hn]
 have e:∀ i,La (λj=>x ^ (i+j)) g=La (λj=>x ^ j) g*x ^ i:=λi=>by
  have:La (λj=>x ^ (i+j)) g=x ^ i*La (λj=>x ^ j) g:=by
   unfold La
   rw [<-qDx]
   exact qAh λj _=>by show _*x ^ (i+j)=x ^ i*(_*x ^ j);rw [qH7];grind
  rw [this];grind
 have:sm n (λi=>f.c i*x ^ i)*La (λj=>x ^ j) g=La (λj=>x ^ j) g*sm n (λi=>f.c i*x ^ i):=by grind
 rw [this, ←qDx]
 exact qAh λi _=>by rw [e];grind
def qLr(a:Rat):Ps:=X - cst a
theorem qM9(a:Rat)(i:Nat):(qLr a).c i=if i=0 then -a else if i=1 then 1 else 0:=by
 show (X - cst a).c i=_
 rw [qGp,qIb]
 show (if i=1 then (1:Rat) else 0) - _=_
 by_cases h:i=0
 ·rw [h,if_neg (by omega),if_pos rfl,if_pos rfl];grind
 ·rw [if_neg h,if_neg h]
  split <;> grind
theorem qGs(a:Rat):Mon 1 (qLr a):=⟨λi hi=>by rw [qM9,if_neg (by omega),if_neg (by omega)],by rw [qM9,if_neg (by omega),if_pos rfl]⟩
theorem qPg(x a:Rat):ev x (qLr a)=x - a:=by
 unfold ev
 rw [qCk (qGs a).d (by decide)]
 show (0:Rat)+(qLr a).c 0*x ^ 0+(qLr a).c 1*x ^ 1=_
 rw [qM9,qM9,if_pos rfl,if_neg (by omega),if_pos rfl,Rat.pow_zero,Rat.pow_succ,Rat.pow_zero]
 grind
theorem qYs(x:Rat)(f g:Ps):ev x (f+g)=ev x f+ev x g:=qCm f g
theorem qAle(x:Rat):ev x 0=0:=qQp
theorem qAis(x:Rat):ev x 1=1:=by
 unfold ev
 rw [qCk (f:=1) (n:=1) (λi hi=>by rw [qJ9,if_neg (by omega)]) (by decide)]
 show (0:Rat)+(1:Ps).c 0*x ^ 0=1
 rw [qJ9,if_pos rfl,Rat.pow_zero]
 grind
theorem qMf{x:Rat}{r:Ps}(h:Dg 1 r.c):ev x r=r.c 0:=by
 unfold ev
 rw [qCk h (by decide)]
 show (0:Rat)+r.c 0*x ^ 0=_
 rw [Rat.pow_zero];grind
theorem qAgk{f:Ps}{n:Nat}{a:Rat}(hf:Dg (n+1) f.c)(hn:n<=30)(h:ev a f=0):∃ g,Dg n g.c/\f=g*qLr a:=by
 obtain ⟨Q,r,dQ,dr,e⟩:=qRq (qGs a) n f (by rw [Nat.add_comm];exact hf)
 have e2:ev a f=ev a Q*ev a (qLr a)+r.c 0:=by
  rw [e,qYs,qHh dQ (qGs a).d (by omega) (by omega),qMf dr]
 rw [qPg,h] at e2
 have r0:r=0:=qFe λi=>by
  cases i with
  | zero=>grind
  | succ i=>exact dr (i+1) (by omega)
 refine ⟨Q,dQ, ?_⟩
 rw [e,r0];grind
theorem qH4:∀ (xs:List Rat) (f:Ps),xs.Pairwise (· ≠ ·)->xs.length<=30->Dg xs.length f.c->(∀ x,x∈xs->ev x f=0)->f=0
 | [],f,_,_,hf,_=>qFe λi=>hf i (by simp)
 | a :: xs,f,hd,hl,hf,h=>by
  rw [Za0] at hl hf
  obtain ⟨g,dg,e⟩:=qAgk hf (by omega) (h a Zad)
  obtain ⟨h1,h2⟩:=List.pairwise_cons.mp hd
  have g0:g=0:=qH4 xs g h2 (by omega) dg λx hx=>by
   have:=h x (Zab _ hx)
   rw [e,qHh dg (qGs a).d (by omega) (by omega),qPg] at this
   rcases Rat.mul_eq_zero.mp this with z | z
   ·exact z
   ·exact absurd (by grind) (h1 x hx)
  rw [e,g0];grind
def qI8:List Rat->Ps
 | []=>1
 | a :: xs=>qLr a*qI8 xs
theorem qAmw{n m:Nat}{f g:Ps}(hf:Mon n f)(hg:Mon m g):Mon (n+m) (f*g):=⟨qA3 hf.d hg.d (by omega),by rw [mul_top hf.d hg.d,hf.t,hg.t,Rat.mul_one]⟩
theorem qGb:∀ xs:List Rat,Mon xs.length (qI8 xs)
 | []=>⟨λi hi=>by
   have:1<=i:=by simpa using hi
   show (1:Ps).c i=0;rw [qJ9,if_neg (by omega)],by show (1:Ps).c 0=1;rw [qJ9,if_pos rfl]⟩
 | a :: xs=>by
  rw [Za0,Nat.add_comm]
  exact qAmw (qGs a) (qGb xs)
theorem qNr:∀ {xs:List Rat} {x:Rat},xs.length<=30->x∈xs->ev x (qI8 xs)=0
 | a :: xs,x,hl,hx=>by
  rw [Za0] at hl
  show ev x (qLr a*qI8 xs)=0
  rw [qHh (qGs a).d (qGb xs).d (by omega) (by omega),qPg]
  rcases List.mem_cons.mp hx with rfl | hx
  ·rw [Rat.sub_self,Za2]
  ·rw [qNr (by omega) hx,Za1]
def qEn:List (Rat × Rat)->Nat->Rat
 | [],_=>0
 | p :: ps,k=>p.2*p.1 ^ k+qEn ps k
def wsum(g:Rat->Rat):List (Rat × Rat)->Rat
 | []=>0
 | p :: ps=>p.2*g p.1+wsum g ps
theorem qS8(f:Ps):∀ ps:List (Rat × Rat),La (qEn ps) f=wsum (λx=>ev x f) ps
 | []=>by
  show sm 64 (λi=>f.c i*0)=0
  exact qB0 λi _=>Za1 _
 | p :: ps=>by
  show La (λk=>p.2*p.1 ^ k+qEn ps k) f=p.2*ev p.1 f+wsum _ ps
  rw [<-qS8 f ps]
  unfold La ev La
  rw [<-qDx, ←qIn]
  exact qAh λi _=>by grind
theorem qN0{g:Rat->Rat}:∀ {ps:List (Rat × Rat)},(∀ p,p∈ps->g p.1=0)->wsum g ps=0
 | [],_=>rfl
 | p :: ps,h=>by
  show p.2*g p.1+wsum g ps=0
  rw [h p Zad,qN0 λq hq=>h q (Zab _ hq),Za1,Zac]
theorem qSt(k:Nat):∀ ps:List (Rat × Rat),(λj=>qEn ps (k+j))=qEn (ps.map λp=>(p.1,p.2*p.1 ^ k))
 | []=>rfl
 | p :: ps=>funext λj=>by
  show p.2*p.1 ^ (k+j)+qEn ps (k+j)=p.2*p.1 ^ k*p.1 ^ j+qEn _ j
  have:=congrFun (qSt k ps) j
  rw [<-this,qH7]
  grind
theorem qAnu{ps:List (Rat × Rat)}(hl:ps.length<=30):Kd (qI8 (ps.map Prod.fst)) ps.length (qEn ps):=λk=>by
 have mn:=qGb (ps.map Prod.fst)
 rw [Za6] at mn
 have e:sm (ps.length+1) (λi=>(qI8 (ps.map Prod.fst)).c i*qEn ps (k+i))=La (λj=>qEn ps (k+j)) (qI8 (ps.map Prod.fst)):=(qCk mn.d (by omega)).symm
 rw [e,qSt,qS8]
 refine qN0 λp hp => ?_
 obtain ⟨q,hq,rfl⟩:=List.mem_map.mp hp
 exact qNr (by rw [Za6];exact hl) (List.mem_map.mpr ⟨q,hq,rfl⟩)
theorem qHu{g:Rat->Rat}:∀ {ps:List (Rat × Rat)},(∀ p,p∈ps->0<p.2/\0<=g p.1)->0<=wsum g ps/\((∃ p,p∈ps/\g p.1≠0)->0<wsum g ps)
 | [],_=>⟨Rat.le_refl,λ⟨p,hp,_⟩=>nomatch hp⟩
 | p :: ps,h=>by
  obtain ⟨i1,i2⟩:=qHu (g:=g) (ps:=ps) λq hq=>h q (Zab _ hq)
  obtain ⟨h1,h2⟩:=h p Zad
  have h3:0<=p.2*g p.1:=Zal (Rat.le_of_lt h1) h2
  refine ⟨by show 0<=p.2*g p.1+wsum g ps;grind,λ⟨q,hq,hz⟩ => ?_⟩
  show 0<p.2*g p.1+wsum g ps
  by_cases z:g p.1=0
  ·rcases List.mem_cons.mp hq with rfl | hq
   ·exact absurd z hz
   ·have:=i2 ⟨q,hq,hz⟩
    grind
  ·have:0<g p.1:=by grind
   have:=Rat.mul_pos h1 this
   grind
theorem qAlt{ps:List (Rat × Rat)}(hl:ps.length<=30)(hd:(ps.map Prod.fst).Pairwise (· ≠ ·))(hw:∀ p,p∈ps->0<p.2):PosF ps.length (qEn ps):=λf hf nz=>by
 rw [qS8]
 have e:∀ x,ev x (f*f)=ev x f*ev x f:=λx=>qHh hf hf (by omega) (by omega)
 refine (qHu λp hp=>⟨hw p hp,by rw [e];exact qAcw _⟩).2 ?_
 refine Za5 λno => ?_
 have:f=0:=qH4 (ps.map Prod.fst) f hd (by rw [Za6];exact hl) (by rw [Za6];exact hf) λx hx=>by
  obtain ⟨p,hp,rfl⟩:=List.mem_map.mp hx
  refine Za5 λz=>no ⟨p,hp, ?_⟩
  show ev p.1 (f*f)≠0
  rw [e]
  exact Zan (qAjm z)
 obtain ⟨i,hi⟩:=nz
 rw [this,qFi] at hi
 exact hi rfl
theorem qAls{ps:List (Rat × Rat)}{p b:List Rat}(hl:ps.length<=8)(hd:(ps.map Prod.fst).Pairwise (· ≠ ·))(hw:∀ q,q∈ps->0<q.2)(lp:p.length=ps.length+1)(hp:∀ k,coef p k=(qI8 (ps.map Prod.fst)).c k)(lb:b.length=ps.length)(hb:∀ k,k<ps.length->coef b k=qEn ps k) :
  LotQ p b/\∀ k,goS (coef p) b.length (coef b) k=qEn ps k:=by
 have mn:=qGb (ps.map Prod.fst)
 rw [Za6] at mn
 have ep:pl p=qI8 (ps.map Prod.fst):=ext' hp
 have ec:coef p=(qI8 (ps.map Prod.fst)).c:=funext hp
 have eg:∀ k,goS (coef p) b.length (coef b) k=qEn ps k:=by
  by_cases h0:ps.length=0
  ·have p0:ps=[]:=List.length_eq_zero_iff.mp h0
   have b0:b=[]:=List.length_eq_zero_iff.mp (by omega)
   intro k
   rw [b0,p0]
   exact qAn8 _ _ rfl k
  ·rw [ec,lb]
   exact qAcd mn (qZk mn (by omega)) (qAnu (by omega)) λi hi=>by rw [qJ3 hi,hb i hi]
 refine ⟨⟨by omega,by omega, ?_, ?_⟩,eg⟩
 ·rw [qB3,lp,hp]
  exact mn.t
 ·rw [show goS (coef p) b.length (coef b)=qEn ps from funext eg,lb]
  exact qAlt (by omega) hd hw
structure LotV (xs ws:List Int) (b c:Int):Prop where
 l:xs.length=ws.length
 l8:xs.length<=8
 nd:xs.Pairwise (· ≠ ·)
 x:∀ x,x∈xs->x.natAbs<2 ^ 44
 w:∀ w,w∈ws->0<w/\w.natAbs<2 ^ 44
 b0:0<b
 b1:b.natAbs<2 ^ 12
 c0:0<c
 c1:c.natAbs<2 ^ 12
def qDr:List Int->List Int->Int->Int->List (Rat × Rat)
 | x :: xs,w :: ws,b,c=>(Za4 x b,Za4 w c) :: qDr xs ws b c
 | _,_,_,_=>[]
theorem qI7:∀ {xs ws:List Int} {b c:Int},xs.length=ws.length->(qDr xs ws b c).length=xs.length
 | [],[],_,_,_=>rfl
 | x :: xs,w :: ws,b,c,h=>by
  simp only [Za0,Nat.add_right_cancel_iff] at h
  show (qDr xs ws b c).length+1=xs.length+1
  rw [qI7 h]
theorem qVe:∀ {xs ws:List Int} {b c:Int},xs.length=ws.length->(qDr xs ws b c).map Prod.fst=xs.map (Za4 · b)
 | [],[],_,_,_=>rfl
 | x :: xs,w :: ws,b,c,h=>by
  simp only [Za0,Nat.add_right_cancel_iff] at h
  show Za4 x b :: (qDr xs ws b c).map Prod.fst=_
  rw [qVe h]
  rfl
theorem qAbl:∀ {xs ws:List Int} {b c:Int},xs.length=ws.length->(qDr xs ws b c).map Prod.snd=ws.map (Za4 · c)
 | [],[],_,_,_=>rfl
 | x :: xs,w :: ws,b,c,h=>by
  simp only [Za0,Nat.add_right_cancel_iff] at h
  show Za4 w c :: (qDr xs ws b c).map Prod.snd=_
  rw [qAbl h]
  rfl
theorem qYg:∀ {xs ws:List Int} {b c x w:Int},xs.length=ws.length->qDr (xs ++ [x]) (ws ++ [w]) b c=qDr xs ws b c ++ [(Za4 x b,Za4 w c)]
 | [],[],_,_,_,_,_=>rfl
 | x :: xs,w :: ws,b,c,_,_,h=>by
  simp only [Za0,Nat.add_right_cancel_iff] at h
  show _ :: qDr (xs ++ [_]) (ws ++ [_]) b c=_
  rw [qYg h]
  rfl
def qKb:List Int->List Int->Nat->Int
 | x :: xs,w :: ws,k=>w*x ^ k+qKb xs ws k
 | _,_,_=>0
theorem qL2:∀ {xs ws:List Int} (k:Nat),xs.length=ws.length->(qTa ws xs k).sum=qKb xs ws k
 | [],[],k,_=>rfl
 | x :: xs,w :: ws,k,h=>by
  simp only [Za0,Nat.add_right_cancel_iff] at h
  have e:qTa (w :: ws) (x :: xs) k=(w*x ^ k) :: qTa ws xs k:=by
   unfold qTa
   rw [Za0,List.range_succ_eq_map,List.map_cons,List.map_map]
   rfl
  rw [e,List.sum_cons,qL2 k h]
  rfl
theorem qEi(x:Int):∀ k:Nat,((x ^ k:Int):Rat)=(x:Rat) ^ k
 | 0=>by rw [Int.pow_zero,Rat.pow_zero];rfl
 | k+1=>by rw [Int.pow_succ,Rat.pow_succ,Za7,qEi x k]
theorem qXw(x y:Rat):∀ k:Nat,(x*y) ^ k=x ^ k*y ^ k
 | 0=>by rw [Rat.pow_zero,Rat.pow_zero,Rat.pow_zero,Rat.mul_one]
 | k+1=>by rw [Rat.pow_succ,Rat.pow_succ,Rat.pow_succ,qXw x y k];grind
theorem qUx{x:Rat}(h:x≠0):∀ k:Nat,x ^ k≠0
 | 0=>by rw [Rat.pow_zero];exact qHg
 | k+1=>by
  rw [Rat.pow_succ]
  intro z
  rcases Rat.mul_eq_zero.mp z with z | z
  ·exact qUx h k z
  ·exact h z
theorem qM8{b c:Int}(b0:0<b)(c0:0<c)(k:Nat):∀ {xs ws:List Int},xs.length=ws.length->qEn (qDr xs ws b c) k=((qKb xs ws k:Int):Rat) / ((c*b ^ k:Int):Rat)
 | [],[],_=>by
  show (0:Rat)=((0:Int):Rat) / _
  rw [Rat.intCast_zero,Rat.div_def,Za2]
 | x :: xs,w :: ws,h=>by
  simp only [Za0,Nat.add_right_cancel_iff] at h
  show Za4 w c*Za4 x b ^ k+qEn (qDr xs ws b c) k=((w*x ^ k+qKb xs ws k:Int):Rat) / _
  rw [qM8 b0 c0 k h,Za8,Za8,Rat.intCast_add,Za7,Za7,qEi,qEi]
  have nb:=qEa b0
  have nc:=qEa c0
  have np:=qUx nb k
  have e:((x:Rat) / (b:Rat)) ^ k*(b:Rat) ^ k=(x:Rat) ^ k:=by
   rw [<-qXw]
   congr 1
   grind
  generalize (b:Rat) ^ k=B at *
  generalize ((x:Rat) / (b:Rat)) ^ k=Y at *
  rw [<-e]
  grind
theorem qU2{xs ws:List Int}{b c:Int}(h:xs.length=ws.length)(b0:0<b)(c0:0<c)(k:Nat):qCs (qAho xs ws b c k)=qEn (qDr xs ws b c) k:=by
 rw [qM8 b0 c0 k h, ←qL2 k h]
 show Za4 _ _=_
 rw [Za8]
 rfl
theorem qMz{n m:Nat}:∀ {xs ws:List Int} (k:Nat),(∀ x,x∈xs->x.natAbs<2 ^ m)->(∀ w,w∈ws->w.natAbs<2 ^ n)->(qKb xs ws k).natAbs<=xs.length*2 ^ (n+(m*k+1))
 | [],_,k,_,_=>by unfold qKb;simp
 | x :: xs,[],k,_,_=>by unfold qKb;simp
 | x :: xs,w :: ws,k,hx,hw=>by
  have h1:=qIy (hw w Zad) (qO4 (hx x Zad) k)
  have h2:=qMz k (λy hy=>hx y (Zab _ hy)) (λy hy=>hw y (Zab _ hy))
  show (w*x ^ k+qKb xs ws k).natAbs<=_
  rw [Za0,Nat.add_mul,Nat.one_mul]
  omega
section
variable {xs ws:List Int} {b c:Int}
theorem LotV.num(h:LotV xs ws b c){k:Nat}(hk:k<=61):SzP 2750 (qAho xs ws b c k):=by
 have s:=qMz (n:=44) (m:=44) k h.x λw hw=>(h.w w hw).2
 refine ⟨?_, ?_,Int.mul_pos h.c0 (Int.pow_pos h.b0)⟩
 ·show (qTa ws xs k).sum.natAbs<_
  rw [qL2 k h.l]
  have p0:2 ^ (44+(44*k+1))<=2 ^ 2740:=Zaa (by decide) (by omega)
  have l8:=h.l8
  have:xs.length*2 ^ (44+(44*k+1))<=8*2 ^ 2740:=Nat.mul_le_mul l8 p0
  have e:2 ^ 2750=1024*2 ^ 2740:=by rw [show 2750=10+2740 by rfl,Nat.pow_add]
  have pos:0<2 ^ 2740:=Nat.pow_pos (by decide)
  rw [e]
  generalize 2 ^ 2740=Z at *
  omega
 ·have:=qIy (n:=12) (m:=12*k+1) h.c1 (qO4 (m:=12) h.b1 k)
  exact Zam this (Zaa (by decide) (by omega))
theorem LotV.take(h:LotV xs ws b c)(i:Nat):LotV (xs.take i) (ws.take i) b c:=⟨by rw [Zaj,Zaj,h.l],by rw [Zaj];have:=h.l8;omega,h.nd.sublist (List.take_sublist _ _),λx hx=>h.x x (List.mem_of_mem_take hx),λw hw=>h.w w (List.mem_of_mem_take hw),h.b0,h.b1,h.c0,h.c1⟩
theorem qZ8{x y b:Int}(h:0<b)(e:Za4 x b=Za4 y b):x=y:=by
 rw [Za8,Za8] at e
 have nb:=qEa h
 have:(x:Rat)=(y:Rat):=by grind
 exact Rat.intCast_inj.mp this
theorem LotV.dist(h:LotV xs ws b c):((qDr xs ws b c).map Prod.fst).Pairwise (· ≠ ·):=by
 rw [qVe h.l]
 exact List.Pairwise.map _ (λx y hxy e=>hxy (qZ8 h.b0 e)) h.nd
theorem qZh{x b:Int}(h:0<x)(b0:0<b):0<Za4 x b:=by
 rw [Za8,Rat.div_def]
 exact Rat.mul_pos (qQ0.mpr h) (Rat.inv_pos.mpr (qQ0.mpr b0))
theorem LotV.posW(h:LotV xs ws b c):∀ q,q∈qDr xs ws b c->0<q.2:=λq hq=>by
 have:q.2∈(qDr xs ws b c).map Prod.snd:=List.mem_map_of_mem hq
 rw [qAbl h.l] at this
 obtain ⟨w,hw,e⟩:=List.mem_map.mp this
 rw [<-e]
 exact qZh (h.w w hw).1 h.c0
end
def pL(ps:List (Rat × Rat)):List Rat:=(Zag (ps.length+1)).map (qI8 (ps.map Prod.fst)).c
def bL(ps:List (Rat × Rat)):List Rat:=(Zag ps.length).map (qEn ps)
theorem qSm(ps:List (Rat × Rat)):(pL ps).length=ps.length+1:=by simp [pL]
theorem qAiv(ps:List (Rat × Rat)):(bL ps).length=ps.length:=by simp [bL]
theorem qAh3(ps:List (Rat × Rat)):Mon ps.length (qI8 (ps.map Prod.fst)):=by
 have:=qGb (ps.map Prod.fst)
 rw [Za6] at this
 exact this
theorem qKo(ps:List (Rat × Rat))(k:Nat):coef (pL ps) k=(qI8 (ps.map Prod.fst)).c k:=by
 unfold pL
 rw [qCp]
 split
 ·rfl
 ·exact ((qAh3 ps).d k (by omega)).symm
theorem qAj6{ps:List (Rat × Rat)}{k:Nat}(h:k<ps.length):coef (bL ps) k=qEn ps k:=by
 unfold bL
 rw [qCp,if_pos h]
theorem qAgq{ps:List (Rat × Rat)}(hl:ps.length<=8)(hd:(ps.map Prod.fst).Pairwise (· ≠ ·))(hw:∀ q,q∈ps->0<q.2):LotQ (pL ps) (bL ps)/\∀ k,goS (coef (pL ps)) (bL ps).length (coef (bL ps)) k=qEn ps k:=
 qAls hl hd hw (qSm ps) (qKo ps) (qAiv ps) λk hk=>qAj6 hk
theorem qOu:∀ xs ys:List Rat,qI8 (xs ++ ys)=qI8 xs*qI8 ys
 | [],ys=>by show qI8 ys=1*qI8 ys;grind
 | x :: xs,ys=>by
  show qLr x*qI8 (xs ++ ys)=qLr x*qI8 xs*qI8 ys
  rw [qOu xs ys]
  grind
theorem qAlk(ps:List (Rat × Rat))(x w:Rat):strip (qBc (pL ps) [-x,1])=pL (ps ++ [(x,w)]):=by
 have e:∀ k,coef (qBc (pL ps) [-x,1]) k=coef (pL (ps ++ [(x,w)])) k:=λk=>by
  have h1:coef (qBc (pL ps) [-x,1]) k=(pl (pL ps)*pl [-x,1]).c k:=by rw [<-qUa]
  have h2:pl (pL ps)=qI8 (ps.map Prod.fst):=ext' (qKo ps)
  have h3:pl [-x,1]=qLr x:=ext' λi=>by
   rw [qM9]
   match i with
   | 0=>rfl
   | 1=>rfl
   | i+2=>rw [if_neg (by omega),if_neg (by omega)];rfl
  rw [h1,h2,h3,qKo,List.map_append,qOu]
  show _=(_*(qLr x*1)).c k
  rw [show qLr x*1=qLr x by grind]
 have ln:(pL (ps ++ [(x,w)])).length=ps.length+1+1:=by rw [qSm,List.length_append];rfl
 have nz:coef (pL (ps ++ [(x,w)])) (ps.length+1)≠0:=by
  have:=(qAh3 (ps ++ [(x,w)])).t
  rw [List.length_append] at this
  rw [qKo]
  show (qI8 _).c (ps.length+1)≠0
  rw [show (qI8 (List.map Prod.fst (ps ++ [(x,w)]))).c (ps.length+1)=1 from this]
  exact qHg
 have s1:strip (pL (ps ++ [(x,w)]))=pL (ps ++ [(x,w)]):=qCj ln nz
 rw [<-s1]
 exact qYr e
theorem qSb{xs:List Int}{i:Nat}(h:i<xs.length):xs.take (i+1)=xs.take i ++ [xs.getD i 0]:=by
 rw [Zak,Za3 h,List.take_succ_eq_append_getElem h]
 rfl
section
variable {xs ws:List Int} {b c:Int}
theorem LotV.takeS(h:LotV xs ws b c){i:Nat}(hi:i<xs.length):qDr (xs.take (i+1)) (ws.take (i+1)) b c=qDr (xs.take i) (ws.take i) b c ++ [(Za4 (xs.getD i 0) b,Za4 (ws.getD i 0) c)]:=by
 rw [qSb hi,qSb (by rw [<-h.l];exact hi),qYg (by rw [Zaj,Zaj,h.l])]
theorem qApe{x b:Int}(b0:0<b)(b1:b.natAbs<2 ^ 12)(hx:x.natAbs<2 ^ 44):Cd 44 b [-Za4 x b,1]:=by
 have nb:=qEa b0
 refine ⟨b0,by omega,λi => ?_⟩
 match i with
 | 0=>
  refine ⟨-x, ?_,by rw [Int.natAbs_neg];omega⟩
  show -Za4 x b*(b:Rat)=_
  rw [Za8,Rat.intCast_neg]
  grind
 | 1=>exact ⟨b,by show (1:Rat)*_=_;rw [Rat.one_mul],by omega⟩
 | i+2=>exact Ov.zero
theorem LotV.cdT(h:LotV xs ws b c):∀ i,i<=xs.length->∃ dd,Cd (48*i) dd (pL (qDr (xs.take i) (ws.take i) b c))
 | 0,_=>⟨1,by
  have:pL (qDr (xs.take 0) (ws.take 0) b c)=[1]:=by
   show pL []=[1]
   refine qC9 (by rw [qSm];rfl) λk => ?_
   rw [qKo]
   show (1:Ps).c k=_
   rw [qJ9]
   cases k with
   | zero=>rfl
   | succ k=>rw [if_neg (by omega)];rfl
  rw [this]
  exact qAjz⟩
 | i+1,hi=>by
  obtain ⟨dd,hd⟩:=h.cdT i (by omega)
  have l8:=h.l8
  have hl:=h.l
  have g:=qApe h.b0 h.b1 (h.x _ (qM3 (i:=i) (by omega)))
  refine ⟨dd*b, ?_⟩
  rw [h.takeS (by omega), ←qAlk]
  have:=(hd.mul g (by rw [qSm,qI7 (by rw [Zaj,Zaj,hl]),Zaj];omega)).strip
  exact this.mono (by omega)
theorem LotV.cdP(h:LotV xs ws b c):∃ dd,Cd 384 dd (pL (qDr xs ws b c)):=by
 obtain ⟨dd,hd⟩:=h.cdT xs.length (Za9 _)
 rw [List.take_length,show ws.take xs.length=ws by rw [h.l,List.take_length]] at hd
 have l8:=h.l8
 exact ⟨dd,hd.mono (by omega)⟩
theorem LotV.lotQ(h:LotV xs ws b c):LotQ (pL (qDr xs ws b c)) (bL (qDr xs ws b c))/\∀ k,goS (coef (pL (qDr xs ws b c))) (bL (qDr xs ws b c)).length (coef (bL (qDr xs ws b c))) k=qEn (qDr xs ws b c) k:=
 qAgq (by rw [qI7 h.l];exact h.l8) h.dist h.posW
theorem LotV.cdR(h:LotV xs ws b c){N:Nat}(hN:N<=15):∃ M,Cd 840 M (qOq (pL (qDr xs ws b c)) (bL (qDr xs ws b c)) N):=by
 have q:=h.lotQ.2
 have nb:=qEa h.b0
 have nc:=qEa h.c0
 have pb:∀ k,(b ^ k).natAbs<2 ^ (12*k+1):=qO4 h.b1
 refine ⟨c*b ^ 14,Int.mul_pos h.c0 (Int.pow_pos h.b0), ?_,λk => ?_⟩
 ·have:=qIy (n:=12) (m:=12*14+1) h.c1 (pb 14)
  exact Nat.le_of_lt (Zam this (Zaa (by decide) (by decide)))
 ·by_cases hk:k<N
  ·rw [qK1 hk,q,qM8 h.b0 h.c0 k h.l]
   refine ⟨qKb xs ws k*b ^ (14 - k), ?_, ?_⟩
   ·have e:(c*b ^ 14:Int)=c*b ^ k*b ^ (14 - k):=by
     rw [Int.mul_assoc, ←Int.pow_add,show k+(14 - k)=14 by omega]
    have np:((c*b ^ k:Int):Rat)≠0:=qEa (Int.mul_pos h.c0 (Int.pow_pos h.b0))
    rw [e,Za7 (c*b ^ k),Za7 (qKb xs ws k)]
    grind
   ·have s:=qMz (n:=44) (m:=44) k h.x λw hw=>(h.w w hw).2
    have p0:2 ^ (44+(44*k+1))<=2 ^ 661:=Zaa (by decide) (by omega)
    have l8:=h.l8
    have s2:(qKb xs ws k).natAbs<2 ^ 665:=by
     have:xs.length*2 ^ (44+(44*k+1))<=8*2 ^ 661:=Nat.mul_le_mul l8 p0
     have e:2 ^ 665=16*2 ^ 661:=by rw [show 665=4+661 by rfl,Nat.pow_add]
     have pos:0<2 ^ 661:=Nat.pow_pos (by decide)
     rw [e]
     generalize 2 ^ 661=Z at *
     omega
    have s3:(b ^ (14 - k)).natAbs<2 ^ 169:=Zam (pb _) (Zaa (by decide) (by omega))
    have:=qIy s2 s3
    exact Nat.le_of_lt (Zam this (Zaa (by decide) (by decide)))
  ·rw [qAk (by rw [qS9];omega)]
   exact Ov.zero
def lotZ(xs ws:List Int)(b c:Int):D:=LotD (pL (qDr xs ws b c)) (bL (qDr xs ws b c))
theorem LotV.bl_len(h:LotV xs ws b c):(bL (qDr xs ws b c)).length=xs.length:=by rw [qAiv,qI7 h.l]
theorem LotV.made(h:LotV xs ws b c){cs:List Str}{d:D}{items:List D}(hd:itD d=some items)(hq:qDf items=some (bL (qDr xs ws b c))){P:D->Prop}{X:XP}(k:P (lotZ xs ws b c)):qAic cs [.poly (pL (qDr xs ws b c)),d] P X:=by
 obtain ⟨dd,zp⟩:=h.cdP
 have l8:=h.l8
 obtain ⟨M,zr⟩:=h.cdR (N:=2*(bL (qDr xs ws b c)).length - 1) (by rw [h.bl_len];omega)
 exact qAoi h.lotQ.1 zp (by decide) zr (by decide) hd hq k
end
section
variable {n:Nat} {p B:Ps} {g:Rat}
structure Inv (n:Nat) (p B:Ps) (g:Rat):Prop where
 mp:Mon n p
 n8:n<=8
 n0:0<n
 h:Hm n p (dP p)
 dB:Dg n B.c
 g0:0<g
 e:∃ A:Ps,Dg n A.c/\cst g=A*p+B*dP p
def Nf(n:Nat)(p B:Ps)(f:Ps):Rat:=La (eS p n) (B*f)
theorem Inv.kd(i:Inv n p B g):Kd p n (eS p n):=qZk i.mp i.n0
theorem Inv.Ep(i:Inv n p B g){f:Ps}{k:Nat}(hf:Dg k f.c)(hk:k+n<=63):La (eS p n) (f*p)=0:=qRm i.mp.d i.kd hf hk
theorem Inv.Bd(i:Inv n p B g){f:Ps}{k:Nat}(hf:Dg k f.c)(hk:k<=40):La (eS p n) (B*(dP p*f))=g*La (eS p n) f:=by
 obtain ⟨A,dA,e⟩:=i.e
 have n8:=i.n8
 have e1:B*(dP p*f)=cst g*f - A*f*p:=by
  have:B*dP p=cst g - A*p:=by rw [e];grind
  have e2:B*(dP p*f)=(B*dP p)*f:=by grind
  rw [e2,this];grind
 rw [e1,qK6,qDi,i.Ep (k:=n+k) (qA3 dA hf (by omega)) (by omega)]
 grind
theorem Inv.back(i:Inv n p B g){f h:Ps}{k:Nat}(hf:Dg n f.c)(hh:Dg k h.c)(hk:k<=3):∃ G:Ps,Dg n G.c/\g*Nf n p B (h*(f*f))=La (eS p n) (dP p*(h*(G*G)))/\(Nz f->Nz G):=by
 obtain ⟨A,dA,e⟩:=i.e
 have n8:=i.n8
 have n0:=i.n0
 obtain ⟨Q,G,dQ,dG,eG⟩:=qRq i.mp n (B*f) (qA3 i.dB hf (by omega))
 have dd:Dg n (dP p).c:=qAgc i.mp.d
 have e1:dP p*G=cst g*f - (A*f+dP p*Q)*p:=by
  have a1:G=B*f - Q*p:=by rw [eG];grind
  have a2:B*dP p=cst g - A*p:=by rw [e];grind
  have a3:dP p*G=(B*dP p)*f - dP p*Q*p:=by rw [a1];grind
  rw [a3,a2];grind
 refine ⟨G,dG, ?_,λnz => ?_⟩
 ·
  have b1:dP p*(h*(G*G))=cst g*(h*(G*f)) - (A*f+dP p*Q)*(h*G)*p:=by
   have:dP p*(h*(G*G))=(dP p*G)*(h*G):=by grind
   rw [this,e1];grind
  have b2:h*(G*f)=B*(h*(f*f)) - Q*(h*f)*p:=by
   have a1:G=B*f - Q*p:=by rw [eG];grind
   rw [a1];grind
  have d1:Dg (n+n) (A*f+dP p*Q).c:=qY6 (qA3 dA hf (by omega)) (qA3 dd dQ (by omega))
  have d2:Dg (k+n) (h*G).c:=qA3 hh dG (by omega)
  have d3:Dg (k+n) (h*f).c:=qA3 hh hf (by omega)
  rw [b1,qK6,qDi,i.Ep (k:=n+n+(k+n)) (qA3 d1 d2 (by omega)) (by omega),b2,qK6,i.Ep (k:=n+(k+n)) (qA3 dQ d3 (by omega)) (by omega)]
  show g*La (eS p n) (B*(h*(f*f)))=_
  grind
 ·refine Za5 λz => ?_
  have G0:G=0:=qFe λj=>Za5 λy=>z ⟨j,y⟩
  have a4:cst g*f=(A*f+dP p*Q)*p:=by
   have:dP p*G=0:=by rw [G0];grind
   rw [e1] at this
   grind
  have d4:Dg n ((A*f+dP p*Q)*p).c:=by rw [<-a4];exact qGo hf
  have z2:=qK3 (k:=n+n) i.mp (qY6 (qA3 dA hf (by omega)) (qA3 dd dQ (by omega))) d4
  have z3:A*f+dP p*Q=0:=qFe z2
  rw [z3] at a4
  obtain ⟨j,hj⟩:=nz
  have:(cst g*f).c j=0:=by rw [a4,show (0:Ps)*p=0 by grind,qFi]
  rw [qA1] at this
  rcases Rat.mul_eq_zero.mp this with y | y
  ·have:=i.g0;grind
  ·exact hj y
theorem Inv.pos(i:Inv n p B g){f:Ps}(hf:Dg n f.c)(nz:Nz f):0<Nf n p B (f*f):=by
 have one1:Dg 1 (1:Ps).c:=λj hj=>by rw [qJ9,if_neg (by omega)]
 obtain ⟨G,dG,e,nG⟩:=i.back hf one1 (by decide)
 have e1:(1:Ps)*(f*f)=f*f:=by grind
 have e2:dP p*(1*(G*G))=dP p*(G*G):=by grind
 rw [e1,e2] at e
 have:=i.h G dG (nG nz)
 rw [<-e] at this
 refine Za5 λz => ?_
 have z':0 <= -Nf n p B (f*f):=by grind
 have:=Zal (Rat.le_of_lt i.g0) z'
 grind
theorem Inv.orth(i:Inv n p B g){j:Nat}{u v:Ps}(s:Sg n p (dP p) j u v):∃ be:Rat,0<be/\∀ f:Ps,Dg (n - j+1) f.c->Nf n p B (v*f)=g*be*f.c (n - j):=by
 obtain ⟨A,Bv,dA,dBv,tB,ev⟩:=s.cv
 have n8:=i.n8
 have n0:=i.n0
 have j1:=s.j1
 have jn:=s.jn
 refine ⟨Bv.c (j - 1),tB,λf hf => ?_⟩
 have e1:B*(v*f)=B*(dP p*(Bv*f))+B*A*f*p:=by rw [ev];grind
 have d1:Dg n (Bv*f).c:=qA3 dBv hf (by omega)
 have d2:Dg (n+n+n) (B*A*f).c:=qA3 (qA3 i.dB dA (k:=n+n) (by omega)) hf (by omega)
 show La (eS p n) (B*(v*f))=_
 rw [e1,qCm,i.Ep d2 (by omega),i.Bd d1 (by omega),qAe9 (by omega) n0 d1]
 have:(Bv*f).c (n - 1)=Bv.c (j - 1)*f.c (n - j):=by
  have:=mul_top (n:=j - 1) (m:=n - j) (f:=Bv) (g:=f) (by rw [show j - 1+1=j by omega];exact dBv) hf
  rw [show j - 1+(n - j)=n - 1 by omega] at this
  exact this
 rw [this]
 grind
end
def ChS(n:Nat)(p:Ps):Nat->Ps->List Ps->Prop
 | _,_,[]=>False
 | j,u,v :: l=>Sg n p (dP p) j u v/\(∃ A Bu:Ps,Dg n A.c/\Dg (j - 1) Bu.c/\u=A*p+Bu*dP p)/\
  ((j=n/\l=[])\/(j<n/\∃ w r,l=w :: r/\(∃ Q:Ps,∃ mu:Rat,0<mu/\Dg 2 Q.c/\u=Q*v - cst mu*w)/\ChS n p (j+1) v l))
theorem ChS.len{n:Nat}{p:Ps}:∀ {l:List Ps} {j:Nat} {u:Ps},ChS n p j u l->l.length+j=n+1
 | [],_,_,h=>h.elim
 | v :: l,j,u,⟨s,_,h⟩=>by
  rcases h with ⟨rfl,rfl⟩ | ⟨hj,w,r,e,_,h⟩
  ·rw [List.length_singleton];omega
  ·have:=h.len
   rw [Za0];omega
theorem ChS.last{n:Nat}{p:Ps}(mp:Mon n p)(n8:n<=8)(hm:Hm n p (dP p)):∀ {l:List Ps} {j:Nat} {u:Ps},ChS n p j u l->∃ B g,Inv n p B g
 | [],_,_,h=>h.elim
 | v :: l,j,u,⟨s,_,h⟩=>by
  rcases h with ⟨rfl,rfl⟩ | ⟨hj,w,r,e,_,h⟩
  ·obtain ⟨A,B,dA,dB,tB,ev⟩:=s.cv
   have j1:=s.j1
   have dv:=s.dv
   rw [Nat.sub_self] at dv
   have tv:=s.tv
   rw [Nat.sub_self] at tv
   refine ⟨B,v.c 0,mp,n8,by omega,hm,dB,tv,A,dA.mono (by omega), ?_⟩
   rw [<-ev]
   exact ext' λi=>by
    rw [qIb]
    by_cases hi:i=0
    ·rw [if_pos hi,hi]
    ·rw [if_neg hi];exact (dv i (by omega)).symm
  ·exact h.last mp n8 hm
def qAin:List Rat->Prop
 | []=>False
 | [x]=>x≠0
 | _ :: y :: l=>qAin (y :: l)
def RecV:List Rat->Prop
 | a :: b :: c :: l=>(∃ q mu:Rat,0<mu/\a=q*b - mu*c)/\RecV (b :: c :: l)
 | _=>True
theorem qUv(c:Rat)(cs:List Rat):pl (c :: cs)=cst c+X*pl cs:=ext' λk=>by
 rw [qKi,qIb,qLw]
 cases k with
 | zero=>show coef (c :: cs) 0=_+xF (coef cs) 0;simp [coef,xF,Zac]
 | succ k=>show coef (c :: cs) (k+1)=_+xF (coef cs) (k+1);simp [coef,xF,Zah]
theorem ev_X(x:Rat):ev x X=x:=by
 have:qLr 0=X:=by
  unfold qLr
  rw [show (cst 0:Ps)=0 from rfl]
  grind
 rw [<-this,qPg]
 grind
theorem qTu(x:Rat):∀ cs:List Rat,cs.length<=60->horner cs x=ev x (pl cs)
 | [],_=>by
  show (0:Rat)=ev x (pl [])
  rw [show pl []=0 from qFe λk=>rfl,qAle]
 | c :: cs,h=>by
  rw [Za0] at h
  rw [qUv,qYs,qMf (qAir c),qIb,if_pos rfl,qHh (n:=2) (f:=X) (show Dg 2 X.c from qAl1 1 1) (qEp cs) (by omega) (by omega),ev_X, ←qTu x cs (by omega)]
  show horner cs x*x+c=_
  grind
theorem ChS.nz{n:Nat}{p:Ps}{a:Rat}(n8:n<=8):∀ {l:List Ps} {j:Nat} {u v:Ps},ChS n p j u (v :: l)->qAin ((v :: l).map (ev a))/\RecV ((u :: v :: l).map (ev a))
 | l,j,u,v,⟨sg,hu,h⟩=>by
  rcases h with ⟨rfl,rfl⟩ | ⟨hj,w,r,rfl,⟨Q,mu,m0,dQ,e⟩,h⟩
  ·have dv:=sg.dv
   have tv:=sg.tv
   rw [Nat.sub_self] at dv tv
   refine ⟨?_,trivial⟩
   show ev a v≠0
   rw [qMf dv]
   exact Zan tv
  ·obtain ⟨h1,h2⟩:=h.nz (a:=a) n8
   refine ⟨h1,⟨ev a Q,mu,m0, ?_⟩,h2⟩
   have d1:=sg.dv
   have e1:=qK6 (m:=λi=>a ^ i) (Q*v) (cst mu*w)
   have e2:=qDi (m:=λi=>a ^ i) mu w
   rw [e]
   show La _ _=_
   rw [e1,e2]
   show ev a (Q*v) - mu*ev a w=_
   rw [qHh dQ d1 (by omega) (by omega)]
def InPl(lo hi:Option Rat)(x:Rat):Prop:=(∀ a,lo=some a->a<=x)/\∀ b,hi=some b->x<=b
end MR
namespace MR
open PySem PySem.Spec PyProof.Rows L2
theorem qAgh{a b:Option Rat}{f:List Rat}(h:f∈qAo a b):f.getLast?=some 1\/f.getLast?=some (-1):=by
 have e:f=[1]\/(∃ x,f=[-x,1])\/(∃ y,f=[y, -1])\/∃ x y:Rat,f=[-(x*y),x+y, -1]:=by
  cases a with
  | none=>exact .inl (by simpa [qAo] using h)
  | some x=>
   cases b with
   | none=>
    have:f=[1]\/f=[-x,1]:=by simpa [qAo] using h
    exact this.elim .inl λe => .inr (.inl ⟨x,e⟩)
   | some y=>
    have:f=[1]\/f=[-x,1]\/f=[y, -1]\/f=[-(x*y),x+y, -1]:=by simpa [qAo] using h
    rcases this with e | e | e | e
    ·exact .inl e
    ·exact .inr (.inl ⟨x,e⟩)
    ·exact .inr (.inr (.inl ⟨y,e⟩))
    ·exact .inr (.inr (.inr ⟨x,y,e⟩))
 rcases e with rfl | ⟨x,rfl⟩ | ⟨y,rfl⟩ | ⟨x,y,rfl⟩
 ·exact .inl rfl
 ·exact .inl rfl
 ·exact .inr rfl
 ·exact .inr rfl
def qPj:FSp:=λds P _=>∃ q p n,ds=[.rat q,prT p]/\SzP n p/\n<=400000/\q=qCs p/\P (.bl true)
def qC3:FSp:=λds P _=>∃ ps n,ds=[.lst (qCy (ps.map qCs)), .lst (qEg ps)]/\(∀ p,p∈ps->SzP n p)/\n<=400000/\ps.length<=1000/\P (.bl true)
def qKp(K:W.Frag)(cs:List Str):TS:=
 (tSeq (tAsg (tCall (lift K qLf) [] E0 (tCons (tVar 0) tNil)) (gName 2))
 (tRet (tAndV (tOp qAfd (tVar 2) (tC .non)) (tOp rEq (tOp qCg (tOp (rIxT K) (tVar 2) (tC (.int 0))) (tOp (rIxT K) (tVar 1) (tC (.int 1)))) (tOp qCg (tOp (rIxT K) (tVar 1) (tC (.int 0))) (tOp (rIxT K) (tVar 2) (tC (.int 1))))))))
def qMm(cs:List Str):FS:=
 (qBf (qDo 2 (qAs qLf [] (qAc (qAd 0) qAl)))
 (qEz (qNe (fOp qAao (qAd 2) (fC .non)) (fOp oEq (fOp qDa (fOp qGu (qAd 2) (fC (.int 0))) (fOp qGu (qAd 1) (fC (.int 1)))) (fOp qDa (fOp qGu (qAd 1) (fC (.int 0))) (fOp qGu (qAd 2) (fC (.int 1))))))))
theorem qAfa{K:W.Frag}{cs:List Str}(T:KF K cs)(hRa:("Ratio":Str)∈cs):SS K Ta [] [] [] [] (λ_=>E0) (qKp K cs) (qMm cs):=
 (qAi (ow1:=[]) (qBe (by decide) (by decide) (qAr Lift.refl qAn (qAb (qAa (by decide)) qAe)))
 (qBa (by decide) (qKr (qAf (λ_=>qAb6) (qAa (by decide)) qT5) (qAf (λ_=>qPt) (qAf (λ_=>qA9) (qAf (λ_=>qDj) (qAa (by decide)) qAg) (qAf (λ_=>qDj) (qAa (by decide)) qAg)) (qAf (λ_=>qA9) (qAf (λ_=>qDj) (qAa (by decide)) qAg) (qAf (λ_=>qDj) (qAa (by decide)) qAg))))))
def qF1(K:W.Frag)(cs:List Str):TS:=
 (tSeq (tIfS (tOr (tNot (tB (tCB (rIsi K) (tCons (tVar 0) (tCons (tC (.ty "list")) tNil))))) (tTest (tOp rNe (tCB (qFb K) (tCons (tVar 0) tNil)) (tCB (qFb K) (tCons (tVar 1) tNil))))) (tRet (tC (.bl false))) tNext)
 (tSeq (tFor (iRng1 (tCons (tCB (qFb K) (tCons (tVar 1) tNil)) tNil)) (gName 2) (tIfS (tNot (tB (tCall (lift K qPj) [] E0 (tCons (tOp (rIxL K) (tVar 0) (tVar 2)) (tCons (tOp (rIxL K) (tVar 1) (tVar 2)) tNil))))) (tRet (tC (.bl false))) tNext))
 (tRet (tC (.bl true)))))
def qGk(cs:List Str):FS:=
 (qBf (qGz (fOr (qMa (fB (qQk cs (.ty "list") (qAd 0)))) (fB (fOp oNe (fLs qH8 (qAc (qAd 0) qAl)) (fLs qH8 (qAc (qAd 1) qAl))))) (qEz (fC (.bl false))) qC6)
 (qBf (qIk (qDq (qAc (fLs qH8 (qAc (qAd 1) qAl)) qAl)) (qB1 2) (qGz (qMa (fB (qAs qPj [] (qAc (fOp qCc (qAd 0) (qAd 2)) (qAc (fOp qCc (qAd 1) (qAd 2)) qAl))))) (qEz (fC (.bl false))) qC6))
 (qEz (fC (.bl true)))))
theorem qPo{K:W.Frag}{cs:List Str}(T:KF K cs)(hRa:("Ratio":Str)∈cs):SS K Ta [] [] [] [] (λ_=>E0) (qF1 K cs) (qGk cs):=
 (qAi (ow1:=[]) (qEd (by decide) (qNo (qFc (qL1 (qG0 (c:=(.ty "list")) T.toKT (qAa (by decide))))) (qCl (qAf (λ_=>qAl2) (qB7 (λ_=>qD0) (qAb (qAa (by decide)) qAe)) (qB7 (λ_=>qD0) (qAb (qAa (by decide)) qAe))))) (qBa (by decide) qSp) (qBd (by decide)))
 (qAi (ow1:=[]) (qG2 (by decide) (qEt (qAb (qB7 (λ_=>qD0) (qAb (qAa (by decide)) qAe)) qAe)) (qCr (by decide)) (qEd (by decide) (qFc (qL1 (qAr Lift.refl qAn (qAb (qAf (λ_=>qA2) (qAa (by decide)) (qAa (by decide))) (qAb (qAf (λ_=>qA2) (qAa (by decide)) (qAa (by decide))) qAe))))) (qBa (by decide) qSp) (qBd (by decide))))
 (qBa (by decide) qSp)))
theorem StOk.take{K:Nat}{ms:List Rat}{fs:List (List Rat)}{a c:Nat}(h:StOk K ms fs a c)(n:Nat):StOk K (ms.take n) fs a c:=
 ⟨h.k6,Zaf (by rw [Zaj];omega) h.len,let ⟨M,hM⟩:=h.cm;⟨M,hM.take n⟩,h.cu,h.bt⟩
theorem qAq{x y:Option Rat}:∀ u,u∈qAo x y->0<u.length:=by
 intro u hu
 cases x <;> cases y <;> simp [qAo] at hu <;> (try rcases hu with rfl | rfl | rfl | rfl) <;> (try rcases hu with rfl | rfl) <;> (try subst hu) <;> simp
theorem qAdf{cs:List Str}(hR:("Ratio":Str)∈cs)(ds:List D)(P:D->Prop)(X:XP)(h:qPj ds P X):qMm cs (qF9 P X0) (qBb 3 ds):=by
 obtain ⟨q,p,n,rfl,hp,hn,hq,k⟩:=h
 simp_arith [qMm]
 refine ⟨q,rfl, ?_⟩
 have hc:q.num*p.2=p.1*((q.den:Nat):Int):=by
  have d0:((q.den:Nat):Int)≠0:=by have:=q.den_pos;omega
  have e:Za4 q.num ((q.den:Nat):Int)=Za4 p.1 p.2:=by
   rw [Rat.num_divInt_den]
   exact hq
  exact (Rat.divInt_eq_divInt_iff d0 (by have:=hp.pos;omega)).mp e
 have zq:Sz n q:=by rw [hq];exact qG3 (by have:=hp.pos;omega) hp.a hp.b
 have zw:=qAh6 zq
 simp_arith [prT,ndP,Bool.not_false,ixt0,ixt1]
 refine ⟨qKs zw.a hp.b (by omega),qKs hp.a zw.b (by omega), ?_⟩
 rw [hc,decide_eq_true rfl]
 exact k
theorem qAc3{FD:FEnds}{ps:List (Int × Int)}{n:Nat}(hz:∀ p,p∈ps->SzP n p)(hn:n<=400000)(k:∀ v2,FD.nx [some (.lst (qCy (ps.map qCs))),some (.lst (qEg ps)),v2]) :
  ∀ (r i:Nat) (v2:Option D),i+r=ps.length->qDk (qB1 2) (qGz (qMa (fB (qAs qPj [] (qAc (fOp qCc (qAd 0) (qAd 2)) (qAc (fOp qCc (qAd 1) (qAd 2)) qAl))))) (qEz (fC (.bl false))) qC6) FD (qIl (i:Int) r) [some (.lst (qCy (ps.map qCs))),some (.lst (qEg ps)),v2]
 | 0,i,v2,hi=>k v2
 | r+1,i,v2,hi=>by
  have hi':i<ps.length:=by omega
  have hg:ps[i]?=some (ps[i]'hi'):=Za3 hi'
  have h1:(qCy (ps.map qCs))[i]?=some (.rat (qCs (ps[i]'hi'))):=by
   unfold qCy
   rw [Zae,Zae,hg]
   rfl
  rw [qE1]
  unfold qDk
  simp_arith []
  refine ⟨_,(i:Int),_, .inl rfl,rfl,qYp h1,_,(i:Int),_, .inl rfl,rfl,qYp (qMj hg), ?_⟩
  refine ⟨_,_,n,rfl,hz _ (List.getElem_mem hi'),hn,rfl, ?_⟩
  simp_arith [Bool.not_true]
  exact qAc3 hz hn k r (i+1) _ (by omega)
theorem qP9{cs:List Str}(hR:("Ratio":Str)∈cs)(ds:List D)(P:D->Prop)(X:XP)(h:qC3 ds P X):qGk cs (qF9 P X0) (qBb 3 ds):=by
 obtain ⟨ps,n,rfl,hz,hn,hl,p⟩:=h
 simp_arith [qGk,qIk,qDq,qEl,qE6,Za6]
 refine ⟨true,rfl, ?_⟩
 simp_arith [Bool.not_true,decide_true]
 refine ⟨by omega,by omega, ?_⟩
 rw [Int.toNat_natCast]
 exact qAc3 hz hn (λv2=>p) ps.length 0 none (by omega)
theorem qYj{M:Nat}:∀ xs:List Int,(∀ x,x∈xs->x.natAbs<M)->xs.sum.natAbs<=xs.length*M
 | [],_=>Nat.zero_le _
 | x :: xs,h=>by
  rw [List.sum_cons,Za0,Nat.add_mul,Nat.one_mul,Nat.add_comm]
  exact Zaf (Int.natAbs_add_le _ _) (Nat.add_le_add (Nat.le_of_lt (h x Zad)) (qYj xs λy hy=>h y (Zab _ hy)))
theorem qAgz{ps:List (Int × Int)}{n L:Nat}(h:∀ p,p∈ps->SzP n p)(hl:ps.length<=L):Cd (n*(L+1)) (botP ps) (ps.map qCs):=by
 have hb:=qW8 (T:=2 ^ n) (ps:=ps) λp hp=>⟨(h p hp).pos,Nat.le_of_lt (h p hp).b⟩
 have hnl:=Nat.mul_le_mul_left n hl
 refine ⟨hb.1,Zaf hb.2 (by rw [<-Nat.pow_mul];exact qDe (by rw [Nat.mul_add,Nat.mul_one];omega)),λi => ?_⟩
 by_cases hi:i<ps.length
 ·have hg:ps[i]?=some (ps[i]'hi):=Za3 hi
  have e:coef (ps.map qCs) i=qCs (ps[i]'hi):=qCt (by rw [Zae,hg];rfl)
  rw [e]
  refine (qAcq (T:=2 ^ n) (M:=2 ^ n) (Nat.pow_pos (by decide)) (λq hq => ?_) _ (List.getElem_mem hi)).mono ?_
  ·have:=h q hq
   exact ⟨this.pos,Nat.le_of_lt this.b,Nat.le_of_lt this.a⟩
  ·rw [<-Nat.pow_mul, ←Nat.pow_add]
   refine qDe ?_
   rw [Nat.mul_add,Nat.mul_one]
   omega
 ·rw [qAk (by rw [Za6];omega)]
  exact Ov.zero
theorem qWg{K:W.Frag}{cs:List Str}(vs:List V)(H:Hp)(Q:VK)(E:XK)(h:(lift K qPj) vs H Q E):vs.length=2:=qA0 (λds P X h=>by unfold qPj at h;first | ((repeat (first | (obtain ⟨rfl,_⟩:=h;exact rfl) | obtain ⟨_,h⟩:=h));done) | (split at h <;> first | rfl | exact h.elim)) h
theorem qZn{K:W.Frag}{cs:List Str}(T:KF K cs)(hRa:("Ratio":Str)∈cs)(vs:List V)(H:Hp)(Q:VK)(E:XK)(h:(lift K qPj) vs H Q E):qKp K cs { nx:=λ_ H'=>Q .non H',rt:=Q } (start ["_law_value","_law_due","_law_pair_here"] vs) H:=
 qD1 rfl (qAfa T hRa) (qAdf hRa) vs H Q E h
theorem qNu{K:W.Frag}{cs:List Str}(vs:List V)(H:Hp)(Q:VK)(E:XK)(h:(lift K qC3) vs H Q E):vs.length=2:=qA0 (λds P X h=>by unfold qC3 at h;first | ((repeat (first | (obtain ⟨rfl,_⟩:=h;exact rfl) | obtain ⟨_,h⟩:=h));done) | (split at h <;> first | rfl | exact h.elim)) h
theorem qN8{K:W.Frag}{cs:List Str}(T:KF K cs)(hRa:("Ratio":Str)∈cs)(vs:List V)(H:Hp)(Q:VK)(E:XK)(h:(lift K qC3) vs H Q E):qF1 K cs { nx:=λ_ H'=>Q .non H',rt:=Q } (start ["_law_values","_law_dues","_law_k"] vs) H:=
 qD1 rfl (qPo T hRa) (qP9 hRa) vs H Q E h
theorem qAjp(q:Rat):qCs (ndP q)=q:=Rat.num_divInt_den q
theorem qAkf(qs:List Rat):(qs.map ndP).map qCs=qs:=by
 rw [List.map_map]
 exact (List.map_congr_left λq _=>qAjp q).trans (List.map_id qs)
theorem qSg{n:Nat}{q:Rat}(h:Sz n q):SzP n (ndP q):=by
 have w:=qAh6 h
 exact ⟨w.a,w.b,by show 0<((q.den:Nat):Int);have:=q.den_pos;omega⟩
theorem qApq{n:Nat}{qs:List Rat}(h:SzL n qs):∀ p,p∈qs.map ndP->SzP n p:=λp hp=>by
 obtain ⟨q,hq,rfl⟩:=List.mem_map.mp hp
 exact qSg (h q hq)
theorem qAgj(q ms:List Rat)(j:Nat):qDp (strip (qBc q (qN4 j))) ms=qIp q (ms.drop j) q.length:=by
 rw [qJf q (qN4 j) ms (N:=q.length+(j+1)) (by omega) (by rw [qAgo];omega),qB6]
 unfold Bf
 rw [qEf (n:=q.length) (λi hi=>qB0 λk _=>by rw [qAk hi,Za2,Za2]) _ (by omega)]
 refine qAh λi _ => ?_
 have:∀ n,sm n (λk=>coef q i*coef (qN4 j) k*coef ms (i+k))=if j<n then coef q i*coef ms (i+j) else 0:=by
  intro n
  induction n with
  | zero=>rfl
  | succ n ih=>
   show sm n _+coef q i*coef (qN4 j) n*coef ms (i+n)=_
   rw [ih,qAdq]
   by_cases h:j<n
   ·rw [if_pos h,if_neg (by omega),if_pos (by omega),Za1,Za2,Zac]
   ·rw [if_neg h]
    by_cases e:n=j
    ·subst e
     rw [if_pos rfl,if_pos (by omega),Rat.mul_one,Zah]
    ·rw [if_neg e,if_neg (by omega),Za1,Za2,Zac]
 rw [this,if_pos (by omega),qAv,Nat.add_comm j i]
theorem qHk{u p:List Rat}(hu:0<u.length)(hp:0<p.length):coef (qBc u p) (u.length+p.length - 2)=coef u (u.length - 1)*coef p (p.length - 1):=by
 rw [qFo]
 obtain ⟨n,hn⟩:∃ n,u.length=n+1:=⟨u.length - 1,by omega⟩
 rw [hn]
 show conv (coef u) (coef p) n (n+1+p.length - 2)+(if n<=n+1+p.length - 2 then coef u n*coef p (n+1+p.length - 2 - n) else 0)=_
 rw [qUl (m:=p.length) (λk hk=>qAk hk) n _ (by omega),if_pos (by omega),Zah,show n+1+p.length - 2 - n=p.length - 1 by omega,show n+1 - 1=n by omega]
theorem qHq{u p:List Rat}(hu:0<u.length)(hp:0<p.length):(qBc u p).length=u.length+p.length - 1:=by
 unfold qBc
 rw [if_neg (by omega)]
 simp
theorem qCq(ms:List Rat)(k:Nat):(chN ms k).1.1.length=k+1/\coef (chN ms k).1.1 k=1:=by
 have h1:=(qGr ms k).1
 have h2:coef (chN ms k).1.1 k=1:=qB9 ms k
 refine ⟨?_,h2⟩
 by_cases h:(chN ms k).1.1.length<=k
 ·rw [qAk h] at h2
  exact absurd h2 (by decide)
 ·omega
theorem qUm{x y:Option Rat}{u:List Rat}(h:u∈qAo x y):coef u (u.length - 1)≠0:=by
 have hl:=qAq u h
 have e:u.getLast?=some (coef u (u.length - 1)):=by
  rw [List.getLast?_eq_getElem?]
  exact qMt (by omega)
 rcases qAgh h with z | z
 ·rw [e] at z
  rw [Option.some.inj z]
  decide
 ·rw [e] at z
  rw [Option.some.inj z]
  decide
theorem qAeg{x y:Option Rat}{ms u:List Rat}(hu:u∈qAo x y)(rs:List Rat)(k:Nat):(unN ms (qAt (k,u,(chN rs ((k+1 - u.length) / 2)).1))).isNone=decide (∀ j,j<ms.length+1 - (u.length+(k+1 - u.length) / 2)->qIp (qBc u (chN rs ((k+1 - u.length) / 2)).1.1) (ms.drop j) (u.length+(k+1 - u.length) / 2)=0):=by
 obtain ⟨s,hs⟩:∃ s,s=(k+1 - u.length) / 2:=⟨_,rfl⟩
 rw [<-hs]
 obtain ⟨lp,tp⟩:=qCq rs s
 have u0:=qAq u hu
 have ut:=qUm hu
 unfold qAt
 dsimp only
 generalize (chN rs s).1.1=p at *
 have lm:=qHq u0 (show 0<p.length by omega)
 have tm:=qHk u0 (show 0<p.length by omega)
 rw [show p.length - 1=s by omega,tp,Rat.mul_one] at tm
 have nr:strip (qBc u p)=qBc u p:=qCj (n:=u.length+p.length - 2) (by omega) (by rw [tm];exact ut)
 rw [nr]
 have ld:qAm (qBc u p)=coef u (u.length - 1):=by
  unfold qAm
  rw [show (qBc u p).length - 1=u.length+p.length - 2 by omega,tm]
 have em:qEe (qBc u p)=(qBc u p).map λc=>c / coef u (u.length - 1):=by
  unfold qEe
  rw [nr,ld]
 have cm:∀ i,coef (qEe (qBc u p)) i=coef (qBc u p) i / coef u (u.length - 1):=λi=>by
  rw [em]
  unfold coef
  rw [Zae]
  cases (qBc u p)[i]? with
  | none=>show (0:Rat)=0 / _;rw [Rat.div_def,Za2]
  | some v=>rfl
 have nm:strip (qEe (qBc u p))=qEe (qBc u p):=qCj (n:=u.length+p.length - 2) (by rw [em,Za6];omega) (by
  rw [cm,tm]
  intro z
  have e:=qH3 (a:=coef u (u.length - 1)) ut
  rw [z,Za2] at e
  exact ut e.symm)
 rw [nm]
 have lq:(qEe (qBc u p)).length=u.length+s:=by rw [em,Za6];omega
 have ed:∀ j,qDp (strip (qBc (qEe (qBc u p)) (qN4 j))) ms=qIp (qBc u p) (ms.drop j) (u.length+s) / coef u (u.length - 1):=λj=>by
  rw [qAgj,lq]
  have:∀ n,qIp (qEe (qBc u p)) (ms.drop j) n=qIp (qBc u p) (ms.drop j) n / coef u (u.length - 1):=by
   intro n
   induction n with
   | zero=>show (0:Rat)=0 / _;rw [Rat.div_def,Za2]
   | succ n ih=>
    show qIp _ _ n+coef _ n*_=(qIp _ _ n+coef _ n*_) / _
    rw [ih,cm]
    grind
  exact this _
 unfold unN
 rw [lq]
 have key:∀ j,qDp (strip (qBc (qEe (qBc u p)) (qN4 j))) ms≠0↔qIp (qBc u p) (ms.drop j) (u.length+s)≠0:=λj=>by
  rw [ed]
  constructor
  ·intro h z
   rw [z,Rat.div_def,Za2] at h
   exact h rfl
  ·intro h z
   have e:qIp (qBc u p) (ms.drop j) (u.length+s) / coef u (u.length - 1)*coef u (u.length - 1)=0:=by rw [z,Za2]
   rw [qH3 ut] at e
   exact h e
 rw [Bool.eq_iff_iff,Option.isNone_iff_eq_none,List.find?_eq_none,decide_eq_true_iff]
 constructor
 ·intro h j hj
  have:=h j (List.mem_range.mpr hj)
  have h2:¬ qDp (strip (qBc (qEe (qBc u p)) (qN4 j))) ms≠0:=by simpa using this
  exact Za5 λz=>h2 ((key j).mpr z)
 ·intro h j hj
  have:=h j (List.mem_range.mp hj)
  simpa using λz=>(key j).mp z this
theorem qGm(ms:List Rat):shL [1] ms=ms:=qC9 (by rw [qW1];simp) λk=>qAjq k
end MR
namespace MR
open PySem PySem.Spec PyProof.Rows L2
open Ps
def ortN(ms u:List Rat)(size:Nat):List Rat:=(chN (shL u (ms ++ [0])) size).1.1
def insN(ms:List Rat)(x:Option Rat):List Rat:=
 if ms.length % 2=0 then ortN ms [1] (ms.length / 2) else
 match x with
 | none=>ortN (ms ++ [0]) [1] (ms.length / 2+1)
 | some a=>strip (qBc [-a,1] (ortN ms [-a,1] (ms.length / 2)))
def smN(ms:List Rat)(x y:Option Rat):Option (List Rat):=match qAp (goN ms (qAo x y) ms.length 0) with
 | none=>some (insN ms x)
 | some s=>if s.2.2.2<0 then none else if (unN ms (qAt s)).isNone then some (qAt s) else none
theorem qAn1(ms:List Rat)(x y:Option Rat):qK2 ms (qAo x y)=(smN ms x y).isSome:=by
 unfold qK2 smN
 cases qAp (goN ms (qAo x y) ms.length 0) with
 | none=>rfl
 | some s=>
  dsimp only
  split
  ·rfl
  ·cases h:(unN ms (qAt s)).isNone <;> simp
theorem qAo3{p b m:Nat->Rat}{n N:Nat}(t:p n=1)(hb:∀ i,i<n->b i=m i)(h0:∀ i,n<=i->b i=0)(h:∀ k,k+n<N->sm (n+1) (λj=>p j*m (k+j))=0):∀ i,i<N->goS p n b i=m i:=by
 intro i
 induction i using Nat.strongRecOn with
 | _ i ih=>
  intro hi
  by_cases hn:i<n
  ·rw [qJ3 hn,hb i hn]
  ·obtain ⟨k,rfl⟩:∃ k,i=k+n:=⟨i - n,by omega⟩
   have e:=h k hi
   have e2:sm n (λj=>p j*m (k+j))+p n*m (k+n)=0:=e
   rw [t,Rat.one_mul] at e2
   by_cases n0:0<n
   ·rw [qP8 n0]
    rw [qAh (G:=λj=>p j*m (k+j)) λj hj=>by rw [ih (k+j) (by omega) (by omega)]]
    grind
   ·obtain rfl:n=0:=by omega
    have e3:m k=0:=by
     have:(0:Rat)+m (k+0)=0:=e2
     rw [Zah] at this
     exact this
    show goS p 0 b k=m k
    rw [e3]
    cases k with
    | zero=>exact h0 0 (Za9 _)
    | succ k=>
     show (if 0+1<0 then qYa p 0 b k (0+1) else -sm 0 λj=>p j*qYa p 0 b k j)=(0:Rat)
     rw [if_neg (by omega)]
     exact Rat.neg_zero
theorem qAfw{p ms:List Rat}{n:Nat}(hl:p.length=n+1)(n8:n<=8)(t:coef p n=1)(hn:2*n<=ms.length+1)(l0:0<ms.length)(hk:∀ k,k+n<ms.length->sm (n+1) (λj=>coef p j*coef ms (k+j))=0)(hw:∀ k,k<n->0<hS ms k) :
  LotQ p (ms.take n)/\∀ i,i<ms.length->goS (coef p) (ms.take n).length (coef (ms.take n)) i=coef ms i:=by
 have lt:(ms.take n).length=n:=by rw [Zaj];omega
 have go:∀ i,i<ms.length->goS (coef p) n (coef (ms.take n)) i=coef ms i:=qAo3 (p:=coef p) (b:=coef (ms.take n)) (m:=coef ms) (n:=n) (N:=ms.length) t (λi hi=>by rw [qHz,if_pos hi]) (λi hi=>qAk (by omega)) hk
 rw [lt]
 refine ⟨⟨by omega,by omega,by rw [qB3,hl];exact t, ?_⟩,go⟩
 rw [lt]
 exact qAbs (by omega) (λi hi=>(go i (by omega)).symm) hw
def indF(k:Nat):Fu:=λi=>if i=k then 1 else 0
theorem qAe7{k n:Nat}(h:k<n):Dg n (indF k):=λi hi=>by unfold indF;rw [if_neg (by omega)]
theorem qAi2{k:Nat}(F:Fu):∀ {N:Nat},k<N->sm N (λj=>indF k j*F j)=F k
 | N+1,h=>by
  show sm N _+indF k N*F N=F k
  by_cases e:k=N
  ·subst e
   rw [qB0 λi hi=>by unfold indF;rw [if_neg (by omega),Za2]]
   unfold indF
   rw [if_pos rfl,Rat.one_mul,Zah]
  ·rw [qAi2 F (show k<N by omega)]
   unfold indF
   rw [if_neg (by omega),Za2,Zac]
theorem qAba{f m:Fu}{n k N:Nat}(hf:Dg n f)(hn:n<=N)(hk:k<N):Bf N m f (indF k)=sm n (λj=>f j*m (k+j)):=by
 unfold Bf
 rw [<-qEf (n:=n) (F:=λj=>f j*m (k+j)) (λi hi=>by rw [hf i hi,Za2]) N hn]
 refine qAh λi _ => ?_
 have:sm N (λj=>f i*indF k j*m (i+j))=sm N (λj=>indF k j*(f i*m (i+j))):=qAh λj _=>by grind
 rw [this,qAi2 (λj=>f i*m (i+j)) hk,Nat.add_comm]
theorem qJ6{ms:List Rat}{fs:List (List Rat)}:∀ {n k:Nat},stG ms fs n k=none->∀ i,k<=i->i<k+n->qAp (qDm ms fs i)=none
 | 0,k,_,i,h1,h2=>by omega
 | n+1,k,h,i,h1,h2=>by
  rw [stG] at h
  cases e:qAp (qDm ms fs k) with
  | some s=>rw [e] at h;cases h
  | none=>
   rw [e] at h
   by_cases hi:i=k
   ·rw [hi];exact e
   ·exact qJ6 h i (by omega) (by omega)
theorem qX5{ms:List Rat}{fs:List (List Rat)}{s:Step}:∀ {n k:Nat},stG ms fs n k=some s->∃ i,k<=i/\i<k+n/\qAp (qDm ms fs i)=some s/\∀ j,k<=j->j<i->qAp (qDm ms fs j)=none
 | 0,k,h=>by cases h
 | n+1,k,h=>by
  rw [stG] at h
  cases e:qAp (qDm ms fs k) with
  | some t=>
   rw [e] at h
   cases h
   exact ⟨k,by omega,by omega,e,λj h1 h2=>by omega⟩
  | none=>
   rw [e] at h
   obtain ⟨i,h1,h2,h3,h4⟩:=qX5 h
   exact ⟨i,by omega,by omega,h3,λj h5 h6=>by
    by_cases hj:j=k
    ·rw [hj];exact e
    ·exact h4 j (by omega) h6⟩
theorem qAdk{l:List Step}(h:qAp l=none){s:Step}(hs:s∈l):0<s.2.2.2:=by
 unfold qAp at h
 rw [List.find?_eq_none] at h
 have:=h s hs
 unfold qXi at this
 simpa using this
theorem qIz{ms:List Rat}{fs:List (List Rat)}(h0:∀ u,u∈fs->0<u.length){u:List Rat}(hu:u∈fs){k:Nat}(h:∀ i,i<k->qAp (qDm ms fs i)=none){j:Nat}(hj:u.length - 1+2*j<k):0<hS (shL u ms) j:=by
 have u0:=h0 u hu
 have ho:OnN u (u.length - 1+2*j):=⟨by omega,by omega⟩
 have:=qAdk (h _ hj) (qRe (ms:=ms) hu ho)
 have ec:qG5 u (u.length - 1+2*j)=j:=by unfold qG5;omega
 unfold qHf at this
 rw [ec] at this
 exact this
theorem qHa(x y:Option Rat):([1]:List Rat)∈qAo x y:=by
 cases x with
 | none=>exact .head _
 | some x=>cases y <;> exact .head _
theorem qBs(ms:List Rat)(i:Nat):coef (ms ++ [0]) i=coef ms i:=by
 by_cases h:i<ms.length
 ·unfold coef
  rw [List.getElem?_append_left h]
 ·by_cases e:i=ms.length
  ·rw [e,qAk (cs:=ms) (Za9 _)]
   unfold coef
   rw [List.getElem?_append_right (Za9 _),Nat.sub_self]
   rfl
  ·rw [qAk (by rw [List.length_append];simp;omega),qAk (by omega)]
theorem qGt{ms ns:List Rat}{k:Nat}(h:∀ i,i<=2*k->coef ms i=coef ns i):hS ms k=hS ns k:=by
 unfold hS
 rw [qJe h]
theorem qQ3{ms:List Rat}{n k:Nat}(h:∀ j,j<n->0<hS ms j)(hk:k<n):sm (n+1) (λj=>pS ms n j*coef ms (k+j))=0:=by
 have:=qFp (ms:=ms) (n:=n) (N:=n+1) (Za9 _) (λj hj=>Zan (h j hj)) (qAe7 hk)
 rw [qAba (qAy ms n) (by omega) (by omega)] at this
 exact this
theorem qAk7{ms:List Rat}{x y:Option Rat}(h:qAp (goN ms (qAo x y) ms.length 0)=none)(l0:0<ms.length)(l15:ms.length<=15) :
  ∃ n,(insN ms x).length=n+1/\n<=8/\coef (insN ms x) n=1/\2*n<=ms.length+1/\(∀ k,k+n<ms.length->sm (n+1) (λj=>coef (insN ms x) j*coef ms (k+j))=0)/\(∀ k,k<n->0<hS ms k)/\n=ms.length / 2+ms.length % 2:=by
 have h0:∀ u,u∈qAo x y->0<u.length:=λu hu=>qAq u hu
 rw [qF0] at h
 have hr:=qJ6 h
 have w1:∀ j,2*j<ms.length->0<hS ms j:=λj hj=>by
  have:=qIz (k:=ms.length) h0 (qHa x y) (λi hi=>hr i (by omega) (by omega)) (j:=j) (by simpa using hj)
  rwa [qGm] at this
 unfold insN
 by_cases he:ms.length % 2=0
 ·rw [if_pos he]
  obtain ⟨n,hn⟩:∃ n,ms.length / 2=n:=⟨_,rfl⟩
  rw [hn]
  unfold ortN
  rw [qGm]
  obtain ⟨l1,t1⟩:=qCq (ms ++ [0]) n
  have hw:∀ j,j<n->0<hS (ms ++ [0]) j:=λj hj=>by
   rw [qGt λi _=>qBs ms i]
   exact w1 j (by omega)
  refine ⟨n,l1,by omega,t1,by omega,λk hk => ?_,λk hk=>w1 k (by omega),by omega⟩
  have:=qQ3 hw (show k<n by omega)
  rw [qAh (G:=λj=>pS (ms ++ [0]) n j*coef ms (k+j)) λj hj=>by rw [qBs]] at this
  exact this
 ·rw [if_neg he]
  have hm:∃ n,ms.length / 2=n:=⟨_,rfl⟩
  obtain ⟨n,hn⟩:=hm
  rw [hn]
  cases x with
  | none=>
   dsimp only
   unfold ortN
   rw [qGm]
   obtain ⟨l1,t1⟩:=qCq (ms ++ [0] ++ [0]) (n+1)
   have hc:∀ i,coef (ms ++ [0] ++ [0]) i=coef ms i:=λi=>by rw [qBs,qBs]
   have hw:∀ j,j<n+1->0<hS (ms ++ [0] ++ [0]) j:=λj hj=>by
    rw [qGt λi _=>hc i]
    exact w1 j (by omega)
   refine ⟨n+1,l1,by omega,t1,by omega,λk hk => ?_,λk hk=>w1 k (by omega),by omega⟩
   have:=qQ3 hw (show k<n+1 by omega)
   rw [qAh (G:=λj=>pS (ms ++ [0] ++ [0]) (n+1) j*coef ms (k+j)) λj hj=>by rw [hc]] at this
   exact this
  | some a=>
   dsimp only
   unfold ortN
   have hu:[-a,1]∈qAo (some a) y:=by cases y <;> exact .tail _ (.head _)
   obtain ⟨l1,t1⟩:=qCq (shL [-a,1] (ms ++ [0])) n
   have hcs:∀ i,i+2<=ms.length->coef (shL [-a,1] (ms ++ [0])) i=coef (shL [-a,1] ms) i:=λi hi=>by
    rw [qOw (by rw [List.length_append];simp;omega),qOw hi,qBs,qBs]
   have hw:∀ j,j<n->0<hS (shL [-a,1] (ms ++ [0])) j:=λj hj=>by
    rw [qGt λi hi=>hcs i (by omega)]
    exact qIz (k:=ms.length) h0 hu (λi hi=>hr i (by omega) (by omega)) (by simp;omega)
   have hq:coef (strip (qBc [-a,1] (chN (shL [-a,1] (ms ++ [0])) n).1.1))=lF a (pS (shL [-a,1] (ms ++ [0])) n):=funext λi=>by
    rw [qYy (a:=a) rfl rfl λi hi=>qAk (by simpa using hi)]
    rfl
   have lm:=qHq (u:=[-a,1]) (p:=(chN (shL [-a,1] (ms ++ [0])) n).1.1) (by simp) (by omega)
   have tm:=qHk (u:=[-a,1]) (p:=(chN (shL [-a,1] (ms ++ [0])) n).1.1) (by simp) (by omega)
   have tm2:coef (qBc [-a,1] (chN (shL [-a,1] (ms ++ [0])) n).1.1) (n+1)=1:=by
    rw [l1] at tm
    simp only [Za0,List.length_nil] at tm
    rw [show 0+1+1+(n+1) - 2=n+1 by omega,show n+1 - 1=n by omega,t1] at tm
    rw [tm]
    exact Rat.mul_one 1
   have nr:strip (qBc [-a,1] (chN (shL [-a,1] (ms ++ [0])) n).1.1)=qBc [-a,1] (chN (shL [-a,1] (ms ++ [0])) n).1.1:=qCj (n:=n+1) (by rw [lm,l1];simp;omega) (by rw [tm2];exact qHg)
   refine ⟨n+1,by rw [nr,lm,l1];simp;omega,by omega,by rw [nr];exact tm2,by omega,λk hk => ?_,λk hk=>w1 k (by omega),by omega⟩
   have d1:Dg (n+1) (pS (shL [-a,1] (ms ++ [0])) n):=qAy _ _
   have o:=qFp (ms:=shL [-a,1] (ms ++ [0])) (n:=n) (N:=n+1) (Za9 _) (λj hj=>Zan (hw j hj)) (qAe7 (show k<n by omega))
   rw [qAfq (n:=n+1) d1 (qAe7 (by omega)) (by rw [List.length_append];simp;omega) (Za9 _),qAba (d1.l a) (Za9 _) (by omega)] at o
   rw [hq]
   rw [qAh (G:=λj=>lF a (pS (shL [-a,1] (ms ++ [0])) n) j*coef ms (k+j)) λj hj=>by rw [qBs]] at o
   exact o
theorem qVs{l:List Step}{s:Step}(h:qAp l=some s):¬ 0<s.2.2.2:=by
 have:=List.find?_some h
 unfold qXi at this
 simpa using this
theorem qAaa{a:Step}{l:List Step}{s:Step}(h:qAp (a :: l)=some s)(hn:s≠a):0<a.2.2.2:=by
 unfold qAp at h
 rw [List.find?_cons] at h
 cases e:qXi a with
 | true=>exact of_decide_eq_true e
 | false=>
  rw [e] at h
  exact absurd (Option.some.inj h).symm hn
theorem qAhw(x y:Option Rat):∃ r,qAo x y=[1] :: r:=by
 cases x with
 | none=>exact ⟨_,rfl⟩
 | some x=>cases y <;> exact ⟨_,rfl⟩
theorem qB2{x y:Option Rat}{u:List Rat}(h:u∈qAo x y):u.length=1\/u.length=2\/u.length=3:=by
 cases x with
 | none=>rw [Zai.mp h];exact .inl rfl
 | some x=>
  cases y with
  | none=>
   rcases List.mem_cons.mp h with h | h
   ·rw [h];exact .inl rfl
   ·rw [Zai.mp h];exact .inr (.inl rfl)
  | some y=>
   simp only [qAo,List.mem_cons,List.not_mem_nil,or_false] at h
   rcases h with h | h | h | h <;> rw [h] <;> simp
structure StopAt (ms:List Rat) (x y:Option Rat) (s:Step) (u:List Rat) (c:Nat):Prop where
 hu:u∈qAo x y
 lt:u.length - 1+2*c<ms.length
 e:s=(u.length - 1+2*c,u,(chN (shL u ms) c).1)
 np:¬ 0<hS (shL u ms) c
 pos:∀ v,v∈qAo x y->∀ j,v.length - 1+2*j<u.length - 1+2*c->0<hS (shL v ms) j
 one:∀ j,j<u.length - 1+c->0<hS ms j
theorem qDu{ms:List Rat}{x y:Option Rat}{s:Step}(h:qAp (goN ms (qAo x y) ms.length 0)=some s):∃ u c,StopAt ms x y s u c:=by
 rw [qF0] at h
 obtain ⟨k,_,k1,h2,h3⟩:=qX5 h
 have h0:∀ u,u∈qAo x y->0<u.length:=λu hu=>qAq u hu
 obtain ⟨u,hu,ho,e⟩:=qJ7 (List.mem_of_find?_eq_some h2)
 have u0:=h0 u hu
 obtain ⟨_,e2⟩:=qXz u0 ho
 have np:=qVs h2
 have pos:∀ v,v∈qAo x y->∀ j,v.length - 1+2*j<k->0<hS (shL v ms) j:=λv hv j hj=>qIz h0 hv (λi hi=>h3 i (by omega) hi) hj
 refine ⟨u,qG5 u k,hu,by omega, ?_, ?_,λv hv j hj=>pos v hv j (by omega),λj hj => ?_⟩
 ·rw [show u.length - 1+2*qG5 u k=k by omega]
  exact e
 ·rw [e] at np
  exact np
 ·have p1:∀ j,2*j<k->0<hS ms j:=λj hj=>by
   have:=pos [1] (qHa x y) j (by simpa using hj)
   rwa [qGm] at this
  by_cases hj2:2*j<k
  ·exact p1 j hj2
  ·have h3:u.length=3/\2*j=k:=by
    rcases qB2 hu with z | z | z <;> omega
   obtain ⟨r,hr⟩:=qAhw x y
   rw [hr] at h2
   have o1:OnN [1] k:=⟨by simp,by simp;omega⟩
   have er:qDm ms ([1] :: r) k=qHf ms [1] k :: qDm ms r k:=by
    rw [qDm,if_pos o1]
   rw [er] at h2
   have:=qAaa h2 λz=>by
    rw [e] at z
    have:=congrArg (λt:Step=>t.2.1.length) z
    simp only [qHf,Za0,List.length_nil] at this
    omega
   unfold qHf at this
   rw [show qG5 [1] k=j by unfold qG5;simp;omega,qGm] at this
   exact this
theorem qCo{x y:Option Rat}{ms u:List Rat}{s:Step}{c:Nat}(h:StopAt ms x y s u c):(qAt s).length=u.length+c/\(∀ i,coef (qAt s) i=coef (qBc u (chN (shL u ms) c).1.1) i / coef u (u.length - 1))/\coef (qAt s) (u.length+c - 1)=1:=by
 obtain ⟨lp,tp⟩:=qCq (shL u ms) c
 have u0:=qAq u h.hu
 have ut:=qUm h.hu
 rw [h.e]
 unfold qAt
 dsimp only
 generalize (chN (shL u ms) c).1.1=p at *
 have lm:=qHq u0 (show 0<p.length by omega)
 have tm:=qHk u0 (show 0<p.length by omega)
 rw [show p.length - 1=c by omega,tp,Rat.mul_one] at tm
 have nr:strip (qBc u p)=qBc u p:=qCj (n:=u.length+p.length - 2) (by omega) (by rw [tm];exact ut)
 rw [nr]
 have ld:qAm (qBc u p)=coef u (u.length - 1):=by
  unfold qAm
  rw [show (qBc u p).length - 1=u.length+p.length - 2 by omega,tm]
 have em:qEe (qBc u p)=(qBc u p).map λc=>c / coef u (u.length - 1):=by
  unfold qEe
  rw [nr,ld]
 have cm:∀ i,coef (qEe (qBc u p)) i=coef (qBc u p) i / coef u (u.length - 1):=λi=>by
  rw [em]
  unfold coef
  rw [Zae]
  cases (qBc u p)[i]? with
  | none=>show (0:Rat)=0 / _;rw [Rat.div_def,Za2]
  | some v=>rfl
 have c1:coef (qEe (qBc u p)) (u.length+p.length - 2)=1:=by
  rw [cm,tm]
  rw [Rat.div_def,Rat.mul_inv_cancel _ ut]
 have nm:strip (qEe (qBc u p))=qEe (qBc u p):=qCj (n:=u.length+p.length - 2) (by rw [em,Za6];omega) (by rw [c1];exact qHg)
 rw [nm]
 refine ⟨by rw [em,Za6];omega,cm, ?_⟩
 rw [show u.length+c - 1=u.length+p.length - 2 by omega]
 exact c1
theorem qKf{x y:Option Rat}{ms u:List Rat}{s:Step}{c:Nat}(h:StopAt ms x y s u c):(unN ms (qAt s)).isNone=true↔∀ j,j+(u.length+c - 1)<ms.length->qIp (qBc u (chN (shL u ms) c).1.1) (ms.drop j) (u.length+c)=0:=by
 have u0:=qAq u h.hu
 have e:=qAeg (ms:=ms) h.hu (shL u ms) (u.length - 1+2*c)
 rw [show (u.length - 1+2*c+1 - u.length) / 2=c by omega] at e
 rw [h.e,e,decide_eq_true_iff]
 exact ⟨λz j hj=>z j (by omega),λz j hj=>z j (by omega)⟩
theorem qZ5{ms:List Rat}{x y:Option Rat}{s:Step}{u:List Rat}{c:Nat}(h:StopAt ms x y s u c)(hn:(unN ms (qAt s)).isNone=true)(l15:ms.length<=15) :
  ∃ n,(qAt s).length=n+1/\n<=8/\coef (qAt s) n=1/\2*n<=ms.length+1/\(∀ k,k+n<ms.length->sm (n+1) (λj=>coef (qAt s) j*coef ms (k+j))=0)/\(∀ k,k<n->0<hS ms k)/\n=u.length - 1+c:=by
 have u0:=qAq u h.hu
 have hl:=qB2 h.hu
 have lt:=h.lt
 obtain ⟨l1,cm,t1⟩:=qCo h
 rw [qKf h] at hn
 obtain ⟨n,e⟩:∃ n,u.length+c=n+1:=⟨u.length+c - 1,by omega⟩
 rw [e] at l1 t1 hn
 refine ⟨n,l1,by omega,t1,by omega,λk hk => ?_,λk hk=>h.one k (by omega),by omega⟩
 have:=hn k hk
 rw [qB6] at this
 have e2:sm (n+1) (λj=>coef (qAt s) j*coef ms (k+j))=(1 / coef u (u.length - 1))*sm (n+1) (λi=>coef (qBc u (chN (shL u ms) c).1.1) i*coef (ms.drop k) i):=by
  rw [<-qDx]
  refine qAh λi _ => ?_
  rw [cm,qAv]
  grind
 rw [e2,this,Za1]
theorem qAiw{ms p:List Rat}{x y:Option Rat}(l0:0<ms.length)(l15:ms.length<=15)(h:smN ms x y=some p) :
  ∃ n,p.length=n+1/\n<=8/\coef p n=1/\2*n<=ms.length+1/\(∀ k,k+n<ms.length->sm (n+1) (λj=>coef p j*coef ms (k+j))=0)/\(∀ k,k<n->0<hS ms k):=by
 unfold smN at h
 cases hs:qAp (goN ms (qAo x y) ms.length 0) with
 | none=>
  rw [hs] at h
  cases h
  obtain ⟨n,h1,h2,h3,h4,h5,h6,_⟩:=qAk7 hs l0 l15
  exact ⟨n,h1,h2,h3,h4,h5,h6⟩
 | some s=>
  rw [hs] at h
  dsimp only at h
  split at h
  ·cases h
  ·split at h
   ·rename_i hn
    cases h
    obtain ⟨u,c,ha⟩:=qDu hs
    obtain ⟨n,h1,h2,h3,h4,h5,h6,_⟩:=qZ5 ha hn l15
    exact ⟨n,h1,h2,h3,h4,h5,h6⟩
   ·cases h
theorem qAmk{ms p:List Rat}{x y:Option Rat}(l0:0<ms.length)(l15:ms.length<=15)(h:smN ms x y=some p):LotQ p (ms.take (p.length - 1))/\∀ i,i<ms.length->goS (coef p) (ms.take (p.length - 1)).length (coef (ms.take (p.length - 1))) i=coef ms i:=by
 obtain ⟨n,h1,h2,h3,h4,h5,h6⟩:=qAiw l0 l15 h
 rw [show p.length - 1=n by omega]
 exact qAfw h1 h2 h3 h4 l0 h5 h6
def wtE(ms u:List Rat):Rat:=hS (shL u (ms ++ [0])) ((ms.length+1 - u.length) / 2)
def finN(ms:List Rat)(x y:Option Rat):Option Rat × Option Rat:=
 if ms.length % 2=0 then (some (-(wtE ms [1])),match x,y with
  | some a,some b=>some (wtE ms [-(a*b),a+b, -1])
  | _,_=>none)
 else match x with
  | none=>(none,none)
  | some a=>(some (-(wtE ms [-a,1])),match y with
   | some b=>some (wtE ms [b, -1])
   | none=>none)
def nxN(ms p:List Rat):Rat:=goS (coef p) (p.length - 1) (coef (ms.take (p.length - 1))) ms.length
def qN5(ms:List Rat)(x y:Option Rat):Option (Option Rat × Option Rat):=match qAp (goN ms (qAo x y) ms.length 0) with
 | none=>some (finN ms x y)
 | some _=>(smN ms x y).map λp=>(some (nxN ms p),some (nxN ms p))
theorem qQr{L u:List Rat}{n:Nat}(u0:0<u.length)(u3:u.length<=3)(hn:2*n+u.length<=L.length)(n15:n<=15):hS (shL u L) n=La (coef L) (pl u*(⟨pS (shL u L) n⟩*⟨pS (shL u L) n⟩)):=by
 have d:=qAy (shL u L) n
 have dp:Dg (2*n+1) ((⟨pS (shL u L) n⟩:Ps)*⟨pS (shL u L) n⟩).c:=qA3 (f:=⟨pS (shL u L) n⟩) (g:=⟨pS (shL u L) n⟩) d d (by omega)
 rw [qHn (shL u L) n (N:=32) (by omega),qDg d d (m':=λj=>La (λi=>coef L (j+i)) (pl u)) (λi hi => ?_),qTs d d (by omega) (by omega) (by omega) (by omega)]
 ·have e:pl u*((⟨pS (shL u L) n⟩:Ps)*⟨pS (shL u L) n⟩)=(⟨pS (shL u L) n⟩*⟨pS (shL u L) n⟩)*pl u:=by grind
  rw [e,qLo (k:=u.length) (qEp u) (2*n+1) _ _ dp (by omega),qCk dp (by omega)]
 ·rw [qKk (by omega) u0,qB6,qCk (qEp u) (by omega)]
  exact qAh λj hj=>by rw [qAv]
theorem qAqf(ps:List (Rat × Rat)):pl (pL ps)=qI8 (ps.map Prod.fst):=ext' λk=>qKo ps k
theorem qAi8{y:Rat}:∀ {xs:List Rat},xs.length<=30->(ev y (qI8 xs)=0↔y∈xs)
 | [],_=>by
  show ev y 1=0↔_
  rw [qAis]
  exact ⟨λz=>absurd z (by decide),λz=>nomatch z⟩
 | x :: xs,hl=>by
  rw [Za0] at hl
  show ev y (qLr x*qI8 xs)=0↔_
  rw [qHh (qGs x).d (qGb xs).d (by omega) (by omega),qPg,Rat.mul_eq_zero,qAi8 (by omega),List.mem_cons]
  refine or_congr ⟨λz=>by grind,λz=>by rw [z,Rat.sub_self]⟩ Iff.rfl
theorem LotV.value{xs ws:List Int}{b c:Int}(h:LotV xs ws b c)(y:Rat):horner (pL (qDr xs ws b c)) y=0↔y∈xs.map (Za4 · b):=by
 have l8:=h.l8
 have ln:(qDr xs ws b c).length=xs.length:=qI7 h.l
 rw [qTu y _ (by rw [qSm];omega),qAqf,qVe h.l]
 exact qAi8 (by rw [Za6];omega)
section
variable {xa xb wa wb:List Int} {x w b c:Int}
theorem qI9(y:Rat):pl [-y,1]=qLr y:=ext' λk=>by
 rw [qM9]
 match k with
 | 0=>rfl
 | 1=>rfl
 | k+2=>rw [if_neg (by omega),if_neg (by omega)];rfl
end
def wtP(f:Ps)(ps:List (Rat × Rat)):List (Rat × Rat):=ps.map λp=>(p.1,p.2*ev p.1 f)
theorem qQu(f:Ps){n:Nat}(hf:Dg n f.c)(hn:n<=64)(i:Nat):∀ ps:List (Rat × Rat),sm n (λj=>f.c j*qEn ps (i+j))=qEn (wtP f ps) i
 | []=>qB0 λj _=>by show f.c j*0=0;rw [Za1]
 | p :: ps=>by
  have e:sm n (λj=>f.c j*qEn (p :: ps) (i+j))=sm n (λj=>p.2*p.1 ^ i*(f.c j*p.1 ^ j))+sm n (λj=>f.c j*qEn ps (i+j)):=by
   rw [<-qIn]
   refine qAh λj _ => ?_
   show f.c j*(p.2*p.1 ^ (i+j)+qEn ps (i+j))=_
   rw [qH7]
   grind
  rw [e,qQu f hf hn i ps,qDx]
  show _=p.2*ev p.1 f*p.1 ^ i+qEn (wtP f ps) i
  have e2:ev p.1 f=sm n (λj=>f.c j*p.1 ^ j):=qCk hf hn
  rw [e2]
  grind
def RowOf(ms:List Rat)(ps:List (Rat × Rat)):Prop:=∀ k,k<ms.length->coef ms k=qEn ps k
theorem RowOf.sh{ms u:List Rat}{ps:List (Rat × Rat)}(h:RowOf ms ps)(hu:0<u.length)(u64:u.length<=64){i:Nat}(hi:i+u.length<=ms.length):coef (shL u ms) i=qEn (wtP (pl u) ps) i:=by
 rw [qKk hi hu,qB6, ←qQu (pl u) (qEp u) u64 i ps]
 refine qAh λj hj => ?_
 rw [qAv,h (i+j) (by omega)]
theorem qWn(f:Ps)(g:Rat->Rat):∀ ps:List (Rat × Rat),wsum g (wtP f ps)=wsum (λx=>ev x f*g x) ps
 | []=>rfl
 | p :: ps=>by
  show p.2*ev p.1 f*g p.1+wsum g (wtP f ps)=p.2*(ev p.1 f*g p.1)+wsum _ ps
  rw [qWn f g ps,Rat.mul_assoc]
theorem qFy:pl [1]=1:=ext' λk=>by
 rw [qJ9]
 cases k with
 | zero=>rfl
 | succ k=>rw [if_neg (by omega)];rfl
theorem qMu(b:Rat):pl [b, -1] = -qLr b:=ext' λk=>by
 rw [qTk,qM9]
 match k with
 | 0=>show b=_;rw [if_pos rfl,Rat.neg_neg]
 | 1=>rfl
 | k+2=>rw [if_neg (by omega),if_neg (by omega)];show (0:Rat) = -0;rfl
theorem qAjs(x a:Rat):ev x (cst a)=a:=qMf (qAir a)
theorem qAh7(a b:Rat):pl [a,b]=cst a+cst b*X:=ext' λk=>by
 rw [qKi,qA1,qIb]
 show _=_+b*X.c k
 unfold X mo
 match k with
 | 0=>show a=_;grind
 | 1=>show b=_;grind
 | k+2=>show (0:Rat)=_;grind
theorem qAmx(x a:Rat)(f:Ps):ev x (cst a*f)=a*ev x f:=qDi a f
theorem qX1(x a b:Rat):ev x (pl [a,b])=a+b*x:=by
 rw [qAh7,qYs,qAjs,qAmx,ev_X]
theorem qY4(x a b c:Rat):ev x (pl [a,b,c])=a+(b+c*x)*x:=by
 have:pl [a,b,c]=cst a+X*pl [b,c]:=qUv a [b,c]
 rw [this,qYs,qAjs,qHh (f:=X) (g:=pl [b,c]) (n:=2) (k:=2) (qAl1 1 1) (qEp [b,c]) (by omega) (by omega),ev_X,qX1]
 grind
theorem qAh9{lo hi:Option Rat}{u:List Rat}(hu:u∈qAo lo hi){x:Rat}(h:InPl lo hi x):0<=ev x (pl u):=by
 obtain ⟨h1,h2⟩:=h
 have e1:ev x (pl [1])=1:=by rw [qFy,qAis]
 have z1:(0:Rat)<=1:=by decide
 cases lo with
 | none=>rw [Zai.mp hu,e1];exact z1
 | some a=>
  have ha:=h1 a rfl
  have e2:ev x (pl [-a,1])=x - a:=by rw [qI9,qPg]
  have n2:0<=x - a:=by grind
  cases hi with
  | none=>
   rcases List.mem_cons.mp hu with rfl | hu
   ·rw [e1];exact z1
   ·rw [Zai.mp hu,e2];exact n2
  | some b=>
   have hb:=h2 b rfl
   have n3:0<=b - x:=by grind
   simp only [qAo,List.mem_cons,List.not_mem_nil,or_false] at hu
   rcases hu with rfl | rfl | rfl | rfl
   ·rw [e1];exact z1
   ·rw [e2];exact n2
   ·rw [qX1];grind
   ·rw [qY4]
    have:=Zal n2 n3
    grind
theorem qAdc{g:Rat->Rat}:∀ {ps:List (Rat × Rat)},(∀ p,p∈ps->0<p.2/\0<=g p.1)->wsum g ps=0->∀ p,p∈ps->g p.1=0:=λ{ps} h z p hp=>Za5 λhz=>by
 have:=(qHu h).2 ⟨p,hp,hz⟩
 rw [z] at this
 exact absurd this (by decide)
structure PtsIn (lo hi:Option Rat) (ps:List (Rat × Rat)):Prop where
 w:∀ p,p∈ps->0<p.2
 i:∀ p,p∈ps->InPl lo hi p.1
theorem qTb{ms:List Rat}{ps:List (Rat × Rat)}(h:RowOf ms ps){u:List Rat}{c:Nat}(u0:0<u.length)(u3:u.length<=3)(hc:u.length - 1+2*c<ms.length)(c30:c<=30):hS (shL u ms) c=wsum (λx=>ev x (pl u)*(ev x ⟨pS (shL u ms) c⟩*ev x ⟨pS (shL u ms) c⟩)) ps:=by
 have d:=qAy (shL u ms) c
 rw [qHn (shL u ms) c (N:=32) (by omega),qDg d d (m':=qEn (wtP (pl u) ps)) (λi hi=>h.sh u0 (by omega) (by omega)),qTs d d (by omega) (by omega) (by omega) (by omega),qS8,qWn]
 congr 1
 funext x
 have:=qHh (x:=x) (f:=⟨pS (shL u ms) c⟩) (g:=⟨pS (shL u ms) c⟩) d d (by omega) (by omega)
 rw [this]
theorem qAmd{ms:List Rat}{lo hi:Option Rat}{ps:List (Rat × Rat)}(h:RowOf ms ps)(hp:PtsIn lo hi ps)(l15:ms.length<=15):qK2 ms (qAo lo hi)=true:=by
 unfold qK2
 cases hs:qAp (goN ms (qAo lo hi) ms.length 0) with
 | none=>rfl
 | some s=>
  obtain ⟨u,c,ha⟩:=qDu hs
  have u0:=qAq u ha.hu
  have u3:=qB2 ha.hu
  have lt:=ha.lt
  have e:=qTb h u0 (by omega) lt (by omega)
  have nn:∀ p,p∈ps->0<p.2/\0<=ev p.1 (pl u)*(ev p.1 ⟨pS (shL u ms) c⟩*ev p.1 ⟨pS (shL u ms) c⟩):=λp hpp=>⟨hp.w p hpp,Zal (qAh9 ha.hu (hp.i p hpp)) (qAcw _)⟩
  have w0:=(qHu (g:=λx=>ev x (pl u)*(ev x ⟨pS (shL u ms) c⟩*ev x ⟨pS (shL u ms) c⟩)) nn).1
  have np:=ha.np
  rw [e] at np
  have z:wsum (λx=>ev x (pl u)*(ev x ⟨pS (shL u ms) c⟩*ev x ⟨pS (shL u ms) c⟩)) ps=0:=by grind
  have zz:=qAdc (g:=λx=>ev x (pl u)*(ev x ⟨pS (shL u ms) c⟩*ev x ⟨pS (shL u ms) c⟩)) nn z
  have es:s.2.2.2=hS (shL u ms) c:=by rw [ha.e];rfl
  dsimp only
  rw [if_neg (by rw [es,e,z];decide),qKf ha]
  intro j hj
  obtain ⟨lp,_⟩:=qCq (shL u ms) c
  have lm:=qHq u0 (show 0<(chN (shL u ms) c).1.1.length by omega)
  rw [qB6]
  have e2:sm (u.length+c) (λi=>coef (qBc u (chN (shL u ms) c).1.1) i*coef (ms.drop j) i)=qEn (wtP (pl (qBc u (chN (shL u ms) c).1.1)) ps) j:=by
   rw [<-qQu _ (n:=u.length+c) (by have:=qEp (qBc u (chN (shL u ms) c).1.1);rw [lm,lp] at this;exact this) (by omega) j ps]
   refine qAh λi hi => ?_
   rw [qAv,h (j+i) (by omega)]
  rw [e2]
  have e3:∀ p,p∈ps->ev p.1 (pl (qBc u (chN (shL u ms) c).1.1))=0:=λp hpp=>by
   rw [qUa,qHh (n:=u.length) (k:=c+1) (qEp u) (by have:=qEp (chN (shL u ms) c).1.1;rw [lp] at this;exact this) (by omega) (by omega)]
   have:=zz p hpp
   show ev p.1 (pl u)*ev p.1 ⟨pS (shL u ms) c⟩=0
   rcases Rat.mul_eq_zero.mp this with y | y
   ·rw [y,Za2]
   ·rcases Rat.mul_eq_zero.mp y with y | y <;> rw [y,Za1]
  have e4:∀ qs:List (Rat × Rat),(∀ p,p∈qs->ev p.1 (pl (qBc u (chN (shL u ms) c).1.1))=0)->qEn (wtP (pl (qBc u (chN (shL u ms) c).1.1)) qs) j=0:=by
   intro qs
   induction qs with
   | nil=>intro _;rfl
   | cons q qs ih=>
    intro hq
    show q.2*ev q.1 _*q.1 ^ j+qEn (wtP _ qs) j=0
    rw [ih λp hp=>hq p (.tail _ hp),hq q (.head _),Za1,Za2,Zah]
  exact e4 ps e3
section
variable {ms ns u:List Rat} {x y:Option Rat} {n k:Nat} {z:Rat}
theorem qAf9(h:∀ i,i<2*n->coef ms i=coef ns i):(chN ms n).1.1=(chN ns n).1.1:=by
 cases n with
 | zero=>rfl
 | succ k=>
  have e:chN ms k=chN ns k:=qJe λi hi=>h i (by omega)
  rw [ch1,ch1,e]
  have ea:alN ms (chN ns k).1.1 (chN ns k).1.2=alN ns (chN ns k).1.1 (chN ns k).1.2:=by
   unfold alN
   congr 1
   have l1:=qWm (chN ns k).1.1
   have l2:=(qCq ns k).1
   rw [qQh (xppN (chN ns k).1.1) ms (N:=2*k+2) (by omega),qQh (xppN (chN ns k).1.1) ns (N:=2*k+2) (by omega)]
   exact qAh λi hi=>by rw [h i (by omega)]
  unfold fN f1N qLv
  rw [ea]
theorem qApu(u0:0<u.length)(hn:u.length - 1+2*n=ms.length)(z z':Rat):(chN (shL u (ms ++ [z])) n).1.1=(chN (shL u (ms ++ [z'])) n).1.1:=qAf9 λi hi=>by
 have l1:(ms ++ [z]).length=ms.length+1:=by simp
 have l2:(ms ++ [z']).length=ms.length+1:=by simp
 rw [qKk (by omega) u0,qKk (by omega) u0,qB6,qB6]
 refine qAh λj hj => ?_
 rw [qAv,qAv]
 unfold coef
 rw [List.getElem?_append_left (by omega),List.getElem?_append_left (by omega)]
theorem qNa(ms:List Rat)(z:Rat):coef (ms ++ [z]) ms.length=z:=by
 unfold coef
 rw [List.getElem?_append_right (Za9 _),Nat.sub_self]
 rfl
theorem qG6(ms:List Rat)(z:Rat){i:Nat}(h:i<ms.length):coef (ms ++ [z]) i=coef ms i:=by
 unfold coef
 rw [List.getElem?_append_left h]
theorem qU5(u:List Rat):qAm u=coef u (u.length - 1):=rfl
theorem qAiq(u0:0<u.length)(u3:u.length<=3)(hn:u.length - 1+2*n=ms.length)(n15:n<=15)(z:Rat):hS (shL u (ms ++ [z])) n=wtE ms u+qAm u*z:=by
 have l1:(ms ++ [z]).length=ms.length+1:=by simp
 have l2:(ms ++ [(0:Rat)]).length=ms.length+1:=by simp
 have e:wtE ms u=hS (shL u (ms ++ [0])) n:=by unfold wtE;rw [show (ms.length+1 - u.length) / 2=n by omega]
 rw [e,qQr u0 u3 (by omega) n15,qQr u0 u3 (by omega) n15]
 have ep:pS (shL u (ms ++ [z])) n=pS (shL u (ms ++ [0])) n:=by unfold pS;rw [qApu u0 hn z 0]
 rw [ep]
 have d:=qAy (shL u (ms ++ [0])) n
 have m1:=qB9 (shL u (ms ++ [0])) n
 generalize hP:(⟨pS (shL u (ms ++ [0])) n⟩:Ps)=P
 have dP:Dg (n+1) P.c:=by rw [<-hP];exact d
 have mP:P.c n=1:=by rw [<-hP];exact m1
 have dU:Dg (u.length - 1+1) (pl u).c:=by rw [show u.length - 1+1=u.length by omega];exact qEp u
 have dPP:Dg (n+n+1) (P*P).c:=qA3 dP dP (by omega)
 have tPP:(P*P).c (n+n)=1:=by rw [Ps.mul_top dP dP,mP];exact Rat.mul_one 1
 have dF:Dg (ms.length+1) (pl u*(P*P)).c:=qA3 dU dPP (by omega)
 have tF:(pl u*(P*P)).c ms.length=qAm u:=by
  have:=Ps.mul_top dU dPP
  rw [show u.length - 1+(n+n)=ms.length by omega,tPP,Rat.mul_one] at this
  rw [this,qU5]
 rw [qCk dF (by omega),qCk dF (by omega)]
 show sm ms.length _+_*_=sm ms.length _+_*_+_
 rw [qNa,qNa,tF,qAh (G:=λi=>(pl u*(P*P)).c i*coef (ms ++ [0]) i) λi hi=>by rw [qG6 _ _ hi,qG6 _ _ hi]]
 grind
theorem qMh{ms:List Rat}{x y:Option Rat}(h:qAp (goN ms (qAo x y) ms.length 0)=none){u:List Rat}(hu:u∈qAo x y){j:Nat}(hj:u.length - 1+2*j<ms.length):0<hS (shL u ms) j:=by
 rw [qF0] at h
 have hr:=qJ6 h
 exact qIz (k:=ms.length) (λu hu=>qAq u hu) hu (λi hi=>hr i (by omega) (by omega)) hj
def Mu(ms u:List Rat):Nat->Rat:=λj=>La (λi=>coef (ms ++ [0]) (j+i)) (pl u)
theorem qLs{F:Ps}(hF:Dg 40 F.c)(u3:u.length<=3):La (Mu ms u) F=La (coef (ms ++ [0])) (pl u*F):=by
 have e:pl u*F=F*pl u:=by grind
 rw [e,qLo (k:=u.length) (qEp u) 40 _ _ hF (by omega),qCk hF (by omega)]
 rfl
theorem qAq1(u0:0<u.length)(u3:u.length<=3){i:Nat}(h:i+u.length<=ms.length):coef (shL u ms) i=Mu ms u i:=by
 rw [qKk h u0,qB6]
 unfold Mu
 rw [qCk (qEp u) (by omega)]
 refine qAh λj hj => ?_
 rw [qAv,qG6 _ _ (by omega)]
theorem qMq(h:qAp (goN ms (qAo x y) ms.length 0)=none)(hu:u∈qAo x y)(hn:n<=15)(hk:u.length+2*n<=ms.length+2)(hk2:0<n->u.length - 1+2*(n - 1)<ms.length):PosF n (Mu ms u):=by
 have u0:=qAq u hu
 have u3:=qB2 hu
 refine qAbs (ms:=shL u ms) (by omega) (λi hi=>qAq1 u0 (by omega) (by omega)) λj hj=>qMh h hu (by omega)
theorem PosF.nn{m:Nat->Rat}(h:PosF n m){f:Ps}(hf:Dg n f.c):0<=La m (f*f):=by
 by_cases nz:Nz f
 ·exact Rat.le_of_lt (h f hf nz)
 ·have:f=0:=qFe λi=>Za5 λz=>nz ⟨i,z⟩
  rw [this,show (0:Ps)*0=0 by grind,qQp]
  exact Rat.le_refl
theorem PosF.zero{m:Nat->Rat}(h:PosF n m){f:Ps}(hf:Dg n f.c)(e:La m (f*f)<=0):f=0:=qFe λi=>Za5 λz=>by
 have:=h f hf ⟨i,z⟩
 grind
theorem qEy(a b:Rat):cst (a - b)=cst a - cst b:=ext' λk=>by
 rw [qGp,qIb,qIb,qIb]
 split <;> grind
theorem qYi:cst (-1) = -1:=ext' λk=>by
 rw [qIb,qTk,qJ9]
 split <;> grind
theorem qO6(a b:Rat):pl [-(a*b),a+b, -1]=(X - cst a)*(cst b - X):=by
 have e1:pl [-(a*b),a+b, -1]=cst (-(a*b))+X*pl [a+b, -1]:=qUv _ _
 have e2:cst (-(a*b)) = -(cst a*cst b):=ext' λk=>by
  rw [qTk,qA1,qIb,qIb]
  split <;> grind
 have e3:cst (a+b)=cst a+cst b:=ext' λk=>by
  rw [qKi,qIb,qIb,qIb]
  split <;> grind
 rw [e1,qAh7,e2,e3,qYi]
 grind
theorem qPm{a b:Rat}(hab:a<b){s:Nat}(h:qAp (goN ms (qAo (some a) (some b)) ms.length 0)=none)(hl:ms.length=2*s+2)(s13:s<=12):0<wtE ms [1]+wtE ms [-(a*b),a+b, -1]:=by
 have h1:[1]∈qAo (some a) (some b) := .head _
 have h2:[-a,1]∈qAo (some a) (some b) := .tail _ (.head _)
 have h3:[b, -1]∈qAo (some a) (some b) := .tail _ (.tail _ (.head _))
 have h4:[-(a*b),a+b, -1]∈qAo (some a) (some b) := .tail _ (.tail _ (.tail _ (.head _)))
 have l0:(ms ++ [(0:Rat)]).length=ms.length+1:=by simp
 have e1:wtE ms [1]=hS (shL [1] (ms ++ [0])) (s+1):=by unfold wtE;rw [show (ms.length+1 - [(1:Rat)].length) / 2=s+1 by simp;omega]
 have e2:wtE ms [-(a*b),a+b, -1]=hS (shL [-(a*b),a+b, -1] (ms ++ [0])) s:=by unfold wtE;rw [show (ms.length+1 - [-(a*b),a+b, -1].length) / 2=s by simp;omega]
 rw [e1,e2,qQr (by simp) (by simp) (by simp;omega) (by omega),qQr (by simp) (by simp) (by simp;omega) (by omega)]
 have dp:=qAy (shL [1] (ms ++ [0])) (s+1)
 have mp:=qB9 (shL [1] (ms ++ [0])) (s+1)
 have dq:=qAy (shL [-(a*b),a+b, -1] (ms ++ [0])) s
 have mq:=qB9 (shL [-(a*b),a+b, -1] (ms ++ [0])) s
 generalize hp:(⟨pS (shL [1] (ms ++ [0])) (s+1)⟩:Ps)=p
 generalize hq:(⟨pS (shL [-(a*b),a+b, -1] (ms ++ [0])) s⟩:Ps)=q
 have dp:Dg (s+2) p.c:=by rw [<-hp];exact dp
 have mp:p.c (s+1)=1:=by rw [<-hp];exact mp
 have dq:Dg (s+1) q.c:=by rw [<-hq];exact dq
 have mq:q.c s=1:=by rw [<-hq];exact mq
 have dXq:Dg (s+2) (X*q).c:=λi hi=>by rw [qLw];exact dq.x i hi
 have tXq:(X*q).c (s+1)=1:=by rw [qLw];exact mq
 have df:Dg (s+1) (p+(cst b*q - X*q)).c:=λi hi=>by
  rw [qKi,qGp,qA1]
  by_cases e:i=s+1
  ·rw [e,mp,tXq,dq (s+1) (by omega)];grind
  ·rw [dp i (by omega),dq i (by omega),dXq i (by omega)];grind
 have dg:Dg (s+1) (X*q - cst a*q - p).c:=λi hi=>by
  rw [qGp,qGp,qA1]
  by_cases e:i=s+1
  ·rw [e,mp,tXq,dq (s+1) (by omega)];grind
  ·rw [dp i (by omega),dq i (by omega),dXq i (by omega)];grind
 generalize hf:p+(cst b*q - X*q)=f at df
 generalize hg:X*q - cst a*q - p=g at dg
 have pf:=qMq (n:=s+1) h h2 (by omega) (by simp;omega) (λ_=>by simp;omega)
 have pg:=qMq (n:=s+1) h h3 (by omega) (by simp;omega) (λ_=>by simp;omega)
 have nf:=pf.nn df
 have ng:=pg.nn dg
 have key:La (coef (ms ++ [0])) (pl [-a,1]*(f*f))+La (coef (ms ++ [0])) (pl [b, -1]*(g*g))=(b - a)*(La (coef (ms ++ [0])) (pl [1]*(p*p))+La (coef (ms ++ [0])) (pl [-(a*b),a+b, -1]*(q*q))):=by
  rw [<-qCm, ←qCm, ←qDi]
  congr 1
  have l2:pl [-a,1]=X - cst a:=qI9 a
  have l3:pl [b, -1]=cst b - X:=by rw [qMu];unfold qLr;grind
  have l4:pl [-(a*b),a+b, -1]=(X - cst a)*(cst b - X):=qO6 a b
  have lc:cst (b - a)=cst b - cst a:=qEy b a
  rw [l2,l3,l4,lc,qFy, ←hf, ←hg]
  grind
 have d40:∀ {r:Ps},Dg (s+1) r.c->Dg 40 (r*r).c:=λdr=>qA3 dr dr (by omega)
 rw [qLs (d40 df) (by simp)] at nf
 rw [qLs (d40 dg) (by simp)] at ng
 have hba:0<b - a:=by grind
 refine Za5 λnp => ?_
 have le:La (coef (ms ++ [0])) (pl [1]*(p*p))+La (coef (ms ++ [0])) (pl [-(a*b),a+b, -1]*(q*q))<=0:=by grind
 have le2:=Rat.mul_le_mul_of_nonneg_left le (Rat.le_of_lt hba)
 rw [Za1, ←key] at le2
 have f0:f=0:=pf.zero df (by rw [qLs (d40 df) (by simp)];grind)
 have g0:g=0:=pg.zero dg (by rw [qLs (d40 dg) (by simp)];grind)
 have e:f+g=cst (b - a)*q:=by rw [<-hf, ←hg,qEy];grind
 rw [f0,g0] at e
 have e2:=congrArg (λr:Ps=>r.c s) e
 have e3:((0:Ps)+0).c s=(cst (b - a)*q).c s:=e2
 rw [qA1,mq,qKi,qFi] at e3
 grind
theorem qW4{a b:Rat}(hab:a<b){s:Nat}(h:qAp (goN ms (qAo (some a) (some b)) ms.length 0)=none)(hl:ms.length=2*s+1)(s13:s<=12):0<wtE ms [-a,1]+wtE ms [b, -1]:=by
 have h1:[1]∈qAo (some a) (some b) := .head _
 have h4:[-(a*b),a+b, -1]∈qAo (some a) (some b) := .tail _ (.tail _ (.tail _ (.head _)))
 have l0:(ms ++ [(0:Rat)]).length=ms.length+1:=by simp
 have e1:wtE ms [-a,1]=hS (shL [-a,1] (ms ++ [0])) s:=by unfold wtE;rw [show (ms.length+1 - [-a,(1:Rat)].length) / 2=s by simp;omega]
 have e2:wtE ms [b, -1]=hS (shL [b, -1] (ms ++ [0])) s:=by unfold wtE;rw [show (ms.length+1 - [b,(-1:Rat)].length) / 2=s by simp;omega]
 rw [e1,e2,qQr (by simp) (by simp) (by simp;omega) (by omega),qQr (by simp) (by simp) (by simp;omega) (by omega)]
 have dp:=qAy (shL [-a,1] (ms ++ [0])) s
 have mp:=qB9 (shL [-a,1] (ms ++ [0])) s
 have dq:=qAy (shL [b, -1] (ms ++ [0])) s
 have mq:=qB9 (shL [b, -1] (ms ++ [0])) s
 generalize hp:(⟨pS (shL [-a,1] (ms ++ [0])) s⟩:Ps)=p
 generalize hq:(⟨pS (shL [b, -1] (ms ++ [0])) s⟩:Ps)=q
 have dp:Dg (s+1) p.c:=by rw [<-hp];exact dp
 have mp:p.c s=1:=by rw [<-hp];exact mp
 have dq:Dg (s+1) q.c:=by rw [<-hq];exact dq
 have mq:q.c s=1:=by rw [<-hq];exact mq
 have dr:Dg (s+1) (cst b*q - X*q+(X*p - cst a*p)).c:=λi hi=>by
  rw [qKi,qGp,qGp,qA1,qA1,qLw,qLw]
  by_cases e:i=s+1
  ·have x1:xF q.c (s+1)=1:=mq
   have x2:xF p.c (s+1)=1:=mp
   rw [e,x1,x2,dq (s+1) (by omega),dp (s+1) (by omega)];grind
  ·rw [dp i (by omega),dq i (by omega),dq.x i (by omega),dp.x i (by omega)];grind
 have dt:Dg s (q - p).c:=λi hi=>by
  rw [qGp]
  by_cases e:i=s
  ·rw [e,mp,mq];grind
  ·rw [dp i (by omega),dq i (by omega)];grind
 generalize hr:cst b*q - X*q+(X*p - cst a*p)=r at dr
 generalize ht:q - p=t at dt
 have pr:=qMq (n:=s+1) h h1 (by omega) (by simp;omega) (λ_=>by simp;omega)
 have pt:=qMq (n:=s) h h4 (by omega) (by simp;omega) (λ_=>by simp;omega)
 have nr:=pr.nn dr
 have nt:=pt.nn dt
 have key:La (coef (ms ++ [0])) (pl [1]*(r*r))+La (coef (ms ++ [0])) (pl [-(a*b),a+b, -1]*(t*t))=(b - a)*(La (coef (ms ++ [0])) (pl [-a,1]*(p*p))+La (coef (ms ++ [0])) (pl [b, -1]*(q*q))):=by
  rw [<-qCm, ←qCm, ←qDi]
  congr 1
  have l2:pl [-a,1]=X - cst a:=qI9 a
  have l3:pl [b, -1]=cst b - X:=by rw [qMu];unfold qLr;grind
  have l4:pl [-(a*b),a+b, -1]=(X - cst a)*(cst b - X):=qO6 a b
  have lc:cst (b - a)=cst b - cst a:=qEy b a
  rw [l2,l3,l4,lc,qFy, ←hr, ←ht]
  grind
 have d40:∀ {r:Ps},Dg (s+1) r.c->Dg 40 (r*r).c:=λdr=>qA3 dr dr (by omega)
 have dt1:Dg (s+1) t.c:=dt.mono (by omega)
 rw [qLs (d40 dr) (by simp)] at nr
 rw [qLs (d40 dt1) (by simp)] at nt
 have hba:0<b - a:=by grind
 refine Za5 λnp => ?_
 have le:La (coef (ms ++ [0])) (pl [-a,1]*(p*p))+La (coef (ms ++ [0])) (pl [b, -1]*(q*q))<=0:=by grind
 have le2:=Rat.mul_le_mul_of_nonneg_left le (Rat.le_of_lt hba)
 rw [Za1, ←key] at le2
 have r0:r=0:=pr.zero dr (by rw [qLs (d40 dr) (by simp)];grind)
 have t0:t=0:=pt.zero dt (by rw [qLs (d40 dt1) (by simp)];grind)
 have e:r - X*t*cst (-1) - cst b*t=cst (b - a)*p:=by rw [<-hr, ←ht,qEy,qYi];grind
 rw [r0,t0] at e
 have e2:=congrArg (λr:Ps=>r.c s) e
 have e3:((0:Ps) - X*0*cst (-1) - cst b*0).c s=(cst (b - a)*p).c s:=e2
 rw [show ((0:Ps) - X*0*cst (-1) - cst b*0)=0 by grind,qA1,mp,qFi] at e3
 grind
end
section
variable {ms u:List Rat} {x y:Option Rat} {z:Rat}
theorem qAfb(ms:List Rat)(z:Rat):(ms ++ [z]).take ms.length=ms:=by simp
theorem qL4(ms:List Rat)(z:Rat):(ms ++ [z]).length=ms.length+1:=by simp
theorem qJr(ms:List Rat)(x y:Option Rat)(z:Rat):qAp (goN (ms ++ [z]) (qAo x y) (ms ++ [z]).length 0)=(match qAp (goN ms (qAo x y) ms.length 0) with
  | some s=>some s
  | none=>qAp (qDm (ms ++ [z]) (qAo x y) ms.length)):=by
 have e:goN (ms ++ [z]) (qAo x y) ms.length 0=goN ms (qAo x y) ms.length 0:=by
  have:=qW0 (ms:=ms ++ [z]) (n:=ms.length) (fs:=qAo x y) (λu hu=>qAq u hu) (by simp) ms.length 0 (by omega)
  rw [qAfb] at this
  exact this.symm
 rw [qF0,qL4,qQf, ←qF0,e,Nat.zero_add] <;> (cases qAp (goN ms (qAo x y) ms.length 0) <;> rfl)
theorem qApp{ms:List Rat}{n:Nat}(h:∀ j,j<n->0<hS ms j):sm (n+1) (λj=>pS ms n j*coef ms (n+j))=hS ms n:=by
 have e:=qFp (ms:=ms) (n:=n) (N:=n+1) (Za9 _) (λk hk=>Zan (h k hk)) (f:=λi=>pS ms n i - 1*indF n i) (λi hi=>by
  unfold indF
  by_cases q:i=n
  ·subst q;dsimp only;rw [if_pos rfl,qB9];grind
  ·dsimp only;rw [if_neg q,qAy ms n i (by omega)];grind)
 rw [qI5, ←qHn ms n (by omega),qAba (qAy ms n) (by omega) (by omega)] at e
 grind
theorem qAki{L:List Rat}{s:Step}{c:Nat}(h:StopAt L x y s u c)(hk:u.length - 1+2*c+1=L.length)(hz:s.2.2.2=0)(c15:c<=15):(unN L (qAt s)).isNone=true:=by
 have u0:=qAq u h.hu
 have u3:=qB2 h.hu
 rw [qKf h]
 intro j hj
 have hp:∀ i,i<c->0<hS (shL u L) i:=λi hi=>h.pos u h.hu i (by omega)
 have w0:hS (shL u L) c=0:=by rw [h.e] at hz;exact hz
 obtain ⟨lp,_⟩:=qCq (shL u L) c
 have lm:=qHq u0 (show 0<(chN (shL u L) c).1.1.length by omega)
 have e:qIp (qBc u (chN (shL u L) c).1.1) (L.drop j) (u.length+c)=sm (c+1) λi=>pS (shL u L) c i*coef (shL u L) (j+i):=by
  have dm:Dg (u.length+c) (pl (qBc u (chN (shL u L) c).1.1)).c:=by have:=qEp (qBc u (chN (shL u L) c).1.1);rw [lm,lp] at this;exact this
  have dP:Dg (c+1) (pl (chN (shL u L) c).1.1).c:=by have:=qEp (chN (shL u L) c).1.1;rw [lp] at this;exact this
  rw [qB6,qAh (G:=λi=>(pl (qBc u (chN (shL u L) c).1.1)).c i*coef L (j+i)) λi hi=>by rw [qAv], ←qCk (m:=λi=>coef L (j+i)) dm (by omega),qUa]
  have ec:pl u*pl (chN (shL u L) c).1.1=pl (chN (shL u L) c).1.1*pl u:=by grind
  rw [ec,qLo (k:=u.length) (qEp u) (c+1) _ _ dP (by omega)]
  refine qAh λi hi => ?_
  rw [qKk (by omega) u0,qB6,qCk (qEp u) (by omega)]
  congr 1
  refine qAh λt ht => ?_
  rw [qAv,Nat.add_assoc]
 rw [e]
 by_cases q:j<c
 ·exact qQ3 hp q
 ·rw [show j=c by omega,qApp hp,w0]
section
variable (hi:qAp (goN ms (qAo x y) ms.length 0)=none)
include hi
theorem qPs(h:qAp (qDm (ms ++ [z]) (qAo x y) ms.length)=none):qK2 (ms ++ [z]) (qAo x y)=true:=by
 have e:=qJr ms x y z
 rw [hi] at e
 unfold qK2
 rw [e.trans h]
theorem qUt{s:Step}(h:qAp (qDm (ms ++ [z]) (qAo x y) ms.length)=some s)(hs:s.2.2.2<0):qK2 (ms ++ [z]) (qAo x y)=false:=by
 have e:=qJr ms x y z
 rw [hi] at e
 unfold qK2
 rw [e.trans h]
 dsimp only
 rw [if_pos hs]
theorem qP5(l30:ms.length<=30){s:Step}(h:qAp (qDm (ms ++ [z]) (qAo x y) ms.length)=some s)(hs:s.2.2.2=0):qK2 (ms ++ [z]) (qAo x y)=true:=by
 have e:=qJr ms x y z
 rw [hi] at e
 have e:=e.trans h
 obtain ⟨u,c,ha⟩:=qDu e
 obtain ⟨v,_,_,ev⟩:=qJ7 (List.mem_of_find?_eq_some h)
 have ek:s.1=ms.length:=by rw [ev];rfl
 have ek2:s.1=u.length - 1+2*c:=by rw [ha.e]
 unfold qK2
 rw [e]
 dsimp only
 rw [if_neg (by rw [hs];decide)]
 exact qAki ha (by rw [qL4];omega) hs (by omega)
theorem qVi(l30:ms.length<=30){a:Step}(h:qDm (ms ++ [z]) (qAo x y) ms.length=[a]):qK2 (ms ++ [z]) (qAo x y)=true↔0<=a.2.2.2:=by
 have st:qAp (qDm (ms ++ [z]) (qAo x y) ms.length)=if 0<a.2.2.2 then none else some a:=by
  rw [h]
  unfold qAp qXi
  by_cases q:0<a.2.2.2
  ·simp [q]
  ·simp [q]
 by_cases q:0<a.2.2.2
 ·rw [if_pos q] at st
  exact ⟨λ_=>Rat.le_of_lt q,λ_=>qPs hi st⟩
 ·rw [if_neg q] at st
  by_cases q2:a.2.2.2<0
  ·rw [qUt hi st q2]
   exact ⟨λz=>(by cases z),λz=>by grind⟩
  ·rw [qP5 hi l30 st (by grind)]
   exact ⟨λ_=>by grind,λ_=>rfl⟩
theorem qAel(l30:ms.length<=30){a b:Step}(h:qDm (ms ++ [z]) (qAo x y) ms.length=[a,b])(hg:0<a.2.2.2+b.2.2.2):qK2 (ms ++ [z]) (qAo x y)=true↔0<=a.2.2.2/\0<=b.2.2.2:=by
 have st:qAp (qDm (ms ++ [z]) (qAo x y) ms.length)=if 0<a.2.2.2 then (if 0<b.2.2.2 then none else some b) else some a:=by
  rw [h]
  unfold qAp qXi
  by_cases q:0<a.2.2.2
  ·by_cases q2:0<b.2.2.2
   ·simp [q,q2]
   ·simp [q,q2]
  ·simp [q]
 by_cases q:0<a.2.2.2
 ·rw [if_pos q] at st
  by_cases q1:0<b.2.2.2
  ·rw [if_pos q1] at st
   exact ⟨λ_=>⟨Rat.le_of_lt q,Rat.le_of_lt q1⟩,λ_=>qPs hi st⟩
  ·rw [if_neg q1] at st
   by_cases q2:b.2.2.2<0
   ·rw [qUt hi st q2]
    exact ⟨λz=>(by cases z),λz=>by have:=z.2;grind⟩
   ·rw [qP5 hi l30 st (by grind)]
    exact ⟨λ_=>⟨Rat.le_of_lt q,by grind⟩,λ_=>rfl⟩
 ·rw [if_neg q] at st
  by_cases q2:a.2.2.2<0
  ·rw [qUt hi st q2]
   exact ⟨λz=>(by cases z),λz=>by have:=z.1;grind⟩
  ·rw [qP5 hi l30 st (by grind)]
   exact ⟨λ_=>⟨by grind,by grind⟩,λ_=>rfl⟩
end
def inI(r:Option Rat × Option Rat)(z:Rat):Prop:=(∀ l,r.1=some l->l<=z)/\(∀ h,r.2=some h->z<=h)
theorem qAfv(u0:0<u.length)(u3:u.length<=3)(ho:OnN u ms.length)(l30:ms.length<=30)(z:Rat):(qHf (ms ++ [z]) u ms.length).2.2.2=wtE ms u+qAm u*z:=by
 obtain ⟨_,e⟩:=qXz u0 ho
 exact qAiq u0 u3 (n:=qG5 u ms.length) (by omega) (by omega) z
theorem qAn0(hxy:∀ a b,x=some a->y=some b->a<b)(l0:0<ms.length)(l26:ms.length<=25)(hi:qAp (goN ms (qAo x y) ms.length 0)=none)(z:Rat):qK2 (ms ++ [z]) (qAo x y)=true↔inI (finN ms x y) z:=by
 have l1:qAm [1]=1:=rfl
 have l2:∀ a:Rat,qAm [-a,1]=1:=λ_=>rfl
 have l3:∀ a:Rat,qAm [a, -1] = -1:=λ_=>rfl
 have l4:∀ a b:Rat,qAm [a,b, -1] = -1:=λ_ _=>rfl
 unfold finN
 by_cases he:ms.length % 2=0
 ·rw [if_pos he]
  obtain ⟨s,hs⟩:∃ s,ms.length=2*s+2:=⟨ms.length / 2 - 1,by omega⟩
  have o1:OnN [1] ms.length:=⟨by simp,by simp;omega⟩
  have n2:∀ c d:Rat,¬ OnN [c,d] ms.length:=λc d h=>by have:=h.2;simp at this;omega
  have o3:∀ c d f:Rat,OnN [c,d,f] ms.length:=λc d f=>⟨by simp;omega,by simp;omega⟩
  have w1:=qAfv (ms:=ms) (u:=[1]) (by simp) (by simp) o1 (by omega) z
  rw [l1] at w1
  cases x with
  | none=>
   have r:qDm (ms ++ [z]) (qAo none y) ms.length=[qHf (ms ++ [z]) [1] ms.length]:=by rw [qAo,qDm,if_pos o1];rfl
   rw [qVi hi (by omega) r,w1]
   refine ⟨λq=>⟨λl hl => ?_,λh hh=>by cases hh⟩,λq => ?_⟩
   ·cases hl;grind
   ·have:=q.1 _ rfl;grind
  | some a=>
   cases y with
   | none=>
    have r:qDm (ms ++ [z]) (qAo (some a) none) ms.length=[qHf (ms ++ [z]) [1] ms.length]:=by rw [qAo,qDm,if_pos o1,qDm,if_neg (n2 _ _)];rfl
    rw [qVi hi (by omega) r,w1]
    refine ⟨λq=>⟨λl hl => ?_,λh hh=>by cases hh⟩,λq => ?_⟩
    ·cases hl;grind
    ·have:=q.1 _ rfl;grind
   | some b=>
    have w2:=qAfv (ms:=ms) (u:=[-(a*b),a+b, -1]) (by simp) (by simp) (o3 _ _ _) (by omega) z
    rw [l4] at w2
    have r:qDm (ms ++ [z]) (qAo (some a) (some b)) ms.length=[qHf (ms ++ [z]) [1] ms.length,qHf (ms ++ [z]) [-(a*b),a+b, -1] ms.length]:=by rw [qAo,qDm,if_pos o1,qDm,if_neg (n2 _ _),qDm,if_neg (n2 _ _),qDm,if_pos (o3 _ _ _)];rfl
    have g:=qPm (hxy a b rfl rfl) hi hs (by omega)
    rw [qAel hi (by omega) r (by rw [w1,w2];grind),w1,w2]
    refine ⟨λq=>⟨λl hl => ?_,λh hh => ?_⟩,λq => ?_⟩
    ·cases hl;have:=q.1;grind
    ·cases hh;have:=q.2;grind
    ·have:=q.1 _ rfl;have:=q.2 _ rfl;exact ⟨by grind,by grind⟩
 ·rw [if_neg he]
  obtain ⟨s,hs⟩:∃ s,ms.length=2*s+1:=⟨ms.length / 2,by omega⟩
  have n1:¬ OnN [1] ms.length:=λh=>by have:=h.2;simp at this;omega
  have o2:∀ c d:Rat,OnN [c,d] ms.length:=λc d=>⟨by simp;omega,by simp;omega⟩
  have n3:∀ c d f:Rat,¬ OnN [c,d,f] ms.length:=λc d f h=>by have:=h.2;have:=h.1;simp at *;omega
  cases x with
  | none=>
   have r:qDm (ms ++ [z]) (qAo none y) ms.length=[]:=by rw [qAo,qDm,if_neg n1];rfl
   rw [qPs hi (by rw [r];rfl)]
   exact ⟨λ_=>⟨λl hl=>by (cases hl),λh hh=>by cases hh⟩,λ_=>rfl⟩
  | some a=>
   have w1:=qAfv (ms:=ms) (u:=[-a,1]) (by simp) (by simp) (o2 _ _) (by omega) z
   rw [l2] at w1
   cases y with
   | none=>
    have r:qDm (ms ++ [z]) (qAo (some a) none) ms.length=[qHf (ms ++ [z]) [-a,1] ms.length]:=by rw [qAo,qDm,if_neg n1,qDm,if_pos (o2 _ _)];rfl
    rw [qVi hi (by omega) r,w1]
    refine ⟨λq=>⟨λl hl => ?_,λh hh=>by cases hh⟩,λq => ?_⟩
    ·cases hl;grind
    ·have:=q.1 _ rfl;grind
   | some b=>
    have w2:=qAfv (ms:=ms) (u:=[b, -1]) (by simp) (by simp) (o2 _ _) (by omega) z
    rw [l3] at w2
    have r:qDm (ms ++ [z]) (qAo (some a) (some b)) ms.length=[qHf (ms ++ [z]) [-a,1] ms.length,qHf (ms ++ [z]) [b, -1] ms.length]:=by rw [qAo,qDm,if_neg n1,qDm,if_pos (o2 _ _),qDm,if_pos (o2 _ _),qDm,if_neg (n3 _ _ _)];rfl
    have g:=qW4 (hxy a b rfl rfl) hi hs (by omega)
    rw [qAel hi (by omega) r (by rw [w1,w2];grind),w1,w2]
    refine ⟨λq=>⟨λl hl => ?_,λh hh => ?_⟩,λq => ?_⟩
    ·cases hl;have:=q.1;grind
    ·cases hh;have:=q.2;grind
    ·have:=q.1 _ rfl;have:=q.2 _ rfl;exact ⟨by grind,by grind⟩
theorem qApi{L:List Rat}{s:Step}{c:Nat}(h:StopAt L x y s u c):(unN L (qAt s)).isNone=true↔∀ k,k+(u.length - 1+c)<L.length->sm (u.length - 1+c+1) (λj=>coef (qAt s) j*coef L (k+j))=0:=by
 have u0:=qAq u h.hu
 have ut:=qUm h.hu
 obtain ⟨l1,cm,t1⟩:=qCo h
 have e:∀ k,sm (u.length - 1+c+1) (λj=>coef (qAt s) j*coef L (k+j))=(1 / coef u (u.length - 1))*qIp (qBc u (chN (shL u L) c).1.1) (L.drop k) (u.length+c):=λk=>by
  rw [qB6,show u.length - 1+c+1=u.length+c by omega, ←qDx]
  refine qAh λi _ => ?_
  rw [cm,qAv]
  grind
 rw [qKf h]
 constructor
 ·intro q k hk
  rw [e,q k (by omega),Za1]
 ·intro q k hk
  have:=q k (by omega)
  rw [e] at this
  grind
theorem qZg{p:List Rat}(l0:0<ms.length)(l15:ms.length<=15){s:Step}(hs:qAp (goN ms (qAo x y) ms.length 0)=some s)(hp:smN ms x y=some p)(z:Rat):qK2 (ms ++ [z]) (qAo x y)=true↔z=nxN ms p:=by
 have e:=qJr ms x y z
 rw [hs] at e
 have e:qAp (goN (ms ++ [z]) (qAo x y) (ms ++ [z]).length 0)=some s:=e
 have hp0:=hp
 unfold smN at hp
 rw [hs] at hp
 dsimp only at hp
 by_cases sn:s.2.2.2<0
 ·rw [if_pos sn] at hp;cases hp
 rw [if_neg sn] at hp
 by_cases un:(unN ms (qAt s)).isNone=true
 ·rw [if_pos un] at hp
  cases hp
  obtain ⟨u,c,ha⟩:=qDu hs
  obtain ⟨v,d,hb⟩:=qDu e
  obtain ⟨la,_,ta⟩:=qCo ha
  obtain ⟨lb,_,_⟩:=qCo hb
  have ua:=qAq u ha.hu
  have ub:=qAq v hb.hu
  obtain ⟨n,hn⟩:∃ n,u.length - 1+c=n:=⟨_,rfl⟩
  have hm:v.length - 1+d=n:=by omega
  have tn:coef (qAt s) n=1:=by rw [show u.length+c - 1=n by omega] at ta;exact ta
  have h1:=(qApi ha).mp un
  rw [hn] at h1
  obtain ⟨q,go⟩:=qAmk l0 l15 hp0
  obtain ⟨n',h1',h2',h3',h4',_⟩:=qAiw l0 l15 hp0
  have en:n'=n:=by omega
  have lt:(ms.take ((qAt s).length - 1)).length=n:=by rw [Zaj];omega
  rw [lt] at go
  unfold qK2
  rw [e]
  dsimp only
  rw [if_neg sn,qApi hb,hm]
  have nx:nxN ms (qAt s) = -sm n λj=>coef (qAt s) j*coef ms (ms.length - n+j):=by
   unfold nxN
   rw [show (qAt s).length - 1=n by omega]
   rw [show (qAt s).length - 1=n by omega] at go
   by_cases n0:0<n
   ·have g:=qP8 (p:=coef (qAt s)) (b:=coef (ms.take n)) n0 (ms.length - n)
    rw [show ms.length - n+n=ms.length by omega] at g
    rw [g]
    congr 1
    exact qAh λj hj=>by rw [go _ (by omega)]
   ·obtain rfl:n=0:=by omega
    obtain ⟨k,hk⟩:∃ k,ms.length=k+1:=⟨ms.length - 1,by omega⟩
    rw [hk]
    show (if 0+1<0 then qYa (coef (qAt s)) 0 (coef (ms.take 0)) k (0+1) else -sm 0 λj=>coef (qAt s) j*qYa (coef (qAt s)) 0 (coef (ms.take 0)) k j)=_
    rw [if_neg (by omega)]
    rfl
  have last:sm (n+1) (λj=>coef (qAt s) j*coef (ms ++ [z]) (ms.length - n+j))=z - nxN ms (qAt s):=by
   show sm n _+coef (qAt s) n*coef (ms ++ [z]) (ms.length - n+n)=_
   rw [show ms.length - n+n=ms.length by omega,qNa,tn,nx,qAh (G:=λj=>coef (qAt s) j*coef ms (ms.length - n+j)) λj hj=>by rw [qG6 _ _ (by omega)]]
   grind
  constructor
  ·intro q
   have:=q (ms.length - n) (by rw [qL4];omega)
   rw [last] at this
   grind
  ·intro q k hk
   rw [qL4] at hk
   by_cases k1:k+n<ms.length
   ·rw [qAh (G:=λj=>coef (qAt s) j*coef ms (k+j)) λj hj=>by rw [qG6 _ _ (by omega)]]
    exact h1 k k1
   ·rw [show k=ms.length - n by omega,last,q]
    grind
 ·rw [if_neg un] at hp;cases hp
theorem qRf:qN5 ms x y=none↔qK2 ms (qAo x y)=false:=by
 rw [qAn1]
 unfold qN5
 cases hs:qAp (goN ms (qAo x y) ms.length 0) with
 | none=>
  have:smN ms x y=some (insN ms x):=by unfold smN;rw [hs]
  rw [this]
  exact ⟨λz=>(by cases z),λz=>(by cases z)⟩
 | some s=>
  dsimp only
  cases smN ms x y with
  | none=>exact ⟨λ_=>rfl,λ_=>rfl⟩
  | some p=>exact ⟨λz=>(by cases z),λz=>(by cases z)⟩
theorem qXv(h:qK2 ms (qAo x y)=true):∃ r,qN5 ms x y=some r:=by
 cases e:qN5 ms x y with
 | none=>rw [qRf.mp e] at h;cases h
 | some r=>exact ⟨r,rfl⟩
theorem qWv(hxy:∀ a b,x=some a->y=some b->a<b)(l0:0<ms.length)(l15:ms.length<=15){r:Option Rat × Option Rat}(h:qN5 ms x y=some r)(z:Rat):qK2 (ms ++ [z]) (qAo x y)=true↔inI r z:=by
 unfold qN5 at h
 cases hs:qAp (goN ms (qAo x y) ms.length 0) with
 | none=>
  rw [hs] at h
  cases h
  exact qAn0 hxy l0 (by omega) hs z
 | some s=>
  rw [hs] at h
  dsimp only at h
  cases hp:smN ms x y with
  | none=>rw [hp] at h;cases h
  | some p=>
   rw [hp] at h
   cases h
   rw [qZg l0 l15 hs hp z]
   refine ⟨λq=>⟨λl hl => ?_,λg hg => ?_⟩,λq => ?_⟩
   ·cases hl;rw [q];exact Rat.le_refl
   ·cases hg;rw [q];exact Rat.le_refl
   ·have:=q.1 _ rfl;have:=q.2 _ rfl;grind
end
end MR
namespace MR
open PySem PySem.Spec PyProof.Rows L2
def mvF(t:Rat):Nat->Fu->Fu
 | 0,_=>λ_=>0
 | n+1,f=>λi=>(if i=0 then f 0 else 0)+(xF (mvF t n λj=>f (j+1)) i+t*mvF t n (λj=>f (j+1)) i)
theorem qAk6(t:Rat):∀ (n:Nat) (f:Fu),Dg n (mvF t n f)
 | 0,f=>λi _=>rfl
 | n+1,f=>λi hi=>by
  have h:=qAk6 t n λj=>f (j+1)
  show (if i=0 then f 0 else 0)+(xF (mvF t n λj=>f (j+1)) i+t*mvF t n (λj=>f (j+1)) i)=0
  rw [if_neg (by omega),h.x i hi,h i (by omega)]
  grind
theorem qYh(t c:Rat):∀ (n:Nat) (f g:Fu) (i:Nat),mvF t n (λj=>f j - c*g j) i=mvF t n f i - c*mvF t n g i
 | 0,f,g,i=>by
  show (0:Rat)=0 - c*0
  grind
 | n+1,f,g,i=>by
  have ih:=qYh t c n (λj=>f (j+1)) (λj=>g (j+1))
  show (if i=0 then f 0 - c*g 0 else 0)+(xF (mvF t n λj=>f (j+1) - c*g (j+1)) i+t*mvF t n (λj=>f (j+1) - c*g (j+1)) i)=((if i=0 then f 0 else 0)+(xF (mvF t n λj=>f (j+1)) i+t*mvF t n (λj=>f (j+1)) i)) - c*((if i=0 then g 0 else 0)+(xF (mvF t n λj=>g (j+1)) i+t*mvF t n (λj=>g (j+1)) i))
  have ex:xF (mvF t n λj=>f (j+1) - c*g (j+1)) i=xF (mvF t n λj=>f (j+1)) i - c*xF (mvF t n λj=>g (j+1)) i:=by
   cases i with
   | zero=>show (0:Rat)=0 - c*0;grind
   | succ i=>exact ih i
  rw [ex,ih i]
  by_cases h:i=0
  ·simp only [if_pos h];grind
  ·simp only [if_neg h];grind
theorem qAea(t:Rat):∀ (n:Nat) {f:Fu},(∀ i,f i=0)->∀ i,mvF t n f i=0
 | 0,f,h,i=>rfl
 | n+1,f,h,i=>by
  have ih:=qAea t n (f:=λj=>f (j+1)) λi=>h _
  show (if i=0 then f 0 else 0)+(xF (mvF t n λj=>f (j+1)) i+t*mvF t n (λj=>f (j+1)) i)=0
  have ex:xF (mvF t n λj=>f (j+1)) i=0:=by
   cases i with
   | zero=>rfl
   | succ i=>exact ih i
  rw [ex,ih i,h 0]
  by_cases h:i=0
  ·simp only [if_pos h];grind
  ·simp only [if_neg h];grind
theorem qQ2(t:Rat):∀ (n N:Nat) {f:Fu},Dg n f->n<=N->∀ i,mvF t N f i=mvF t n f i
 | 0,N,f,h,_,i=>qAea t N (λi=>h i (Nat.zero_le _)) i
 | n+1,0,f,_,h,i=>absurd h (by omega)
 | n+1,N+1,f,h,hn,i=>by
  have ih:=qQ2 t n N (f:=λj=>f (j+1)) (λi hi=>h (i+1) (by omega)) (by omega)
  show (if i=0 then f 0 else 0)+(xF (mvF t N λj=>f (j+1)) i+t*mvF t N (λj=>f (j+1)) i)=(if i=0 then f 0 else 0)+(xF (mvF t n λj=>f (j+1)) i+t*mvF t n (λj=>f (j+1)) i)
  have ex:xF (mvF t N λj=>f (j+1)) i=xF (mvF t n λj=>f (j+1)) i:=by
   cases i with
   | zero=>rfl
   | succ i=>exact ih i
  rw [ex,ih i]
theorem mv_x(t:Rat)(n:Nat)(f:Fu)(i:Nat):mvF t (n+1) (xF f) i=xF (mvF t n f) i+t*mvF t n f i:=by
 show (if i=0 then (0:Rat) else 0)+(xF (mvF t n λj=>f j) i+t*mvF t n (λj=>f j) i)=_
 by_cases h:i=0
 ·rw [if_pos h,Zah]
 ·rw [if_neg h,Zah]
theorem sm1(F:Fu):sm 1 F=F 0:=by show 0+F 0=F 0;rw [Zah]
inductive All2 {α β:Type} (R:α->β->Prop):List α->List β->Prop
 | nil:All2 R [] []
 | cons {a b as bs}:R a b->All2 R as bs->All2 R (a :: as) (b :: bs)
theorem All2.append{α β:Type}{R:α->β->Prop}{as cs:List α}{bs ds:List β}(h:All2 R as bs)(g:All2 R cs ds):All2 R (as ++ cs) (bs ++ ds):=by
 induction h with
 | nil=>exact g
 | cons h1 _ ih=>exact .cons h1 ih
theorem All2.len{α β:Type}{R:α->β->Prop}{as:List α}{bs:List β}(h:All2 R as bs):bs.length=as.length:=by
 induction h with
 | nil=>rfl
 | cons _ _ ih=>rw [Za0,Za0,ih]
theorem All2.get{α β:Type}{R:α->β->Prop}{as:List α}{bs:List β}(h:All2 R as bs):∀ (i:Nat) (a:α),as[i]?=some a->∃ b,bs[i]?=some b/\R a b:=by
 induction h with
 | nil=>intro i a h;cases i <;> cases h
 | cons h1 _ ih=>
  intro i a h
  cases i with
  | zero=>cases h;exact ⟨_,rfl,h1⟩
  | succ i=>exact ih i a h
end MR
namespace MR
open PySem PySem.Spec PyProof.Rows L2
open Ps
theorem qAdi{ms u P:List Rat}{c j:Nat}(u0:0<u.length)(u3:u.length<=3)(lP:P.length=c+1)(hj:j+(u.length+c)<=ms.length)(c15:c<=15):qIp (qBc u P) (ms.drop j) (u.length+c)=sm (c+1) λi=>coef P i*coef (shL u ms) (j+i):=by
 have lm:=qHq u0 (show 0<P.length by omega)
 have dp:Dg (c+1) (pl P).c:=by have:=qEp P;rw [lP] at this;exact this
 have dm:Dg (u.length+c) (pl (qBc u P)).c:=by have:=qEp (qBc u P);rw [lm,lP] at this;exact this.mono (by omega)
 have e1:qIp (qBc u P) (ms.drop j) (u.length+c)=La (coef (ms.drop j)) (pl (qBc u P)):=by
  rw [qB6,qCk dm (by omega)]
 have e:pl u*pl P=pl P*pl u:=by grind
 rw [e1,qUa,e,qLo (qEp u) (c+1) _ _ dp (by omega)]
 refine qAh λi hi => ?_
 rw [qKk (by omega) u0,qB6,qCk (qEp u) (by omega)]
 show coef P i*_=_
 congr 1
 exact qAh λl hl=>by rw [qAv,qAv,Nat.add_assoc]
section
variable {ms ns:List Rat} {x y x' y':Option Rat}
theorem qZ6{t:Step}{u:List Rat}{c:Nat}(A:StopAt ms x y t u c):qAp (goN (ms.take (u.length - 1+2*c)) (qAo x y) (ms.take (u.length - 1+2*c)).length 0)=none:=by
 have lt:=A.lt
 have ln:(ms.take (u.length - 1+2*c)).length=u.length - 1+2*c:=by rw [Zaj];omega
 cases hs:qAp (goN (ms.take (u.length - 1+2*c)) (qAo x y) (ms.take (u.length - 1+2*c)).length 0) with
 | none=>rfl
 | some t'=>
  exfalso
  obtain ⟨v,d,B⟩:=qDu hs
  have v0:=qAq v B.hu
  have lb:=B.lt
  rw [ln] at lb
  have on:OnN v (v.length - 1+2*d):=by unfold OnN;omega
  have ct:qG5 v (v.length - 1+2*d)=d:=by unfold qG5;omega
  have e:=qMk (ms:=ms) (n:=u.length - 1+2*c) v0 on lb (by omega)
  have e2:(qHf (ms.take (u.length - 1+2*c)) v (v.length - 1+2*d)).2.2.2=(qHf ms v (v.length - 1+2*d)).2.2.2:=by rw [e]
  have h1:(qHf (ms.take (u.length - 1+2*c)) v (v.length - 1+2*d)).2.2.2=hS (shL v (ms.take (u.length - 1+2*c))) (qG5 v (v.length - 1+2*d)):=rfl
  have h2:(qHf ms v (v.length - 1+2*d)).2.2.2=hS (shL v ms) (qG5 v (v.length - 1+2*d)):=rfl
  rw [h1,h2,ct] at e2
  have p:=A.pos v B.hu d lb
  rw [<-e2] at p
  exact B.np p
theorem qO8{w:List Rat}(hw:w∈qAo x y){k j:Nat}(hk:w.length - 1+2*j=k)(lt:k<ms.length)(l25:ms.length<=25):hS (shL w ms) j=wtE (ms.take k) w+qAm w*coef ms k:=by
 have w0:=qAq w hw
 have w3:=qB2 hw
 have on:OnN w k:=by unfold OnN;omega
 have ct:qG5 w k=j:=by unfold qG5;omega
 have e:=qMk (ms:=ms) (n:=k+1) w0 on (by omega) (by omega)
 have e2:(qHf (ms.take (k+1)) w k).2.2.2=(qHf ms w k).2.2.2:=by rw [e]
 have h1:(qHf (ms.take (k+1)) w k).2.2.2=hS (shL w (ms.take (k+1))) (qG5 w k):=rfl
 have h2:(qHf ms w k).2.2.2=hS (shL w ms) (qG5 w k):=rfl
 rw [h1,h2,ct] at e2
 have tk:ms.take (k+1)=ms.take k ++ [coef ms k]:=by
  rw [List.take_add_one,Za3 lt]
  have:coef ms k=ms[k]:=qCt (Za3 lt)
  rw [this]
  rfl
 rw [<-e2,tk]
 exact qAiq w0 (by omega) (by rw [Zaj];omega) (by omega) _
theorem qAa4(hxy:∀ a b,x=some a->y=some b->a<b){t:Step}{u v:List Rat}{c d:Nat}(A:StopAt ms x y t u c)(l25:ms.length<=25)(hv:v∈qAo x y)(ne:v≠u)(e:v.length - 1+2*d=u.length - 1+2*c):0<hS (shL u ms) c+hS (shL v ms) d:=by
 have pre:=qZ6 A
 have lt:=A.lt
 have ln:(ms.take (u.length - 1+2*c)).length=u.length - 1+2*c:=by rw [Zaj];omega
 have hu:=A.hu
 rw [qO8 hu (k:=u.length - 1+2*c) rfl lt l25,qO8 hv (k:=u.length - 1+2*c) e lt l25]
 generalize coef ms (u.length - 1+2*c)=z
 cases x with
 | none=>
  exfalso
  have h1:u=[1]:=by simpa [qAo] using hu
  have h2:v=[1]:=by simpa [qAo] using hv
  exact ne (h2.trans h1.symm)
 | some a=>
  cases y with
  | none=>
   exfalso
   have h1:u=[1]\/u=[-a,1]:=by simpa [qAo] using hu
   have h2:v=[1]\/v=[-a,1]:=by simpa [qAo] using hv
   rcases h1 with rfl | rfl <;> rcases h2 with rfl | rfl
   ·exact ne rfl
   ·simp at e;omega
   ·simp at e;omega
   ·exact ne rfl
  | some b=>
   have hab:=hxy a b rfl rfl
   have h1:u=[1]\/u=[-a,1]\/u=[b, -1]\/u=[-(a*b),a+b, -1]:=by simpa [qAo] using hu
   have h2:v=[1]\/v=[-a,1]\/v=[b, -1]\/v=[-(a*b),a+b, -1]:=by simpa [qAo] using hv
   have q1:qAm [(1:Rat)]=1:=rfl
   have q2:qAm [-a,1]=1:=rfl
   have q3:qAm [b, -1] = -1:=rfl
   have q4:qAm [-(a*b),a+b, -1] = -1:=rfl
   rcases h1 with rfl | rfl | rfl | rfl <;> rcases h2 with rfl | rfl | rfl | rfl
   ·exact absurd rfl ne
   ·simp at e;omega
   ·simp at e;omega
   ·have g:=qPm hab (s:=d) pre (by rw [ln];simp at e ⊢;omega) (by omega)
    rw [q1,q4]
    grind
   ·simp at e;omega
   ·exact absurd rfl ne
   ·have g:=qW4 hab (s:=d) pre (by rw [ln];simp at e ⊢;omega) (by omega)
    rw [q2,q3]
    grind
   ·simp at e;omega
   ·simp at e;omega
   ·have g:=qW4 hab (s:=d) pre (by rw [ln];simp at e ⊢;omega) (by omega)
    rw [q2,q3]
    grind
   ·exact absurd rfl ne
   ·simp at e;omega
   ·have g:=qPm hab (s:=c) pre (by rw [ln];simp;omega) (by simp at lt;omega)
    rw [q1,q4]
    grind
   ·simp at e;omega
   ·simp at e;omega
   ·exact absurd rfl ne
structure Corr (ms ns:List Rat) (x y x' y':Option Rat) (F:List Rat->List Rat->Prop):Prop where
 len:ns.length=ms.length
 l:∀ u v,F u v->v.length=u.length
 to:∀ u,u∈qAo x y->∃ v,v∈qAo x' y'/\F u v
 fro:∀ v,v∈qAo x' y'->∃ u,u∈qAo x y/\F u v
 sg:∀ u v,F u v->u∈qAo x y->∀ j,u.length - 1+2*j<ms.length->(∀ i,i<j->0<hS (shL u ms) i)->∃ r:Rat,0<r/\hS (shL v ns) j=r*hS (shL u ms) j
 un:∀ u v,F u v->u∈qAo x y->∀ c,u.length - 1+2*c<ms.length->(∀ i,i<c->0<hS (shL u ms) i)->
  ((∀ k,k+(u.length+c - 1)<ms.length->sm (c+1) (λi=>pS (shL u ms) c i*coef (shL u ms) (k+i))=0)↔∀ k,k+(u.length+c - 1)<ms.length->sm (c+1) (λi=>pS (shL v ns) c i*coef (shL v ns) (k+i))=0)
variable {F:List Rat->List Rat->Prop}
theorem Corr.stop(C:Corr ms ns x y x' y' F)(hxy:∀ a b,x'=some a->y'=some b->a<b)(l25:ms.length<=25) :
  (qAp (goN ms (qAo x y) ms.length 0)=none/\qAp (goN ns (qAo x' y') ns.length 0)=none)\/
  ∃ t t' u v c,qAp (goN ms (qAo x y) ms.length 0)=some t/\qAp (goN ns (qAo x' y') ns.length 0)=some t'/\StopAt ms x y t u c/\StopAt ns x' y' t' v c/\F u v/\∃ r:Rat,0<r/\hS (shL v ns) c=r*hS (shL u ms) c:=by
 have ln:=C.len
 cases hs:qAp (goN ms (qAo x y) ms.length 0) with
 | none=>
  left
  refine ⟨rfl, ?_⟩
  cases ht:qAp (goN ns (qAo x' y') ns.length 0) with
  | none=>rfl
  | some t'=>
   exfalso
   obtain ⟨v,c,B⟩:=qDu ht
   obtain ⟨u,hu,f⟩:=C.fro v B.hu
   have l:=C.l u v f
   have lt:=B.lt
   obtain ⟨r,r0,e⟩:=C.sg u v f hu c (by omega) λi hi=>qMh hs hu (by omega)
   have p:=qMh hs hu (j:=c) (by omega)
   have np:=B.np
   rw [e] at np
   exact np (Rat.mul_pos r0 p)
 | some t=>
  right
  obtain ⟨u,c,A⟩:=qDu hs
  obtain ⟨v,hv,f⟩:=C.to u A.hu
  have l:=C.l u v f
  have u0:=qAq u A.hu
  have lt:=A.lt
  obtain ⟨r,r0,e⟩:=C.sg u v f A.hu c lt λi hi=>A.pos u A.hu i (by omega)
  have np:¬ 0<hS (shL v ns) c:=λz=>A.np (by
   rw [e] at z
   refine Za5 λq => ?_
   have:=Rat.mul_le_mul_of_nonneg_left (Rat.not_lt.mp q) (Rat.le_of_lt r0)
   rw [Za1] at this
   exact absurd z (Rat.not_lt.mpr this))
  have ps:∀ v',v'∈qAo x' y'->∀ j,v'.length - 1+2*j<u.length - 1+2*c->0<hS (shL v' ns) j:=λv' hv' j hj=>by
   obtain ⟨u',hu',f'⟩:=C.fro v' hv'
   have l':=C.l u' v' f'
   obtain ⟨r',r0',e'⟩:=C.sg u' v' f' hu' j (by omega) λi hi=>A.pos u' hu' i (by omega)
   rw [e']
   exact Rat.mul_pos r0' (A.pos u' hu' j (by omega))
  cases ht:qAp (goN ns (qAo x' y') ns.length 0) with
  | none=>exact absurd (qMh ht hv (j:=c) (by omega)) np
  | some t'=>
   obtain ⟨v',c',B⟩:=qDu ht
   have v0:=qAq v' B.hu
   have ge:u.length - 1+2*c<=v'.length - 1+2*c':=Nat.not_lt.mp λz=>B.np (ps v' B.hu c' z)
   have le:v'.length - 1+2*c'<=u.length - 1+2*c:=Nat.not_lt.mp λz=>np (B.pos v hv c (by omega))
   by_cases ev:v=v'
   ·subst ev
    obtain rfl:c'=c:=by omega
    exact ⟨t,t',u,v,c',rfl,rfl,A,B,f,r,r0,e⟩
   ·exfalso
    have s:=qAa4 hxy B (by omega) hv ev (d:=c) (by omega)
    have n1:=B.np
    grind
theorem qX8(h:qAp (goN ms (qAo x y) ms.length 0)=none):smN ms x y=some (insN ms x):=by
 unfold smN
 rw [h]
theorem qUf(ms:List Rat)(x:Option Rat):(insN ms x).length=(ms.length+1) / 2+1:=by
 unfold insN
 by_cases he:ms.length % 2=0
 ·rw [if_pos he]
  have:=(qCq (shL [1] (ms ++ [0])) (ms.length / 2)).1
  unfold ortN
  omega
 ·rw [if_neg he]
  cases x with
  | none=>
   have:=(qCq (shL [1] (ms ++ [0] ++ [0])) (ms.length / 2+1)).1
   dsimp only
   unfold ortN
   omega
  | some a=>
   obtain ⟨lp,tp⟩:=qCq (shL [-a,1] (ms ++ [0])) (ms.length / 2)
   dsimp only
   unfold ortN
   generalize (chN (shL [-a,1] (ms ++ [0])) (ms.length / 2)).1.1=p at *
   have lm:=qHq (u:=[-a,1]) (by simp) (show 0<p.length by omega)
   have tm:=qHk (u:=[-a,1]) (by simp) (show 0<p.length by omega)
   have l2:([-a,1]:List Rat).length=2:=rfl
   rw [l2] at lm tm
   rw [show p.length - 1=ms.length / 2 by omega,tp,show coef ([-a,1]:List Rat) (2 - 1)=1 from rfl,Rat.mul_one] at tm
   rw [qCj (n:=2+p.length - 2) (by omega) (by rw [tm];decide)]
   omega
theorem qAbf{t:Step}{u:List Rat}{c:Nat}(A:StopAt ms x y t u c)(l25:ms.length<=25):(unN ms (qAt t)).isNone=true↔∀ k,k+(u.length+c - 1)<ms.length->sm (c+1) (λi=>pS (shL u ms) c i*coef (shL u ms) (k+i))=0:=by
 have u0:=qAq u A.hu
 have u3:=qB2 A.hu
 have lt:=A.lt
 obtain ⟨lp,_⟩:=qCq (shL u ms) c
 rw [qKf A]
 refine ⟨λh k hk => ?_,λh k hk => ?_⟩
 ·have:=h k hk
  rw [qAdi u0 (by omega) lp (by omega) (by omega)] at this
  exact this
 ·rw [qAdi u0 (by omega) lp (by omega) (by omega)]
  exact h k hk
theorem Corr.count(C:Corr ms ns x y x' y' F)(hxy:∀ a b,x'=some a->y'=some b->a<b)(l25:ms.length<=25):(smN ns x' y').map List.length=(smN ms x y).map List.length:=by
 have ln:=C.len
 rcases C.stop hxy l25 with ⟨h1,h2⟩ | ⟨t,t',u,v,c,h1,h2,A,B,f,r,r0,e⟩
 ·rw [qX8 h1,qX8 h2]
  show some _=some _
  rw [qUf,qUf,ln]
 ·have l:=C.l u v f
  have u0:=qAq u A.hu
  have lt:=A.lt
  have w1:t.2.2.2=hS (shL u ms) c:=by rw [A.e];rfl
  have w2:t'.2.2.2=hS (shL v ns) c:=by rw [B.e];rfl
  have np:=A.np
  have un:(unN ns (qAt t')).isNone=true↔(unN ms (qAt t)).isNone=true:=by
   rw [qAbf A l25,qAbf B (by omega),C.un u v f A.hu c lt λi hi=>A.pos u A.hu i (by omega),l,ln]
  unfold smN
  rw [h1,h2]
  dsimp only
  rw [w1,w2,e]
  by_cases z:hS (shL u ms) c<0
  ·have:r*hS (shL u ms) c<0:=by
    have:=Rat.mul_lt_mul_of_pos_left z r0
    rwa [Za1] at this
   rw [if_pos z,if_pos this]
  ·have z0:hS (shL u ms) c=0:=by grind
   have lt0:¬ (0:Rat)<0:=by decide
   rw [z0,Za1,if_neg lt0]
   by_cases q:(unN ms (qAt t)).isNone=true
   ·rw [if_pos (un.mpr q),if_neg lt0,if_pos q]
    show some _=some _
    rw [(qCo A).1,(qCo B).1,l]
   ·rw [if_neg (λz=>q (un.mp z)),if_neg lt0,if_neg q]
end
end MR
namespace MR
open PySem PySem.Spec PyProof.Rows L2
def SgP(s e:Rat)(d:Nat)(f:Fu):Prop:=∀ i,i<=d->0<=(-s) ^ (d - i)*mvF e (d+1) f i
section
variable {s e:Rat}
theorem qAgf(hs:s=1\/s = -1):s*s=1:=by
 rcases hs with h | h <;> subst h <;> grind
theorem qAq9(e:Rat)(n:Nat){f:Fu}(hf:Dg n f)(i:Nat):mvF e (n+1) (lF e f) i=xF (mvF e n f) i:=by
 have h:=qYh e e (n+1) (xF f) f i
 show mvF e (n+1) (λj=>xF f j - e*f j) i=_
 rw [h,mv_x,qQ2 e n (n+1) hf (by omega)]
 grind
theorem qAm1:SgP s e 0 (coef [1]):=λi hi=>by
 obtain rfl:i=0:=by omega
 show 0<=(-s) ^ 0*(coef [1] 0+(0+e*0))
 rw [Rat.pow_zero,show coef [1] 0=1 from rfl]
 grind
theorem qAb4{d:Nat}{f g:Fu}(h:∀ i,f i=g i)(hf:SgP s e d f):SgP s e d g:=by
 rw [<-show f=g from funext h]
 exact hf
theorem qAqd{d:Nat}{f:Fu}(hf:Dg (d+1) f)(h:SgP s e d f):SgP s e (d+1) (lF e f):=λi hi=>by
 rw [qAq9 e (d+1) hf]
 cases i with
 | zero=>show 0<=_*(0:Rat);rw [Za1];exact Rat.le_refl
 | succ i=>
  show 0<=(-s) ^ (d+1 - (i+1))*mvF e (d+1) f i
  rw [show d+1 - (i+1)=d - i by omega]
  exact h i (by omega)
theorem qAnk{k:Nat}{p r p1:Fu}{q:Rat}(hs:s=1\/s = -1)(q0:0<=q)(dp:Dg (k+1) p)(dr:Dg (k+1) r)(hp:SgP s e k p)(hr:SgP s e k r)(h1:∀ i,p1 i=lF e r i - s*q*p i):SgP s e (k+1) p1:=λi hi=>by
 have sq:=qAgf hs
 rw [show p1=λi=>lF e r i - s*q*p i from funext h1,qYh,qQ2 e (k+1) (k+1+1) dp (by omega)]
 have a:=qAqd dr hr i hi
 have b:0<=(-s) ^ (k+1 - i)*(-(s*q*mvF e (k+1) p i)):=by
  by_cases hid:i<=k
  ·rw [show k+1 - i=(k - i)+1 by omega,Rat.pow_succ]
   have:=Zal q0 (hp i hid)
   generalize (-s) ^ (k - i)=T at *
   generalize mvF e (k+1) p i=M at *
   have e1:T * -s * -(s*q*M)=s*s*(q*(T*M)):=by grind
   rw [e1,sq,Rat.one_mul]
   exact this
  ·rw [qAk6 e (k+1) p i (by omega),Za1,show -(0:Rat)=0 by grind,Za1]
   exact Rat.le_refl
 have:=Rat.add_nonneg a b
 rw [<-Rat.mul_add] at this
 rw [Rat.sub_eq_add_neg]
 exact this
theorem qAo1{k:Nat}{p r0 r1:Fu}{q:Rat}(hs:s=1\/s = -1)(q0:0<=q)(dr:Dg (k+1) r0)(hp:SgP s e (k+1) p)(hr:SgP s e k r0)(h1:∀ i,r1 i=p i - s*q*r0 i):SgP s e (k+1) r1:=λi hi=>by
 have sq:=qAgf hs
 rw [show r1=λi=>p i - s*q*r0 i from funext h1,qYh,qQ2 e (k+1) (k+1+1) dr (by omega)]
 have a:=hp i hi
 have b:0<=(-s) ^ (k+1 - i)*(-(s*q*mvF e (k+1) r0 i)):=by
  by_cases hid:i<=k
  ·rw [show k+1 - i=(k - i)+1 by omega,Rat.pow_succ]
   have:=Zal q0 (hr i hid)
   generalize (-s) ^ (k - i)=T at *
   generalize mvF e (k+1) r0 i=M at *
   have e1:T * -s * -(s*q*M)=s*s*(q*(T*M)):=by grind
   rw [e1,sq,Rat.one_mul]
   exact this
  ·rw [qAk6 e (k+1) r0 i (by omega),Za1,show -(0:Rat)=0 by grind,Za1]
   exact Rat.le_refl
 have:=Rat.add_nonneg a b
 rw [<-Rat.mul_add] at this
 rw [Rat.sub_eq_add_neg]
 exact this
end
structure Pair (mu nu:List Rat) (s e:Rat):Prop where
 hs:s=1\/s = -1
 form:∀ (n:Nat) (f g:Fu),n<=12->Dg n f->Dg n g->Bf 20 (coef nu) f g=s*Bf 20 (coef mu) (lF e f) g
section
variable {mu nu:List Rat} {s e:Rat}
theorem qAqe(ms:List Rat){k:Nat}(hk:k<=15):hS ms k=Bf 20 (coef ms) (pS ms k) (pS ms k):=qHn ms k (by omega)
theorem qXa{ms:List Rat}{n:Nat}(hn:n<=12)(h:∀ k,k<n->hS ms k≠0){f:Fu}(hf:Dg n f):Bf 20 (coef ms) (pS ms n) f=0:=qFp (N:=19) (by omega) h hf
theorem qAhs{ms:List Rat}{n:Nat}(hn:n<=12)(h:∀ k,k<n->hS ms k≠0){f:Fu}(hf:Dg (n+1) f)(h1:f n=1):Bf 20 (coef ms) (pS ms n) f=hS ms n:=by
 have d:Dg n λi=>f i - 1*pS ms n i:=λi hi=>by
  by_cases e:i=n
  ·subst e
   show f i - 1*pS ms i i=0
   rw [h1,qB9]
   grind
  ·show f i - 1*pS ms n i=0
   rw [hf i (by omega),qAy ms n i (by omega)]
   grind
 have z:=qXa hn h d
 rw [qI5, ←qAqe ms (by omega)] at z
 grind
theorem qAoz{m f g:Fu}{e:Rat}(hf:Dg 19 f)(hg:Dg 19 g):Bf 20 m (lF e f) g=Bf 20 m f (lF e g):=by
 rw [Bf_l]
 show _=Bf 20 m f (λi=>xF g i - e*g i)
 rw [qI5,Bf_x hf hg]
theorem Pair.up(P:Pair mu nu s e){k:Nat}(hk:k<=8)(h:∀ j,j<=k->0<hS mu j)(g:∀ j,j<k->0<hS nu j)(i:Nat):pS mu (k+1) i=lF e (pS nu k) i - s*(hS nu k / hS mu k)*pS mu k i:=by
 have sq:=qAgf P.hs
 have hk0:hS mu k≠0:=Zan (h k (Za9 _))
 have z:=nondeg (ms:=mu) (N:=19) (k+1) (by omega) (λj hj=>Zan (h j (by omega))) (f:=λi=>(lF e (pS nu k) i - 1*pS mu (k+1) i) - s*(hS nu k / hS mu k)*pS mu k i) (λi hi=>by
  have d1:=(qAy nu k).l e
  by_cases ei:i=k+1
  ·subst ei
   show (lF e (pS nu k) (k+1) - 1*pS mu (k+1) (k+1)) - s*(hS nu k / hS mu k)*pS mu k (k+1)=0
   rw [qAjn (qAy nu k),qB9,qB9,qAy mu k (k+1) (by omega)]
   grind
  ·show (lF e (pS nu k) i - 1*pS mu (k+1) i) - s*(hS nu k / hS mu k)*pS mu k i=0
   rw [d1 i (by omega),qAy mu (k+1) i (by omega),qAy mu k i (by omega)]
   grind) (λj hj=>by
  have fm:=P.form (k+1) (pS nu k) (pS mu j) (by omega) (qAy nu k) ((qAy mu j).mono (by omega))
  have gn:∀ l,l<k->hS nu l≠0:=λl hl=>Zan (g l hl)
  have hn:∀ l,l<k->hS mu l≠0:=λl hl=>Zan (h l (by omega))
  have hn1:∀ l,l<k+1->hS mu l≠0:=λl hl=>Zan (h l (by omega))
  have z2:Bf 20 (coef mu) (pS mu (k+1)) (pS mu j)=0:=qXa (by omega) hn1 ((qAy mu j).mono (by omega))
  rw [qHi,qHi,z2]
  by_cases ej:j=k
  ·subst ej
   have m1:=qAhs (ms:=nu) (n:=j) (by omega) gn (qAy mu j) (qB9 mu j)
   have m2:=qAhs (ms:=mu) (n:=j) (by omega) hn (qAy mu j) (qB9 mu j)
   rw [m1] at fm
   rw [m2]
   have d:=Rat.div_mul_cancel (a:=hS nu j) hk0
   generalize hS nu j / hS mu j=t at *
   generalize Bf 20 (coef mu) (lF e (pS nu j)) (pS mu j)=w at *
   have:w=s*hS nu j:=by rw [fm, ←Rat.mul_assoc,sq,Rat.one_mul]
   rw [this, ←d]
   grind
  ·have m1:=qXa (ms:=nu) (n:=k) (by omega) gn ((qAy mu j).mono (show j+1<=k by omega))
   have m2:=qXa (ms:=mu) (n:=k) (by omega) hn ((qAy mu j).mono (show j+1<=k by omega))
   rw [m1] at fm
   rw [m2]
   generalize Bf 20 (coef mu) (lF e (pS nu k)) (pS mu j)=w at *
   have:w=s*(s*w):=by rw [<-Rat.mul_assoc,sq,Rat.one_mul]
   rw [<-fm,Za1] at this
   rw [this]
   grind) i
 have z':(lF e (pS nu k) i - 1*pS mu (k+1) i) - s*(hS nu k / hS mu k)*pS mu k i=0:=z
 grind
theorem Pair.dn(P:Pair mu nu s e){k:Nat}(hk:k<=8)(h:∀ j,j<=k->0<hS mu j)(g:∀ j,j<=k->0<hS nu j)(i:Nat):pS nu (k+1) i=pS mu (k+1) i - s*(hS mu (k+1) / hS nu k)*pS nu k i:=by
 have sq:=qAgf P.hs
 have gk0:hS nu k≠0:=Zan (g k (Za9 _))
 have gn:∀ l,l<k->hS nu l≠0:=λl hl=>Zan (g l (by omega))
 have gn1:∀ l,l<k+1->hS nu l≠0:=λl hl=>Zan (g l (by omega))
 have hn1:∀ l,l<k+1->hS mu l≠0:=λl hl=>Zan (h l (by omega))
 have z:=nondeg (ms:=nu) (N:=19) (k+1) (by omega) gn1 (f:=λi=>(pS mu (k+1) i - 1*pS nu (k+1) i) - s*(hS mu (k+1) / hS nu k)*pS nu k i) (λi hi=>by
  by_cases ei:i=k+1
  ·subst ei
   show (pS mu (k+1) (k+1) - 1*pS nu (k+1) (k+1)) - s*(hS mu (k+1) / hS nu k)*pS nu k (k+1)=0
   rw [qB9,qB9,qAy nu k (k+1) (by omega)]
   grind
  ·show (pS mu (k+1) i - 1*pS nu (k+1) i) - s*(hS mu (k+1) / hS nu k)*pS nu k i=0
   rw [qAy mu (k+1) i (by omega),qAy nu (k+1) i (by omega),qAy nu k i (by omega)]
   grind) (λj hj=>by
  have fm:=P.form (k+2) (pS mu (k+1)) (pS nu j) (by omega) (qAy mu (k+1)) ((qAy nu j).mono (by omega))
  rw [qAoz ((qAy mu (k+1)).mono (by omega)) ((qAy nu j).mono (by omega))] at fm
  have z2:Bf 20 (coef nu) (pS nu (k+1)) (pS nu j)=0:=qXa (by omega) gn1 ((qAy nu j).mono (by omega))
  rw [qHi,qHi,z2]
  by_cases ej:j=k
  ·subst ej
   have m1:=qAhs (ms:=mu) (n:=j+1) (by omega) hn1 ((qAy nu j).l e) (by rw [qAjn (qAy nu j),qB9])
   have m2:=qAhs (ms:=nu) (n:=j) (by omega) gn (qAy nu j) (qB9 nu j)
   rw [m1] at fm
   rw [m2,fm]
   have d:=Rat.div_mul_cancel (a:=hS mu (j+1)) gk0
   generalize hS mu (j+1) / hS nu j=t at *
   rw [<-d]
   grind
  ·have m1:=qXa (ms:=mu) (n:=k+1) (by omega) hn1 (((qAy nu j).l e).mono (show j+1+1<=k+1 by omega))
   have m2:=qXa (ms:=nu) (n:=k) (by omega) gn ((qAy nu j).mono (show j+1<=k by omega))
   rw [m1] at fm
   rw [m2,fm]
   grind) i
 have z':(pS mu (k+1) i - 1*pS nu (k+1) i) - s*(hS mu (k+1) / hS nu k)*pS nu k i=0:=z
 grind
theorem Pair.signs(P:Pair mu nu s e):∀ (k:Nat),k<=8->(∀ j,j<k->0<hS mu j)->(∀ j,j<k->0<hS nu j)->SgP s e k (pS mu k)/\(0<=hS mu k->SgP s e k (pS nu k))
 | 0,_,_,_=>by
  have z:∀ ms:List Rat,SgP s e 0 (pS ms 0):=λms=>qAb4 (λi=>by rfl) qAm1
  exact ⟨z mu,λ_=>z nu⟩
 | k+1,hk,h,g=>by
  obtain ⟨s1,s2⟩:=P.signs k (by omega) (λj hj=>h j (by omega)) (λj hj=>g j (by omega))
  have s2:=s2 (Rat.le_of_lt (h k (by omega)))
  have up:=qAnk (e:=e) P.hs (q:=hS nu k / hS mu k) (by
   have:=Rat.mul_pos (g k (by omega)) (Rat.inv_pos.mpr (h k (by omega)))
   rw [Rat.div_def]
   exact Rat.le_of_lt this) (qAy mu k) (qAy nu k) s1 s2 λi=>P.up (by omega) (λj hj=>h j (by omega)) (λj hj=>g j (by omega)) i
  refine ⟨up,λhn => ?_⟩
  exact qAo1 P.hs (q:=hS mu (k+1) / hS nu k) (by
   rw [Rat.div_def]
   exact Zal hn (Rat.le_of_lt (Rat.inv_pos.mpr (g k (by omega))))) (qAy nu k) up s2 λi=>P.dn (by omega) (λj hj=>h j (by omega)) (λj hj=>g j (by omega)) i
end
end MR
namespace MR
open PySem PySem.Spec PyProof.Rows L2
open Ps
end MR
namespace MR
open PySem PySem.Spec PyProof.Rows L2
def mom(xs ws:List Int)(f:Int->Int):Int:=(List.zipWith (λx w=>w*f x) xs ws).sum
def qAcn(n:Nat)(d:D)(as:List Rat):Prop:=∃ is,itD d=some is/\qDf is=some as/\0<as.length/\as.length<=13/\SzL n as/\0<n
theorem qY2{cs:List Str}{n:Nat}{d:D}{as:List Rat}{P:D->Prop}{X:XP}(h:qAcn n d as)(p:P (.lst (qCy as))):qA6 cs [d, .int 13] P X:=by
 obtain ⟨is,hi,hq,h0,h13,_,_⟩:=h
 have le:=qNv hq
 exact ⟨d,13,rfl, .inl ⟨is,as,hi,λe=>by rw [e] at le;simp at le;omega,by omega,by omega,hq,p⟩⟩
def qEo(cs:List Str):FSp:=λds P X=>∃ d e as n b,ds=[d,e]/\qAcn n d as/\qTw cs e=some b/\(b=false->X ⟨"NoNumber",[("word", .str "by")]⟩)/\
 (b=true->∃ s,numV e=some s/\Sz 200 s/\(∀ k i,k+i<as.length->Sz 4400 (itr s k (coef as) i))/\P (.lst (qCy (qLq s as))))
def stg(s:Rat)(as:List Rat)(k:Nat):List Rat:=(Zag (as.length - k)).map λi=>itr s k (coef as) i
theorem qAft(s:Rat)(as:List Rat):stg s as 0=as:=by
 refine qC9 (by simp [stg]) λk => ?_
 unfold stg
 rw [qCp]
 split
 ·rfl
 ·exact (qAk (by omega)).symm
theorem qU0(s:Rat)(as:List Rat)(k:Nat):(stg s as k).length=as.length - k:=by simp [stg]
theorem qU4{s:Rat}{as:List Rat}{k i:Nat}(h:k+i<as.length):(qCy (stg s as k))[i]?=some (.rat (itr s k (coef as) i)):=by
 unfold stg qCy
 rw [Zae,Zae,List.getElem?_range (by omega)]
 rfl
def qFt(K:W.Frag)(cs:List Str)(E:XK):TS:=
 (tSeq (tAsg (tCall (lift K (qA6 cs)) [.int 13] E (tCons (tVar 0) tNil)) (gName 2))
 (tSeq (tAsg (tCall (lift K (qFk cs)) [] E (tCons (tVar 1) (tCons (tC (.str "by")) tNil))) (gName 3))
 (tSeq (tAsg (tLst tNil) (gName 4))
 (tSeq (tWhile (qAen K (tVar 2)) (tSeq (tDrop (tBM K "list" rAppend (tVar 4) (tCons (tOp (rIxL K) (tVar 2) (tC (.int 0))) tNil)))
 (tAsg (tLc (iRng1 (tCons (tOp qOa (tCB (qFb K) (tCons (tVar 2) tNil)) (tC (.int 1))) tNil)) (gName 5) tYes (tOp (rOwn (He.ga K "Ratio") (lift K (fR2 λa b=>a+b)) E0) (tOp (rIxL K) (tVar 2) (tOp qEc (tVar 5) (tC (.int 1)))) (tOp (rOwn (He.ga K "Ratio") (lift K (fR2 λa b=>a*b)) E0) (tVar 3) (tOp (rIxL K) (tVar 2) (tVar 5)))) [5]) (gName 2))))
 (tRet (tVar 4))))))
def qIq(cs:List Str):FS:=
 (qBf (qDo 2 (qJn (qA6 cs) [.int 13] (qAc (qAd 0) qAl)))
 (qBf (qDo 3 (qJn (qFk cs) [] (qAc (qAd 1) (qAc (fC (.str "by")) qAl))))
 (qBf (qZ7 4 (qKd qAl))
 (qBf (qAi7 (fTru (qAd 2)) (qBf (qPc 4 (fOp qCc (qAd 2) (fC (.int 0))))
 (qDo 2 (fLc (qDq (qAc (fOp qRl (fLs qH8 (qAc (qAd 2) qAl)) (fC (.int 1))) qAl)) (qB1 5) qMd (fOp (qOh "Ratio" (fR2 λa b=>a+b)) (fOp qCc (qAd 2) (fOp qDs (qAd 5) (fC (.int 1)))) (fOp (qOh "Ratio" (fR2 λa b=>a*b)) (qAd 3) (fOp qCc (qAd 2) (qAd 5)))) [5]))))
 (qEz (qAd 4))))))
theorem qVb{K:W.Frag}{cs:List Str}(T:KF K cs)(hRa:("Ratio":Str)∈cs)(E:XK):SS K Ta [] [] [] [] (λ_=>E) (qFt K cs E) (qIq cs):=
 (qAi (ow1:=[]) (qBe (by decide) (by decide) (qP4 Lift.refl (qRd qAn) (qAb (qAa (by decide)) qAe)))
 (qAi (ow1:=[]) (qBe (by decide) (by decide) (qP4 Lift.refl qAn (qAb (qAa (by decide)) (qAb qXl qAe))))
 (qAi (ow1:=[4]) (qLp (by decide) (by decide) (qM5 qAe))
 (qAi (ow1:=[4]) (qAf8 (by decide) (qYm (qAa (by decide))) (qAi (ow1:=[4]) (qLg (by decide) (by decide) (qAf (λ_=>qA2) (qAa (by decide)) qAg))
 (qBe (by decide) (by decide) (SF.se (qOm (by decide) (by decide) (qEt (qAb (qAf (λ_=>qJq) (qB7 (λ_=>qD0) (qAb (qAa (by decide)) qAe)) qAg) qAe)) (qCr (by decide)) qJs (qAf (λ_=>(qP1 Lift.refl)) (qAf (λ_=>qA2) (qAa (by decide)) (qAf (λ_=>qCf) (qAa (by decide)) qAg)) (qAf (λ_=>(qP1 Lift.refl)) (qAa (by decide)) (qAf (λ_=>qA2) (qAa (by decide)) (qAa (by decide))))))))))
 (qIw (ow1:=[]) (by decide) (qBa (by decide) (qAa (by decide))))))))
def toMv(s:Rat)(k:Nat)(f:Nat->Rat)(d:D):D:=match d with
 | .int i => .rat (itr s (k+1) f i.toNat)
 | e=>e
theorem qWq{cs:List Str}(hR:("Ratio":Str)∈cs)(ds:List D)(P:D->Prop)(X:XP)(h:qEo cs ds P X):qIq cs (qF9 P X) (qBb 6 ds):=by
 obtain ⟨d,e,as,n,b,rfl,h1,hb,hx,hg⟩:=h
 simp_arith [qIq]
 refine qY2 h1 ?_
 cases b with
 | false=>exact ⟨e,"by",false,rfl,hb,λ_=>hx rfl,λz=>nomatch z⟩
 | true=>
  obtain ⟨s,hs,zs,hz,p⟩:=hg rfl
  obtain ⟨_,_,_,_,l1,_,_⟩:=h1
  refine qY1 hR hs ?_
  refine ⟨by decide,by decide, ?_⟩
  refine ⟨λm ρ=>∃ k v5,m=as.length - k/\k<=as.length/\ρ=[some d,some e,some (.lst (qCy (stg s as k))),some (.rat s),some (.lst (qCy ((Zag k).map λk=>itr s k (coef as) 0))),v5],⟨_,0,none,rfl,Nat.zero_le _,by rw [qAft];rfl⟩, ?_⟩
  rintro m ρ ⟨k,v5,rfl,hk,rfl⟩
  simp_arith []
  by_cases hlt:k<as.length
  ·have he:(qCy (stg s as k)).isEmpty=false:=by
    have:(qCy (stg s as k)).length≠0:=by rw [qE6,qU0];omega
    cases hh:qCy (stg s as k) with
    | nil=>rw [hh] at this;simp at this
    | cons a l=>rfl
   simp_arith [he,Bool.not_false]
   refine qDy (k:=0) rfl (qU4 (by omega)) ?_
   simp_arith [fLc,qDq,qE6,qU0]
   refine ⟨qBz (by simp;omega),by omega,by omega, ?_⟩
   refine qM0 (toMv s k (coef as)) _ [] (λdd hd Q q => ?_) ?_ ?_
   ·obtain ⟨j,hj,rfl⟩:=List.mem_map.mp hd
    have hj':=List.mem_range.mp hj
    simp only [qIa]
    simp_arith []
    rw [show (0:Int)+(j:Int)+1=((j+1:Nat):Int) by omega,show (0:Int)+(j:Int)=((j:Nat):Int) by omega]
    refine qDy rfl (qU4 (by omega)) ?_
    refine qDy rfl (qU4 (by omega)) ?_
    simp_arith [qAe0]
    have z0:=hz k j (by omega)
    have z1:=hz k (j+1) (by omega)
    refine ⟨⟨_,_,zs,z0,by decide⟩,⟨_,_,z1,zs.mul z0,by decide⟩, ?_⟩
    have q':Q (.rat (itr s (k+1) (coef as) ((0:Int)+(j:Int)).toNat)):=q
    rw [show ((0:Int)+(j:Int)).toNat=j by omega] at q'
    exact q'
   ·simp only [qIl,Za6,List.length_range,List.length_nil]
    exact qBz (by omega)
   ·rw [List.nil_append]
    refine ⟨as.length - (k+1),by omega,k+1,v5,rfl,hlt, ?_⟩
    have e1:(qIl 0 (((as.length - k:Nat):Int) - 1).toNat).map (toMv s k (coef as))=qCy (stg s as (k+1)):=by
     unfold qIl qCy stg
     rw [List.map_map,List.map_map,show (((as.length - k:Nat):Int) - 1).toNat=as.length - (k+1) by omega]
     refine List.map_congr_left λj _ => ?_
     show D.rat (itr s (k+1) (coef as) ((0:Int)+(j:Int)).toNat)=_
     rw [show ((0:Int)+(j:Int)).toNat=j by omega]
     rfl
    rw [e1]
    simp [qCy,List.range_succ]
  ·have:k=as.length:=by omega
   subst this
   have he:(qCy (stg s as as.length)).isEmpty=true:=by
    have:(qCy (stg s as as.length)).length=0:=by rw [qE6,qU0];omega
    rw [List.length_eq_zero_iff.mp this];rfl
   simp_arith [he,Bool.not_true]
   exact p
theorem qPl{K:W.Frag}{cs:List Str}(vs:List V)(H:Hp)(Q:VK)(E:XK)(h:(lift K (qEo cs)) vs H Q E):vs.length=2:=qA0 (λds P X h=>by unfold qEo at h;first | ((repeat (first | (obtain ⟨rfl,_⟩:=h;exact rfl) | obtain ⟨_,h⟩:=h));done) | (split at h <;> first | rfl | exact h.elim)) h
theorem qTt{K:W.Frag}{cs:List Str}(T:KF K cs)(hRa:("Ratio":Str)∈cs)(vs:List V)(H:Hp)(Q:VK)(E:XK)(h:(lift K (qEo cs)) vs H Q E):qFt K cs E { nx:=λ_ H'=>Q .non H',rt:=Q } (start ["row","by","numbers","step","result","k"] vs) H:=
 qAcm (t:=λE=>qFt K cs E) rfl (qVb T hRa) (qWq hRa) vs H Q E h
def dfs:Nat->(Nat->Rat)->Nat->Rat
 | 0,m=>m
 | k+1,m=>λi=>dfs k m i - dfs k m (i+1)
def dfL(ms:List Rat)(k:Nat):List Rat:=(Zag (ms.length - k)).map (dfs k (coef ms))
theorem qKw(ms:List Rat)(k:Nat):(dfL ms k).length=ms.length - k:=by simp [dfL]
theorem qYf(ms:List Rat):dfL ms 0=ms:=by
 refine qC9 (by rw [qKw,Nat.sub_zero]) λi => ?_
 by_cases hi:i<ms.length
 ·rw [qCt (show (dfL ms 0)[i]?=some (coef ms i) by unfold dfL;rw [Zae,List.getElem?_range (by omega)];rfl)]
 ·rw [qAk (by rw [qKw];omega),qAk (by omega)]
def dfT(ms:List Rat)(k:Nat):List D:=(Zag k).map λj=>D.lst (qCy (dfL ms j))
theorem qAd6(ms:List Rat)(k:Nat):(dfT ms k).length=k:=by simp [dfT]
theorem qPw(ms:List Rat)(k:Nat):dfT ms (k+1)=dfT ms k ++ [D.lst (qCy (dfL ms k))]:=by
 unfold dfT
 rw [List.range_succ,List.map_append]
 rfl
theorem qXo{ms:List Rat}{n:Nat}(hz:SzL n ms):∀ k i,k+i<ms.length->Sz (2 ^ k*(n+1) - 1) (dfs k (coef ms) i)
 | 0,i,h=>by
  have:(2 ^ 0*(n+1) - 1)=n:=by rw [Nat.pow_zero];omega
  rw [this]
  exact hz _ (by rw [show dfs 0 (coef ms) i=coef ms i from rfl,qCt (Za3 (show i<ms.length by omega))];exact List.getElem_mem _)
 | k+1,i,h=>by
  have a:=qXo hz k i (by omega)
  have b:=qXo hz k (i+1) (by omega)
  have c:=a.sub b
  have p0:0<2 ^ k*(n+1):=Nat.mul_pos (Nat.two_pow_pos k) (Nat.succ_pos n)
  refine c.mono ?_
  rw [Nat.pow_succ,Nat.mul_right_comm]
  generalize 2 ^ k*(n+1)=t at *
  omega
def qG1(cs:List Str):FSp:=λds P _=>∃ d items ms n,ds=[d]/\itD d=some items/\qDf items=some ms/\0<ms.length/\ms.length<=9/\SzL n ms/\n<=1000/\P (.lst (dfT ms ms.length))
theorem qZ0{K:W.Frag}{cs:List Str}:Lift K (qIe K (qG1 cs)) (qG1 cs):=Lift.d1 λ_ _ _ h=>h
def qAor:Exn:=⟨"NoMean",[]⟩
abbrev ctr(as:List Rat):Rat := -(coef as 1 / coef as 0)
def qD5(cs:List Str):FSp:=λds P X=>∃ d as n,ds=[d]/\qAcn n d as/\n<=100000/\((as.length=1\/coef as 0=0)->X qAor)/\
 (as.length≠1->coef as 0≠0->Sz 200 (ctr as)/\(∀ k i,k+i<as.length->Sz 4400 (itr (ctr as) k (coef as) i))/\P (.lst (qCy (qLq (ctr as) as))))
def qKe(p q:Int × Int):Int × Int:=(p.1*q.2+q.1*p.2,p.2*q.2)
def qFg:FSp:=λds P _=>∃ p q n m,ds=[prT p,prT q]/\SzP n p/\SzP m q/\n+m<=900000/\P (prT (qKe p q))
theorem qZw{p q:Int × Int}(hp:0<p.2)(hq:0<q.2):qCs (qKe p q)=qCs p+qCs q:=by
 have e1:((p.2:Int):Rat)≠0:=λz=>by have:=Rat.intCast_inj.mp (z.trans Rat.intCast_zero.symm);omega
 have e2:((q.2:Int):Rat)≠0:=λz=>by have:=Rat.intCast_inj.mp (z.trans Rat.intCast_zero.symm);omega
 unfold qCs qKe
 rw [Za8,Za8,Za8,Rat.intCast_add,Za7,Za7,Za7]
 grind
theorem qAbz{n m:Nat}{p q:Int × Int}(hp:SzP n p)(hq:SzP m q):SzP (n+m+1) (qKe p q):=by
 have a:=hp.a;have b:=hp.b;have c:=hq.a;have d:=hq.b
 have m1:(p.1*q.2).natAbs<2 ^ (n+m):=by rw [Zao,Nat.pow_add];exact Nat.mul_lt_mul'' a d
 have m2:(q.1*p.2).natAbs<2 ^ (n+m):=by rw [Zao,Nat.pow_add,Nat.mul_comm];exact Nat.mul_lt_mul'' b c
 have m3:(p.2*q.2).natAbs<2 ^ (n+m):=by rw [Zao,Nat.pow_add];exact Nat.mul_lt_mul'' b d
 have e:2 ^ (n+m+1)=2*2 ^ (n+m):=by rw [Nat.pow_succ,Nat.mul_comm]
 refine ⟨?_, ?_,Int.mul_pos hp.pos hq.pos⟩
 ·show (p.1*q.2+q.1*p.2).natAbs<_
  rw [e];omega
 ·show (p.2*q.2).natAbs<_
  rw [e];omega
def nl:Int->List Int->List Int
 | p,[]=>[-p]
 | p,x :: r=>(x - p) :: nl x r
def dotQ:List Int->(Nat->Rat)->Nat->Rat
 | [],_,_=>0
 | x :: r,m,a=>(x:Rat)*m a+dotQ r m (a+1)
theorem qAdm(m:Nat->Rat):∀ (ls:List Int) (p:Int) (a:Nat),dotQ (nl p ls) m a=dotQ ls m a - (p:Rat)*m a - dotQ ls m (a+1)
 | [],p,a=>by
  show ((-p:Int):Rat)*m a+0=0 - (p:Rat)*m a - 0
  rw [Rat.intCast_neg];grind
 | x :: r,p,a=>by
  show ((x - p:Int):Rat)*m a+dotQ (nl x r) m (a+1)=((x:Rat)*m a+dotQ r m (a+1)) - (p:Rat)*m a - ((x:Rat)*m (a+1)+dotQ r m (a+1+1))
  rw [qAdm m r x (a+1),Rat.intCast_sub];grind
def lin:Nat->List Int
 | 0=>[1]
 | k+1=>nl 0 (lin k)
theorem qAik:∀ (ls:List Int) (p:Int),(nl p ls).length=ls.length+1
 | [],_=>rfl
 | x :: r,p=>by show (nl x r).length+1=_;rw [qAik r x];rfl
theorem qMl:∀ k,(lin k).length=k+1
 | 0=>rfl
 | k+1=>by show (nl 0 (lin k)).length=_;rw [qAik,qMl k]
theorem qU9(m:Nat->Rat):∀ k a,dotQ (lin k) m a=dfs k m a
 | 0,a=>by
  show ((1:Int):Rat)*m a+0=m a
  rw [show ((1:Int):Rat)=1 from rfl];grind
 | k+1,a=>by
  show dotQ (nl 0 (lin k)) m a=dfs k m a - dfs k m (a+1)
  rw [qAdm,qU9 m k a,qU9 m k (a+1),Rat.intCast_zero];grind
theorem qApr{b:Nat}:∀ (ls:List Int) (p:Int),p.natAbs<=b->(∀ x,x∈ls->x.natAbs<=b)->∀ x,x∈nl p ls->x.natAbs<=2*b
 | [],p,hp,_,x,h=>by rw [Zai.mp h];omega
 | y :: r,p,hp,hl,x,h=>by
  have hy:=hl y Zad
  rcases List.mem_cons.mp h with rfl | h
  ·omega
  ·exact qApr r y hy (λz hz=>hl z (Zab _ hz)) x h
theorem qAes:∀ k x,x∈lin k->x.natAbs<=2 ^ k
 | 0,x,h=>by rw [Zai.mp h];decide
 | k+1,x,h=>by
  have:=qApr (b:=2 ^ k) (lin k) 0 (Nat.zero_le _) (qAes k) x h
  rw [Nat.pow_succ,Nat.mul_comm];exact this
theorem qAi3:∀ (r:List Int) (x:Int),nl x r=((Zag r.length).map λi=>ci (x :: r) (i+1) - ci (x :: r) i) ++ [-(ci (x :: r) r.length)]
 | [],x=>rfl
 | y :: r,x=>by
  show (y - x) :: nl y r=_
  rw [qAi3 r y,Za0,List.range_succ_eq_map,List.map_cons,List.map_map]
  rfl
theorem qXr:∀ k,∃ r,lin k=1 :: r
 | 0=>⟨[],rfl⟩
 | k+1=>by
  obtain ⟨r,e⟩:=qXr k
  refine ⟨nl 1 r, ?_⟩
  show nl 0 (lin k)=_
  rw [e];rfl
theorem qAge(k:Nat):lin (k+1)=[1] ++ ((Zag ((lin k).length - 1)).map λi=>ci (lin k) (i+1) - ci (lin k) i) ++ [-(ci (lin k) ((lin k).length - 1))]:=by
 obtain ⟨r,e⟩:=qXr k
 show nl 0 (lin k)=_
 rw [e]
 show (1 - 0) :: nl 1 r=_
 rw [qAi3 r 1,Za0,Nat.add_sub_cancel]
 rfl
def qXy(ls:List Int)(ps:List (Int × Int))(at':Nat):Nat->Int × Int
 | 0=>(0,1)
 | i+1=>qKe (qXy ls ps at' i) (ci ls i*(ps.getD (at'+i) (0,1)).1,(ps.getD (at'+i) (0,1)).2)
def tbP(ps:List (Int × Int))(k:Nat):List (Int × Int):=if k=0 then ps else (Zag (ps.length - k)).map λa=>qXy (lin k) ps a (k+1)
def tbT(ps:List (Int × Int))(k:Nat):List D:=(Zag k).map λj=>D.lst (qEg (tbP ps j))
def qE3:FSp:=λds P _=>∃ ps,ds=[.lst (qEg ps)]/\(∀ p,p∈ps->SzP 355 p)/\0<ps.length/\ps.length<=9/\P (.lst (tbT ps ps.length))
theorem SzP.lmul62{l:Int}{p:Int × Int}{n m:Nat}(hl:l.natAbs<=2 ^ m)(hp:SzP n p):SzP (n+m+1) (l*p.1,p.2):=by
 have t:=hp.a
 refine ⟨?_,Zam hp.b (Zaa (by decide) (by omega)),hp.pos⟩
 show (l*p.1).natAbs<_
 rw [Zao,Nat.pow_succ,Nat.pow_add]
 have:=Nat.mul_le_mul hl (Nat.le_of_lt t)
 have q:0<2 ^ n*2 ^ m:=Nat.mul_pos (Nat.two_pow_pos _) (Nat.two_pow_pos _)
 rw [Nat.mul_comm (2 ^ m)] at this
 omega
theorem qAcc{ps:List (Int × Int)}{c:Nat}(c1:1<=c)(hz:∀ p,p∈ps->SzP c p)(j:Nat):SzP c (ps.getD j (0,1)):=by
 rw [Zak]
 cases e:ps[j]? with
 | none=>
  have:1<2 ^ c:=Zam (by decide:1<2 ^ 1) (Zaa (by decide) c1)
  exact ⟨by show (0:Int).natAbs<_;rw [Int.natAbs_zero];omega,by show (1:Int).natAbs<_;exact this,by decide⟩
 | some p=>exact hz p (List.mem_of_getElem? e)
theorem qAfy{k c:Nat}{ps:List (Int × Int)}(c1:1<=c)(hk:k<=8)(hz:∀ p,p∈ps->SzP c p)(a i:Nat)(hi:i<=k+1):SzP ((c+10)*i+1) (qXy (lin k) ps a i):=by
 induction i with
 | zero=>
  rw [Nat.mul_zero]
  exact ⟨(by decide:(0:Int).natAbs<2 ^ (0+1)),(by decide:(1:Int).natAbs<2 ^ (0+1)),(by decide:(0:Int)<1)⟩
 | succ i ih=>
  have h1:=ih (by omega)
  have z0:=qAcc c1 hz (a+i)
  have lb:(ci (lin k) i).natAbs<=2 ^ 8:=by
   have hm:ci (lin k) i∈lin k:=List.mem_of_getElem? (qSv (show i<(lin k).length by rw [qMl];omega))
   exact Zaf (qAes k _ hm) (Zaa (by decide) hk)
  refine (qAbz h1 (SzP.lmul62 lb z0)).mono ?_
  rw [Nat.mul_succ]
  omega
theorem qUn{k:Nat}{ps:List (Int × Int)}(hk:k<=8)(hz:∀ p,p∈ps->SzP 355 p)(a i:Nat)(hi:i<=k+1):SzP 4000 (qXy (lin k) ps a i):=
 (qAfy (by decide) hk hz a i hi).mono (by omega)
theorem qAhn{k:Nat}{ps:List (Int × Int)}(hk:k<=8)(hz:∀ p,p∈ps->SzP 355 p)(a:Nat)(ha:a+k<ps.length):qCs (qXy (lin k) ps a (k+1))=dfs k (coef (ps.map qCs)) a:=by
 have step:∀ (rest ls:List Int) (i:Nat),(∀ j,ci ls j=ci (lin k) (i+j))->rest=ls->i+ls.length=k+1->qCs (qXy (lin k) ps a (k+1))=qCs (qXy (lin k) ps a i)+dotQ ls (coef (ps.map qCs)) (a+i):=by
  intro rest
  induction rest with
  | nil=>
   intro ls i _ e l
   subst e
   have:i=k+1:=by simpa using l
   rw [this]
   show _=_+0
   grind
  | cons x r ih=>
   intro ls i hc e l
   subst e
   have hi:i<k+1:=by simp only [Za0] at l;omega
   have:=ih r (i+1) (λj=>by have:=hc (j+1);rw [show i+1+j=i+(j+1) by omega, ←this];rfl) rfl (by simp only [Za0] at l;omega)
   rw [this]
   have h1:=qUn hk hz a i (by omega)
   have e1:ps[a+i]?=some (ps.getD (a+i) (0,1)):=by rw [Zak,Za3 (show a+i<ps.length by omega)];rfl
   have z0:=hz _ (List.mem_of_getElem? e1)
   have cx:ci (lin k) i=x:=by have:=hc 0;rw [Nat.add_zero] at this;rw [<-this];rfl
   show qCs (qKe (qXy (lin k) ps a i) (ci (lin k) i*(ps.getD (a+i) (0,1)).1,(ps.getD (a+i) (0,1)).2))+dotQ r _ (a+(i+1))=qCs (qXy (lin k) ps a i)+((x:Rat)*coef (ps.map qCs) (a+i)+dotQ r _ (a+i+1))
   rw [qZw h1.pos (show 0<(ci (lin k) i*(ps.getD (a+i) (0,1)).1,(ps.getD (a+i) (0,1)).2).2 from z0.pos),cx,qCt (show (ps.map qCs)[a+i]?=some (qCs (ps.getD (a+i) (0,1))) by rw [Zae,e1];rfl)]
   have:qCs (x*(ps.getD (a+i) (0,1)).1,(ps.getD (a+i) (0,1)).2)=(x:Rat)*qCs (ps.getD (a+i) (0,1)):=by
    unfold qCs
    rw [Za8,Za8,Za7,Rat.div_def,Rat.div_def,Rat.mul_assoc]
   rw [this,show a+(i+1)=a+i+1 by omega]
   grind
 have:=step (lin k) (lin k) 0 (λj=>by rw [Nat.zero_add]) rfl (by rw [Nat.zero_add,qMl])
 rw [this,Nat.add_zero,qU9]
 show qCs (0,1)+_=_
 rw [show qCs (0,1)=0 from by show Za4 0 1=0;rw [Za8,Rat.intCast_zero,Rat.div_def,Za2]]
 grind
theorem qWd{ps:List (Int × Int)}(hz:∀ p,p∈ps->SzP 355 p)(l9:ps.length<=9){k:Nat}(hk:k<ps.length):(tbP ps k).map qCs=dfL (ps.map qCs) k:=by
 unfold tbP
 by_cases h0:k=0
 ·rw [if_pos h0,h0,qYf]
 ·rw [if_neg h0]
  unfold dfL
  rw [List.map_map,Za6]
  refine List.map_congr_left λa ha => ?_
  have:=List.mem_range.mp ha
  exact qAhn (by omega) hz a (by omega)
theorem qAii{ps:List (Int × Int)}(hz:∀ p,p∈ps->SzP 355 p)(l9:ps.length<=9){k:Nat}(hk:k<ps.length):∀ p,p∈tbP ps k->SzP 4000 p:=λp hp=>by
 unfold tbP at hp
 by_cases h0:k=0
 ·rw [if_pos h0] at hp
  exact (hz p hp).mono (by decide)
 ·rw [if_neg h0] at hp
  obtain ⟨a,ha,rfl⟩:=List.mem_map.mp hp
  exact qUn (by omega) hz a (k+1) (Za9 _)
def qE2(K:W.Frag)(cs:List Str)(E:XK):TS:=
 (tSeq (tIfS (tOr (tNot (tB (tCB (rIsiT K) (tCons (tVar 0) (tCons (tTup (tCons (tC (.ty "list")) (tCons (tC (.ty "tuple")) tNil))) tNil))))) (tOr (tNot (qAen K (tVar 0))) (tTest (tOp rGt0 (tCB (qFb K) (tCons (tVar 0) tNil)) (tVar 1))))) (qE9 (He.ga K "NoRow") "index" (λcls d _ H=>E cls d H) (tCons (tUn qM6 (tC (.int 1))) tNil)) tNext)
 (tSeq (tFor (qX3 K (tCons (tVar 0) tNil)) (gTup K 2 (gCons (gName 2) (gCons (gName 3) gNil))) (tIfS (tNot (tB (tCall (lift K (qHc cs)) [] E0 (tCons (tVar 3) tNil)))) (qE9 (He.ga K "NoRow") "index" (λcls d _ H=>E cls d H) (tCons (tVar 2) tNil)) tNext))
 (tRet (tLc (iSeq K (tVar 0)) (gName 3) tYes (tCall (lift K (qFk cs)) [] E0 (tCons (tVar 3) (tCons (tC (.str "row")) tNil))) [3]))))
def qDb(cs:List Str):FS:=
 (qBf (qGz (fOr (qMa (fB (qZz cs (qAd 0)))) (fOr (qMa (fTru (qAd 0))) (fB (fOp oGt (fLs qH8 (qAc (qAd 0) qAl)) (qAd 1))))) (qHd "NoRow" "index" (fUn qZf (fC (.int 1)))) qC6)
 (qBf (qIk (fEn (qAc (qAd 0) qAl)) (qSz [2,3]) (qGz (qMa (fB (qAs (qHc cs) [] (qAc (qAd 3) qAl)))) (qHd "NoRow" "index" (qAd 2)) qC6))
 (qV9 (fLc (fIt (qAd 0)) (qB1 3) qMd (qAs (qFk cs) [] (qAc (qAd 3) (qAc (fC (.str "row")) qAl))) [3]))))
theorem qSl{K:W.Frag}{cs:List Str}(T:KF K cs)(hRa:("Ratio":Str)∈cs)(E:XK):SS K Ta [] [] [] [] (λ_=>E) (qE2 K cs E) (qDb cs):=
 (qAi (ow1:=[]) (qEd (by decide) (qNo (qFc (qL1 (qAbi T.toKT (qAa (by decide))))) (qNo (qFc (qYm (qAa (by decide)))) (qCl (qAf (λ_=>qAdt) (qB7 (λ_=>qD0) (qAb (qAa (by decide)) qAe)) (qAa (by decide)))))) (qHw (by decide) (qRt (λ_=>qNl) qAg)) (qBd (by decide)))
 (qAi (ow1:=[]) (qG2 (by decide) (qApa (qAb (qAa (by decide)) qAe)) (qAct rfl (qHt (by decide) (qHt (by decide) qU6))) (qEd (by decide) (qFc (qL1 (qAr Lift.refl qAn (qAb (qAa (by decide)) qAe)))) (qHw (by decide) (qAa (by decide))) (qBd (by decide))))
 (qAms (by decide) (qOm (by decide) (by decide) (qAjg (qAa (by decide))) (qCr (by decide)) qJs (qAr Lift.refl qAn (qAb (qAa (by decide)) (qAb qXl qAe)))))))
def qH5(K:W.Frag)(cs:List Str)(E:XK):TS:=
 (tSeq (tAsg (tCall (lift K (qA6 cs)) [.int 13] E (tCons (tVar 0) tNil)) (gName 1))
 (tSeq (tIfS (tOr (tTest (tOp rEq (tCB (qFb K) (tCons (tVar 1) tNil)) (tC (.int 1)))) (tTest (tOp (rOwn (He.ga K "Ratio") (lift K (fRB λa b=>decide (a=b))) E0) (tOp (rIxL K) (tVar 1) (tC (.int 0))) (tC (.int 0))))) (qXc (He.ga K "NoMean") (λcls d _ H=>E cls d H)) tNext)
 (tRet (tCall (lift K (qEo cs)) [] E (tCons (tVar 1) (tCons (tUn (qAl8 (He.ga K "Ratio") (lift K (fR1 λa => -a)) E0) (tMeth (He.ga K "Ratio") "over" (lift K qSj) [] E (tOp (rIxL K) (tVar 1) (tC (.int 1))) (tCons (tOp (rIxL K) (tVar 1) (tC (.int 0))) tNil))) tNil))))))
def qNq(cs:List Str):FS:=
 (qBf (qDo 1 (qJn (qA6 cs) [.int 13] (qAc (qAd 0) qAl)))
 (qBf (qGz (fOr (fB (fOp oEq (fLs qH8 (qAc (qAd 1) qAl)) (fC (.int 1)))) (fB (fOp (qOh "Ratio" (fRB λa b=>decide (a=b))) (fOp qCc (qAd 1) (fC (.int 0))) (fC (.int 0))))) (qNc "NoMean") qC6)
 (qEz (qJn (qEo cs) [] (qAc (qAd 1) (qAc (fUn (qAgp "Ratio" (fR1 λa => -a)) (qAce "Ratio" "over" qSj (fOp qCc (qAd 1) (fC (.int 1))) (qAc (fOp qCc (qAd 1) (fC (.int 0))) qAl))) qAl))))))
theorem qAb5{K:W.Frag}{cs:List Str}(T:KF K cs)(hRa:("Ratio":Str)∈cs)(E:XK):SS K Ta [] [] [] [] (λ_=>E) (qH5 K cs E) (qNq cs):=
 (qAi (ow1:=[]) (qBe (by decide) (by decide) (qP4 Lift.refl (qRd qAn) (qAb (qAa (by decide)) qAe)))
 (qAi (ow1:=[]) (qEd (by decide) (qNo (qCl (qAf (λ_=>qPt) (qB7 (λ_=>qD0) (qAb (qAa (by decide)) qAe)) qAg)) (qCl (qAf (λ_=>(qP1 Lift.refl)) (qAf (λ_=>qA2) (qAa (by decide)) qAg) qAg))) (qAbk (by decide)) (qBd (by decide)))
 (qBa (by decide) (qP4 Lift.refl qAn (qAb (qAa (by decide)) (qAb (qRt (λ_=>(qAke Lift.refl)) (qAlz Lift.refl (qAf (λ_=>qA2) (qAa (by decide)) qAg) (qAb (qAf (λ_=>qA2) (qAa (by decide)) qAg) qAe))) qAe))))))
def qKj(K:W.Frag)(cs:List Str):TS:=
 (tRet (tTup (tCons (tOp qEc (tOp qCg (tOp (rIxT K) (tVar 0) (tC (.int 0))) (tOp (rIxT K) (tVar 1) (tC (.int 1)))) (tOp qCg (tOp (rIxT K) (tVar 1) (tC (.int 0))) (tOp (rIxT K) (tVar 0) (tC (.int 1))))) (tCons (tOp qCg (tOp (rIxT K) (tVar 0) (tC (.int 1))) (tOp (rIxT K) (tVar 1) (tC (.int 1)))) tNil))))
def qMw(cs:List Str):FS:=
 (qEz (qN2 (qAc (fOp qDs (fOp qDa (fOp qGu (qAd 0) (fC (.int 0))) (fOp qGu (qAd 1) (fC (.int 1)))) (fOp qDa (fOp qGu (qAd 1) (fC (.int 0))) (fOp qGu (qAd 0) (fC (.int 1))))) (qAc (fOp qDa (fOp qGu (qAd 0) (fC (.int 1))) (fOp qGu (qAd 1) (fC (.int 1)))) qAl))))
theorem qAdo{K:W.Frag}{cs:List Str}(T:KF K cs)(hRa:("Ratio":Str)∈cs):SS K Ta [] [] [] [] (λ_=>E0) (qKj K cs) (qMw cs):=
 (qBa (by decide) (qNj (qAb (qAf (λ_=>qCf) (qAf (λ_=>qA9) (qAf (λ_=>qDj) (qAa (by decide)) qAg) (qAf (λ_=>qDj) (qAa (by decide)) qAg)) (qAf (λ_=>qA9) (qAf (λ_=>qDj) (qAa (by decide)) qAg) (qAf (λ_=>qDj) (qAa (by decide)) qAg))) (qAb (qAf (λ_=>qA9) (qAf (λ_=>qDj) (qAa (by decide)) qAg) (qAf (λ_=>qDj) (qAa (by decide)) qAg)) qAe))))
def qJb(K:W.Frag)(cs:List Str):TS:=
 (tSeq (tAsg (tLst (tCons (tCB (qMe K) (tCons (tVar 0) tNil)) tNil)) (gName 1))
 (tSeq (tAsg (tLst (tCons (tC (.int 1)) tNil)) (gName 2))
 (tSeq (tFor (iRng2 (tCons (tC (.int 1)) (tCons (tCB (qFb K) (tCons (tVar 0) tNil)) tNil))) (gName 3) (tSeq (tAsg (tOp rCat (tOp rCat (tLst (tCons (tC (.int 1)) tNil)) (tLc (iRng1 (tCons (tOp qOa (tCB (qFb K) (tCons (tVar 2) tNil)) (tC (.int 1))) tNil)) (gName 7) tYes (tOp qOa (tOp (rIxL K) (tVar 2) (tOp qEc (tVar 7) (tC (.int 1)))) (tOp (rIxL K) (tVar 2) (tVar 7))) [7])) (tLst (tCons (tUn qM6 (tOp (rIxL K) (tVar 2) (tUn qM6 (tC (.int 1))))) tNil))) (gName 2))
 (tSeq (tAsg (tLst tNil) (gName 4))
 (tSeq (tFor (iRng1 (tCons (tOp qOa (tCB (qFb K) (tCons (tVar 0) tNil)) (tVar 3)) tNil)) (gName 5) (tSeq (tAsg (tTup (tCons (tC (.int 0)) (tCons (tC (.int 1)) tNil))) (gName 6))
 (tSeq (tFor (iRng1 (tCons (tOp qEc (tVar 3) (tC (.int 1))) tNil)) (gName 7) (tAsg (tCall (lift K qFg) [] E0 (tCons (tVar 6) (tCons (tTup (tCons (tOp qCg (tOp (rIxL K) (tVar 2) (tVar 7)) (tOp (rIxT K) (tOp (rIxL K) (tVar 0) (tOp qEc (tVar 5) (tVar 7))) (tC (.int 0)))) (tCons (tOp (rIxT K) (tOp (rIxL K) (tVar 0) (tOp qEc (tVar 5) (tVar 7))) (tC (.int 1))) tNil))) tNil))) (gName 6)))
 (tDrop (tBM K "list" rAppend (tVar 4) (tCons (tVar 6) tNil))))))
 (tDrop (tBM K "list" rAppend (tVar 1) (tCons (tVar 4) tNil)))))))
 (tRet (tVar 1)))))
def qKu(cs:List Str):FS:=
 (qBf (qZ7 1 (qKd (qAc (fLs qTm (qAc (qAd 0) qAl)) qAl)))
 (qBf (qDo 2 (qKd (qAc (fC (.int 1)) qAl)))
 (qBf (qIk (qAk8 (qAc (fC (.int 1)) (qAc (fLs qH8 (qAc (qAd 0) qAl)) qAl))) (qB1 3) (qBf (qDo 2 (fOp oCat (fOp oCat (qKd (qAc (fC (.int 1)) qAl)) (fLc (qDq (qAc (fOp qRl (fLs qH8 (qAc (qAd 2) qAl)) (fC (.int 1))) qAl)) (qB1 7) qMd (fOp qRl (fOp qCc (qAd 2) (fOp qDs (qAd 7) (fC (.int 1)))) (fOp qCc (qAd 2) (qAd 7))) [7])) (qKd (qAc (fUn qZf (fOp qCc (qAd 2) (fUn qZf (fC (.int 1))))) qAl))))
 (qBf (qZ7 4 (qKd qAl))
 (qBf (qIk (qDq (qAc (fOp qRl (fLs qH8 (qAc (qAd 0) qAl)) (qAd 3)) qAl)) (qB1 5) (qBf (qDo 6 (qN2 (qAc (fC (.int 0)) (qAc (fC (.int 1)) qAl))))
 (qBf (qIk (qDq (qAc (fOp qDs (qAd 3) (fC (.int 1))) qAl)) (qB1 7) (qDo 6 (qAs qFg [] (qAc (qAd 6) (qAc (qN2 (qAc (fOp qDa (fOp qCc (qAd 2) (qAd 7)) (fOp qGu (fOp qCc (qAd 0) (fOp qDs (qAd 5) (qAd 7))) (fC (.int 0)))) (qAc (fOp qGu (fOp qCc (qAd 0) (fOp qDs (qAd 5) (qAd 7))) (fC (.int 1))) qAl))) qAl)))))
 (qPc 4 (qAd 6)))))
 (qPc 1 (qAd 4))))))
 (qEz (qAd 1)))))
theorem qZ4{K:W.Frag}{cs:List Str}(T:KF K cs)(hRa:("Ratio":Str)∈cs):SS K Ta [] [] [] [] (λ_=>E0) (qJb K cs) (qKu cs):=
 (qAi (ow1:=[1]) (qLp (by decide) (by decide) (qM5 (qAb (SF.se (qNd (qAb (qAa (by decide)) qAe))) qAe)))
 (qAi (ow1:=[1]) (qBe (by decide) (by decide) (qJ5 (qAb qAg qAe)))
 (qAi (ow1:=[1]) (qG2 (by decide) (qAme (qAb qAg (qAb (qB7 (λ_=>qD0) (qAb (qAa (by decide)) qAe)) qAe))) (qCr (by decide)) (qAi (ow1:=[1]) (qBe (by decide) (by decide) (qAf (λ_=>qAd5) (qAf (λ_=>qAd5) (qJ5 (qAb qAg qAe)) (SF.se (qOm (by decide) (by decide) (qEt (qAb (qAf (λ_=>qJq) (qB7 (λ_=>qD0) (qAb (qAa (by decide)) qAe)) qAg) qAe)) (qCr (by decide)) qJs (qAf (λ_=>qJq) (qAf (λ_=>qA2) (qAa (by decide)) (qAf (λ_=>qCf) (qAa (by decide)) qAg)) (qAf (λ_=>qA2) (qAa (by decide)) (qAa (by decide))))))) (qJ5 (qAb (qRt (λ_=>qNl) (qAf (λ_=>qA2) (qAa (by decide)) (qRt (λ_=>qNl) qAg))) qAe))))
 (qAi (ow1:=[4,1]) (qLp (by decide) (by decide) (qM5 qAe))
 (qAi (ow1:=[4,1]) (qG2 (by decide) (qEt (qAb (qAf (λ_=>qJq) (qB7 (λ_=>qD0) (qAb (qAa (by decide)) qAe)) (qAa (by decide))) qAe)) (qCr (by decide)) (qAi (ow1:=[4,1]) (qBe (by decide) (by decide) (qNj (qAb qAg (qAb qAg qAe))))
 (qAi (ow1:=[4,1]) (qG2 (by decide) (qEt (qAb (qAf (λ_=>qCf) (qAa (by decide)) qAg) qAe)) (qCr (by decide)) (qBe (by decide) (by decide) (qAr Lift.refl qAn (qAb (qAa (by decide)) (qAb (qNj (qAb (qAf (λ_=>qA9) (qAf (λ_=>qA2) (qAa (by decide)) (qAa (by decide))) (qAf (λ_=>qDj) (qAf (λ_=>qA2) (qAa (by decide)) (qAf (λ_=>qCf) (qAa (by decide)) (qAa (by decide)))) qAg)) (qAb (qAf (λ_=>qDj) (qAf (λ_=>qA2) (qAa (by decide)) (qAf (λ_=>qCf) (qAa (by decide)) (qAa (by decide)))) qAg) qAe))) qAe)))))
 (qLg (by decide) (by decide) (qAa (by decide))))))
 (qIw (ow1:=[1]) (by decide) (qLg (by decide) (by decide) (qAa (by decide))))))))
 (qIw (ow1:=[]) (by decide) (qBa (by decide) (qAa (by decide)))))))
abbrev tbB7:FS:=
 (qDo 6 (qAs qFg [] (qAc (qAd 6) (qAc (qN2 (qAc (fOp qDa (fOp qCc (qAd 2) (qAd 7)) (fOp qGu (fOp qCc (qAd 0) (fOp qDs (qAd 5) (qAd 7))) (fC (.int 0)))) (qAc (fOp qGu (fOp qCc (qAd 0) (fOp qDs (qAd 5) (qAd 7))) (fC (.int 1))) qAl))) qAl))))
abbrev tbB5:FS:=
 (qBf (qDo 6 (qN2 (qAc (fC (.int 0)) (qAc (fC (.int 1)) qAl))))
 (qBf (qIk (qDq (qAc (fOp qDs (qAd 3) (fC (.int 1))) qAl)) (qB1 7) (qDo 6 (qAs qFg [] (qAc (qAd 6) (qAc (qN2 (qAc (fOp qDa (fOp qCc (qAd 2) (qAd 7)) (fOp qGu (fOp qCc (qAd 0) (fOp qDs (qAd 5) (qAd 7))) (fC (.int 0)))) (qAc (fOp qGu (fOp qCc (qAd 0) (fOp qDs (qAd 5) (qAd 7))) (fC (.int 1))) qAl))) qAl)))))
 (qPc 4 (qAd 6))))
abbrev tbB3:FS:=
 (qBf (qDo 2 (fOp oCat (fOp oCat (qKd (qAc (fC (.int 1)) qAl)) (fLc (qDq (qAc (fOp qRl (fLs qH8 (qAc (qAd 2) qAl)) (fC (.int 1))) qAl)) (qB1 7) qMd (fOp qRl (fOp qCc (qAd 2) (fOp qDs (qAd 7) (fC (.int 1)))) (fOp qCc (qAd 2) (qAd 7))) [7])) (qKd (qAc (fUn qZf (fOp qCc (qAd 2) (fUn qZf (fC (.int 1))))) qAl))))
 (qBf (qZ7 4 (qKd qAl))
 (qBf (qIk (qDq (qAc (fOp qRl (fLs qH8 (qAc (qAd 0) qAl)) (qAd 3)) qAl)) (qB1 5) (qBf (qDo 6 (qN2 (qAc (fC (.int 0)) (qAc (fC (.int 1)) qAl))))
 (qBf (qIk (qDq (qAc (fOp qDs (qAd 3) (fC (.int 1))) qAl)) (qB1 7) (qDo 6 (qAs qFg [] (qAc (qAd 6) (qAc (qN2 (qAc (fOp qDa (fOp qCc (qAd 2) (qAd 7)) (fOp qGu (fOp qCc (qAd 0) (fOp qDs (qAd 5) (qAd 7))) (fC (.int 0)))) (qAc (fOp qGu (fOp qCc (qAd 0) (fOp qDs (qAd 5) (qAd 7))) (fC (.int 1))) qAl))) qAl)))))
 (qPc 4 (qAd 6)))))
 (qPc 1 (qAd 4)))))
def qF2(K:W.Frag)(cs:List Str):TS:=
 (tSeq (tAsg (tLst (tCons (tCall (qRx K (qA6 cs)) [.int 13] E0 (tCons (tVar 0) tNil)) tNil)) (gName 1))
 (tSeq (tWhile (tTest (tOp rGt0 (tCB (qFb K) (tCons (tOp (rIxL K) (tVar 1) (tUn qM6 (tC (.int 1)))) tNil)) (tC (.int 1)))) (tSeq (tAsg (tOp (rIxL K) (tVar 1) (tUn qM6 (tC (.int 1)))) (gName 2))
 (tDrop (tBM K "list" rAppend (tVar 1) (tCons (tLc (iZip K (tCons (tVar 2) (tCons (tSl (rSlL K) (tVar 2) (tPart (tC (.int 1))) tNoPart) tNil))) (gTup K 2 (gCons (gName 3) (gCons (gName 4) gNil))) tYes (tOp (rOwn (He.ga K "Ratio") (lift K (fR2 λa b=>a - b)) E0) (tVar 3) (tVar 4)) [3,4]) tNil)))))
 (tRet (tVar 1))))
theorem qT2{cs:List Str}(hR:("Ratio":Str)∈cs)(ds:List D)(P:D->Prop)(X:XP)(h:qA6 cs ds P X):qDb cs (topN P X) (qBb 4 ds):=by
 obtain ⟨d,n,rfl,h⟩:=h
 have good:∀ items,itD d=some items->items≠[]->(items.length:Int)<=n->items.length<=100000->((∃ qs,qDf items=some qs/\P (.lst (qCy qs)))\/(∃ pre b post,items=pre ++ b :: post/\(∃ qs,qDf pre=some qs)/\qTw cs b=some false/\X ⟨"NoRow",[("index", .int (pre.length:Nat))]⟩))->qDb cs (topN P X) (qBb 4 [d, .int n]):=λitems hi he hn hl h=>by
  obtain ⟨b,b',h1,h2,h3⟩:=qK0 (cs:=cs) hi
  have em:items.isEmpty=false:=by cases items with | nil=>exact absurd rfl he | cons a l=>rfl
  have dn:decide (n<(items.length:Int))=false:=decide_eq_false (by omega)
  simp_arith [qDb,qV9,topN,qIk,fEn,itEx hi,qO7 hi,qKn hi]
  refine ⟨b,b',h1,h2, ?_⟩
  rw [h3]
  simp_arith [em,Bool.not_true,Bool.not_false,dn]
  refine qH0 hR items 0 none none ?_
  rcases h with ⟨qs,hq,hp⟩ | ⟨pre,bb,post,h,hq,hb,hX⟩
  ·refine .inl ⟨⟨qs,hq⟩,λv2 v3 => ?_⟩
   simp_arith [fLc,qV9,topN,itEx hi]
   exact qAcx hR (by simp [qIa]) hq hl hp
  ·exact .inr ⟨pre,bb,post,h,hq,hb,λρ=>by rw [Nat.zero_add];exact hX⟩
 rcases h with ⟨items,qs,hi,he,hn,hl,hq,hp⟩ | ⟨items,pre,b,post,hi,hn,h1,h2,h3,h4⟩ | ⟨items,hi,he,h4⟩ | ⟨h1,h2,h3⟩
 ·exact good items hi he hn hl (.inl ⟨qs,hq,hp⟩)
 ·by_cases hl:items.length<=100000
  ·exact good items hi (by rw [h1];simp) hn hl (.inr ⟨pre,b,post,h1,h2,h3,h4⟩)
  ·obtain ⟨b0,b',k1,k2,k3⟩:=qK0 (cs:=cs) hi
   have em:items.isEmpty=false:=by cases items with | nil=>simp at hl | cons a l=>rfl
   have dn:decide (n<(items.length:Int))=false:=decide_eq_false (by omega)
   simp_arith [qDb,qV9,topN,qIk,fEn,itEx hi,qO7 hi,qKn hi]
   refine ⟨b0,b',k1,k2, ?_⟩
   rw [k3]
   simp_arith [em,Bool.not_true,Bool.not_false,dn]
   exact qH0 hR items 0 none none (.inr ⟨pre,b,post,h1,h2,h3,λρ=>by rw [Nat.zero_add];exact h4⟩)
 ·obtain ⟨b,b',h1,h2,h3⟩:=qK0 (cs:=cs) hi
  simp_arith [qDb,qV9,topN,qO7 hi,qKn hi]
  refine ⟨b,b',h1,h2, ?_⟩
  rw [h3]
  simp_arith [Bool.not_true]
  by_cases e:items=[]
  ·subst e
   simp_arith [List.isEmpty_nil,Bool.not_true,Bool.not_false]
   exact h4
  ·have em:items.isEmpty=false:=by cases items with | nil=>exact absurd rfl e | cons a l=>rfl
   have dn:decide (n<(items.length:Int))=true:=decide_eq_true (by rcases he with he | he;exact absurd he e;exact he)
   simp_arith [em,Bool.not_true,Bool.not_false,dn]
   exact h4
 ·simp_arith [qDb,qV9,topN]
  refine ⟨false,false,h1,h2, ?_⟩
  simp_arith [Bool.not_false,Bool.or_false]
  exact h3
theorem qAb0{cs:List Str}(hR:("Ratio":Str)∈cs)(q:Rat):qTw cs (.rat q)=some true:=by simp [qTw,isD,tyN,qQy,hR]
theorem qAem{ds:List D}{d:D}{P:D->Prop}{X:XP}(p:P d):oIx (.lst (ds ++ [d])) (.int (-1)) P X:=by
 have hla:atI (ds ++ [d]) (-1)=some d:=by
  unfold atI ixN
  rw [if_neg (by decide),if_pos (by rw [List.length_append,List.length_singleton];omega),List.length_append,List.length_singleton]
  show (ds ++ [d])[((-1:Int)+((ds.length+1:Nat):Int)).toNat]?=_
  rw [show ((-1:Int)+((ds.length+1:Nat):Int)).toNat=ds.length by omega,List.getElem?_append_right (Za9 _),Nat.sub_self]
  rfl
 exact ⟨_,_,_, .inl rfl,rfl,hla,p⟩
theorem qAe8{cs:List Str}(hR:("Ratio":Str)∈cs)(ds:List D)(P:D->Prop)(X:XP)(h:qD5 cs ds P X):qNq cs (qF9 P X) (qBb 2 ds):=by
 obtain ⟨d,as,n,rfl,hr,n1,hx,hg⟩:=h
 obtain ⟨is,hi,hq,h0,h13,hz,hn⟩:=hr
 simp_arith [qNq]
 refine qY2 ⟨is,hi,hq,h0,h13,hz,hn⟩ ?_
 simp_arith [qE6]
 have g0:(qCy as)[0]?=some (.rat (coef as 0)):=by
  unfold qCy
  rw [Zae,Za3 h0,qCt (Za3 h0)]
  rfl
 have z0:Sz n (coef as 0):=hz _ (by rw [qCt (Za3 h0)];exact List.getElem_mem _)
 by_cases h1:as.length=1
 ·rw [decide_eq_true (show ((as.length:Nat):Int)=1 by omega)]
  simp_arith []
  exact hx (.inl h1)
 ·rw [decide_eq_false (show ¬ ((as.length:Nat):Int)=1 by omega)]
  simp_arith []
  refine qDy (k:=0) rfl g0 ?_
  simp_arith [qAm4]
  refine ⟨⟨n,1,z0,⟨by decide,by decide⟩,by omega⟩, ?_⟩
  by_cases h2:coef as 0=0
  ·rw [if_pos (decide_eq_true (by rw [h2];rfl))]
   exact hx (.inr h2)
  ·rw [if_neg (λz=>h2 ((of_decide_eq_true z).trans rfl))]
   have l2:1<as.length:=by omega
   have g1:(qCy as)[1]?=some (.rat (coef as 1)):=by
    unfold qCy
    rw [Zae,Za3 l2,qCt (Za3 l2)]
    rfl
   have z1:Sz n (coef as 1):=hz _ (by rw [qCt (Za3 l2)];exact List.getElem_mem _)
   obtain ⟨s2,si,p⟩:=hg h1 h2
   have zq:Sz (n+n) (coef as 1 / coef as 0):=z1.div z0
   refine qDy (k:=1) rfl g1 ⟨⟨by decide,by decide⟩, ?_⟩
   refine qDy (k:=0) rfl g0 ?_
   refine ⟨⟨n,n,z1,z0,by omega⟩,λz=>absurd z h2,λ_ => ?_⟩
   simp_arith [fR1]
   refine ⟨⟨n+n,zq,by omega⟩, ?_⟩
   exact ⟨_,_,as,n,true,rfl,⟨_,rfl,qF4 _,h0,h13,hz,hn⟩,qAb0 hR _,(λz=>nomatch z),λ_=>⟨_,rfl,s2,si,p⟩⟩
theorem qAc1{cs:List Str}(hR:("Ratio":Str)∈cs)(ds:List D)(P:D->Prop)(X:XP)(h:qFg ds P X):qMw cs (qF9 P X0) (qBb 2 ds):=by
 obtain ⟨p,q,n,m,rfl,hp,hq,hb,p0⟩:=h
 simp_arith [qMw,prT,ixt0,ixt1]
 exact ⟨qKs hp.a hq.b hb,qKs hq.a hp.b (by omega),qKs hp.b hq.b hb,by decide,p0⟩
abbrev T62(ps:List (Int × Int))(k:Nat)(v1:Option D)(ls:List Int)(v4 v5 v6 v7:Option D):Env:=[some (.lst (qEg ps)),v1,some (.lst (qDl ls)),some (.int (k:Int)),v4,v5,v6,v7]
section
variable {FD:FEnds} {ps:List (Int × Int)} {k:Nat} {v1:Option D}
theorem qAi5(k8:k<=8)(hz:∀ p,p∈ps->SzP 355 p){at':Nat}(ha:at'+k<ps.length)(l9:ps.length<=9){v4:Option D}(fin:∀ v7,FD.nx (T62 ps k v1 (lin k) v4 (some (.int (at':Int))) (some (prT (qXy (lin k) ps at' (k+1)))) v7)) :
  ∀ (r j:Nat) (v7:Option D),j+r=k+1->qDk (qB1 7) tbB7 FD (qIl (j:Int) r) (T62 ps k v1 (lin k) v4 (some (.int (at':Int))) (some (prT (qXy (lin k) ps at' j))) v7)
 | 0,j,v7,h=>by
  have:j=k+1:=by omega
  subst this
  exact fin v7
 | r+1,j,v7,h=>by
  rw [qE1]
  unfold qDk tbB7 T62
  have e1:(at':Int)+(j:Int)=((at'+j:Nat):Int):=by omega
  have g1:ps[at'+j]?=some (ps.getD (at'+j) (0,1)):=by rw [Zak,Za3 (show at'+j<ps.length by omega)];rfl
  have gl:=qSv (show j<(lin k).length by rw [qMl];omega)
  have z0:=hz _ (List.mem_of_getElem? g1)
  have lb:(ci (lin k) j).natAbs<=2 ^ 8:=Zaf (qAes k _ (List.mem_of_getElem? gl)) (Zaa (by decide) k8)
  have h1:=qUn k8 hz at' j (by omega)
  simp_arith [e1]
  refine qDy rfl (qFr gl) ?_
  refine qDy rfl (qMj g1) ?_
  simp_arith [prT,ixt0,ixt1]
  refine ⟨qKs (n:=9) (m:=355) (Nat.lt_of_le_of_lt lb (by decide)) z0.a (by decide), ?_⟩
  refine qDy rfl (qMj g1) ?_
  simp_arith [prT,ixt0,ixt1]
  refine ⟨by decide, ?_⟩
  refine ⟨qXy (lin k) ps at' j,(ci (lin k) j*(ps.getD (at'+j) (0,1)).1,(ps.getD (at'+j) (0,1)).2),4000,364,rfl,h1,SzP.lmul62 lb z0,by decide, ?_⟩
  have:=qAi5 k8 hz ha l9 fin r (j+1) (some (.int (j:Int))) (by omega)
  rw [show ((j+1:Nat):Int)=(j:Int)+1 by omega] at this
  exact this
theorem qAit(k0:0<k)(hz:∀ p,p∈ps->SzP 355 p)(hk:k<ps.length)(l9:ps.length<=9)(fin:∀ v5 v6 v7,FD.nx (T62 ps k v1 (lin k) (some (.lst (qEg (tbP ps k)))) v5 v6 v7)) :
  ∀ (r j:Nat) (v5 v6 v7:Option D),j+r=ps.length - k->qDk (qB1 5) tbB5 FD (qIl (j:Int) r) (T62 ps k v1 (lin k) (some (.lst (qEg ((Zag j).map λa=>qXy (lin k) ps a (k+1))))) v5 v6 v7)
 | 0,j,v5,v6,v7,h=>by
  have:j=ps.length - k:=by omega
  subst this
  have:=fin v5 v6 v7
  unfold tbP at this
  rw [if_neg (by omega)] at this
  exact this
 | r+1,j,v5,v6,v7,h=>by
  rw [qE1]
  unfold qDk tbB5 T62
  simp_arith [qIk,qDq]
  rw [show (k:Int)+1=((k+1:Nat):Int) by omega]
  refine ⟨by decide,by omega,by omega, ?_⟩
  rw [Int.toNat_natCast]
  refine qAi5 (by omega) hz (by omega) l9 (λv7 => ?_) (k+1) 0 v7 (by omega)
  simp_arith []
  refine ⟨by rw [qEl,Za6,List.length_range];exact qBz (by omega), ?_⟩
  have:=qAit k0 hz hk l9 fin r (j+1) (some (.int (j:Int))) (some (prT (qXy (lin k) ps j (k+1)))) v7 (by omega)
  rw [show ((j+1:Nat):Int)=(j:Int)+1 by omega,List.range_succ,List.map_append] at this
  unfold qEg at this ⊢
  rw [List.map_append] at this
  exact this
end
theorem qAmv(ps:List (Int × Int))(k:Nat):(tbT ps k).length=k:=by simp [tbT]
theorem qAgu(ps:List (Int × Int))(k:Nat):tbT ps (k+1)=tbT ps k ++ [D.lst (qEg (tbP ps k))]:=by
 unfold tbT
 rw [List.range_succ,List.map_append]
 rfl
theorem qAil{FD:FEnds}{ps:List (Int × Int)}(hz:∀ p,p∈ps->SzP 355 p)(l9:ps.length<=9)(fin:∀ v2 v3 v4 v5 v6 v7,FD.nx [some (.lst (qEg ps)),some (.lst (tbT ps ps.length)),v2,v3,v4,v5,v6,v7]) :
  ∀ (r k:Nat) (v3 v4 v5 v6 v7:Option D),k+1+r=ps.length->qDk (qB1 3) tbB3 FD (qIl ((k+1:Nat):Int) r) [some (.lst (qEg ps)),some (.lst (tbT ps (k+1))),some (.lst (qDl (lin k))),v3,v4,v5,v6,v7]
 | 0,k,v3,v4,v5,v6,v7,h=>by
  have:k+1=ps.length:=by omega
  rw [this]
  exact fin _ _ _ _ _ _
 | r+1,k,v3,v4,v5,v6,v7,h=>by
  rw [qE1]
  unfold qDk tbB3
  have ll:=qMl k
  simp_arith [fLc,qDq,qFf]
  refine ⟨by decide,by omega,by omega, ?_⟩
  rw [ll,show (((k+1:Nat):Int) - 1)=(k:Int) by omega,Int.toNat_natCast]
  refine qM0 (λd=>match d with | .int i=>D.int (ci (lin k) (i.toNat+1) - ci (lin k) i.toNat) | e=>e) _ [] (λdd hd Q q => ?_) (by simp only [qIl,Za6,List.length_range,List.length_nil];exact qBz (by omega)) ?_
  ·obtain ⟨j,hj,rfl⟩:=List.mem_map.mp hd
   have hj:=List.mem_range.mp hj
   simp only [qIa]
   simp_arith []
   have hj:j<k:=by simpa using hj
   rw [show (0:Int)+(j:Int)+1=((j+1:Nat):Int) by omega,show (0:Int)+(j:Int)=((j:Nat):Int) by omega]
   refine qDy rfl (qFr (qSv (show j+1<(lin k).length by omega))) ?_
   refine qDy rfl (qFr (qSv (show j<(lin k).length by omega))) ?_
   rw [show (0:Int)+(j:Int)=((j:Nat):Int) by omega] at q
   exact q
  have em:([]:List D) ++ List.map (λd=>match d with | .int i=>D.int (ci (lin k) (i.toNat+1) - ci (lin k) i.toNat) | e=>e) (qIl 0 k)=qDl ((Zag k).map λi=>ci (lin k) (i+1) - ci (lin k) i):=by
   rw [List.nil_append]
   unfold qIl qDl
   rw [List.map_map,List.map_map]
   refine List.map_congr_left λi _ => ?_
   show D.int (ci (lin k) (((0:Int)+(i:Int)).toNat+1) - ci (lin k) ((0:Int)+(i:Int)).toNat)=D.int (ci (lin k) (i+1) - ci (lin k) i)
   rw [show ((0:Int)+(i:Int)).toNat=i by omega]
  have el:qDl (lin k)=qDl ((lin k).take k) ++ [.int (ci (lin k) k)]:=by
   have e:lin k=(lin k).take k ++ [ci (lin k) k]:=by
    have g:=qSv (show k<(lin k).length by omega)
    refine List.ext_getElem? λi => ?_
    by_cases hi:i<k
    ·rw [List.getElem?_append_left (by rw [Zaj];omega),List.getElem?_take_of_lt hi]
    ·rw [List.getElem?_append_right (by rw [Zaj];omega),Zaj,Nat.min_eq_left (by omega)]
     by_cases hk:i=k
     ·rw [hk,Nat.sub_self];exact g
     ·rw [List.getElem?_eq_none (by omega),List.getElem?_eq_none (by simp;omega)]
   conv=>lhs;rw [e]
   unfold qDl
   rw [List.map_append]
   rfl
  rw [em]
  refine ⟨by simp only [Za0,List.length_nil,qFf,Za6,List.length_range];exact Nat.le_of_lt (qBz (by omega)), ?_⟩
  rw [el]
  refine qAem ?_
  refine ⟨by decide,by simp only [List.length_append,Za0,List.length_nil,qFf,Za6,List.length_range];exact Nat.le_of_lt (qBz (by omega)), ?_⟩
  have es:[D.int 1] ++ qDl ((Zag k).map λi=>ci (lin k) (i+1) - ci (lin k) i) ++ [D.int (-(ci (lin k) k))]=qDl (lin (k+1)):=by
   rw [qAge,ll,Nat.add_sub_cancel]
   unfold qDl
   rw [List.map_append,List.map_append]
   rfl
  rw [es]
  simp_arith [qIk,qDq,qEl]
  refine ⟨by decide,Nat.zero_le _,by omega,by omega, ?_⟩
  rw [show ((ps.length:Int) - ((k+1:Nat):Int)).toNat=ps.length - (k+1) by omega]
  refine qAit (k:=k+1) (by omega) hz (by omega) l9 (λv5 v6 v7 => ?_) (ps.length - (k+1)) 0 v5 v6 v7 (by omega)
  simp_arith []
  refine ⟨by rw [qAmv];exact qBz (by omega), ?_⟩
  have:=qAil hz l9 fin r (k+1) (some (.int ((k+1:Nat):Int))) (some (.lst (qEg (tbP ps (k+1))))) v5 v6 v7 (by omega)
  rw [qAgu,show ((k+1+1:Nat):Int)=((k+1:Nat):Int)+1 by omega] at this
  exact this
theorem qAan{cs:List Str}(hR:("Ratio":Str)∈cs)(ds:List D)(P:D->Prop)(X:XP)(h:qE3 ds P X):qKu cs (qF9 P X0) (qBb 8 ds):=by
 obtain ⟨ps,rfl,hz,h0,l9,p⟩:=h
 simp_arith [qKu,qIk,qAk8,fLs,qEl]
 refine ⟨by decide,by rw [sizeLine_eq];decide,by rw [sizeLine_eq];decide,⟨by decide,by decide,by omega,by omega⟩, ?_⟩
 have t:=qAil (FD := { nx:=qEz (qAd 1) (qF9 P X0),rt:=P,bk:=λ_=>False,ct:=λ_=>False,ex:=λ_ _=>False,rf:=P }) hz l9 (λv2 v3 v4 v5 v6 v7=>⟨_,rfl,p⟩) (ps.length - 1) 0 none none none none none (by omega)
 rw [show (((ps.length:Nat):Int) - 1).toNat=ps.length - 1 by omega]
 exact t
theorem qAhl(f:Nat->Rat)(n:Nat):qXe (qCy ((Zag (n+1)).map f)) (qCy ((Zag n).map λi=>f (i+1)))=(Zag n).map λi=>D.tup [.rat (f i), .rat (f (i+1))]:=by
 have go:∀ (xs:List Nat) (ys:List Nat),ys.length=xs.length+1->(∀ (i a:Nat),xs[i]?=some a->ys[i]?=some a)->qXe (qCy (ys.map f)) (qCy (xs.map λi=>f (i+1)))=xs.map λi=>D.tup [.rat (f i), .rat (f (i+1))]:=by
  intro xs
  induction xs with
  | nil=>
   intro ys _ _
   cases ys <;> rfl
  | cons x xs ih=>
   intro ys l h
   cases ys with
   | nil=>simp at l
   | cons y ys=>
    obtain rfl:y=x:=Option.some.inj (h 0 x rfl)
    show D.tup [.rat (f y), .rat (f (y+1))] :: qXe (qCy (ys.map f)) (qCy (xs.map λi=>f (i+1)))=_
    rw [ih ys (by simpa using l) (λi a hi=>h (i+1) a hi)]
    rfl
 refine go (Zag n) (Zag (n+1)) (by simp) λi a hi => ?_
 have hl:=(List.getElem?_eq_some_iff.mp hi).1
 rw [List.length_range] at hl
 rw [List.getElem?_range hl] at hi
 rw [List.getElem?_range (by omega)]
 exact hi
theorem qAdx(ms:List Rat)(k:Nat)(hk:k+1<ms.length):(qCy (dfL ms k)).drop 1=qCy ((Zag (ms.length - (k+1))).map λi=>dfs k (coef ms) (i+1)):=by
 unfold dfL qCy
 rw [show ms.length - k=(ms.length - (k+1))+1 by omega,List.range_succ_eq_map,List.map_cons,List.map_cons,List.drop_succ_cons,List.drop_zero,List.map_map,List.map_map,List.map_map]
 rfl
theorem qNx{K:W.Frag}{cs:List Str}(vs:List V)(H:Hp)(Q:VK)(E:XK)(h:(qIe K (qG1 cs)) vs H Q E):vs.length=1:=qAoq (λds P X h=>by
 obtain ⟨d,items,ms,n,rfl,_⟩:=h
 rfl) h
structure Df (K:W.Frag) (w:Wd) (ms:List Rat) (a b:Addr) (d:D) (j:Nat) (σ:L2.St) (H:Hp):Prop where
 e:∃ v2 v3 v4,REnv K w.F.T w [1] H σ [some d,some (.lst (dfT ms j)),v2,v3,v4]
 s:σ[1]?=some (some (.ref a))
 h:∃ us,H a=some (.lst (.ref b :: us))
abbrev qApk(K:W.Frag):TT:=(tTest (tOp rGt0 (tCB (qFb K) (tCons (tOp (rIxL K) (tVar 1) (tUn qM6 (tC (.int 1)))) tNil)) (tC (.int 1))))
abbrev qAig(K:W.Frag):TE:=(tOp (rIxL K) (tVar 1) (tUn qM6 (tC (.int 1))))
abbrev dfLc(K:W.Frag):TE:=(tLc (iZip K (tCons (tVar 2) (tCons (tSl (rSlL K) (tVar 2) (tPart (tC (.int 1))) tNoPart) tNil))) (gTup K 2 (gCons (gName 3) (gCons (gName 4) gNil))) tYes (tOp (rOwn (He.ga K "Ratio") (lift K (fR2 λa b=>a - b)) E0) (tVar 3) (tVar 4)) [3,4])
theorem qAqo(K:W.Frag)(cs:List Str):qF2 K cs=tSeq (tAsg (tLst (tCons (tCall (qRx K (qA6 cs)) [.int 13] E0 (tCons (tVar 0) tNil)) tNil)) (gName 1)) (tSeq (tWhile (qApk K) (tSeq (tAsg (qAig K) (gName 2)) (tDrop (tBM K "list" rAppend (tVar 1) (tCons (dfLc K) tNil))))) (tRet (tVar 1))):=rfl
section
variable {K:W.Frag} {Ta:List (Addr × Str)} {E:L2.St->XK}
theorem qAlm:STt K Ta [1] E (qApk K) (fB (fOp oGt (fLs qH8 (qAc (fOp oIx (qAd 1) (fUn qZf (fC (.int 1)))) qAl)) (fC (.int 1)))):=qCl (qAf (λ_=>qAdt) (qB7 (λ_=>qD0) (qAb (qS7 (by decide) (qRt (λ_=>qNl) qAg)) qAe)) qAg)
theorem qAhf:SE K Ta [1] E (qAig K) (fOp oIx (qAd 1) (fUn qZf (fC (.int 1)))):=qS7 (by decide) (qRt (λ_=>qNl) qAg)
theorem qAog:SE K Ta [1] E (dfLc K) (fLc (fZip (qAc (qAd 2) (qAc (fSl (qAd 2) (qW7 (fC (.int 1))) qI2) qAl))) (qSz [3,4]) qMd (fOp (qOh "Ratio" (fR2 λa b=>a - b)) (qAd 3) (qAd 4)) [3,4]):=SF.se (qOm (by decide) (by decide) (qAnd (qAb (qAa (by decide)) (qAb (SF.se (qAow (qAa (by decide)) (qAeh qAg) qAei)) qAe))) (qAct rfl (qHt (by decide) (qHt (by decide) qU6))) qJs (qAf (λ_=>(qP1 Lift.refl)) (qAa (by decide)) (qAa (by decide))))
end
theorem qAqm{ms:List Rat}{n k:Nat}(hz:SzL n ms)(n1:n<=1000)(l9:ms.length<=9)(hk:k+1<ms.length){d:D}{v1 v3 v4:Option D}{P:D->Prop}(p:P (.lst (qCy (dfL ms (k+1))))) :
  fLc (fZip (qAc (qAd 2) (qAc (fSl (qAd 2) (qW7 (fC (.int 1))) qI2) qAl))) (qSz [3,4]) qMd (fOp (qOh "Ratio" (fR2 λa b=>a - b)) (qAd 3) (qAd 4)) [3,4] [some d,v1,some (.lst (qCy (dfL ms k))),v3,v4] P X0:=by
 have cd:=qX7 (qCy (dfL ms k)) 1
 rw [show (((1:Nat):Nat):Int)=1 from rfl] at cd
 simp_arith [fLc,fZip,fSl]
 rw [cd,qAdx ms k hk]
 have eL:qCy (dfL ms k)=qCy ((Zag ((ms.length - (k+1))+1)).map (dfs k (coef ms))):=by unfold dfL;rw [show ms.length - k=(ms.length - (k+1))+1 by omega]
 rw [eL,qAhl]
 refine qM0 (λdd=>match dd with | .tup [.rat x, .rat y] => .rat (x - y) | e=>e) _ [] (λdd hd Q q => ?_) (by simp;exact qBz (by omega)) ?_
 ·obtain ⟨i,hi,rfl⟩:=List.mem_map.mp hd
  have hi:=List.mem_range.mp hi
  simp only [qIa]
  simp_arith [qAe0]
  have z1:=qXo hz k i (by omega)
  have z2:=qXo hz k (i+1) (by omega)
  have b:2 ^ k*(n+1)<=2 ^ 8*1001:=Nat.mul_le_mul (Zaa (by decide) (by omega)) (by omega)
  exact ⟨⟨_,_,z1,z2,by omega⟩,q⟩
 ·rw [List.nil_append,List.map_map]
  have:((Zag (ms.length - (k+1))).map ((λdd:D=>match dd with | .tup [.rat x, .rat y]=>D.rat (x - y) | e=>e) ∘ λi=>D.tup [.rat (dfs k (coef ms) i), .rat (dfs k (coef ms) (i+1))]))=qCy (dfL ms (k+1)):=by
   unfold dfL qCy
   rw [List.map_map]
   rfl
  rw [this]
  exact p
theorem qAh0{te:TE}{σ:L2.St}{H:Hp}{Q:List V->Hp->Prop}(h:te σ H λv H1=>Q [v] H1):tCons te tNil σ H Q:=h
theorem qOo{K:W.Frag}{cs:List Str}(T:KF K cs)(hRa:("Ratio":Str)∈cs)(vs:List V)(H:Hp)(Q:VK)(E:XK)(h:(qIe K (qG1 cs)) vs H Q E):qF2 K cs { nx:=λ_ H'=>Q .non H',rt:=Q } (start ["row","found","last","one","other"] vs) H:=by
 obtain ⟨F,M,ds,P,lv,r,hs,q⟩:=h
 obtain ⟨d,items,ms,n,rfl,hd,hn,l0,l9,hz,n1,p⟩:=hs
 have le:items.length=ms.length:=qNv hn
 obtain ⟨v,rfl,rd⟩:=qKx r
 have s24:sizeLine=16777216:=sizeLine_eq
 rw [qAqo]
 refine ⟨v,rfl, ?_⟩
 refine ⟨F,M,[d, .int 13],λe=>e = .lst (qCy ms),X0,lv, .cons rd (.one rfl),⟨d,13,rfl, .inl ⟨items,ms,hd,(by intro z;rw [z] at le;simp at le;omega),by omega,by omega,hn,rfl⟩⟩,λe u H1 he g nw => ?_,px00⟩
 subst he
 obtain ⟨b,o,rfl,hb0,hbn,hb1,zs,rfl,rz⟩:=nw
 refine ⟨(by show 1<=sizeLine;omega),λa na => ?_⟩
 have ba:b≠a:=λz=>by rw [z,na] at hb1;cases hb1
 have nMb:¬ M b:=λz=>by obtain ⟨u,y⟩:=lv.m b z;rw [hb0] at y;cases y
 have e0:REnv K F.T ⟨F,M,H⟩ [] H1 (start ["row","found","last","one","other"] [v]) (qBb 5 [d]):=(qJl lv (.one rd) rfl).grow g
 have nil1:∀ x:Nat,x ∉ ([]:List Nat):=λ_ z=>nomatch z
 have nMo:∀ p,¬ Mo [] (start ["row","found","last","one","other"] [v]) p:=λp ⟨i,hi,_⟩=>nomatch hi
 have e1:=e0.take (i:=1) (d := .lst [.lst (qCy ms)]) (nil1 1) (by show 1<5;decide) na (Gr.new (o := .lst [.ref b]) na) upd_same ⟨[.ref b],rfl, .one ⟨b,zs,rfl,⟨hbn,λz=>z.elim (λz=>z.elim nMb (nMo b)) ba⟩,by rw [upd_ne ba];exact hb1,Reps.goes (λp u hp _ m=>⟨by rw [upd_ne (λz=>by rw [z,na] at hp;cases hp)];exact hp,λz=>z.elim (λz=>z.elim (λy=>m (.inl y)) (nMo p)) (λy=>by rw [y,na] at hp;cases hp)⟩) _ _ rz⟩⟩
 have eT:dfT ms (0+1)=[D.lst (qCy ms)]:=by
  show [D.lst (qCy (dfL ms 0))]=_
  rw [qYf]
 refine ⟨λm σ H'=>∃ k,m=ms.length - k/\k<ms.length/\Df K ⟨F,M,H⟩ ms a b d (k+1) σ H',⟨ms.length,0,rfl,l0,⟨none,none,none, ?_⟩,rfl,[],upd_same⟩, ?_⟩
 ·rw [eT]
  exact e1
 rintro m σ2 H2 ⟨k,rfl,hk,⟨v2,v3,v4,e⟩,hσ,us,hus⟩
 refine qAlm (E:=λ_=>E) ⟨F,M,H⟩ H2 σ2 _ (λc=>c=decide (1<ms.length - k)) X0 _ e ?_ (λc H3 hc g3 => ?_) px00
 ·simp_arith []
  rw [qPw]
  refine qAem ?_
  simp_arith [qE6,qKw]
  by_cases hc:1<ms.length - k
  ·rw [decide_eq_true hc,decide_eq_true (by omega)]
  ·rw [decide_eq_false hc,decide_eq_false (by omega)]
 have e3:=e.grow g3
 obtain ⟨p',o,dd,k1,k2,k3,k4,k5,k6⟩:=e3.own 1 Zad
 rw [hσ] at k1
 cases k1
 cases k2
 have hus3:=g3.old _ _ hus k5
 cases c with
 | false=>
  have hk1:k+1=ms.length:=by
   have:=of_decide_eq_false hc.symm
   omega
  have nMa:¬ M a:=λz=>by
   have k6':H a=none:=k6
   obtain ⟨u,y⟩:=lv.m a z
   rw [k6'] at y;cases y
  have rep:Rep K F M H3 (.lst (dfT ms (k+1))) (.ref a):=RepO.rep (k4.goes λp u hp _ m=>⟨hp,λz=>m (.inl z)⟩) ⟨k5,nMa⟩ k3
  obtain ⟨rest,er⟩:∃ rest,dfT ms (k+1) = .lst (qCy (dfL ms 0)) :: rest:=⟨_,by unfold dfT;rw [List.range_succ_eq_map,List.map_cons]⟩
  rw [hk1] at er rep
  rw [er] at rep p
  have rep':=rep
  obtain ⟨pa,ua,ea,oka,ha2,ra⟩:=rep'
  cases ea
  rw [hus3] at ha2
  cases ha2
  obtain ⟨vb,ub,eb,rb,_⟩:=ra
  cases eb
  obtain ⟨pb,ubs,eb,okb,hb2,_⟩:=rb
  cases eb
  exact ⟨_,hσ,q _ rest a b us ubs H3 p e3.gr hb0 hus3 hb2 rep⟩
 | true=>
  have hk1:k+1<ms.length:=by
   have:=of_decide_eq_true hc.symm
   omega
  refine ⟨λσ' H'=>∃ m',m'<ms.length - k/\∃ k',m'=ms.length - k'/\k'<ms.length/\Df K ⟨F,M,H⟩ ms a b d (k'+1) σ' H',λσ' H' ⟨m',x,y⟩=>⟨m',x,y⟩, ?_⟩
  refine qAhf (E:=λ_=>E) ⟨F,M,H⟩ H3 σ2 _ (λx=>x = .lst (qCy (dfL ms k))) X0 _ e3 ?_ (λx vx H4 hx g4 r4 => ?_) px00
  ·simp_arith []
   rw [qPw]
   exact qAem rfl
  subst hx
  have e4:=(e3.grow g4).put (i:=2) (by decide) r4
  have s4:(σ2.set 2 (some vx))[1]?=some (some (.ref a)):=by rw [qA8,if_neg (by decide)];exact hσ
  have ha4:=g4.old _ _ hus3 k5
  refine ⟨_,s4, .inl ⟨rfl,_,SqL.of ha4⟩, ?_⟩
  refine qAh0 ?_
  refine qAog (E:=λ_=>E) ⟨F,M,H⟩ H4 _ _ (λx=>x = .lst (qCy (dfL ms (k+1)))) X0 _ e4 (qAqm hz n1 l9 hk1 (d:=d) rfl) (λy vy H5 hy g5 r5 => ?_) px00
  subst hy
  have e5:=e4.grow g5
  obtain ⟨p2,o2,d2,j1,j2,j3,j4,j5,j6⟩:=e5.own 1 Zad
  rw [s4] at j1
  cases j1
  cases j2
  have ha5:=g5.old _ _ ha4 k5
  rw [ha5] at j3
  cases j3
  obtain ⟨vs2,ev,rv⟩:=j4
  cases ev
  have lr:=rv.length
  rw [qAd6] at lr
  refine ⟨a,_,vy,rfl,rfl,ha5,by rw [lr];omega,ms.length - (k+1),by omega,k+1,rfl,hk1,⟨some (.lst (qCy (dfL ms k))),v3,v4, ?_⟩,s4,us ++ [vy],upd_same⟩
  have ef:=e5.chg (i:=1) Zad s4 (d := .lst (dfT ms (k+1) ++ [.lst (qCy (dfL ms (k+1)))])) ⟨_,rfl,rv.append (.one r5)⟩
  rw [<-qPw] at ef
  exact ef
theorem qOf{K:W.Frag}{cs:List Str}(vs:List V)(H:Hp)(Q:VK)(E:XK)(h:(qRx K (qA6 cs)) vs H Q E):vs.length=2:=qAci (λds P X h=>by unfold qA6 at h;first | ((repeat (first | (obtain ⟨rfl,_⟩:=h;exact rfl) | obtain ⟨_,h⟩:=h));done) | (split at h <;> first | rfl | exact h.elim)) h
theorem qP3{K:W.Frag}{cs:List Str}(T:KF K cs)(hRa:("Ratio":Str)∈cs)(vs:List V)(H:Hp)(Q:VK)(E:XK)(h:(qRx K (qA6 cs)) vs H Q E):qE2 K cs E { nx:=λ_ H'=>Q .non H',rt:=Q } (start ["row","limit","index","item"] vs) H:=
 qAnm (t:=λE=>qE2 K cs E) rfl (qSl T hRa) (qT2 hRa) vs H Q E h
theorem qVy{K:W.Frag}{cs:List Str}(vs:List V)(H:Hp)(Q:VK)(E:XK)(h:(lift K (qD5 cs)) vs H Q E):vs.length=1:=qA0 (λds P X h=>by unfold qD5 at h;first | ((repeat (first | (obtain ⟨rfl,_⟩:=h;exact rfl) | obtain ⟨_,h⟩:=h));done) | (split at h <;> first | rfl | exact h.elim)) h
theorem qZx{K:W.Frag}{cs:List Str}(T:KF K cs)(hRa:("Ratio":Str)∈cs)(vs:List V)(H:Hp)(Q:VK)(E:XK)(h:(lift K (qD5 cs)) vs H Q E):qH5 K cs E { nx:=λ_ H'=>Q .non H',rt:=Q } (start ["row","numbers"] vs) H:=
 qAcm (t:=λE=>qH5 K cs E) rfl (qAb5 T hRa) (qAe8 hRa) vs H Q E h
theorem qUp{K:W.Frag}{cs:List Str}(vs:List V)(H:Hp)(Q:VK)(E:XK)(h:(lift K qFg) vs H Q E):vs.length=2:=qA0 (λds P X h=>by unfold qFg at h;first | ((repeat (first | (obtain ⟨rfl,_⟩:=h;exact rfl) | obtain ⟨_,h⟩:=h));done) | (split at h <;> first | rfl | exact h.elim)) h
theorem qZo{K:W.Frag}{cs:List Str}(T:KF K cs)(hRa:("Ratio":Str)∈cs)(vs:List V)(H:Hp)(Q:VK)(E:XK)(h:(lift K qFg) vs H Q E):qKj K cs { nx:=λ_ H'=>Q .non H',rt:=Q } (start ["_law_one","_law_other"] vs) H:=
 qD1 rfl (qAdo T hRa) (qAc1 hRa) vs H Q E h
theorem qSh{K:W.Frag}{cs:List Str}(vs:List V)(H:Hp)(Q:VK)(E:XK)(h:(lift K qE3) vs H Q E):vs.length=1:=qA0 (λds P X h=>by unfold qE3 at h;first | ((repeat (first | (obtain ⟨rfl,_⟩:=h;exact rfl) | obtain ⟨_,h⟩:=h));done) | (split at h <;> first | rfl | exact h.elim)) h
theorem qVa{K:W.Frag}{cs:List Str}(T:KF K cs)(hRa:("Ratio":Str)∈cs)(vs:List V)(H:Hp)(Q:VK)(E:XK)(h:(lift K qE3) vs H Q E):qJb K cs { nx:=λ_ H'=>Q .non H',rt:=Q } (start ["_law_row_here","_law_lists","_law_lines","_law_k","_law_found","_law_at","_law_total","_law_i"] vs) H:=
 qD1 rfl (qZ4 T hRa) (qAan hRa) vs H Q E h
end MR
namespace MR
open PySem PySem.Spec PyProof.Rows L2 LamX
end MR
namespace MR
open PySem PySem.Spec PyProof.Rows L2
structure S88 (m:Nat) (lo:Int) (s:Scene):Prop where
 sh:s.shape=2
 low:s.low=lo
 h0:lo<s.high
 h1:s.high<=lo+100
 b0:0<s.bottom
 b1:s.bottom<=30
 len:s.tops.length=s.parts.length
 most:s.tops.length<=m
 nd:s.tops.Nodup
 top:∀ t,t∈s.tops->lo<=t/\t<=s.high
 part:∀ w,w∈s.parts->0<w/\w<=50
 u0:0<s.under
 u1:s.under<=60
def jf(pr:Bool)(b e x y:Int):Int:=if pr then x*y else x*e+y*b
structure JI (n:Nat) (S:Nat->Int) (R:Int->Prop) (tops parts:List Int):Prop where
 l:tops.length=parts.length
 ln:tops.length<=n
 nd:tops.Nodup
 r:∀ t,t∈tops->R t
 p:∀ w,w∈parts->0<w/\w<=2500*n
 m:∀ k,qKb tops parts k=S k
theorem qT9:∀ {xs ws:List Int} {x w:Int} (k:Nat),xs.length=ws.length->qKb (xs ++ [x]) (ws ++ [w]) k=qKb xs ws k+w*x ^ k
 | [],[],x,w,k,_=>by show w*x ^ k+0=0+w*x ^ k;omega
 | x :: xs,v :: ws,_,_,k,h=>by
  simp only [Za0,Nat.add_right_cancel_iff] at h
  show v*x ^ k+qKb (xs ++ [_]) (ws ++ [_]) k=v*x ^ k+qKb xs ws k+_
  rw [qT9 k h,Int.add_assoc]
theorem qYc:∀ {xs ws:List Int} {x v w:Int} {i:Nat} (k:Nat),xs.length=ws.length->xs[i]?=some x->ws[i]?=some v->qKb xs (ws.set i (v+w)) k=qKb xs ws k+w*x ^ k
 | [],_,_,_,_,_,_,_,h,_=>by simp at h
 | _ :: _,[],_,_,_,_,_,h,_,_=>by cases h
 | x :: xs,v :: ws,_,_,w,0,k,h,h1,h2=>by
  cases h1
  cases h2
  show (v+w)*x ^ k+qKb xs ws k=v*x ^ k+qKb xs ws k+w*x ^ k
  rw [Int.add_mul]
  omega
 | x :: xs,v :: ws,_,_,w,i+1,k,h,h1,h2=>by
  simp only [Za0,Nat.add_right_cancel_iff] at h
  show v*x ^ k+qKb xs (ws.set i _) k=v*x ^ k+qKb xs ws k+_
  rw [qYc k h h1 h2,Int.add_assoc]
theorem JI.app{n:Nat}{S:Nat->Int}{R:Int->Prop}{tops parts:List Int}(h:JI n S R tops parts){x w:Int}(hx:¬ x∈tops)(rx:R x)(w0:0<w)(w1:w<=2500):JI (n+1) (λk=>S k+w*x ^ k) R (tops ++ [x]) (parts ++ [w]):=by
 refine ⟨by simp [h.l],by have:=h.ln;simp;omega, ?_,λt ht => ?_,λv hv => ?_,λk=>by rw [qT9 k h.l,h.m]⟩
 ·rw [List.nodup_append]
  refine ⟨h.nd,by simp,λa ha b hb => ?_⟩
  rw [Zai.mp hb]
  exact λe=>hx (e ▸ ha)
 ·rcases List.mem_append.mp ht with ht | ht
  ·exact h.r t ht
  ·rw [Zai.mp ht];exact rx
 ·rcases List.mem_append.mp hv with hv | hv
  ·have:=h.p v hv
   omega
  ·rw [Zai.mp hv];omega
theorem JI.put{n:Nat}{S:Nat->Int}{R:Int->Prop}{tops parts:List Int}(h:JI n S R tops parts){x v w:Int}{i:Nat}(hx:tops[i]?=some x)(hv:parts[i]?=some v)(w0:0<w)(w1:w<=2500):JI (n+1) (λk=>S k+w*x ^ k) R tops (parts.set i (v+w)):=by
 refine ⟨by rw [List.length_set];exact h.l,by have:=h.ln;omega,h.nd,h.r,λu hu => ?_,λk=>by rw [qYc k h.l hx hv,h.m]⟩
 rcases List.mem_or_eq_of_mem_set hu with hu | rfl
 ·have:=h.p u hu
  omega
 ·have:=h.p v (List.mem_of_getElem? hv)
  omega
def jR(pr:Bool)(s t:Scene)(z:Int):Prop:=∃ x y,x∈s.tops/\y∈t.tops/\z=jf pr s.bottom t.bottom x y
def Jo(pr:Bool)(s t:Scene)(tops parts:List Int):Prop:=JI (s.tops.length*t.tops.length) (λk=>mom s.tops s.parts λx=>mom t.tops t.parts λy=>jf pr s.bottom t.bottom x y ^ k) (jR pr s t) tops parts
structure In88 (s:Scene):Prop where
 b0:0<s.bottom
 b1:s.bottom<=30
 len:s.tops.length=s.parts.length
 most:s.tops.length<=4
 top:∀ t,t∈s.tops -> -200<=t/\t<=200
 part:∀ w,w∈s.parts->0<w/\w<=50
 lo : -200<=s.low/\s.low<=200
 hi : -200<=s.high/\s.high<=200
theorem S88.inn{m:Nat}{lo:Int}{s:Scene}(h:S88 m lo s)(hm:m<=4)(l0 : -10<=lo)(l1:lo<=20):In88 s:=by
 have:=h.h0
 have:=h.h1
 have:=h.low
 have:=h.most
 exact ⟨h.b0,h.b1,h.len,by omega,λt ht=>by have:=h.top t ht;omega,λw hw=>h.part w hw,by omega,by omega⟩
def jLo(pr:Bool)(s t:Scene):Int:=jf pr s.bottom t.bottom s.low t.low
def jHi(pr:Bool)(s t:Scene):Int:=jf pr s.bottom t.bottom s.high t.high
theorem JI.of{n n':Nat}{S S':Nat->Int}{R:Int->Prop}{tops parts:List Int}(h:JI n S R tops parts)(hn:n=n')(hS:∀ k,S k=S' k):JI n' S' R tops parts:=by
 subst hn
 exact ⟨h.l,h.ln,h.nd,h.r,h.p,λk=>(h.m k).trans (hS k)⟩
structure SmSz (K:Nat) (ms:List Rat) (x y:Option Rat) (a c:Nat):Prop where
 l0:0<ms.length
 l13:ms.length<=13
 pl:Pl16 x y
 st:StOk K (ms ++ [0] ++ [0]) (qAo x y) a c
 sz:15*(a+tbN (a+c+4) K+4)+135<=40000
 c4:c<=4900
structure SmX (K:Nat) (ms:List Rat) (x y:Option Rat) (a c:Nat):Prop where
 l0:0<ms.length
 l13:ms.length<=13
 pl:Pl16 x y
 st:StOk K (ms ++ [0] ++ [0]) (qAo x y) a c
 zp:∀ p,smN ms x y=some p->∃ (e:Nat) (D:Int),Cd e D p/\15*e+135<=40000
 si:qAp (goN ms (qAo x y) ms.length 0)=none->15*(a+tbN (a+c+4) K+4)+135<=40000
 c4:c<=4900
theorem StOk.drop0{K:Nat}{ms:List Rat}{fs:List (List Rat)}{a c:Nat}(h:StOk K (ms ++ [0]) fs a c):StOk K ms fs a c:=by
 obtain ⟨M,hM⟩:=h.cm
 have hl:=h.len
 rw [List.length_append] at hl
 exact ⟨h.k6,by simp at hl;omega,⟨M,hM.of_coef λi=>(qBs ms i).symm⟩,h.cu,h.bt⟩
theorem StOk.one{K:Nat}{ms:List Rat}{fs:List (List Rat)}{a c:Nat}(h:StOk K ms fs a c){u:List Rat}(hu:u∈fs):StOk K ms [u] a c:=⟨h.k6,h.len,h.cm,λv hv=>by rw [Zai.mp hv];exact h.cu u hu,h.bt⟩
theorem qAcj{ms:List Rat}{x y:Option Rat}(h:qAp (goN ms (qAo x y) ms.length 0)=none):(∀ j,2*j<ms.length->0<hS ms j)/\∀ u,u∈qAo x y->∀ j,u.length - 1+2*j<ms.length->0<hS (shL u ms) j:=by
 have h0:∀ u,u∈qAo x y->0<u.length:=λu hu=>qAq u hu
 rw [qF0] at h
 have hr:=qJ6 h
 refine ⟨λj hj => ?_,λu hu j hj=>qIz (k:=ms.length) h0 hu (λi hi=>hr i (by omega) (by omega)) hj⟩
 have:=qIz (k:=ms.length) h0 (qHa x y) (λi hi=>hr i (by omega) (by omega)) (j:=j) (by simpa using hj)
 rwa [qGm] at this
theorem qAn6{K:Nat}{ms p:List Rat}{x y:Option Rat}{a c:Nat}(hok:StOk K (ms ++ [0] ++ [0]) (qAo x y) a c)(hp:smN ms x y=some p):∃ D,Cd (a+tbN (a+c+4) K+4) D p:=by
 have hok1:=hok.drop0
 have hok0:=hok1.drop0
 have hl:=hok.len
 have h6:=hok.k6
 have hl2:(ms ++ [(0:Rat)] ++ [0]).length=ms.length+2:=by simp
 unfold smN at hp
 cases hs:qAp (goN ms (qAo x y) ms.length 0) with
 | none=>
  rw [hs] at hp
  cases hp
  obtain ⟨w1,wu⟩:=qAcj hs
  unfold insN
  by_cases he:ms.length % 2=0
  ·rw [if_pos he]
   obtain ⟨D,hD⟩:=hok1.lv (qHa x y) (k:=ms.length / 2) (by omega) λj hj=>by
    show 0<hS (shL [1] (ms ++ [0])) j
    rw [qGm,qGt λi _=>qBs ms i]
    exact w1 j (by omega)
   exact ⟨D,hD.mono (by omega)⟩
  ·rw [if_neg he]
   cases x with
   | none=>
    obtain ⟨D,hD⟩:=hok.lv (qHa none y) (k:=ms.length / 2+1) (by omega) λj hj=>by
     show 0<hS (shL [1] (ms ++ [0] ++ [0])) j
     rw [qGm,qGt λi _=>(qBs (ms ++ [0]) i).trans (qBs ms i)]
     exact w1 j (by omega)
    exact ⟨D,hD.mono (by omega)⟩
   | some q=>
    have hu:[-q,1]∈qAo (some q) y:=by cases y <;> exact .tail _ (.head _)
    have hcs:∀ i,i+2<=ms.length->coef (shL [-q,1] (ms ++ [0])) i=coef (shL [-q,1] ms) i:=λi hi=>by
     rw [qOw (by rw [List.length_append];simp;omega),qOw hi,qBs,qBs]
    obtain ⟨_,_,d,hd⟩:=hok1.cu _ hu
    obtain ⟨D,hD⟩:=hok1.lv hu (k:=ms.length / 2) (by omega) λj hj=>by
     show 0<hS (shL [-q,1] (ms ++ [0])) j
     rw [qGt λi hi=>hcs i (by omega)]
     exact wu _ hu j (by simp;omega)
    exact ⟨_,(hd.mul hD (by simp)).strip⟩
 | some s=>
  rw [hs] at hp
  dsimp only at hp
  split at hp
  ·cases hp
  ·split at hp
   ·cases hp
    obtain ⟨u,n,ha⟩:=qDu hs
    obtain ⟨_,u3,d,hd⟩:=hok0.cu u ha.hu
    have lt:=ha.lt
    obtain ⟨D,hD⟩:=hok0.lv ha.hu (k:=n) (by omega) λj hj=>ha.pos u ha.hu j (by omega)
    obtain ⟨e,ce⟩:=qAok (hd.mul hD (by omega)).strip (qAbt _)
    rw [ha.e]
    exact ⟨e,ce.strip⟩
   ·cases hp
theorem qAqr{K:Nat}{ms p:List Rat}{x y:Option Rat}{a c:Nat}(h:SmSz K ms x y a c)(hp:smN ms x y=some p):∃ D,Cd (a+tbN (a+c+4) K+4) D p:=qAn6 h.st hp
theorem SmSz.x{K:Nat}{ms:List Rat}{x y:Option Rat}{a c:Nat}(h:SmSz K ms x y a c):SmX K ms x y a c:=⟨h.l0,h.l13,h.pl,h.st,λp hp=>by
 obtain ⟨D,z⟩:=qAqr h hp
 exact ⟨_,D,z,h.sz⟩,λ_=>h.sz,h.c4⟩
instance {K:Nat} {ms:List Rat} {x y:Option Rat} {a c:Nat}:Coe (SmSz K ms x y a c) (SmX K ms x y a c):=⟨SmSz.x⟩
end MR
namespace MR
open PySem PySem.Spec PyProof.Rows L2
open Ps
def qIf(xs ws:List Int)(b c:Int)(n:Nat):List Rat:=(Zag n).map (qEn (qDr xs ws b c))
theorem qCd(xs ws:List Int)(b c:Int)(n:Nat):(qIf xs ws b c n).length=n:=by simp [qIf]
theorem qJw{tops parts:List Int}(hl:tops.length=parts.length):∀ k,qEx tops parts k=qTa parts tops k
 | 0=>by
  show parts=(Zag tops.length).map λi=>parts.getD i 0*tops.getD i 0 ^ 0
  refine List.ext_getElem (by simp [hl]) λi h1 h2 => ?_
  rw [List.getElem_map,List.getElem_range,Zak,Za3 h1]
  simp
 | k+1=>by
  show (Zag tops.length).map (λi=>(qEx tops parts k).getD i 0*tops.getD i 0)=(Zag tops.length).map λi=>parts.getD i 0*tops.getD i 0 ^ (k+1)
  refine List.map_congr_left λi hi => ?_
  have hi:=List.mem_range.mp hi
  rw [qJw hl k,Zak (l:=qTa parts tops k),qAhz hi]
  show parts.getD i 0*tops.getD i 0 ^ k*tops.getD i 0=_
  rw [Int.pow_succ,Int.mul_assoc]
theorem Scene.Ok.lotV{s:Scene}{m:Nat}(hs:s.Ok m)(hm:m<=8):LotV s.tops s.parts s.bottom s.under:=by
 have:=hs.most
 have b0:=hs.b0
 have b1:=hs.b1
 have u0:=hs.u0
 have u1:=hs.u1
 have l0:=hs.lo
 refine ⟨hs.len,by omega,hs.nd,λx hx => ?_,λw hw => ?_,b0, ?_,u0, ?_⟩
 ·obtain ⟨k1,k2,_⟩:=hs.top x hx
  show x.natAbs<17592186044416
  omega
 ·obtain ⟨k1,k2⟩:=hs.part w hw
  refine ⟨k1, ?_⟩
  show w.natAbs<17592186044416
  omega
 ·show s.bottom.natAbs<4096
  omega
 ·show s.under.natAbs<4096
  omega
theorem qAb1{b:Int}(b0:0<b){x y:Int}:Za4 x b<=Za4 y b↔x<=y:=by
 constructor
 ·intro h
  refine Int.not_lt.mp λz => ?_
  have:=qPz b0 z
  grind
 ·intro h
  rcases Int.lt_or_eq_of_le h with h | h
  ·exact Rat.le_of_lt (qPz b0 h)
  ·rw [h];exact Rat.le_refl
theorem qDz{xs ws:List Int}{b c:Int}{n k:Nat}(h:k<n):coef (qIf xs ws b c n) k=qEn (qDr xs ws b c) k:=by
 unfold coef qIf
 rw [Zae,List.getElem?_range h]
 rfl
theorem qU1(xs ws:List Int)(b c:Int)(n:Nat):RowOf (qIf xs ws b c n) (qDr xs ws b c):=λk hk=>qDz (by rw [qCd] at hk;exact hk)
theorem qTc(xs ws:List Int)(b c:Int){n m:Nat}(h:m<=n):(qIf xs ws b c n).take m=qIf xs ws b c m:=by
 unfold qIf
 rw [<-List.map_take,List.take_range,Nat.min_eq_left h]
theorem qApj{s:Scene}{m:Nat}(hs:s.Ok m)(hm:m<=8){n:Nat}(n9:n<=9):∃ M,Cd 200 M (qIf s.tops s.parts s.bottom s.under n):=by
 have hv:=hs.lotV hm
 have b0:=hs.b0
 have b1:=hs.b1
 have u0:=hs.u0
 have u1:=hs.u1
 have l0:=hs.lo
 have hb:s.bottom.natAbs<=2 ^ 10:=by show _<=1024;omega
 have M0:0<s.under*s.bottom ^ 8:=Int.mul_pos u0 (Int.pow_pos b0)
 refine ⟨s.under*s.bottom ^ 8,M0, ?_,λk => ?_⟩
 ·rw [Zao,Int.natAbs_pow]
  refine Zaf (Nat.mul_le_mul (show s.under.natAbs<=2 ^ 12 by show _<=4096;omega) (Nat.pow_le_pow_left hb 8)) (by decide)
 ·by_cases hk:k<n
  ·rw [qDz hk,qM8 b0 u0 k hv.l]
   refine ⟨qKb s.tops s.parts k*s.bottom ^ (8 - k), ?_, ?_⟩
   ·have bn:(s.bottom:Rat)≠0:=Zan (Rat.intCast_pos.mpr b0)
    have un:(s.under:Rat)≠0:=Zan (Rat.intCast_pos.mpr u0)
    have pn:(s.bottom:Rat) ^ k≠0:=qUx bn k
    rw [Za7,Za7,Za7,qEi,qEi,qEi]
    have e:(s.bottom:Rat) ^ 8=(s.bottom:Rat) ^ k*(s.bottom:Rat) ^ (8 - k):=by rw [<-qH7,show k+(8 - k)=8 by omega]
    rw [e]
    generalize (s.bottom:Rat) ^ k=x at *
    generalize (s.bottom:Rat) ^ (8 - k)=y
    grind
   ·have z:=qMz (n:=20) (m:=22) (xs:=s.tops) (ws:=s.parts) k (λx hx=>by
     obtain ⟨k1,k2,_⟩:=hs.top x hx
     show x.natAbs<4194304
     omega) (λw hw=>by
     obtain ⟨k1,k2⟩:=hs.part w hw
     show w.natAbs<1048576
     omega)
    rw [Zao,Int.natAbs_pow]
    have lt:=hs.most
    have z8:s.tops.length*2 ^ (20+(22*k+1))<=2 ^ 3*2 ^ (20+(22*k+1)):=Nat.mul_le_mul_right _ (by omega)
    refine Zaf (Nat.mul_le_mul (Zaf z z8) (Nat.pow_le_pow_left hb (8 - k))) ?_
    rw [<-Nat.pow_mul, ←Nat.pow_add, ←Nat.pow_add]
    exact Zaa (by decide) (by omega)
  ·rw [qAk (by rw [qCd];omega)]
   exact Ov.zero
theorem qQ4{n:Nat}{d:Int}{ms:List Rat}(h:Cd n d ms):Cd n d (ms ++ [0]):=h.of_coef λi=>qBs ms i
end MR
namespace MR
open PySem PySem.Spec PyProof.Rows L2
structure LmOk (p b f:List Rat):Prop where
 n8:b.length<=8
 l:p.length=b.length+1
 t:coef p b.length=1
 lf:f.length<=16
 z:∃ e a c D A C,Cd e D p/\Cd a A f/\Cd c C b/\3*(a+16*(e+1))+2*e+2*c+100<=800000
structure RdOk (p b:List Rat) (S U:Int) (sp nm:List Int):Prop where
 s0:0<S
 u0:0<U
 l:sp.length=p.length
 m:nm.length=b.length
 sp:∀ j,j<p.length->((ci sp j:Int):Rat)=coef p j*(S:Rat) ^ (b.length - j)
 sd:∀ D:Int,(∀ j,(((coef p j).den:Nat):Int) ∣ D)->S ∣ D
 ud:∀ D:Int,(∀ j,(((coef b j).den:Nat):Int) ∣ D)->U ∣ D
 nm:∀ k,k<b.length->((ci nm k:Int):Rat)=coef b k*(U:Rat)*(S:Rat) ^ k
 eS:S=qAi9 (p.map ndP)
 eU:U=qAi9 (b.map ndP)
structure GoI (sp nm:List Int) (F:Nat->Int):Prop where
 b:∀ k,k<nm.length->F k=ci nm k
 g:∀ k,F (k+nm.length)=0 - smI nm.length λj=>ci sp j*F (k+j)
end MR
namespace MR
open PySem PySem.Spec PyProof.Rows L2
open Ps
theorem qAd1{p:Nat->Rat}(k:Nat):goS p 0 (coef []) k=0:=by
 cases k with
 | zero=>rfl
 | succ k=>
  show (if 0+1<0 then qYa p 0 (coef []) k (0+1) else -sm 0 λj=>p j*qYa p 0 (coef []) k j)=(0:Rat)
  rw [if_neg (by omega)]
  exact Rat.neg_zero
section
variable {p b:List Rat} {S U:Int} {sp nm:List Int}
theorem RdOk.sum(h:RdOk p b S U sp nm)(l:p.length=b.length+1){G:Nat->Int}{c:Nat}(n0:0<b.length)(hg:∀ j,j<b.length->((G j:Int):Rat)=goS (coef p) b.length (coef b) (c+j)*(U:Rat)*(S:Rat) ^ (c+j)) :
  ((0 - smI b.length (λj=>ci sp j*G j):Int):Rat)=goS (coef p) b.length (coef b) (c+b.length)*(U:Rat)*(S:Rat) ^ (c+b.length):=by
 rw [Rat.intCast_sub,qMc,Rat.intCast_zero]
 have e:sm b.length (λj=>((ci sp j*G j:Int):Rat))=(U:Rat)*(S:Rat) ^ (c+b.length)*sm b.length (λj=>coef p j*goS (coef p) b.length (coef b) (c+j)):=by
  rw [<-qDx]
  refine qAh λj hj => ?_
  rw [Za7,h.sp j (by omega),hg j hj,show c+b.length=(b.length - j)+(c+j) by omega,qH7]
  grind
 rw [e,qP8 n0]
 grind
theorem RdOk.ex(h:RdOk p b S U sp nm)(l:p.length=b.length+1):∀ k,∃ z:Int,(z:Rat)=goS (coef p) b.length (coef b) k*(U:Rat)*(S:Rat) ^ k:=by
 intro k
 induction k using Nat.strongRecOn with
 | _ k ih=>
  by_cases hk:k<b.length
  ·exact ⟨ci nm k,by rw [h.nm k hk,qJ3 hk]⟩
  ·by_cases n0:0<b.length
   ·obtain ⟨c,rfl⟩:∃ c,k=c+b.length:=⟨k - b.length,by omega⟩
    refine ⟨0 - smI b.length (λj=>ci sp j*(if hj:c+j<c+b.length then Classical.choose (ih (c+j) hj) else 0)),h.sum l n0 λj hj => ?_⟩
    rw [dif_pos (show c+j<c+b.length by omega)]
    exact Classical.choose_spec (ih (c+j) (by omega))
   ·have hb:b=[]:=List.length_eq_zero_iff.mp (by omega)
    subst hb
    exact ⟨0,by show ((0:Int):Rat)=goS (coef p) 0 (coef []) k*_*_;rw [qAd1,Za2,Za2];rfl⟩
theorem RdOk.F(h:RdOk p b S U sp nm)(l:p.length=b.length+1):∃ F:Nat->Int,GoI sp nm F/\∀ k,((F k:Int):Rat)=goS (coef p) b.length (coef b) k*(U:Rat)*(S:Rat) ^ k:=by
 have hF:∃ F:Nat->Int,∀ k,((F k:Int):Rat)=goS (coef p) b.length (coef b) k*(U:Rat)*(S:Rat) ^ k:=⟨λk=>Classical.choose (h.ex l k),λk=>Classical.choose_spec (h.ex l k)⟩
 obtain ⟨F,hF⟩:=hF
 refine ⟨F,⟨λk hk => ?_,λk => ?_⟩,hF⟩
 ·rw [h.m] at hk
  refine Rat.intCast_inj.mp ?_
  rw [hF k,h.nm k hk,qJ3 hk]
 ·rw [h.m]
  refine Rat.intCast_inj.mp ?_
  by_cases n0:0<b.length
  ·rw [hF (k+b.length),h.sum l n0 λj hj=>hF (k+j)]
  ·have hb:b=[]:=List.length_eq_zero_iff.mp (by omega)
   subst hb
   rw [hF]
   show goS (coef p) 0 (coef []) (k+0)*_*_=((0 - smI 0 _:Int):Rat)
   rw [qAd1,Za2,Za2]
   rfl
end
end MR
namespace MR
open PySem PySem.Spec PyProof.Rows L2
theorem qAga{x y:Option Rat}{u:List Rat}(hu:u∈qAo x y):Sz 2 (qAm u)/\(qAm u=1\/qAm u = -1):=by
 have h1:Sz 2 (1:Rat):=⟨by decide,by decide⟩
 have h2:Sz 2 (-1:Rat):=⟨by decide,by decide⟩
 cases x with
 | none=>rw [Zai.mp hu];exact ⟨h1, .inl rfl⟩
 | some x=>
  cases y with
  | none=>
   rcases List.mem_cons.mp hu with rfl | h
   ·exact ⟨h1, .inl rfl⟩
   ·rw [Zai.mp h];exact ⟨h1, .inl rfl⟩
  | some y=>
   simp only [qAo,List.mem_cons,List.not_mem_nil,or_false] at hu
   rcases hu with rfl | rfl | rfl | rfl
   ·exact ⟨h1, .inl rfl⟩
   ·exact ⟨h1, .inl rfl⟩
   ·exact ⟨h2, .inr rfl⟩
   ·exact ⟨h2, .inr rfl⟩
theorem qAqu{ms:List Rat}{x y:Option Rat}(h:qAp (goN ms (qAo x y) ms.length 0)=none){u:List Rat}(hu:u∈qAo x y){n:Nat}(hn:u.length - 1+2*n=ms.length):∀ j,j<n->0<hS (shL u (ms ++ [0])) j:=λj hj=>by
 have u0:=qAq u hu
 rw [qGt λi hi=>show coef (shL u (ms ++ [0])) i=coef (shL u ms) i by
  have ll:(ms ++ [(0:Rat)]).length=ms.length+1:=by simp
  rw [qKk (by omega) u0,qKk (by omega) u0,qB6,qB6]
  refine qAh λk hk => ?_
  rw [qAv,qAv,qBs]]
 exact (qAcj h).2 u hu j (by omega)
theorem SmSz.take{K:Nat}{ms:List Rat}{x y:Option Rat}{a c:Nat}(h:SmSz K ms x y a c){k:Nat}(k0:0<k)(hk:k<=ms.length):SmSz K (ms.take k) x y a c:=by
 have l:(ms.take k).length=k:=by rw [Zaj];omega
 have h13:=h.l13
 have hl:=h.st.len
 obtain ⟨M,hM⟩:=h.st.drop0.drop0.cm
 exact ⟨by omega,by omega,h.pl,⟨h.st.k6,by simp at hl ⊢;omega,⟨M,qQ4 (qQ4 (hM.take k))⟩,h.st.cu,h.st.bt⟩,h.sz,h.c4⟩
def alG(ms:List Rat)(x y:Option Rat):Nat->Nat->List (Option Rat × Option Rat)
 | 0,_=>[]
 | r+1,k=>if qK2 (ms.take k) (qAo x y)=true then (qN5 (ms.take k) x y).getD (none,none) :: alG ms x y r (k+1) else []
def allN(ms:List Rat)(x y:Option Rat):List (Option Rat × Option Rat):=(some 0,none) :: alG ms x y (ms.length - 1) 1
def ndO:Option Rat->D
 | none => .non
 | some q=>prT (ndP q)
def ivD(r:Option Rat × Option Rat):D := .tup [ndO r.1,ndO r.2]
def qX0:FSp:=λds P _=>∃ p q n m,ds=[prT p,prT q]/\SzP n p/\SzP m q/\n+m<=900000/\P (.bl (decide (qCs p<qCs q)))
def SzR(n:Nat)(r:Option Rat × Option Rat):Prop:=(∀ v,r.1=some v->Sz n v)/\∀ v,r.2=some v->Sz n v
def qYo:FSp:=λds P _=>∃ r p n m,ds=[ivD r,prT p]/\SzR n r/\SzP m p/\n+m<=900000/\∀ b:Bool,(b=true↔inI r (qCs p))->P (.bl b)
def tt_sc_holds(K:W.Frag)(cs:List Str):TS:=
 (tSeq (tIfS (tAnd (tTest (tOp qAfd (tOp (rIxT K) (tVar 0) (tC (.int 0))) (tC .non))) (tB (tCall (lift K qX0) [] E0 (tCons (tVar 1) (tCons (tOp (rIxT K) (tVar 0) (tC (.int 0))) tNil))))) (tRet (tC (.bl false))) tNext)
 (tRet (tOrV (tOp qApg (tOp (rIxT K) (tVar 0) (tC (.int 1))) (tC .non)) (tNotV (tCall (lift K qX0) [] E0 (tCons (tOp (rIxT K) (tVar 0) (tC (.int 1))) (tCons (tVar 1) tNil)))))))
def f_sc_holds(cs:List Str):FS:=
 (qBf (qGz (fAnd (fB (fOp qAao (fOp qGu (qAd 0) (fC (.int 0))) (fC .non))) (fB (qAs qX0 [] (qAc (qAd 1) (qAc (fOp qGu (qAd 0) (fC (.int 0))) qAl))))) (qEz (fC (.bl false))) qC6)
 (qEz (fOrV (fOp oIsN (fOp qGu (qAd 0) (fC (.int 1))) (fC .non)) (qUr (qAs qX0 [] (qAc (fOp qGu (qAd 0) (fC (.int 1))) (qAc (qAd 1) qAl)))))))
theorem s_sc_holds{K:W.Frag}{cs:List Str}(T:KF K cs)(hRa:("Ratio":Str)∈cs):SS K Ta [] [] [] [] (λ_=>E0) (tt_sc_holds K cs) (f_sc_holds cs):=
 (qAi (ow1:=[]) (qEd (by decide) (qAif (qCl (qAf (λ_=>qAb6) (qAf (λ_=>qDj) (qAa (by decide)) qAg) qT5)) (qL1 (qAr Lift.refl qAn (qAb (qAa (by decide)) (qAb (qAf (λ_=>qDj) (qAa (by decide)) qAg) qAe))))) (qBa (by decide) qSp) (qBd (by decide)))
 (qBa (by decide) (qAih (qAf (λ_=>qAnh) (qAf (λ_=>qDj) (qAa (by decide)) qAg) qT5) (qAfj (qAr Lift.refl qAn (qAb (qAf (λ_=>qDj) (qAa (by decide)) qAg) (qAb (qAa (by decide)) qAe)))))))
theorem p_sc_holds{cs:List Str}(hR:("Ratio":Str)∈cs)(ds:List D)(P:D->Prop)(X:XP)(h:qYo ds P X):f_sc_holds cs (qF9 P X0) (qBb 2 ds):=by
 obtain ⟨⟨a,b⟩,p,n,m,rfl,⟨za,zb⟩,hp,hs,k⟩:=h
 have no:∀ v:Rat,qCs (ndP v)=v:=qAjp
 cases a with
 | none=>
  cases b with
  | none=>
   simp_arith [f_sc_holds,ivD,ndO,ixt0,ixt1,Bool.not_true]
   exact k true ⟨λ_=>⟨λ_ h=>(by cases h),λ_ h=>(by cases h)⟩,λ_=>rfl⟩
  | some b=>
   simp_arith [f_sc_holds,ivD,ndO,ixt0,ixt1,Bool.not_true]
   refine ⟨_,_,n,m,rfl,qSg (zb b rfl),hp,hs, ?_⟩
   refine k _ ?_
   rw [no]
   constructor
   ·intro h
    refine ⟨λ_ h=>(by cases h),λv hv => ?_⟩
    cases hv
    by_cases q:b<qCs p
    ·rw [decide_eq_true q] at h;cases h
    ·grind
   ·intro h
    have:=h.2 b rfl
    rw [decide_eq_false (by grind)];rfl
 | some a=>
  cases b with
  | none=>
   simp_arith [f_sc_holds,ivD,ndO,ixt0,ixt1,Bool.not_true,Bool.not_false]
   refine ⟨_,_,m,n,rfl,hp,qSg (za a rfl),by omega, ?_⟩
   simp_arith [no]
   by_cases q:qCs p<a
   ·rw [if_pos (decide_eq_true q)]
    exact k false ⟨λz=>(by cases z),λz=>by have:=z.1 a rfl;grind⟩
   ·rw [if_neg (λz=>q (of_decide_eq_true z))]
    exact k true ⟨λ_=>⟨λv hv=>(by cases hv;grind),λ_ h=>(by cases h)⟩,λ_=>rfl⟩
  | some b=>
   simp_arith [f_sc_holds,ivD,ndO,ixt0,ixt1,Bool.not_true,Bool.not_false]
   refine ⟨_,_,m,n,rfl,hp,qSg (za a rfl),by omega, ?_⟩
   simp_arith [no]
   by_cases q:qCs p<a
   ·rw [if_pos (decide_eq_true q)]
    exact k false ⟨λz=>(by cases z),λz=>by have:=z.1 a rfl;grind⟩
   ·rw [if_neg (λz=>q (of_decide_eq_true z))]
    refine ⟨_,_,n,m,rfl,qSg (zb b rfl),hp,hs, ?_⟩
    refine k _ ?_
    rw [no]
    constructor
    ·intro h
     refine ⟨λv hv=>(by cases hv;grind),λv hv => ?_⟩
     cases hv
     by_cases q:b<qCs p
     ·rw [decide_eq_true q] at h;cases h
     ·grind
    ·intro h
     have:=h.2 b rfl
     rw [decide_eq_false (by grind)];rfl
theorem len_sc_holds{K:W.Frag}{cs:List Str}(vs:List V)(H:Hp)(Q:VK)(E:XK)(h:(lift K qYo) vs H Q E):vs.length=2:=qA0 (λds P X h=>by unfold qYo at h;first | ((repeat (first | (obtain ⟨rfl,_⟩:=h;exact rfl) | obtain ⟨_,h⟩:=h));done) | (split at h <;> first | rfl | exact h.elim)) h
theorem pp_sc_holds{K:W.Frag}{cs:List Str}(T:KF K cs)(hRa:("Ratio":Str)∈cs)(vs:List V)(H:Hp)(Q:VK)(E:XK)(h:(lift K qYo) vs H Q E):tt_sc_holds K cs { nx:=λ_ H'=>Q .non H',rt:=Q } (start ["_law_ends","_law_number"] vs) H:=
 qD1 rfl (s_sc_holds T hRa) (p_sc_holds hRa) vs H Q E h
end MR
namespace MR
open PySem PySem.Spec PyProof.Rows L2
open Ps
def qJd(u:List Rat)(ps:List (Rat × Rat)):List (Rat × Rat):=ps.filter λp=>decide (ev p.1 (pl u)≠0)
theorem qAa9{u:List Rat}{ps:List (Rat × Rat)}{p:Rat × Rat}:p∈qJd u ps↔p∈ps/\ev p.1 (pl u)≠0:=by
 unfold qJd
 rw [List.mem_filter,decide_eq_true_iff]
theorem qAn5{u:List Rat}{ps:List (Rat × Rat)}(nd:(ps.map Prod.fst).Pairwise (· ≠ ·)):((qJd u ps).map Prod.fst).Pairwise (· ≠ ·):=by
 unfold qJd
 rw [List.pairwise_map] at nd ⊢
 exact nd.filter _
theorem qYx(u:List Rat)(ps:List (Rat × Rat)):(qJd u ps).length<=ps.length:=List.length_filter_le ..
section
variable {ms u:List Rat} {ps:List (Rat × Rat)} {x y:Option Rat}
theorem qAfp(h:RowOf ms ps)(l30:ps.length<=15)(hs:qAp (goN ms (qAo x y) ms.length 0)=none)(hu:u∈qAo x y){j:Nat}(hj:u.length - 1+2*j<ms.length)(j14:j<=14):j<(qJd u ps).length:=by
 have u0:=qAq u hu
 have u3:=qB2 hu
 refine Nat.lt_of_not_le λle => ?_
 have pos:PosF (j+1) (qEn (wtP (pl u) ps)):=qAbs (ms:=shL u ms) (by omega) (λi hi=>h.sh u0 (by omega) (by omega)) λi hi=>by
  rw [qF0] at hs
  have hr:=qJ6 hs
  exact qIz (k:=ms.length) (λu hu=>qAq u hu) hu (λi hi=>hr i (by omega) (by omega)) (by omega)
 have mf:=qGb ((qJd u ps).map Prod.fst)
 have lf:((qJd u ps).map Prod.fst).length=(qJd u ps).length:=Za6 ..
 rw [lf] at mf
 have df:Dg (j+1) (qI8 ((qJd u ps).map Prod.fst)).c:=mf.d.mono (by omega)
 have nz:Nz (qI8 ((qJd u ps).map Prod.fst)):=⟨(qJd u ps).length,by rw [mf.t];decide⟩
 have p:=pos _ df nz
 rw [qS8,qWn] at p
 have z:wsum (λt=>ev t (pl u)*ev t (qI8 ((qJd u ps).map Prod.fst)*qI8 ((qJd u ps).map Prod.fst))) ps=0:=qN0 λq hq=>by
  by_cases e:ev q.1 (pl u)=0
  ·rw [e,Za2]
  ·have:q∈qJd u ps:=qAa9.mpr ⟨hq,e⟩
   have ol:=qYx u ps
   have r:=qNr (xs:=(qJd u ps).map Prod.fst) (x:=q.1) (by rw [lf];omega) (List.mem_map.mpr ⟨q,this,rfl⟩)
   rw [qHh (n:=j+1) (k:=j+1) df df (by omega) (by omega),r,Za2,Za1]
 rw [z] at p
 exact absurd p (by decide)
end
end MR
namespace MR
open PySem PySem.Spec PyProof.Rows L2
def qArk(cs:List Str):FSp:=λds P _=>∃ ps p x y,∃ K a c:Nat,ds=[.lst (qEg ps),prT p,qAib x y]/\ps.length<=12/\(∀ q,q∈ps ++ [p]->q.2≠0)/\Pl16 x y/\StOk K ((ps ++ [p]).map qCs) (qAo x y) a c/\P (.bl (qK2 ((ps ++ [p]).map qCs) (qAo x y)))
structure Ft (ps:List (Int × Int)) (x y:Option Rat) (r:Option Rat × Option Rat):Prop where
 fit:qN5 (ps.map qCs) x y=some r
 xy:∀ a b,x=some a->y=some b->a<b
 l0:0<ps.length
 l7:ps.length<=7
 zr:SzR 3750 r
 st:∀ z,Sz 7600 z->StOk 3 (ps.map qCs ++ [z]) (qAo x y) 200 7900
 pl:Pl16 x y
 hz:∀ p,p∈ps->p.2≠0
 nn:r.1=none->r.2=none
 lh:∀ l h,r.1=some l->r.2=some h->l<=h
theorem Ft.fits{cs:List Str}{ps:List (Int × Int)}{x y:Option Rat}{r:Option Rat × Option Rat}(h:Ft ps x y r){p:Int × Int}(hp:SzP 7550 p){b:Bool}(hb:b=true↔inI r (qCs p)){P:D->Prop}{X:XP}(k:P (.bl b)):qArk cs [.lst (qEg ps),prT p,qAib x y] P X:=by
 have e:(ps ++ [p]).map qCs=ps.map qCs ++ [qCs p]:=by simp
 have l7:=h.l7
 have l0:=h.l0
 have z:Sz 7600 (qCs p):=(qG3 (by have:=hp.pos;omega) hp.a hp.b).mono (by decide)
 refine ⟨ps,p,x,y,3,200,7900,rfl,by omega,λq hq => ?_,h.pl,by rw [e];exact h.st _ z, ?_⟩
 ·rcases List.mem_append.mp hq with hq | hq
  ·exact h.hz q hq
  ·rw [Zai.mp hq];have:=hp.pos;omega
 ·have d:=qWv h.xy (by rw [Za6];exact l0) (by rw [Za6];omega) h.fit (qCs p)
  rw [e]
  have:qK2 (ps.map qCs ++ [qCs p]) (qAo x y)=b:=by rw [Bool.eq_iff_iff,d,hb]
  rw [this]
  exact k
end MR
namespace MR
open PySem PySem.Spec PyProof.Rows L2
open Ps
section
variable {ms u:List Rat} {x y:Option Rat}
theorem stp0(ms u:List Rat)(k:Nat)(h:k+1=u.length):qHf ms u k=(k,u,[1],coef (shL u ms) 0):=by
 unfold qHf
 rw [show qG5 u k=0 by unfold qG5;omega]
 rfl
theorem rnd0(ms:List Rat)(x y:Option Rat):qDm ms (qAo x y) 0=[(0,[1],[1],coef ms 0)]:=by
 have e:=stp0 ms [1] 0 rfl
 rw [qGm] at e
 have o1:OnN [1] 0:=⟨by decide,by decide⟩
 have n2:∀ c d:Rat,¬ OnN [c,d] 0:=λc d h=>by have:=h.1;simp at this
 have n3:∀ c d f:Rat,¬ OnN [c,d,f] 0:=λc d f h=>by have:=h.1;simp at this
 cases x with
 | none=>rw [qAo,qDm,if_pos o1,e];rfl
 | some a=>
  cases y with
  | none=>rw [qAo,qDm,if_pos o1,e,qDm,if_neg (n2 _ _)];rfl
  | some b=>rw [qAo,qDm,if_pos o1,e,qDm,if_neg (n2 _ _),qDm,if_neg (n2 _ _),qDm,if_neg (n3 _ _ _)];rfl
theorem qXn(u:List Rat)(i:Nat):coef (qBc u [1]) i=coef u i:=by
 have:pl (qBc u [1])=pl u:=by rw [qUa,qFy];grind
 exact congrArg (λf:Ps=>f.c i) this
theorem bd0{s:Step}(h:StopAt ms x y s u 0):qAt s=u.map (· / qAm u):=by
 obtain ⟨l,c,_⟩:=qCo h
 refine qC9 (by rw [l,Za6];rfl) λi => ?_
 rw [c,show (chN (shL u ms) 0).1.1=[1] from rfl,qXn]
 unfold coef
 rw [Zae]
 cases u[i]? with
 | none=>show (0:Rat) / _=0;rw [Rat.div_def,Za2]
 | some v=>rfl
theorem un0{s:Step}(h:StopAt ms x y s u 0):(unN ms (qAt s)).isNone=true↔∀ j,j+u.length<=ms.length->qIp u (ms.drop j) u.length=0:=by
 have u0:=qAq u h.hu
 rw [qKf h,show (chN (shL u ms) 0).1.1=[1] from rfl]
 have e:∀ j,qIp (qBc u [1]) (ms.drop j) (u.length+0)=qIp u (ms.drop j) u.length:=λj=>by
  rw [qB6,qB6]
  exact qAh λi hi=>by rw [qXn]
 exact ⟨λz j hj=>by rw [<-e];exact z j (by omega),λz j hj=>by rw [e];exact z j (by omega)⟩
theorem qAqs(m:Rat)(x y:Option Rat):qAp (goN [m] (qAo x y) 1 0)=if 0<m then none else some (0,[1],[1],m):=by
 rw [qF0,stG,rnd0]
 unfold qAp
 rw [List.find?_cons]
 show (match (match !qXi (0,[1],[1],m) with | true=>some _ | false=>_) with | some s=>some s | none=>stG _ _ 0 _)=_
 unfold qXi
 by_cases h:0<m
 ·rw [if_pos h];simp [h];rfl
 ·rw [if_neg h];simp [h];rfl
theorem qAg1(a:Rat):a / 1=a:=by grind
theorem qAf1:([1]:List Rat).map (· / qAm [1])=[1]:=by
 show [(1:Rat) / 1]=[1]
 rw [qAg1]
theorem qAn3(ms:List Rat)(h:0<ms.length):nxN ms [1]=0:=by
 unfold nxN
 show goS (coef [1]) 0 (coef (ms.take 0)) ms.length=0
 obtain ⟨k,hk⟩:∃ k,ms.length=k+1:=⟨ms.length - 1,by omega⟩
 rw [hk]
 show (if 0+1<0 then qYa (coef [1]) 0 (coef (ms.take 0)) k (0+1) else -sm 0 λj=>coef [1] j*qYa (coef [1]) 0 (coef (ms.take 0)) k j)=(0:Rat)
 rw [if_neg (by omega)]
 exact Rat.neg_zero
theorem qRn{ms:List Rat}{x y:Option Rat}(h:qAp (goN ms (qAo x y) ms.length 0)=some (0,[1],[1],0))(l0:0<ms.length):qN5 ms x y=if (∀ j,j<ms.length->coef ms j=0) then some (some 0,some 0) else none:=by
 obtain ⟨u,c,ha⟩:=qDu h
 have e:=ha.e
 have u0:=qAq u ha.hu
 have ek:0=u.length - 1+2*c:=congrArg (λs:Step=>s.1) e
 have eu:[1]=u:=congrArg (λs:Step=>s.2.1) e
 subst eu
 obtain rfl:c=0:=by simp at ek;omega
 have bd:=bd0 ha
 rw [qAf1] at bd
 have hu:=un0 ha
 unfold qN5 smN
 rw [h]
 dsimp only
 rw [if_neg (by decide),bd] at *
 have hh:(unN ms [1]).isNone=true↔∀ j,j<ms.length->coef ms j=0:=by
  rw [hu]
  constructor
  ·intro z j hj
   have:=z j (by simp;omega)
   rw [qB6] at this
   have e2:sm 1 (λi=>coef [1] i*coef (ms.drop j) i)=0:=this
   have e3:(0:Rat)+1*coef (ms.drop j) 0=0:=e2
   rw [qAv] at e3
   rw [Zah,Rat.one_mul] at e3
   exact e3
  ·intro z j hj
   rw [qB6]
   show (0:Rat)+1*coef (ms.drop j) 0=0
   rw [qAv,z (j+0) (by simp at hj;omega),Za1,Zah]
 by_cases q:∀ j,j<ms.length->coef ms j=0
 ·rw [if_pos (hh.mpr q),if_pos q]
  show some (some (nxN ms [1]),some (nxN ms [1]))=_
  rw [qAn3 ms l0]
 ·rw [if_neg (λz=>q (hh.mp z)),if_neg q]
  rfl
theorem qAg6{ms:List Rat}{x y:Option Rat}{s:Step}(h:qAp (goN ms (qAo x y) ms.length 0)=some s)(hs:s.2.2.2<0):qN5 ms x y=none:=by
 unfold qN5 smN
 rw [h]
 dsimp only
 rw [if_pos hs]
 rfl
theorem fit1{m:Rat}{x y:Option Rat}(hx:x=none->y=none):qN5 [m] x y=if m<0 then none else if m=0 then some (some 0,some 0) else some (x.map (· * m),y.map (· * m)):=by
 have hs:=qAqs m x y
 by_cases h0:0<m
 ·rw [if_pos h0] at hs
  rw [if_neg (by grind),if_neg (by grind)]
  unfold qN5
  rw [show qAp (goN [m] (qAo x y) [m].length 0)=none from hs]
  dsimp only
  unfold finN
  rw [if_neg (by simp)]
  cases x with
  | none=>rw [hx rfl];rfl
  | some a=>
   have e1 : -(wtE [m] [-a,1])=a*m:=by
    unfold wtE
    rw [show ([m].length+1 - [-a,1].length) / 2=0 by simp]
    show -(coef (shL [-a,1] ([m] ++ [0])) 0)=_
    rw [qOw (by simp)]
    show -((-a)*m+1*0)=_
    grind
   cases y with
   | none=>
    dsimp only
    rw [e1];rfl
   | some b=>
    have e2:wtE [m] [b, -1]=b*m:=by
     unfold wtE
     rw [show ([m].length+1 - [b, -1].length) / 2=0 by simp]
     show coef (shL [b, -1] ([m] ++ [0])) 0=_
     rw [qAl0 (by simp)]
     show b*m+(-1)*0=_
     grind
    dsimp only
    rw [e1,e2];rfl
 ·rw [if_neg h0] at hs
  by_cases hn:m<0
  ·rw [if_pos hn]
   exact qAg6 (ms:=[m]) hs hn
  ·obtain rfl:m=0:=by grind
   rw [if_neg hn,if_pos rfl,qRn (ms:=[0]) hs (by simp),if_pos]
   intro j hj
   obtain rfl:j=0:=by simp at hj;omega
   rfl
end
end MR
namespace MR
open PySem PySem.Spec PyProof.Rows L2
section
variable {ms:List Rat} {x y:Option Rat}
theorem qAnv{k:Nat}(h1:1<=k)(hk:k<=ms.length):qK2 (ms.take k) (qAo x y)=true↔k<=lgN (dK ms (qAo x y)) ms.length:=by
 rw [qAhx qAq hk]
 exact qAeu (λa b h e=>qArb h e) ms.length k h1 hk
theorem qAim:∀ r k i,1<=k->k+r=ms.length->∀ rr,(alG ms x y r k)[i]?=some rr->k+i<=lgN (dK ms (qAo x y)) ms.length/\i<r/\qN5 (ms.take (k+i)) x y=some rr
 | 0,k,i,_,_,rr,h=>by rw [alG] at h;cases h
 | r+1,k,i,h1,hk,rr,h=>by
  have d:=qAnv (x:=x) (y:=y) h1 (show k<=ms.length by omega)
  rw [alG] at h
  split at h
  ·rename_i hd
   cases i with
   | zero=>
    cases h
    obtain ⟨q,hq⟩:=qXv hd
    exact ⟨d.mp hd,by omega,by rw [Nat.add_zero,hq];rfl⟩
   | succ i=>
    obtain ⟨a1,a2,a3⟩:=qAim r (k+1) i (by omega) (by omega) rr h
    exact ⟨by omega,by omega,by rw [show k+(i+1)=k+1+i by omega];exact a3⟩
  ·cases h
theorem qAg5(l0:0<ms.length):ms.take 1=[coef ms 0]:=by
 cases ms with
 | nil=>simp at l0
 | cons a r=>rfl
theorem qY5{j:Nat}(hj:j<ms.length):ms.take (j+1)=ms.take j ++ [coef ms j]:=by
 rw [List.take_succ,Za3 hj,qCt (Za3 hj)]
 rfl
theorem all_holds(hx:x=none->y=none)(hxy:∀ a b,x=some a->y=some b->a<b)(l0:0<ms.length)(l13:ms.length<=13){j:Nat}{rr:Option Rat × Option Rat}(h:(allN ms x y)[j]?=some rr)(hj:j<ms.length):inI rr (coef ms j)↔j<lgN (dK ms (qAo x y)) ms.length:=by
 have d:=qAnv (x:=x) (y:=y) (show 1<=j+1 by omega) (show j+1<=ms.length by omega)
 rw [show (j<lgN (dK ms (qAo x y)) ms.length)↔(j+1<=lgN (dK ms (qAo x y)) ms.length) from Iff.rfl, ←d]
 cases j with
 | zero=>
  cases h
  rw [Nat.zero_add,qAg5 l0]
  generalize coef ms 0=m
  have f1:=fit1 (m:=m) hx
  constructor
  ·intro q
   have:=q.1 0 rfl
   cases e:qK2 [m] (qAo x y) with
   | true=>rfl
   | false=>
    rw [qRf.mpr e,if_neg (by grind)] at f1
    split at f1 <;> cases f1
  ·intro q
   refine ⟨λl hl => ?_,λh hh=>(by cases hh)⟩
   cases hl
   refine Za5 λz => ?_
   rw [if_pos (by grind)] at f1
   rw [qRf.mp f1] at q
   cases q
 | succ j=>
  have h2:(alG ms x y (ms.length - 1) 1)[j]?=some rr:=h
  obtain ⟨a1,a2,a3⟩:=qAim (ms.length - 1) 1 j (by omega) (by omega) rr h2
  rw [Nat.add_comm 1 j] at a3
  rw [qY5 hj]
  exact (qWv hxy (by rw [Zaj];omega) (by rw [Zaj];omega) a3 _).symm
end
section
variable {s:Scene} {m n:Nat}
theorem qAev(s:Scene)(n:Nat):qIf s.tops s.parts s.bottom s.under (n+1)=qIf s.tops s.parts s.bottom s.under n ++ [coef (qIf s.tops s.parts s.bottom s.under (n+1)) n]:=by
 have l:=qCd s.tops s.parts s.bottom s.under (n+1)
 have:=qY5 (ms:=qIf s.tops s.parts s.bottom s.under (n+1)) (j:=n) (by omega)
 rw [qTc _ _ _ _ (Nat.le_succ n)] at this
 rw [<-this,List.take_of_length_le (by omega)]
end
end MR
namespace MR
open PySem PySem.Spec PyProof.Rows L2
open Ps
section
variable {ms:List Rat} {x y:Option Rat} {u:List Rat} {n:Nat}
theorem qAos(u0:0<u.length)(u3:u.length<=3){i:Nat}(h:i+u.length<=ms.length+1):coef (shL u (ms ++ [0])) i=Mu ms u i:=by
 rw [qKk (by simp;omega) u0,qB6]
 unfold Mu
 rw [qCk (qEp u) (by omega)]
 exact qAh λj hj=>by rw [qAv]
theorem qRa(h:qAp (goN ms (qAo x y) ms.length 0)=none)(hu:u∈qAo x y)(hn:u.length - 1+2*n=ms.length)(n13:n<=13){Q:Ps}(dq:Dg (n+1) Q.c)(tq:Q.c n=1):wtE ms u<=La (coef (ms ++ [0])) (pl u*(Q*Q)):=by
 have u0:=qAq u hu
 have u3:u.length<=3:=by have:=qB2 hu;omega
 have wE:wtE ms u=hS (shL u (ms ++ [0])) n:=by unfold wtE;rw [show (ms.length+1 - u.length) / 2=n by omega]
 have wp:=qAqu h hu hn
 have dP:=qAy (shL u (ms ++ [0])) n
 have tP:=qB9 (shL u (ms ++ [0])) n
 rw [wE,qQr u0 u3 (by simp;omega) (by omega)]
 have cross:∀ R:Ps,Dg n R.c->La (coef (ms ++ [0])) (pl u*((⟨pS (shL u (ms ++ [0])) n⟩:Ps)*R))=0:=λR dR=>by
  have o:=qFp (ms:=shL u (ms ++ [0])) (n:=n) (N:=n+1) (Za9 _) (λk hk=>Zan (wp k hk)) dR
  have dR2:Dg (n+1) R.c:=dR.mono (by omega)
  rw [qDg (n:=n+1) (m':=Mu ms u) dP dR2 (λi hi=>qAos u0 u3 (by omega)),qTs dP dR2 (by omega) (by omega) (by omega) (by omega)] at o
  have dPR:Dg 40 ((⟨pS (shL u (ms ++ [0])) n⟩:Ps)*(⟨R.c⟩:Ps)).c:=qA3 dP dR2 (by omega)
  rw [qLs dPR u3] at o
  exact o
 have dP2:Dg (n+1) (⟨pS (shL u (ms ++ [0])) n⟩:Ps).c:=dP
 have tP2:(⟨pS (shL u (ms ++ [0])) n⟩:Ps).c n=1:=tP
 generalize (⟨pS (shL u (ms ++ [0])) n⟩:Ps)=P at cross dP2 tP2 ⊢
 have dR:Dg n (Q - P).c:=λi hi=>by
  rw [qGp]
  by_cases e:i=n
  ·rw [e,tq,tP2];grind
  ·rw [dq i (by omega),dP2 i (by omega)];grind
 have c0:=cross _ dR
 have pf:=qMq (n:=n) h hu (by omega) (by omega) (λ_=>by omega)
 have nn:=pf.nn dR
 rw [qLs (qA3 dR dR (by omega)) u3] at nn
 generalize hR:Q - P=R at *
 have e:pl u*(Q*Q)=pl u*(P*P)+(pl u*(P*R)+pl u*(P*R))+pl u*(R*R):=by rw [<-hR];grind
 rw [e,qCm,qCm,qCm,c0]
 grind
end
theorem qSw{ms:List Rat}{x y:Option Rat}(h:qAp (goN ms (qAo x y) ms.length 0)=none){v:List Rat}(hv:v∈qAo x y){n:Nat}(hn:v.length+2*n<=ms.length)(n13:n<=13){Q:Ps}(dq:Dg (n+1) Q.c):0<=La (coef (ms ++ [0])) (pl v*(Q*Q)):=by
 have v3:v.length<=3:=by have:=qB2 hv;omega
 have v0:=qAq v hv
 have pf:=qMq (n:=n+1) h hv (by omega) (by omega) (λ_=>by omega)
 have nn:=pf.nn dq
 rw [qLs (qA3 dq dq (by omega)) v3] at nn
 exact nn
theorem qWo{ms:List Rat}{x y:Option Rat}{u:List Rat}{n:Nat}(hu:u∈qAo x y)(hn:u.length - 1+2*n=ms.length)(n13:n<=13):∃ P:Ps,Dg (n+1) P.c/\P.c n=1/\wtE ms u=La (coef (ms ++ [0])) (pl u*(P*P)):=by
 have u0:=qAq u hu
 have u3:u.length<=3:=by have:=qB2 hu;omega
 have wE:wtE ms u=hS (shL u (ms ++ [0])) n:=by unfold wtE;rw [show (ms.length+1 - u.length) / 2=n by omega]
 refine ⟨⟨pS (shL u (ms ++ [0])) n⟩,qAy _ n,qB9 _ n, ?_⟩
 rw [wE,qQr u0 u3 (by simp;omega) (by omega)]
section
variable {ms:List Rat} {a a' b b':Rat} {n:Nat}
theorem qAl6{y y':Option Rat}(h:qAp (goN ms (qAo (some a) y) ms.length 0)=none)(ha:a'<=a)(hn:1+2*n=ms.length)(n13:n<=13):wtE ms [-a,1]<=wtE ms [-a',1]:=by
 have m1:∀ (q:Rat) (z:Option Rat),[-q,1]∈qAo (some q) z:=λq z=>by cases z <;> simp [qAo]
 have m0:[1]∈qAo (some a) y:=by cases y <;> simp [qAo]
 obtain ⟨P,dP,tP,e⟩:=qWo (ms:=ms) (m1 a' y') (n:=n) (by simp;omega) n13
 have l:=qRa h (m1 a y) (n:=n) (by simp;omega) n13 dP tP
 have nn:=qSw h m0 (n:=n) (by simp;omega) n13 dP
 have k:pl [-a',1]*(P*P)=pl [-a,1]*(P*P)+cst (a - a')*(pl [1]*(P*P)):=by
  rw [show pl [-a',1]=X - cst a' from qI9 a',show pl [-a,1]=X - cst a from qI9 a,qFy,qEy]
  grind
 rw [e,k,qCm,qDi]
 have:0<=(a - a')*La (coef (ms ++ [0])) (pl [1]*(P*P)):=Zal (by grind) nn
 grind
theorem qAkp(h:qAp (goN ms (qAo (some a) (some b)) ms.length 0)=none)(hb:b<=b')(hn:1+2*n=ms.length)(n13:n<=13):wtE ms [b, -1]<=wtE ms [b', -1]:=by
 have m1:∀ (q:Rat),[q, -1]∈qAo (some a) (some q):=λq=>by simp [qAo]
 have m0:[1]∈qAo (some a) (some b):=by simp [qAo]
 obtain ⟨P,dP,tP,e⟩:=qWo (ms:=ms) (m1 b') (n:=n) (by simp;omega) n13
 have l:=qRa h (m1 b) (n:=n) (by simp;omega) n13 dP tP
 have nn:=qSw h m0 (n:=n) (by simp;omega) n13 dP
 have l3:∀ q:Rat,pl [q, -1]=cst q - X:=λq=>by rw [qMu];unfold qLr;grind
 have k:pl [b', -1]*(P*P)=pl [b, -1]*(P*P)+cst (b' - b)*(pl [1]*(P*P)):=by
  rw [l3,l3,qFy,qEy]
  grind
 rw [e,k,qCm,qDi]
 have:0<=(b' - b)*La (coef (ms ++ [0])) (pl [1]*(P*P)):=Zal (by grind) nn
 grind
theorem qAde(h:qAp (goN ms (qAo (some a) (some b)) ms.length 0)=none)(ha:a'<=a)(hb:b<=b')(hn:2+2*n=ms.length)(n13:n<=13):wtE ms [-(a*b),a+b, -1]<=wtE ms [-(a'*b'),a'+b', -1]:=by
 have m3:∀ (p q:Rat),[-(p*q),p+q, -1]∈qAo (some p) (some q):=λp q=>by simp [qAo]
 have m0:[1]∈qAo (some a) (some b):=by simp [qAo]
 have m1:[-a,1]∈qAo (some a) (some b):=by simp [qAo]
 have m2:[b, -1]∈qAo (some a) (some b):=by simp [qAo]
 obtain ⟨P,dP,tP,e⟩:=qWo (ms:=ms) (m3 a' b') (n:=n) (by simp;omega) n13
 have l:=qRa h (m3 a b) (n:=n) (by simp;omega) n13 dP tP
 have n0:=qSw h m0 (n:=n) (by simp;omega) n13 dP
 have n1:=qSw h m1 (n:=n) (by simp;omega) n13 dP
 have n2:=qSw h m2 (n:=n) (by simp;omega) n13 dP
 have l2:∀ q:Rat,pl [-q,1]=X - cst q:=λq=>qI9 q
 have l3:∀ q:Rat,pl [q, -1]=cst q - X:=λq=>by rw [qMu];unfold qLr;grind
 have k:pl [-(a'*b'),a'+b', -1]*(P*P)=pl [-(a*b),a+b, -1]*(P*P)+(cst (b' - b)*(pl [-a,1]*(P*P))+(cst (a - a')*(pl [b, -1]*(P*P))+cst (a - a')*(cst (b' - b)*(pl [1]*(P*P))))):=by
  rw [qO6,qO6,l2,l3,qFy,qEy,qEy]
  grind
 rw [e,k,qCm,qCm,qCm,qDi,qDi,qDi,qDi]
 have q1:0<=b' - b:=by grind
 have q2:0<=a - a':=by grind
 have r1:=Zal q1 n1
 have r2:=Zal q2 n2
 have r3:=Zal q2 (Zal q1 n0)
 grind
end
structure Wide (x y x' y':Option Rat):Prop where
 lo:∀ a',x'=some a'->∃ a,x=some a/\a'<=a
 hi:∀ b',y'=some b'->∃ b,y=some b/\b<=b'
 no:x'=none->y'=none
def qWs(r r':Option Rat × Option Rat):Prop:=(∀ l',r'.1=some l'->∃ l,r.1=some l/\l'<=l)/\(∀ h',r'.2=some h'->∃ h,r.2=some h/\h<=h')
theorem qAb7{z:Rat}{r:Option Rat × Option Rat}(h:inI r z):qWs (some z,some z) r:=⟨λl hl=>⟨z,rfl,h.1 l hl⟩,λl hl=>⟨z,rfl,h.2 l hl⟩⟩
theorem qAf6{ms:List Rat}{x y x' y':Option Rat}(W:Wide x y x' y')(h:qAp (goN ms (qAo x y) ms.length 0)=none)(l25:ms.length<=25):qWs (finN ms x y) (finN ms x' y'):=by
 unfold finN
 by_cases he:ms.length % 2=0
 ·rw [if_pos he,if_pos he]
  refine ⟨λl hl => ?_,λh' hh => ?_⟩
  ·cases hl
   exact ⟨_,rfl,Rat.le_refl⟩
  ·cases x' with
   | none=>cases hh
   | some a'=>
    cases y' with
    | none=>cases hh
    | some b'=>
     obtain ⟨a,rfl,ha⟩:=W.lo a' rfl
     obtain ⟨b,rfl,hb⟩:=W.hi b' rfl
     cases hh
     by_cases l0:ms.length=0
     ·have:ms=[]:=List.length_eq_zero_iff.mp l0
      subst this
      refine ⟨_,rfl, ?_⟩
      have z:∀ u:List Rat,u.length=3->wtE [] u=0:=λu hu=>by
       unfold wtE
       rw [show ([]:List Rat).length+1 - u.length=0 by rw [hu];rfl]
       show (chN (shL u ([] ++ [0])) 0).1.2=0
       show coef (shL u ([] ++ [0])) 0=0
       rw [qAk]
       rw [qW1,hu]
       simp
      rw [z _ rfl,z _ rfl]
      exact Rat.le_refl
     ·exact ⟨_,rfl,qAde (n:=(ms.length - 2) / 2) h ha hb (by omega) (by omega)⟩
 ·rw [if_neg he,if_neg he]
  cases x' with
  | none=>
   exact ⟨λl hl=>(nomatch hl),λl hl=>(nomatch hl)⟩
  | some a'=>
   obtain ⟨a,rfl,ha⟩:=W.lo a' rfl
   refine ⟨λl hl => ?_,λh' hh => ?_⟩
   ·cases hl
    refine ⟨_,rfl, ?_⟩
    have:=qAl6 (y':=y') (n:=(ms.length - 1) / 2) h ha (by omega) (by omega)
    grind
   ·cases y' with
    | none=>cases hh
    | some b'=>
     obtain ⟨b,rfl,hb⟩:=W.hi b' rfl
     cases hh
     exact ⟨_,rfl,qAkp (n:=(ms.length - 1) / 2) h hb (by omega) (by omega)⟩
theorem qAmh{ms:List Rat}{x y:Option Rat}(h:qAp (goN ms (qAo x y) ms.length 0)=none){v:List Rat}(hv:v∈qAo x y){n:Nat}(hn:v.length+2*n<=ms.length)(n13:n<=13){Q:Ps}(dq:Dg (n+1) Q.c)(tq:Q.c n=1):0<La (coef ms) (pl v*(Q*Q)):=by
 have v3:v.length<=3:=by have:=qB2 hv;omega
 have v0:=qAq v hv
 have pf:=qMq (n:=n+1) h hv (by omega) (by omega) (λ_=>by omega)
 have p:=pf Q dq ⟨n,by rw [tq];decide⟩
 rw [qLs (qA3 dq dq (by omega)) v3,show coef (ms ++ [0])=coef ms from funext (qBs ms)] at p
 exact p
theorem qAgg{ms:List Rat}{x y x' y':Option Rat}(W:Wide x y x' y')(h:qAp (goN ms (qAo x y) ms.length 0)=none)(l25:ms.length<=25):qAp (goN ms (qAo x' y') ms.length 0)=none:=by
 cases hs:qAp (goN ms (qAo x' y') ms.length 0) with
 | none=>rfl
 | some s=>
  exfalso
  obtain ⟨u,c,A⟩:=qDu hs
  have u0:=qAq u A.hu
  have u3:u.length<=3:=by have:=qB2 A.hu;omega
  have lt:=A.lt
  have np:=A.np
  rw [qQr u0 u3 (by omega) (by omega)] at np
  have dP:=qAy (shL u ms) c
  have tP:=qB9 (shL u ms) c
  have dP2:Dg (c+1) (⟨pS (shL u ms) c⟩:Ps).c:=dP
  have tP2:(⟨pS (shL u ms) c⟩:Ps).c c=1:=tP
  generalize (⟨pS (shL u ms) c⟩:Ps)=P at np dP2 tP2
  have low:∀ v,v∈qAo x y->v.length<=u.length->0<La (coef ms) (pl v*(P*P)):=λv hv hl=>qAmh h hv (by omega) (by omega) dP2 tP2
  have l2:∀ q:Rat,pl [-q,1]=X - cst q:=λq=>qI9 q
  have l3:∀ q:Rat,pl [q, -1]=cst q - X:=λq=>by rw [qMu];unfold qLr;grind
  have hu:=A.hu
  cases x' with
  | none=>
   obtain rfl:u=[1]:=by simpa [qAo] using hu
   exact np (low [1] (qHa x y) (by simp))
  | some a'=>
   obtain ⟨a,rfl,ha⟩:=W.lo a' rfl
   have p0:=low [1] (qHa (some a) y) (by simp;omega)
   have q2:0<=a - a':=by grind
   have r0:=Zal q2 (Rat.le_of_lt p0)
   have m1:[-a,1]∈qAo (some a) y:=by cases y <;> simp [qAo]
   have klo:pl [-a',1]*(P*P)=pl [-a,1]*(P*P)+cst (a - a')*(pl [1]*(P*P)):=by
    rw [l2,l2,qFy,qEy]
    grind
   have lo1:u=[-a',1]->False:=λe=>by
    subst e
    have p1:=low [-a,1] m1 (by simp)
    rw [klo,qCm,qDi] at np
    grind
   cases y' with
   | none=>
    have:u=[1]\/u=[-a',1]:=by simpa [qAo] using hu
    rcases this with rfl | e
    ·exact np p0
    ·exact lo1 e
   | some b'=>
    obtain ⟨b,rfl,hb⟩:=W.hi b' rfl
    have q1:0<=b' - b:=by grind
    have:u=[1]\/u=[-a',1]\/u=[b', -1]\/u=[-(a'*b'),a'+b', -1]:=by simpa [qAo] using hu
    rcases this with rfl | e | rfl | rfl
    ·exact np p0
    ·exact lo1 e
    ·have p1:=low [b, -1] (by simp [qAo]) (by simp)
     have k:pl [b', -1]*(P*P)=pl [b, -1]*(P*P)+cst (b' - b)*(pl [1]*(P*P)):=by
      rw [l3,l3,qFy,qEy]
      grind
     rw [k,qCm,qDi] at np
     have:=Zal q1 (Rat.le_of_lt p0)
     grind
    ·have p3:=low [-(a*b),a+b, -1] (by simp [qAo]) (by simp)
     have n1:=low [-a,1] (by simp [qAo]) (by simp)
     have n2:=low [b, -1] (by simp [qAo]) (by simp)
     have k:pl [-(a'*b'),a'+b', -1]*(P*P)=pl [-(a*b),a+b, -1]*(P*P)+(cst (b' - b)*(pl [-a,1]*(P*P))+(cst (a - a')*(pl [b, -1]*(P*P))+cst (a - a')*(cst (b' - b)*(pl [1]*(P*P))))):=by
      rw [qO6,qO6,l2,l3,qFy,qEy,qEy]
      grind
     rw [k,qCm,qCm,qCm,qDi,qDi,qDi,qDi] at np
     have r1:=Zal q1 (Rat.le_of_lt n1)
     have r2:=Zal q2 (Rat.le_of_lt n2)
     have r3:=Zal q2 (Zal q1 (Rat.le_of_lt p0))
     grind
theorem qVd{n:Nat}{q:Rat}(h:Sz n q):Sz n (-q):=⟨by rw [Rat.neg_num,Int.natAbs_neg];exact h.num,by rw [Rat.neg_den];exact h.den⟩
theorem qAj5{m:Nat}{x y:Option Rat}(zx:SzO m x)(zy:SzO m y)(m1:1<=m){u:List Rat}(hu:u∈qAo x y):0<u.length/\u.length<=3/\∃ d,Cd ((2*m+1)*4) d u:=by
 have one:Sz (2*m+1) 1:=Sz.mono (n:=2) ⟨by decide,by decide⟩ (by omega)
 have one1:SzL (2*m+1) [1]:=λc hc=>by
  obtain rfl:c=1:=by simpa using hc
  exact one
 have key:u.length<=3->0<u.length->SzL (2*m+1) u->0<u.length/\u.length<=3/\∃ d,Cd ((2*m+1)*4) d u:=λh3 h0 hz=>by
  refine ⟨h0,h3, ?_⟩
  have:=qAgz (L:=3) (qApq hz) (by rw [Za6];exact h3)
  rw [qAkf] at this
  exact ⟨_,this⟩
 cases x with
 | none=>
  obtain rfl:u=[1]:=by simpa [qAo] using hu
  exact key (by simp) (by simp) λc hc=>one1 c hc
 | some a=>
  have za:Sz (2*m+1) (-a):=(qVd zx).mono (by omega)
  cases y with
  | none=>
   have:u=[1]\/u=[-a,1]:=by simpa [qAo] using hu
   rcases this with rfl | rfl
   ·exact key (by simp) (by simp) λc hc=>one1 c hc
   ·exact key (by simp) (by simp) λc hc=>by
     have:c = -a\/c=1:=by simpa using hc
     rcases this with rfl | rfl
     ·exact za
     ·exact one
  | some b=>
   have zb:Sz (2*m+1) b:=Sz.mono zy (by omega)
   have zab:Sz (2*m+1) (-(a*b)):=qVd ((Sz.mul zx zy).mono (by omega))
   have zs:Sz (2*m+1) (a+b):=(Sz.add zx zy).mono (by omega)
   have zn:Sz (2*m+1) (-1):=qVd one
   have:u=[1]\/u=[-a,1]\/u=[b, -1]\/u=[-(a*b),a+b, -1]:=by simpa [qAo] using hu
   rcases this with rfl | rfl | rfl | rfl
   ·exact key (by simp) (by simp) λc hc=>one1 c hc
   ·exact key (by simp) (by simp) λc hc=>by
     have:c = -a\/c=1:=by simpa using hc
     rcases this with rfl | rfl
     ·exact za
     ·exact one
   ·exact key (by simp) (by simp) λc hc=>by
     have:c=b\/c = -1:=by simpa using hc
     rcases this with rfl | rfl
     ·exact zb
     ·exact zn
   ·exact key (by simp) (by simp) λc hc=>by
     have:c = -(a*b)\/c=a+b\/c = -1:=by simpa using hc
     rcases this with rfl | rfl | rfl
     ·exact zab
     ·exact zs
     ·exact zn
section
variable {ms:List Rat} {ps:List (Rat × Rat)} {x y:Option Rat}
theorem qAdw(h:RowOf ms ps)(hp:PtsIn x y ps)(nd:(ps.map Prod.fst).Pairwise (· ≠ ·))(l15:ms.length<=15)(l30:ps.length<=15){u:List Rat}(hu:u∈qAo x y){c:Nat}(lt:u.length - 1+2*c<ms.length) :
  0<=hS (shL u ms) c/\(hS (shL u ms) c=0->(qJd u ps).length<=c/\∀ q,q∈ps->ev q.1 (pl u)=0\/ev q.1 ⟨pS (shL u ms) c⟩=0):=by
 have u0:=qAq u hu
 have u3:=qB2 hu
 have e:=qTb h u0 (by omega) lt (by omega)
 have nn:∀ p,p∈ps->0<p.2/\0<=ev p.1 (pl u)*(ev p.1 ⟨pS (shL u ms) c⟩*ev p.1 ⟨pS (shL u ms) c⟩):=λp hpp=>⟨hp.w p hpp,Zal (qAh9 hu (hp.i p hpp)) (qAcw _)⟩
 have w0:=(qHu (g:=λx=>ev x (pl u)*(ev x ⟨pS (shL u ms) c⟩*ev x ⟨pS (shL u ms) c⟩)) nn).1
 refine ⟨by rw [e];exact w0,λz => ?_⟩
 rw [e] at z
 have zz:=qAdc (g:=λx=>ev x (pl u)*(ev x ⟨pS (shL u ms) c⟩*ev x ⟨pS (shL u ms) c⟩)) nn z
 have z2:∀ q,q∈ps->ev q.1 (pl u)=0\/ev q.1 ⟨pS (shL u ms) c⟩=0:=λq hq=>by
  rcases Rat.mul_eq_zero.mp (zz q hq) with k | k
  ·exact .inl k
  ·rcases Rat.mul_eq_zero.mp k with k | k <;> exact .inr k
 refine ⟨Nat.not_lt.mp λm => ?_,z2⟩
 have ol:=qYx u ps
 have lf:((qJd u ps).map Prod.fst).length=(qJd u ps).length:=Za6 ..
 have f0:=qH4 ((qJd u ps).map Prod.fst) ⟨pS (shL u ms) c⟩ (qAn5 nd) (by rw [lf];omega) (by rw [lf];exact (qAy (shL u ms) c).mono (by omega)) λt ht=>by
  obtain ⟨q,hq,rfl⟩:=List.mem_map.mp ht
  obtain ⟨q1,q2⟩:=qAa9.mp hq
  rcases z2 q q1 with k | k
  ·exact absurd k q2
  ·exact k
 have t:=qB9 (shL u ms) c
 have t0:pS (shL u ms) c c=(0:Ps).c c:=congrArg (λf:Ps=>f.c c) f0
 rw [t,qFi] at t0
 exact absurd t0 (by decide)
end
structure PlO (s:Scene) (x y:Option Rat):Prop where
 pin:PtsIn x y (qDr s.tops s.parts s.bottom s.under)
 xy:∀ a b,x=some a->y=some b->a<b
 no:x=none->y=none
 zx:SzO 40 x
 zy:SzO 40 y
abbrev rvS(s:Scene)(n:Nat):List Rat:=qIf s.tops s.parts s.bottom s.under n
section
variable {s:Scene} {m n:Nat} {x y x' y':Option Rat}
theorem PlO.dec(h:PlO s x y)(n9:n<=15):qK2 (rvS s n) (qAo x y)=true:=qAmd (qU1 _ _ _ _ n) h.pin (by rw [qCd];exact n9)
theorem PlO.fit(h:PlO s x y)(n9:n<=15):∃ r,qN5 (rvS s n) x y=some r:=qXv (h.dec n9)
theorem PlO.next(h:PlO s x y)(n0:0<n)(n8:n<=8){r:Option Rat × Option Rat}(hr:qN5 (rvS s n) x y=some r):inI r (coef (rvS s (n+1)) n):=by
 have l:(rvS s n).length=n:=qCd s.tops s.parts s.bottom s.under n
 have d:=h.dec (n:=n+1) (by omega)
 unfold rvS at d
 rw [qAev] at d
 exact (qWv h.xy (by omega) (by omega) hr _).mp d
theorem PlO.border(h:PlO s x y)(n0:0<n)(n8:n<=8){r:Option Rat × Option Rat}(hr:qN5 (rvS s n) x y=some r)(hb:qAp (goN (rvS s n) (qAo x y) n 0)≠none):r=(some (coef (rvS s (n+1)) n),some (coef (rvS s (n+1)) n)):=by
 have l:(rvS s n).length=n:=qCd s.tops s.parts s.bottom s.under n
 have i:=h.next n0 n8 hr
 unfold qN5 at hr
 rw [l] at hr
 cases e:qAp (goN (rvS s n) (qAo x y) n 0) with
 | none=>exact absurd e hb
 | some t=>
  rw [e] at hr
  dsimp only at hr
  cases hq:smN (rvS s n) x y with
  | none=>rw [hq] at hr;cases hr
  | some p=>
   rw [hq] at hr
   cases hr
   have h1:=i.1 _ rfl
   have h2:=i.2 _ rfl
   have:nxN (rvS s n) p=coef (rvS s (n+1)) n:=by grind
   show (some (nxN (rvS s n) p),some (nxN (rvS s n) p))=_
   rw [this]
theorem PlO.within(h:PlO s x y)(h':PlO s x' y')(W:Wide x y x' y')(n0:0<n)(n8:n<=8){r r':Option Rat × Option Rat}(hr:qN5 (rvS s n) x y=some r)(hr':qN5 (rvS s n) x' y'=some r'):qWs r r':=by
 have l:(rvS s n).length=n:=qCd s.tops s.parts s.bottom s.under n
 by_cases hi:qAp (goN (rvS s n) (qAo x y) n 0)=none
 ·have hi2:qAp (goN (rvS s n) (qAo x y) (rvS s n).length 0)=none:=by rw [l];exact hi
  have hj:=qAgg W hi2 (by omega)
  have hw:=qAf6 W hi2 (by omega)
  unfold qN5 at hr hr'
  rw [hi2] at hr
  rw [hj] at hr'
  cases hr
  cases hr'
  exact hw
 ·rw [h.border n0 n8 hr hi]
  exact qAb7 (h'.next n0 n8 hr')
theorem PlO.sm(h:PlO s x y)(hs:s.Ok m)(hm:m<=8)(n0:0<n)(n8:n<=8):SmSz 4 (rvS s n) x y 324 200:=by
 obtain ⟨M,hM⟩:=qApj hs hm (show n<=9 by omega)
 have l:(rvS s n).length=n:=qCd s.tops s.parts s.bottom s.under n
 have mono:∀ {o:Option Rat},SzO 40 o->SzO 400 o:=λ{o} z=>by
  cases o with
  | none=>trivial
  | some q=>exact Sz.mono z (by decide)
 exact ⟨by omega,by omega,⟨h.no,mono h.zx,mono h.zy⟩,⟨by decide,by simp;omega,⟨M,qQ4 (qQ4 hM)⟩,λu hu=>qAj5 h.zx h.zy (by decide) hu,by decide⟩,by decide,by decide⟩
end
theorem qAhb{ms:List Rat}{x y:Option Rat}{t:Step}{u:List Rat}{c:Nat}(A:StopAt ms x y t u c):qAp (goN (ms.take (u.length - 1+2*c)) (qAo x y) (ms.take (u.length - 1+2*c)).length 0)=none:=by
 have lt:=A.lt
 have ln:(ms.take (u.length - 1+2*c)).length=u.length - 1+2*c:=by rw [Zaj];omega
 cases hs:qAp (goN (ms.take (u.length - 1+2*c)) (qAo x y) (ms.take (u.length - 1+2*c)).length 0) with
 | none=>rfl
 | some t'=>
  exfalso
  obtain ⟨v,d,B⟩:=qDu hs
  have v0:=qAq v B.hu
  have lb:=B.lt
  rw [ln] at lb
  have on:OnN v (v.length - 1+2*d):=by unfold OnN;omega
  have ct:qG5 v (v.length - 1+2*d)=d:=by unfold qG5;omega
  have e:=qMk (ms:=ms) (n:=u.length - 1+2*c) v0 on lb (by omega)
  have e2:(qHf (ms.take (u.length - 1+2*c)) v (v.length - 1+2*d)).2.2.2=(qHf ms v (v.length - 1+2*d)).2.2.2:=by rw [e]
  have e3:hS (shL v (ms.take (u.length - 1+2*c))) d=hS (shL v ms) d:=by
   have h1:(qHf (ms.take (u.length - 1+2*c)) v (v.length - 1+2*d)).2.2.2=hS (shL v (ms.take (u.length - 1+2*c))) (qG5 v (v.length - 1+2*d)):=rfl
   have h2:(qHf ms v (v.length - 1+2*d)).2.2.2=hS (shL v ms) (qG5 v (v.length - 1+2*d)):=rfl
   rw [h1,h2,ct] at e2
   exact e2
  have p:=A.pos v B.hu d lb
  rw [<-e3] at p
  exact B.np p
theorem qAdp{u:List Rat}{x y:Option Rat}(hu:u∈qAo x y){ps:List (Rat × Rat)}(nd:(ps.map Prod.fst).Pairwise (· ≠ ·))(l30:ps.length<=15):ps.length<=(qJd u ps).length+(u.length - 1):=by
 have u0:=qAq u hu
 have cmp:(qJd u ps).length+(ps.filter λp=>decide (ev p.1 (pl u)=0)).length=ps.length:=by
  unfold qJd
  clear nd l30
  induction ps with
  | nil=>rfl
  | cons p ps ih=>
   rw [List.filter_cons,List.filter_cons,Za0]
   by_cases e:ev p.1 (pl u)=0
   ·simp [e]
    simp at ih
    omega
   ·simp [e]
    simp at ih
    omega
 refine Nat.le_of_not_lt λz => ?_
 have lr:((ps.filter λp=>decide (ev p.1 (pl u)=0)).map Prod.fst).length=(ps.filter λp=>decide (ev p.1 (pl u)=0)).length:=Za6 ..
 have nd2:((ps.filter λp=>decide (ev p.1 (pl u)=0)).map Prod.fst).Pairwise (· ≠ ·):=by
  rw [List.pairwise_map] at nd ⊢
  exact nd.filter _
 have f0:=qH4 _ (pl u) nd2 (by rw [lr];omega) (by rw [lr];exact (qEp u).mono (by omega)) λt ht=>by
  obtain ⟨q,hq,rfl⟩:=List.mem_map.mp ht
  exact of_decide_eq_true (List.mem_filter.mp hq).2
 have t0:(pl u).c (u.length - 1)=(0:Ps).c (u.length - 1):=congrArg (λf:Ps=>f.c (u.length - 1)) f0
 rw [qFi] at t0
 have t1:qAm u=0:=t0
 rcases (qAga hu).2 with k | k <;> (rw [k] at t1;exact absurd t1 (by decide))
section
variable {s:Scene} {m n:Nat} {x y x' y':Option Rat}
theorem PlO.count(h:PlO s x y)(hs:s.Ok m)(hm:m<=8)(n8:n<=9){t:Step}(ht:qAp (goN (rvS s n) (qAo x y) n 0)=some t){p:List Rat}(hp:smN (rvS s n) x y=some p):p.length=s.tops.length+1:=by
 have l:(rvS s n).length=n:=qCd s.tops s.parts s.bottom s.under n
 have hv:=hs.lotV hm
 have lp:=qI7 (b:=s.bottom) (c:=s.under) hv.l
 have l8:=hv.l8
 have row:=qU1 s.tops s.parts s.bottom s.under n
 have ht':qAp (goN (rvS s n) (qAo x y) (rvS s n).length 0)=some t:=by rw [l];exact ht
 obtain ⟨u,c,A⟩:=qDu ht'
 have u0:=qAq u A.hu
 have u3:u.length<=3:=by have:=qB2 A.hu;omega
 have lt:=A.lt
 obtain ⟨z1,z2⟩:=qAdw row h.pin hv.dist (show (rvS s n).length<=15 by omega) (by omega) A.hu lt
 have w0:hS (shL u (rvS s n)) c=0:=by
  have:=A.np
  grind
 obtain ⟨z3,z4⟩:=z2 w0
 have rf:=qAdp A.hu hv.dist (by omega)
 have hpl:p.length=u.length+c:=by
  unfold smN at hp
  rw [ht'] at hp
  dsimp only at hp
  split at hp
  ·cases hp
  ·split at hp
   ·cases hp
    exact (qCo A).1
   ·cases hp
 have pre:=qAhb A
 have ln:((rvS s n).take (u.length - 1+2*c)).length=u.length - 1+2*c:=by rw [Zaj];omega
 have rowK:RowOf ((rvS s n).take (u.length - 1+2*c)) (qDr s.tops s.parts s.bottom s.under):=by
  unfold rvS
  rw [qTc _ _ _ _ (by omega)]
  exact qU1 _ _ _ _ _
 have many:∀ v,v∈qAo x y->∀ j,v.length - 1+2*j<u.length - 1+2*c->j<(qJd v (qDr s.tops s.parts s.bottom s.under)).length:=λv hv' j hj=>qAfp rowK (by omega) pre hv' (by rw [ln];exact hj) (by omega)
 have o1:=qYx [1] (qDr s.tops s.parts s.bottom s.under)
 have one:=many [1] (qHa x y)
 have ol:=qYx u (qDr s.tops s.parts s.bottom s.under)
 suffices hc:u.length - 1+c<=s.tops.length by omega
 have off_lt:∀ v:List Rat,(∃ q,q∈qDr s.tops s.parts s.bottom s.under/\ev q.1 (pl v)=0)->(qJd v (qDr s.tops s.parts s.bottom s.under)).length<(qDr s.tops s.parts s.bottom s.under).length:=λv hq=>by
  obtain ⟨q,hq,e⟩:=hq
  unfold qJd
  exact List.length_filter_lt_length_iff_exists.mpr ⟨q,hq,by simp [e]⟩
 have c3:u.length=1\/u.length=2\/u.length=3:=by omega
 rcases c3 with k | k | k
 ·by_cases c0:c=0
  ·omega
  ·have:=one (c - 1) (by simp;omega)
   omega
 ·have:=one c (by simp;omega)
  omega
 ·have h1:=one c (by simp;omega)
  have hroot:∃ q,q∈qDr s.tops s.parts s.bottom s.under/\ev q.1 (pl u)=0:=Za5 λno=>by
   have:qJd u (qDr s.tops s.parts s.bottom s.under)=qDr s.tops s.parts s.bottom s.under:=by
    unfold qJd
    exact List.filter_eq_self.mpr λq hq=>decide_eq_true λe=>no ⟨q,hq,e⟩
   rw [this] at z3
   omega
  obtain ⟨q,hq,e⟩:=hroot
  have hu:=A.hu
  cases x with
  | none=>
   obtain rfl:u=[1]:=by simpa [qAo] using hu
   cases k
  | some a=>
   cases y with
   | none=>
    have:u=[1]\/u=[-a,1]:=by simpa [qAo] using hu
    rcases this with rfl | rfl <;> cases k
   | some b=>
    have:u=[1]\/u=[-a,1]\/u=[b, -1]\/u=[-(a*b),a+b, -1]:=by simpa [qAo] using hu
    rcases this with rfl | rfl | rfl | rfl
    ·cases k
    ·cases k
    ·cases k
    ·have m1:=many [-a,1] (by simp [qAo]) c (by simp only [Za0,List.length_nil];omega)
     have m2:=many [b, -1] (by simp [qAo]) c (by simp only [Za0,List.length_nil];omega)
     rw [qY4] at e
     have e2:(q.1 - a)*(b - q.1)=0:=by grind
     have:(qJd [-a,1] (qDr s.tops s.parts s.bottom s.under)).length<(qDr s.tops s.parts s.bottom s.under).length\/(qJd [b, -1] (qDr s.tops s.parts s.bottom s.under)).length<(qDr s.tops s.parts s.bottom s.under).length:=by
      rcases Rat.mul_eq_zero.mp e2 with k | k
      ·exact .inl (off_lt _ ⟨q,hq,by have:=qX1 q.1 (-a) 1;grind⟩)
      ·exact .inr (off_lt _ ⟨q,hq,by have:=qX1 q.1 b (-1);grind⟩)
     simp only [Za0,List.length_nil] at *
     omega
end
theorem qAoe{ms:List Rat}{x y:Option Rat}(h:qAp (goN ms (qAo x y) ms.length 0)=none):smN ms x y=some (insN ms x):=by
 unfold smN
 rw [h]
theorem qAk5(ms:List Rat)(x:Option Rat):(insN ms x).length=(ms.length+1) / 2+1:=by
 unfold insN
 by_cases he:ms.length % 2=0
 ·rw [if_pos he]
  have:=(qCq (shL [1] (ms ++ [0])) (ms.length / 2)).1
  unfold ortN
  omega
 ·rw [if_neg he]
  cases x with
  | none=>
   have:=(qCq (shL [1] (ms ++ [0] ++ [0])) (ms.length / 2+1)).1
   dsimp only
   unfold ortN
   omega
  | some a=>
   obtain ⟨lp,tp⟩:=qCq (shL [-a,1] (ms ++ [0])) (ms.length / 2)
   dsimp only
   unfold ortN
   generalize (chN (shL [-a,1] (ms ++ [0])) (ms.length / 2)).1.1=p at *
   have lm:=qHq (u:=[-a,1]) (by simp) (show 0<p.length by omega)
   have tm:=qHk (u:=[-a,1]) (by simp) (show 0<p.length by omega)
   have l2:([-a,1]:List Rat).length=2:=rfl
   rw [l2] at lm tm
   rw [show p.length - 1=ms.length / 2 by omega,tp,show coef ([-a,1]:List Rat) (2 - 1)=1 from rfl,Rat.mul_one] at tm
   rw [qCj (n:=2+p.length - 2) (by omega) (by rw [tm];decide)]
   omega
section
variable {s:Scene} {m n:Nat} {x y x' y':Option Rat}
theorem PlO.first(h:PlO s x y){p:List Rat}(hp:smN (rvS s n) x y=some p):p.length<=n+2:=by
 have l:(rvS s n).length=n:=qCd s.tops s.parts s.bottom s.under n
 cases ht:qAp (goN (rvS s n) (qAo x y) (rvS s n).length 0) with
 | none=>
  rw [qAoe ht] at hp
  cases hp
  rw [qAk5,l]
  omega
 | some t=>
  obtain ⟨u,c,A⟩:=qDu ht
  have u0:=qAq u A.hu
  have lt:=A.lt
  have hpl:p.length=u.length+c:=by
   unfold smN at hp
   rw [ht] at hp
   dsimp only at hp
   split at hp
   ·cases hp
   ·split at hp
    ·cases hp
     exact (qCo A).1
    ·cases hp
  omega
structure SpanO (s:Scene) (lo hi:Int):Prop where
 l:lo<hi
 t:∀ t,t∈s.tops->lo<=t/\t<=hi
 lb : -2000000<=lo
 hb:hi<=4000000
end
def jSc(pr:Bool)(s t:Scene)(tops parts:List Int):Scene:=⟨2,jLo pr s t,jHi pr s t,s.bottom*t.bottom,tops,parts,s.under*t.under⟩
structure Two (pr:Bool) (s t:Scene) (a b:Int):Prop where
 s:S88 2 a s
 t:S88 4 b t
 a0 : -10<=a
 a1:a<=20
 ap:pr=true->0<=a
 b0:0<=b
 b1:b<=7
theorem qR7{x y:Int}{a b:Nat}(h1:x.natAbs<=a)(h2:y.natAbs<=b):(x*y).natAbs<=a*b:=by
 rw [Zao]
 exact Nat.mul_le_mul h1 h2
theorem Two.inS{pr:Bool}{s t:Scene}{a b:Int}(h:Two pr s t a b):In88 s:=h.s.inn (by decide) h.a0 h.a1
theorem Two.inT{pr:Bool}{s t:Scene}{a b:Int}(h:Two pr s t a b):In88 t:=h.t.inn (by decide) (by have:=h.b0;omega) (by have:=h.b1;omega)
theorem qAbn{pr:Bool}{b e x y x' y':Int}(b0:0<b)(e0:0<e)(hx:x<=x')(hy:y<=y')(h0:pr=true->0<=x/\0<=y):jf pr b e x y<=jf pr b e x' y':=by
 cases pr
 ·show x*e+y*b<=x'*e+y'*b
  exact Int.add_le_add (Int.mul_le_mul_of_nonneg_right hx (by omega)) (Int.mul_le_mul_of_nonneg_right hy (by omega))
 ·obtain ⟨x0,y0⟩:=h0 rfl
  exact Int.mul_le_mul hx hy y0 (by omega)
theorem qAqw{pr:Bool}{b e x y x' y':Int}(b0:0<b)(e0:0<e)(hx:x<x')(hy:y<y')(h0:pr=true->0<=x/\0<=y):jf pr b e x y<jf pr b e x' y':=by
 cases pr
 ·show x*e+y*b<x'*e+y'*b
  exact Int.add_lt_add (Int.mul_lt_mul_of_pos_right hx e0) (Int.mul_lt_mul_of_pos_right hy b0)
 ·obtain ⟨x0,y0⟩:=h0 rfl
  show x*y<x'*y'
  exact Int.lt_of_le_of_lt (Int.mul_le_mul_of_nonneg_left (Int.le_of_lt hy) x0) (Int.mul_lt_mul_of_pos_right hx (by omega))
theorem qAps{pr:Bool}{b e x y:Int}(hb:b.natAbs<=30)(he:e.natAbs<=30)(hx:x.natAbs<=200)(hy:y.natAbs<=200):(jf pr b e x y).natAbs<=40000:=by
 cases pr
 ·show (x*e+y*b).natAbs<=40000
  have:=qR7 hx he
  have:=qR7 hy hb
  omega
 ·show (x*y).natAbs<=40000
  have:=qR7 hx hy
  omega
theorem Two.ok{pr:Bool}{s t:Scene}{a b:Int}(h:Two pr s t a b){tops parts:List Int}(hj:Jo pr s t tops parts):(jSc pr s t tops parts).Ok 8:=by
 have is:=h.inS
 have it:=h.inT
 have q1:=is.b0
 have q2:=is.b1
 have q3:=it.b0
 have q4:=it.b1
 have q5:=h.s.low
 have q6:=h.t.low
 have q7:=h.b0
 have hl:jLo pr s t<jHi pr s t:=qAqw q1 q3 (by have:=h.s.h0;omega) (by have:=h.t.h0;omega) (λe=>⟨by have:=h.ap e;omega,by omega⟩)
 have r1:(jLo pr s t).natAbs<=40000:=qAps (by omega) (by omega) (by have:=is.lo;omega) (by have:=it.lo;omega)
 have r2:(jHi pr s t).natAbs<=40000:=qAps (by omega) (by omega) (by have:=is.hi;omega) (by have:=it.hi;omega)
 have r3:(s.bottom*t.bottom).natAbs<=30*30:=qR7 (by omega) (by omega)
 have p3:0<s.bottom*t.bottom:=Int.mul_pos q1 q3
 have u1:=h.s.u0
 have u2:=h.s.u1
 have u3:=h.t.u0
 have u4:=h.t.u1
 have r4:(s.under*t.under).natAbs<=60*60:=qR7 (by omega) (by omega)
 have p4:0<s.under*t.under:=Int.mul_pos u1 u3
 have ls:=h.s.most
 have lt:=h.t.most
 have l8:s.tops.length*t.tops.length<=2*4:=Nat.mul_le_mul ls lt
 refine ⟨.inr (.inr rfl),hl,by show -1000000<=jLo pr s t;omega,by show jHi pr s t<=3000001;omega,p3,by show s.bottom*t.bottom<=1000;omega,hj.l,by have:=hj.ln;show tops.length<=8;omega,hj.nd,λz hz => ?_,λw hw => ?_,p4,by show s.under*t.under<=4000;omega⟩
 ·obtain ⟨x,y,hx,hy,rfl⟩:=hj.r z hz
  have k1:=h.s.top x hx
  have k2:=h.t.top y hy
  have m1:jLo pr s t<=jf pr s.bottom t.bottom x y:=qAbn q1 q3 (by omega) (by omega) (λe=>⟨by have:=h.ap e;omega,by omega⟩)
  have m2:jf pr s.bottom t.bottom x y<=jHi pr s t:=qAbn q1 q3 k1.2 k2.2 (λe=>⟨by have:=h.ap e;omega,by omega⟩)
  exact ⟨m1,by omega,λ_=>m2⟩
 ·have:=hj.p w hw
  omega
theorem S88.ok{m:Nat}{lo:Int}{s:Scene}(h:S88 m lo s)(l0 : -10<=lo)(l1:lo<=20):s.Ok m:=by
 have:=h.h0
 have:=h.h1
 have:=h.low
 have:=h.b1
 have:=h.u1
 exact ⟨.inr (.inr h.sh),by omega,by omega,by omega,h.b0,by omega,h.len,h.most,h.nd,λt ht=>by have:=h.top t ht;exact ⟨by omega,by omega,λ_=>this.2⟩,λw hw=>by have:=h.part w hw;omega,h.u0,by omega⟩
theorem qGh{a:Int}(h:0<a):(a:Rat)≠0:=Zan (Rat.intCast_pos.mpr h)
structure Rw (s:Scene):Prop where
 l:s.tops.length=s.parts.length
 b0:0<s.bottom
 u0:0<s.under
theorem qPn(g h:Rat->Rat)(s:Rat):∀ ps:List (Rat × Rat),wsum g ps+s*wsum h ps=wsum (λx=>g x+s*h x) ps
 | []=>by
  show (0:Rat)+s*0=0
  rw [Za1,Zac]
 | p :: ps=>by
  show (p.2*g p.1+wsum g ps)+s*(p.2*h p.1+wsum h ps)=p.2*(g p.1+s*h p.1)+wsum _ ps
  rw [<-qPn g h s ps]
  grind
theorem qJc{g h:Rat->Rat}(e:∀ x,g x=h x)(ps:List (Rat × Rat)):wsum g ps=wsum h ps:=by
 have:g=h:=funext e
 rw [this]
theorem qMs(s:Rat)(ps:List (Rat × Rat)):∀ k i,itr s k (qEn ps) i=wsum (λx=>x ^ i*(x+s) ^ k) ps
 | 0,i=>by
  show qEn ps i=_
  induction ps with
  | nil=>rfl
  | cons p ps ih=>
   show p.2*p.1 ^ i+qEn ps i=p.2*(p.1 ^ i*(p.1+s) ^ 0)+wsum _ ps
   rw [ih,Rat.pow_zero,Rat.mul_one]
 | k+1,i=>by
  show itr s k (qEn ps) (i+1)+s*itr s k (qEn ps) i=_
  rw [qMs s ps k (i+1),qMs s ps k i,qPn]
  refine qJc (λx => ?_) ps
  rw [Rat.pow_succ,Rat.pow_succ]
  grind
theorem In88.sz{s:Scene}(h:In88 s)(u0:0<s.under)(u1:s.under<=60){m:Nat}(hm:m<=6):SzL 60 (rvS s m):=λq hq=>by
 obtain ⟨k,hk,rfl⟩:=List.mem_map.mp hq
 have hk:=List.mem_range.mp hk
 have b0:=h.b0
 have b1:=h.b1
 rw [qM8 b0 u0 k h.len, ←Za8]
 have z:=qMz (n:=6) (m:=8) (xs:=s.tops) (ws:=s.parts) k (λx hx=>by have:=h.top x hx;show x.natAbs<256;omega) (λw hw=>by have:=h.part w hw;show w.natAbs<64;omega)
 have l4:=h.most
 refine qG3 (Int.ne_of_gt (Int.mul_pos u0 (Int.pow_pos b0))) ?_ ?_
 ·refine Nat.lt_of_le_of_lt (Zaf z (Nat.mul_le_mul_right _ (show s.tops.length<=2 ^ 2 by omega))) ?_
  rw [<-Nat.pow_add]
  exact Nat.pow_lt_pow_right (by decide) (by omega)
 ·rw [Zao,Int.natAbs_pow]
  have h1:s.bottom.natAbs ^ k<=(2 ^ 5) ^ k:=Nat.pow_le_pow_left (by omega) k
  rw [<-Nat.pow_mul] at h1
  refine Nat.lt_of_le_of_lt (Nat.mul_le_mul (show s.under.natAbs<=2 ^ 6 by show _<=64;omega) h1) ?_
  rw [<-Nat.pow_add]
  exact Nat.pow_lt_pow_right (by decide) (by omega)
theorem qAix{tops parts:List Int}{under bottom:Int}(l:tops.length=parts.length)(b0:0<bottom)(u0:0<under)(n:Nat):(qI0 tops parts under bottom n).map qCs=qIf tops parts bottom under n:=by
 unfold qI0 qIf
 rw [List.map_map]
 refine List.map_congr_left λk _ => ?_
 rw [<-qU2 l b0 u0 k]
 show qCs (rowP tops parts under bottom k)=_
 unfold rowP qAho
 rw [qJw l]
theorem qAaf{tops parts:List Int}{T:Nat}(ht:SzI T tops)(hp:SzI 20 parts)(k:Nat):SzI (20+T*k) (qEx tops parts k):=by
 induction k with
 | zero=>intro x hx;rw [Nat.mul_zero];exact hp x hx
 | succ k ih=>
  intro x hx
  obtain ⟨i,hi,rfl⟩:=List.mem_map.mp hx
  have hi:=List.mem_range.mp hi
  rw [Zao,Nat.mul_succ, ←Nat.add_assoc,Nat.pow_add]
  have z1:((qEx tops parts k).getD i 0).natAbs<2 ^ (20+T*k):=by
   rw [Zak]
   cases e:(qEx tops parts k)[i]? with
   | none=>exact Nat.two_pow_pos _
   | some y=>exact ih y (List.mem_of_getElem? e)
  have z2:(tops.getD i 0).natAbs<2 ^ T:=by
   rw [Zak]
   cases e:tops[i]? with
   | none=>exact Nat.two_pow_pos _
   | some y=>exact ht y (List.mem_of_getElem? e)
  exact Nat.mul_lt_mul'' z1 z2
theorem qYu{tops parts:List Int}{under bottom:Int}{T B N n:Nat}(l:tops.length=parts.length)(l8:tops.length<=8)(zt:SzI T tops)(zp:SzI 20 parts)(b0:0<bottom)(bB:bottom.natAbs<2 ^ B)(u0:0<under)(u1:under.natAbs<2 ^ 12)(hn:n<=9)(h1:3+(20+T*8)<N)(h2:12+B*8<=N):∀ p,p∈qI0 tops parts under bottom n->SzP N p:=λp hp=>by
 obtain ⟨k,hk,rfl⟩:=List.mem_map.mp hp
 have hk:k<n:=List.mem_range.mp hk
 have lp:(qEx tops parts k).length<=2 ^ 3:=by rw [qSf l];exact l8
 have bk:0<bottom ^ k:=Int.pow_pos b0
 have hTk:T*k<=T*8:=Nat.mul_le_mul_left _ (by omega)
 have hBk:B*k<=B*8:=Nat.mul_le_mul_left _ (by omega)
 refine ⟨?_, ?_,Int.mul_pos u0 bk⟩
 ·refine Nat.lt_of_le_of_lt (qYj _ (qAaf zt zp k)) ?_
  refine Nat.lt_of_le_of_lt (Nat.mul_le_mul_right _ lp) ?_
  rw [<-Nat.pow_add]
  exact Nat.pow_lt_pow_right (by decide) (by omega)
 ·show (under*bottom ^ k).natAbs<2 ^ N
  rw [Zao,Int.natAbs_pow]
  have h1:bottom.natAbs ^ k<=(2 ^ B) ^ k:=Nat.pow_le_pow_left (Nat.le_of_lt bB) k
  rw [<-Nat.pow_mul] at h1
  refine Zam (Nat.mul_lt_mul_of_lt_of_le u1 h1 (Nat.two_pow_pos _)) ?_
  rw [<-Nat.pow_add]
  exact Zaa (by decide) (by omega)
theorem qMx{f g:Nat->Rat}{n:Nat}(h:∀ i,i<n->f i=g i):∀ k i,i+k<n->dfs k f i=dfs k g i
 | 0,i,hi=>h i (by omega)
 | k+1,i,hi=>by
  show dfs k f i - dfs k f (i+1)=dfs k g i - dfs k g (i+1)
  rw [qMx h k i (by omega),qMx h k (i+1) (by omega)]
theorem qVq(ps:List (Rat × Rat)):∀ k i,dfs k (qEn ps) i=wsum (λx=>x ^ i*(1 - x) ^ k) ps
 | 0,i=>by
  have:=qMs 0 ps 0 i
  show qEn ps i=_
  rw [show qEn ps i=itr 0 0 (qEn ps) i from rfl,this]
  refine qJc (λx => ?_) ps
  rw [Rat.pow_zero,Rat.pow_zero]
 | k+1,i=>by
  show dfs k (qEn ps) i - dfs k (qEn ps) (i+1)=_
  rw [qVq ps k i,qVq ps k (i+1)]
  have:=qPn (λx=>x ^ i*(1 - x) ^ k) (λx=>x ^ (i+1)*(1 - x) ^ k) (-1) ps
  rw [show ∀ a b:Rat,a - b=a+(-1)*b from λa b=>by grind,this]
  refine qJc (λx => ?_) ps
  rw [Rat.pow_succ,Rat.pow_succ]
  grind
theorem qQc{x:Rat}(h:0<=x):∀ k:Nat,0<=x ^ k
 | 0=>by rw [Rat.pow_zero];decide
 | k+1=>by rw [Rat.pow_succ];exact Zal (qQc h k) h
structure U62 (tops parts:List Int) (under bottom:Int):Prop where
 l:tops.length=parts.length
 l8:tops.length<=5
 t:∀ t,t∈tops->0<=t/\t<=bottom
 p:∀ p,p∈parts->0<p/\p<=1000
 b0:0<bottom
 b1:bottom<=1000000
 u0:0<under
 u1:under<=60
section
variable {tops parts:List Int} {under bottom:Int} {n:Nat}
theorem qAm3:∀ {tops parts:List Int} {p:Rat × Rat},p∈qDr tops parts bottom under->∃ t w,t∈tops/\w∈parts/\p=(Za4 t bottom,Za4 w under)
 | [],_,p,h=>by cases h
 | t :: ts,[],p,h=>by cases h
 | t :: ts,w :: ws,p,h=>by
  rcases List.mem_cons.mp h with rfl | h
  ·exact ⟨t,w,Zad,Zad,rfl⟩
  ·obtain ⟨t',w',h1,h2,h3⟩:=qAm3 h
   exact ⟨t',w',Zab _ h1,Zab _ h2,h3⟩
theorem qAab{a b:Int}(ha:0<=a)(hb:0<b):0<=Za4 a b:=by
 have:=(qAb1 hb (x:=0) (y:=a)).mpr ha
 rw [Rat.zero_divInt] at this
 exact this
theorem U62.nn(h:U62 tops parts under bottom){k i:Nat}(hk:i+k<n):0<=dfs k (coef (qIf tops parts bottom under n)) i:=by
 rw [qMx (g:=qEn (qDr tops parts bottom under)) (n:=n) (λi hi=>qDz hi) k i hk,qVq]
 refine (qHu λp hp => ?_).1
 obtain ⟨t,w,ht,hw,rfl⟩:=qAm3 hp
 obtain ⟨t0,t1⟩:=h.t t ht
 obtain ⟨w0,w1⟩:=h.p w hw
 have x0:0<=Za4 t bottom:=qAab t0 h.b0
 have x1:Za4 t bottom<=1:=by
  have:=(qAb1 h.b0 (x:=t) (y:=bottom)).mpr t1
  rw [Rat.divInt_self' (Int.ne_of_gt h.b0)] at this
  exact this
 refine ⟨?_,Zal (qQc x0 i) (qQc (by grind) k)⟩
 show 0<Za4 w under
 have:=qPz h.u0 w0
 rw [Rat.zero_divInt] at this
 exact this
theorem U62.sz(h:U62 tops parts under bottom)(hn:n<=9):∀ p,p∈qI0 tops parts under bottom n->SzP 250 p:=by
 have b0:=h.b0
 have b1:=h.b1
 have u0:=h.u0
 have u1:=h.u1
 refine qYu (T:=20) (B:=20) h.l (Zaf h.l8 (by decide)) (λt ht => ?_) (λp hp => ?_) h.b0 (show _<1048576 by omega) h.u0 (show _<4096 by omega) hn (by decide) (by decide)
 ·obtain ⟨h1,h2⟩:=h.t t ht
  show t.natAbs<1048576
  omega
 ·obtain ⟨h1,h2⟩:=h.p p hp
  show p.natAbs<1048576
  omega
theorem U62.val(h:U62 tops parts under bottom)(n:Nat):(qI0 tops parts under bottom n).map qCs=qIf tops parts bottom under n:=qAix h.l h.b0 h.u0 n
theorem U62.none(h:U62 tops parts under bottom)(hn:n<=9){k:Nat}(hk:k<n):∀ p,p∈tbP (qI0 tops parts under bottom n) k->0<=p.1:=λp hp=>by
 have l:(qI0 tops parts under bottom n).length=n:=qL7 ..
 have hz:∀ p,p∈qI0 tops parts under bottom n->SzP 355 p:=λp hp=>(h.sz hn p hp).mono (by decide)
 have hs:=qAii hz (by omega) (show k<_ by omega) p hp
 have hv:qCs p∈dfL ((qI0 tops parts under bottom n).map qCs) k:=by
  rw [<-qWd hz (by omega) (by omega)]
  exact List.mem_map.mpr ⟨p,hp,rfl⟩
 unfold dfL at hv
 obtain ⟨a,ha,e⟩:=List.mem_map.mp hv
 have ha:=List.mem_range.mp ha
 rw [Za6,l] at ha
 rw [h.val] at e
 have:=h.nn (n:=n) (k:=k) (i:=a) (by omega)
 rw [e] at this
 unfold qCs at this
 refine Int.not_lt.mp λz => ?_
 have:=qPz hs.pos z
 rw [Rat.zero_divInt] at this
 grind
end
def cenT(tops:List Int)(tot fst:Int):List Int:=tops.map λt=>t*tot - fst
theorem qAda{tot fst c b:Int}(b0:0<b)(t0:0<tot){s:Rat}(hs:s = -(Za4 fst (b*tot)))(k:Nat):∀ {tops parts:List Int},qEn (qDr (cenT tops tot fst) parts (b*tot) c) k=wsum (λx=>x ^ 0*(x+s) ^ k) (qDr tops parts b c)
 | [],_=>by rfl
 | t :: ts,[]=>by rfl
 | t :: ts,w :: ws=>by
  show Za4 w c*Za4 (t*tot - fst) (b*tot) ^ k+qEn (qDr (cenT ts tot fst) ws (b*tot) c) k=Za4 w c*(Za4 t b ^ 0*(Za4 t b+s) ^ k)+wsum _ (qDr ts ws b c)
  rw [qAda b0 t0 hs k]
  have e:Za4 (t*tot - fst) (b*tot)=Za4 t b+s:=by
   have nb:=qGh b0
   have nt:=qGh t0
   rw [hs,Za8,Za8,Za8,Rat.intCast_sub,Za7,Za7]
   grind
  rw [e,Rat.pow_zero,Rat.one_mul]
theorem Sz.pow62{n:Nat}{a:Rat}(h:Sz n a)(n0:0<n)(k:Nat):Sz (n*k+1) (a ^ k):=by
 induction k with
 | zero=>rw [Rat.pow_zero,Nat.mul_zero];exact ⟨by decide,by decide⟩
 | succ k ih=>rw [Rat.pow_succ,Nat.mul_succ];exact (ih.mul h).mono (by omega)
theorem qS6{g:Rat->Rat}{e:Nat}:∀ {ps:List (Rat × Rat)},(∀ p,p∈ps->Sz e (p.2*g p.1))->Sz ((e+1)*ps.length+1) (wsum g ps)
 | [],_=>qFz
 | p :: ps,h=>by
  have h1:=h p Zad
  have h2:=qS6 λq hq=>h q (Zab _ hq)
  refine (h1.add h2).mono ?_
  rw [Za0,Nat.mul_succ]
  omega
section
variable {tops parts:List Int} {under bottom:Int} {n:Nat}
abbrev qEh(parts:List Int):Int:=parts.sum
abbrev qIc(tops parts:List Int):Int:=(qEx tops parts 1).sum
theorem U62.tot(h:U62 tops parts under bottom)(t0:0<tops.length):0<qEh parts/\qEh parts<=5000:=by
 have l:=h.l
 have l8:=h.l8
 have go:∀ ws:List Int,(∀ p,p∈ws->0<p/\p<=1000)->(0<ws.length->0<ws.sum)/\0<=ws.sum/\ws.sum<=1000*ws.length:=by
  intro ws
  induction ws with
  | nil=>intro _;exact ⟨λz=>absurd z (Nat.lt_irrefl 0),by decide,by decide⟩
  | cons w ws ih=>
   intro hw
   obtain ⟨a,b,c⟩:=ih λp hp=>hw p (Zab _ hp)
   obtain ⟨w0,w1⟩:=hw w Zad
   rw [List.sum_cons,Za0]
   refine ⟨λ_=>by omega,by omega,by omega⟩
 obtain ⟨a,b,c⟩:=go parts h.p
 exact ⟨a (by omega),by show parts.sum<=5000;omega⟩
theorem U62.fst(h:U62 tops parts under bottom):0<=qIc tops parts/\qIc tops parts<=bottom*qEh parts:=by
 have go:∀ {ts ws:List Int},ts.length=ws.length->(∀ t,t∈ts->0<=t/\t<=bottom)->(∀ p,p∈ws->0<p/\p<=1000)->0<=qKb ts ws 1/\qKb ts ws 1<=bottom*ws.sum:=by
  intro ts
  induction ts with
  | nil=>intro ws l _ _;cases ws with
   | nil=>exact ⟨by decide,by rw [List.sum_nil,Int.mul_zero];decide⟩
   | cons w ws=>simp at l
  | cons t ts ih=>
   intro ws l ht hw
   cases ws with
   | nil=>simp at l
   | cons w ws=>
    obtain ⟨a,b⟩:=ih (by simpa using l) (λt h=>ht t (Zab _ h)) λp h=>hw p (Zab _ h)
    obtain ⟨t0,t1⟩:=ht t Zad
    obtain ⟨w0,w1⟩:=hw w Zad
    have e:qKb (t :: ts) (w :: ws) 1=w*t ^ 1+qKb ts ws 1:=rfl
    have p1:=Int.mul_nonneg (Int.le_of_lt w0) t0
    have p2:=Int.mul_le_mul_of_nonneg_left t1 (Int.le_of_lt w0)
    have e2:t ^ 1=t:=by rw [Int.pow_succ,Int.pow_zero,Int.one_mul]
    rw [e,e2,List.sum_cons,Int.mul_add,Int.mul_comm bottom w]
    omega
 have e:qIc tops parts=qKb tops parts 1:=by
  show (qEx tops parts 1).sum=_
  rw [qJw h.l,qL2 1 h.l]
 rw [e]
 exact go h.l h.t h.p
theorem U62.cen(h:U62 tops parts under bottom)(t0:0<tops.length)(n2:2<=n):coef (qIf tops parts bottom under n) 0≠0/\ctr (qIf tops parts bottom under n) = -(Za4 (qIc tops parts) (bottom*qEh parts)):=by
 obtain ⟨p0,p1⟩:=h.tot t0
 have nu:=qGh h.u0
 have nb:=qGh h.b0
 have nt:=qGh p0
 have e0:coef (qIf tops parts bottom under n) 0=(qEh parts:Rat) / (under:Rat):=by
  rw [qDz (by omega), ←qU2 h.l h.b0 h.u0 0]
  show Za4 (qTa parts tops 0).sum (under*bottom ^ 0)=_
  rw [<-qJw h.l,Int.pow_zero,Int.mul_one,Za8]
  rfl
 have e1:coef (qIf tops parts bottom under n) 1=(qIc tops parts:Rat) / ((under:Rat)*(bottom:Rat)):=by
  rw [qDz (by omega), ←qU2 h.l h.b0 h.u0 1]
  show Za4 (qTa parts tops 1).sum (under*bottom ^ 1)=_
  rw [<-qJw h.l,Int.pow_succ,Int.pow_zero,Int.one_mul,Za8,Za7]
 unfold ctr
 rw [e0,e1,Za8,Za7]
 refine ⟨λz => ?_, ?_⟩
 ·have:(qEh parts:Rat)=0:=by
   have:=congrArg (· * (under:Rat)) z
   simp only [Za2] at this
   rw [<-this]
   grind
  exact nt this
 ·congr 1
  grind
theorem U62.csz(h:U62 tops parts under bottom)(t0:0<tops.length):∀ t,t∈tops->(t*qEh parts - qIc tops parts).natAbs<2 ^ 35/\0<bottom*qEh parts/\(bottom*qEh parts).natAbs<2 ^ 35:=λt ht=>by
 obtain ⟨p0,p1⟩:=h.tot t0
 obtain ⟨f0,f1⟩:=h.fst
 obtain ⟨a0,a1⟩:=h.t t ht
 have b0:=h.b0
 have b1:=h.b1
 have m0:0<bottom*qEh parts:=Int.mul_pos b0 p0
 have m1:bottom*qEh parts<=1000000*5000:=Int.mul_le_mul b1 p1 (Int.le_of_lt p0) (by decide)
 have q0:=Int.mul_nonneg a0 (Int.le_of_lt p0)
 have q1:=Int.mul_le_mul_of_nonneg_right a1 (Int.le_of_lt p0)
 refine ⟨?_,m0, ?_⟩
 ·show _<34359738368
  omega
 ·show _<34359738368
  omega
theorem U62.itrs(h:U62 tops parts under bottom)(t0:0<tops.length){s:Rat}(hs:s = -(Za4 (qIc tops parts) (bottom*qEh parts)))(n9:n<=9){k i:Nat}(hk:k+i<n):Sz 4400 (itr s k (coef (qIf tops parts bottom under n)) i):=by
 rw [qJ8 (g:=qEn (qDr tops parts bottom under)) (n:=n) (λi hi=>qDz hi) k i (by omega),qMs]
 have l5:=h.l8
 have lp:(qDr tops parts bottom under).length=tops.length:=qI7 h.l
 refine (qS6 (e:=500) λp hp => ?_).mono (by rw [lp];omega)
 obtain ⟨t,w,ht,hw,rfl⟩:=qAm3 hp
 obtain ⟨a0,a1⟩:=h.t t ht
 obtain ⟨w0,w1⟩:=h.p w hw
 have b0:=h.b0
 have b1:=h.b1
 have u0:=h.u0
 have u1:=h.u1
 obtain ⟨c1,c2,c3⟩:=h.csz t0 t ht
 have z1:Sz 10 (Za4 w under):=qG3 (Int.ne_of_gt u0) (show _<1024 by omega) (show _<1024 by omega)
 have z2:Sz 20 (Za4 t bottom):=qG3 (Int.ne_of_gt b0) (show _<1048576 by omega) (show _<1048576 by omega)
 have e:Za4 t bottom+s=Za4 (t*qEh parts - qIc tops parts) (bottom*qEh parts):=by
  have nb:=qGh b0
  have nt:=qGh (h.tot t0).1
  rw [hs,Za8,Za8,Za8,Rat.intCast_sub,Za7,Za7]
  grind
 have z3:Sz 35 (Za4 t bottom+s):=by rw [e];exact qG3 (Int.ne_of_gt c2) c1 c3
 show Sz 500 (Za4 w under*(Za4 t bottom ^ i*(Za4 t bottom+s) ^ k))
 refine (z1.mul ((z2.pow62 (by decide) i).mul (z3.pow62 (by decide) k))).mono ?_
 have m1:20*i<=20*8:=Nat.mul_le_mul_left _ (by omega)
 have m2:35*k<=35*8:=Nat.mul_le_mul_left _ (by omega)
 omega
theorem U62.moved(h:U62 tops parts under bottom)(t0:0<tops.length)(n:Nat){s:Rat}(hs:s = -(Za4 (qIc tops parts) (bottom*qEh parts))):qLq s (qIf tops parts bottom under n)=(qI0 (cenT tops (qEh parts) (qIc tops parts)) parts under (bottom*qEh parts) n).map qCs:=by
 have p0:=(h.tot t0).1
 rw [qAix (by unfold cenT;rw [Za6];exact h.l) (Int.mul_pos h.b0 p0) h.u0]
 refine qC9 (by rw [qO1,qCd,qCd]) λk => ?_
 by_cases hk:k<n
 ·rw [qAar (by rw [qCd];exact hk),qDz hk,qJ8 (g:=qEn (qDr tops parts bottom under)) (n:=n) (λi hi=>qDz hi) k 0 (by omega),qMs,qAda h.b0 p0 hs k]
 ·rw [qAk (by rw [qO1,qCd];omega),qAk (by rw [qCd];omega)]
theorem U62.dsz(h:U62 tops parts under bottom)(t0:0<tops.length)(hn:n<=9):∀ p,p∈qI0 (cenT tops (qEh parts) (qIc tops parts)) parts under (bottom*qEh parts) n->SzP 355 p:=by
 have b0:=h.b0
 have u0:=h.u0
 have u1:=h.u1
 have lc:(cenT tops (qEh parts) (qIc tops parts)).length=tops.length:=Za6 ..
 obtain ⟨t1,ht1⟩:∃ t,t∈tops:=by cases tops with
  | nil=>simp at t0
  | cons t ts=>exact ⟨t,Zad⟩
 obtain ⟨_,c2,c3⟩:=h.csz t0 t1 ht1
 refine qYu (T:=35) (B:=35) (by rw [lc];exact h.l) (by rw [lc];exact Zaf h.l8 (by decide)) (λt ht => ?_) (λp hp => ?_) c2 c3 h.u0 (show _<4096 by omega) hn (by decide) (by decide)
 ·obtain ⟨x,hx,rfl⟩:=List.mem_map.mp ht
  exact (h.csz t0 x hx).1
 ·obtain ⟨h1,h2⟩:=h.p p hp
  show p.natAbs<1048576
  omega
end
end MR
namespace MR
open PySem PySem.Spec PyProof.Rows L2
def qBq(cs:List Str):FSp:=λds P _=>∃ d as n,ds=[d]/\qAcn n d as/\n<=100000/\(as.length=1\/coef as 0=0)/\P (.bl true)
abbrev xt62:XTab:=[("NoMean","NoMean",true)]
def qGi(K:W.Frag)(cs:List Str):TS:=
 (tSeq (tAsg (tC (.bl false)) (gName 1))
 (tSeq (λD=>(λW=>(tDrop (tCallSD (lift K (qD5 cs)) [] (WE W) (tCons (tVar 0) tNil)))) (wOnly K (.ref (He.ga K "NoMean")) (λa cls d=>(tAsg (tC (.bl true)) (gName 1))) (λ_ _ _ _=>False) D) D)
 (tRet (tVar 1))))
def qHl(cs:List Str)(XT:XTab):FS:=
 (qBf (qDo 1 (fC (.bl false)))
 (qBf (fTry XT "NoMean" 1 (qAbx (qJn (qD5 cs) [] (qAc (qAd 0) qAl))) (fC (.bl true)))
 (qEz (qAd 1))))
theorem qTj{K:W.Frag}{cs:List Str}{XT:XTab}(T:KF K cs)(XO:XOk K XT)(IX:IOk K XT)(hRa:("Ratio":Str)∈cs):SS K Ta [] [] [] [] (λ_=>E0) (qGi K cs) (qHl cs XT):=
 (qAi (ow1:=[]) (qBe (by decide) (by decide) qSp)
 (qAi (ow1:=[]) (qAoj XO (by decide) (λW=>(qAmn (by decide) (qAf5 Lift.refl qAn (qAb (qAa (by decide)) qAe)))) qSp)
 (qBa (by decide) (qAa (by decide)))))
def qRz(cs:List Str):FS:=
 (qEz (qNe (qAs qC3 [] (qAc (qAs (qD5 cs) [] (qAc (qAs qCe [] (qAc (qAd 8) qAl)) qAl)) (qAc (qAd 12) qAl))) (qAs (qBq cs) [] (qAc (fOp oCat (qKd (qAc (fC (.int 0)) qAl)) (fSl (qAs qCe [] (qAc (qAd 8) qAl)) (qW7 (fC (.int 1))) qI2)) qAl))))
def qR4(cs:List Str):FS:=
 qBf (qDo 12 (qAs qOn [] (qAc (fLc (fItL (qAd 3)) (qB1 13) qMd (fOp qRl (fOp qDa (qAd 13) (qAd 10)) (qAd 11)) [13]) (qAc (qAd 4) (qAc (qAd 6) (qAc (fOp qDa (qAd 2) (qAd 10)) (qAc (qAd 7) qAl))))))) (qRz cs)
def qSe(cs:List Str):FS:=
 qBf (qDo 11 (fLs oSum (qAc (fLc (qDq (qAc (fLs qH8 (qAc (qAd 3) qAl)) qAl)) (qB1 16) qMd (fOp qDa (fOp qCc (qAd 4) (qAd 16)) (fOp qCc (qAd 3) (qAd 16))) [16]) qAl))) (qR4 cs)
def qNs(cs:List Str):FS:=
 qBf (qDo 10 (fLs oSum (qAc (qAd 4) qAl))) (qSe cs)
def qPv(cs:List Str):FS:=
 qBf (qGz (fOr (fB (fOp oEq (qAd 7) (fC (.int 1)))) (qMa (fTru (qAd 3)))) (qEz (qNe (qAs (qBq cs) [] (qAc (qAs qCe [] (qAc (qAd 8) qAl)) qAl)) (qAs (qBq cs) [] (qAc (fOp oRep (qKd (qAc (fC (.int 0)) qAl)) (qAd 7)) qAl)))) qC6) (qNs cs)
def qXx(cs:List Str):FS:=
 qBf (qIk (fItL (qKd (qAc (qAd 8) (qAc (qAs qEq [] (qAc (qAd 8) (qAc (qAs qOd [] (qAc (qAd 0) (qAc (fC (.int 1)) qAl))) qAl))) qAl)))) (qB1 9) (qBf (qDo 14 (qAs qCe [] (qAc (qAd 9) qAl)))
 (qYe (qG1 cs) 15 12 5 (qAc (qAd 14) qAl) (qAs qE3 [] (qAc (qAd 9) qAl)) (fOr (qMa (fB (qQk cs (.ty "list") (qAd 15)))) (fB (fOp oNe (fLs qH8 (qAc (qAd 15) qAl)) (qAd 7)))) (qAc (qAd 7) qAl) (qMa (fB (qAs qC3 [] (qAc (fOp qCc (qAd 15) (qAd 5)) (qAc (fOp qCc (qAd 12) (qAd 5)) qAl))))) (fAnd (fB (fOp oEqD (qAd 9) (qAd 8))) (fB (fOp oGt (fLs qH8 (qAc (fLc (fItL (fOp qCc (qAd 12) (qAd 5))) (qB1 17) (fB (fOp oLt (fOp qGu (qAd 17) (fC (.int 0))) (fC (.int 0)))) (qAd 17) [17]) qAl)) (fC (.int 0)))))
 (qGz (fOr (qMa (fB (qAs qC3 [] (qAc (qAd 14) (qAc (qAd 9) qAl))))) (fB (fOp oNe (fLs qH8 (qAc (fOp qCc (qAs (qG1 cs) [] (qAc (fLs qO5 (qAc (qAd 14) qAl)) qAl)) (fC (.int 0))) qAl)) (qAd 7)))) (qEz (fC (.bl false))) qC6)))) (qPv cs)
def qYz(cs:List Str):FS:=
 qBf (qDo 8 (qAs qOn [] (qAc (qAd 3) (qAc (qAd 4) (qAc (qAd 6) (qAc (qAd 2) (qAc (qAd 7) qAl))))))) (qXx cs)
def qXs(cs:List Str):FS:=
 qBf (qDo 7 (fOp qDs (fC (.int 1)) (fOp qFv (fLs qE8 (qAc (fOp qCc (qAd 1) (fC (.int 4))) qAl)) (fC (.int 9))))) (qYz cs)
def qZc(cs:List Str):FS:=
 qBf (qDo 6 (fOp qDs (fC (.int 1)) (fOp qFv (fLs qE8 (qAc (fOp qCc (qAd 1) (fC (.int 3))) qAl)) (fC (.int 60))))) (qXs cs)
def qXg(cs:List Str):FS:=
 qBf (qIk (qDq (qAc (fOp qFv (fLs qE8 (qAc (fOp qCc (qAd 1) (fC (.int 2))) qAl)) (fC (.int 6))) qAl)) (qB1 5) (qBf (qDo 13 (fOp qFv (fLs qE8 (qAc (fOp qCc (qAd 1) (fOp qDs (fC (.int 5)) (fOp qDa (fC (.int 2)) (qAd 5)))) qAl)) (fOp qDs (qAd 2) (fC (.int 1)))))
 (qGz (fB (fBr [4,3] (fOp qAfu (qAd 13) (qAd 3)))) (qBf (qPc 3 (qAd 13))
 (qPc 4 (fOp qDs (fC (.int 1)) (fOp qFv (fLs qE8 (qAc (fOp qCc (qAd 1) (fOp qDs (fC (.int 6)) (fOp qDa (fC (.int 2)) (qAd 5)))) qAl)) (fC (.int 1000)))))) qC6))) (qZc cs)
def qYv(cs:List Str):FS:=
 qBf (qZ7 4 (qKd qAl)) (qXg cs)
def qQ7(cs:List Str):FS:=
 qBf (qZ7 3 (qKd qAl)) (qYv cs)
def qXf(cs:List Str):FS:=
 qBf (qDo 2 (fOp qDs (fC (.int 1)) (fOp qFv (fLs qE8 (qAc (fOp qCc (qAd 1) (fC (.int 0))) qAl)) (fOp qCc (qKd (qAc (fC (.int 6)) (qAc (fOp oPow (fC (.int 10)) (fC (.int 6))) qAl))) (fOp qFv (fLs qE8 (qAc (fOp qCc (qAd 1) (fC (.int 1))) qAl)) (fC (.int 2))))))) (qQ7 cs)
def qP7(cs:List Str):FS:=
 qBf (qDo 1 (qAs qMn [] (qAc (qAs qOd [] (qAc (qAd 0) (qAc (fC (.int 0)) qAl))) (qAc (fC (.int 20)) (qAc (fOp oPow (fC (.int 10)) (fC (.int 12))) qAl))))) (qXf cs)
def qAdn(K:W.Frag)(cs:List Str):TS:=
 (tSeq (tAsg (tCall (lift K qMn) [] E0 (tCons (tCall (lift K qOd) [] E0 (tCons (tVar 0) (tCons (tC (.int 0)) tNil))) (tCons (tC (.int 20)) (tCons (tOp qVo (tC (.int 10)) (tC (.int 12))) tNil)))) (gName 1))
 (tSeq (tAsg (tOp qEc (tC (.int 1)) (tOp qFn (tCB qFm (tCons (tOp (rIxL K) (tVar 1) (tC (.int 0))) tNil)) (tOp (rIxL K) (tLst (tCons (tC (.int 6)) (tCons (tOp qVo (tC (.int 10)) (tC (.int 6))) tNil))) (tOp qFn (tCB qFm (tCons (tOp (rIxL K) (tVar 1) (tC (.int 1))) tNil)) (tC (.int 2)))))) (gName 2))
 (tSeq (tAsg (tLst tNil) (gName 3))
 (tSeq (tAsg (tLst tNil) (gName 4))
 (tSeq (tFor (iRng1 (tCons (tOp qFn (tCB qFm (tCons (tOp (rIxL K) (tVar 1) (tC (.int 2))) tNil)) (tC (.int 6))) tNil)) (gName 5) (tSeq (tAsg (tOp qFn (tCB qFm (tCons (tOp (rIxL K) (tVar 1) (tOp qEc (tC (.int 5)) (tOp qCg (tC (.int 2)) (tVar 5)))) tNil)) (tOp qEc (tVar 2) (tC (.int 1)))) (gName 13))
 (tIfS (tTest (tOp (L2.rIn K true) (tVar 13) (tVar 3))) (tSeq (tDrop (tBM K "list" rAppend (tVar 3) (tCons (tVar 13) tNil)))
 (tDrop (tBM K "list" rAppend (tVar 4) (tCons (tOp qEc (tC (.int 1)) (tOp qFn (tCB qFm (tCons (tOp (rIxL K) (tVar 1) (tOp qEc (tC (.int 6)) (tOp qCg (tC (.int 2)) (tVar 5)))) tNil)) (tC (.int 1000)))) tNil)))) tNext)))
 (tSeq (tAsg (tOp qEc (tC (.int 1)) (tOp qFn (tCB qFm (tCons (tOp (rIxL K) (tVar 1) (tC (.int 3))) tNil)) (tC (.int 60)))) (gName 6))
 (tSeq (tAsg (tOp qEc (tC (.int 1)) (tOp qFn (tCB qFm (tCons (tOp (rIxL K) (tVar 1) (tC (.int 4))) tNil)) (tC (.int 9)))) (gName 7))
 (tSeq (tAsg (tCall (lift K qOn) [] E0 (tCons (tVar 3) (tCons (tVar 4) (tCons (tVar 6) (tCons (tVar 2) (tCons (tVar 7) tNil)))))) (gName 8))
 (tSeq (tFor (iList K (tLst (tCons (tVar 8) (tCons (tCall (lift K qEq) [] E0 (tCons (tVar 8) (tCons (tCall (lift K qOd) [] E0 (tCons (tVar 0) (tCons (tC (.int 1)) tNil))) tNil))) tNil)))) (gName 9) (tSeq (tAsg (tCall (lift K qCe) [] E0 (tCons (tVar 9) tNil)) (gName 14))
 (tSeq (tAsg (tCall (qIe K (qG1 cs)) [] E0 (tCons (tVar 14) tNil)) (gName 15))
 (tSeq (tAsg (tCall (lift K qE3) [] E0 (tCons (tVar 9) tNil)) (gName 12))
 (tSeq (tIfS (tOr (tNot (tB (tCB (rIsi K) (tCons (tVar 15) (tCons (tC (.ty "list")) tNil))))) (tTest (tOp rNe (tCB (qFb K) (tCons (tVar 15) tNil)) (tVar 7)))) (tRet (tC (.bl false))) tNext)
 (tSeq (tFor (iRng1 (tCons (tVar 7) tNil)) (gName 5) (tSeq (tIfS (tNot (tB (tCall (lift K qC3) [] E0 (tCons (tOp (rIxL K) (tVar 15) (tVar 5)) (tCons (tOp (rIxL K) (tVar 12) (tVar 5)) tNil))))) (tRet (tC (.bl false))) tNext) (tIfS (tAnd (tTest (tOp (rEqD K) (tVar 9) (tVar 8))) (tTest (tOp rGt0 (tCB (qFb K) (tCons (tLc (iList K (tOp (rIxL K) (tVar 12) (tVar 5))) (gName 17) (tTest (tOp rLt0 (tOp (rIxT K) (tVar 17) (tC (.int 0))) (tC (.int 0)))) (tVar 17) [17]) tNil)) (tC (.int 0))))) (tRet (tC (.bl false))) tNext)))
 (tSeq (tDrop (tBM K "list" rAppend (tOp (rIxL K) (tVar 15) (tC (.int 0))) (tCons (tC .non) tNil)))
 (tIfS (tOr (tNot (tB (tCall (lift K qC3) [] E0 (tCons (tVar 14) (tCons (tVar 9) tNil))))) (tTest (tOp rNe (tCB (qFb K) (tCons (tOp (rIxL K) (tCall (qIe K (qG1 cs)) [] E0 (tCons (tCB (qAer K) (tCons (tVar 14) tNil)) tNil)) (tC (.int 0))) tNil)) (tVar 7)))) (tRet (tC (.bl false))) tNext))))))))
 (tSeq (tIfS (tOr (tTest (tOp rEq (tVar 7) (tC (.int 1)))) (tNot (qAen K (tVar 3)))) (tRet (tAndV (tCall (lift K (qBq cs)) [] E0 (tCons (tCall (lift K qCe) [] E0 (tCons (tVar 8) tNil)) tNil)) (tCall (lift K (qBq cs)) [] E0 (tCons (tOp rRep (tLst (tCons (tC (.int 0)) tNil)) (tVar 7)) tNil)))) tNext)
 (tSeq (tAsg (tCB (rSum K) (tCons (tVar 4) tNil)) (gName 10))
 (tSeq (tAsg (tCB (rSum K) (tCons (tLc (iRng1 (tCons (tCB (qFb K) (tCons (tVar 3) tNil)) tNil)) (gName 16) tYes (tOp qCg (tOp (rIxL K) (tVar 4) (tVar 16)) (tOp (rIxL K) (tVar 3) (tVar 16))) [16]) tNil)) (gName 11))
 (tSeq (tAsg (tCall (lift K qOn) [] E0 (tCons (tLc (iList K (tVar 3)) (gName 13) tYes (tOp qOa (tOp qCg (tVar 13) (tVar 10)) (tVar 11)) [13]) (tCons (tVar 4) (tCons (tVar 6) (tCons (tOp qCg (tVar 2) (tVar 10)) (tCons (tVar 7) tNil)))))) (gName 12))
 (tRet (tAndV (tCall (lift K qC3) [] E0 (tCons (tCall (lift K (qD5 cs)) [] E0 (tCons (tCall (lift K qCe) [] E0 (tCons (tVar 8) tNil)) tNil)) (tCons (tVar 12) tNil))) (tCall (lift K (qBq cs)) [] E0 (tCons (tOp rCat (tLst (tCons (tC (.int 0)) tNil)) (tSl (rSlL K) (tCall (lift K qCe) [] E0 (tCons (tVar 8) tNil)) (tPart (tC (.int 1))) tNoPart)) tNil)))))))))))))))))
theorem qAcy{K:W.Frag}{cs:List Str}(T:KF K cs)(hRa:("Ratio":Str)∈cs):SS K Ta [] [] [] [] (λ_=>E0) (qAdn K cs) (qP7 cs):=
 (qAi (ow1:=[]) (qBe (by decide) (by decide) (qAr Lift.refl qAn (qAb (qAr Lift.refl qAn (qAb (qAa (by decide)) (qAb qAg qAe))) (qAb qAg (qAb (qAf (λ_=>qO3) qAg qAg) qAe)))))
 (qAi (ow1:=[]) (qBe (by decide) (by decide) (qAf (λ_=>qCf) qAg (qAf (λ_=>qDv) (qB7 (λ_=>qDn) (qAb (qAf (λ_=>qA2) (qAa (by decide)) qAg) qAe)) (qAf (λ_=>qA2) (qJ5 (qAb qAg (qAb (qAf (λ_=>qO3) qAg qAg) qAe))) (qAf (λ_=>qDv) (qB7 (λ_=>qDn) (qAb (qAf (λ_=>qA2) (qAa (by decide)) qAg) qAe)) qAg)))))
 (qAi (ow1:=[3]) (qLp (by decide) (by decide) (qM5 qAe))
 (qAi (ow1:=[4,3]) (qLp (by decide) (by decide) (qM5 qAe))
 (qAi (ow1:=[4,3]) (qG2 (by decide) (qEt (qAb (qAf (λ_=>qDv) (qB7 (λ_=>qDn) (qAb (qAf (λ_=>qA2) (qAa (by decide)) qAg) qAe)) qAg) qAe)) (qCr (by decide)) (qAi (ow1:=[4,3]) (qBe (by decide) (by decide) (qAf (λ_=>qDv) (qB7 (λ_=>qDn) (qAb (qAf (λ_=>qA2) (qAa (by decide)) (qAf (λ_=>qCf) qAg (qAf (λ_=>qA9) qAg (qAa (by decide))))) qAe)) (qAf (λ_=>qCf) (qAa (by decide)) qAg)))
 (qEd (by decide) (qCl (qAnt (qAf (λ_=>qAkw) (qAa (by decide)) (qAa (by decide))))) (qAi (ow1:=[4,3]) (qLg (by decide) (by decide) (qAa (by decide)))
 (qLg (by decide) (by decide) (qAf (λ_=>qCf) qAg (qAf (λ_=>qDv) (qB7 (λ_=>qDn) (qAb (qAf (λ_=>qA2) (qAa (by decide)) (qAf (λ_=>qCf) qAg (qAf (λ_=>qA9) qAg (qAa (by decide))))) qAe)) qAg)))) (qBd (by decide)))))
 (qIw (ow1:=[]) (by decide) (qAi (ow1:=[]) (qBe (by decide) (by decide) (qAf (λ_=>qCf) qAg (qAf (λ_=>qDv) (qB7 (λ_=>qDn) (qAb (qAf (λ_=>qA2) (qAa (by decide)) qAg) qAe)) qAg)))
 (qAi (ow1:=[]) (qBe (by decide) (by decide) (qAf (λ_=>qCf) qAg (qAf (λ_=>qDv) (qB7 (λ_=>qDn) (qAb (qAf (λ_=>qA2) (qAa (by decide)) qAg) qAe)) qAg)))
 (qAi (ow1:=[]) (qBe (by decide) (by decide) (qAr Lift.refl qAn (qAb (qAa (by decide)) (qAb (qAa (by decide)) (qAb (qAa (by decide)) (qAb (qAa (by decide)) (qAb (qAa (by decide)) qAe)))))))
 (qAi (ow1:=[]) (qG2 (by decide) (qPk (qJ5 (qAb (qAa (by decide)) (qAb (qAr Lift.refl qAn (qAb (qAa (by decide)) (qAb (qAr Lift.refl qAn (qAb (qAa (by decide)) (qAb qAg qAe))) qAe))) qAe)))) (qCr (by decide)) (qAi (ow1:=[]) (qBe (by decide) (by decide) (qAr Lift.refl qAn (qAb (qAa (by decide)) qAe)))
 (qAhe (by decide) (by decide) (qAb (qAa (by decide)) qAe) (qAr Lift.refl qAn (qAb (qAa (by decide)) qAe)) (qNo (qFc (qL1 (qG0 (c:=(.ty "list")) T.toKT (qAa (by decide))))) (qCl (qAf (λ_=>qAl2) (qB7 (λ_=>qD0) (qAb (qAa (by decide)) qAe)) (qAa (by decide))))) (qAb (qAa (by decide)) qAe) (qFc (qL1 (qAr Lift.refl qAn (qAb (qAf (λ_=>qA2) (qAa (by decide)) (qAa (by decide))) (qAb (qAf (λ_=>qA2) (qAa (by decide)) (qAa (by decide))) qAe))))) (qAif (qCl (qAf (λ_=>qAo6) (qAa (by decide)) (qAa (by decide)))) (qCl (qAf (λ_=>qAdt) (qB7 (λ_=>qD0) (qAb (SF.se (qOm (by decide) (by decide) (qPk (qAf (λ_=>qA2) (qAa (by decide)) (qAa (by decide)))) (qCr (by decide)) (qCl (qAf (λ_=>qAmm) (qAf (λ_=>qDj) (qAa (by decide)) qAg) qAg)) (qAa (by decide)))) qAe)) qAg)))
 (qEd (by decide) (qNo (qFc (qL1 (qAr Lift.refl qAn (qAb (qAa (by decide)) (qAb (qAa (by decide)) qAe))))) (qCl (qAf (λ_=>qAl2) (qB7 (λ_=>qD0) (qAb (qAf (λ_=>qA2) (qAr qZ0 qAn (qAb (qB7 (λ_=>qAhp) (qAb (qAa (by decide)) qAe)) qAe)) qAg) qAe)) (qAa (by decide))))) (qBa (by decide) qSp) (qBd (by decide))))))
 (qAi (ow1:=[]) (qEd (by decide) (qNo (qCl (qAf (λ_=>qPt) (qAa (by decide)) qAg)) (qFc (qYm (qAa (by decide))))) (qBa (by decide) (qKr (qAr Lift.refl qAn (qAb (qAr Lift.refl qAn (qAb (qAa (by decide)) qAe)) qAe)) (qAr Lift.refl qAn (qAb (qAf (λ_=>qAot) (qJ5 (qAb qAg qAe)) (qAa (by decide))) qAe)))) (qBd (by decide)))
 (qAi (ow1:=[]) (qBe (by decide) (by decide) (qB7 (λ_=>qAe2) (qAb (qAa (by decide)) qAe)))
 (qAi (ow1:=[]) (qBe (by decide) (by decide) (qB7 (λ_=>qAe2) (qAb (SF.se (qOm (by decide) (by decide) (qEt (qAb (qB7 (λ_=>qD0) (qAb (qAa (by decide)) qAe)) qAe)) (qCr (by decide)) qJs (qAf (λ_=>qA9) (qAf (λ_=>qA2) (qAa (by decide)) (qAa (by decide))) (qAf (λ_=>qA2) (qAa (by decide)) (qAa (by decide)))))) qAe)))
 (qAi (ow1:=[]) (qBe (by decide) (by decide) (qAr Lift.refl qAn (qAb (SF.se (qOm (by decide) (by decide) (qPk (qAa (by decide))) (qCr (by decide)) qJs (qAf (λ_=>qJq) (qAf (λ_=>qA9) (qAa (by decide)) (qAa (by decide))) (qAa (by decide))))) (qAb (qAa (by decide)) (qAb (qAa (by decide)) (qAb (qAf (λ_=>qA9) (qAa (by decide)) (qAa (by decide))) (qAb (qAa (by decide)) qAe)))))))
 (qBa (by decide) (qKr (qAr Lift.refl qAn (qAb (qAr Lift.refl qAn (qAb (qAr Lift.refl qAn (qAb (qAa (by decide)) qAe)) qAe)) (qAb (qAa (by decide)) qAe))) (qAr Lift.refl qAn (qAb (qAf (λ_=>qAd5) (qJ5 (qAb qAg qAe)) (SF.se (qAow (qAr Lift.refl qAn (qAb (qAa (by decide)) qAe)) (qAeh qAg) qAei))) qAe))))))))))))))))))
abbrev segB(cs:List Str):FS:=
 (qBf (qDo 14 (qAs qCe [] (qAc (qAd 9) qAl)))
 (qYe (qG1 cs) 15 12 5 (qAc (qAd 14) qAl) (qAs qE3 [] (qAc (qAd 9) qAl)) (fOr (qMa (fB (qQk cs (.ty "list") (qAd 15)))) (fB (fOp oNe (fLs qH8 (qAc (qAd 15) qAl)) (qAd 7)))) (qAc (qAd 7) qAl) (qMa (fB (qAs qC3 [] (qAc (fOp qCc (qAd 15) (qAd 5)) (qAc (fOp qCc (qAd 12) (qAd 5)) qAl))))) (fAnd (fB (fOp oEqD (qAd 9) (qAd 8))) (fB (fOp oGt (fLs qH8 (qAc (fLc (fItL (fOp qCc (qAd 12) (qAd 5))) (qB1 17) (fB (fOp oLt (fOp qGu (qAd 17) (fC (.int 0))) (fC (.int 0)))) (qAd 17) [17]) qAl)) (fC (.int 0)))))
 (qGz (fOr (qMa (fB (qAs qC3 [] (qAc (qAd 14) (qAc (qAd 9) qAl))))) (fB (fOp oNe (fLs qH8 (qAc (fOp qCc (qAs (qG1 cs) [] (qAc (fLs qO5 (qAc (qAd 14) qAl)) qAl)) (fC (.int 0))) qAl)) (qAd 7)))) (qEz (fC (.bl false))) qC6)))
abbrev qApn:FS:=
 (qBf (qDo 13 (fOp qFv (fLs qE8 (qAc (fOp qCc (qAd 1) (fOp qDs (fC (.int 5)) (fOp qDa (fC (.int 2)) (qAd 5)))) qAl)) (fOp qDs (qAd 2) (fC (.int 1)))))
 (qGz (fB (fBr [4,3] (fOp qAfu (qAd 13) (qAd 3)))) (qBf (qPc 3 (qAd 13))
 (qPc 4 (fOp qDs (fC (.int 1)) (fOp qFv (fLs qE8 (qAc (fOp qCc (qAd 1) (fOp qDs (fC (.int 6)) (fOp qDa (fC (.int 2)) (qAd 5)))) qAl)) (fC (.int 1000)))))) qC6))
theorem qTo{cs:List Str}(hR:("Ratio":Str)∈cs)(ds:List D)(P:D->Prop)(X:XP)(h:qBq cs ds P X):qHl cs xt62 (qF9 P X0) (qBb 2 ds):=by
 obtain ⟨d,as,n,rfl,hr,n1,hc,p⟩:=h
 simp_arith [qHl,fTry]
 refine ⟨d,as,n,rfl,hr,n1,λ_=>⟨.head _,p⟩,λh1 h2 => ?_⟩
 exact absurd hc (λz=>z.elim h1 h2)
def prY(p:Int × Int):PyData := .tuple [.int p.1, .int p.2]
theorem qAje:∀ ps:List (Int × Int),pyDs (qEg ps)=some (ps.map prY)
 | []=>rfl
 | p :: ps=>by
  show pyDs (prT p :: qEg ps)=_
  rw [pyDs,qAje ps]
  rfl
theorem qAa7:∀ ps:List (Int × Int),PyData.canLayAll0 (ps.map prY)=true/\PyData.depthAll (ps.map prY)<=2
 | []=>⟨rfl,by decide⟩
 | p :: ps=>by
  obtain ⟨h1,h2⟩:=qAa7 ps
  have g1:(prY p).canLay0=true:=rfl
  have g2:(prY p).depth<=2:=by simp [prY,PyData.depth,PyData.depthAll]
  refine ⟨?_, ?_⟩
  ·rw [List.map_cons,PyData.canLayAll0,g1,h1];rfl
  ·rw [List.map_cons,PyData.depthAll];omega
theorem qAjf:∀ (ps qs:List (Int × Int)),PyData.eqvAll (ps.map prY) (qs.map prY)=true->ps=qs
 | [],[],_=>rfl
 | [],q :: qs,h=>by simp [PyData.eqvAll] at h
 | p :: ps,[],h=>by simp [PyData.eqvAll] at h
 | p :: ps,q :: qs,h=>by
  rw [List.map_cons,List.map_cons,PyData.eqvAll,Bool.and_eq_true] at h
  rw [qAjf ps qs h.2]
  have h1:=h.1
  unfold prY at h1
  simp only [PyData.eqv,PyData.eqvAll,Bool.and_eq_true,beq_iff_eq,and_true] at h1
  rw [Prod.ext h1.1 h1.2]
theorem eq62{ps qs:List (Int × Int)}{P:D->Prop}{X:XP}(p:∀ b:Bool,(b=true->ps=qs)->P (.bl b)):oEqD (.lst (qEg ps)) (.lst (qEg qs)) P X:=by
 have e:∀ ps,pyD (.lst (qEg ps))=some (.list (ps.map prY)):=λps=>by rw [pyD,qAje]
 have sh:∀ ps:List (Int × Int),SeqAt.shaped (.list (ps.map prY))=true:=λps=>by
  obtain ⟨h1,h2⟩:=qAa7 ps
  unfold SeqAt.shaped
  rw [PyData.canLay0,h1,PyData.depth,decide_eq_true (by omega)]
  rfl
 refine ⟨_,_,e ps,e qs,sh ps,sh qs,p _ λh => ?_⟩
 rw [PyData.eqv] at h
 exact qAjf ps qs h
theorem qAiy{ρ0:Env}{P:D->Prop}(hρ:ρ0.length=18):∀ ps:List (Int × Int),(∀ p,p∈ps->0<=p.1)->P (.lst [])->qUj (qB1 17) (fB (fOp oLt (fOp qGu (qAd 17) (fC (.int 0))) (fC (.int 0)))) (qAd 17) ρ0 P (qEg ps) []
 | [],_,p=>p
 | q :: ps,h,p=>by
  show qUj _ _ _ ρ0 P (prT q :: qEg ps) []
  unfold qUj
  have g:(ρ0.set 17 (some (prT q)))[17]?=some (some (prT q)):=by rw [List.getElem?_set,if_pos rfl,if_pos (by omega)]
  have q0:=h q Zad
  simp_arith [prT]
  refine ⟨_,g,⟨_,rfl⟩, ?_⟩
  simp_arith [prT,ixt0,oLt]
  rw [decide_eq_false (Int.not_lt.mpr q0),if_neg (by decide)]
  exact qAiy hρ ps (λr hr=>h r (Zab _ hr)) p
theorem qAoc{cs:List Str}(hR:("Ratio":Str)∈cs){ps gd:List (Int × Int)}{n:Nat}(hz:∀ p,p∈ps->SzP 355 p)(l:ps.length=n)(n0:0<n)(n9:n<=9)(hnn:ps=gd->∀ k,k<n->∀ p,p∈tbP ps k->0<=p.1){FD:FEnds}
  {v0 v1 v2 v3 v4 v5 v6 v10 v11 v12 v13 v14 v15 v16 v17:Option D} (fin:∀ v5 v12 v14 v15,FD.nx [v0,v1,v2,v3,v4,v5,v6,some (.int (n:Int)),some (.lst (qEg gd)),some (.lst (qEg ps)),v10,v11,v12,v13,v14,v15,v16,v17]) :
  segB cs FD [v0,v1,v2,v3,v4,v5,v6,some (.int (n:Int)),some (.lst (qEg gd)),some (.lst (qEg ps)),v10,v11,v12,v13,v14,v15,v16,v17]:=by
 have qn:∀ p,p∈ps->p.2≠0:=λq hq=>Int.ne_of_gt (hz q hq).pos
 have mz:SzL 355 (ps.map qCs):=λq hq=>by obtain ⟨p,hp,rfl⟩:=List.mem_map.mp hq;exact qAe6 (hz p hp)
 simp_arith [segB]
 refine ⟨ps,rfl,qn,by omega, ?_⟩
 simp_arith [qYe]
 refine ⟨by decide,_,_,ps.map qCs,355,rfl,rfl,qF4 _,by rw [Za6];omega,by rw [Za6];omega,mz,by decide,λd0 rest ed => ?_⟩
 have el:(ps.map qCs).length=n:=by rw [Za6];exact l
 rw [el] at ed ⊢
 refine ⟨?_,ps,rfl,hz,by omega,by omega,⟨_,rfl⟩, ?_⟩
 ·obtain ⟨rest',er⟩:∃ rest,dfT (ps.map qCs) n = .lst (qCy (dfL (ps.map qCs) 0)) :: rest:=⟨_,by unfold dfT;rw [show n=(n - 1)+1 by omega,List.range_succ_eq_map,List.map_cons]⟩
  rw [er] at ed
  cases ed
  rw [qE6,qKw,el]
  omega
 rw [l]
 simp_arith [isD,tyN,qAd6]
 refine ⟨true,by rw [if_pos (by decide)];exact congrArg some (by decide), ?_⟩
 rw [if_neg (by decide)]
 refine ⟨by simp, ?_⟩
 refine ⟨n,rfl,n0,by omega,λq hq => ?_, ?_⟩
 ·have g1:(dfT (ps.map qCs) n)[q]?=some (.lst (qCy (dfL (ps.map qCs) q))):=by unfold dfT;rw [Zae,List.getElem?_range hq];rfl
  have g2:(tbT ps n)[q]?=some (.lst (qEg (tbP ps q))):=by unfold tbT;rw [Zae,List.getElem?_range hq];rfl
  refine qDy rfl g1 (qDy rfl g2 ?_)
  refine ⟨tbP ps q,4000, ?_,qAii hz (by omega) (by omega),by decide, ?_, ?_⟩
  ·rw [qWd hz (by omega) (by omega)]
  ·have:=congrArg List.length (qWd hz (by omega) (show q<ps.length by omega))
   rw [Za6,qKw,el] at this
   omega
  simp_arith [Bool.not_true]
  refine eq62 λb hb => ?_
  cases b with
  | false=>
   simp_arith []
  | true=>
   simp_arith [fLc,fItL]
   refine qDy rfl g2 ⟨_,rfl, ?_⟩
   refine qAiy rfl _ (hnn (hb rfl) q hq) ?_
   simp_arith [oGt]
   rfl
 refine ⟨ps,355,rfl,hz,by decide,by omega, ?_⟩
 simp_arith [Bool.not_true]
 refine ⟨_,_,ps.map qCs,355,rfl,rfl,qF4 _,by omega,by omega,mz,by decide, ?_⟩
 have g1:(dfT (ps.map qCs) (ps.map qCs).length)[0]?=some (.lst (qCy (dfL (ps.map qCs) 0))):=by rw [el];unfold dfT;rw [Zae,List.getElem?_range n0];rfl
 simp_arith []
 refine qDy (k:=0) rfl g1 ?_
 simp_arith [qE6,qKw]
 rw [el,if_neg (by rw [decide_eq_true (show ((n - 0:Nat):Int)=(n:Int) by omega)];decide)]
 exact fin _ _ _ _
theorem qAq7:(10:Int) ^ Int.toNat 6=1000000:=by decide
structure Tp62 (T W:List Int) (B:Int) (k:Nat):Prop where
 l:T.length=W.length
 k:T.length<=k
 t:∀ t,t∈T->0<=t/\t<=B
 p:∀ p,p∈W->0<p/\p<=1000
theorem qWl{FD:FEnds}{v0:Option D}{es:List Int}{B:Int}{b:Int}(el:es.length=20)(er:InR b es)(b0:0<B)(fin:∀ T W v5 v13,Tp62 T W B 5->FD.nx [v0,some (.lst (qDl es)),some (.int B),some (.lst (qDl T)),some (.lst (qDl W)),v5,none,none,none,none,none,none,none,v13,none,none,none,none]) :
  ∀ (r j:Nat) (T W:List Int) (v5 v13:Option D),j+r<=5->Tp62 T W B j->qDk (qB1 5) qApn FD (qIl (j:Int) r) [v0,some (.lst (qDl es)),some (.int B),some (.lst (qDl T)),some (.lst (qDl W)),v5,none,none,none,none,none,none,none,v13,none,none,none,none]
 | 0,j,T,W,v5,v13,hj,h=>fin T W _ _ ⟨h.l,Zaf h.k (by omega),h.t,h.p⟩
 | r+1,j,T,W,v5,v13,hj,h=>by
  rw [qE1]
  unfold qDk qApn
  have i5:(5:Int)+2*(j:Int)=((5+2*j:Nat):Int):=by omega
  have i6:(6:Int)+2*(j:Int)=((6+2*j:Nat):Int):=by omega
  have lk:=h.k
  simp_arith []
  refine ⟨qId (by omega) (by omega), ?_⟩
  rw [i5]
  refine qFd er (by omega) λa a0 a1 => ?_
  simp_arith []
  obtain ⟨f0,f1⟩:=qPp (a:=a) (b:=B+1) (by omega)
  refine ⟨by omega,λx hx => ?_, ?_⟩
  ·have:x=4\/x=3:=by simpa using hx
   rcases this with rfl | rfl
   ·exact ⟨_,rfl⟩
   ·exact ⟨_,rfl⟩
  simp_arith [qAfu]
  refine ⟨_,T,rfl,rfl, ?_⟩
  simp_arith [D.noL]
  have nx:((j+1:Nat):Int)=(j:Int)+1:=by omega
  by_cases m:a.fmod (B+1)∈T
  ·rw [if_neg (by rw [decide_eq_true m];decide)]
   have:=qWl el er b0 fin r (j+1) T W (some (.int (j:Int))) (some (.int (a.fmod (B+1)))) (by omega) ⟨h.l,by omega,h.t,h.p⟩
   rw [nx] at this
   exact this
  ·rw [if_pos (by rw [decide_eq_false m];rfl)]
   have e:∀ (L:List Int) (q:Int),qDl L ++ [D.int q]=qDl (L ++ [q]):=λL q=>by unfold qDl;rw [List.map_append];rfl
   refine ⟨by rw [qFf];exact qBz (by omega),qId (by omega) (by omega), ?_⟩
   rw [i6]
   refine qFd er (by omega) λc c0 c1 => ?_
   obtain ⟨g0,g1⟩:=qPp (a:=c) (b:=1000) (by decide)
   refine ⟨by decide,by rw [qFf, ←h.l];exact qBz (by omega), ?_⟩
   rw [e,e]
   have:=qWl el er b0 fin r (j+1) (T ++ [a.fmod (B+1)]) (W ++ [1+c.fmod 1000]) (some (.int (j:Int))) (some (.int (a.fmod (B+1)))) (by omega) ⟨by rw [List.length_append,List.length_append,h.l];rfl,by rw [List.length_append];simp;omega,λt ht=>(List.mem_append.mp ht).elim (h.t t) λht=>by rw [Zai.mp ht];omega,λt ht=>(List.mem_append.mp ht).elim (h.p t) λht=>by rw [Zai.mp ht];omega⟩
   rw [nx] at this
   exact this
def qAhq(n:Nat):List D:=List.replicate n (D.int 0)
theorem qXk:∀ n,(List.replicate n [D.int 0]).flatten=qAhq n
 | 0=>rfl
 | n+1=>by
  rw [List.replicate_succ,List.flatten_cons,qXk n]
  rfl
theorem qS1:∀ n,qDf (qAhq n)=some (List.replicate n (0:Rat))
 | 0=>rfl
 | n+1=>by
  show qDf (D.int 0 :: qAhq n)=_
  simp only [qDf,numV,qS1 n]
  rfl
theorem qAq8{cs:List Str}(hRa:("Ratio":Str)∈cs)(ns:List Int)(hl:ns.length<=63):qP7 cs (qF9 yes X0) (some (.scr ns) :: List.replicate 17 none):=by
 simp_arith [qP7,List.replicate]
 refine ⟨ns,0,rfl,by decide,λv=>⟨⟨by decide,by decide,by decide⟩,_,20,_,rfl,by decide,by decide,by decide,λes el er => ?_⟩⟩
 have el:es.length=20:=el
 have rest:∀ B:Int,0<B->B<=1000000->qQ7 cs (qF9 yes X0) [some (.scr ns),some (.lst (qDl es)),some (.int B),none,none,none,none,none,none,none,none,none,none,none,none,none,none,none]:=by
  intro B b0 b1
  simp_arith [qQ7,qYv,qXg,qIk,qDq]
  refine ⟨by decide,Nat.zero_le _,by decide,Nat.zero_le _, ?_⟩
  refine qFd (i:=2) er (by omega) λa a0 a1 => ?_
  simp_arith []
  obtain ⟨f0,f1⟩:=qPp (a:=a) (b:=6) (by decide)
  refine ⟨by decide,by omega,by omega, ?_⟩
  refine qWl el er b0 (λT W v5 v13 hT => ?_) (a.fmod 6).toNat 0 [] [] none none (by omega) ⟨rfl,Za9 _,(λt ht=>by cases ht),(λt ht=>by cases ht)⟩
  simp_arith [qZc]
  refine qFd (i:=3) er (by omega) λu u0 u1 => ?_
  simp_arith []
  obtain ⟨g0,g1⟩:=qPp (a:=u) (b:=60) (by decide)
  refine ⟨by decide, ?_⟩
  simp_arith [qXs]
  refine qFd (i:=4) er (by omega) λz z0 z1 => ?_
  simp_arith []
  obtain ⟨k0,k1⟩:=qPp (a:=z) (b:=9) (by decide)
  refine ⟨by decide, ?_⟩
  obtain ⟨n,hn⟩:=Int.eq_ofNat_of_zero_le (show 0<=1+z.fmod 9 by omega)
  rw [hn]
  have n0:0<n:=by omega
  have n9:n<=9:=by omega
  generalize hU:1+u.fmod 60=U
  have hT:U62 T W U B:=⟨hT.l,hT.k,hT.t,hT.p,b0,b1,by omega,by omega⟩
  have l5:=hT.l8
  have gl:(qI0 T W U B n).length=n:=qL7 ..
  have gz:∀ p,p∈qI0 T W U B n->SzP 250 p:=hT.sz n9
  have gn:∀ q,q∈qI0 T W U B n->q.2≠0:=λq hq=>Int.ne_of_gt (gz q hq).pos
  have gv:=hT.val n
  have g60:(qI0 T W U B n).map qCs=qIf T W B U n:=gv
  have tc:0<T.length->(qI0 (cenT T (qEh W) (qIc T W)) W U (B*qEh W) n).map qCs=qLq (ctr (qIf T W B U n)) (qIf T W B U n)\/n<2:=λt0=>by
   by_cases n2:2<=n
   ·exact .inl (hT.moved t0 n (hT.cen t0 n2).2).symm
   ·exact .inr (by omega)
  simp_arith [qYz]
  refine ⟨T,W,U,B,n,rfl,hT.l,by omega,by omega,λt ht=>by obtain ⟨x,y⟩:=hT.t t ht;unfold I64;omega,by unfold I64;omega, ?_⟩
  simp_arith [qXx,qIk,fItL]
  refine ⟨ns,1,rfl,by decide,λc1 => ?_⟩
  refine ⟨_,_,250,rfl,by omega,by omega,by decide,gz,λqs ql qz => ?_⟩
  rw [gl] at ql
  have qz:∀ q,q∈qs->SzP 355 q:=qz
  refine ⟨by rw [sizeLine_eq];decide, ?_⟩
  have rest2:∀ v5 v9 v12 v14 v15,qPv cs (qF9 yes X0) [some (.scr ns),some (.lst (qDl es)),some (.int B),some (.lst (qDl T)),some (.lst (qDl W)),v5,some (.int U),some (.int (n:Int)),some (.lst (qEg (qI0 T W U B n))),v9,none,none,v12,v13,v14,v15,none,none]:=by
   intro v5 v9 v12 v14 v15
   have mz:SzL 250 (qIf T W B U n):=by
    rw [<-gv]
    exact λq hq=>by obtain ⟨p,hp,rfl⟩:=List.mem_map.mp hq;exact qAe6 (gz p hp)
   have vl:(qIf T W B U n).length=n:=qCd ..
   have ro:qAcn 250 (.lst (qCy (qIf T W B U n))) (qIf T W B U n):=⟨_,rfl,qF4 _,by omega,by omega,mz,by decide⟩
   have cont:¬ n=1->0<T.length->qNs cs (qF9 yes X0) [some (.scr ns),some (.lst (qDl es)),some (.int B),some (.lst (qDl T)),some (.lst (qDl W)),v5,some (.int U),some (.int (n:Int)),some (.lst (qEg (qI0 T W U B n))),v9,none,none,v12,v13,v14,v15,none,none]:=by
    intro n1 t0
    obtain ⟨c0,ce⟩:=hT.cen t0 (show 2<=n by omega)
    obtain ⟨p0,p1⟩:=hT.tot t0
    have mv:=hT.moved t0 n ce
    have dz:=hT.dsz t0 n9
    have is:=λk i (hk:k+i<n)=>hT.itrs t0 ce n9 hk
    have lc:(cenT T (qEh W) (qIc T W)).length=T.length:=Za6 ..
    simp_arith [qNs,oSum]
    refine ⟨W,rfl, ?_⟩
    simp_arith [qSe,fLc,qDq,qFf]
    refine ⟨by omega,by omega, ?_⟩
    rw [Int.toNat_natCast]
    refine qM0 (λd=>match d with | .int i=>D.int (W.getD i.toNat 0*T.getD i.toNat 0) | e=>e) _ [] (λdd hd Q q => ?_) (by simp only [qIl,Za6,List.length_range,List.length_nil];exact qBz (by omega)) ?_
    ·obtain ⟨j,hj,rfl⟩:=List.mem_map.mp hd
     have hj:=List.mem_range.mp hj
     simp only [qIa]
     simp_arith []
     rw [show (0:Int)+(j:Int)=((j:Nat):Int) by omega] at q ⊢
     have gt:T[j]?=some (T.getD j 0):=by rw [Zak,Za3 hj];rfl
     have gw:W[j]?=some (W.getD j 0):=by rw [Zak,Za3 (show j<W.length by rw [<-hT.l];exact hj)];rfl
     refine qDy rfl (qFr gw) (qDy rfl (qFr gt) ⟨?_,q⟩)
     have a1:=hT.t _ (List.mem_of_getElem? gt)
     have a2:=hT.p _ (List.mem_of_getElem? gw)
     exact qId (by omega) (by omega)
    have e1:([]:List D) ++ (qIl 0 T.length).map (λd=>match d with | .int i=>D.int (W.getD i.toNat 0*T.getD i.toNat 0) | e=>e)=qDl (qEx T W 1):=by
     rw [List.nil_append]
     show _=qDl ((Zag T.length).map λi=>W.getD i 0*T.getD i 0)
     unfold qIl qDl
     rw [List.map_map,List.map_map]
     refine List.map_congr_left λi _ => ?_
     show D.int (W.getD ((0:Int)+(i:Int)).toNat 0*T.getD ((0:Int)+(i:Int)).toNat 0)=D.int (W.getD i 0*T.getD i 0)
     rw [show ((0:Int)+(i:Int)).toNat=i by omega]
    rw [e1]
    simp_arith [oSum]
    refine ⟨_,rfl, ?_⟩
    obtain ⟨q0,q1⟩:=hT.fst
    have m1:B*qEh W<=1000000*5000:=Int.mul_le_mul b1 p1 (Int.le_of_lt p0) (by decide)
    have m0:0<B*qEh W:=Int.mul_pos b0 p0
    have ql:qIc T W=(qEx T W 1).sum:=rfl
    rw [<-ql]
    have qt:qEh W=W.sum:=rfl
    rw [<-qt]
    generalize qEh W=tt at *
    generalize qIc T W=ff at *
    simp_arith [qR4,fLc,fItL]
    refine qM0 (λd=>match d with | .int t=>D.int (t*tt - ff) | e=>e) _ [] (λdd hd Q q => ?_) (by rw [qFf];exact qBz (by simp only [List.length_nil];omega)) ?_
    ·obtain ⟨t,ht,rfl⟩:=List.mem_map.mp hd
     obtain ⟨t0',t1'⟩:=hT.t t ht
     simp only [qIa]
     simp_arith []
     exact ⟨qId (by omega) (by omega),q⟩
    have e2:([]:List D) ++ (qDl T).map (λd=>match d with | .int t=>D.int (t*tt - ff) | e=>e)=qDl (cenT T tt ff):=by
     rw [List.nil_append]
     unfold qDl cenT
     rw [List.map_map,List.map_map]
     rfl
    rw [e2]
    refine ⟨qId (by omega) (by omega), ?_⟩
    refine ⟨cenT T tt ff,W,U,B*tt,n,rfl,by rw [lc];exact hT.l,by omega,by omega,λt ht => ?_,by unfold I64;omega, ?_⟩
    ·obtain ⟨x,hx,rfl⟩:=List.mem_map.mp ht
     obtain ⟨x0,x1⟩:=hT.t x hx
     have y1:x*tt<=1000000*5000:=Int.mul_le_mul (by omega) p1 (Int.le_of_lt p0) (by decide)
     have y0:0<=x*tt:=Int.mul_nonneg x0 (Int.le_of_lt p0)
     unfold I64
     omega
    simp_arith [qRz]
    refine ⟨_,rfl,gn,by omega, ?_⟩
    rw [gv]
    refine ⟨_,_,250,rfl,ro,by decide,λhc => ?_,λ_ _=>⟨?_,λk i hk=>is k i (by rw [vl] at hk;exact hk), ?_⟩⟩
    ·rcases hc with hc | hc
     ·exact absurd (by rw [vl] at hc;exact hc) n1
     ·exact absurd hc c0
    ·rw [ce]
     exact ((qG3 (n:=40) (Int.ne_of_gt m0) (show _<1099511627776 by omega) (show _<1099511627776 by omega)).neg).mono (by decide)
    rw [mv]
    refine ⟨_,355,rfl,dz,by decide,by rw [qL7];omega, ?_⟩
    simp_arith [fSl]
    refine ⟨by rw [sizeLine_eq];decide,_,rfl,gn,by omega,_,rfl, ?_⟩
    have cd:=qX7 (qCy ((qI0 T W U B n).map qCs)) 1
    rw [show (((1:Nat):Nat):Int)=1 from rfl] at cd
    rw [cd,gv]
    have er:∀ L:List Rat,D.lst (D.int 0 :: (qCy L).drop 1)=D.lst (D.int 0 :: qCy (L.drop 1)):=λL=>by unfold qCy;rw [List.map_drop]
    rw [er]
    have nr:∀ L:List Rat,qDf (D.int 0 :: qCy L)=some (0 :: L):=λL=>by
     simp only [qDf,numV,qF4]
     rfl
    refine ⟨by rw [List.length_drop,qE6,vl,sizeLine_eq];omega,_,0 :: (qIf T W B U n).drop 1,250,rfl,⟨_,rfl,nr _,by rw [Za0];omega,by rw [Za0,List.length_drop,vl];omega,λq hq => ?_,by decide⟩,by decide, .inr rfl,rfl⟩
    rcases List.mem_cons.mp hq with rfl | hq
    ·exact qFz.mono (by decide)
    ·exact mz q (List.mem_of_mem_drop hq)
   have ref:(n=1\/T.length=0)->qCe [D.lst (qEg (qI0 T W U B n))] (λa=>qBq cs [a] (toB λc=>if c=true then 1<=sizeLine/\oRep (D.lst [D.int 0]) (D.int (n:Int)) (λa=>qBq cs [a] yes λx=>False) λx=>X0 x else yes (D.bl false)) λx=>False) λx=>False:=by
    intro hc
    refine ⟨_,rfl,gn,by omega, ?_⟩
    rw [gv]
    refine ⟨_,_,250,rfl,ro,by decide, ?_, ?_⟩
    ·rcases hc with hc | hc
     ·exact .inl (by rw [vl];exact hc)
     ·refine .inr ?_
      have:T=[]:=List.eq_nil_of_length_eq_zero hc
      subst this
      rw [qDz n0]
      rfl
    simp_arith [oRep]
    refine ⟨by rw [sizeLine_eq];decide,⟨by omega,by omega⟩,by rw [sizeLine_eq,Int.toNat_natCast];omega, ?_⟩
    rw [Int.toNat_natCast]
    have er:(List.replicate n [D.int 0]).flatten=qAhq n:=qXk n
    rw [er]
    exact ⟨_,(List.replicate n (0:Rat)),1,rfl,⟨_,rfl,qS1 n,by rw [List.length_replicate];exact n0,by rw [List.length_replicate];omega,(λq hq=>by rw [List.eq_of_mem_replicate hq];exact qFz),by decide⟩,by decide, .inr (by rw [qCt (show (List.replicate n (0:Rat))[0]?=some 0 by rw [List.getElem?_replicate,if_pos n0])]),rfl⟩
   simp_arith [qPv]
   by_cases n1:n=1
   ·rw [if_pos (decide_eq_true (show (n:Int)=1 by omega))]
    exact ref (.inl n1)
   ·rw [if_neg (by rw [decide_eq_false (show ¬ (n:Int)=1 by omega)];decide)]
    by_cases t0:0<T.length
    ·have he:(qDl T).isEmpty=false:=by cases T with | nil=>simp at t0 | cons a l=>rfl
     rw [he,if_neg (by decide)]
     exact cont n1 t0
    ·have:T=[]:=List.eq_nil_of_length_eq_zero (by omega)
     have he:(qDl T).isEmpty=true:=by rw [this];rfl
     rw [he,if_pos (by decide)]
     exact ref (.inr (by omega))
  unfold qDk
  show segB cs _ [some (.scr ns),some (.lst (qDl es)),some (.int B),some (.lst (qDl T)),some (.lst (qDl W)),v5,some (.int U),some (.int (n:Int)),some (.lst (qEg (qI0 T W U B n))),some (.lst (qEg (qI0 T W U B n))),none,none,none,v13,none,none,none,none]
  refine qAoc hRa (λp hp=>(gz p hp).mono (by decide)) gl n0 n9 (λ_ k hk=>hT.none n9 hk) λv5 v12 v14 v15 => ?_
  unfold qDk
  show segB cs _ [some (.scr ns),some (.lst (qDl es)),some (.int B),some (.lst (qDl T)),some (.lst (qDl W)),v5,some (.int U),some (.int (n:Int)),some (.lst (qEg (qI0 T W U B n))),some (.lst (qEg qs)),none,none,v12,v13,v14,v15,none,none]
  refine qAoc hRa qz ql n0 n9 (λe k hk=>by rw [e];exact hT.none n9 hk) λv5 v12 v14 v15 => ?_
  unfold qDk
  exact rest2 _ _ _ _ _
 simp_arith [qXf]
 refine qFd (i:=0) er (by omega) λa a0 a1 => ?_
 simp_arith [qAq7]
 refine ⟨⟨by decide,by decide,by decide⟩,by rw [sizeLine_eq];decide, ?_⟩
 refine qFd (i:=1) er (by omega) λb c0 c1 => ?_
 simp_arith []
 obtain ⟨f0,f1⟩:=qPp (a:=b) (b:=2) (by decide)
 refine ⟨by decide, ?_⟩
 refine ixT2 f0 f1 ?_ ?_
 ·simp_arith []
  obtain ⟨g0,g1⟩:=qPp (a:=a) (b:=6) (by decide)
  exact ⟨by decide,rest _ (by omega) (by omega)⟩
 ·simp_arith []
  obtain ⟨g0,g1⟩:=qPp (a:=a) (b:=1000000) (by decide)
  exact ⟨by decide,rest _ (by omega) (by omega)⟩
theorem qN7{K:W.Frag}{cs:List Str}(vs:List V)(H:Hp)(Q:VK)(E:XK)(h:(lift K (qBq cs)) vs H Q E):vs.length=1:=qA0 (λds P X h=>by unfold qBq at h;first | ((repeat (first | (obtain ⟨rfl,_⟩:=h;exact rfl) | obtain ⟨_,h⟩:=h));done) | (split at h <;> first | rfl | exact h.elim)) h
theorem qQt{K:W.Frag}{cs:List Str}(T:KF K cs)(XO:XOk K xt62)(IX:IOk K xt62)(hRa:("Ratio":Str)∈cs)(vs:List V)(H:Hp)(Q:VK)(E:XK)(h:(lift K (qBq cs)) vs H Q E):qGi K cs { nx:=λ_ H'=>Q .non H',rt:=Q } (start ["_law_given","_law_told"] vs) H:=
 qD1 rfl (qTj T XO IX hRa) (qTo hRa) vs H Q E h
theorem qAou{K:W.Frag}{cs:List Str}(T:KF K cs)(hRa:("Ratio":Str)∈cs)(vs:List V)(H:Hp)(Q:VK)(E:XK)(h:qAko K vs H Q E):qAdn K cs { nx:=λ_ H'=>Q .non H',rt:=Q } (start ["_law_script","_law_digits","_law_bottom","_law_tops","_law_parts","_law_k","_law_under","_law_size","_law_good","_law_row_here","_law_total","_law_first","_law_due","_law_top","_law_given","_law_told","_law_at","_law_pair_here"] vs) H:=
 qAmr (T:=[]) (n:=17) rfl (qAcy T hRa) (qAq8 hRa) vs H Q E (by obtain ⟨a,ns,rfl,hS,hl,q⟩:=h;exact ⟨a,ns,rfl,hS,hl,(λ_ z=>nomatch z),q⟩) (λ_ _ _ _ z=>nomatch z)
theorem qQ8:FnScope ["value"] ["value"] (defScope qBk):=⟨rfl,rfl,rfl,by decide +kernel,rfl,by decide +kernel,by decide +kernel⟩
theorem qFx:FnScope ["one","other"] ["one","other"] (defScope qA4):=⟨rfl,rfl,rfl,by decide +kernel,rfl,by decide +kernel,by decide +kernel⟩
theorem qGf:FnScope ["self","top","bottom","divisor"] ["self","top","bottom"] (defScope qBg):=⟨rfl,rfl,rfl,by decide +kernel,rfl,by decide +kernel,by decide +kernel⟩
theorem qTd:FnScope ["self","other"] ["self","other"] (defScope qBw):=⟨rfl,rfl,rfl,by decide +kernel,rfl,by decide +kernel,by decide +kernel⟩
theorem qS0:FnScope ["self","other"] ["self","other"] (defScope qBx):=⟨rfl,rfl,rfl,by decide +kernel,rfl,by decide +kernel,by decide +kernel⟩
theorem qSi:FnScope ["self","other"] ["self","other"] (defScope qBu):=⟨rfl,rfl,rfl,by decide +kernel,rfl,by decide +kernel,by decide +kernel⟩
theorem qRo:FnScope ["self"] ["self"] (defScope qBy):=⟨rfl,rfl,rfl,by decide +kernel,rfl,by decide +kernel,by decide +kernel⟩
theorem qXd:FnScope ["self","other"] ["self","other"] (defScope qCb):=⟨rfl,rfl,rfl,by decide +kernel,rfl,by decide +kernel,by decide +kernel⟩
theorem qTp:FnScope ["value"] ["value"] (defScope qBv):=⟨rfl,rfl,rfl,by decide +kernel,rfl,by decide +kernel,by decide +kernel⟩
theorem qVv:FnScope ["value","word"] ["value","word"] (defScope qCa):=⟨rfl,rfl,rfl,by decide +kernel,rfl,by decide +kernel,by decide +kernel⟩
theorem qJu:FnScope ["self","other","divisor"] ["self","other"] (defScope qBi):=⟨rfl,rfl,rfl,by decide +kernel,rfl,by decide +kernel,by decide +kernel⟩
theorem qEm:FnScope ["row","limit","index","item"] ["row","limit"] (defScope qBo):=⟨rfl,rfl,rfl,by decide +kernel,rfl,by decide +kernel,by decide +kernel⟩
theorem qZi:FnScope ["_law_script","_law_k"] ["_law_script","_law_k"] (defScope qC1):=⟨rfl,rfl,rfl,by decide +kernel,rfl,by decide +kernel,by decide +kernel⟩
theorem qDh:FnScope ["_law_cell_here","_law_many","_law_base","_law_found","_law_rest","_law_k","_law_number"] ["_law_cell_here","_law_many","_law_base"] (defScope qCx):=⟨rfl,rfl,rfl,by decide +kernel,rfl,by decide +kernel,by decide +kernel⟩
theorem qEb:FnScope ["_law_tops","_law_parts","_law_under","_law_bottom","_law_size","_law_row_here","_law_powers","_law_scale","_law_k","_law_at"] ["_law_tops","_law_parts","_law_under","_law_bottom","_law_size"] (defScope qC8):=⟨rfl,rfl,rfl,by decide +kernel,rfl,by decide +kernel,by decide +kernel⟩
theorem qG7:FnScope ["_law_row_here","_law_pair_here"] ["_law_row_here"] (defScope qBp):=⟨rfl,rfl,rfl,by decide +kernel,rfl,by decide +kernel,by decide +kernel⟩
theorem qQq:FnScope ["_law_value"] ["_law_value"] (defScope qBj):=⟨rfl,rfl,rfl,by decide +kernel,rfl,by decide +kernel,by decide +kernel⟩
theorem qZ3:FnScope ["_law_value"] ["_law_value"] (defScope qCw):=⟨rfl,rfl,rfl,by decide +kernel,rfl,by decide +kernel,by decide +kernel⟩
theorem qBt:FnScope ["_law_row_here","_law_cell_here","_law_digits","_law_found","_law_k","_law_at","_law_under","_law_by","_law_wide"] ["_law_row_here","_law_cell_here"] (defScope qBl):=⟨rfl,rfl,rfl,by decide +kernel,rfl,by decide +kernel,by decide +kernel⟩
theorem qOv:FnScope ["_law_value","_law_due","_law_pair_here"] ["_law_value","_law_due"] (defScope qCv):=⟨rfl,rfl,rfl,by decide +kernel,rfl,by decide +kernel,by decide +kernel⟩
theorem qIj:FnScope ["_law_values","_law_dues","_law_k"] ["_law_values","_law_dues"] (defScope qA5):=⟨rfl,rfl,rfl,by decide +kernel,rfl,by decide +kernel,by decide +kernel⟩
theorem qC7:FnScope ["row","by","numbers","step","result","k"] ["row","by"] (defScope qBn):=⟨rfl,rfl,rfl,by decide +kernel,rfl,by decide +kernel,by decide +kernel⟩
theorem qPa:FnScope ["row","numbers"] ["row"] (defScope qCz):=⟨rfl,rfl,rfl,by decide +kernel,rfl,by decide +kernel,by decide +kernel⟩
theorem qD6:FnScope ["row","limit","index","item"] ["row","limit"] (defScope qA7):=⟨rfl,rfl,rfl,by decide +kernel,rfl,by decide +kernel,by decide +kernel⟩
theorem qCu:FnScope ["row","found","last","one","other"] ["row"] (defScope qAx):=⟨rfl,rfl,rfl,by decide +kernel,rfl,by decide +kernel,by decide +kernel⟩
theorem qAam:FnScope ["_law_one","_law_other"] ["_law_one","_law_other"] (defScope qC0):=⟨rfl,rfl,rfl,by decide +kernel,rfl,by decide +kernel,by decide +kernel⟩
theorem qBr:FnScope ["_law_row_here","_law_lists","_law_lines","_law_k","_law_found","_law_at","_law_total","_law_i"] ["_law_row_here"] (defScope qB4):=⟨rfl,rfl,rfl,by decide +kernel,rfl,by decide +kernel,by decide +kernel⟩
theorem qGq:FnScope ["_law_given","_law_told"] ["_law_given"] (defScope qBm):=⟨rfl,rfl,rfl,by decide +kernel,rfl,by decide +kernel,by decide +kernel⟩
theorem qC4:FnScope ["_law_script","_law_digits","_law_bottom","_law_tops","_law_parts","_law_k","_law_under","_law_size","_law_good","_law_row_here","_law_total","_law_first","_law_due","_law_top","_law_given","_law_told","_law_at","_law_pair_here"] ["_law_script"] (defScope qF7):=⟨rfl,rfl,rfl,by decide +kernel,rfl,by decide +kernel,by decide +kernel⟩
structure Bd (K:W.Frag) (mg:Str->Option Value):Prop where
 st:∃ h:Heap,K.In h/\h.Ns mainGlobals mg
 says:SaysM bsL fnL K
section
variable {K:W.Frag} {mg:Str->Option Value}
theorem qAu(B:Bd K mg):mg "isinstance"=none:=let ⟨_,X,G⟩:=B.st;He.free_ok X G (B.says.fact 0 rfl)
theorem qDc(B:Bd K mg):mg "int"=none:=let ⟨_,X,G⟩:=B.st;He.free_ok X G (B.says.fact 1 rfl)
theorem qAfe(B:Bd K mg):mg "bool"=none:=let ⟨_,X,G⟩:=B.st;He.free_ok X G (B.says.fact 2 rfl)
theorem qAji(B:Bd K mg):mg "abs"=none:=let ⟨_,X,G⟩:=B.st;He.free_ok X G (B.says.fact 3 rfl)
theorem qJa(B:Bd K mg):mg "list"=none:=let ⟨_,X,G⟩:=B.st;He.free_ok X G (B.says.fact 4 rfl)
theorem qPy(B:Bd K mg):mg "tuple"=none:=let ⟨_,X,G⟩:=B.st;He.free_ok X G (B.says.fact 5 rfl)
theorem qDw(B:Bd K mg):mg "len"=none:=let ⟨_,X,G⟩:=B.st;He.free_ok X G (B.says.fact 6 rfl)
theorem qLj(B:Bd K mg):mg "enumerate"=none:=let ⟨_,X,G⟩:=B.st;He.free_ok X G (B.says.fact 7 rfl)
theorem qC5(B:Bd K mg):mg "range"=none:=let ⟨_,X,G⟩:=B.st;He.free_ok X G (B.says.fact 8 rfl)
theorem qAd7(B:Bd K mg):mg "sum"=none:=let ⟨_,X,G⟩:=B.st;He.free_ok X G (B.says.fact 9 rfl)
theorem qAon(B:Bd K mg):mg "zip"=none:=let ⟨_,X,G⟩:=B.st;He.free_ok X G (B.says.fact 10 rfl)
theorem qPr(B:Bd K mg):mg "is_integer"=some (.ref (He.ga K "is_integer")):=let ⟨_,X,G⟩:=B.st;He.glo_ok X G (B.says.fact 11 rfl)
theorem qOl(B:Bd K mg):mg "common_part"=some (.ref (He.ga K "common_part")):=let ⟨_,X,G⟩:=B.st;He.glo_ok X G (B.says.fact 12 rfl)
theorem qH2(B:Bd K mg):mg "NoRatio"=some (.ref (He.ga K "NoRatio")):=let ⟨_,X,G⟩:=B.st;He.glo_ok X G (B.says.fact 13 rfl)
theorem qEk(B:Bd K mg):mg "Ratio"=some (.ref (He.ga K "Ratio")):=let ⟨_,X,G⟩:=B.st;He.glo_ok X G (B.says.fact 14 rfl)
theorem qTx(B:Bd K mg):mg "is_number"=some (.ref (He.ga K "is_number")):=let ⟨_,X,G⟩:=B.st;He.glo_ok X G (B.says.fact 15 rfl)
theorem qVm(B:Bd K mg):mg "NoNumber"=some (.ref (He.ga K "NoNumber")):=let ⟨_,X,G⟩:=B.st;He.glo_ok X G (B.says.fact 16 rfl)
theorem qVn(B:Bd K mg):mg "as_ratio"=some (.ref (He.ga K "as_ratio")):=let ⟨_,X,G⟩:=B.st;He.glo_ok X G (B.says.fact 17 rfl)
theorem qL6(B:Bd K mg):mg "NoRow"=some (.ref (He.ga K "NoRow")):=let ⟨_,X,G⟩:=B.st;He.glo_ok X G (B.says.fact 18 rfl)
theorem qLd(B:Bd K mg):mg "check_row"=some (.ref (He.ga K "check_row")):=let ⟨_,X,G⟩:=B.st;He.glo_ok X G (B.says.fact 19 rfl)
theorem qR3(B:Bd K mg):mg "_law_cell"=some (.ref (He.ga K "_law_cell")):=let ⟨_,X,G⟩:=B.st;He.glo_ok X G (B.says.fact 20 rfl)
theorem qRs(B:Bd K mg):mg "_law_draw"=some (.ref (He.ga K "_law_draw")):=let ⟨_,X,G⟩:=B.st;He.glo_ok X G (B.says.fact 21 rfl)
theorem qVj(B:Bd K mg):mg "_law_row"=some (.ref (He.ga K "_law_row")):=let ⟨_,X,G⟩:=B.st;He.glo_ok X G (B.says.fact 22 rfl)
theorem qN9(B:Bd K mg):mg "_law_ratios"=some (.ref (He.ga K "_law_ratios")):=let ⟨_,X,G⟩:=B.st;He.glo_ok X G (B.says.fact 23 rfl)
theorem qNh(B:Bd K mg):mg "_law_integer"=some (.ref (He.ga K "_law_integer")):=let ⟨_,X,G⟩:=B.st;He.glo_ok X G (B.says.fact 24 rfl)
theorem qSc(B:Bd K mg):mg "_law_pair"=some (.ref (He.ga K "_law_pair")):=let ⟨_,X,G⟩:=B.st;He.glo_ok X G (B.says.fact 25 rfl)
theorem qNw(B:Bd K mg):mg "_law_changed"=some (.ref (He.ga K "_law_changed")):=let ⟨_,X,G⟩:=B.st;He.glo_ok X G (B.says.fact 26 rfl)
theorem qSn(B:Bd K mg):mg "_law_same"=some (.ref (He.ga K "_law_same")):=let ⟨_,X,G⟩:=B.st;He.glo_ok X G (B.says.fact 27 rfl)
theorem qLu(B:Bd K mg):mg "_law_same_all"=some (.ref (He.ga K "_law_same_all")):=let ⟨_,X,G⟩:=B.st;He.glo_ok X G (B.says.fact 28 rfl)
theorem qT0(B:Bd K mg):mg "moved_row"=some (.ref (He.ga K "moved_row")):=let ⟨_,X,G⟩:=B.st;He.glo_ok X G (B.says.fact 29 rfl)
theorem qR6(B:Bd K mg):mg "NoMean"=some (.ref (He.ga K "NoMean")):=let ⟨_,X,G⟩:=B.st;He.glo_ok X G (B.says.fact 30 rfl)
theorem qZu(B:Bd K mg):mg "centred"=some (.ref (He.ga K "centred")):=let ⟨_,X,G⟩:=B.st;He.glo_ok X G (B.says.fact 31 rfl)
theorem qOi(B:Bd K mg):mg "differences"=some (.ref (He.ga K "differences")):=let ⟨_,X,G⟩:=B.st;He.glo_ok X G (B.says.fact 32 rfl)
theorem qT8(B:Bd K mg):mg "_law_plus"=some (.ref (He.ga K "_law_plus")):=let ⟨_,X,G⟩:=B.st;He.glo_ok X G (B.says.fact 33 rfl)
theorem qQs(B:Bd K mg):mg "_law_table"=some (.ref (He.ga K "_law_table")):=let ⟨_,X,G⟩:=B.st;He.glo_ok X G (B.says.fact 34 rfl)
theorem qMr(B:Bd K mg):mg "_law_refused"=some (.ref (He.ga K "_law_refused")):=let ⟨_,X,G⟩:=B.st;He.glo_ok X G (B.says.fact 35 rfl)
theorem qAno(B:Bd K mg):mg "law"=some (.ref (He.ga K "law")):=let ⟨_,X,G⟩:=B.st;He.glo_ok X G (B.says.fact 36 rfl)
theorem qGe(B:Bd K mg):SupC pWW K (He.ga K "NoRatio") (He.ma K (He.ga K "NoRatio") "__init__") "word":=qUw (B.says.fact 37 rfl)
theorem qSd(B:Bd K mg):SupC pWW K (He.ga K "NoNumber") (He.ma K (He.ga K "NoNumber") "__init__") "word":=qUw (B.says.fact 38 rfl)
theorem qJx(B:Bd K mg):SupC pWW K (He.ga K "NoRow") (He.ma K (He.ga K "NoRow") "__init__") "index":=qUw (B.says.fact 39 rfl)
theorem qAe5(B:Bd K mg):Ex0 K (He.ga K "NoMean"):=qAmp (B.says.fact 40 rfl)
theorem KFB(B:Bd K mg):KF K csL:=qAop (B.says.fact 41 rfl)
theorem XOB(B:Bd K mg):XOk K xtL:=qAov (B.says.fact 42 rfl)
theorem IOB(B:Bd K mg):IOk K xtL:=qAox (B.says.fact 43 rfl)
theorem see(B:Bd K mg):SeeC K:=qAkg (B.says.fact 44 rfl)
theorem qK5(B:Bd K mg):OpC K (He.ga K "Ratio") "add":=qAbr (B.says.fact 45 rfl)
theorem qR1(B:Bd K mg):OpC K (He.ga K "Ratio") "mul":=qAbr (B.says.fact 46 rfl)
theorem qTz(B:Bd K mg):OpC K (He.ga K "Ratio") "sub":=qAbr (B.says.fact 47 rfl)
theorem RT(B:Bd K mg):RTxt K:=⟨(KFB B).own _ (by decide),((KFB B).fld "Ratio" (by decide) "top" (by decide)).na,((KFB B).fld "Ratio" (by decide) "bottom" (by decide)).na⟩
end
section
variable {w:World} {K:W.Frag} {mg:Str->Option Value} {base:Heap}
theorem qQw(B:Bd K mg):∃ fd,FunD K "is_integer" "is_integer" (defArgs qBk) (defBody qBk) (defScope qBk) [] [] (He.ga K "is_integer") fd/\FnOk pWW w K mg base (CXX pWW w) 1 (He.ga K "is_integer") fd ["value"] (qEr K):=by
 obtain ⟨fd,F0⟩:=B.says.def_ 0 (d:=qJk) rfl
 have F:FunD K "is_integer" "is_integer" (defArgs qBk) (defBody qBk) (defScope qBk) [] [] (He.ga K "is_integer") fd:=F0
 refine ⟨fd,F,F.ok qQ8 (λvs H Q E h => ?_) (λcdv A outer s H vs Q E hr h=>⟨qLk K, ?_,qNg vs H Q E h⟩)⟩
 ·first | (obtain ⟨_,rfl,_⟩:=h;rfl) | (obtain ⟨_,_,rfl,_⟩:=h;rfl) | (obtain ⟨_,_,_,rfl,_⟩:=h;rfl) | (obtain ⟨_,_,_,_,rfl,_⟩:=h;rfl) | (obtain ⟨_,_,_,_,_,rfl,_⟩:=h;rfl) | (obtain ⟨_,_,_,_,_,_,rfl,_⟩:=h;rfl) | (obtain ⟨_,_,_,_,_,_,_,rfl,_⟩:=h;rfl) | (obtain ⟨_,_,_,_,_,_,_,_,rfl,_⟩:=h;rfl) | (obtain ⟨_,_,_,_,_,_,_,_,_,rfl,_⟩:=h;rfl) | (obtain ⟨_,_,_,_,_,_,_,_,_,_,rfl,_⟩:=h;rfl) | (obtain ⟨_,_,_,_,_,_,_,_,_,_,_,rfl,_⟩:=h;rfl) | (obtain ⟨_,_,_,_,_,_,_,_,_,_,_,_,rfl,_⟩:=h;rfl)
 ·exact (pss_one (ps_ret (pe_and (pe_callB call_isi (by rfl) (qAu B) (by decide +kernel) (pa_cons (pv 0) (pa_cons (pe_bltn (v := .ty "int") (by rfl) (qDc B) (by decide +kernel) rfl) pa_nil))) (pe_one (pe_not (pe_callB call_isi (by rfl) (qAu B) (by decide +kernel) (pa_cons (pv 0) (pa_cons (pe_bltn (v := .ty "bool") (by rfl) (qAfe B) (by decide +kernel) rfl) pa_nil))))))))
theorem qCn(B:Bd K mg):qFj pWW w K mg base 1 "is_integer" [] (qEr K):=by
 obtain ⟨fd,F,G⟩:=qQw (w:=w) (base:=base) B
 exact ⟨_,fd,["value"],[],qPr B,F.kp,G,F.bindsN λ_ _ _ _ _ _ us hl=>match us,hl with | [_],_=>rfl, .nil⟩
theorem qOe(B:Bd K mg):∃ fd,FunD K "common_part" "common_part" (defArgs qA4) (defBody qA4) (defScope qA4) [] [] (He.ga K "common_part") fd/\FnOk pWW w K mg base (CXX pWW w) 1 (He.ga K "common_part") fd ["one","other"] qAg4:=by
 obtain ⟨fd,F0⟩:=B.says.def_ 1 (d:=qIi) rfl
 have F:FunD K "common_part" "common_part" (defArgs qA4) (defBody qA4) (defScope qA4) [] [] (He.ga K "common_part") fd:=F0
 refine ⟨fd,F,F.ok qFx (λvs H Q E h => ?_) (λcdv A outer s H vs Q E hr h=>⟨qJ2 K, ?_,qLx vs H Q E h⟩)⟩
 ·first | (obtain ⟨_,rfl,_⟩:=h;rfl) | (obtain ⟨_,_,rfl,_⟩:=h;rfl) | (obtain ⟨_,_,_,rfl,_⟩:=h;rfl) | (obtain ⟨_,_,_,_,rfl,_⟩:=h;rfl) | (obtain ⟨_,_,_,_,_,rfl,_⟩:=h;rfl) | (obtain ⟨_,_,_,_,_,_,rfl,_⟩:=h;rfl) | (obtain ⟨_,_,_,_,_,_,_,rfl,_⟩:=h;rfl) | (obtain ⟨_,_,_,_,_,_,_,_,rfl,_⟩:=h;rfl) | (obtain ⟨_,_,_,_,_,_,_,_,_,rfl,_⟩:=h;rfl) | (obtain ⟨_,_,_,_,_,_,_,_,_,_,rfl,_⟩:=h;rfl) | (obtain ⟨_,_,_,_,_,_,_,_,_,_,_,rfl,_⟩:=h;rfl) | (obtain ⟨_,_,_,_,_,_,_,_,_,_,_,_,rfl,_⟩:=h;rfl)
 ·exact (pss_cons (ps_par (by rfl) qFx.nd rfl rfl (by decide) rfl rfl (pa_cons (pe_callB call_abs (by rfl) (qAji B) (by decide +kernel) (pa_cons (pv 0) pa_nil)) (pa_cons (pe_callB call_abs (by rfl) (qAji B) (by decide +kernel) (pa_cons (pv 1) pa_nil)) pa_nil)) (by rfl))
 (pss_cons (ps_while (passes_of rfl) (pt_cmpR op_gt (pv 1) pe_int (nomark _)) (pss_one (ps_par (by rfl) qFx.nd rfl rfl (by decide) rfl rfl (pa_cons (pv 1) (pa_cons (pe_op op_modN (pv 0) (pv 1)) pa_nil)) (by rfl))))
 (pss_one (ps_ret (pv 0)))))
theorem qQ1(B:Bd K mg):qFj pWW w K mg base 1 "common_part" [] qAg4:=by
 obtain ⟨fd,F,G⟩:=qOe (w:=w) (base:=base) B
 exact ⟨_,fd,["one","other"],[],qOl B,F.kp,G,F.bindsN λ_ _ _ _ _ _ us hl=>match us,hl with | [_,_],_=>rfl, .nil⟩
theorem qAaj(B:Bd K mg):∃ fd,FunD K "_law_cell" "_law_cell" (defArgs qC1) (defBody qC1) (defScope qC1) [] [] (He.ga K "_law_cell") fd/\FnOk pWW w K mg base (CXX pWW w) 1 (He.ga K "_law_cell") fd ["_law_script","_law_k"] (lift K qOd):=by
 obtain ⟨fd,F0⟩:=B.says.def_ 19 (d:=qPd) rfl
 have F:FunD K "_law_cell" "_law_cell" (defArgs qC1) (defBody qC1) (defScope qC1) [] [] (He.ga K "_law_cell") fd:=F0
 refine ⟨fd,F,F.ok qZi (λvs H Q E h => ?_) (λcdv A outer s H vs Q E hr h=>⟨qKt K csL, ?_,qZt (KFB B) (by decide) vs H Q E h⟩)⟩
 ·exact qWu (cs:=csL) _ _ _ _ h
 ·exact (pss_cons (ps_if (pt_cmpR op_lt (pv 1) (pe_callB call_len (by rfl) (qDw B) (by decide +kernel) (pa_cons (pv 0) pa_nil)) (nomark _)) (pss_one (ps_ret (pe_callTy call_int1 (by rfl) (qDc B) (by decide +kernel) (pa_cons (pe_ix ix_list (pv 0) (pv 1) (λ_ _=>rfl)) pa_nil)))) pss_nil)
 (pss_one (ps_ret pe_int)))
theorem qRu(B:Bd K mg):qFj pWW w K mg base 1 "_law_cell" [] (lift K qOd):=by
 obtain ⟨fd,F,G⟩:=qAaj (w:=w) (base:=base) B
 exact ⟨_,fd,["_law_script","_law_k"],[],qR3 B,F.kp,G,F.bindsN λ_ _ _ _ _ _ us hl=>match us,hl with | [_,_],_=>rfl, .nil⟩
theorem qAbw(B:Bd K mg):∃ fd,FunD K "_law_row" "_law_row" (defArgs qC8) (defBody qC8) (defScope qC8) [] [] (He.ga K "_law_row") fd/\FnOk pWW w K mg base (CXX pWW w) 1 (He.ga K "_law_row") fd ["_law_tops","_law_parts","_law_under","_law_bottom","_law_size"] (lift K qOn):=by
 obtain ⟨fd,F0⟩:=B.says.def_ 21 (d:=qRy) rfl
 have F:FunD K "_law_row" "_law_row" (defArgs qC8) (defBody qC8) (defScope qC8) [] [] (He.ga K "_law_row") fd:=F0
 refine ⟨fd,F,F.ok qEb (λvs H Q E h => ?_) (λcdv A outer s H vs Q E hr h=>⟨qNk K csL, ?_,qAds (KFB B) (by decide) vs H Q E h⟩)⟩
 ·exact qAak (cs:=csL) _ _ _ _ h
 ·exact (pss_cons (ps_set (i:=5) qEb.nd rfl (Or.inl rfl) (pe_lst pa_nil))
 (pss_cons (ps_set (i:=6) qEb.nd rfl (Or.inr rfl) (pe_callTy call_list_of (by rfl) (qJa B) (by decide +kernel) (pa_cons (pv 1) pa_nil)))
 (pss_cons (ps_set (i:=7) qEb.nd rfl (Or.inl rfl) (pv 2))
 (pss_cons (ps_for (passes_of rfl) rfl (pi_range1 (by rfl) (qC5 B) (pa_cons (pv 4) pa_nil)) (pg_name (i:=8) qEb.nd rfl (Or.inl rfl)) (pss_cons (ps_expr (pe_bm PySem.F.plainAttrs_list PySem.F.slot_list_append PySem.F.type_list_append mt_append (pv 5) (pa_cons (pe_tup (pa_cons (pe_callB (cr_sum rfl) (by rfl) (qAd7 B) (by decide +kernel) (pa_cons (pv 6) pa_nil)) (pa_cons (pv 7) pa_nil))) pa_nil)))
 (pss_cons (ps_set (i:=6) qEb.nd rfl (Or.inr rfl) (pe_lc (own:=[("_law_at",9)]) (g:=(gName 9)) (tt:=tYes) rfl qEb.nd (pi_range1 (by rfl) (qC5 B) (pa_cons (pe_callB call_len (by rfl) (qDw B) (by decide +kernel) (pa_cons (pv 0) pa_nil)) pa_nil)) (blkOk_by (N:=["_law_tops","_law_parts","_law_under","_law_bottom","_law_size","_law_row_here","_law_powers","_law_scale","_law_k","_law_at"]) (sc:=defScope qC8) (own:=[("_law_at",9)]) (by decide +kernel)) (λ_ _ _ _ _=>pg_name (i:=9) qEb.nd rfl (Or.inl rfl)) (λ_ _ _ _ _=>pts_nil) (λ_ _ _ _ _=>(pe_op qAw (pe_ix ix_list (pv 6) (pv 9) (λ_ _=>rfl)) (pe_ix ix_list (pv 0) (pv 9) (λ_ _=>rfl))))))
 (pss_one (ps_set (i:=7) qEb.nd rfl (Or.inl rfl) (pe_op qAw (pv 7) (pv 3)))))))
 (pss_one (ps_ret (pv 5)))))))
theorem qZa(B:Bd K mg):qFj pWW w K mg base 1 "_law_row" [] (lift K qOn):=by
 obtain ⟨fd,F,G⟩:=qAbw (w:=w) (base:=base) B
 exact ⟨_,fd,["_law_tops","_law_parts","_law_under","_law_bottom","_law_size"],[],qVj B,F.kp,G,F.bindsN λ_ _ _ _ _ _ us hl=>match us,hl with | [_,_,_,_,_],_=>rfl, .nil⟩
theorem qQo(B:Bd K mg):∃ fd,FunD K "_law_integer" "_law_integer" (defArgs qBj) (defBody qBj) (defScope qBj) [] [] (He.ga K "_law_integer") fd/\FnOk pWW w K mg base (CXX pWW w) 1 (He.ga K "_law_integer") fd ["_law_value"] (lift K (qD3 csL)):=by
 obtain ⟨fd,F0⟩:=B.says.def_ 23 (d:=qJp) rfl
 have F:FunD K "_law_integer" "_law_integer" (defArgs qBj) (defBody qBj) (defScope qBj) [] [] (He.ga K "_law_integer") fd:=F0
 refine ⟨fd,F,F.ok qQq (λvs H Q E h => ?_) (λcdv A outer s H vs Q E hr h=>⟨qGc K csL, ?_,qRh (KFB B) (by decide) vs H Q E h⟩)⟩
 ·exact qOj (cs:=csL) _ _ _ _ h
 ·exact (pss_one (ps_ret (pe_and (pe_callB call_isi (by rfl) (qAu B) (by decide +kernel) (pa_cons (pv 0) (pa_cons (pe_bltn (v := .ty "int") (by rfl) (qDc B) (by decide +kernel) rfl) pa_nil))) (pe_one (pe_not (pe_callB call_isi (by rfl) (qAu B) (by decide +kernel) (pa_cons (pv 0) (pa_cons (pe_bltn (v := .ty "bool") (by rfl) (qAfe B) (by decide +kernel) rfl) pa_nil))))))))
theorem qLh(B:Bd K mg):qFj pWW w K mg base 1 "_law_integer" [] (lift K (qD3 csL)):=by
 obtain ⟨fd,F,G⟩:=qQo (w:=w) (base:=base) B
 exact ⟨_,fd,["_law_value"],[],qNh B,F.kp,G,F.bindsN λ_ _ _ _ _ _ us hl=>match us,hl with | [_],_=>rfl, .nil⟩
theorem qAal(B:Bd K mg):∃ fd,FunD K "_law_plus" "_law_plus" (defArgs qC0) (defBody qC0) (defScope qC0) [] [] (He.ga K "_law_plus") fd/\FnOk pWW w K mg base (CXX pWW w) 1 (He.ga K "_law_plus") fd ["_law_one","_law_other"] (lift K qFg):=by
 obtain ⟨fd,F0⟩:=B.says.def_ 32 (d:=qOz) rfl
 have F:FunD K "_law_plus" "_law_plus" (defArgs qC0) (defBody qC0) (defScope qC0) [] [] (He.ga K "_law_plus") fd:=F0
 refine ⟨fd,F,F.ok qAam (λvs H Q E h => ?_) (λcdv A outer s H vs Q E hr h=>⟨qKj K csL, ?_,qZo (KFB B) (by decide) vs H Q E h⟩)⟩
 ·exact qUp (cs:=csL) _ _ _ _ h
 ·exact (pss_one (ps_ret (pe_tup (pa_cons (pe_op op_add (pe_op qAw (pe_ix ix_tup (pv 0) pe_int (λ_ _=>rfl)) (pe_ix ix_tup (pv 1) pe_int (λ_ _=>rfl))) (pe_op qAw (pe_ix ix_tup (pv 1) pe_int (λ_ _=>rfl)) (pe_ix ix_tup (pv 0) pe_int (λ_ _=>rfl)))) (pa_cons (pe_op qAw (pe_ix ix_tup (pv 0) pe_int (λ_ _=>rfl)) (pe_ix ix_tup (pv 1) pe_int (λ_ _=>rfl))) pa_nil)))))
theorem qAdd(B:Bd K mg):qFj pWW w K mg base 1 "_law_plus" [] (lift K qFg):=by
 obtain ⟨fd,F,G⟩:=qAal (w:=w) (base:=base) B
 exact ⟨_,fd,["_law_one","_law_other"],[],qT8 B,F.kp,G,F.bindsN λ_ _ _ _ _ _ us hl=>match us,hl with | [_,_],_=>rfl, .nil⟩
theorem qWw(B:Bd K mg):∃ fd,FunD K "__eq__" "Ratio.__eq__" (defArgs qCb) (defBody qCb) (defScope qCb) [] [] (He.ma K (He.ga K "Ratio") "__eq__") fd/\FnOk pWW w K mg base (CXX pWW w) 3 (He.ma K (He.ga K "Ratio") "__eq__") fd ["self","other"] (lift K (fRB λa b=>decide (a=b))):=by
 obtain ⟨fd,F0⟩:=B.says.def_ 8 (d:=qNi) rfl
 have F:FunD K "__eq__" "Ratio.__eq__" (defArgs qCb) (defBody qCb) (defScope qCb) [] [] (He.ma K (He.ga K "Ratio") "__eq__") fd:=F0
 refine ⟨fd,F,F.ok qXd (λvs H Q E h => ?_) (λcdv A outer s H vs Q E hr h=>⟨qIs K csL, ?_,qW6 (KFB B) (by decide) vs H Q E h⟩)⟩
 ·exact qTf (cs:=csL) _ _ _ _ h
 ·exact (pss_cons (ps_if (pt_val (pe_callB call_isi (by rfl) (qAu B) (by decide +kernel) (pa_cons (pv 1) (pa_cons (pe_glob (v := .ref (He.ga K "Ratio")) (by rfl) (qEk B) rfl) pa_nil)))) (pss_one (ps_ret (pe_and (pe_cmpR op_eq (pe_fld (pv 0) rfl) (pe_fld (pv 1) rfl) (nomark _)) (pe_one (pe_cmpR op_eq (pe_fld (pv 0) rfl) (pe_fld (pv 1) rfl) (nomark _)))))) pss_nil)
 (pss_cons (ps_if (pt_val (qAj (dvs:=[]) (qCn B) (hr.mono (by decide)) rfl passL (pa_cons (pv 1) pa_nil))) (pss_one (ps_ret (pe_and (pe_cmpR op_eq (pe_fld (pv 0) rfl) pe_int (nomark _)) (pe_one (pe_cmpR op_eq (pe_fld (pv 0) rfl) (pv 1) (nomark _)))))) pss_nil)
 (pss_one (ps_ret pe_bl))))
theorem qZr(B:Bd K mg):qIh pWW w K mg base 3 (He.ga K "Ratio") "__eq__" [] (lift K (fRB λa b=>decide (a=b))):=by
 obtain ⟨fd,F,G⟩:=qWw (w:=w) (base:=base) B
 exact ⟨_,fd,["self","other"],[],((KFB B).own _ (by decide)).cl,He.meth_ok (B.says.fact 54 rfl),G,F.bindsN λ_ _ _ _ _ _ us hl=>match us,hl with | [_,_],_=>rfl, .nil⟩
theorem qSq(B:Bd K mg):∃ fd,FunD K "is_number" "is_number" (defArgs qBv) (defBody qBv) (defScope qBv) [] [] (He.ga K "is_number") fd/\FnOk pWW w K mg base (CXX pWW w) 3 (He.ga K "is_number") fd ["value"] (lift K (qHc csL)):=by
 obtain ⟨fd,F0⟩:=B.says.def_ 13 (d:=qLm) rfl
 have F:FunD K "is_number" "is_number" (defArgs qBv) (defBody qBv) (defScope qBv) [] [] (He.ga K "is_number") fd:=F0
 refine ⟨fd,F,F.ok qTp (λvs H Q E h => ?_) (λcdv A outer s H vs Q E hr h=>⟨qHo K csL, ?_,qT4 (KFB B) (by decide) vs H Q E h⟩)⟩
 ·exact qQd (cs:=csL) _ _ _ _ h
 ·exact (pss_one (ps_ret (pe_or (pe_callB call_isi (by rfl) (qAu B) (by decide +kernel) (pa_cons (pv 0) (pa_cons (pe_glob (v := .ref (He.ga K "Ratio")) (by rfl) (qEk B) rfl) pa_nil))) (pe_one (qAj (dvs:=[]) (qCn B) (hr.mono (by decide)) rfl passL (pa_cons (pv 0) pa_nil))))))
theorem qNp(B:Bd K mg):qFj pWW w K mg base 3 "is_number" [] (lift K (qHc csL)):=by
 obtain ⟨fd,F,G⟩:=qSq (w:=w) (base:=base) B
 exact ⟨_,fd,["value"],[],qTx B,F.kp,G,F.bindsN λ_ _ _ _ _ _ us hl=>match us,hl with | [_],_=>rfl, .nil⟩
theorem qZv(B:Bd K mg):∃ fd,FunD K "_law_pair" "_law_pair" (defArgs qCw) (defBody qCw) (defScope qCw) [] [] (He.ga K "_law_pair") fd/\FnOk pWW w K mg base (CXX pWW w) 3 (He.ga K "_law_pair") fd ["_law_value"] (lift K qLf):=by
 obtain ⟨fd,F0⟩:=B.says.def_ 24 (d:=qPe) rfl
 have F:FunD K "_law_pair" "_law_pair" (defArgs qCw) (defBody qCw) (defScope qCw) [] [] (He.ga K "_law_pair") fd:=F0
 refine ⟨fd,F,F.ok qZ3 (λvs H Q E h => ?_) (λcdv A outer s H vs Q E hr h=>⟨qKz K csL, ?_,qAas (KFB B) (by decide) vs H Q E h⟩)⟩
 ·exact qV2 (cs:=csL) _ _ _ _ h
 ·exact (pss_cons (ps_if (pt_not (pt_val (pe_callB call_isi (by rfl) (qAu B) (by decide +kernel) (pa_cons (pv 0) (pa_cons (pe_glob (v := .ref (He.ga K "Ratio")) (by rfl) (qEk B) rfl) pa_nil))))) (pss_one (ps_ret pe_non)) pss_nil)
 (pss_cons (ps_if (PW.pt (pw_or (pt_not (pt_val (qAj (dvs:=[]) (qLh B) (hr.mono (by decide)) rfl passL (pa_cons (pe_fld (pv 0) rfl) pa_nil)))) (pw_or (pt_not (pt_val (qAj (dvs:=[]) (qLh B) (hr.mono (by decide)) rfl passL (pa_cons (pe_fld (pv 0) rfl) pa_nil)))) (pw_or1 (pt_cmpR op_lt (pe_fld (pv 0) rfl) pe_int (nomark _)))))) (pss_one (ps_ret pe_non)) pss_nil)
 (pss_one (ps_ret (pe_tup (pa_cons (pe_fld (pv 0) rfl) (pa_cons (pe_fld (pv 0) rfl) pa_nil)))))))
theorem qAeo(B:Bd K mg):qFj pWW w K mg base 3 "_law_pair" [] (lift K qLf):=by
 obtain ⟨fd,F,G⟩:=qZv (w:=w) (base:=base) B
 exact ⟨_,fd,["_law_value"],[],qSc B,F.kp,G,F.bindsN λ_ _ _ _ _ _ us hl=>match us,hl with | [_],_=>rfl, .nil⟩
theorem qUz(B:Bd K mg):∃ fd,FunD K "_law_table" "_law_table" (defArgs qB4) (defBody qB4) (defScope qB4) [] [] (He.ga K "_law_table") fd/\FnOk pWW w K mg base (CXX pWW w) 3 (He.ga K "_law_table") fd ["_law_row_here"] (lift K qE3):=by
 obtain ⟨fd,F0⟩:=B.says.def_ 33 (d:=qNn) rfl
 have F:FunD K "_law_table" "_law_table" (defArgs qB4) (defBody qB4) (defScope qB4) [] [] (He.ga K "_law_table") fd:=F0
 refine ⟨fd,F,F.ok qBr (λvs H Q E h => ?_) (λcdv A outer s H vs Q E hr h=>⟨qJb K csL, ?_,qVa (KFB B) (by decide) vs H Q E h⟩)⟩
 ·exact qSh (cs:=csL) _ _ _ _ h
 ·exact (pss_cons (ps_set (i:=1) qBr.nd rfl (Or.inl rfl) (pe_lst (pa_cons (pe_callTy call_list_of (by rfl) (qJa B) (by decide +kernel) (pa_cons (pv 0) pa_nil)) pa_nil)))
 (pss_cons (ps_set (i:=2) qBr.nd rfl (Or.inr rfl) (pe_lst (pa_cons pe_int pa_nil)))
 (pss_cons (ps_for (passes_of rfl) rfl (pi_range2 (by rfl) (qC5 B) (pa_cons pe_int (pa_cons (pe_callB call_len (by rfl) (qDw B) (by decide +kernel) (pa_cons (pv 0) pa_nil)) pa_nil))) (pg_name (i:=3) qBr.nd rfl (Or.inl rfl)) (pss_cons (ps_set (i:=2) qBr.nd rfl (Or.inr rfl) (pe_op op_cat (pe_op op_cat (pe_lst (pa_cons pe_int pa_nil)) (pe_lc (own:=[("_law_i",7)]) (g:=(gName 7)) (tt:=tYes) rfl qBr.nd (pi_range1 (by rfl) (qC5 B) (pa_cons (pe_op op_sub (pe_callB call_len (by rfl) (qDw B) (by decide +kernel) (pa_cons (pv 2) pa_nil)) pe_int) pa_nil)) (blkOk_by (N:=["_law_row_here","_law_lists","_law_lines","_law_k","_law_found","_law_at","_law_total","_law_i"]) (sc:=defScope qB4) (own:=[("_law_i",7)]) (by decide +kernel)) (λ_ _ _ _ _=>pg_name (i:=7) qBr.nd rfl (Or.inl rfl)) (λ_ _ _ _ _=>pts_nil) (λ_ _ _ _ _=>(pe_op op_sub (pe_ix ix_list (pv 2) (pe_op op_add (pv 7) pe_int) (λ_ _=>rfl)) (pe_ix ix_list (pv 2) (pv 7) (λ_ _=>rfl)))))) (pe_lst (pa_cons (pe_un un_neg (pe_ix ix_list (pv 2) (pe_un un_neg pe_int) (λ_ _=>rfl))) pa_nil))))
 (pss_cons (ps_set (i:=4) qBr.nd rfl (Or.inl rfl) (pe_lst pa_nil))
 (pss_cons (ps_for (passes_of rfl) rfl (pi_range1 (by rfl) (qC5 B) (pa_cons (pe_op op_sub (pe_callB call_len (by rfl) (qDw B) (by decide +kernel) (pa_cons (pv 0) pa_nil)) (pv 3)) pa_nil)) (pg_name (i:=5) qBr.nd rfl (Or.inl rfl)) (pss_cons (ps_set (i:=6) qBr.nd rfl (Or.inl rfl) (pe_tup (pa_cons pe_int (pa_cons pe_int pa_nil))))
 (pss_cons (ps_for (passes_of rfl) rfl (pi_range1 (by rfl) (qC5 B) (pa_cons (pe_op op_add (pv 3) pe_int) pa_nil)) (pg_name (i:=7) qBr.nd rfl (Or.inl rfl)) (pss_one (ps_set (i:=6) qBr.nd rfl (Or.inl rfl) (qAj (dvs:=[]) (qAdd B) (hr.mono (by decide)) rfl passL (pa_cons (pv 6) (pa_cons (pe_tup (pa_cons (pe_op qAw (pe_ix ix_list (pv 2) (pv 7) (λ_ _=>rfl)) (pe_ix ix_tup (pe_ix ix_list (pv 0) (pe_op op_add (pv 5) (pv 7)) (λ_ _=>rfl)) pe_int (λ_ _=>rfl))) (pa_cons (pe_ix ix_tup (pe_ix ix_list (pv 0) (pe_op op_add (pv 5) (pv 7)) (λ_ _=>rfl)) pe_int (λ_ _=>rfl)) pa_nil))) pa_nil))))))
 (pss_one (ps_expr (pe_bm PySem.F.plainAttrs_list PySem.F.slot_list_append PySem.F.type_list_append mt_append (pv 4) (pa_cons (pv 6) pa_nil)))))))
 (pss_one (ps_expr (pe_bm PySem.F.plainAttrs_list PySem.F.slot_list_append PySem.F.type_list_append mt_append (pv 1) (pa_cons (pv 4) pa_nil))))))))
 (pss_one (ps_ret (pv 1))))))
theorem qZy(B:Bd K mg):qFj pWW w K mg base 3 "_law_table" [] (lift K qE3):=by
 obtain ⟨fd,F,G⟩:=qUz (w:=w) (base:=base) B
 exact ⟨_,fd,["_law_row_here"],[],qQs B,F.kp,G,F.bindsN λ_ _ _ _ _ _ us hl=>match us,hl with | [_],_=>rfl, .nil⟩
theorem qZl(B:Bd K mg):∃ fd,FunD K "_law_same" "_law_same" (defArgs qCv) (defBody qCv) (defScope qCv) [] [] (He.ga K "_law_same") fd/\FnOk pWW w K mg base (CXX pWW w) 5 (He.ga K "_law_same") fd ["_law_value","_law_due"] (lift K qPj):=by
 obtain ⟨fd,F0⟩:=B.says.def_ 26 (d:=qO9) rfl
 have F:FunD K "_law_same" "_law_same" (defArgs qCv) (defBody qCv) (defScope qCv) [] [] (He.ga K "_law_same") fd:=F0
 refine ⟨fd,F,F.ok qOv (λvs H Q E h => ?_) (λcdv A outer s H vs Q E hr h=>⟨qKp K csL, ?_,qZn (KFB B) (by decide) vs H Q E h⟩)⟩
 ·exact qWg (cs:=csL) _ _ _ _ h
 ·exact (pss_cons (ps_set (i:=2) qOv.nd rfl (Or.inl rfl) (qAj (dvs:=[]) (qAeo B) (hr.mono (by decide)) rfl passL (pa_cons (pv 0) pa_nil)))
 (pss_one (ps_ret (pe_and (pe_cmpR op_notN (pv 2) pe_non (nomark _)) (pe_one (pe_cmpR op_eq (pe_op qAw (pe_ix ix_tup (pv 2) pe_int (λ_ _=>rfl)) (pe_ix ix_tup (pv 1) pe_int (λ_ _=>rfl))) (pe_op qAw (pe_ix ix_tup (pv 1) pe_int (λ_ _=>rfl)) (pe_ix ix_tup (pv 2) pe_int (λ_ _=>rfl))) (nomark _)))))))
theorem qAet(B:Bd K mg):qFj pWW w K mg base 5 "_law_same" [] (lift K qPj):=by
 obtain ⟨fd,F,G⟩:=qZl (w:=w) (base:=base) B
 exact ⟨_,fd,["_law_value","_law_due"],[],qSn B,F.kp,G,F.bindsN λ_ _ _ _ _ _ us hl=>match us,hl with | [_,_],_=>rfl, .nil⟩
theorem qOb(B:Bd K mg):∃ fd,FunD K "_law_same_all" "_law_same_all" (defArgs qA5) (defBody qA5) (defScope qA5) [] [] (He.ga K "_law_same_all") fd/\FnOk pWW w K mg base (CXX pWW w) 7 (He.ga K "_law_same_all") fd ["_law_values","_law_dues"] (lift K qC3):=by
 obtain ⟨fd,F0⟩:=B.says.def_ 27 (d:=qIm) rfl
 have F:FunD K "_law_same_all" "_law_same_all" (defArgs qA5) (defBody qA5) (defScope qA5) [] [] (He.ga K "_law_same_all") fd:=F0
 refine ⟨fd,F,F.ok qIj (λvs H Q E h => ?_) (λcdv A outer s H vs Q E hr h=>⟨qF1 K csL, ?_,qN8 (KFB B) (by decide) vs H Q E h⟩)⟩
 ·exact qNu (cs:=csL) _ _ _ _ h
 ·exact (pss_cons (ps_if (PW.pt (pw_or (pt_not (pt_val (pe_callB call_isi (by rfl) (qAu B) (by decide +kernel) (pa_cons (pv 0) (pa_cons (pe_bltn (v := .ty "list") (by rfl) (qJa B) (by decide +kernel) rfl) pa_nil))))) (pw_or1 (pt_cmpR op_ne (pe_callB call_len (by rfl) (qDw B) (by decide +kernel) (pa_cons (pv 0) pa_nil)) (pe_callB call_len (by rfl) (qDw B) (by decide +kernel) (pa_cons (pv 1) pa_nil)) (nomark _))))) (pss_one (ps_ret pe_bl)) pss_nil)
 (pss_cons (ps_for (passes_of rfl) rfl (pi_range1 (by rfl) (qC5 B) (pa_cons (pe_callB call_len (by rfl) (qDw B) (by decide +kernel) (pa_cons (pv 1) pa_nil)) pa_nil)) (pg_name (i:=2) qIj.nd rfl (Or.inl rfl)) (pss_one (ps_if (pt_not (pt_val (qAj (dvs:=[]) (qAet B) (hr.mono (by decide)) rfl passL (pa_cons (pe_ix ix_list (pv 0) (pv 2) (λ_ _=>rfl)) (pa_cons (pe_ix ix_list (pv 1) (pv 2) (λ_ _=>rfl)) pa_nil))))) (pss_one (ps_ret pe_bl)) pss_nil)))
 (pss_one (ps_ret pe_bl))))
theorem qGa(B:Bd K mg):qFj pWW w K mg base 7 "_law_same_all" [] (lift K qC3):=by
 obtain ⟨fd,F,G⟩:=qOb (w:=w) (base:=base) B
 exact ⟨_,fd,["_law_values","_law_dues"],[],qLu B,F.kp,G,F.bindsN λ_ _ _ _ _ _ us hl=>match us,hl with | [_,_],_=>rfl, .nil⟩
theorem qJt(B:Bd K mg):∃ fd,FunD K "__init__" "Ratio.__init__" (defArgs qBg) (defBody qBg) (defScope qBg) [.int 1] [] (He.ma K (He.ga K "Ratio") "__init__") fd/\FnOk pWW w K mg base (CXX pWW w) 33 (He.ma K (He.ga K "Ratio") "__init__") fd ["self","top","bottom"] (qC2 K):=by
 obtain ⟨fd,F0⟩:=B.says.def_ 2 (d:=qJo) rfl
 have F:FunD K "__init__" "Ratio.__init__" (defArgs qBg) (defBody qBg) (defScope qBg) [.int 1] [] (He.ma K (He.ga K "Ratio") "__init__") fd:=F0
 refine ⟨fd,F,F.ok qGf (λvs H Q E h => ?_) (λcdv A outer s H vs Q E hr h=>⟨qLl K E, ?_,qM7 (RT B) vs H Q E h⟩)⟩
 ·first | (obtain ⟨_,rfl,_⟩:=h;rfl) | (obtain ⟨_,_,rfl,_⟩:=h;rfl) | (obtain ⟨_,_,_,rfl,_⟩:=h;rfl) | (obtain ⟨_,_,_,_,rfl,_⟩:=h;rfl) | (obtain ⟨_,_,_,_,_,rfl,_⟩:=h;rfl) | (obtain ⟨_,_,_,_,_,_,rfl,_⟩:=h;rfl) | (obtain ⟨_,_,_,_,_,_,_,rfl,_⟩:=h;rfl) | (obtain ⟨_,_,_,_,_,_,_,_,rfl,_⟩:=h;rfl) | (obtain ⟨_,_,_,_,_,_,_,_,_,rfl,_⟩:=h;rfl) | (obtain ⟨_,_,_,_,_,_,_,_,_,_,rfl,_⟩:=h;rfl) | (obtain ⟨_,_,_,_,_,_,_,_,_,_,_,rfl,_⟩:=h;rfl) | (obtain ⟨_,_,_,_,_,_,_,_,_,_,_,_,rfl,_⟩:=h;rfl)
 ·exact (pss_cons (ps_if (pt_not (pt_val (qAj (dvs:=[]) (qCn B) (hr.mono (by decide)) rfl passL (pa_cons (pv 1) pa_nil)))) (pss_one (qD7 rfl (qGe B) qNz (qH2 B) hr (takes_of rfl rfl rfl rfl) (pa_cons pe_str pa_nil))) pss_nil)
 (pss_cons (ps_if (pt_not (pt_val (qAj (dvs:=[]) (qCn B) (hr.mono (by decide)) rfl passL (pa_cons (pv 2) pa_nil)))) (pss_one (qD7 rfl (qGe B) qNz (qH2 B) hr (takes_of rfl rfl rfl rfl) (pa_cons pe_str pa_nil))) pss_nil)
 (pss_cons (ps_if (pt_cmpR op_eq (pv 2) pe_int (nomark _)) (pss_one (qD7 rfl (qGe B) qNz (qH2 B) hr (takes_of rfl rfl rfl rfl) (pa_cons pe_str pa_nil))) pss_nil)
 (pss_cons (ps_set (i:=3) qGf.nd rfl (Or.inl rfl) (qAj (dvs:=[]) (qQ1 B) (hr.mono (by decide)) rfl passL (pa_cons (pv 1) (pa_cons (pv 2) pa_nil))))
 (pss_cons (ps_if (pt_cmpR op_lt (pv 2) pe_int (nomark _)) (pss_one (ps_set (i:=3) qGf.nd rfl (Or.inl rfl) (pe_un un_neg (pv 3)))) pss_nil)
 (pss_cons (ps_fld (pv 0) (pe_op (qJ1 (see B) rfl (hr.mono (by decide))) (pv 1) (pv 3)) rfl)
 (pss_one (ps_fld (pv 0) (pe_op (qJ1 (see B) rfl (hr.mono (by decide))) (pv 2) (pv 3)) rfl))))))))
theorem qBh(B:Bd K mg):qAbd pWW w K mg base 33 "Ratio" (He.ga K "Ratio") [] (qC2 K):=by
 obtain ⟨fd,F,G⟩:=qJt (w:=w) (base:=base) B
 obtain ⟨ds,v,b⟩:=F.binds1 (ps:=["self","top","bottom"]) 3 1 (by simp) rfl λT kV doc pm an cdv ct us its hu hi=>match us,hu,its,hi with | [_,_,_],_,[_],_=>⟨_,rfl,rfl⟩
 exact ⟨_,fd,["self","top","bottom"],ds,qEk B,He.mkr_ok (B.says.fact 48 rfl),G,b,v⟩
theorem qIo(B:Bd K mg):qAbd pWW w K mg base 33 "Ratio" (He.ga K "Ratio") [.int 1] (qC2 K):=by
 obtain ⟨fd,F,G⟩:=qJt (w:=w) (base:=base) B
 obtain ⟨ds,v,b⟩:=F.binds1 (ps:=["self","top","bottom"]) 2 0 (by simp) rfl λT kV doc pm an cdv ct us its hu hi=>match us,hu,its,hi with | [_,_],_,[_],_=>⟨_,rfl,rfl⟩
 exact ⟨_,fd,["self","top","bottom"],ds,qEk B,He.mkr_ok (B.says.fact 48 rfl),G,b,v⟩
theorem qZp(B:Bd K mg):∃ fd,FunD K "_law_draw" "_law_draw" (defArgs qCx) (defBody qCx) (defScope qCx) [] [] (He.ga K "_law_draw") fd/\FnOk pWW w K mg base (CXX pWW w) 33 (He.ga K "_law_draw") fd ["_law_cell_here","_law_many","_law_base"] (lift K qMn):=by
 obtain ⟨fd,F0⟩:=B.says.def_ 20 (d:=qPh) rfl
 have F:FunD K "_law_draw" "_law_draw" (defArgs qCx) (defBody qCx) (defScope qCx) [] [] (He.ga K "_law_draw") fd:=F0
 refine ⟨fd,F,F.ok qDh (λvs H Q E h => ?_) (λcdv A outer s H vs Q E hr h=>⟨qKy K csL, ?_,qAad (KFB B) (by decide) vs H Q E h⟩)⟩
 ·exact qWz (cs:=csL) _ _ _ _ h
 ·exact (pss_cons (ps_set (i:=3) qDh.nd rfl (Or.inl rfl) (pe_lst pa_nil))
 (pss_cons (ps_set (i:=4) qDh.nd rfl (Or.inl rfl) pe_int)
 (pss_cons (ps_if (pt_cmpR op_ge (pv 0) (pe_op op_pow pe_int pe_int) (nomark _)) (pss_one (ps_set (i:=4) qDh.nd rfl (Or.inl rfl) (pv 0))) pss_nil)
 (pss_cons (ps_for (passes_of rfl) rfl (pi_range1 (by rfl) (qC5 B) (pa_cons (pv 1) pa_nil)) (pg_name (i:=5) qDh.nd rfl (Or.inl rfl)) (pss_one (ps_if (pt_cmpR op_gt (pv 4) pe_int (nomark _)) (pss_cons (ps_expr (pe_bm PySem.F.plainAttrs_list PySem.F.slot_list_append PySem.F.type_list_append mt_append (pv 3) (pa_cons (pe_op op_modN (pe_callTy call_int1 (by rfl) (qDc B) (by decide +kernel) (pa_cons (pv 4) pa_nil)) (pv 2)) pa_nil)))
 (pss_one (ps_set (i:=4) qDh.nd rfl (Or.inl rfl) (pe_op (qJ1 (see B) rfl (hr.mono (by decide))) (pv 4) (pv 2))))) (pss_cons (ps_set (i:=6) qDh.nd rfl (Or.inl rfl) (pe_op op_modN (pe_callTy call_int1 (by rfl) (qDc B) (by decide +kernel) (pa_cons (pe_op qAw (pe_op op_add (pe_op op_add (pv 0) (pe_op qAw pe_int (pv 5))) pe_int) pe_int) pa_nil)) pe_int))
 (pss_cons (ps_set (i:=6) qDh.nd rfl (Or.inl rfl) (pe_op op_modN (pe_callTy call_int1 (by rfl) (qDc B) (by decide +kernel) (pa_cons (pe_op qAw (pv 6) (pe_op op_add (pe_op (qJ1 (see B) rfl (hr.mono (by decide))) (pv 6) pe_int) pe_int)) pa_nil)) pe_int))
 (pss_cons (ps_set (i:=6) qDh.nd rfl (Or.inl rfl) (pe_op op_modN (pe_callTy call_int1 (by rfl) (qDc B) (by decide +kernel) (pa_cons (pe_op qAw (pv 6) (pe_op op_add (pe_op (qJ1 (see B) rfl (hr.mono (by decide))) (pv 6) pe_int) pe_int)) pa_nil)) pe_int))
 (pss_one (ps_expr (pe_bm PySem.F.plainAttrs_list PySem.F.slot_list_append PySem.F.type_list_append mt_append (pv 3) (pa_cons (pe_op op_modN (pe_callTy call_int1 (by rfl) (qDc B) (by decide +kernel) (pa_cons (pv 6) pa_nil)) (pv 2)) pa_nil))))))))))
 (pss_one (ps_ret (pv 3)))))))
theorem qRw(B:Bd K mg):qFj pWW w K mg base 33 "_law_draw" [] (lift K qMn):=by
 obtain ⟨fd,F,G⟩:=qZp (w:=w) (base:=base) B
 exact ⟨_,fd,["_law_cell_here","_law_many","_law_base"],[],qRs B,F.kp,G,F.bindsN λ_ _ _ _ _ _ us hl=>match us,hl with | [_,_,_],_=>rfl, .nil⟩
theorem qTh(B:Bd K mg):∃ fd,FunD K "__add__" "Ratio.__add__" (defArgs qBw) (defBody qBw) (defScope qBw) [] [] (He.ma K (He.ga K "Ratio") "__add__") fd/\FnOk pWW w K mg base (CXX pWW w) 35 (He.ma K (He.ga K "Ratio") "__add__") fd ["self","other"] (lift K (fR2 λa b=>a+b)):=by
 obtain ⟨fd,F0⟩:=B.says.def_ 3 (d:=qLa) rfl
 have F:FunD K "__add__" "Ratio.__add__" (defArgs qBw) (defBody qBw) (defScope qBw) [] [] (He.ma K (He.ga K "Ratio") "__add__") fd:=F0
 refine ⟨fd,F,F.ok qTd (λvs H Q E h => ?_) (λcdv A outer s H vs Q E hr h=>⟨qHr K csL, ?_,qSy (KFB B) (by decide) vs H Q E h⟩)⟩
 ·exact qPx (cs:=csL) _ _ _ _ h
 ·exact (pss_cons (ps_if (pt_val (pe_callB call_isi (by rfl) (qAu B) (by decide +kernel) (pa_cons (pv 1) (pa_cons (pe_glob (v := .ref (He.ga K "Ratio")) (by rfl) (qEk B) rfl) pa_nil)))) (pss_one (ps_ret (qD9 (dvs:=[]) (qBh B) (hr.mono (by decide)) rfl passL (pa_cons (pe_op op_add (pe_op qAw (pe_fld (pv 0) rfl) (pe_fld (pv 1) rfl)) (pe_op qAw (pe_fld (pv 1) rfl) (pe_fld (pv 0) rfl))) (pa_cons (pe_op qAw (pe_fld (pv 0) rfl) (pe_fld (pv 1) rfl)) pa_nil))))) pss_nil)
 (pss_cons (ps_if (pt_val (qAj (dvs:=[]) (qCn B) (hr.mono (by decide)) rfl passL (pa_cons (pv 1) pa_nil))) (pss_one (ps_ret (qD9 (dvs:=[]) (qBh B) (hr.mono (by decide)) rfl passL (pa_cons (pe_op op_add (pe_fld (pv 0) rfl) (pe_op qAw (pv 1) (pe_fld (pv 0) rfl))) (pa_cons (pe_fld (pv 0) rfl) pa_nil))))) pss_nil)
 (pss_one ps_never)))
theorem qVl(B:Bd K mg):qIh pWW w K mg base 35 (He.ga K "Ratio") "__add__" [] (lift K (fR2 λa b=>a+b)):=by
 obtain ⟨fd,F,G⟩:=qTh (w:=w) (base:=base) B
 exact ⟨_,fd,["self","other"],[],((KFB B).own _ (by decide)).cl,He.meth_ok (B.says.fact 49 rfl),G,F.bindsN λ_ _ _ _ _ _ us hl=>match us,hl with | [_,_],_=>rfl, .nil⟩
theorem qSx(B:Bd K mg):∃ fd,FunD K "__sub__" "Ratio.__sub__" (defArgs qBx) (defBody qBx) (defScope qBx) [] [] (He.ma K (He.ga K "Ratio") "__sub__") fd/\FnOk pWW w K mg base (CXX pWW w) 35 (He.ma K (He.ga K "Ratio") "__sub__") fd ["self","other"] (lift K (fR2 λa b=>a - b)):=by
 obtain ⟨fd,F0⟩:=B.says.def_ 4 (d:=qLc) rfl
 have F:FunD K "__sub__" "Ratio.__sub__" (defArgs qBx) (defBody qBx) (defScope qBx) [] [] (He.ma K (He.ga K "Ratio") "__sub__") fd:=F0
 refine ⟨fd,F,F.ok qS0 (λvs H Q E h => ?_) (λcdv A outer s H vs Q E hr h=>⟨qG9 K csL, ?_,qT3 (KFB B) (by decide) vs H Q E h⟩)⟩
 ·exact qQ9 (cs:=csL) _ _ _ _ h
 ·exact (pss_cons (ps_if (pt_val (pe_callB call_isi (by rfl) (qAu B) (by decide +kernel) (pa_cons (pv 1) (pa_cons (pe_glob (v := .ref (He.ga K "Ratio")) (by rfl) (qEk B) rfl) pa_nil)))) (pss_one (ps_ret (qD9 (dvs:=[]) (qBh B) (hr.mono (by decide)) rfl passL (pa_cons (pe_op op_sub (pe_op qAw (pe_fld (pv 0) rfl) (pe_fld (pv 1) rfl)) (pe_op qAw (pe_fld (pv 1) rfl) (pe_fld (pv 0) rfl))) (pa_cons (pe_op qAw (pe_fld (pv 0) rfl) (pe_fld (pv 1) rfl)) pa_nil))))) pss_nil)
 (pss_cons (ps_if (pt_val (qAj (dvs:=[]) (qCn B) (hr.mono (by decide)) rfl passL (pa_cons (pv 1) pa_nil))) (pss_one (ps_ret (qD9 (dvs:=[]) (qBh B) (hr.mono (by decide)) rfl passL (pa_cons (pe_op op_sub (pe_fld (pv 0) rfl) (pe_op qAw (pv 1) (pe_fld (pv 0) rfl))) (pa_cons (pe_fld (pv 0) rfl) pa_nil))))) pss_nil)
 (pss_one ps_never)))
theorem qV8(B:Bd K mg):qIh pWW w K mg base 35 (He.ga K "Ratio") "__sub__" [] (lift K (fR2 λa b=>a - b)):=by
 obtain ⟨fd,F,G⟩:=qSx (w:=w) (base:=base) B
 exact ⟨_,fd,["self","other"],[],((KFB B).own _ (by decide)).cl,He.meth_ok (B.says.fact 50 rfl),G,F.bindsN λ_ _ _ _ _ _ us hl=>match us,hl with | [_,_],_=>rfl, .nil⟩
theorem qS4(B:Bd K mg):∃ fd,FunD K "__mul__" "Ratio.__mul__" (defArgs qBu) (defBody qBu) (defScope qBu) [] [] (He.ma K (He.ga K "Ratio") "__mul__") fd/\FnOk pWW w K mg base (CXX pWW w) 35 (He.ma K (He.ga K "Ratio") "__mul__") fd ["self","other"] (lift K (fR2 λa b=>a*b)):=by
 obtain ⟨fd,F0⟩:=B.says.def_ 5 (d:=qK9) rfl
 have F:FunD K "__mul__" "Ratio.__mul__" (defArgs qBu) (defBody qBu) (defScope qBu) [] [] (He.ma K (He.ga K "Ratio") "__mul__") fd:=F0
 refine ⟨fd,F,F.ok qSi (λvs H Q E h => ?_) (λcdv A outer s H vs Q E hr h=>⟨qHp K csL, ?_,qRv (KFB B) (by decide) vs H Q E h⟩)⟩
 ·exact qPu (cs:=csL) _ _ _ _ h
 ·exact (pss_cons (ps_if (pt_val (pe_callB call_isi (by rfl) (qAu B) (by decide +kernel) (pa_cons (pv 1) (pa_cons (pe_glob (v := .ref (He.ga K "Ratio")) (by rfl) (qEk B) rfl) pa_nil)))) (pss_one (ps_ret (qD9 (dvs:=[]) (qBh B) (hr.mono (by decide)) rfl passL (pa_cons (pe_op qAw (pe_fld (pv 0) rfl) (pe_fld (pv 1) rfl)) (pa_cons (pe_op qAw (pe_fld (pv 0) rfl) (pe_fld (pv 1) rfl)) pa_nil))))) pss_nil)
 (pss_cons (ps_if (pt_val (qAj (dvs:=[]) (qCn B) (hr.mono (by decide)) rfl passL (pa_cons (pv 1) pa_nil))) (pss_one (ps_ret (qD9 (dvs:=[]) (qBh B) (hr.mono (by decide)) rfl passL (pa_cons (pe_op qAw (pe_fld (pv 0) rfl) (pv 1)) (pa_cons (pe_fld (pv 0) rfl) pa_nil))))) pss_nil)
 (pss_one ps_never)))
theorem qW5(B:Bd K mg):qIh pWW w K mg base 35 (He.ga K "Ratio") "__mul__" [] (lift K (fR2 λa b=>a*b)):=by
 obtain ⟨fd,F,G⟩:=qS4 (w:=w) (base:=base) B
 exact ⟨_,fd,["self","other"],[],((KFB B).own _ (by decide)).cl,He.meth_ok (B.says.fact 51 rfl),G,F.bindsN λ_ _ _ _ _ _ us hl=>match us,hl with | [_,_],_=>rfl, .nil⟩
theorem qUc(B:Bd K mg):∃ fd,FunD K "__neg__" "Ratio.__neg__" (defArgs qBy) (defBody qBy) (defScope qBy) [] [] (He.ma K (He.ga K "Ratio") "__neg__") fd/\FnOk pWW w K mg base (CXX pWW w) 35 (He.ma K (He.ga K "Ratio") "__neg__") fd ["self"] (lift K (fR1 λa => -a)):=by
 obtain ⟨fd,F0⟩:=B.says.def_ 7 (d:=qLe) rfl
 have F:FunD K "__neg__" "Ratio.__neg__" (defArgs qBy) (defBody qBy) (defScope qBy) [] [] (He.ma K (He.ga K "Ratio") "__neg__") fd:=F0
 refine ⟨fd,F,F.ok qRo (λvs H Q E h => ?_) (λcdv A outer s H vs Q E hr h=>⟨qHb K csL, ?_,qTe (KFB B) (by decide) vs H Q E h⟩)⟩
 ·exact qQg (cs:=csL) _ _ _ _ h
 ·exact (pss_one (ps_ret (qD9 (dvs:=[]) (qBh B) (hr.mono (by decide)) rfl passL (pa_cons (pe_un un_neg (pe_fld (pv 0) rfl)) (pa_cons (pe_fld (pv 0) rfl) pa_nil)))))
theorem qWp(B:Bd K mg):qIh pWW w K mg base 35 (He.ga K "Ratio") "__neg__" [] (lift K (fR1 λa => -a)):=by
 obtain ⟨fd,F,G⟩:=qUc (w:=w) (base:=base) B
 exact ⟨_,fd,["self"],[],((KFB B).own _ (by decide)).cl,He.meth_ok (B.says.fact 53 rfl),G,F.bindsN λ_ _ _ _ _ _ us hl=>match us,hl with | [_],_=>rfl, .nil⟩
theorem qWt(B:Bd K mg):∃ fd,FunD K "as_ratio" "as_ratio" (defArgs qCa) (defBody qCa) (defScope qCa) [] [] (He.ga K "as_ratio") fd/\FnOk pWW w K mg base (CXX pWW w) 35 (He.ga K "as_ratio") fd ["value","word"] (lift K (qFk csL)):=by
 obtain ⟨fd,F0⟩:=B.says.def_ 14 (d:=qMy) rfl
 have F:FunD K "as_ratio" "as_ratio" (defArgs qCa) (defBody qCa) (defScope qCa) [] [] (He.ga K "as_ratio") fd:=F0
 refine ⟨fd,F,F.ok qVv (λvs H Q E h => ?_) (λcdv A outer s H vs Q E hr h=>⟨qGg K csL E, ?_,qWj (KFB B) (by decide) vs H Q E h⟩)⟩
 ·exact qSr (cs:=csL) _ _ _ _ h
 ·exact (pss_cons (ps_if (pt_val (pe_callB call_isi (by rfl) (qAu B) (by decide +kernel) (pa_cons (pv 0) (pa_cons (pe_glob (v := .ref (He.ga K "Ratio")) (by rfl) (qEk B) rfl) pa_nil)))) (pss_one (ps_ret (pv 0))) pss_nil)
 (pss_cons (ps_if (pt_val (qAj (dvs:=[]) (qCn B) (hr.mono (by decide)) rfl passL (pa_cons (pv 0) pa_nil))) (pss_one (ps_ret (qD9 (dvs:=[.int 1]) (qIo B) (hr.mono (by decide)) rfl (qG8 (takes_of rfl rfl rfl rfl) λ_ _ _ _ z=>z) (pa_cons (pv 0) pa_nil)))) pss_nil)
 (pss_one (qD7 rfl (qSd B) qNz (qVm B) hr (takes_of rfl rfl rfl rfl) (pa_cons (pv 1) pa_nil)))))
theorem qKm(B:Bd K mg):qFj pWW w K mg base 35 "as_ratio" [] (lift K (qFk csL)):=by
 obtain ⟨fd,F,G⟩:=qWt (w:=w) (base:=base) B
 exact ⟨_,fd,["value","word"],[],qVn B,F.kp,G,F.bindsN λ_ _ _ _ _ _ us hl=>match us,hl with | [_,_],_=>rfl, .nil⟩
theorem qP2(B:Bd K mg):∃ fd,FunD K "over" "Ratio.over" (defArgs qBi) (defBody qBi) (defScope qBi) [] [] (He.ma K (He.ga K "Ratio") "over") fd/\FnOk pWW w K mg base (CXX pWW w) 35 (He.ma K (He.ga K "Ratio") "over") fd ["self","other"] (lift K qSj):=by
 obtain ⟨fd,F0⟩:=B.says.def_ 15 (d:=qJi) rfl
 have F:FunD K "over" "Ratio.over" (defArgs qBi) (defBody qBi) (defScope qBi) [] [] (He.ma K (He.ga K "Ratio") "over") fd:=F0
 refine ⟨fd,F,F.ok qJu (λvs H Q E h => ?_) (λcdv A outer s H vs Q E hr h=>⟨qE0 K csL E, ?_,qP0 (KFB B) (by decide) vs H Q E h⟩)⟩
 ·exact qOk (cs:=csL) _ _ _ _ h
 ·exact (pss_cons (ps_set (i:=2) qJu.nd rfl (Or.inl rfl) (pe_ifExp (pt_val (pe_callB call_isi (by rfl) (qAu B) (by decide +kernel) (pa_cons (pv 1) (pa_cons (pe_glob (v := .ref (He.ga K "Ratio")) (by rfl) (qEk B) rfl) pa_nil)))) (pv 1) (qD9 (dvs:=[.int 1]) (qIo B) (hr.mono (by decide)) rfl (qG8 (takes_of rfl rfl rfl rfl) λ_ _ _ _ z=>z) (pa_cons (pv 1) pa_nil))))
 (pss_cons (ps_if (pt_cmpR op_eq (pe_fld (pv 2) rfl) pe_int (nomark _)) (pss_one (qD7 rfl (qGe B) qNz (qH2 B) hr (takes_of rfl rfl rfl rfl) (pa_cons pe_str pa_nil))) pss_nil)
 (pss_one (ps_ret (qD9 (dvs:=[]) (qBh B) (hr.mono (by decide)) rfl (qG8 (takes_of rfl rfl rfl rfl) λ_ _ _ _ z=>z) (pa_cons (pe_op qAw (pe_fld (pv 0) rfl) (pe_fld (pv 2) rfl)) (pa_cons (pe_op qAw (pe_fld (pv 0) rfl) (pe_fld (pv 2) rfl)) pa_nil)))))))
theorem qR9(B:Bd K mg):qIh pWW w K mg base 35 (He.ga K "Ratio") "over" [] (lift K qSj):=by
 obtain ⟨fd,F,G⟩:=qP2 (w:=w) (base:=base) B
 exact ⟨_,fd,["self","other"],[],((KFB B).own _ (by decide)).cl,He.meth_ok (B.says.fact 59 rfl),G,F.bindsN λ_ _ _ _ _ _ us hl=>match us,hl with | [_,_],_=>rfl, .nil⟩
theorem qTn(B:Bd K mg):∃ fd,FunD K "_law_ratios" "_law_ratios" (defArgs qBp) (defBody qBp) (defScope qBp) [] [] (He.ga K "_law_ratios") fd/\FnOk pWW w K mg base (CXX pWW w) 35 (He.ga K "_law_ratios") fd ["_law_row_here"] (lift K qCe):=by
 obtain ⟨fd,F0⟩:=B.says.def_ 22 (d:=qK4) rfl
 have F:FunD K "_law_ratios" "_law_ratios" (defArgs qBp) (defBody qBp) (defScope qBp) [] [] (He.ga K "_law_ratios") fd:=F0
 refine ⟨fd,F,F.ok qG7 (λvs H Q E h => ?_) (λcdv A outer s H vs Q E hr h=>⟨qHm K csL, ?_,qTl (KFB B) (by decide) vs H Q E h⟩)⟩
 ·exact qQ6 (cs:=csL) _ _ _ _ h
 ·exact (pss_one (ps_ret (pe_lc (own:=[("_law_pair_here",1)]) (g:=(gName 1)) (tt:=tYes) rfl qG7.nd (pi_list (pv 0)) (blkOk_by (N:=["_law_row_here","_law_pair_here"]) (sc:=defScope qBp) (own:=[("_law_pair_here",1)]) (by decide +kernel)) (λ_ _ _ _ _=>pg_name (i:=1) qG7.nd rfl (Or.inl rfl)) (λ_ _ _ _ _=>pts_nil) (λ_ _ _ _ _=>(qD9 (dvs:=[]) (qBh B) (hr.mono (by decide)) rfl passL (pa_cons (pe_ix ix_tup (pv 1) pe_int (λ_ _=>rfl)) (pa_cons (pe_ix ix_tup (pv 1) pe_int (λ_ _=>rfl)) pa_nil)))))))
theorem qGj(B:Bd K mg):qFj pWW w K mg base 35 "_law_ratios" [] (lift K qCe):=by
 obtain ⟨fd,F,G⟩:=qTn (w:=w) (base:=base) B
 exact ⟨_,fd,["_law_row_here"],[],qN9 B,F.kp,G,F.bindsN λ_ _ _ _ _ _ us hl=>match us,hl with | [_],_=>rfl, .nil⟩
theorem qQa(B:Bd K mg):∃ fd,FunD K "_law_changed" "_law_changed" (defArgs qBl) (defBody qBl) (defScope qBl) [] [] (He.ga K "_law_changed") fd/\FnOk pWW w K mg base (CXX pWW w) 35 (He.ga K "_law_changed") fd ["_law_row_here","_law_cell_here"] (lift K qEq):=by
 obtain ⟨fd,F0⟩:=B.says.def_ 25 (d:=qJh) rfl
 have F:FunD K "_law_changed" "_law_changed" (defArgs qBl) (defBody qBl) (defScope qBl) [] [] (He.ga K "_law_changed") fd:=F0
 refine ⟨fd,F,F.ok qBt (λvs H Q E h => ?_) (λcdv A outer s H vs Q E hr h=>⟨qGl K csL, ?_,qQm (KFB B) (by decide) vs H Q E h⟩)⟩
 ·exact qOp (cs:=csL) _ _ _ _ h
 ·exact (pss_cons (ps_set (i:=2) qBt.nd rfl (Or.inl rfl) (qAj (dvs:=[]) (qRw B) (hr.mono (by decide)) rfl passL (pa_cons (pv 1) (pa_cons (pe_op op_add pe_int (pe_op qAw pe_int (pe_callB call_len (by rfl) (qDw B) (by decide +kernel) (pa_cons (pv 0) pa_nil)))) (pa_cons (pe_op op_pow pe_int pe_int) pa_nil)))))
 (pss_cons (ps_set (i:=3) qBt.nd rfl (Or.inl rfl) (pe_callTy call_list_of (by rfl) (qJa B) (by decide +kernel) (pa_cons (pv 0) pa_nil)))
 (pss_cons (ps_if (pt_cmpR op_eq (pe_op op_modN (pe_callTy call_int1 (by rfl) (qDc B) (by decide +kernel) (pa_cons (pe_ix ix_list (pv 2) pe_int (λ_ _=>rfl)) pa_nil)) pe_int) pe_int (nomark _)) (pss_one (ps_for (passes_of rfl) rfl (pi_range1 (by rfl) (qC5 B) (pa_cons (pe_callB call_len (by rfl) (qDw B) (by decide +kernel) (pa_cons (pv 0) pa_nil)) pa_nil)) (pg_name (i:=4) qBt.nd rfl (Or.inl rfl)) (pss_cons (ps_set (i:=8) qBt.nd rfl (Or.inl rfl) (pe_ix ix_list (pe_lst (pa_cons pe_int (pa_cons (pe_op op_pow pe_int pe_int) pa_nil))) (pe_op op_modN (pe_callTy call_int1 (by rfl) (qDc B) (by decide +kernel) (pa_cons (pe_ix ix_list (pv 2) pe_int (λ_ _=>rfl)) pa_nil)) pe_int) (λ_ _=>rfl)))
 (pss_one (ps_asg (pe_tup (pa_cons (pe_op op_sub (pe_op op_modN (pe_callTy call_int1 (by rfl) (qDc B) (by decide +kernel) (pa_cons (pe_ix ix_list (pv 2) (pe_op op_add pe_int (pe_op qAw pe_int (pv 4))) (λ_ _=>rfl)) pa_nil)) (pe_op op_add (pe_op qAw pe_int (pv 8)) pe_int)) (pv 8)) (pa_cons (pe_op op_add pe_int (pe_op op_modN (pe_callTy call_int1 (by rfl) (qDc B) (by decide +kernel) (pa_cons (pe_ix ix_list (pv 2) (pe_op op_add pe_int (pe_op qAw pe_int (pv 4))) (λ_ _=>rfl)) pa_nil)) pe_int)) pa_nil))) (pg_sub (pv 3) (pv 4) set_list)))))) pss_nil)
 (pss_cons (ps_for (passes_of rfl) rfl (pi_range1 (by rfl) (qC5 B) (pa_cons (pe_op op_modN (pe_callTy call_int1 (by rfl) (qDc B) (by decide +kernel) (pa_cons (pe_ix ix_list (pv 2) pe_int (λ_ _=>rfl)) pa_nil)) pe_int) pa_nil)) (pg_name (i:=4) qBt.nd rfl (Or.inl rfl)) (pss_cons (ps_set (i:=5) qBt.nd rfl (Or.inl rfl) (pe_op op_modN (pe_callTy call_int1 (by rfl) (qDc B) (by decide +kernel) (pa_cons (pe_ix ix_list (pv 2) (pe_op op_add pe_int (pe_op qAw pe_int (pv 4))) (λ_ _=>rfl)) pa_nil)) (pe_callB call_len (by rfl) (qDw B) (by decide +kernel) (pa_cons (pv 0) pa_nil))))
 (pss_cons (ps_set (i:=6) qBt.nd rfl (Or.inl rfl) (pe_ix ix_list (pe_lst (pa_cons pe_int (pa_cons pe_int (pa_cons (pe_op op_pow pe_int pe_int) pa_nil)))) (pe_op op_modN (pe_callTy call_int1 (by rfl) (qDc B) (by decide +kernel) (pa_cons (pe_ix ix_list (pv 2) pe_int (λ_ _=>rfl)) pa_nil)) pe_int) (λ_ _=>rfl)))
 (pss_cons (ps_set (i:=7) qBt.nd rfl (Or.inl rfl) (pe_op op_sub (pe_op op_modN (pe_callTy call_int1 (by rfl) (qDc B) (by decide +kernel) (pa_cons (pe_ix ix_list (pv 2) (pe_op op_add pe_int (pe_op qAw pe_int (pv 4))) (λ_ _=>rfl)) pa_nil)) pe_int) pe_int))
 (pss_one (ps_asg (pe_tup (pa_cons (pe_op op_add (pe_op qAw (pe_ix ix_tup (pe_ix ix_list (pv 3) (pv 5) (λ_ _=>rfl)) pe_int (λ_ _=>rfl)) (pv 6)) (pe_op qAw (pv 7) (pe_ix ix_tup (pe_ix ix_list (pv 3) (pv 5) (λ_ _=>rfl)) pe_int (λ_ _=>rfl)))) (pa_cons (pe_op qAw (pe_ix ix_tup (pe_ix ix_list (pv 3) (pv 5) (λ_ _=>rfl)) pe_int (λ_ _=>rfl)) (pv 6)) pa_nil))) (pg_sub (pv 3) (pv 5) set_list)))))))
 (pss_one (ps_ret (pv 3)))))))
theorem qUe(B:Bd K mg):qFj pWW w K mg base 35 "_law_changed" [] (lift K qEq):=by
 obtain ⟨fd,F,G⟩:=qQa (w:=w) (base:=base) B
 exact ⟨_,fd,["_law_row_here","_law_cell_here"],[],qNw B,F.kp,G,F.bindsN λ_ _ _ _ _ _ us hl=>match us,hl with | [_,_],_=>rfl, .nil⟩
theorem qS5(B:Bd K mg):∃ fd,FunD K "check_row" "check_row" (defArgs qBo) (defBody qBo) (defScope qBo) [.int 13] [] (He.ga K "check_row") fd/\FnOk pWW w K mg base (CXX pWW w) 37 (He.ga K "check_row") fd ["row","limit"] (lift K (qA6 csL)):=by
 obtain ⟨fd,F0⟩:=B.says.def_ 16 (d:=qLi) rfl
 have F:FunD K "check_row" "check_row" (defArgs qBo) (defBody qBo) (defScope qBo) [.int 13] [] (He.ga K "check_row") fd:=F0
 refine ⟨fd,F,F.ok qEm (λvs H Q E h => ?_) (λcdv A outer s H vs Q E hr h=>⟨qFu K csL E, ?_,qR0 (KFB B) (by decide) vs H Q E h⟩)⟩
 ·exact qQj (cs:=csL) _ _ _ _ h
 ·exact (pss_cons (ps_if (PW.pt (pw_or (pt_not (pt_val (pe_callB call_isiT (by rfl) (qAu B) (by decide +kernel) (pa_cons (pv 0) (pa_cons (pe_tup (pa_cons (pe_bltn (v := .ty "list") (by rfl) (qJa B) (by decide +kernel) rfl) (pa_cons (pe_bltn (v := .ty "tuple") (by rfl) (qPy B) (by decide +kernel) rfl) pa_nil))) pa_nil))))) (pw_or (pt_not (pt_truth (pv 0) (by intro _;rfl))) (pw_or1 (pt_cmpR op_gt (pe_callB call_len (by rfl) (qDw B) (by decide +kernel) (pa_cons (pv 0) pa_nil)) (pv 1) (nomark _)))))) (pss_one (qD7 rfl (qJx B) qMg (qL6 B) hr (takes_of rfl rfl rfl rfl) (pa_cons (pe_un un_neg pe_int) pa_nil))) pss_nil)
 (pss_cons (ps_for (passes_of rfl) rfl (qY9 (by rfl) (qLj B) (pa_cons (pv 0) pa_nil)) (pg_tup rfl (pgs_cons (pg_name (i:=2) qEm.nd rfl (Or.inl rfl)) (pgs_cons (pg_name (i:=3) qEm.nd rfl (Or.inl rfl)) pgs_nil))) (pss_one (ps_if (pt_not (pt_val (qAj (dvs:=[]) (qNp B) (hr.mono (by decide)) rfl passL (pa_cons (pv 3) pa_nil)))) (pss_one (qD7 rfl (qJx B) qMg (qL6 B) hr (takes_of rfl rfl rfl rfl) (pa_cons (pv 2) pa_nil))) pss_nil)))
 (pss_one (ps_ret (pe_lc (own:=[("item",3)]) (g:=(gName 3)) (tt:=tYes) rfl qEm.nd (qAjj (pv 0)) (blkOk_by (N:=["row","limit","index","item"]) (sc:=defScope qBo) (own:=[("item",3)]) (by decide +kernel)) (λ_ _ _ _ _=>pg_name (i:=3) qEm.nd rfl (Or.inl rfl)) (λ_ _ _ _ _=>pts_nil) (λ_ _ _ _ _=>(qAj (dvs:=[]) (qKm B) (hr.mono (by decide)) rfl passL (pa_cons (pv 3) (pa_cons pe_str pa_nil)))))))))
theorem qJg(B:Bd K mg):qFj pWW w K mg base 37 "check_row" [.int 13] (lift K (qA6 csL)):=by
 obtain ⟨fd,F,G⟩:=qS5 (w:=w) (base:=base) B
 obtain ⟨ds,v,b⟩:=F.binds1 (ps:=["row","limit"]) 1 0 (by simp) rfl λT kV doc pm an cdv ct us its hu hi=>match us,hu,its,hi with | [_],_,[_],_=>⟨_,rfl,rfl⟩
 exact ⟨_,fd,["row","limit"],ds,qLd B,F.kp,G,b,v⟩
theorem qQv(B:Bd K mg):∃ fd,FunD K "check_row" "check_row" (defArgs qA7) (defBody qA7) (defScope qA7) [.int 13] [] (He.ga K "check_row") fd/\FnOk pWW w K mg base (CXX pWW w) 37 (He.ga K "check_row") fd ["row","limit"] (qRx K (qA6 csL)):=by
 obtain ⟨fd,F0⟩:=B.says.def_ 30 (d:=qJv) rfl
 have F:FunD K "check_row" "check_row" (defArgs qA7) (defBody qA7) (defScope qA7) [.int 13] [] (He.ga K "check_row") fd:=F0
 refine ⟨fd,F,F.ok qD6 (λvs H Q E h => ?_) (λcdv A outer s H vs Q E hr h=>⟨qE2 K csL E, ?_,qP3 (KFB B) (by decide) vs H Q E h⟩)⟩
 ·exact qOf (cs:=csL) _ _ _ _ h
 ·exact (pss_cons (ps_if (PW.pt (pw_or (pt_not (pt_val (pe_callB call_isiT (by rfl) (qAu B) (by decide +kernel) (pa_cons (pv 0) (pa_cons (pe_tup (pa_cons (pe_bltn (v := .ty "list") (by rfl) (qJa B) (by decide +kernel) rfl) (pa_cons (pe_bltn (v := .ty "tuple") (by rfl) (qPy B) (by decide +kernel) rfl) pa_nil))) pa_nil))))) (pw_or (pt_not (pt_truth (pv 0) (by intro _;rfl))) (pw_or1 (pt_cmpR op_gt (pe_callB call_len (by rfl) (qDw B) (by decide +kernel) (pa_cons (pv 0) pa_nil)) (pv 1) (nomark _)))))) (pss_one (qD7 rfl (qJx B) qMg (qL6 B) hr (takes_of rfl rfl rfl rfl) (pa_cons (pe_un un_neg pe_int) pa_nil))) pss_nil)
 (pss_cons (ps_for (passes_of rfl) rfl (qY9 (by rfl) (qLj B) (pa_cons (pv 0) pa_nil)) (pg_tup rfl (pgs_cons (pg_name (i:=2) qD6.nd rfl (Or.inl rfl)) (pgs_cons (pg_name (i:=3) qD6.nd rfl (Or.inl rfl)) pgs_nil))) (pss_one (ps_if (pt_not (pt_val (qAj (dvs:=[]) (qNp B) (hr.mono (by decide)) rfl passL (pa_cons (pv 3) pa_nil)))) (pss_one (qD7 rfl (qJx B) qMg (qL6 B) hr (takes_of rfl rfl rfl rfl) (pa_cons (pv 2) pa_nil))) pss_nil)))
 (pss_one (ps_ret (pe_lc (own:=[("item",3)]) (g:=(gName 3)) (tt:=tYes) rfl qD6.nd (qAjj (pv 0)) (blkOk_by (N:=["row","limit","index","item"]) (sc:=defScope qA7) (own:=[("item",3)]) (by decide +kernel)) (λ_ _ _ _ _=>pg_name (i:=3) qD6.nd rfl (Or.inl rfl)) (λ_ _ _ _ _=>pts_nil) (λ_ _ _ _ _=>(qAj (dvs:=[]) (qKm B) (hr.mono (by decide)) rfl passL (pa_cons (pv 3) (pa_cons pe_str pa_nil)))))))))
theorem qN6(B:Bd K mg):qFj pWW w K mg base 37 "check_row" [.int 13] (qRx K (qA6 csL)):=by
 obtain ⟨fd,F,G⟩:=qQv (w:=w) (base:=base) B
 obtain ⟨ds,v,b⟩:=F.binds1 (ps:=["row","limit"]) 1 0 (by simp) rfl λT kV doc pm an cdv ct us its hu hi=>match us,hu,its,hi with | [_],_,[_],_=>⟨_,rfl,rfl⟩
 exact ⟨_,fd,["row","limit"],ds,qLd B,F.kp,G,b,v⟩
theorem qR8(B:Bd K mg):∃ fd,FunD K "moved_row" "moved_row" (defArgs qBn) (defBody qBn) (defScope qBn) [] [] (He.ga K "moved_row") fd/\FnOk pWW w K mg base (CXX pWW w) 39 (He.ga K "moved_row") fd ["row","by"] (lift K (qEo csL)):=by
 obtain ⟨fd,F0⟩:=B.says.def_ 28 (d:=qK8) rfl
 have F:FunD K "moved_row" "moved_row" (defArgs qBn) (defBody qBn) (defScope qBn) [] [] (He.ga K "moved_row") fd:=F0
 refine ⟨fd,F,F.ok qC7 (λvs H Q E h => ?_) (λcdv A outer s H vs Q E hr h=>⟨qFt K csL E, ?_,qTt (KFB B) (by decide) vs H Q E h⟩)⟩
 ·exact qPl (cs:=csL) _ _ _ _ h
 ·exact (pss_cons (ps_set (i:=2) qC7.nd rfl (Or.inr rfl) (qAj (dvs:=[.int 13]) (qJg B) (hr.mono (by decide)) rfl (qG8 (takes_of rfl rfl rfl rfl) λ_ _ _ _ z=>z) (pa_cons (pv 0) pa_nil)))
 (pss_cons (ps_set (i:=3) qC7.nd rfl (Or.inr rfl) (qAj (dvs:=[]) (qKm B) (hr.mono (by decide)) rfl (qG8 (takes_of rfl rfl rfl rfl) λ_ _ _ _ z=>z) (pa_cons (pv 1) (pa_cons pe_str pa_nil))))
 (pss_cons (ps_set (i:=4) qC7.nd rfl (Or.inl rfl) (pe_lst pa_nil))
 (pss_cons (ps_while (passes_of rfl) (pt_truth (pv 2) (by intro _;rfl)) (pss_cons (ps_expr (pe_bm PySem.F.plainAttrs_list PySem.F.slot_list_append PySem.F.type_list_append mt_append (pv 4) (pa_cons (pe_ix ix_list (pv 2) pe_int (λ_ _=>rfl)) pa_nil)))
 (pss_one (ps_set (i:=2) qC7.nd rfl (Or.inr rfl) (pe_lc (own:=[("k",5)]) (g:=(gName 5)) (tt:=tYes) rfl qC7.nd (pi_range1 (by rfl) (qC5 B) (pa_cons (pe_op op_sub (pe_callB call_len (by rfl) (qDw B) (by decide +kernel) (pa_cons (pv 2) pa_nil)) pe_int) pa_nil)) (blkOk_by (N:=["row","by","numbers","step","result","k"]) (sc:=defScope qBn) (own:=[("k",5)]) (by decide +kernel)) (λ_ _ _ _ _=>pg_name (i:=5) qC7.nd rfl (Or.inl rfl)) (λ_ _ _ _ _=>pts_nil) (λ_ _ _ _ _=>(pe_op (qAbc "add" (qVl B) (qK5 B) (hr.mono (by decide)) passL) (pe_ix ix_list (pv 2) (pe_op op_add (pv 5) pe_int) (λ_ _=>rfl)) (pe_op (qAbc "mul" (qW5 B) (qR1 B) (hr.mono (by decide)) passL) (pv 3) (pe_ix ix_list (pv 2) (pv 5) (λ_ _=>rfl))))))))))
 (pss_one (ps_ret (pv 4)))))))
theorem qVt(B:Bd K mg):qFj pWW w K mg base 39 "moved_row" [] (lift K (qEo csL)):=by
 obtain ⟨fd,F,G⟩:=qR8 (w:=w) (base:=base) B
 exact ⟨_,fd,["row","by"],[],qT0 B,F.kp,G,F.bindsN λ_ _ _ _ _ _ us hl=>match us,hl with | [_,_],_=>rfl, .nil⟩
theorem qOc(B:Bd K mg):∃ fd,FunD K "differences" "differences" (defArgs qAx) (defBody qAx) (defScope qAx) [] [] (He.ga K "differences") fd/\FnOk pWW w K mg base (CXX pWW w) 39 (He.ga K "differences") fd ["row"] (qIe K (qG1 csL)):=by
 obtain ⟨fd,F0⟩:=B.says.def_ 31 (d:=qIg) rfl
 have F:FunD K "differences" "differences" (defArgs qAx) (defBody qAx) (defScope qAx) [] [] (He.ga K "differences") fd:=F0
 refine ⟨fd,F,F.ok qCu (λvs H Q E h => ?_) (λcdv A outer s H vs Q E hr h=>⟨qF2 K csL, ?_,qOo (KFB B) (by decide) vs H Q E h⟩)⟩
 ·exact qNx (cs:=csL) _ _ _ _ h
 ·exact (pss_cons (ps_set (i:=1) qCu.nd rfl (Or.inl rfl) (pe_lst (pa_cons (qAj (dvs:=[.int 13]) (qN6 B) (hr.mono (by decide)) rfl passL (pa_cons (pv 0) pa_nil)) pa_nil)))
 (pss_cons (ps_while (passes_of rfl) (pt_cmpR op_gt (pe_callB call_len (by rfl) (qDw B) (by decide +kernel) (pa_cons (pe_ix ix_list (pv 1) (pe_un un_neg pe_int) (λ_ _=>rfl)) pa_nil)) pe_int (nomark _)) (pss_cons (ps_set (i:=2) qCu.nd rfl (Or.inl rfl) (pe_ix ix_list (pv 1) (pe_un un_neg pe_int) (λ_ _=>rfl)))
 (pss_one (ps_expr (pe_bm PySem.F.plainAttrs_list PySem.F.slot_list_append PySem.F.type_list_append mt_append (pv 1) (pa_cons (pe_lc (own:=[("one",3),("other",4)]) (g:=(gTup K 2 (gCons (gName 3) (gCons (gName 4) gNil)))) (tt:=tYes) rfl qCu.nd (pi_zip (by rfl) (qAon B) (pa_cons (pv 2) (pa_cons (pe_slice sl_list (pv 2) (po_some pe_int) po_none) pa_nil))) (blkOk_by (N:=["row","found","last","one","other"]) (sc:=defScope qAx) (own:=[("one",3),("other",4)]) (by decide +kernel)) (λ_ _ _ _ _=>pg_tup rfl (pgs_cons (pg_name (i:=3) qCu.nd rfl (Or.inl rfl)) (pgs_cons (pg_name (i:=4) qCu.nd rfl (Or.inl rfl)) pgs_nil))) (λ_ _ _ _ _=>pts_nil) (λ_ _ _ _ _=>(pe_op (qAbc "sub" (qV8 B) (qTz B) (hr.mono (by decide)) passL) (pv 3) (pv 4)))) pa_nil))))))
 (pss_one (ps_ret (pv 1)))))
theorem qJ0(B:Bd K mg):qFj pWW w K mg base 39 "differences" [] (qIe K (qG1 csL)):=by
 obtain ⟨fd,F,G⟩:=qOc (w:=w) (base:=base) B
 exact ⟨_,fd,["row"],[],qOi B,F.kp,G,F.bindsN λ_ _ _ _ _ _ us hl=>match us,hl with | [_],_=>rfl, .nil⟩
theorem qAae(B:Bd K mg):∃ fd,FunD K "centred" "centred" (defArgs qCz) (defBody qCz) (defScope qCz) [] [] (He.ga K "centred") fd/\FnOk pWW w K mg base (CXX pWW w) 41 (He.ga K "centred") fd ["row"] (lift K (qD5 csL)):=by
 obtain ⟨fd,F0⟩:=B.says.def_ 29 (d:=qPi) rfl
 have F:FunD K "centred" "centred" (defArgs qCz) (defBody qCz) (defScope qCz) [] [] (He.ga K "centred") fd:=F0
 refine ⟨fd,F,F.ok qPa (λvs H Q E h => ?_) (λcdv A outer s H vs Q E hr h=>⟨qH5 K csL E, ?_,qZx (KFB B) (by decide) vs H Q E h⟩)⟩
 ·exact qVy (cs:=csL) _ _ _ _ h
 ·exact (pss_cons (ps_set (i:=1) qPa.nd rfl (Or.inl rfl) (qAj (dvs:=[.int 13]) (qJg B) (hr.mono (by decide)) rfl (qG8 (takes_of rfl rfl rfl rfl) λ_ _ _ _ z=>z) (pa_cons (pv 0) pa_nil)))
 (pss_cons (ps_if (PW.pt (pw_or (pt_cmpR op_eq (pe_callB call_len (by rfl) (qDw B) (by decide +kernel) (pa_cons (pv 1) pa_nil)) pe_int (nomark _)) (pw_or1 (pt_cmpR (qAlc (qZr B) (qK5 B) (hr.mono (by decide)) passL) (pe_ix ix_list (pv 1) pe_int (λ_ _=>rfl)) pe_int (nomark _))))) (pss_one (qZj rfl (takes_of rfl rfl rfl rfl) (qAe5 B) (qR6 B))) pss_nil)
 (pss_one (ps_ret (qAj (dvs:=[]) (qVt B) (hr.mono (by decide)) rfl (qG8 (takes_of rfl rfl rfl rfl) λ_ _ _ _ z=>z) (pa_cons (pv 1) (pa_cons (pe_un (qAom (qWp B) (hr.mono (by decide)) passL) (qAgx (pe_ix ix_list (pv 1) pe_int (λ_ _=>rfl)) (qR9 B) (hr.mono (by decide)) (qG8 (takes_of rfl rfl rfl rfl) λ_ _ _ _ z=>z) (pa_cons (pe_ix ix_list (pv 1) pe_int (λ_ _=>rfl)) pa_nil))) pa_nil)))))))
theorem qR2(B:Bd K mg):qFj pWW w K mg base 41 "centred" [] (lift K (qD5 csL)):=by
 obtain ⟨fd,F,G⟩:=qAae (w:=w) (base:=base) B
 exact ⟨_,fd,["row"],[],qZu B,F.kp,G,F.bindsN λ_ _ _ _ _ _ us hl=>match us,hl with | [_],_=>rfl, .nil⟩
theorem qRk(B:Bd K mg):∃ fd,FunD K "_law_refused" "_law_refused" (defArgs qBm) (defBody qBm) (defScope qBm) [] [] (He.ga K "_law_refused") fd/\FnOk pWW w K mg base (CXX pWW w) 43 (He.ga K "_law_refused") fd ["_law_given"] (lift K (qBq csL)):=by
 obtain ⟨fd,F0⟩:=B.says.def_ 34 (d:=qKa) rfl
 have F:FunD K "_law_refused" "_law_refused" (defArgs qBm) (defBody qBm) (defScope qBm) [] [] (He.ga K "_law_refused") fd:=F0
 refine ⟨fd,F,F.ok qGq (λvs H Q E h => ?_) (λcdv A outer s H vs Q E hr h=>⟨qGi K csL, ?_,qQt (KFB B) (XOB B) (IOB B) (by decide) vs H Q E h⟩)⟩
 ·exact qN7 (cs:=csL) _ _ _ _ h
 ·exact (pss_cons (ps_set (i:=1) qGq.nd rfl (Or.inl rfl) pe_bl)
 (pss_cons (ps_try_only (tb:=λW=>(tDrop (tCallSD (lift K (qD5 csL)) [] (WE W) (tCons (tVar 0) tNil)))) (ts:=λa cls d=>(tAsg (tC (.bl true)) (gName 1))) (Wout:=(λ_ _ _ _=>False)) rfl rfl ⟨rfl,by decide,Or.inl (qR6 B)⟩ takes0 (λW pn xe tk _=>(pss_one (ps_expr (qAch (dvs:=[]) (qR2 B) (hr.mono (by decide)) rfl (λσ=>passAt tk σ) (pa_cons (pv 0) pa_nil))))) (λa oe cls d pn hz hf=>(pss_one (ps_set (i:=1) qGq.nd rfl (Or.inl rfl) pe_bl))))
 (pss_one (ps_ret (pv 1)))))
theorem qHj(B:Bd K mg):qFj pWW w K mg base 43 "_law_refused" [] (lift K (qBq csL)):=by
 obtain ⟨fd,F,G⟩:=qRk (w:=w) (base:=base) B
 exact ⟨_,fd,["_law_given"],[],qMr B,F.kp,G,F.bindsN λ_ _ _ _ _ _ us hl=>match us,hl with | [_],_=>rfl, .nil⟩
theorem qAjk(B:Bd K mg):∃ fd,FunD K "law" "law" (defArgs qF7) (defBody qF7) (defScope qF7) [] [] (He.ga K "law") fd/\FnOk pWW w K mg base CX0 45 (He.ga K "law") fd ["_law_script"] (qAko K):=by
 obtain ⟨fd,F0⟩:=B.says.def_ 35 (d:=qAij) rfl
 have F:FunD K "law" "law" (defArgs qF7) (defBody qF7) (defScope qF7) [] [] (He.ga K "law") fd:=F0
 refine ⟨fd,F,F.ok qC4 (λvs H Q E h => ?_) (λcdv A outer s H vs Q E hr h=>⟨qAdn K csL, ?_,qAou (KFB B) (by decide) vs H Q E h⟩)⟩
 ·first | (obtain ⟨_,rfl,_⟩:=h;rfl) | (obtain ⟨_,_,rfl,_⟩:=h;rfl) | (obtain ⟨_,_,_,rfl,_⟩:=h;rfl) | (obtain ⟨_,_,_,_,rfl,_⟩:=h;rfl) | (obtain ⟨_,_,_,_,_,rfl,_⟩:=h;rfl) | (obtain ⟨_,_,_,_,_,_,rfl,_⟩:=h;rfl) | (obtain ⟨_,_,_,_,_,_,_,rfl,_⟩:=h;rfl) | (obtain ⟨_,_,_,_,_,_,_,_,rfl,_⟩:=h;rfl) | (obtain ⟨_,_,_,_,_,_,_,_,_,rfl,_⟩:=h;rfl) | (obtain ⟨_,_,_,_,_,_,_,_,_,_,rfl,_⟩:=h;rfl) | (obtain ⟨_,_,_,_,_,_,_,_,_,_,_,rfl,_⟩:=h;rfl) | (obtain ⟨_,_,_,_,_,_,_,_,_,_,_,_,rfl,_⟩:=h;rfl)
 ·exact (pss_cons (ps_set (i:=1) qC4.nd rfl (Or.inl rfl) (qAj (dvs:=[]) (qRw B) (hr.mono (by decide)) rfl passL (pa_cons (qAj (dvs:=[]) (qRu B) (hr.mono (by decide)) rfl passL (pa_cons (pv 0) (pa_cons pe_int pa_nil))) (pa_cons pe_int (pa_cons (pe_op op_pow pe_int pe_int) pa_nil)))))
 (pss_cons (ps_set (i:=2) qC4.nd rfl (Or.inl rfl) (pe_op op_add pe_int (pe_op op_modN (pe_callTy call_int1 (by rfl) (qDc B) (by decide +kernel) (pa_cons (pe_ix ix_list (pv 1) pe_int (λ_ _=>rfl)) pa_nil)) (pe_ix ix_list (pe_lst (pa_cons pe_int (pa_cons (pe_op op_pow pe_int pe_int) pa_nil))) (pe_op op_modN (pe_callTy call_int1 (by rfl) (qDc B) (by decide +kernel) (pa_cons (pe_ix ix_list (pv 1) pe_int (λ_ _=>rfl)) pa_nil)) pe_int) (λ_ _=>rfl)))))
 (pss_cons (ps_set (i:=3) qC4.nd rfl (Or.inr rfl) (pe_lst pa_nil))
 (pss_cons (ps_set (i:=4) qC4.nd rfl (Or.inr rfl) (pe_lst pa_nil))
 (pss_cons (ps_for (passes_of rfl) rfl (pi_range1 (by rfl) (qC5 B) (pa_cons (pe_op op_modN (pe_callTy call_int1 (by rfl) (qDc B) (by decide +kernel) (pa_cons (pe_ix ix_list (pv 1) pe_int (λ_ _=>rfl)) pa_nil)) pe_int) pa_nil)) (pg_name (i:=5) qC4.nd rfl (Or.inl rfl)) (pss_cons (ps_set (i:=13) qC4.nd rfl (Or.inl rfl) (pe_op op_modN (pe_callTy call_int1 (by rfl) (qDc B) (by decide +kernel) (pa_cons (pe_ix ix_list (pv 1) (pe_op op_add pe_int (pe_op qAw pe_int (pv 5))) (λ_ _=>rfl)) pa_nil)) (pe_op op_add (pv 2) pe_int)))
 (pss_one (ps_if (pt_cmpR op_notIn_seq (pv 13) (pv 3) (by with_unfolding_all rfl)) (pss_cons (ps_expr (pe_bm PySem.F.plainAttrs_list PySem.F.slot_list_append PySem.F.type_list_append mt_append (pv 3) (pa_cons (pv 13) pa_nil)))
 (pss_one (ps_expr (pe_bm PySem.F.plainAttrs_list PySem.F.slot_list_append PySem.F.type_list_append mt_append (pv 4) (pa_cons (pe_op op_add pe_int (pe_op op_modN (pe_callTy call_int1 (by rfl) (qDc B) (by decide +kernel) (pa_cons (pe_ix ix_list (pv 1) (pe_op op_add pe_int (pe_op qAw pe_int (pv 5))) (λ_ _=>rfl)) pa_nil)) pe_int)) pa_nil))))) pss_nil))))
 (pss_cons (ps_set (i:=6) qC4.nd rfl (Or.inl rfl) (pe_op op_add pe_int (pe_op op_modN (pe_callTy call_int1 (by rfl) (qDc B) (by decide +kernel) (pa_cons (pe_ix ix_list (pv 1) pe_int (λ_ _=>rfl)) pa_nil)) pe_int)))
 (pss_cons (ps_set (i:=7) qC4.nd rfl (Or.inl rfl) (pe_op op_add pe_int (pe_op op_modN (pe_callTy call_int1 (by rfl) (qDc B) (by decide +kernel) (pa_cons (pe_ix ix_list (pv 1) pe_int (λ_ _=>rfl)) pa_nil)) pe_int)))
 (pss_cons (ps_set (i:=8) qC4.nd rfl (Or.inl rfl) (qAj (dvs:=[]) (qZa B) (hr.mono (by decide)) rfl passL (pa_cons (pv 3) (pa_cons (pv 4) (pa_cons (pv 6) (pa_cons (pv 2) (pa_cons (pv 7) pa_nil)))))))
 (pss_cons (ps_for (passes_of rfl) rfl (pi_list (pe_lst (pa_cons (pv 8) (pa_cons (qAj (dvs:=[]) (qUe B) (hr.mono (by decide)) rfl passL (pa_cons (pv 8) (pa_cons (qAj (dvs:=[]) (qRu B) (hr.mono (by decide)) rfl passL (pa_cons (pv 0) (pa_cons pe_int pa_nil))) pa_nil))) pa_nil)))) (pg_name (i:=9) qC4.nd rfl (Or.inl rfl)) (pss_cons (ps_set (i:=14) qC4.nd rfl (Or.inl rfl) (qAj (dvs:=[]) (qGj B) (hr.mono (by decide)) rfl passL (pa_cons (pv 9) pa_nil)))
 (pss_cons (ps_set (i:=15) qC4.nd rfl (Or.inl rfl) (qAj (dvs:=[]) (qJ0 B) (hr.mono (by decide)) rfl passL (pa_cons (pv 14) pa_nil)))
 (pss_cons (ps_set (i:=12) qC4.nd rfl (Or.inl rfl) (qAj (dvs:=[]) (qZy B) (hr.mono (by decide)) rfl passL (pa_cons (pv 9) pa_nil)))
 (pss_cons (ps_if (PW.pt (pw_or (pt_not (pt_val (pe_callB call_isi (by rfl) (qAu B) (by decide +kernel) (pa_cons (pv 15) (pa_cons (pe_bltn (v := .ty "list") (by rfl) (qJa B) (by decide +kernel) rfl) pa_nil))))) (pw_or1 (pt_cmpR op_ne (pe_callB call_len (by rfl) (qDw B) (by decide +kernel) (pa_cons (pv 15) pa_nil)) (pv 7) (nomark _))))) (pss_one (ps_ret pe_bl)) pss_nil)
 (pss_cons (ps_for (passes_of rfl) rfl (pi_range1 (by rfl) (qC5 B) (pa_cons (pv 7) pa_nil)) (pg_name (i:=5) qC4.nd rfl (Or.inl rfl)) (pss_cons (ps_if (pt_not (pt_val (qAj (dvs:=[]) (qGa B) (hr.mono (by decide)) rfl passL (pa_cons (pe_ix ix_list (pv 15) (pv 5) (λ_ _=>rfl)) (pa_cons (pe_ix ix_list (pv 12) (pv 5) (λ_ _=>rfl)) pa_nil))))) (pss_one (ps_ret pe_bl)) pss_nil) (pss_one (ps_if (PW.pt (pw_and (pt_cmpR (qAkq hr) (pv 9) (pv 8) (nomark _)) (pw_and1 (pt_cmpR op_gt (pe_callB call_len (by rfl) (qDw B) (by decide +kernel) (pa_cons (pe_lc (own:=[("_law_pair_here",17)]) (g:=(gName 17)) (tt:=(tTest (tOp rLt0 (tOp (rIxT K) (tVar 17) (tC (.int 0))) (tC (.int 0))))) rfl qC4.nd (pi_list (pe_ix ix_list (pv 12) (pv 5) (λ_ _=>rfl))) (blkOk_by (N:=["_law_script","_law_digits","_law_bottom","_law_tops","_law_parts","_law_k","_law_under","_law_size","_law_good","_law_row_here","_law_total","_law_first","_law_due","_law_top","_law_given","_law_told","_law_at","_law_pair_here"]) (sc:=defScope qF7) (own:=[("_law_pair_here",17)]) (by decide +kernel)) (λ_ _ _ _ _=>pg_name (i:=17) qC4.nd rfl (Or.inl rfl)) (λ_ _ _ _ _=>pts_one (pt_cmpR op_lt (pe_ix ix_tup (pv 17) pe_int (λ_ _=>rfl)) pe_int (nomark _))) (λ_ _ _ _ _=>(pv 17))) pa_nil)) pe_int (nomark _))))) (pss_one (ps_ret pe_bl)) pss_nil))))
 (pss_cons (ps_expr (pe_bm PySem.F.plainAttrs_list PySem.F.slot_list_append PySem.F.type_list_append mt_append (pe_ix ix_list (pv 15) pe_int (λ_ _=>rfl)) (pa_cons pe_non pa_nil)))
 (pss_one (ps_if (PW.pt (pw_or (pt_not (pt_val (qAj (dvs:=[]) (qGa B) (hr.mono (by decide)) rfl passL (pa_cons (pv 14) (pa_cons (pv 9) pa_nil))))) (pw_or1 (pt_cmpR op_ne (pe_callB call_len (by rfl) (qDw B) (by decide +kernel) (pa_cons (pe_ix ix_list (qAj (dvs:=[]) (qJ0 B) (hr.mono (by decide)) rfl passL (pa_cons (pe_callTy call_tuple_of (by rfl) (qPy B) (by decide +kernel) (pa_cons (pv 14) pa_nil)) pa_nil)) pe_int (λ_ _=>rfl)) pa_nil)) (pv 7) (nomark _))))) (pss_one (ps_ret pe_bl)) pss_nil)))))))))
 (pss_cons (ps_if (PW.pt (pw_or (pt_cmpR op_eq (pv 7) pe_int (nomark _)) (pw_or1 (pt_not (pt_truth (pv 3) (by intro _;rfl)))))) (pss_one (ps_ret (pe_and (qAj (dvs:=[]) (qHj B) (hr.mono (by decide)) rfl passL (pa_cons (qAj (dvs:=[]) (qGj B) (hr.mono (by decide)) rfl passL (pa_cons (pv 8) pa_nil)) pa_nil)) (pe_one (qAj (dvs:=[]) (qHj B) (hr.mono (by decide)) rfl passL (pa_cons (pe_op op_rep (pe_lst (pa_cons pe_int pa_nil)) (pv 7)) pa_nil)))))) pss_nil)
 (pss_cons (ps_set (i:=10) qC4.nd rfl (Or.inr rfl) (pe_callB (cr_sum rfl) (by rfl) (qAd7 B) (by decide +kernel) (pa_cons (pv 4) pa_nil)))
 (pss_cons (ps_set (i:=11) qC4.nd rfl (Or.inr rfl) (pe_callB (cr_sum rfl) (by rfl) (qAd7 B) (by decide +kernel) (pa_cons (pe_lc (own:=[("_law_at",16)]) (g:=(gName 16)) (tt:=tYes) rfl qC4.nd (pi_range1 (by rfl) (qC5 B) (pa_cons (pe_callB call_len (by rfl) (qDw B) (by decide +kernel) (pa_cons (pv 3) pa_nil)) pa_nil)) (blkOk_by (N:=["_law_script","_law_digits","_law_bottom","_law_tops","_law_parts","_law_k","_law_under","_law_size","_law_good","_law_row_here","_law_total","_law_first","_law_due","_law_top","_law_given","_law_told","_law_at","_law_pair_here"]) (sc:=defScope qF7) (own:=[("_law_at",16)]) (by decide +kernel)) (λ_ _ _ _ _=>pg_name (i:=16) qC4.nd rfl (Or.inl rfl)) (λ_ _ _ _ _=>pts_nil) (λ_ _ _ _ _=>(pe_op qAw (pe_ix ix_list (pv 4) (pv 16) (λ_ _=>rfl)) (pe_ix ix_list (pv 3) (pv 16) (λ_ _=>rfl))))) pa_nil)))
 (pss_cons (ps_set (i:=12) qC4.nd rfl (Or.inl rfl) (qAj (dvs:=[]) (qZa B) (hr.mono (by decide)) rfl passL (pa_cons (pe_lc (own:=[("_law_top",13)]) (g:=(gName 13)) (tt:=tYes) rfl qC4.nd (pi_list (pv 3)) (blkOk_by (N:=["_law_script","_law_digits","_law_bottom","_law_tops","_law_parts","_law_k","_law_under","_law_size","_law_good","_law_row_here","_law_total","_law_first","_law_due","_law_top","_law_given","_law_told","_law_at","_law_pair_here"]) (sc:=defScope qF7) (own:=[("_law_top",13)]) (by decide +kernel)) (λ_ _ _ _ _=>pg_name (i:=13) qC4.nd rfl (Or.inl rfl)) (λ_ _ _ _ _=>pts_nil) (λ_ _ _ _ _=>(pe_op op_sub (pe_op qAw (pv 13) (pv 10)) (pv 11)))) (pa_cons (pv 4) (pa_cons (pv 6) (pa_cons (pe_op qAw (pv 2) (pv 10)) (pa_cons (pv 7) pa_nil)))))))
 (pss_one (ps_ret (pe_and (qAj (dvs:=[]) (qGa B) (hr.mono (by decide)) rfl passL (pa_cons (qAj (dvs:=[]) (qR2 B) (hr.mono (by decide)) rfl passL (pa_cons (qAj (dvs:=[]) (qGj B) (hr.mono (by decide)) rfl passL (pa_cons (pv 8) pa_nil)) pa_nil)) (pa_cons (pv 12) pa_nil))) (pe_one (qAj (dvs:=[]) (qHj B) (hr.mono (by decide)) rfl passL (pa_cons (pe_op op_cat (pe_lst (pa_cons pe_int pa_nil)) (pe_slice sl_list (qAj (dvs:=[]) (qGj B) (hr.mono (by decide)) rfl passL (pa_cons (pv 8) pa_nil)) (po_some pe_int) po_none)) pa_nil)))))))))))))))))))
end
end MR
open PySem PySem.W PySem.Calls PyProof.Rows
set_option maxRecDepth 100000 in
set_option maxHeartbeats 0 in
theorem PySem.Challenge.cw_momentrows_k62_centred_rows_and_differen_holds : PySem.Challenge.rw_momentrows_k62_centred_rows_and_differen.Holds := by
 refine MR.qArl ?hc
 case hc=>
  refine L2.walk_ofE (l:=rWW) (n:=63) (k:=45) (x:="_law_script") (CX:=L2.CX0) rfl (by decide) MR.dfK ⟨rfl,by decide,by decide⟩ ?F (λ_ _ _ _ z=>z)
  intro w mg fa h Y G hmg0
  obtain ⟨K,KX,c⟩:=Y
  have hmg:mg ("law":PySem.Str)=some (.ref fa):=by
   have e:(HandSHeadRun.topDef (OpenLaw.row rWW).prog 37).name=("law":PySem.Str):=MR.nmK
   rw [<-e]
   exact hmg0
  have B:MR.Bd K mg:=⟨⟨h,KX,G⟩,c⟩
  have e:=hmg.symm.trans (MR.qAno B)
  cases e
  obtain ⟨fd0,F,_⟩:=MR.qAjk (w:=w) (base:=h) B
  have b:=L2.FunD.bindsA (ps:=["_law_script"]) F λ_ _ _ _ _ _ us hl=>match us,hl with | [_],_=>rfl
  refine ⟨K,fd0,MR.qAko K,KX,λs u=>b s [u] rfl,λH a ns hl _ hS=>⟨a,ns,rfl,hS,hl,λ_=>rfl⟩,λbase _ _ => ?_⟩
  obtain ⟨fd1,F1,G1⟩:=MR.qAjk (w:=w) (base:=base) B
  have e2:fd1=fd0:=MR.qAhm F1 F
  rw [<-e2]
  exact G1
