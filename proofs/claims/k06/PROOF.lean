import PyProof.Rows.All
import Wide.All
import OpenK.AllK
import Wide.FinOn
import KE.KStateDown
import KE.KExcSuper
import Lean
import HandS.ForMost
import HandS.ForExc
import HandS.ExcField
import HandS.More
import HandS.Defaults
import HandS.IsInst
import HandS.Wide
import HandS.Evl
import HandS.StrMore
import HandS.HeadEnd
import HandS.CallSlots
import PyProof.ReprRoads
import HandS.Head0
import HandS.Head1
import HandS.Head2
import HandS.HeadHook1
import HandS.HeadHook2
import HandS.HeadNt
import HandS.ClsMeth
import KE.KNestM
import PySem.Challenge.RW_whichmatch_k06_schemas_refused
import HandS.Codes
import HandS.Walk
import PyProof.ReprLen
import HandS.ExcInit
import KE.KExcIs
import HandS.Strs
import KE.GoesEnum
import HandS.TupAny
import HandS.Flow
import HandS.Star
import HandS.TryMany
import HandS.Lambda
import HandS.Dict
import KE.KDictKeyed
import HandS.MakeKwOnly
import HandS.Deep
import HandS.Style
import KE.KOpsOwn
import HandS.SlotsOwn
import HandS.Property
import HandS.OwnEq
import KE.KUnpackStar
import HandS.HotCalls
import HandS.Zip
import KE.KSuper
import HandS.Small
import HandS.DictComp
import KE.SortData
import HandS.DictTup
import KE.KDictSum
import KE.KIndexOf
import HandS.TupLe
import HandS.List
set_option Elab.async false
set_option linter.all false
set_option maxRecDepth 100000
set_option maxHeartbeats 4000000
namespace PySem
namespace WErr
open PySem.W PySem.Calls PyProof.Rows PySem.HandSPX
structure PsE where
 (a1 a2 a3 a5 a6 a7 q1 q2 q3 q4:Pos) (k:Nat) (txt:Str)
def eB (fl:Str) (p:PsE):List Stmt :=
 [.Expr (.Call (.Attribute (.Call (.Name "super" p.a1) [] [] p.a2) "__init__" p.a3) [.Constant (.str p.txt) p.k p.a5] [] p.a6) p.a7,
  .Assign [.Attribute (.Name "self" p.q1) fl p.q2] (.Name fl p.q3) p.q4]
def eS (fl:Str):Scope:={ kind:=.function,names:=[("self",.local),(fl,.local),("__class__",.free),("super",.globalImplicit)],isGenerator:=false,isCoroutine:=false,more:=[] }
/-- what the written part says of the class at C and of its __init__ at fI -/
structure ErrTxt (prog:Program) (K:Frag) (mg:Str→Option Value) (x fl:Str) (C fI:Addr):Prop where
 gC:mg x=some (.ref C)
 cls:∃ nm q N bs bm sn sub ab col dd k0 k1 k2 k3 k5,K.lookup C=some (excClassObj nm q C N bs bm true sn sub ab col dd k0 k1 k2 k3 k5 "ValueError.__new__")∧refsVE bm=true
 sa:findIn K (.ref C) "__setattr__" = some (some (.builtin "object.__setattr__"))
 xf:L2.XfC K C
 noF:findIn K (.ref C) fl=some none
 iC:findIn K (.ref C) "__init__" = some (some (.ref fI))
 tC:typeIn K (.ref fI)=some (.type "function")
 kC:keepIn K (.ref C)=true
 exC:subIn K (.ref C) (.type "BaseException")=some true
 tyC:typeIn K (.ref C)=some (.type "type")
 sup:ks_superIn K C C "__init__" = some (some (.builtin "ValueError.__init__"))
 ve:subIn K (.ref C) (.type "ValueError")=some true
 any:nsIn K cStatics "thirdparty.any" = some none
 own:mroIn K C (.ref C)=some true
 gS:mg "super" = none
 htop:(prog.main.scope.names.lookup ("super" : Str)).isSome=false
 fn:∃ (oc:Value) (od:Option Addr) (qual:Str) (params:Arguments) (doc pm kV:Value) (an:Option Addr) (cda cc:Addr) (ct:Value) (osl:Array (Option Value)) (p:PsE) (ar:Arg),
  K.lookup fI=some ⟨oc,od,.func (ksFn "__init__" qual params (eB fl p) (eS fl) .none kV doc pm an (.ref cda) ct cc),osl⟩∧codeIn K (.ref cda) qual=true ∧
  (params.posonlyargs++params.args).head?=some ar∧ar.arg = "self" ∧
  (∃ ccl cdd vs ccs file tf,K.lookup cda=some ⟨ccl,cdd,.fields vs,ccs⟩∧vs[2]?=some (.str file tf)∧((prog.main.file:Str) == file)=true) ∧
  (∃ cl cld csl,K.lookup cc=some ⟨cl,cld,.cell (some (.ref C)),csl⟩) ∧
  (eS fl).names.lookup ("super" : Str)=some .globalImplicit∧(eS fl).names.lookup ("__class__" : Str)=some .free∧(eS fl).names.lookup ("self" : Str)=some .local∧(eS fl).names.lookup fl=some .local ∧
  fl ≠ "self" ∧ (fl == ("__debug__" : Str))=false∧(fl == ("__class__" : Str))=false ∧
  (∀ L f:Addr,∃ pl:Sem Bool,eval (.Call (.Attribute (.Call (.Name "super" p.a1) [] [] p.a2) "__init__" p.a3) [.Constant (.str p.txt) p.k p.a5] [] p.a6) (ksEnv qual (eS fl) L f (.ref cda) cc)=(do
   let ov ← attributeBase (.Call (.Name "super" p.a1) [] [] p.a2) "__init__" (ksEnv qual (eS fl) L f (.ref cda) cc) (eval (.Call (.Name "super" p.a1) [] [] p.a2) (ksEnv qual (eS fl) L f (.ref cda) cc))
   standAt p.a3.atName
   let (f1,first) ← holding [ov] (getMethod ov "__init__" pl)
   callWith p.a6 f1 first (backTo p.a6 (starEach [.Constant (.str p.txt) p.k p.a5] (ksEnv qual (eS fl) L f (.ref cda) cc))) [])) ∧
  (∀ (a b:Value),bindArgs (ksFn "__init__" qual params (eB fl p) (eS fl) .none kV doc pm an (.ref cda) ct cc) ⟨[a,b],[]⟩ = pure [(("self" : Str),a),(fl,b)])
/-- what __init__ leaves of a fresh exception at x -/
structure InitEnd (h h':Heap) (x C dx t1:Addr) (fl:Str) (v:Value):Prop where
 keep:∀ b o,b ≠ x→h.get? b=some o→h'.get? b=some o
 obj:h'.get? x=some { cls:=.ref C,dict:=some dx,data:=.fields #[.ref t1,.none,.none,.none,.bool false,.none] }
 dbig:h.objs.size≤dx
 dne:dx ≠ x
 ns:h'.Ns1 dx (fun y=>if y=fl then some v else none)
theorem one_size (v:Value):[v].length≤sizeLine:=by
 rw[sizeLine_eq]
 exact (by decide:1≤16777216)
section
variable {prog:Program} {w:World} {A:Around} {E:Value→Shared→Prop} {R:Result→Shared→Prop} {s:Shared} {K:Frag} {mg mb:Str→Option Value} {x0 fl:Str} {C fI:Addr}
theorem ldK {M:Model} {s:Shared} {env:Env} {m:Str→Option Value} {x:Str} {pos:Pos} {v:Value} {Q:Value→Shared→Prop} {A:Around} {E:Value→Shared→Prop} (hk:env.scope.kind=.function) (hl:env.kindOf x=some .local) (hn:s.heap.Ns env.locals m) (hv:m x=some v) (h:Q v s)
  (hd:(x == ("__debug__" : Str))=false):wpAny M A (eval (.Name x pos) env) Q E s:=wpAny_Name (wpAny_loadName_local hk hl hn hv h) hd
theorem err_init (T:ErrTxt prog K mg x0 fl C fI) {x t0:Addr} {v:Value} (X:K.In s.heap) (hlim:s.heap.NoLimit) (hg:s.heap.Ns mainGlobals mg) (hb:s.heap.Ns builtinsNs mb) (hbb:∀ x:Str,x ≠ "__name__" → mb x=bootBuiltins x)
  (hx:s.heap.get? x=some (excO C t0)) (hnx:K.lookup x=none) (hroom:A.depth < recursionLimit)
  (hq:∀ h' tk dx t1,InitEnd s.heap h' x C dx t1 fl v→R (.ok (.ret .none)) { s with heap:=h',toks:=tk }) :
  codeAny (model prog w) A (.call (.ref fI) ⟨[.ref x,v],[]⟩) R s:=by
 obtain⟨oc,od,qual,params,doc,pm,kV,an,cda,cc,ct,osl,p,ar,ho,hcd,hp,har,⟨ccl,cdd,vs,ccs,file,tf,hcode,hvs,hfile⟩,⟨cl,cld,csl,hcell⟩,hks,hkc,hka,hkF,hFs,hFd,hFc,hev,hbind⟩:=T.fn
 obtain⟨nm,q,N,bs,bm,sn,sub,ab,col,dd,k0,k1,k2,k3,k5,hC,hbm⟩:=T.cls
 have hcl:clsIn K C=some { name:=nm,bases:=bs,mro:=.ref C :: bm,ns:=N,qualname:=q,hasDict:=true,slotNames:=sn,subclasses:=sub,abstract:=ab,collection:=col,hasDel:=false }:=by unfold clsIn; rw[hC]<;>rfl
 refine ks_codeAny_call_defAt (fd:=ksFn "__init__" qual params (eB fl p) (eS fl) .none kV doc pm an (.ref cda) ct cc) (body:=eB fl p) (binds:=[(("self" : Str),.ref x),(fl,v)]) hroom (X _ _ ho) rfl hlim (codeRec_of X hcd) rfl (BindsTo.of_eq (hbind _ _)) ?hnc ?_ (fun h₁ hns hk₁=>?_) rfl rfl rfl
 case hnc =>
  intro y hy
  simp only[eS,List.mem_cons,List.not_mem_nil,or_false] at hy
  rcases hy with rfl | rfl | rfl | rfl<;>(intro z; cases z)
 ·intro y hy
  rcases List.mem_cons.mp hy with rfl | hy
  ·exact hka
  ·rcases List.mem_cons.mp hy with rfl | hy
   ·exact hkF
   ·cases hy
 have hk:(eS fl).kind=.function:=rfl
 have X₁:K.In h₁:=X.keeps hk₁
 have hx₁:=hk₁ _ _ hx
 have I₁:InstAt h₁ x (excO C t0) C none:=⟨hx₁,rfl,rfl,trivial⟩
 have hmS:(fun y=>List.lookup y (List.reverse [((("self" : Str)),Value.ref x),(fl,v)])) "self" = some (.ref x):=by
  show List.lookup ("self" : Str) [(fl,v),(("self" : Str),Value.ref x)]=_
  have:(("self" : Str) == fl)=false:=by
   have:("self" : Str) ≠ fl:=fun e=>hFs e.symm
   simpa using this
  simp [List.lookup,this]
 have hmF:(fun y=>List.lookup y (List.reverse [((("self" : Str)),Value.ref x),(fl,v)])) fl=some v:=by
  show List.lookup fl [(fl,v),(("self" : Str),Value.ref x)]=_
  simp [List.lookup]
 have hCo₁:=X₁ _ _ hC
 -- super().__init__(text)
 obtain⟨pl,hev1⟩:=hev s.heap.objs.size fI
 show _root_.PySem.wpAt _ _ _ (execs (_ :: _ :: []) _) _ _ _
 refine ks_wpAt_execs_cons (ks_wpAt_Expr_any (ks_wpAt_MethodCall ?_ hev1) (by rfl) (by rfl))
 refine ks_wpAt_super_base (env:=ksEnv qual (eS fl) s.heap.objs.size fI (.ref cda) cc) hks hkc (by decide) rfl (X₁ _ _ ho) rfl hp rfl (X₁ _ _ hcode) rfl hvs hfile T.htop ?_
 refine ks_loadName_global hk hks (loadGlobal_builtin (env:=ksEnv qual (eS fl) s.heap.objs.size fI (.ref cda) cc) (hg.keeps hk₁) T.gS (hb.keeps hk₁) ((hbb _ (by decide +kernel)).trans Boot.«super») ⟨rfl,?_⟩)
 refine wpAny_loadName_free hk hkc rfl ⟨_,X₁ _ _ hcell,rfl⟩ ?_
 rw[har]
 refine wpAny_loadName_local hk hka hns hmS ?_
 refine ks_wpAny_isType_cls hCo₁ rfl ⟨rfl,?_⟩
 refine ks_wpAny_call_super hCo₁ rfl hx₁ rfl (fun c e=>by cases e) (looks_mroIn X₁ T.own) (fun h₂ hso k₂=>?_)
 have X₂:K.In h₂:=X₁.keeps k₂
 have hx₂:=k₂ _ _ hx₁
 have I₂:InstAt h₂ x (excO C t0) C none:=⟨hx₂,rfl,rfl,trivial⟩
 have hsup:=T.sup
 unfold ks_superIn at hsup
 rw[hcl] at hsup
 refine kxs_getMethod kxs_ValueError hso (looks_opaque X₂ T.any) (l₀:=.ref C :: bm) ?_ rfl X₂ hsup (I₂.type.andThen (looks_subIn X₂ T.ve)) (ks_ne X₂ I₂ hcl) (by decide) ?_
 ·exact fun A Q E s k q=>wpAny_bind ((looks_clsIn X₂ hcl) A _ E s k (wpAny_pure q))
 show wpAny _ _ (callWith p.a6 (.ref h₂.objs.size) [] (backTo p.a6 (starEach [_] _)) []) _ _ _
 refine kxs_callWith (i := "ValueError.__init__") (x:=x) (by rfl) (evalArgs_plain ?_)
 show wpAny _ _ (spliced [(false,eval (.Constant (.str p.txt) p.k p.a5) _)]) _ _ _
 refine Calls.spliced_cons (Calls.Constant_str (Calls.spliced_nil ?_))
 have hu:(h₂.push (kxs_mw "ValueError.__init__" x)).get? h₂.objs.size=some (kxs_mw "ValueError.__init__" x):=Heap.get?_push_at rfl rfl
 have k₃:∀ b o,h₂.get? b=some o→(h₂.push (kxs_mw "ValueError.__init__" x)).get? b=some o:=fun b o e=>Heap.get?_push_of_some _ e
 refine⟨hu,?_⟩
 have X₃:K.In (h₂.push (kxs_mw "ValueError.__init__" x)):=X₂.keeps k₃
 have hx₃:=k₃ _ _ hx₂
 show wpAny _ _ (call (.ref h₂.objs.size) [_] []) _ _ _
 refine wpAny_call (codeAny_of_tree ?_)
 show wpAny _ _ (callAny (.ref h₂.objs.size) ⟨[_],[]⟩) _ _ _
 simp only[callAny]
 refine wpAny_bind (wpAny_load hu ?_)
 simp only[kxs_mw,show (Value.type "method-wrapper" == Value.type "method" || Value.type "method-wrapper" == Value.type "builtin_function_or_method" || Value.type "method-wrapper" == Value.type "method-wrapper")=true by decide,if_true]
 refine KFB.if_so (by decide) ?_
 refine wpAny_bind (check_bound_init F.excBase_ValueError.toExcCallFacts (X₃ _ _ hC) hx₃ rfl ?_)
 refine wpAny_bind (wpAny_pure (wpAny_pure ?_))
 refine⟨plainId_quiet F.excBase_ValueError.init.plain _,codeAny_builtin F.excBase_ValueError.initEntry ?_⟩
 refine exc_init_tree (cls:=.ref C) (t0:=t0) (dv:=none) (c2:=.none) (c3:=.none) (b4:=.bool false) hx₃ (one_size _) fun h₄ k₄ hx₄ _=>?_
 have nx:s.heap.objs.size ≠ x:=Nat.ne_of_gt (Heap.lt_size hx)
 have hns₃:(h₂.push (kxs_mw "ValueError.__init__" x)).Ns s.heap.objs.size _:=(hns.keeps k₂).keeps k₃
 have hns₄:h₄.Ns s.heap.objs.size (fun y=>List.lookup y (List.reverse [((("self" : Str)),Value.ref x),(fl,v)])):=by
  obtain⟨oL,es,ep,hL,r⟩:=hns₃
  exact⟨oL,es,ep,k₄ _ _ nx hL,r⟩
 have all₄:∀ b o,b ≠ x→s.heap.get? b=some o→h₄.get? b=some o:=fun b o hb' e=>k₄ b o hb' (k₃ b o (k₂ b o (hk₁ b o e)))
 have X₄:K.In h₄:=by
  intro b o e
  have hbx:b ≠ x:=fun z=>by rw[z,hnx] at e; cases e
  exact all₄ b o hbx (X _ _ e)
 -- self.fl=fl
 show _root_.PySem.wpAt _ _ _ (execs (_ :: []) _) _ _ _
 refine ks_wpAt_execs_cons (wpAt_of_wpAny (plainObj_wpAny_Assign_Attribute ?_ (by rfl)))
 refine ldK (v:=v) (m:=fun y=>List.lookup y (List.reverse [((("self" : Str)),Value.ref x),(fl,v)])) hk hkF hns₄ hmF (ldK (v:=.ref x) (m:=fun y=>List.lookup y (List.reverse [((("self" : Str)),Value.ref x),(fl,v)])) hk hka hns₄ hmS ?_ (by decide)) hFd
 refine set_plain X₄ (ox:=excO C (h₂.push (kxs_mw "ValueError.__init__" x)).objs.size) (od:=none) ⟨hx₄,rfl,rfl,trivial⟩ T.sa ?_
 refine exc_osa X₄ hx₄ hcl (show refsVE (.ref C :: bm)=true from hbm) rfl T.noF (fun h₅ tk₅ dx k₅ dn dne hx₅ hn₅=>?_)
 show _root_.PySem.wpAt _ _ _ (execs [] _) _ _ _
 have z:s.heap.objs.size < h₄.objs.size:=hns₄.lt
 exact wpAt_of_wpAny (wpAny_execs_nil (hq h₅ tk₅ dx _ ⟨fun b o hb' e=>k₅ b o hb' (all₄ b o hb' e),hx₅,Nat.le_of_lt (Nat.lt_of_lt_of_le z dn),dne,hn₅⟩))
/-- a made error -/
structure OwnMade (h h':Heap) (e C d:Addr) (fl:Str) (v:Value):Prop where
 keep:∀ b o,h.get? b=some o→h'.get? b=some o
 new:h.objs.size≤e
 obj:∃ oe vs,h'.get? e=some oe∧oe.cls=.ref C∧oe.dict=some d∧oe.data=.fields vs∧vs[1]?=some .none∧vs[2]?=some .none∧4 < vs.size
 dbig:h.objs.size≤d
 dne:d ≠ e
 ns:h'.Ns1 d (fun y=>if y=fl then some v else none)
theorem err_made (T:ErrTxt prog K mg x0 fl C fI) {v:Value} (X:K.In s.heap) (hlim:s.heap.NoLimit) (hg:s.heap.Ns mainGlobals mg) (hb:s.heap.Ns builtinsNs mb) (hbb:∀ x:Str,x ≠ "__name__" → mb x=bootBuiltins x) (hroom:A.depth + 1 < recursionLimit)
  (hq:∀ h' tk e d,OwnMade s.heap h' e C d fl v→R (.ok (.ret (.ref e))) { s with heap:=h',toks:=tk }) :
  codeAny (model prog w) A (.call (.ref C) ⟨[v],[]⟩) R s:=by
 obtain⟨nm,q,N,bs,bm,sn,sub,ab,col,dd,k0,k1,k2,k3,k5,hC,hbm⟩:=T.cls
 obtain⟨hp,g,dr,tk,os⟩:=s
 have k:∀ b o,hp.get? b=some o→((hp.push (kdv_tup [v])).push (excO C hp.objs.size)).get? b=some o:=fun b o e=>Heap.get?_push_of_some _ (Heap.get?_push_of_some _ e)
 have hget:((hp.push (kdv_tup [v])).push (excO C hp.objs.size)).get? (hp.objs.size + 1)=some (excO C hp.objs.size):=by heap_get
 have hnx:K.lookup (hp.objs.size + 1)=none:=by
  cases e:K.lookup (hp.objs.size + 1) with
  | none=>rfl
  | some o =>
   have z:hp.get? (hp.objs.size + 1)=some o:=X _ _ e
   exact absurd (Nat.lt_of_succ_lt (Heap.lt_size z)) (Nat.lt_irrefl _)
 refine call_own F.excBase_ValueError (fun X=>refsVE_contains X bm hbm) (X _ _ hC) (looks_findIn X T.iC) (fun self=>bind_fn X self T.tC) (one_size v) ?_
 refine err_init (s:=⟨(hp.push (kdv_tup [v])).push (excO C hp.objs.size),g,dr,tk,os⟩) T (X.keeps k) (hlim.keeps k) (hg.keeps k) (hb.keeps k) hbb hget hnx ?_ fun h' tk' dx t1 ⟨k',hx,dn,dne,hns⟩=>?_
 ·show A.depth + 1 < recursionLimit
  exact hroom
 ·have old:∀ b o,hp.get? b=some o→h'.get? b=some o:=fun b o e=>k' b o (Nat.ne_of_lt (Nat.lt_succ_of_lt (Heap.lt_size e))) (k b o e)
  have z:hp.objs.size + 1 + 1≤dx:=by
   first
    | (simpa only[Heap.size_push] using dn)
    | exact dn
    | (have q:=dn; rw[Heap.size_push,Heap.size_push] at q; exact q)
  exact⟨rfl,hq h' tk' (hp.objs.size + 1) dx ⟨old,Nat.le_succ _,⟨_,_,hx,rfl,rfl,rfl,rfl,rfl,(by show 4 < 6; decide)⟩,Nat.le_trans (Nat.le_trans (Nat.le_succ _) (Nat.le_succ _)) z,dne,hns⟩⟩
end
end WErr
end PySem
namespace L2
open PySem PySem.Spec PyProof.Rows
theorem relO_err {fl:Str} {v:V} {v':Value} (r:RelV v v') (f:Str):RelO (List.lookup f [(fl,v)]) (if f=fl then some v' else none):=by
 by_cases hw:f=fl
 ·subst hw
  rw[if_pos rfl]
  have q:List.lookup f [(f,v)]=some v:=by simp [List.lookup]
  rw[q]
  exact r
 ·rw[if_neg hw]
  have qw:(f == fl)=false:=by simpa using hw
  have q2:List.lookup f [(fl,v)]=none:=by simp [List.lookup,qw]
  rw[q2]
  trivial
section
variable {X:Cx} {C fI:Addr} {x fl:Str}
/-- X(e),X an error of the package -/
def tMkErr (C:Addr) (fl:Str) (ta:TA):St→Hp→XK→Prop:=fun σ H Q=>ta σ H fun vs H1=>∃ v,vs=[v]∧∀ d,H1 d=none→Q (.ref C) (some d) (upd H1 d (.xd [(fl,v)]))
theorem pmk_err {a:Expr} {ta:TA} {p pos:Pos} {k:Nat} (T:PySem.WErr.ErrTxt X.prog X.K X.mg x fl C fI) (hr:Room k X.A) (ha:PA X [a] ta) (hg:Gl X x:=by rfl) (hdb:(x == ("__debug__" : Str))=false:=by decide)
  (he:starEach (a :: []) X.env=(false,eval a X.env) :: starEach [] X.env:=by rfl) (hpl:(backTo pos (starEach [] X.env)).any (·.1)=false:=by rfl) :
  PMk X (.Call (.Name x p) [a] [] pos) (tMkErr C fl ta):=by
 intro pins s σ H Q I h
 refine wpAny_Call_Name_kw (ld_glob I hg T.gC ?_ hdb)
 refine PySem.W.callWith_K (h₀:=X.base) I.ok.mod.kin T.kC (thn (ha.run pos pins s σ H _ I h) fun us s1 hh=>?_) he hpl
 obtain⟨vs,H1,I1,r1,v,ev,q1⟩:=hh
 subst ev
 refine⟨I1.kIn,?_⟩
 cases r1 with
 | cons rv rn =>
  rename_i v' us'
  cases rn
  show wpAny _ _ (call (.ref C) [v']) _ _ _
  have hlim:=I1.nolimit
  obtain⟨mb,hmb,hbb⟩:=I1.mod.blt
  have hG:=I1.mod.glob.keeps I1.bk
  have hB:=hmb.keeps I1.bk
  obtain⟨hp,g,dr,tk,os⟩:=s1
  refine wpAny_call (PySem.WErr.err_made T I1.kIn hlim hG hB hbb (by have:=hr.dp; omega) fun h' tk' e d M=>?_)
  show MkP X pins σ Q (.ref e) ⟨h',g,dr,tk',os⟩
  obtain⟨oe,fv,hoe,hc,hd,hdat,h1,_⟩:=M.obj
  have hns:=M.ns
  obtain⟨G',g1,g2⟩:=restrict h' fun b=>decide (b ≠ e)
  have gk:∀ b,b ≠ e→G'.get? b=h'.get? b:=fun b hb=>g1 b (decide_eq_true hb)
  have ge:G'.get? e=none:=g2 e (by simp)
  have old:∀ b o,hp.get? b=some o→G'.get? b=some o:=fun b o q=>(gk b (Nat.ne_of_lt (Nat.lt_of_lt_of_le (Heap.lt_size q) M.new))).trans (M.keep b o q)
  have ob:ObjOk X.prog X.w (upd H1 d (.xd [(fl,v)])) G' d (.xd [(fl,v)]) :=
   ⟨_,hns.at (fun o q=>(gk d M.dne).trans q),fun f=>relO_err rv f⟩
  have J:Inv X pins σ (upd H1 d (.xd [(fl,v)])) ⟨G',g,dr,tk',os⟩:=I1.laid (t':=tk') old M.dbig ob
  refine⟨e,oe,fv,⟨G',g,dr,tk',os⟩,_,.ref C,some d,rfl,J,fun b o q=>?_,ge,hoe,⟨hc,hd⟩,hdat,h1,?_,rfl,I1.bare,raises_own T.exC T.tyC,q1 d (I1.hok.fresh M.dbig)⟩
  ·by_cases hb:b=e
   ·have q':G'.get? b=some o:=q
    rw[hb,ge] at q'; cases q'
   ·exact (gk b hb).symm.trans q
  ·rw[upd_ne (Ne.symm M.dne)]
   exact I1.hok.fresh M.new
/-- raise X(e) -/
def tRaiseErr (C:Addr) (fl:Str) (W:WX) (ta:TA):TS:=fun _ σ H=>tMkErr C fl ta σ H fun cls d H'=>W cls d σ H'
theorem Jl {a:Expr} {ta:TA} {W:WX} {p pos pos2:Pos} {k:Nat} (hc:X.calm=true) (T:PySem.WErr.ErrTxt X.prog X.K X.mg x fl C fI) (hr:Room k X.A) (tk:Takes X W) (ha:PA X [a] ta) (hg:Gl X x:=by rfl) (hdb:(x == ("__debug__" : Str))=false:=by decide)
  (he:starEach (a :: []) X.env=(false,eval a X.env) :: starEach [] X.env:=by rfl) (hpl:(backTo pos (starEach [] X.env)).any (·.1)=false:=by rfl) :
  PS X (.Raise (some (.Call (.Name x p) [a] [] pos)) none pos2) (tRaiseErr C fl W ta):=ps_raise hc tk (pmk_err T hr ha hg hdb he hpl)
end
end L2
namespace L2
open PySem PySem.Spec PyProof.Rows
structure FnG (P:Program) (w:World) (K:PySem.W.Frag) (mg:Str→Option Value) (base:Heap) (CX:CXT) (k:Nat) (f:Addr) (fd:FuncData) (ps:List Str) (sp:Sp):Prop where
 len:∀ vs H Q E,sp vs H Q E→vs.length=ps.length
 run:∀ (A:Around),A.guards=some []→∀ (outer:List Env) (s:Shared) (H:Hp) (args:Args) (us:List Value) (vs:List V) (Q:VK) (E:XK),Room k A→Env0 P w K mg base A outer s H→BindsTo s fd args (ps.zip us)→Vals vs us→sp vs H Q E →
  codeAny (model P w) A (.call (.ref f) args) (CR CX outer P w H s Q E) s
section
variable {P:Program} {w:World} {K:PySem.W.Frag} {mg:Str→Option Value} {base:Heap} {CX:CXT} {k:Nat} {f:Addr} {fd:FuncData} {ps:List Str} {sp:Sp}
theorem FnOk.g (F:FnOk P w K mg base CX k f fd ps sp):FnG P w K mg base CX k f fd ps sp:=⟨F.len,fun A _=>F.run A⟩
theorem FnG.mono {j:Nat} (F:FnG P w K mg base CX j f fd ps sp) (h:j≤k):FnG P w K mg base CX k f fd ps sp :=
 ⟨F.len,fun A hA outer s H args us vs Q E hr=>F.run A hA outer s H args us vs Q E (hr.mono h)⟩
/-- a def by its body,where no repr is under way -/
theorem fnG_of {name qual:Str} {params:Arguments} {body:List Stmt} {scope:Scope} {dV kV doc pm cdv ct oc:Value} {an od:Option Addr}
  {osl:Array (Option Value)} {N:List Str} (lk:K.lookup f=some ⟨oc,od,.func (PySem.W.fnOf name qual params body scope dV kV doc pm an cdv ct),osl⟩) (hcd:PySem.W.codeIn K cdv qual=true) (S:FnScope N ps scope)
  (len:∀ vs H Q E,sp vs H Q E→vs.length=ps.length)
  (hbody:∀ (A:Around) (outer:List Env) (s:Shared) (H:Hp) (vs:List V) (Q:VK) (E:XK),(A.deeper (envOfC qual scope s.heap.objs.size f cdv)).guards=some []→Room k (A.deeper (envOfC qual scope s.heap.objs.size f cdv))→sp vs H Q E →
   ∃ t,PSs (cxOf CX P w K mg base N qual scope f cdv A outer s H E) body t∧t { nx:=fun _ H'=>Q .non H',rt:=Q } (start N vs) H) :
  FnG P w K mg base CX (k + 1) f (PySem.W.fnOf name qual params body scope dV kV doc pm an cdv ct) ps sp:=by
 refine⟨len,fun A hA=>?_⟩
 -- fn_of asks the body of every around: here it is asked of one,by a promise that speaks of nothing else
 refine fun outer s H args us vs Q E hr e0 hb r hsp=>?_
 have KX:K.In s.heap:=e0.mod.kin.keeps fun b o e=>(e0.bs b o e).1
 have lim:s.heap.NoLimit:=e0.mod.nolimit.keeps fun b o e=>(e0.bs b o e).1
 refine codeAny_call_function hr.depth (KX _ _ lk) rfl S.co S.gen rfl (PySem.W.codeRec_of KX hcd) (hb _ _ _ _ (wpAny_newFunctionEnv_cells S.kind ?_ fun env he s1 x=>?_))
 ·intro y hy
  have h1:=(List.of_mem_zip (show (y.1,y.2)∈ps.zip us from hy)).1
  rcases S.par y.1 h1 with q | q
  ·exact Or.inl q
  ·exact Or.inr ⟨q,PySem.W.cellsFrom_some _ _ _ (Or.inl q)⟩
 subst he
 obtain⟨t,ht,hq⟩:=hbody A outer s H vs Q E hA (hr.deeper _) hsp
 refine⟨lim.keeps x.toInCall.keep,codeAny_func (wpAny_mono (ht.run [] s1 (start N vs) H _ (inv_start S hr.hd e0 (len _ _ _ _ hsp) r x) hq) (fun fl s' hs=>?_) fun e s' hs=>hs)⟩
 cases fl with
 | ret u =>
  obtain⟨v,σ',H',J,rv,q⟩:=hs
  exact⟨v,H',J.os,J.bare,J.base,J.hok,rv,q⟩
 | next =>
  obtain⟨σ',H',J,q⟩:=hs
  exact⟨V.non,H',J.os,J.bare,J.base,J.hok,rfl,q⟩
 | brk=>exact (hs.choose_spec.choose_spec.2).elim
 | cont=>exact (hs.choose_spec.choose_spec.2).elim
end
end L2
namespace L2
open PySem PySem.Spec PyProof.Rows
end L2
namespace WH
open PySem PySem.Spec PyProof.Rows L2
open He (ga ma ba eqO eqO_ok)
abbrev Frag:=PySem.W.Frag
structure ErD where
 x:Str
 fl:Str
 st:Stmt
abbrev FnE:Type:=Option (Str × Str × Arguments × FuncBody × Scope × Addr × List Str × Addr)
def iAd (K:Frag) (x:Str):Addr:=ma K (ga K x) "__init__"
def fnE (K:Frag) (x:Str):FnE:=match K.lookup (iAd K x) with
 | some ⟨_,_,.func fd,_⟩=>some (fd.name,fd.qualname,fd.params,fd.body,fd.scope,fd.globals,fd.closure.map (·.1),fd.builtins)
 | _=>none
def ErD.val (e:ErD):FnE:=some ("__init__",e.x ++ ".__init__",defArgs e.st,.stmts (defBody e.st),defScope e.st,mainGlobals,["__class__"],builtinsNs)
/-- the class object of an own error over ValueError -/
def veB (K:Frag) (C:Addr):Bool:=match K.lookup C with
 | some ⟨.type "type",_,.cls cd,sl⟩=>(match cd.mro,sl.toList with
  | .ref C' :: bm,[_,_,_,_,some (.builtin n),_]=>decide (C'=C) && (decide (n = "ValueError.__new__") && (!cd.hasDel && (cd.hasDict && PySem.HandSPX.refsVE bm)))
  | _,_=>false)
 | _=>false
theorem veB_ok {K:Frag} {C:Addr} (h:veB K C=true):∃ nm q N bs bm sn sub ab col dd k0 k1 k2 k3 k5,K.lookup C=some (excClassObj nm q C N bs bm true sn sub ab col dd k0 k1 k2 k3 k5 "ValueError.__new__")∧PySem.HandSPX.refsVE bm=true:=by
 unfold veB at h
 split at h
 ·rename_i dd cd sl ho
  split at h
  ·rename_i C' bm k0 k1 k2 k3 n k5 hm hs
   obtain⟨h1,h⟩:=ba h
   obtain⟨h2,h⟩:=ba h
   obtain⟨h3,h⟩:=ba h
   obtain⟨h4,h5⟩:=ba h
   obtain rfl:=of_decide_eq_true h1
   obtain rfl:=of_decide_eq_true h2
   obtain⟨nm,bs,mro,ns,qn,hd,sn,sub,ab,col,del⟩:=cd
   dsimp only at hm h3 h4
   subst hm
   subst h4
   have hdel:del=false:=by cases del<;>simp_all
   subst hdel
   have hsl:sl = #[k0,k1,k2,k3,some (.builtin "ValueError.__new__"),k5]:=by
    obtain⟨l⟩:=sl
    simp only at hs
    rw[hs]
   subst hsl
   exact⟨nm,qn,ns,bs,bm,sn,sub,ab,col,dd,k0,k1,k2,k3,k5,ho,h5⟩
  ·cases h
 ·cases h
/-- its __init__: code of the main file,a cell that holds the class,no defaults -/
def inB (prog:Program) (K:Frag) (C fI:Addr) (qual:Str):Bool:=match K.lookup fI with
 | some ⟨_,_,.func fd,_⟩=>(match fd.defaults,fd.code,fd.closure with
  | .none,.ref cda,[(_,cc)]=>PySem.W.codeIn K (.ref cda) qual && ((match K.lookup cda with
   | some ⟨_,_,.fields vs,_⟩=>(match (vs:Array Value)[2]? with
    | some (Value.str file _)=>(prog.main.file:Str) == file
    | _=>false)
   | _=>false) && (match K.lookup cc with
   | some ⟨_,_,.cell (some (.ref D)),_⟩=>decide (D=C)
   | _=>false))
  | _,_,_=>false)
 | _=>false
def ErD.ok (prog:Program) (K:Frag) (e:ErD):Bool :=
 eqO (PySem.W.nsIn K mainGlobals e.x) (some (some (.ref (ga K e.x)))) && (veB K (ga K e.x) && (eqO (PySem.W.findIn K (.ref (ga K e.x)) "__setattr__") (some (some (.builtin "object.__setattr__"))) &&
 (xfB K (ga K e.x) && (eqO (PySem.W.findIn K (.ref (ga K e.x)) e.fl) (some none) && (eqO (PySem.W.findIn K (.ref (ga K e.x)) "__init__") (some (some (.ref (iAd K e.x)))) &&
 (decide (PySem.W.typeIn K (.ref (iAd K e.x))=some (.type "function")) && (PySem.W.keepIn K (.ref (ga K e.x)) && (decide (PySem.W.subIn K (.ref (ga K e.x)) (.type "BaseException")=some true) &&
 (decide (PySem.W.typeIn K (.ref (ga K e.x))=some (.type "type")) && (eqO (PySem.W.ks_superIn K (ga K e.x) (ga K e.x) "__init__") (some (some (.builtin "ValueError.__init__"))) &&
 (decide (PySem.W.subIn K (.ref (ga K e.x)) (.type "ValueError")=some true) && (eqO (PySem.W.nsIn K cStatics "thirdparty.any") (some none) && (decide (PySem.W.mroIn K (ga K e.x) (.ref (ga K e.x))=some true) &&
 (eqO (PySem.W.nsIn K mainGlobals "super") (some none) && (!(prog.main.scope.names.lookup ("super" : Str)).isSome && inB prog K (ga K e.x) (iAd K e.x) (e.x ++ ".__init__"))))))))))))))))
theorem ErD.txt {prog:Program} {K:Frag} {h:Heap} {mg:Str→Option Value} {e:ErD} {p:PySem.WErr.PsE} {ar:Arg} (X:K.In h) (G:h.Ns mainGlobals mg) (c:e.ok prog K=true) (v:fnE K e.x=e.val)
  (hB:defBody e.st=PySem.WErr.eB e.fl p) (hS:defScope e.st=PySem.WErr.eS e.fl) (hP:((defArgs e.st).posonlyargs++(defArgs e.st).args).head?=some ar) (hA:ar.arg = "self")
  (h1:(PySem.WErr.eS e.fl).names.lookup ("super" : Str)=some .globalImplicit) (h2:(PySem.WErr.eS e.fl).names.lookup ("__class__" : Str)=some .free) (h3:(PySem.WErr.eS e.fl).names.lookup ("self" : Str)=some .local) (h4:(PySem.WErr.eS e.fl).names.lookup e.fl=some .local)
  (h5:e.fl ≠ "self") (h6:(e.fl == ("__debug__" : Str))=false) (h7:(e.fl == ("__class__" : Str))=false)
  (h8:∀ cda cc L f:Addr,∃ pl:Sem Bool,eval (.Call (.Attribute (.Call (.Name "super" p.a1) [] [] p.a2) "__init__" p.a3) [.Constant (.str p.txt) p.k p.a5] [] p.a6) (PySem.W.ksEnv (e.x ++ ".__init__") (PySem.WErr.eS e.fl) L f (.ref cda) cc)=(do
   let ov ← attributeBase (.Call (.Name "super" p.a1) [] [] p.a2) "__init__" (PySem.W.ksEnv (e.x ++ ".__init__") (PySem.WErr.eS e.fl) L f (.ref cda) cc) (eval (.Call (.Name "super" p.a1) [] [] p.a2) (PySem.W.ksEnv (e.x ++ ".__init__") (PySem.WErr.eS e.fl) L f (.ref cda) cc))
   standAt p.a3.atName
   let (f1,first) ← holding [ov] (getMethod ov "__init__" pl)
   callWith p.a6 f1 first (backTo p.a6 (starEach [.Constant (.str p.txt) p.k p.a5] (PySem.W.ksEnv (e.x ++ ".__init__") (PySem.WErr.eS e.fl) L f (.ref cda) cc))) []))
  (h9:∀ (kV doc pm:Value) (an:Option Addr) (cda cc:Addr) (ct a b:Value),bindArgs (PySem.W.ksFn "__init__" (e.x ++ ".__init__") (defArgs e.st) (PySem.WErr.eB e.fl p) (PySem.WErr.eS e.fl) .none kV doc pm an (.ref cda) ct cc) ⟨[a,b],[]⟩ = pure [(("self" : Str),a),(e.fl,b)]) :
  PySem.WErr.ErrTxt prog K mg e.x e.fl (ga K e.x) (iAd K e.x):=by
 obtain⟨c1,c⟩:=ba c
 obtain⟨c2,c⟩:=ba c
 obtain⟨c3,c⟩:=ba c
 obtain⟨c4,c⟩:=ba c
 obtain⟨c5,c⟩:=ba c
 obtain⟨c6,c⟩:=ba c
 obtain⟨c7,c⟩:=ba c
 obtain⟨c8,c⟩:=ba c
 obtain⟨c9,c⟩:=ba c
 obtain⟨c10,c⟩:=ba c
 obtain⟨c11,c⟩:=ba c
 obtain⟨c12,c⟩:=ba c
 obtain⟨c13,c⟩:=ba c
 obtain⟨c14,c⟩:=ba c
 obtain⟨c15,c⟩:=ba c
 obtain⟨c16,c17⟩:=ba c
 refine⟨PySem.W.mg_of X G (eqO_ok c1),veB_ok c2,eqO_ok c3,xfB_ok c4,eqO_ok c5,eqO_ok c6,of_decide_eq_true c7,c8,of_decide_eq_true c9,of_decide_eq_true c10,eqO_ok c11,of_decide_eq_true c12,eqO_ok c13,of_decide_eq_true c14,PySem.W.mg_none_of X G (eqO_ok c15),by simpa using c16,?_⟩
 unfold fnE at v
 unfold inB at c17
 cases q:K.lookup (iAd K e.x) with
 | none=>rw[q] at v; cases v
 | some o =>
  obtain⟨oc,od,dt,osl⟩:=o
  rw[q] at v c17
  cases dt with
  | func fd =>
   obtain⟨n1,n2,n3,n4,n5,n6,n7,n8,n9,n10,n11,n12,n13,n14,n15⟩:=fd
   have e2:(some (n1,n2,n3,n4,n5,n6,n7.map (·.1),n15):FnE)=e.val:=v
   unfold ErD.val at e2
   simp only[Option.some.injEq,Prod.mk.injEq] at e2
   obtain⟨g1,g2,g3,g4,g5,g6,g7,g8⟩:=e2
   subst g1 g2 g3 g4 g5 g6 g8
   dsimp only at c17
   split at c17
   ·rename_i cda nm cc
    obtain⟨d1,d⟩:=ba c17
    obtain⟨d2,d3⟩:=ba d
    have hnm:nm=("__class__" : Str):=by simpa using g7
    subst hnm
    rw[hB,hS]
    refine⟨oc,od,_,_,_,_,_,_,cda,cc,_,osl,p,ar,rfl,d1,hP,hA,?_,?_,h1,h2,h3,h4,h5,h6,h7,h8 cda cc,h9 _ _ _ _ cda cc _⟩
    ·split at d2
     ·rename_i z1 z2 vs z3 hl
      split at d2
      ·rename_i file tf hv
       exact⟨_,_,vs,_,file,tf,hl,hv,d2⟩
      ·cases d2
     ·cases d2
    ·split at d3
     ·rename_i z1 z2 D z3 hl
      obtain rfl:=of_decide_eq_true d3
      exact⟨_,_,_,hl⟩
     ·cases d3
   ·cases c17
  | _=>cases c17
abbrev Chk:=Frag→Bool
abbrev AlW:Type:=Bool × List He.FnW × List FnE
def obsW (prog:Program) (fa:List Chk) (fn:List He5.DefA) (er:List ErD) (K:Frag):AlW :=
 ((fa.all fun f=>f K) && ((fn.all fun d=>d.ok K) && er.all fun e=>e.ok prog K),fn.map (fun d=>He5.fnA K (d.at_ K)),er.map fun e=>fnE K e.x)
def valW (fn:List He5.DefA) (er:List ErD):AlW:=(true,fn.map He5.DefA.val,er.map ErD.val)
def SaysW (prog:Program) (fa:List Chk) (fn:List He5.DefA) (er:List ErD) (K:Frag):Prop:=obsW prog fa fn er K=valW fn er
section
variable {prog:Program} {fa:List Chk} {fn:List He5.DefA} {er:List ErD} {K:Frag}
theorem SaysW.fact (c:SaysW prog fa fn er K) (i:Nat) {f:Chk} (h:fa[i]?=some f:=by rfl):f K=true :=
 List.all_eq_true.mp (ba (congrArg (fun z:AlW=>z.1) c)).1 f (List.mem_of_getElem? h)
theorem SaysW.def_ (c:SaysW prog fa fn er K) (i:Nat) {d:He5.DefA} (h:fn[i]?=some d:=by rfl):∃ fd,L2.FunD K d.name d.qual d.params d.body d.scope (d.dvs K) (d.kws K) (d.at_ K) fd:=by
 have e:fn.map (fun d=>He5.fnA K (d.at_ K))=fn.map He5.DefA.val:=congrArg (fun z:AlW=>z.2.1) c
 have e2:=congrArg (fun l=>l[i]?) e
 simp only[List.getElem?_map,h] at e2
 exact He5.DefA.funD (Option.some.inj e2) (List.all_eq_true.mp (ba (ba (congrArg (fun z:AlW=>z.1) c)).2).1 d (List.mem_of_getElem? h))
theorem SaysW.err (c:SaysW prog fa fn er K) (i:Nat) {e:ErD} (h:er[i]?=some e:=by rfl):e.ok prog K=true∧fnE K e.x=e.val:=by
 have e1:er.map (fun e=>fnE K e.x)=er.map ErD.val:=congrArg (fun z:AlW=>z.2.2) c
 have e2:=congrArg (fun l=>l[i]?) e1
 simp only[List.getElem?_map,h] at e2
 exact⟨List.all_eq_true.mp (ba (ba (congrArg (fun z:AlW=>z.1) c)).2).2 e (List.mem_of_getElem? h),Option.some.inj e2⟩
end
def cGlo (x:Str):Chk:=fun K=>eqO (PySem.W.nsIn K mainGlobals x) (some (some (.ref (ga K x))))
def cFree (x:Str):Chk:=fun K=>eqO (PySem.W.nsIn K mainGlobals x) (some none)
def cFa (f:He.Fa):Chk:=fun K=>f.ok K
theorem glo_ok {K:Frag} {h:Heap} {mg:Str→Option Value} (X:K.In h) (G:h.Ns mainGlobals mg) {x:Str} (c:cGlo x K=true):mg x=some (.ref (ga K x)):=PySem.W.mg_of X G (eqO_ok c)
theorem free_ok {K:Frag} {h:Heap} {mg:Str→Option Value} (X:K.In h) (G:h.Ns mainGlobals mg) {x:Str} (c:cFree x K=true):mg x=none:=PySem.W.mg_none_of X G (eqO_ok c)
end WH
namespace WH
open PySem PySem.Spec PyProof.Rows L2
open He (ga ma ba eqO eqO_ok)
structure ErN where
 x:Str
 fls:List Str
 st:Stmt
def ErN.val (e:ErN):FnE:=some ("__init__",e.x ++ ".__init__",defArgs e.st,.stmts (defBody e.st),defScope e.st,mainGlobals,["__class__"],builtinsNs)
def ErN.ok (prog:Program) (K:Frag) (e:ErN):Bool :=
 eqO (PySem.W.nsIn K mainGlobals e.x) (some (some (.ref (ga K e.x)))) && (veB K (ga K e.x) && (eqO (PySem.W.findIn K (.ref (ga K e.x)) "__setattr__") (some (some (.builtin "object.__setattr__"))) &&
 (xfB K (ga K e.x) && ((e.fls.all fun f=>eqO (PySem.W.findIn K (.ref (ga K e.x)) f) (some none)) && (eqO (PySem.W.findIn K (.ref (ga K e.x)) "__init__") (some (some (.ref (iAd K e.x)))) &&
 (decide (PySem.W.typeIn K (.ref (iAd K e.x))=some (.type "function")) && (PySem.W.keepIn K (.ref (ga K e.x)) && (decide (PySem.W.subIn K (.ref (ga K e.x)) (.type "BaseException")=some true) &&
 (decide (PySem.W.typeIn K (.ref (ga K e.x))=some (.type "type")) && (eqO (PySem.W.ks_superIn K (ga K e.x) (ga K e.x) "__init__") (some (some (.builtin "ValueError.__init__"))) &&
 (decide (PySem.W.subIn K (.ref (ga K e.x)) (.type "ValueError")=some true) && (eqO (PySem.W.nsIn K cStatics "thirdparty.any") (some none) && (decide (PySem.W.mroIn K (ga K e.x) (.ref (ga K e.x))=some true) &&
 (eqO (PySem.W.nsIn K mainGlobals "super") (some none) && (!(prog.main.scope.names.lookup ("super" : Str)).isSome && inB prog K (ga K e.x) (iAd K e.x) (e.x ++ ".__init__"))))))))))))))))
abbrev AlN:Type:=Bool × List He.FnW × List FnE
def obsN (prog:Program) (fa:List Chk) (fn:List He5.DefA) (er:List ErN) (K:Frag):AlN :=
 ((fa.all fun f=>f K) && ((fn.all fun d=>d.ok K) && er.all fun e=>e.ok prog K),fn.map (fun d=>He5.fnA K (d.at_ K)),er.map fun e=>fnE K e.x)
def valN (fn:List He5.DefA) (er:List ErN):AlN:=(true,fn.map He5.DefA.val,er.map ErN.val)
def SaysN (prog:Program) (fa:List Chk) (fn:List He5.DefA) (er:List ErN) (K:Frag):Prop:=obsN prog fa fn er K=valN fn er
end WH
namespace WH
open PySem PySem.Spec PyProof.Rows L2
open He (ga ma ba eqO eqO_ok)
def kwAt (C x:Str) (K:Frag):Addr:=match K.lookup (ma K (ga K C) "__init__") with
 | some ⟨_,_,.func fd,_⟩=>(match fd.kwdefaults with
  | .ref D=>(match PySem.W.nsIn K D x with
   | some (some (.ref a))=>a
   | _=>0)
  | _=>0)
 | _=>0
def mkI (C:Str) (st:Stmt) (kw:List Str):He5.DefA:=⟨fun K=>ma K (ga K C) "__init__", "__init__",C ++ ".__init__",defArgs st,defBody st,defScope st,[],kw.map fun k=>(k,He.Dv.adr (kwAt C k))⟩
def mkM (C m q:Str) (st:Stmt):He5.DefA:=⟨fun K=>ma K (ga K C) m,m,q,defArgs st,defBody st,defScope st,[],[]⟩
end WH
namespace WH
open PySem PySem.Spec PyProof.Rows L2
open He (ga ma ba eqO eqO_ok)
def mkD (x:Str) (st:Stmt):He5.DefA:=⟨fun K=>ga K x,x,x,defArgs st,defBody st,defScope st,[],[]⟩
end WH
namespace WH
open PySem PySem.Spec PyProof.Rows L2
open He (ga ma ba eqO eqO_ok)
def cExm (l:List Str):Chk:=fun K=>(l.all fun x=>l.all fun y=>decide (PySem.W.exmOne K (.ref (ga K x)) (.ref (ga K y))=some (x == y))) && l.all fun x=>decide (PySem.W.exmOne K (.ref (ga K x)) (.ref (ga K "WhichError"))=some true)
def isFree:Option (Option Value)→Bool
 | some none=>true
 | _=>false
def cFnd (l fs:List Str):Chk:=fun K=>l.all fun x=>fs.all fun f=>isFree (PySem.W.findIn K (.ref (ga K x)) f)
end WH
namespace DL
open PySem PySem.Spec PyProof.Rows L2
open He (ga ma ba eqO eqO_ok)
def dataTs:List String:=["NoneType", "bool", "int", "str", "tuple", "list"]
end DL
namespace WH
open PySem PySem.Spec PyProof.Rows L2
open He (ga ma ba eqO eqO_ok)
open DL
def cEq (x:Str):Chk:=fun K=>PySem.W.notFirst K (ga K x) (.ref (ga K x)) && dataTs.all fun T=>PySem.W.notFirst K (ga K x) (.type T)
def cIsi (x:Str):Chk:=fun K=>decide (PySem.W.findIn K (.ref (ga K x)) "__class__" = some (some (.builtin "object.__class__"))) && (decide (PySem.W.specialIn K (.builtin "object.__class__") "__get__" = some (some (.builtin "getset_descriptor.__get__"))) && (decide (PySem.W.takesIn K (.builtin "object.__class__")=some true) && (decide (PySem.W.mroIn K (ga K x) (.type "object")=some true) && dataTs.all fun T=>decide (PySem.W.kitOne K (.type T) (.ref (ga K x))=some false))))
end WH
namespace DL
open PySem PySem.Spec PyProof.Rows L2
open He (ga ma ba eqO eqO_ok)
def noNum (K:PySem.W.Frag) (nm:String):List Value→Bool
 | []=>true
 | c :: r=>(PySem.W.findIn K c (PySem.dunder nm) == some none) && ((PySem.W.findIn K c (dunderR nm) == some none) && noNum K nm r)
end DL
namespace WH
open PySem PySem.Spec PyProof.Rows L2
open He (ga ma ba eqO eqO_ok)
open DL
def cBin (nm:String) (x y:Str):Chk:=fun K=>PySem.W.selfFirst K (ga K x) && (decide (ga K x ≠ ga K y) && match PySem.W.clsIn K (ga K y) with
 | some cd=>noNum K nm cd.mro
 | none=>false)
end WH
namespace WH
open PySem PySem.Spec PyProof.Rows L2
open He (ga ma ba eqO eqO_ok)
open DL
structure SuI where
 x:Str
 b:Str
 st:Stmt
def SuI.val (e:SuI):FnE:=some ("__init__",e.x ++ ".__init__",defArgs e.st,.stmts (defBody e.st),defScope e.st,mainGlobals,["__class__"],builtinsNs)
def kwR (K:Frag) (f:Addr):Bool:=match K.lookup f with
 | some ⟨_,_,.func fd,_⟩=>(match fd.kwdefaults with
  | .ref _=>true
  | _=>false)
 | _=>false
def SuI.ok (prog:Program) (K:Frag) (e:SuI):Bool :=
 eqO (PySem.W.ks_superIn K (ga K e.x) (ga K e.x) "__init__") (some (some (.ref (iAd K e.b)))) && (decide (PySem.W.typeIn K (.ref (iAd K e.b))=some (.type "function")) && (PySem.W.fnIn K (iAd K e.b) && (eqO (PySem.W.nsIn K cStatics "thirdparty.any") (some none) &&
 (decide (PySem.W.mroIn K (ga K e.x) (.ref (ga K e.x))=some true) && (eqO (PySem.W.nsIn K mainGlobals "super") (some none) && (!(prog.main.scope.names.lookup ("super" : Str)).isSome && (inB prog K (ga K e.x) (iAd K e.x) (e.x ++ ".__init__") && (kwR K (iAd K e.x) && PySem.W.isClsIn K (ga K e.x)))))))))
abbrev AlS:Type:=AlN × Bool × List FnE
def obsS (prog:Program) (fa:List Chk) (fn:List He5.DefA) (er:List ErN) (su:List SuI) (K:Frag):AlS:=(obsN prog fa fn er K,su.all (fun e=>e.ok prog K),su.map fun e=>fnE K e.x)
def valS (fn:List He5.DefA) (er:List ErN) (su:List SuI):AlS:=(valN fn er,true,su.map SuI.val)
def SaysS (prog:Program) (fa:List Chk) (fn:List He5.DefA) (er:List ErN) (su:List SuI) (K:Frag):Prop:=obsS prog fa fn er su K=valS fn er su
end WH
namespace WH
open PySem PySem.W PySem.Calls PyProof.Rows HandSHeadRun
def RunA (r:OpenRow) (M:Nat) (w:World):Prop:=∀ os:OsState,(endF (stepQ (denQ tabQ) r.prog w) M r.prog w os).map (fun s=>looksF r.prog (boot_heap w.params) s.abs)=some true
def RunB (r:OpenRow) (q:Program) (M:Nat) (loose:List PySem.Str) (w:World):Prop:=∀ os:OsState,(endF (stepQ (denQ tabQ) r.prog w) M r.prog w os).map (fun s=>seenQ q loose (importedModules r.prog.main.body) (fun s=>xlAt q [] s && recOk r.toRowW.records s) s.abs)=some (openGood q loose)
def RunC {α:Type} (r:OpenRow) (ob:SharedT→α) (v:α) (M:Nat) (w:World):Prop:=∀ os:OsState,(endF (stepQ (denQ tabQ) r.prog w) M r.prog w os).map ob=some v
theorem run_of {r:OpenRow} {q:Program} {H:Hook} {ob:SharedT→H.α} {M:Nat} {loose:List PySem.Str} {w:World} (a:RunA r M w) (b:RunB r q M loose w) (c:RunC r ob (H.val w) M w):RunEq r q H ob M loose w:=fun os=>by
 have ha:=a os
 have hb:=b os
 have hc:=c os
 generalize endF (stepQ (denQ tabQ) r.prog w) M r.prog w os=e at ha hb hc ⊢
 cases e with
 | none=>cases ha
 | some s =>
  have ha:looksF r.prog (boot_heap w.params) s.abs=true:=Option.some.inj ha
  have hb:=Option.some.inj hb
  have hc:ob s=H.val w:=Option.some.inj hc
  show some (looksF r.prog (boot_heap w.params) s.abs,seenQ q loose (importedModules r.prog.main.body) (fun s=>xlAt q [] s && recOk r.toRowW.records s) s.abs,ob s)=_
  rw[ha,hc]
  exact congrArg (fun x=>some (true,x,H.val w)) hb
end WH
namespace WH
open PySem PySem.Spec PyProof.Rows L2
open He (ga ma ba eqO eqO_ok)
structure SuM where
 x:Str
 b:Str
 m:Str
 st:Stmt
def fnAt (K:Frag) (a:Addr):FnE:=match K.lookup a with
 | some ⟨_,_,.func fd,_⟩=>some (fd.name,fd.qualname,fd.params,fd.body,fd.scope,fd.globals,fd.closure.map (·.1),fd.builtins)
 | _=>none
def SuM.at_ (K:Frag) (e:SuM):Addr:=ma K (ga K e.x) e.m
def SuM.bat (K:Frag) (e:SuM):Addr:=ma K (ga K e.b) e.m
def SuM.val (e:SuM):FnE:=some (e.m,e.x++("." ++ e.m),defArgs e.st,.stmts (defBody e.st),defScope e.st,mainGlobals,["__class__"],builtinsNs)
def noDef (K:Frag) (f:Addr):Bool:=match K.lookup f with
 | some ⟨_,_,.func fd,_⟩=>(match fd.kwdefaults with
  | .none=>true
  | _=>false)
 | _=>false
def SuM.ok (prog:Program) (K:Frag) (e:SuM):Bool :=
 eqO (PySem.W.ks_superIn K (ga K e.x) (ga K e.x) e.m) (some (some (.ref (e.bat K)))) && (decide (PySem.W.typeIn K (.ref (e.bat K))=some (.type "function")) && (PySem.W.fnIn K (e.bat K) && (eqO (PySem.W.nsIn K cStatics "thirdparty.any") (some none) &&
 (decide (PySem.W.mroIn K (ga K e.x) (.ref (ga K e.x))=some true) && (eqO (PySem.W.nsIn K mainGlobals "super") (some none) && (!(prog.main.scope.names.lookup ("super" : Str)).isSome && (inB prog K (ga K e.x) (e.at_ K) (e.x++("." ++ e.m)) && (noDef K (e.at_ K) && (PySem.W.isClsIn K (ga K e.x) && PySem.W.keepIn K (.ref (e.at_ K)))))))))))
abbrev AlM:Type:=AlS × Bool × List FnE
def obsM (prog:Program) (fa:List Chk) (fn:List He5.DefA) (er:List ErN) (su:List SuI) (sm:List SuM) (K:Frag):AlM:=(obsS prog fa fn er su K,sm.all (fun e=>e.ok prog K),sm.map fun e=>fnAt K (e.at_ K))
def valM (fn:List He5.DefA) (er:List ErN) (su:List SuI) (sm:List SuM):AlM:=(valS fn er su,true,sm.map SuM.val)
def SaysM (prog:Program) (fa:List Chk) (fn:List He5.DefA) (er:List ErN) (su:List SuI) (sm:List SuM) (K:Frag):Prop:=obsM prog fa fn er su sm K=valM fn er su sm
def obsMG (prog:Program) (as:List Addr) (fa:List Chk) (fn:List He5.DefA) (er:List ErN) (su:List SuI) (sm:List SuM) (g:Addr→Option Obj):AlM:=obsM prog fa fn er su sm (He.frG g as)
def hookM (prog:Program) (as:List Addr) (fa:List Chk) (fn:List He5.DefA) (er:List ErN) (su:List SuI) (sm:List SuM):PySem.W.Hook where
 α:=AlM
 obs:=fun s=>obsMG prog as fa fn er su sm s.heap.get?
 val:=fun _=>valM fn er su sm
 says:=fun _ h=>∃ K:Frag,K.In h∧SaysM prog fa fn er su sm K
 of:=fun _ _ e=>⟨_,He.frG_in,e⟩
 keeps:=fun _ _ _ ⟨K,hK,c⟩ k=>⟨K,PySem.W.Frag.In.keeps hK k,c⟩
theorem obsMG_eq {prog:Program} {as:List Addr} {fa:List Chk} {fn:List He5.DefA} {er:List ErN} {su:List SuI} {sm:List SuM} {g:Addr→Option Obj} {s:Shared} (h:∀ a,g a=s.heap.get? a):obsMG prog as fa fn er su sm g=(hookM prog as fa fn er su sm).obs s:=by
 have e:g=s.heap.get?:=funext h
 subst e
 rfl
/-- the facts of two parts -/
theorem obsM_app {prog:Program} {fa fb:List Chk} {fn fm:List He5.DefA} {er es:List ErN} {su sv:List SuI} {sm sn:List SuM} {K:Frag} (h1:obsM prog fa fn er su sm K=valM fn er su sm) (h2:obsM prog fb fm es sv sn K=valM fm es sv sn) :
  obsM prog (fa++fb) (fn++fm) (er++es) (su++sv) (sm++sn) K=valM (fn++fm) (er++es) (su++sv) (sm++sn):=by
 simp only[obsM,obsS,obsN,valM,valS,valN,Prod.mk.injEq,Bool.and_eq_true,List.all_append,List.map_append] at h1 h2 ⊢
 obtain⟨⟨⟨⟨a1,a2,a3⟩,a4,a5⟩,a6,a7⟩,a8,a9⟩:=h1
 obtain⟨⟨⟨⟨b1,b2,b3⟩,b4,b5⟩,b6,b7⟩,b8,b9⟩:=h2
 exact⟨⟨⟨⟨⟨a1,b1⟩,⟨a2,b2⟩,a3,b3⟩,by rw[a4,b4],by rw[a5,b5]⟩,⟨a6,b6⟩,by rw[a7,b7]⟩,⟨a8,b8⟩,by rw[a9,b9]⟩
open HandSHeadRun PySem.W in
theorem runC_app {r:OpenRow} {as:List Addr} {M:Nat} {w:World} {fa fb:List Chk} {fn fm:List He5.DefA} {er es:List ErN} {su sv:List SuI} {sm sn:List SuM}
  (h1:RunC r (fun s=>obsMG r.prog as fa fn er su sm (getT s)) (valM fn er su sm) M w) (h2:RunC r (fun s=>obsMG r.prog as fb fm es sv sn (getT s)) (valM fm es sv sn) M w) :
  RunC r (fun s=>obsMG r.prog as (fa++fb) (fn++fm) (er++es) (su++sv) (sm++sn) (getT s)) (valM (fn++fm) (er++es) (su++sv) (sm++sn)) M w:=fun os=>by
 have x:=h1 os
 have y:=h2 os
 generalize endF (stepQ (denQ tabQ) r.prog w) M r.prog w os=e at x y ⊢
 cases e with
 | none=>cases x
 | some s=>exact congrArg some (obsM_app (Option.some.inj x) (Option.some.inj y))
end WH
namespace DL
open PySem PySem.Spec PyProof.Rows L2
open PySem.W (noTabs tabIn)
/-- a def's code object,its table,its lambdas' name -/
abbrev Tb:=Addr × Addr × Str
/-- the tables of the defs xs,as the fragment tells them -/
def tabsK (K:PySem.W.Frag) (xs:List Str):List Tb:=xs.filterMap fun x=>(tabIn K x).map fun q=>(q.1,q.2,x++(".<locals>." ++ ("<lambda>" : Str)))
def cTabs (xs:List Str) (K:PySem.W.Frag):Bool:=noTabs K && (xs.all (fun x=>(tabIn K x).isSome) && decide (((tabsK K xs).map (·.2.1)).Nodup))
end DL
set_option maxHeartbeats 0
namespace KL
open PySem PySem.Spec PyProof.Rows L2
open He (ga ma)
def top (i:Nat):Stmt:=PySem.Challenge.pw_whichmatch_k06_schemas_refused.main.body.getD i (.Pass ⟨0,0,0,0⟩)
abbrev Ua:Stmt:=top 13
abbrev Vb:Stmt:=top 14
abbrev s_lines_of:Stmt:=top 15
abbrev Xw:Stmt:=top 20
abbrev Zr:Stmt:=top 21
abbrev Z9:Stmt:=top 22
abbrev Qu:Stmt:=inClass (top 23) 0
abbrev Zz:Stmt:=inClass (top 23) 7
abbrev Vk:Stmt:=top 24
abbrev X3:Stmt:=top 25
abbrev Qv:Stmt:=inClass (top 26) 0
abbrev Y4:Stmt:=inClass (top 26) 1
abbrev Yu:Stmt:=inClass (top 26) 6
abbrev Z0:Stmt:=inClass (top 26) 7
abbrev s_law_bag:Stmt:=top 28
abbrev Vo:Stmt:=top 29
abbrev s_law_of:Stmt:=top 30
abbrev Ub:Stmt:=top 31
abbrev Uc:Stmt:=top 32
abbrev Vp:Stmt:=top 33
abbrev Yv:Stmt:=top 34
abbrev Vc:Stmt:=top 35
abbrev Ud:Stmt:=top 36
abbrev Vq:Stmt:=top 37
abbrev Xn:Stmt:=top 38
abbrev Ue:Stmt:=top 39
abbrev s_law:Stmt:=top 40
def errN:List Str:=["BadName", "Twice", "BadKey", "BadReference", "NoTable", "TooMany", "BadText"]
def errFs:List Str:=["name", "index", "table", "limit"]
end KL
namespace KL
open PySem PySem.Spec PyProof.Rows L2
open He (ga ma)
def fa0_0:List WH.Chk:=[WH.cFree "all",WH.cFree "enumerate",WH.cFree "range",WH.cFree "min",WH.cFree "isinstance",WH.cFree "str",WH.cFree "len",WH.cFree "tuple",WH.cFree "TypeError",WH.cFree "abs",WH.cFree "int",WH.cFree "list",WH.cFree "max",WH.cFree "set",WH.cFree "sorted",WH.cFa (.str "LETTERS" "abcdefghijklmnopqrstuvwxyz"),WH.cFa (.int "MOST_LETTERS" 8),WH.cFa (.int "MOST_COLUMNS" 5),WH.cFa (.int "MOST_REFERENCES" 2),WH.cFa (.int "MOST_TABLES" 6),WH.cGlo "WhichError",WH.cGlo "Layout",WH.cGlo "Schema",WH.cExm errN,WH.cFnd errN errFs,WH.cFa (.cls "Layout"),WH.cFa (.mkr "Layout"),WH.cFa (.noat "Layout" "name"),WH.cFa (.noat "Layout" "columns"),WH.cFa (.noat "Layout" "all_keys")]
def fa0_1:List WH.Chk:=[WH.cFa (.noat "Layout" "key"),WH.cFa (.noat "Layout" "refers"),WH.cFa (.meth "Layout" "__eq__")]
def fa0:List WH.Chk:=fa0_0++fa0_1
def fa1_0:List WH.Chk:=[WH.cEq "Layout",WH.cIsi "Layout",WH.cFa (.cls "Schema"),WH.cFa (.mkr "Schema"),WH.cFa (.noat "Schema" "layouts"),WH.cFa (.meth "Schema" "names"),WH.cFa (.meth "Schema" "__or__"),WH.cFa (.meth "Schema" "__eq__"),WH.cEq "Schema",WH.cIsi "Schema",WH.cBin "or" "Schema" "Layout",WH.cGlo "place_in",WH.cGlo "is_name",WH.cGlo "lines_of",WH.cGlo "first_twice",WH.cGlo "are_columns",WH.cGlo "is_reference",WH.cGlo "layout_line",WH.cGlo "layout_of_line",WH.cGlo "_law_bag",WH.cGlo "_law_take",WH.cGlo "_law_of",WH.cGlo "_law_picked",WH.cGlo "_law_name",WH.cGlo "_law_make",WH.cGlo "_law_schema_of",WH.cGlo "_law_due",WH.cGlo "_law_raised",WH.cGlo "_law_link",WH.cGlo "_law_plain"]
def fa1_1:List WH.Chk:=[WH.cGlo "_law_plains",WH.cGlo "law",DL.cTabs ["law"]]
def fa1:List WH.Chk:=fa1_0++fa1_1
def fa:List WH.Chk:=fa0++fa1
def fn0_0:List He5.DefA:=[WH.mkI "Layout" Qu ["keys", "refers"],WH.mkM "Layout" "__eq__" "Layout.__eq__" Zz,WH.mkI "Schema" Qv [],WH.mkM "Schema" "names" "Schema.names" Y4,WH.mkM "Schema" "__or__" "Schema.__or__" Yu,WH.mkM "Schema" "__eq__" "Schema.__eq__" Z0,WH.mkD "place_in" Ua,WH.mkD "is_name" Vb,WH.mkD "lines_of" s_lines_of,WH.mkD "first_twice" Xw,WH.mkD "are_columns" Zr,WH.mkD "is_reference" Z9,WH.mkD "layout_line" Vk]
def fn0:List He5.DefA:=fn0_0
def fn1_0:List He5.DefA:=[WH.mkD "layout_of_line" X3,WH.mkD "_law_bag" s_law_bag,WH.mkD "_law_take" Vo,WH.mkD "_law_of" s_law_of,WH.mkD "_law_picked" Ub,WH.mkD "_law_name" Uc,WH.mkD "_law_make" Vp,WH.mkD "_law_schema_of" Yv,WH.mkD "_law_due" Vc,WH.mkD "_law_raised" Ud,WH.mkD "_law_link" Vq,WH.mkD "_law_plain" Xn,WH.mkD "_law_plains" Ue,WH.mkD "law" s_law]
def fn1:List He5.DefA:=fn1_0
def fn:List He5.DefA:=fn0++fn1
def er0_0:List WH.ErN:=[⟨"BadName",["name"],inClass (top 3) 0⟩,⟨"Twice",["name"],inClass (top 4) 0⟩,⟨"BadKey",["index"],inClass (top 5) 0⟩]
def er0:List WH.ErN:=er0_0
def er1_0:List WH.ErN:=[⟨"BadReference",["index"],inClass (top 6) 0⟩,⟨"NoTable",["table"],inClass (top 7) 0⟩,⟨"TooMany",["limit"],inClass (top 8) 0⟩,⟨"BadText",["index"],inClass (top 9) 0⟩]
def er1:List WH.ErN:=er1_0
def er:List WH.ErN:=er0++er1
def su0_0:List WH.SuI:=[]
def su0:List WH.SuI:=su0_0
def su1_0:List WH.SuI:=[]
def su1:List WH.SuI:=su1_0
def su:List WH.SuI:=su0++su1
def sm0_0:List WH.SuM:=[]
def sm0:List WH.SuM:=sm0_0
def sm1_0:List WH.SuM:=[]
def sm1:List WH.SuM:=sm1_0
def sm:List WH.SuM:=sm0++sm1
def loose0:List Str:=["_wall", "WhichError", "BadName", "Twice", "BadKey", "BadReference", "NoTable", "TooMany", "BadText", "place_in", "is_name", "lines_of", "first_twice", "are_columns", "is_reference", "Layout", "layout_line", "layout_of_line", "Schema", "_law_bag", "_law_take", "_law_of", "_law_picked", "_law_name", "_law_make", "_law_schema_of", "_law_due", "_law_raised", "_law_link", "_law_plain"]
def loose1:List Str:=["_law_plains", "LETTERS", "MOST_LETTERS", "MOST_COLUMNS", "MOST_REFERENCES", "MOST_TABLES"]
def loose:List Str:=loose0++loose1
abbrev R:PySem.W.OpenRow:=PySem.W.OpenLaw.row PySem.Challenge.rw_whichmatch_k06_schemas_refused
end KL
namespace KL
open PySem PySem.Spec PyProof.Rows L2
open He (ga ma)
def asL0:List Addr:=[3,284,283,378,377,31,30,2,137,116,95,74,53,179,158,463,178,462,359,352,319,314,281,232,115,157,136,73,94,52]
def asL1:List Addr:=[421,410,351,409,318,403,313,302,301,295,294,457,451,402,280,396,231,227,217,216,210,209,205,204,198,197,191,190,186,185]
def asL2:List Addr:=[450,395,176,175,164,446,389,155,154,143,445,388,134,133,122,439,415,113,112,101,438,458,92,91,80,432,414,71,70,59]
def asL3:List Addr:=[431,358,50,49,38,427,426,422]
def asL:List Addr:=asL0++asL1++asL2++asL3
theorem runA (w:World):WH.RunA R 100000 w:=by
 intro os
 kernel_rfl
theorem runB (w:World):WH.RunB R (PySem.W.view R.prog [40]) 100000 loose w:=by
 intro os
 kernel_rfl
theorem runC0 (w:World):WH.RunC R (fun s=>WH.obsMG R.prog asL fa0 fn0 er0 su0 sm0 (HandSHeadRun.getT s)) (WH.valM fn0 er0 su0 sm0) 100000 w:=by
 intro os
 kernel_rfl
theorem runC1 (w:World):WH.RunC R (fun s=>WH.obsMG R.prog asL fa1 fn1 er1 su1 sm1 (HandSHeadRun.getT s)) (WH.valM fn1 er1 su1 sm1) 100000 w:=by
 intro os
 kernel_rfl
abbrev hk:PySem.W.Hook:=WH.hookM R.prog asL fa fn er su sm
def ob (s:PySem.W.SharedT):WH.AlM:=WH.obsMG R.prog asL fa fn er su sm (HandSHeadRun.getT s)
theorem ob_eq (s:PySem.W.SharedT):ob s=hk.obs s.abs:=WH.obsMG_eq (HandSHeadRun.getT_eq s)
theorem runC (w:World):WH.RunC R ob (hk.val w) 100000 w:=WH.runC_app (runC0 w) (runC1 w)
theorem run (w:World):HandSHeadRun.RunEq R (PySem.W.view R.prog [40]) hk ob 100000 loose w:=WH.run_of (runA w) (runB w) (runC w)
end KL
set_option maxHeartbeats 4000000
namespace L2
open PySem PySem.Spec PyProof.Rows
open He (ga ma)
def FnF (K:PySem.W.Frag) (mg:Str→Option Value) (x:Str) (st:Stmt):Prop:=∃ fd,Fun K x x st (ga K x) fd∧mg x=some (.ref (ga K x))
def FnK (P:Program) (w:World) (K:PySem.W.Frag) (mg:Str→Option Value) (base:Heap) (CX:CXT) (k:Nat) (x:Str) (ps:List Str) (sp:Sp):Prop :=
 ∃ fd,FnOk P w K mg base CX k (ga K x) fd ps sp∧Binds K fd ps []∧PySem.W.keepIn K (.ref (ga K x))=true∧mg x=some (.ref (ga K x))
def FnKG (P:Program) (w:World) (K:PySem.W.Frag) (mg:Str→Option Value) (base:Heap) (CX:CXT) (k:Nat) (x:Str) (ps:List Str) (sp:Sp):Prop :=
 ∃ fd,FnG P w K mg base CX k (ga K x) fd ps sp∧Binds K fd ps []∧PySem.W.keepIn K (.ref (ga K x))=true∧mg x=some (.ref (ga K x))
abbrev Ug (x:Str) (st:Stmt) (ps:List Str):Prop:=∀ (kV doc pm:Value) (an:Option Addr) (cdv ct:Value) (us:List Value),us.length=ps.length→bindArgs (PySem.W.fnOf x x (defArgs st) (defBody st) (defScope st) .none kV doc pm an cdv ct) ⟨us,[]⟩ = pure (ps.zip us)
section
variable {P:Program} {w:World} {K:PySem.W.Frag} {mg:Str→Option Value} {base:Heap} {CX:CXT} {j k:Nat} {x:Str} {st:Stmt} {N ps:List Str} {sp:Sp}
theorem FnK.mono (F:FnK P w K mg base CX j x ps sp) (h:j≤k):FnK P w K mg base CX k x ps sp:=let ⟨fd,a,b⟩:=F; ⟨fd,a.mono h,b⟩
theorem FnKG.mono (F:FnKG P w K mg base CX j x ps sp) (h:j≤k):FnKG P w K mg base CX k x ps sp:=let ⟨fd,a,b⟩:=F; ⟨fd,a.mono h,b⟩
theorem FnK.g (F:FnK P w K mg base CX k x ps sp):FnKG P w K mg base CX k x ps sp:=let ⟨fd,a,b⟩:=F; ⟨fd,a.g,b⟩
theorem FnF.ok (F:FnF K mg x st) (S:FnScope N ps (defScope st)) (hb:Ug x st ps) (len:∀ vs H Q E,sp vs H Q E→vs.length=ps.length)
  (hbody:∀ (cdv:Value) (A:Around) (outer:List Env) (s:Shared) (H:Hp) (vs:List V) (Q:VK) (E:XK),Room k (A.deeper (envOfC x (defScope st) s.heap.objs.size (ga K x) cdv))→sp vs H Q E →
   ∃ t,PSs (cxOf CX0 P w K mg base N x (defScope st) (ga K x) cdv A outer s H E).nox (defBody st) t∧t { nx:=fun _ H'=>Q .non H',rt:=Q } (start N vs) H):FnK P w K mg base CX0 (k + 1) x ps sp:=by
 obtain⟨fd,F,hm⟩:=F
 exact⟨fd,F.ok S len hbody,F.binds hb,F.kp,hm⟩
end
end L2
namespace L2
open PySem PySem.Spec PyProof.Rows
open Evl (Ex Ev EvA EvT EvL EvU)
open TL (tl)
def BagOk (xs:List V):Prop:=∃ d m c:Int,xs=[.int d,.int m,.int c]∧0≤d∧0≤m∧m < 2 ^ 63
structure Stt (b:Addr) (G H:Hp):Prop where
 sub:Ex G H
 nb:G b=none
 bag:∃ xs,H b=some (.lst xs)∧BagOk xs
theorem Ex.none_of {G H:Hp} {p:Addr} (e:Ex G H) (h:H p=none):G p=none:=by
 cases q:G p with
 | none=>rfl
 | some o=>rw[e p o q] at h; cases h
theorem Stt.ex {b:Addr} {G H H':Hp} (s:Stt b G H) (e:Ex H H'):Stt b G H':=by
 obtain⟨xs,h,k⟩:=s.bag
 exact⟨s.sub.trans e,s.nb,xs,e _ _ h,k⟩
theorem Stt.new {b p:Addr} {G H:Hp} {o:HO} (s:Stt b G H) (hp:H p=none):Stt b (upd G p o) (upd H p o):=by
 obtain⟨xs,h,k⟩:=s.bag
 have hb:b ≠ p:=ne_of_none h hp
 refine⟨fun a u e=>?_,?_,xs,?_,k⟩
 ·by_cases ha:a=p
  ·subst ha; rw[upd_same] at e ⊢; exact e
  ·rw[upd_ne ha] at e ⊢; exact s.sub a u e
 ·rw[upd_ne hb]; exact s.nb
 ·rw[upd_ne hb]; exact h
theorem Stt.exN {b p:Addr} {G H:Hp} {o:HO} (s:Stt b G H) (hp:H p=none):Ex G (upd G p o):=Ex.new (Ex.none_of s.sub hp)
theorem Stt.put {b:Addr} {G H:Hp} {xs:List V} (s:Stt b G H) (k:BagOk xs):Stt b G (upd H b (.lst xs)):=by
 refine⟨fun a u e=>?_,s.nb,xs,upd_same,k⟩
 have ha:a ≠ b:=ne_of_none e s.nb
 rw[upd_ne ha]
 exact s.sub a u e
theorem sz10 {n:Nat} (h:n≤1000):n≤sizeLine:=Nat.le_trans h (by decide)
theorem div_ok {i j:Int} (h0:0 < j) (h:j≤10 ^ 60):CDivW i j:=by
 refine wide_div (b:=200) h0 ?_ (by decide) (by decide)
 have h1:(10:Int) ^ 60 < 2 ^ 200:=by decide
 have h2:j < 2 ^ 200:=by omega
 have h3:(j.natAbs:Int)=j:=Int.natAbs_of_nonneg (by omega)
 have h4:((2 ^ 200:Nat):Int)=(2:Int) ^ 200:=by decide
 omega
end L2
namespace L2
open PySem PySem.Spec PyProof.Rows
open Evl (Ex Ev EvA EvT EvL EvU)
open TL (tl)
def NameL (l:List Nat):Prop:=1≤l.length∧l.length≤8∧∀ c∈l,97≤c∧c≤122
def abc:Str := "abcdefghijklmnopqrstuvwxyz"
theorem abc_tl:tl abc=(List.range 26).map (97 + ·):=by decide +kernel
theorem abc_len:abc.length=26:=by decide +kernel
theorem abc_mem {c:Nat} (h:c∈tl abc):97≤c∧c≤122:=by
 rw[abc_tl] at h
 obtain⟨i,hi,rfl⟩:=List.mem_map.mp h
 have:=List.mem_range.mp hi
 omega
theorem abc_in {c:Nat} (h:97≤c∧c≤122):c∈tl abc:=by
 rw[abc_tl]
 exact List.mem_map.mpr ⟨c - 97,List.mem_range.mpr (by omega),by omega⟩
theorem abc_at {i:Nat} (h:i < 26):atI (tl abc) (i:Int)=some (97 + i):=by
 refine atI_nat ?_
 rw[abc_tl,List.getElem?_map,List.getElem?_range h]
 rfl
theorem tl_cut_to (z:Str) {i:Nat} (h:i≤(tl z).length):tl (cutS z none (some (i:Int)))=(tl z).take i:=by
 show ((tl z).drop (HT.sIx z.length 0 none)).take _=_
 rw[HT.sIx_none,HT.sIx_nat,TL.len_tl z,Nat.min_eq_left h]
 rfl
theorem tl_cut_from (z:Str) {i:Nat} (h:i≤(tl z).length):tl (cutS z (some (i:Int)) none)=(tl z).drop i:=by
 show ((tl z).drop (HT.sIx z.length 0 (some (i:Int)))).take _=_
 rw[HT.sIx_none,HT.sIx_nat,TL.len_tl z,Nat.min_eq_left h]
 exact List.take_of_length_le (by rw[List.length_drop]; omega)
theorem set_cut {l:List Nat} {i c:Nat} (h:i < l.length):l.take i++[c]++l.drop (i + 1)=l.set i c:=by
 rw[List.set_eq_take_append_cons_drop,if_pos h]
 simp
theorem NameL.set {l:List Nat} {i c:Nat} (n:NameL l) (hc:97≤c∧c≤122):NameL (l.set i c):=by
 obtain⟨a,b,d⟩:=n
 refine⟨by rw[List.length_set]; exact a,by rw[List.length_set]; exact b,fun x hx=>?_⟩
 rcases List.mem_or_eq_of_mem_set hx with h | h
 ·exact d x h
 ·subst h; exact hc
theorem nodup_len {α:Type} [DecidableEq α]:∀ {l m:List α},l.Nodup→(∀ x∈l,x∈m)→l.length≤m.length
 | [],_,_,_=>Nat.zero_le _
 | a :: l,m,nd,h=>by
  have h1:a∈m:=h a List.mem_cons_self
  have nd':=List.nodup_cons.mp nd
  have ih:=nodup_len (l:=l) (m:=m.erase a) nd'.2 fun x hx=>by
   have hne:x ≠ a:=by rintro rfl; exact nd'.1 hx
   exact (List.mem_erase_of_ne hne).mpr (h x (List.mem_cons_of_mem _ hx))
  rw[List.length_erase_of_mem h1] at ih
  have:=List.length_pos_of_mem h1
  rw[List.length_cons]
  omega
/-- the word with another letter at a place -/
def Uh (l:List Nat) (sp f j:Nat):Str:=⟨(l.set sp (97 + (f + j) % 26)).toArray⟩
theorem wordAt_inj {l:List Nat} {sp f i j:Nat} (hs:sp < l.length) (hi:i < 26) (hj:j < 26) (e:Uh l sp f i=Uh l sp f j):i=j:=by
 have e1:l.set sp (97 + (f + i) % 26)=l.set sp (97 + (f + j) % 26):=congrArg tl e
 have e2:=congrArg (fun m=>m[sp]?) e1
 simp only[List.getElem?_set_self hs] at e2
 have e3:=Option.some.inj e2
 omega
theorem words_many {l:List Nat} {sp f:Nat} {taken:List Str} (hs:sp < l.length) (h:∀ j < 26,Uh l sp f j∈taken):26≤taken.length:=by
 have h1:((List.range 26).map (Uh l sp f)).Nodup:=by
  refine List.pairwise_map.mpr (List.Pairwise.imp_of_mem ?_ List.nodup_range)
  intro a b ha hb hne e
  exact hne (wordAt_inj hs (List.mem_range.mp ha) (List.mem_range.mp hb) e)
 have h2:=nodup_len h1 fun x hx=>by
  obtain⟨j,hj,rfl⟩:=List.mem_map.mp hx
  exact h j (List.mem_range.mp hj)
 simpa using h2
theorem tl_join0 (ys:List Str):tl (Txt.join Str.empty ys)=(ys.map tl).flatten:=by
 rw[TL.join_eq,TL.tl_join]
 show TL.joinL [] (ys.map tl)=_
 generalize ys.map tl=l
 induction l with
 | nil=>rfl
 | cons p r ih =>
  cases r with
  | nil=>simp [TL.joinL]
  | cons q r=>show p++([]++TL.joinL [] (q :: r))=_; rw[ih]; simp
theorem Stt.mut {b p:Addr} {G H:Hp} {o:HO} (s:Stt b G H) (hp:G p=none) (hb:p ≠ b):Stt b G (upd H p o):=by
 obtain⟨xs,h,k⟩:=s.bag
 refine⟨fun a u e=>?_,s.nb,xs,?_,k⟩
 ·rw[upd_ne (ne_of_none e hp)]; exact s.sub a u e
 ·rw[upd_ne hb.symm]; exact h
theorem Stt.free {b p:Addr} {G H:Hp} (s:Stt b G H) (hp:H p=none):G p=none∧p ≠ b:=by
 obtain⟨xs,h,k⟩:=s.bag
 exact⟨Ex.none_of s.sub hp,(ne_of_none h hp).symm⟩
end L2
namespace L2
open PySem PySem.Spec PyProof.Rows
open Evl (Ex Ev EvA EvT EvL EvU)
open TL (tl)
theorem sz5 {n:Nat} (h:n≤100000):n≤sizeLine:=Nat.le_trans h (by decide)
theorem sz5l {n:Nat} (h:n < 100000):n < sizeLine:=Nat.lt_of_lt_of_le h (by decide)
/-- texts,sign by sign -/
theorem str_at {z:Str} {i:Nat} {c:Nat} (h:z.cps[i]?=some c):(tl z)[i]?=some c:=by
 rw[← h]
 simp [tl]
theorem size_tl (z:Str):z.cps.size=(tl z).length:=by simp [tl]
/-- a module's constant -/
theorem pe_gv {X:Cx} {x:Str} {v:V} {pos:Pos} (h:∃ u,X.mg x=some u∧RelV v u) (hg:Gl X x:=by rfl) (hd:(x == ("__debug__" : Str))=false:=by decide):PE X (.Name x pos) (tC v) :=
 let ⟨_,a,r⟩:=h; pe_glob hg a r hd
mutual
theorem Dp.ex {K:PySem.W.Frag} {H H':Hp} (e:Ex H H'):∀ {d:PyData} {v:V},Dp K H v d→Dp K H' v d
 | _,_,.non=>.non
 | _,_,.bl b=>.bl b
 | _,_,.int i=>.int i
 | _,_,.str x=>.str x
 | _,_,.lst h1 h2=>.lst (Evl.ex_l e h1) (DpAll.ex e h2)
 | _,_,.tup h1 h2=>.tup (Evl.ex_t e h1) (DpAll.ex e h2)
theorem DpAll.ex {K:PySem.W.Frag} {H H':Hp} (e:Ex H H'):∀ {ds:List PyData} {vs:List V},DpAll K H vs ds→DpAll K H' vs ds
 | _,_,.nil=>.nil
 | _,_,.cons h1 h2=>.cons (Dp.ex e h1) (DpAll.ex e h2)
end
end L2
namespace L2
open PySem PySem.Spec PyProof.Rows
def MtF (K:PySem.W.Frag) (x qual:Str) (st:Stmt) (f:Addr):Prop:=∃ fd,Fun K x qual st f fd
def MtK (P:Program) (w:World) (K:PySem.W.Frag) (mg:Str→Option Value) (base:Heap) (CX:CXT) (k:Nat) (f:Addr) (ps:List Str) (sp:Sp):Prop :=
 ∃ fd,FnOk P w K mg base CX k f fd ps sp∧Binds K fd ps []∧PySem.W.keepIn K (.ref f)=true
abbrev BindRowQ (x qual:Str) (st:Stmt) (ps:List Str):Prop:=∀ (kV doc pm:Value) (an:Option Addr) (cdv ct:Value) (us:List Value),us.length=ps.length→bindArgs (PySem.W.fnOf x qual (defArgs st) (defBody st) (defScope st) .none kV doc pm an cdv ct) ⟨us,[]⟩ = pure (ps.zip us)
section
variable {P:Program} {w:World} {K:PySem.W.Frag} {mg:Str→Option Value} {base:Heap} {CX:CXT} {j k:Nat} {x qual:Str} {st:Stmt} {f:Addr} {N ps:List Str} {sp:Sp}
theorem MtK.mono (F:MtK P w K mg base CX j f ps sp) (h:j≤k):MtK P w K mg base CX k f ps sp:=let ⟨fd,a,b⟩:=F; ⟨fd,a.mono h,b⟩
theorem MtF.ok (F:MtF K x qual st f) (S:FnScope N ps (defScope st)) (hb:BindRowQ x qual st ps) (len:∀ vs H Q E,sp vs H Q E→vs.length=ps.length)
  (hbody:∀ (cdv:Value) (A:Around) (outer:List Env) (s:Shared) (H:Hp) (vs:List V) (Q:VK) (E:XK),Room k (A.deeper (envOfC qual (defScope st) s.heap.objs.size f cdv))→sp vs H Q E →
   ∃ t,PSs (cxOf CX0 P w K mg base N qual (defScope st) f cdv A outer s H E).nox (defBody st) t∧t { nx:=fun _ H'=>Q .non H',rt:=Q } (start N vs) H):MtK P w K mg base CX0 (k + 1) f ps sp:=by
 obtain⟨fd,F⟩:=F
 exact⟨fd,F.ok S len hbody,F.binds hb,F.kp⟩
end
end L2
namespace L2
open PySem PySem.Spec PyProof.Rows
open TL (tl)
mutual
/-- ints below 10^100,texts of plain signs,no dicts -/
def gd:PyData→Bool
 | .none=>true
 | .bool _=>true
 | .int i=>decide (i.natAbs < 10 ^ 100)
 | .str x=>(tl x).all fun c=>decide (c < 128)
 | .list xs=>gdAll xs
 | .tuple xs=>gdAll xs
 | .dict _=>false
def gdAll:List PyData→Bool
 | []=>true
 | x :: xs=>gd x && gdAll xs
end
mutual
/-- a bound of the signs that show it -/
def wt:PyData→Nat
 | .none=>4
 | .bool _=>5
 | .int _=>101
 | .str x=>10 * x.length + 2
 | .list xs=>wtAll xs + 3
 | .tuple xs=>wtAll xs + 3
 | .dict _=>0
def wtAll:List PyData→Nat
 | []=>0
 | x :: xs=>wt x + 2 + wtAll xs
end
mutual
theorem gd_can:∀ d:PyData,gd d=true→d.canLay0=true
 | .none,_=>rfl
 | .bool _,_=>rfl
 | .int _,_=>rfl
 | .str x,h=>by
  have h1:(tl x).all (fun c=>decide (c < 128))=true:=by simpa [gd] using h
  simp only[PyData.canLay0,PyData.strOk]
  rw[← Array.all_toList]
  refine List.all_eq_true.mpr fun c hc=>?_
  have h2:c < 128:=of_decide_eq_true (List.all_eq_true.mp h1 c hc)
  simp
  omega
 | .list xs,h=>by
  simp only[PyData.canLay0]
  exact gd_canAll xs (by simpa [gd] using h)
 | .tuple xs,h=>by
  simp only[PyData.canLay0]
  exact gd_canAll xs (by simpa [gd] using h)
 | .dict _,h=>by simp [gd] at h
theorem gd_canAll:∀ xs:List PyData,gdAll xs=true→PyData.canLayAll0 xs=true
 | [],_=>rfl
 | x :: xs,h=>by
  have h':gd x=true∧gdAll xs=true:=by simpa [gdAll] using h
  simp only[PyData.canLayAll0,gd_can x h'.1,gd_canAll xs h'.2,Bool.and_self]
end
/-- what repr and == ask -/
structure Gd (d:PyData):Prop where
 g:gd d=true
 w:wt d≤10000000
 dp:d.depth≤60
theorem Gd.shaped {d:PyData} (h:Gd d):SeqAt.shaped d=true:=by
 unfold SeqAt.shaped
 rw[gd_can d h.g,decide_eq_true (Nat.le_trans h.dp (by decide))]
 rfl
theorem Gd.refl {d:PyData} (h:Gd d):PyData.eqv d d=true:=SeqAt.eqv_refl d (gd_can d h.g)
end L2
namespace L2
open PySem PySem.Spec PyProof.Rows
open He (ga ma)
end L2
namespace PySem
namespace WErr
open PySem.W PySem.Calls PyProof.Rows PySem.HandSPX
structure PsN where
 (a1 a2 a3 a5 a6 a7:Pos) (k:Nat) (txt:Str) (qs:List (Pos × Pos × Pos × Pos))
def asN (f:Str) (q:Pos × Pos × Pos × Pos):Stmt:=.Assign [.Attribute (.Name "self" q.1) f q.2.1] (.Name f q.2.2.1) q.2.2.2
def eBN (fls:List Str) (p:PsN):List Stmt :=
 .Expr (.Call (.Attribute (.Call (.Name "super" p.a1) [] [] p.a2) "__init__" p.a3) [.Constant (.str p.txt) p.k p.a5] [] p.a6) p.a7 :: List.zipWith asN fls p.qs
def eSN (fls:List Str):Scope:={ kind:=.function,names:=(("self" : Str),NameKind.local) :: (fls.map (fun f=>(f,NameKind.local))++[(("__class__" : Str),NameKind.free),(("super" : Str),NameKind.globalImplicit)]),isGenerator:=false,isCoroutine:=false,more:=[] }
structure ErrTxtN (prog:Program) (K:Frag) (mg:Str→Option Value) (x:Str) (fls:List Str) (C fI:Addr):Prop where
 gC:mg x=some (.ref C)
 cls:∃ nm q N bs bm sn sub ab col dd k0 k1 k2 k3 k5,K.lookup C=some (excClassObj nm q C N bs bm true sn sub ab col dd k0 k1 k2 k3 k5 "ValueError.__new__")∧refsVE bm=true
 sa:findIn K (.ref C) "__setattr__" = some (some (.builtin "object.__setattr__"))
 xf:L2.XfC K C
 noF:∀ f∈fls,findIn K (.ref C) f=some none
 iC:findIn K (.ref C) "__init__" = some (some (.ref fI))
 tC:typeIn K (.ref fI)=some (.type "function")
 kC:keepIn K (.ref C)=true
 exC:subIn K (.ref C) (.type "BaseException")=some true
 tyC:typeIn K (.ref C)=some (.type "type")
 sup:ks_superIn K C C "__init__" = some (some (.builtin "ValueError.__init__"))
 ve:subIn K (.ref C) (.type "ValueError")=some true
 any:nsIn K cStatics "thirdparty.any" = some none
 own:mroIn K C (.ref C)=some true
 gS:mg "super" = none
 htop:(prog.main.scope.names.lookup ("super" : Str)).isSome=false
 few:fls=[]∨(∃ f,fls=[f])∨∃ f g,fls=[f,g]∧f ≠ g
 fn:∃ (oc:Value) (od:Option Addr) (qual:Str) (params:Arguments) (doc pm kV:Value) (an:Option Addr) (cda cc:Addr) (ct:Value) (osl:Array (Option Value)) (p:PsN) (ar:Arg),
  K.lookup fI=some ⟨oc,od,.func (ksFn "__init__" qual params (eBN fls p) (eSN fls) .none kV doc pm an (.ref cda) ct cc),osl⟩∧codeIn K (.ref cda) qual=true∧p.qs.length=fls.length ∧
  (params.posonlyargs++params.args).head?=some ar∧ar.arg = "self" ∧
  (∃ ccl cdd vs ccs file tf,K.lookup cda=some ⟨ccl,cdd,.fields vs,ccs⟩∧vs[2]?=some (.str file tf)∧((prog.main.file:Str) == file)=true) ∧
  (∃ cl cld csl,K.lookup cc=some ⟨cl,cld,.cell (some (.ref C)),csl⟩) ∧
  (eSN fls).names.lookup ("super" : Str)=some .globalImplicit∧(eSN fls).names.lookup ("__class__" : Str)=some .free∧(eSN fls).names.lookup ("self" : Str)=some .local∧(∀ f∈fls,(eSN fls).names.lookup f=some .local) ∧
  (∀ f∈fls,f ≠ "self" ∧ (f == ("__debug__" : Str))=false) ∧
  (∀ L f:Addr,∃ pl:Sem Bool,eval (.Call (.Attribute (.Call (.Name "super" p.a1) [] [] p.a2) "__init__" p.a3) [.Constant (.str p.txt) p.k p.a5] [] p.a6) (ksEnv qual (eSN fls) L f (.ref cda) cc)=(do
   let ov ← attributeBase (.Call (.Name "super" p.a1) [] [] p.a2) "__init__" (ksEnv qual (eSN fls) L f (.ref cda) cc) (eval (.Call (.Name "super" p.a1) [] [] p.a2) (ksEnv qual (eSN fls) L f (.ref cda) cc))
   standAt p.a3.atName
   let (f1,first) ← holding [ov] (getMethod ov "__init__" pl)
   callWith p.a6 f1 first (backTo p.a6 (starEach [.Constant (.str p.txt) p.k p.a5] (ksEnv qual (eSN fls) L f (.ref cda) cc))) [])) ∧
  (∀ (a:Value) (us:List Value),us.length=fls.length→bindArgs (ksFn "__init__" qual params (eBN fls p) (eSN fls) .none kV doc pm an (.ref cda) ct cc) ⟨a :: us,[]⟩ = pure ((("self" : Str),a) :: fls.zip us))
end WErr
end PySem
namespace L2
open PySem PySem.Spec PyProof.Rows
open Evl (Ex Ev EvA EvT EvL EvU)
def ErO (a C:Addr) (od:Option Addr):HO:=.ext fun h=>∃ oe vs,h.get? a=some oe∧oe.cls=.ref C∧oe.dict=od∧oe.data=.fields vs
/-- an error at a: its class,its fields -/
def EV (H:Hp) (a C:Addr) (fs:List (Str × V)):Prop:=(H a=some (ErO a C none)∧fs=[])∨∃ d,H a=some (ErO a C (some d))∧H d=some (.xd fs)
theorem EV.ex {H H':Hp} {a C:Addr} {fs:List (Str × V)} (h:EV H a C fs) (e:Ex H H'):EV H' a C fs:=by
 rcases h with ⟨h,r⟩ | ⟨d,h1,h2⟩
 ·exact .inl ⟨e _ _ h,r⟩
 ·exact .inr ⟨d,e _ _ h1,e _ _ h2⟩
end L2
namespace WH
open PySem PySem.Spec PyProof.Rows L2
open He (ga ma ba eqO eqO_ok)
theorem ErN.txt {prog:Program} {K:Frag} {h:Heap} {mg:Str→Option Value} {e:ErN} {p:PySem.WErr.PsN} {ar:Arg} (X:K.In h) (G:h.Ns mainGlobals mg) (c:e.ok prog K=true) (v:fnE K e.x=e.val)
  (hB:defBody e.st=PySem.WErr.eBN e.fls p) (hS:defScope e.st=PySem.WErr.eSN e.fls) (hP:((defArgs e.st).posonlyargs++(defArgs e.st).args).head?=some ar) (hA:ar.arg = "self")
  (h1:(PySem.WErr.eSN e.fls).names.lookup ("super" : Str)=some .globalImplicit) (h2:(PySem.WErr.eSN e.fls).names.lookup ("__class__" : Str)=some .free) (h3:(PySem.WErr.eSN e.fls).names.lookup ("self" : Str)=some .local) (h4:∀ f∈e.fls,(PySem.WErr.eSN e.fls).names.lookup f=some .local)
  (h5:∀ f∈e.fls,f ≠ "self" ∧ (f == ("__debug__" : Str))=false) (h6:e.fls=[]∨(∃ f,e.fls=[f])∨∃ f g,e.fls=[f,g]∧f ≠ g) (h7:p.qs.length=e.fls.length)
  (h8:∀ cda cc L f:Addr,∃ pl:Sem Bool,eval (.Call (.Attribute (.Call (.Name "super" p.a1) [] [] p.a2) "__init__" p.a3) [.Constant (.str p.txt) p.k p.a5] [] p.a6) (PySem.W.ksEnv (e.x ++ ".__init__") (PySem.WErr.eSN e.fls) L f (.ref cda) cc)=(do
   let ov ← attributeBase (.Call (.Name "super" p.a1) [] [] p.a2) "__init__" (PySem.W.ksEnv (e.x ++ ".__init__") (PySem.WErr.eSN e.fls) L f (.ref cda) cc) (eval (.Call (.Name "super" p.a1) [] [] p.a2) (PySem.W.ksEnv (e.x ++ ".__init__") (PySem.WErr.eSN e.fls) L f (.ref cda) cc))
   standAt p.a3.atName
   let (f1,first) ← holding [ov] (getMethod ov "__init__" pl)
   callWith p.a6 f1 first (backTo p.a6 (starEach [.Constant (.str p.txt) p.k p.a5] (PySem.W.ksEnv (e.x ++ ".__init__") (PySem.WErr.eSN e.fls) L f (.ref cda) cc))) []))
  (h9:∀ (kV doc pm:Value) (an:Option Addr) (cda cc:Addr) (ct a:Value) (us:List Value),us.length=e.fls.length→bindArgs (PySem.W.ksFn "__init__" (e.x ++ ".__init__") (defArgs e.st) (PySem.WErr.eBN e.fls p) (PySem.WErr.eSN e.fls) .none kV doc pm an (.ref cda) ct cc) ⟨a :: us,[]⟩ = pure ((("self" : Str),a) :: e.fls.zip us)) :
  PySem.WErr.ErrTxtN prog K mg e.x e.fls (ga K e.x) (iAd K e.x):=by
 obtain⟨c1,c⟩:=ba c
 obtain⟨c2,c⟩:=ba c
 obtain⟨c3,c⟩:=ba c
 obtain⟨c4,c⟩:=ba c
 obtain⟨c5,c⟩:=ba c
 obtain⟨c6,c⟩:=ba c
 obtain⟨c7,c⟩:=ba c
 obtain⟨c8,c⟩:=ba c
 obtain⟨c9,c⟩:=ba c
 obtain⟨c10,c⟩:=ba c
 obtain⟨c11,c⟩:=ba c
 obtain⟨c12,c⟩:=ba c
 obtain⟨c13,c⟩:=ba c
 obtain⟨c14,c⟩:=ba c
 obtain⟨c15,c⟩:=ba c
 obtain⟨c16,c17⟩:=ba c
 refine⟨PySem.W.mg_of X G (eqO_ok c1),veB_ok c2,eqO_ok c3,xfB_ok c4,(fun f hf=>eqO_ok (List.all_eq_true.mp c5 f hf)),eqO_ok c6,of_decide_eq_true c7,c8,of_decide_eq_true c9,of_decide_eq_true c10,eqO_ok c11,of_decide_eq_true c12,eqO_ok c13,of_decide_eq_true c14,PySem.W.mg_none_of X G (eqO_ok c15),by simpa using c16,h6,?_⟩
 unfold fnE at v
 unfold inB at c17
 cases q:K.lookup (iAd K e.x) with
 | none=>rw[q] at v; cases v
 | some o =>
  obtain⟨oc,od,dt,osl⟩:=o
  rw[q] at v c17
  cases dt with
  | func fd =>
   obtain⟨n1,n2,n3,n4,n5,n6,n7,n8,n9,n10,n11,n12,n13,n14,n15⟩:=fd
   have e2:(some (n1,n2,n3,n4,n5,n6,n7.map (·.1),n15):FnE)=e.val:=v
   unfold ErN.val at e2
   simp only[Option.some.injEq,Prod.mk.injEq] at e2
   obtain⟨g1,g2,g3,g4,g5,g6,g7,g8⟩:=e2
   subst g1 g2 g3 g4 g5 g6 g8
   dsimp only at c17
   split at c17
   ·rename_i cda nm cc
    obtain⟨d1,d⟩:=ba c17
    obtain⟨d2,d3⟩:=ba d
    have hnm:nm=("__class__" : Str):=by simpa using g7
    subst hnm
    rw[hB,hS]
    refine⟨oc,od,_,_,_,_,_,_,cda,cc,_,osl,p,ar,rfl,d1,h7,hP,hA,?_,?_,h1,h2,h3,h4,h5,h8 cda cc,h9 _ _ _ _ cda cc _⟩
    ·split at d2
     ·rename_i z1 z2 vs z3 hl
      split at d2
      ·rename_i file tf hv
       exact⟨_,_,vs,_,file,tf,hl,hv,d2⟩
      ·cases d2
     ·cases d2
    ·split at d3
     ·rename_i z1 z2 D z3 hl
      obtain rfl:=of_decide_eq_true d3
      exact⟨_,_,_,hl⟩
     ·cases d3
   ·cases c17
  | _=>cases c17
section
variable {prog:Program} {fa:List Chk} {fn:List He5.DefA} {er:List ErN} {K:Frag}
theorem SaysN.fact (c:SaysN prog fa fn er K) (i:Nat) {f:Chk} (h:fa[i]?=some f:=by rfl):f K=true :=
 List.all_eq_true.mp (ba (congrArg (fun z:AlN=>z.1) c)).1 f (List.mem_of_getElem? h)
theorem SaysN.def_ (c:SaysN prog fa fn er K) (i:Nat) {d:He5.DefA} (h:fn[i]?=some d:=by rfl):∃ fd,L2.FunD K d.name d.qual d.params d.body d.scope (d.dvs K) (d.kws K) (d.at_ K) fd:=by
 have e:fn.map (fun d=>He5.fnA K (d.at_ K))=fn.map He5.DefA.val:=congrArg (fun z:AlN=>z.2.1) c
 have e2:=congrArg (fun l=>l[i]?) e
 simp only[List.getElem?_map,h] at e2
 exact He5.DefA.funD (Option.some.inj e2) (List.all_eq_true.mp (ba (ba (congrArg (fun z:AlN=>z.1) c)).2).1 d (List.mem_of_getElem? h))
theorem SaysN.err (c:SaysN prog fa fn er K) (i:Nat) {e:ErN} (h:er[i]?=some e:=by rfl):e.ok prog K=true∧fnE K e.x=e.val:=by
 have e1:er.map (fun e=>fnE K e.x)=er.map ErN.val:=congrArg (fun z:AlN=>z.2.2) c
 have e2:=congrArg (fun l=>l[i]?) e1
 simp only[List.getElem?_map,h] at e2
 exact⟨List.all_eq_true.mp (ba (ba (congrArg (fun z:AlN=>z.1) c)).2).2 e (List.mem_of_getElem? h),Option.some.inj e2⟩
end
theorem one_of {prog:Program} {K:Frag} {mg:Str→Option Value} {x f:Str} {C fI:Addr} (T:PySem.WErr.ErrTxtN prog K mg x [f] C fI) (hc:(f == ("__class__" : Str))=false):PySem.WErr.ErrTxt prog K mg x f C fI:=by
 obtain⟨oc,od,qual,params,doc,pm,kV,an,cda,cc,ct,osl,p,ar,ho,hcd,hpq,hp,har,g1,g2,h1,h2,h3,h4,h5,hev,hb⟩:=T.fn
 obtain⟨a1,a2,a3,a5,a6,a7,kk,txt,qs⟩:=p
 obtain⟨q1,hq1⟩:=List.length_eq_one_iff.mp hpq
 dsimp only at hq1
 subst hq1
 obtain⟨q1,q2,q3,q4⟩:=q1
 exact⟨T.gC,T.cls,T.sa,T.xf,T.noF f List.mem_cons_self,T.iC,T.tC,T.kC,T.exC,T.tyC,T.sup,T.ve,T.any,T.own,T.gS,T.htop,
  oc,od,qual,params,doc,pm,kV,an,cda,cc,ct,osl,⟨a1,a2,a3,a5,a6,a7,q1,q2,q3,q4,kk,txt⟩,ar,ho,hcd,hp,har,g1,g2,h1,h2,h3,h4 f List.mem_cons_self,(h5 f List.mem_cons_self).1,(h5 f List.mem_cons_self).2,hc,hev,fun a b=>hb a [b] rfl⟩
end WH
namespace WH
open PySem PySem.Spec PyProof.Rows L2
open He (ga ma ba eqO eqO_ok)
def psOf (st:Stmt):PySem.WErr.PsN:=match defBody st with
 | .Expr (.Call (.Attribute (.Call (.Name _ a1) _ _ a2) _ a3) [.Constant (.str txt) k a5] _ a6) a7 :: r =>
  ⟨a1,a2,a3,a5,a6,a7,k,txt,r.map fun s=>match s with
   | .Assign [.Attribute (.Name _ q1) _ q2] (.Name _ q3) q4=>(q1,q2,q3,q4)
   | _=>(a1,a1,a1,a1)⟩
 | _=>⟨⟨0,0,0,0⟩,⟨0,0,0,0⟩,⟨0,0,0,0⟩,⟨0,0,0,0⟩,⟨0,0,0,0⟩,⟨0,0,0,0⟩,0, "",[]⟩
def argsN (as:List Arg):Arguments:=⟨[],as,none,[],[],none,[]⟩
theorem sup_eval (p:PySem.WErr.PsN) (hline:(p.a3.endLine == p.a6.line)=true) (qual:Str) (sc:Scope) (cda cc L f:Addr):∃ pl:Sem Bool,eval (.Call (.Attribute (.Call (.Name "super" p.a1) [] [] p.a2) "__init__" p.a3) [.Constant (.str p.txt) p.k p.a5] [] p.a6) (PySem.W.ksEnv qual sc L f (.ref cda) cc)=(do
   let ov ← attributeBase (.Call (.Name "super" p.a1) [] [] p.a2) "__init__" (PySem.W.ksEnv qual sc L f (.ref cda) cc) (eval (.Call (.Name "super" p.a1) [] [] p.a2) (PySem.W.ksEnv qual sc L f (.ref cda) cc))
   standAt p.a3.atName
   let (f1,first) ← holding [ov] (getMethod ov "__init__" pl)
   callWith p.a6 f1 first (backTo p.a6 (starEach [.Constant (.str p.txt) p.k p.a5] (PySem.W.ksEnv qual sc L f (.ref cda) cc))) []):=by
 generalize (PySem.W.ksEnv qual sc L f (.ref cda) cc)=env
 refine⟨(do return (← importBound (.Call (.Name "super" p.a1) [] [] p.a2) env).getD true),?_⟩
 have hpos:methodCallPos true (.Call (.Name "super" p.a1) [] [] p.a2) env p.a3 p.a6=pure p.a6:=by unfold methodCallPos; simp [hline]
 have hform:methodCallForm 1 (backTo p.a6 (starEach [.Constant (.str p.txt) p.k p.a5] env)) (backToKw p.a6 (keywordEach [] env))=true:=rfl
 rw[arm_eval_Call]
 show (do
  let ov ← attributeBase (.Call (.Name "super" p.a1) [] [] p.a2) "__init__" env (eval (.Call (.Name "super" p.a1) [] [] p.a2) env)
  standAt p.a3.atName
  methodCall (.Call (.Name "super" p.a1) [] [] p.a2) "__init__" p.a3 p.a6 env ov 1 (backTo p.a6 (starEach [.Constant (.str p.txt) p.k p.a5] env)) (backToKw p.a6 (keywordEach [] env)))=_
 unfold methodCall
 rw[hform,hpos]
 rfl
structure StOk (fls:List Str) (st:Stmt):Prop where
 b:defBody st=PySem.WErr.eBN fls (psOf st)
 s:defScope st=PySem.WErr.eSN fls
 l:((psOf st).a3.endLine == (psOf st).a6.line)=true
 q:(psOf st).qs.length=fls.length
 a:∃ q0 qs,qs.length=fls.length∧defArgs st=argsN (⟨"self",none,q0⟩ :: List.zipWith (fun f q=>⟨f,none,q⟩) fls qs)
def a0 (st:Stmt):Pos:=((defArgs st).args.map (·.pos)).headD ⟨0,0,0,0⟩
def aqs (st:Stmt):List Pos:=((defArgs st).args.map (·.pos)).tail
def FlOk (fls:List Str):Prop:=(fls=[]∨(∃ f,fls=[f])∨∃ f g,fls=[f,g]∧f ≠ g) ∧
 (PySem.WErr.eSN fls).names.lookup ("super" : Str)=some .globalImplicit∧(PySem.WErr.eSN fls).names.lookup ("__class__" : Str)=some .free∧(PySem.WErr.eSN fls).names.lookup ("self" : Str)=some .local∧(∀ f∈fls,(PySem.WErr.eSN fls).names.lookup f=some .local) ∧
 (∀ f∈fls,f ≠ "self" ∧ (f == ("__debug__" : Str))=false) ∧
 ∀ (q0:Pos) (qs:List Pos),qs.length=fls.length→∀ (qual:Str) (b:List Stmt) (sc:Scope) (kV doc pm:Value) (an:Option Addr) (cda cc:Addr) (ct a:Value) (us:List Value),us.length=fls.length →
  bindArgs (PySem.W.ksFn "__init__" qual (argsN (⟨"self",none,q0⟩ :: List.zipWith (fun f q=>⟨f,none,q⟩) fls qs)) b sc .none kV doc pm an (.ref cda) ct cc) ⟨a :: us,[]⟩ = pure ((("self" : Str),a) :: fls.zip us)
theorem ErN.txt2 {prog:Program} {K:Frag} {h:Heap} {mg:Str→Option Value} {e:ErN} (X:K.In h) (G:h.Ns mainGlobals mg) (c:e.ok prog K=true∧fnE K e.x=e.val) (S:StOk e.fls e.st) (F:FlOk e.fls):PySem.WErr.ErrTxtN prog K mg e.x e.fls (ga K e.x) (iAd K e.x):=by
 obtain⟨f1,f2,f3,f4,f5,f6,f7⟩:=F
 obtain⟨q0,qs,hl,ha⟩:=S.a
 refine ErN.txt (p:=psOf e.st) (ar:=⟨"self",none,q0⟩) X G c.1 c.2 S.b S.s (by rw[ha]; rfl) rfl f2 f3 f4 f5 f6 f1 S.q (fun cda cc L f=>sup_eval _ S.l _ _ cda cc L f) (fun kV doc pm an cda cc ct a us hu=>?_)
 rw[ha]
 exact f7 q0 qs hl _ _ _ _ _ _ _ _ _ _ _ us hu
end WH
namespace WT
open PySem PySem.Spec PyProof.Rows L2
section
variable {prog:Program} {w:World} {A:Around} {E:Value→Shared→Prop} {s:Shared}
theorem collect_tuple {l:Addr} {vs:List Value} {Q:List Value→Shared→Prop} (hl:s.heap.IsTuple l vs.toArray)
  (h:Q vs { s with heap:=(s.heap.push (seqObj "list" #[] 0)).update s.heap.objs.size (Obj.mapSeq (·++vs.toArray)) }) (hsz:vs.length≤sizeLine) :
  wpAny (model prog w) A (collect (.ref l)) Q E s:=by
 obtain⟨o,ho,hc,n,hd⟩:=id hl
 have ho':(s.heap.push (seqObj "list" #[] 0)).get? l=some o:=Heap.get?_push_of_some _ ho
 unfold collect
 refine wpAny_bind (wpAny_runValue (codeAny_builtin entry_proto_collect' ?_))
 show wpAny _ _ (do again (.builtin "list.__iadd__" ⟨[← newList [],.ref l],[]⟩)) _ _ s
 refine wpAny_bind (wpAny_newList (wpAny_pure ⟨Code.quiet_builtin _ (by decide +kernel),codeAny_builtin entry_list_iadd' ?_⟩))
 show wpAny _ _ (Builtin.List.listExtendWith (.ref s.heap.objs.size) (.ref l) (.ref s.heap.objs.size)) _ _ { s with heap:=s.heap.push (seqObj "list" #[] 0) }
 unfold Builtin.List.listExtendWith
 refine wpAny_bind (wpAny_typeOf (T := "tuple") ⟨o,ho',hc⟩ ?_)
 have ht:(Value.type "tuple" == Value.type "tuple")=true:=by rfl
 rw[if_pos (by rw[ht]; simp)]
 refine wpAny_bind (listItems_at ho' hd (wpAny_bind (listItems_at (xs:=#[]) (n:=0) (Heap.get?_push_size _ rfl) rfl ?_)))
 rw[if_neg (by simp)]
 refine wpAny_bind (listUpdate_at (xs:=#[]) (n:=0) (Heap.get?_push_size _ rfl) rfl ?_ (Nat.zero_le _) (by show (#[]++vs.toArray).size≤sizeLine + 1; simp only[Array.size_append,List.size_toArray,List.length_nil]; omega))
 refine wpAny_pure ?_
 show wpAny (model prog w) A (do
   let o ← load s.heap.objs.size
   match o.data with
   | .seq xs _=>pure xs.toList
   | _=>unsupported "internal:collect") Q E { s with heap:=(s.heap.push (seqObj "list" #[] 0)).update s.heap.objs.size (Obj.mapSeq (·++vs.toArray)) }
 refine wpAny_bind (wpAny_load (get?_update_seq (Heap.get?_push_size _ rfl) _) ?_)
 show wpAny _ _ (pure ((#[]:Array Value)++vs.toArray).toList) Q E _
 rw[show ((#[]:Array Value)++vs.toArray).toList=vs by simp]
 exact wpAny_pure h
theorem sorted_strsT {l:Addr} {vs:List Value} {ss:List Str} {Q:Value→Shared→Prop} (hl:s.heap.IsTuple l vs.toArray) (hS:StrsAre vs ss) (h64:vs.length < 64)
  (h:∀ (out:Array Value) (ss':List Str),StrsAre out.toList ss'→ss'.Perm ss→sortedS ss'=true→Q (.ref (s.heap.objs.size + 1)) { s with heap:=sortedAll s.heap vs out }) :
  wpAny (model prog w) A (call (.builtin "sorted") [.ref l]) Q E s:=by
 refine Calls.call_function_entry kind_sorted plain_sorted entry_sorted (args_sorted1 _) ?_
 unfold Builtin.«sorted»
 refine wpAny_bind (m:=checkCount "sorted" 1 1 _) (wpAny_pure (wpAny_bind (collect_tuple hl (wpAny_bind (wpAny_newList ?_)) (by rw[sizeLine_eq]; omega))))
 have hsz:((s.heap.push (seqObj "list" #[] 0)).update s.heap.objs.size (Obj.mapSeq (·++vs.toArray))).objs.size=s.heap.objs.size + 1:=by
  rw[Heap.size_update,size_push']
 have hoL:(((s.heap.push (seqObj "list" #[] 0)).update s.heap.objs.size (Obj.mapSeq (·++vs.toArray))).push (seqObj "list" vs.toArray 0)).get? (s.heap.objs.size + 1)=some (seqObj "list" vs.toArray 0):=by
  rw[← hsz]; exact Heap.get?_push_size _ rfl
 show wpAny _ _ _ _ _ { s with heap:=((s.heap.push (seqObj "list" #[] 0)).update s.heap.objs.size (Obj.mapSeq (·++vs.toArray))).push (seqObj "list" vs.toArray 0) }
 rw[hsz]
 refine wpAny_bind (wpAny_holding (wpAny_call_entry slot_list_sort ⟨_,hoL,rfl⟩ entry_list_sort (list_sort_treeK strKind_oneLt hoL hS.keysOf (fun v₁ v₂ rest e=>keyKind_strs (by rw[← e]; exact hS)) h64 fun st' hp hs=>⟨_,rfl,?_⟩) (args_list_sort _)))
 obtain⟨ss',h1,h2,h3⟩:=sorted_out_str hS hp hs
 exact wpAny_pure ⟨_,rfl,h _ ss' h1 h2 h3⟩
end
end WT
namespace L2
open PySem PySem.Spec PyProof.Rows
/-- sorted(xs),a list or a tuple of texts -/
def rSortedLT (K:PySem.W.Frag):List V→Hp→VK→Prop:=fun vs H Q=>∃ (a:Addr) (xs:List Str),vs=[V.ref a]∧(SqL K H a (xs.map V.str)∨SqT K H a (xs.map V.str))∧xs.length < 64 ∧
 ∀ (ys:List Str) (p:Addr),ys.Perm xs→sortedS ys=true→H p=none→Q (.ref p) (upd H p (.lst (ys.map V.str)))
theorem cr_sortedLT {X:Cx} : CallR X (.builtin "sorted") (rSortedLT X.K):=by
 intro pins s σ H vs us Q I r h
 obtain⟨a,xs,rfl,hs,h64,q⟩:=h
 rcases hs with hs | hs
 ·exact cr_sortedS pins s σ H _ us Q I r ⟨a,xs,rfl,hs,h64,q⟩
 ·obtain⟨its,rv,hl,_⟩:=I.tuple hs
  rw[Vals.ref1 r]
  have hlen0:=rv.length
  rw[List.length_map] at hlen0
  refine WT.sorted_strsT hl rv.strs (by rw[← hlen0]; exact h64) fun out ys h1 h2 h3=>?_
  obtain⟨ep,he'⟩:=PyProof.Rows.sortedAll_at s.heap its out
  have hlen:(ys.map V.str).length≤sizeLine:=by rw[List.length_map,h2.length_eq]; exact small64 h64
  exact⟨.ref _,upd H (s.heap.objs.size + 1) (.lst (ys.map V.str)),I.laid (t':=s.toks) (fun _ _=>PyProof.Rows.sortedAll_old) (Nat.le_succ _) ⟨hlen,out.toList,ep,vals_of_strs h1,he'⟩,rfl,q ys _ h2 h3 (I.hok.fresh (Nat.le_succ _))⟩
end L2
namespace WT
open PySem PySem.Spec PyProof.Rows L2 SS
/-- the unlike ones among the first i -/
def dcn (xs:List Str):Nat→Nat
 | 0=>0
 | i + 1=>if decide (xs.getD i Str.empty∈xs.take i)=true then dcn xs i else dcn xs i + 1
theorem dcn_le (xs:List Str):∀ i,dcn xs i≤i
 | 0=>Nat.le_refl 0
 | i + 1=>by
  have:=dcn_le xs i
  unfold dcn
  split<;>omega
theorem dcn_iff (xs:List Str):∀ i,i≤xs.length→(dcn xs i=i ↔ (xs.take i).Nodup)
 | 0,_=>by simp [dcn]
 | i + 1,h=>by
  have ih:=dcn_iff xs i (by omega)
  have hle:=dcn_le xs i
  have hi:i < xs.length:=by omega
  have hg:xs.getD i Str.empty=xs[i]:=by rw[List.getD_eq_getElem?_getD,List.getElem?_eq_getElem hi]; rfl
  rw[← List.take_append_getElem hi,List.nodup_append]
  unfold dcn
  rw[hg]
  by_cases hm:xs[i]∈xs.take i
  ·rw[if_pos (decide_eq_true hm)]
   constructor
   ·intro h; omega
   ·rintro⟨_,_,h3⟩
    exact absurd rfl (h3 _ hm _ (List.mem_singleton.mpr rfl))
  ·rw[if_neg (by simpa using hm)]
   constructor
   ·intro h
    refine⟨ih.mp (by omega),by simp,fun a ha b hb e=>?_⟩
    obtain rfl:=List.mem_singleton.mp hb
    subst e
    exact hm ha
   ·rintro⟨h1,_,_⟩
    rw[ih.mpr h1]
section
variable {prog:Program} {w:World} {A:Around} {E:Value→Shared→Prop} {s:Shared}
theorem upd_strs {I:Addr} {fp wr:List Addr} {G:Array GenState→Array GenState→Prop} {n:Nat} {Pv:Nat→Value→Prop} {St:Nat→Shared→Prop} {R:Result→Shared→Prop}
  (W:WalksS prog w A.in1 I fp wr G n Pv St) (S:Addr) (hSf:S ∉ fp) (xs:List Str) (hsz:xs.length=n) (hb:n + 1 < scanBound) (hval:∀ i v,Pv i v→∃ t,v=.str (xs.getD i Str.empty) t) :
  ∀ (k i:Nat) (s:Shared),n - i=k→i≤n→St i s→s.heap.SetOf (PySem.strKind prog w) S (fun z=>decide (z∈xs.take i)) (dcn xs i) →
   (∀ s',Moved (S :: wr) G s s'→s'.heap.SetOf (PySem.strKind prog w) S (fun z=>decide (z∈xs.take n)) (dcn xs n)→R (.ok (.ret .none)) s') →
   codeAny (model prog w) A (.builtin "set.update.loop" ⟨[.ref S,.ref I],[]⟩) R s:=by
 have nw:S ∉ wr:=fun h=>hSf (W.sub _ h)
 have more:∀ b∈wr,b∈S :: wr:=fun b hb=>List.mem_cons_of_mem _ hb
 have carry:∀ {s s':Shared} {f:Str→Bool} {c:Nat},Moved wr G s s'→s.heap.SetOf (PySem.strKind prog w) S f c→s'.heap.SetOf (PySem.strKind prog w) S f c:=fun hm ⟨o,es,ep,t,ho,rest⟩=>⟨o,es,ep,t,hm.heap S _ nw ho,rest⟩
 intro k
 induction k with
 | zero =>
  intro i s hk hi hst hS hR
  obtain rfl:i=n:=by omega
  refine codeAny_builtin PyProof.Rows.F.entry_set_update_loop ?_
  rw[Around.under_plainId PyProof.Rows.F.plain_set_update_loop _]
  show wpAny _ A.in1 (pyNext (.ref I) >>= _) _ _ s
  refine wpAny_bind (W.done s _ _ hst fun s' hm=>?_)
  show wpAny _ A.in1 (ret Value.none) _ _ s'
  exact wpAny_pure (hR s' (hm.mono more) (carry hm hS))
 | succ k ih =>
  intro i s hk hi hst hS hR
  have hlt:i < n:=by omega
  refine codeAny_builtin PyProof.Rows.F.entry_set_update_loop ?_
  rw[Around.under_plainId PyProof.Rows.F.plain_set_update_loop _]
  show wpAny _ A.in1 (pyNext (.ref I) >>= _) _ _ s
  refine wpAny_bind (W.item i s _ _ hlt hst fun v s' hP hst' hm=>?_)
  obtain⟨t,rfl⟩:=hval i v hP
  have hS':=carry hm hS
  have hle:=dcn_le xs i
  show wpAny _ A.in1 (holding [Value.str (xs.getD i Str.empty) t] (setAdd S (.str (xs.getD i Str.empty) t)) >>= _) _ _ s'
  refine wpAny_bind (wpAny_holding ?_)
  unfold setAdd
  refine wpAny_holding (wpAny_bind ((PySem.strKind prog w).pyHash (k:=xs.getD i Str.empty) (strKind_is _ _ _ _) ?_))
  refine wpAny_setAddHashed_of (knd:=PySem.strKind prog w) (s:={ s' with toks:=s'.toks + 1 }) (strKind_is _ _ _ _) rfl hS' (by omega) fun h' hsb hS2=>?_
  have hS3:h'.SetOf (PySem.strKind prog w) S (fun z=>decide (z∈xs.take (i + 1))) (dcn xs (i + 1)):=by
   refine SetOf_congr hS2 (fun z=>?_) rfl
   have hi':i < xs.length:=by omega
   have hg:xs.getD i Str.empty=xs[i]:=by rw[List.getD_eq_getElem?_getD,List.getElem?_eq_getElem hi']; rfl
   rw[List.take_add_one,List.getElem?_eq_getElem hi',hg]
   show (decide (z∈xs.take i) || decide (z=xs[i]))=decide (z∈xs.take i++[xs[i]])
   generalize xs.take i=l
   generalize xs[i]=y
   by_cases h1:z∈l<;>by_cases h2:z=y<;>simp [List.mem_append,h1,h2]
  refine wpAny_pure ⟨plainId_quiet PyProof.Rows.F.plain_set_update_loop _,ih (i + 1) _ (by omega) hlt (W.frame _ s' _ _ hst' (Nat.le_succ _) fun b hb o e=>?_) hS3 fun s'' hm'' hS''=>?_⟩
  ·rw[hsb.2 b (fun h:b=S=>hSf (by rw[← h]; exact hb))]; exact e
  ·refine hR s'' (Moved.trans W.gtrans ((hm.mono more).then_heap (Nat.le_succ _) fun b o hb e=>?_) hm'') hS''
   rw[hsb.2 b (fun h:b=S=>hb (by rw[h]; exact List.mem_cons_self))]; exact e
abbrev Xx (led:Bool):Obj:={ cls:=.type "set",dict:=none,data:=.set #[] 0 (.fresh 0 0 led) }
set_option maxHeartbeats 3200000 in
theorem set_tupS {l:Addr} {items:Array Value} {xs:List Str} {Q:Value→Shared→Prop} (hh:A.handled=none) (hl:s.heap.IsTuple l items) (hi:StrsAre items.toList xs) (hn:xs.length≤1000)
  (h:∀ (h':Heap) (tk:Nat),h'.SetOf (PySem.strKind prog w) s.heap.objs.size (fun z=>decide (z∈xs)) (dcn xs xs.length)→(∀ b o,s.heap.get? b=some o→h'.get? b=some o)→Q (.ref s.heap.objs.size) { s with heap:=h',toks:=tk }) :
  wpAny (model prog w) A (call (.type "set") [.ref l]) Q E s:=by
 have hsz:xs.length=items.size:=by rw[← StrsAre.len_eq hi,Array.length_toList]
 obtain⟨c,tl,hmro⟩:=PySem.F.called_set.mro
 have hmade:=PySem.F.called_set.made
 have hsub:=PySem.F.called_set.sub
 refine wpAny_call (codeAny_of_tree ?_)
 show wpAny _ _ (callAny (.type "set") _) _ _ _
 refine wpAny_pure ⟨Code.quiet_builtin _ (by decide +kernel),codeAny_builtin PySem.F.entry_type_call ?_⟩
 rw[Around.under_plain (weight_type_call_type "set" [.ref l] []) rfl]
 have h1:=PySem.F.called_set.notType
 have h2:=PySem.F.called_set.canCreate
 have hct:=PySem.F.typeCall_set_1 (.ref l)
 repeat (any_goals (first | assumption | wp_step))
 refine codeAny_mono (code_set_new_1 (.ref l) (E:=E) (Q₁:=fun obj s₁=>∃ led:Bool,obj=.ref s.heap.objs.size∧s₁ = { s with heap:=s.heap.push (Xx led) }) fun led=>⟨led,rfl,rfl⟩) fun r s₁ hr=>?_
 cases r with
 | error e=>exact hr
 | ok fl =>
  cases fl with
  | ret obj =>
   obtain⟨led,rfl,rfl⟩:=hr
   have hS:(s.heap.push (Xx led)).get? s.heap.objs.size=some (Xx led):=Heap.get?_push_size _ rfl
   have hT:Shared.TypeIs { s with heap:=s.heap.push (Xx led) } (.ref s.heap.objs.size) "set" := ⟨_,hS,rfl⟩
   have hli:=PySem.F.called_set.init.lookup
   have hbi:=PySem.F.called_set.init.bind (.ref s.heap.objs.size)
   repeat (any_goals (first | assumption | wp_step))
   refine codeAny_mono (codeAny_call_builtin (R:=wants (fun r s₂=>r=.none∧∃ h' tk,s₂ = { s with heap:=h',toks:=tk }∧h'.SetOf (PySem.strKind prog w) s.heap.objs.size (fun z=>decide (z∈xs)) (dcn xs xs.length) ∧
     (∀ b o,s.heap.get? b=some o→h'.get? b=some o)) E) PySem.F.called_set.init.plain PySem.F.entry_set_init (check_set_init_1 hT ?_)) fun r₂ s₂ hr₂=>?_
   ·obtain⟨ol,hol,hcl,nl,hdl⟩:=hl
    obtain⟨ocls,odict,odata,oslots⟩:=ol
    simp only at hcl hdl
    subst hcl; subst hdl
    have hol':(s.heap.push (Xx led)).get? l=some { cls:=.type "tuple",dict:=odict,data:=.seq items nl,slots:=oslots }:=Heap.get?_push_of_some _ hol
    have hsls:=PySem.F.sub_tuple_set
    have hslf:=PySem.F.sub_tuple_frozenset
    have hne:(Value.type "tuple" == Value.type "dict")=false:=by decide
    have hl1:(s.heap.push (Xx led)).IsTuple l items:=⟨_,hol',rfl,nl,rfl⟩
    unfold Builtin.«set.__init__» noKeywords Builtin.Frozenset.updateFrom
    generalize hPI:pyIter=PI
    wp_walk
    subst hPI
    refine wpAny_pyIter_tuple hl1 (wpAny_bind (wpAny_runValue ?_))
    have hlS:l < s.heap.objs.size:=Heap.lt_size hol
    have hneI:l ≠ (s.heap.push (Xx led)).objs.size:=by
     rw[Heap.size_push]; exact Nat.ne_of_lt (Nat.lt_succ_of_lt hlS)
    have hSf:s.heap.objs.size ∉ [(s.heap.push (Xx led)).objs.size,l]:=by
     rw[Heap.size_push]; simp only[List.mem_cons,List.mem_singleton,List.not_mem_nil,or_false,not_or]
     exact⟨Nat.ne_of_lt (Nat.lt_succ_self _),Nat.ne_of_gt hlS⟩
    have hval:∀ (i:Nat) (v:Value),items[i]?=some v→∃ t,v=.str (xs.getD i Str.empty) t:=fun i v hv=>strs_at hi i v (by rw[Array.getElem?_toList]; exact hv)
    refine upd_strs ((Walks.tuple (by simp [hh]) _ l hneI items).toS) s.heap.objs.size hSf xs hsz (by unfold scanBound; omega) hval (items.size - 0) 0 _ (by omega) (Nat.zero_le _)
     ⟨⟨_,Heap.get?_push_size _ rfl,rfl,rfl⟩,(hl1.push _)⟩ ?hS0 ?hR
    case hS0 =>
     have hget:((s.heap.push (Xx led)).push { cls:=.type "tuple_iterator",data:=.fields #[.ref l,.int 0 0] }).get? s.heap.objs.size=some (Xx led):=Heap.get?_push_of_some _ hS
     exact SetOf_congr ((setObjOf_fresh (knd:=PySem.strKind prog w) led).setOf hget (by unfold scanBound; omega)) (fun _=>by simp) rfl
    case hR =>
     intro s' hm hS'
     obtain⟨h',g',d',tk',os'⟩:=s'
     have eg:g'=s.gens:=hm.gens
     have ed:d'=s.drawn:=hm.drawn
     have eo:os'=s.os:=hm.os
     subst eg; subst ed; subst eo
     show wpAny _ _ _ _ _ _
     refine wpAny_pure ?_
     show wpAny _ _ (ret Value.none) _ _ _
     rw[← hsz,List.take_length] at hS'
     refine wpAny_pure ⟨rfl,h',tk',rfl,hS',fun b o e=>?_⟩
     have hb:=Heap.lt_size e
     exact hm.heap b o (by rw[Heap.size_push]; simp only[List.mem_cons,List.mem_singleton,List.not_mem_nil,or_false,not_or]; exact⟨Nat.ne_of_lt hb,Nat.ne_of_lt (Nat.lt_succ_of_lt hb)⟩) (Heap.get?_push_of_some _ (Heap.get?_push_of_some _ e))
   ·cases r₂ with
    | error e=>exact hr₂
    | ok fl₂ =>
     cases fl₂ with
     | ret r =>
      obtain⟨rfl,h',tk,rfl,hS',hk'⟩:=hr₂
      repeat (any_goals (first | assumption | wp_step))
      exact h _ _ hS' hk'
     | _=>exact hr₂.elim
  | _=>exact hr.elim
end
end WT
namespace L2
open PySem PySem.Spec PyProof.Rows
def tLenSetT (K:PySem.W.Frag) (ta:TE):TE:=fun σ H Q=>ta σ H fun x H1=>∃ l,∃ xs:List Str,x=.ref l∧SqT K H1 l (xs.map V.str)∧xs.length≤1000∧Q (.int (WT.dcn xs xs.length:Nat)) H1
theorem pe_lenSetT {X:Cx} {a:Expr} {ta:TE} {p p2 q pos:Pos} (hc:X.calm=true) (hg:Gl X "len") (hm:X.mg "len" = none) (hg2:Gl X "set") (hm2:X.mg "set" = none) (ha:PE X a ta)
  (na:starEach [a] X.env=(false,eval a X.env) :: starEach [] X.env:=by rfl):PE X (.Call (.Name "len" p) [.Call (.Name "set" p2) [a] [] q] [] pos) (tLenSetT X.K ta):=by
 refine⟨fun pins s σ H Q I h=>?_⟩
 refine Call_ (ld_blt I hg hm boot_len ?_)
 refine PyProof.Rows.callWith_builtin1 (PyProof.Rows.args_cons ?_ rfl) rfl rfl
 refine Call_ (ld_blt I hg2 hm2 boot_set ?_)
 refine PyProof.Rows.callWith_type1 (PyProof.Rows.args_cons (thn (ha.run pins s σ H _ I h) fun v s1 ⟨x,H1,I1,r1,q1⟩=>PyProof.Rows.args_nil ?_) na) na rfl
 obtain⟨l,xs,rfl,hq,h1,q1⟩:=q1
 cases r1
 obtain⟨its,r,pl,hz⟩:=I1.tuple hq
 refine WT.set_tupS (I1.ok.hd hc) pl (by simpa using strsAre_of r) h1 fun h' tk hS hk=>?_
 refine PyProof.Rows.args_nil ?_
 have hle:=WT.dcn_le xs xs.length
 obtain⟨o,es,ep,t,ho,hex,hd,_,_,_,hf,hn⟩:=hS
 have I2:Inv X pins σ H1 { s1 with heap:=h',toks:=tk }:=I1.kept hk
 exact call_len_set ho hex hd hf (by rw[hn]; omega) ⟨.int (WT.dcn xs xs.length:Nat),H1,I2.tok _,⟨_,by rw[hn]⟩,q1⟩
end L2
namespace WE
open PySem PySem.Spec PyProof.Rows L2
theorem meets_enum1 {v:Value} {o:Obj} {H:Heap→Prop} (B:Begins v o H) :
  Meets (Builtin.«enumerate.__new__» ⟨[.type "enumerate",v],[]⟩) (fun _ R s=>H s.heap ∧
   R (.ok (.ret (.ref (s.heap.push o).objs.size))) { s with heap:=(s.heap.push o).push { cls:=.type "enumerate",data:=.fields #[.none,.bool false,.ref s.heap.objs.size,rawInt 0,.none,.none] } }) :=
 .of_wp fun prog w A R s h=>by
  obtain⟨hp,g,d,tk,os⟩:=s
  obtain⟨h1,h⟩:=h
  have hsub:=sub_enumerate
  have q1:∀ {A':Around} {E:Value→Shared→Prop} {Q:Value→Shared→Prop},Q (.ref hp.objs.size) ⟨hp.push o,g,d,tk,os⟩→wpAny (model prog w) A' (pyIter v) Q E ⟨hp,g,d,tk,os⟩ :=
   fun q=>B.iter prog w _ _ ⟨hp,g,d,tk,os⟩ _ h1 q
  wp_walk using q1
  refine wpAny_stack_any fun st=>wpAny_pure ?_
  split
  ·rename_i c _ _ _ _ _
   cases (c == Value.type "enumerate")
   ·wp_walk using q1
    exact⟨_,rfl,h⟩
   ·wp_walk using q1
    exact⟨_,rfl,h⟩
  ·wp_walk using q1
   exact⟨_,rfl,h⟩
theorem call_enum1 {prog:Program} {w:World} {A:Around} {E:Value→Shared→Prop} {s:Shared} {v:Value} {o:Obj} {H:Heap→Prop} {Q:Value→Shared→Prop} (B:Begins v o H) (h1:H s.heap)
  (h:∀ h',IsEnum h' (s.heap.objs.size + 1) s.heap.objs.size 0 .none→h'.get? s.heap.objs.size=some o→(∀ b o,s.heap.get? b=some o→h'.get? b=some o)→Q (.ref (s.heap.objs.size + 1)) { s with heap:=h' }) :
  wpAny (model prog w) A (call (.type "enumerate") [v]) Q E s:=by
 refine callType_new F.called_enumerate (by decide) (F.typeCall_enumerate_1 _) (F.newCall_enumerate_1 _) (fun obj=>F.args_object_init_2 obj _) F.entry_enumerate_new (meets_enum1 B) ⟨h1,?_⟩
 have hz:(s.heap.push o).objs.size=s.heap.objs.size + 1:=Heap.size_push ..
 show _∧_
 rw[hz]
 have he:IsEnum ((s.heap.push o).push { cls:=.type "enumerate",data:=.fields #[.none,.bool false,.ref s.heap.objs.size,rawInt 0,.none,.none] }) (s.heap.objs.size + 1) s.heap.objs.size 0 .none:=by
  have:=Heap.get?_push_size (s.heap.push o) (o:={ cls:=.type "enumerate",data:=.fields #[.none,.bool false,.ref s.heap.objs.size,rawInt 0,.none,.none] }) rfl
  rw[hz] at this
  exact this
 exact⟨⟨_,he,rfl⟩,h _ he (Heap.get?_push_of_some _ (Heap.get?_push_size _ B.free)) fun b o x=>Heap.get?_push_of_some _ (Heap.get?_push_of_some _ x)⟩
end WE
namespace L2
open PySem PySem.Spec PyProof.Rows
/-- the tuple at a,each item in a new pair with its index -/
def Itet (K:PySem.W.Frag) (a:Addr):It :=
 ⟨fun i H=>∃ (xs:List V) (x:V),SqT K H a xs∧xs[i]?=some x,fun i H v H'=>∃ T x,v=.ref T∧H T=none∧H'=upd H T (.tup [.int (i:Nat),x])∧∀ xs,SqT K H a xs→xs[i]?=some x,fun i H=>∃ xs:List V,SqT K H a xs∧xs.length=i⟩
theorem turn_enumT {P:Program} {w:World} {K:PySem.W.Frag} {elts:List Expr} {kk:Nat} {tpos:Pos} (a e it:Addr) (hae:a ≠ e) (hai:a ≠ it) :
  Turn P w K (.Tuple elts kk tpos) (Itet K a) [e,it] e (fun i h=>(∃ old,IsEnum h e it ((i:Nat):Int) old)∧h.IsTupleIter it a i∧e ≠ it) where
 mem:=by simp
 obj:=fun i h st b hb=>by
  obtain⟨⟨old,he⟩,⟨o,ho,hc,hd⟩,_⟩:=st
  have e':b=e∨b=it:=by simpa using hb
  rcases e' with z | z
  ·rw[z]; exact⟨_,he,fun v q=>nomatch q⟩
  ·rw[z]; exact⟨o,ho,fun v q=>by rw[hd] at q; cases q⟩
 keep:=fun i h h' st k=>let ⟨⟨old,he⟩,hi,hne⟩:=st; ⟨⟨old,k e (by simp) _ he⟩,hi.at fun o q=>k it (by simp) o q,hne⟩
 item:=by
  intro X hP hw hK hc i pins s σ H E I hf st hg
  subst hP hw hK
  obtain⟨⟨old,he⟩,hit,hne⟩:=st
  obtain⟨xs,x,hq,hx⟩:=hg
  obtain⟨its,rv,p,hz⟩:=I.tuple hq
  obtain⟨u,hu,ru⟩:=rv.get hx
  have hel:e < s.heap.objs.size:=Heap.lt_size he
  have hil:it < s.heap.objs.size:=by obtain⟨_,q,_⟩:=hit; exact Heap.lt_size q
  have hlt:i < its.toArray.size:=by
   have:=(List.getElem?_eq_some_iff.mp hu).1
   simpa using this
  have D:=Draws.tuple (prog:=X.prog) (w:=X.w) (A:=X.A.in1) (by simp [I.ok.hd hc]) it a hai its.toArray
  refine wpAny_pyNext_enum_itemD D he ⟨hit,p⟩ hlt hne (by simp [hne,Ne.symm hae]) fun y h' tk hy ho hst' hT hsz hk=>?_
  obtain rfl:y=u:=by
   have h1:its.toArray[i]?=some y:=hy
   rw[List.getElem?_toArray,hu] at h1
   exact (Option.some.inj h1).symm
  refine⟨_,rfl,wpAny_letOwnedTupleGo_enum (s:={ s with heap:=h',toks:=tk + 1 }) ho fun h'' he' sb=>?_⟩
  have hT2:h''.get? s.heap.objs.size=some { cls:=.type "tuple",data:=.seq #[.int i tk,y] }:=(sb.2 _ (Nat.ne_of_gt hel)).trans hT
  have new:ObjOk X.prog X.w (upd H s.heap.objs.size (.tup [.int (i:Nat),x])) h'' s.heap.objs.size (.tup [.int (i:Nat),x]) :=
   ⟨by show 2≤sizeLine; decide,[.int i tk,y],.cons ⟨_,rfl⟩ (.cons ru .nil),⟨_,hT2,rfl,_,rfl⟩⟩
  have I1:Inv X pins σ (upd H s.heap.objs.size (.tup [.int (i:Nat),x])) { s with heap:=h'',toks:=tk + 1 } :=
   I.turnedNew (ch:=[e,it]) (fun b ob hb q=>(sb.2 b (fun z=>hb (by simp [z]))).trans (hk b ob (fun z=>hb (by simp [z])) (fun z=>hb (by simp [z])) q)) hf (Nat.le_refl _) new
  refine⟨.ref s.heap.objs.size,_,I1,rfl,⟨_,x,rfl,I.hok.fresh (Nat.le_refl _),rfl,fun ys hy=>?_⟩,⟨⟨y,?_⟩,hst'.1.at fun o q=>(sb.2 it (Ne.symm hne)).trans q,hne⟩,fun b hb=>?_⟩
  ·rw[I.tuple_inj hy hq]; exact hx
  ·have e1:((i + 1:Nat):Int)=(i:Int) + 1:=by omega
   rw[e1]; exact he'
  ·have hb':b < s.heap.objs.size:=by
    have e':b=e∨b=it:=by simpa using hb
    rcases e' with z | z
    ·rw[z]; exact hel
    ·rw[z]; exact hil
   rw[upd_ne (Nat.ne_of_lt hb')]
   exact (hf b hb).1
 done:=by
  intro X hP hw hK hc i pins s σ H E I hf st hg
  subst hP hw hK
  obtain⟨⟨old,he⟩,hit,hne⟩:=st
  obtain⟨xs,hq,hx⟩:=hg
  obtain⟨its,rv,p,hz⟩:=I.tuple hq
  obtain⟨f0,f1,f2,f3,f4,f5⟩:=hf it (by simp)
  have hl:=rv.length
  have D:=Draws.tuple (prog:=X.prog) (w:=X.w) (A:=X.A.in1) (by simp [I.ok.hd hc]) it a hai its.toArray
  have hsz:its.toArray.size=i:=by rw[List.size_toArray,← hl,hx]
  rw[← hsz] at hit
  exact wpAny_pyNext_enum_endD D he ⟨hit,p⟩ fun h' eb=>⟨rfl,I.turned (t':=s.toks) (fun b o hb q=>eb b o hb q) f0 f1 f3 f4 f5⟩
 self:=fun A i s Q E st h=>let ⟨⟨_,he⟩,_⟩:=st; wpAny_pyIter_enum he h
theorem walk_enumT {K:PySem.W.Frag} {a:Addr} {xs:List V} : Walk (Itet K a) xs.length (fun H=>SqT K H a xs) (YPair (fun i=>some (.int (i:Nat))) (fun i=>xs[i]?)):=by
 refine⟨fun i _ hi q=>⟨xs,xs[i],q,by simp [hi]⟩,fun _ q=>⟨xs,q,rfl⟩,fun i H v H' _ q y=>?_⟩
 obtain⟨T,x,h1,h2,h3,h4⟩:=y
 exact⟨T,.int (i:Nat),x,h1,h2,h3,rfl,h4 xs q⟩
/-- a list (b) or a tuple -/
def SqB (K:PySem.W.Frag) (b:Bool) (H:Hp) (a:Addr) (xs:List V):Prop:=if b=true then SqL K H a xs else SqT K H a xs
theorem SqB.of {K:PySem.W.Frag} {H:Hp} {a:Addr} {xs:List V} (h:SqL K H a xs∨SqT K H a xs):∃ b,SqB K b H a xs:=h.elim (fun h=>⟨true,h⟩) (fun h=>⟨false,h⟩)
theorem SqB.ex {K:PySem.W.Frag} {b:Bool} {H H':Hp} {a:Addr} {xs:List V} (e:Evl.Ex H H') (h:SqB K b H a xs):SqB K b H' a xs:=by
 cases b
 ·exact Evl.ex_t e h
 ·exact Evl.ex_l e h
theorem SqB.or {K:PySem.W.Frag} {b:Bool} {H:Hp} {a:Addr} {xs:List V} (h:SqB K b H a xs):SqL K H a xs∨SqT K H a xs:=by
 cases b
 ·exact .inr h
 ·exact .inl h
end L2
namespace L2
open PySem PySem.Spec PyProof.Rows
open TL (tl)
theorem ge_of_rising:∀ (p:Str) (l:List Str),risingS p l=true→∀ x∈l,tl p≤tl x
 | p,[],_,x,h=>nomatch h
 | p,y :: r,h,x,hx=>by
  have h':(!ltCps y.cps.toList p.cps.toList && risingS y r)=true:=h
  rw[Bool.and_eq_true,Bool.not_eq_true',ltCps_eq] at h'
  have hpy:tl p≤tl y:=of_decide_eq_false h'.1
  rcases List.mem_cons.mp hx with rfl | hx
  ·exact hpy
  ·exact List.le_trans hpy (ge_of_rising y r h'.2 x hx)
theorem Yo:∀ l:List Str,sortedS l=true→l.Pairwise fun a b=>tl a≤tl b
 | [],_=>.nil
 | x :: r,h=>by
  refine .cons (ge_of_rising x r h) ?_
  cases r with
  | nil=>exact .nil
  | cons y r =>
   have h':(!ltCps y.cps.toList x.cps.toList && risingS y r)=true:=h
   rw[Bool.and_eq_true] at h'
   exact Yo (y :: r) h'.2
theorem sorted_one {xs ys:List Str} (hx:sortedS xs=true) (hy:sortedS ys=true) (hp:xs.Perm ys):xs=ys :=
 List.Perm.eq_of_pairwise (le:=fun a b=>tl a≤tl b) (fun a b _ _ h1 h2=>TL.ext_tl (List.le_antisymm h1 h2)) (Yo xs hx) (Yo ys hy) hp
/-- two sorted lists are equal where what they sort is a rearrangement -/
theorem sorted_iff {as bs xs ys:List Str} (ha:xs.Perm as) (hx:sortedS xs=true) (hb:ys.Perm bs) (hy:sortedS ys=true):xs=ys ↔ as.Perm bs :=
 ⟨fun e=>(ha.symm.trans (e ▸ List.Perm.refl xs)).trans hb,fun h=>sorted_one hx hy ((ha.trans h).trans hb.symm)⟩
/-- texts as data: equal as data where equal -/
theorem eqvAll_strs:∀ xs ys:List Str,PyData.eqvAll (xs.map .str) (ys.map .str)=decide (xs=ys)
 | [],[]=>rfl
 | [],_ :: _=>by simp [PyData.eqvAll]
 | _ :: _,[]=>by simp [PyData.eqvAll]
 | x :: xs,y :: ys=>by
  show (PyData.eqv (.str x) (.str y) && PyData.eqvAll (xs.map .str) (ys.map .str))=_
  rw[eqvAll_strs xs ys]
  have e:PyData.eqv (.str x) (.str y)=decide (x=y):=by
   show (x == y)=_
   by_cases h:x=y<;>simp [h]
  rw[e]
  by_cases h1:x=y<;>by_cases h2:xs=ys<;>simp [h1,h2]
theorem eqv_strs (xs ys:List Str):PyData.eqv (.list (xs.map .str)) (.list (ys.map .str))=decide (xs=ys):=eqvAll_strs xs ys
end L2
namespace DL
open PySem PySem.Spec PyProof.Rows L2
open He (ga ma)
open Evl (Ex)
inductive D where
 | non | bl (b:Bool) | int (i:Int) | str (z:Str) | tup (ds:List D) | lst (ds:List D) | obj (c:Str) (fs:List (Str × D)) | ty (n:String) | cls (c:Str) | tpl (zs:List Str)
inductive U where
 | d (x:D) | r (n:Nat)
/-- a key: whole numbers,texts,and tuples of such -/
inductive Cell where
 | lst (us:List U) | obj (c:Str) (fs:List (Str × U)) | frz (x:D) | dk (kvs:List (L2.Key × U)) | dt (w:World) (kvs:List (NestedKey × D × U)) | dkL (kvs:List (L2.Key × U)) | dtL (w:World) (kvs:List (NestedKey × D × U)) | tp (us:List U) | tab (a:Addr) (q:Str)
/-- a dict that a loop walks: read,not written -/
def Cell.lkd:Cell→Bool
 | .dkL _=>true
 | .dtL _ _=>true
 | _=>false
mutual
def nk:D→Option NestedKey
 | .non=>some .none
 | .bl b=>some (.num (if b=true then 1 else 0))
 | .int i=>some (.num i)
 | .str z=>some (.text z)
 | .tup ds=>(nkAll ds).map .tup
 | _=>none
def nkAll:List D→Option (List NestedKey)
 | []=>some []
 | d :: t=>(nk d).bind fun k=>(nkAll t).map (k :: ·)
end
abbrev Qa:=List Cell
abbrev Env:=List (Option U)
inductive Res (α:Type) where
 | ok (a:α) (S:Qa) | err (c:Str) (fs:List (Str × D)) (S:Qa) | bad
def Res.bind {α β:Type} (r:Res α) (k:α→Qa→Res β):Res β:=match r with
 | .ok a S=>k a S
 | .err c fs S=>.err c fs S
 | .bad=>.bad
mutual
inductive Rv (K:PySem.W.Frag) (G:Hp):V→D→Prop
 | non:Rv K G .non .non
 | bl (b:Bool):Rv K G (.bl b) (.bl b)
 | int (i:Int):Rv K G (.int i) (.int i)
 | str (z:Str):Rv K G (.str z) (.str z)
 | tup {a:Addr} {xs:List V} {ds:List D} : SqT K G a xs→Ja K G xs ds→Rv K G (.ref a) (.tup ds)
 | lst {a:Addr} {xs:List V} {ds:List D} : SqL K G a xs→Ja K G xs ds→Rv K G (.ref a) (.lst ds)
 | obj {a dx:Addr} {c:Str} {vs:List (Str × V)} {fs:List (Str × D)} : G a=some (.ins (ga K c) dx vs)→RvF K G vs fs→Rv K G (.ref a) (.obj c fs)
 | ty (n:String):Rv K G (.ty n) (.ty n)
 | cls (c:Str):Rv K G (.ref (ga K c)) (.cls c)
 | tpl {a:Addr} {o:Obj} {zs:List Str} : G a=some (.frz o (.tup (zs.map V.str)))→o.dict=none→Rv K G (.ref a) (.tpl zs)
inductive Ja (K:PySem.W.Frag) (G:Hp):List V→List D→Prop
 | nil:Ja K G [] []
 | cons {v:V} {vs:List V} {d:D} {ds:List D} : Rv K G v d→Ja K G vs ds→Ja K G (v :: vs) (d :: ds)
inductive RvF (K:PySem.W.Frag) (G:Hp):List (Str × V)→List (Str × D)→Prop
 | nil:RvF K G [] []
 | cons {f:Str} {v:V} {vs:List (Str × V)} {d:D} {ds:List (Str × D)} : Rv K G v d→RvF K G vs ds→RvF K G ((f,v) :: vs) ((f,d) :: ds)
end
mutual
theorem Rv.ex {K:PySem.W.Frag} {G G':Hp} (e:Ex G G'):∀ {v:V} {d:D},Rv K G v d→Rv K G' v d
 | _,_,.non=>.non
 | _,_,.bl b=>.bl b
 | _,_,.int i=>.int i
 | _,_,.str z=>.str z
 | _,_,.tup h1 h2=>.tup (Evl.ex_t e h1) (Ja.ex e h2)
 | _,_,.lst h1 h2=>.lst (Evl.ex_l e h1) (Ja.ex e h2)
 | _,_,.obj h1 h2=>.obj (e _ _ h1) (RvF.ex e h2)
 | _,_,.ty n=>.ty n
 | _,_,.cls c=>.cls c
 | _,_,.tpl h1 h2=>.tpl (e _ _ h1) h2
theorem Ja.ex {K:PySem.W.Frag} {G G':Hp} (e:Ex G G'):∀ {vs:List V} {ds:List D},Ja K G vs ds→Ja K G' vs ds
 | _,_,.nil=>.nil
 | _,_,.cons h1 h2=>.cons (Rv.ex e h1) (Ja.ex e h2)
theorem RvF.ex {K:PySem.W.Frag} {G G':Hp} (e:Ex G G'):∀ {vs:List (Str × V)} {ds:List (Str × D)},RvF K G vs ds→RvF K G' vs ds
 | _,_,.nil=>.nil
 | _,_,.cons h1 h2=>.cons (Rv.ex e h1) (RvF.ex e h2)
end
def RU (K:PySem.W.Frag) (ι:List Addr) (G:Hp) (v:V):U→Prop
 | .d x=>Rv K G v x
 | .r n=>∃ a,ι[n]?=some a∧v=.ref a
abbrev RUs (K:PySem.W.Frag) (ι:List Addr) (G:Hp):List V→List U→Prop:=Paired (RU K ι G)
abbrev RUf (K:PySem.W.Frag) (ι:List Addr) (G:Hp):List (Str × V)→List (Str × U)→Prop:=Paired fun p q=>p.1=q.1∧RU K ι G p.2 q.2
def RO (K:PySem.W.Frag) (ι:List Addr) (G:Hp):Option V→Option U→Prop
 | none,none=>True
 | some v,some u=>RU K ι G v u
 | some _,none=>True
 | none,some _=>False
abbrev RelE (K:PySem.W.Frag) (ι:List Addr) (G:Hp):L2.St→Env→Prop:=Paired (RO K ι G)
section
variable {K:PySem.W.Frag} {ι ι':List Addr} {G G' H:Hp}
theorem Zt {n:Nat} {a:Addr} (p:ι <+: ι') (h:ι[n]?=some a):ι'[n]?=some a:=by
 obtain⟨t,rfl⟩:=p
 rw[List.getElem?_append_left (List.getElem?_eq_some_iff.mp h).1]
 exact h
theorem RU.up {v:V} (p:ι <+: ι') (e:Ex G G'):∀ {u:U},RU K ι G v u→RU K ι' G' v u
 | .d x,h=>Rv.ex e h
 | .r n,⟨a,h,hv⟩=>⟨a,Zt p h,hv⟩
theorem RUs.up {vs:List V} {us:List U} (p:ι <+: ι') (e:Ex G G') (h:RUs K ι G vs us):RUs K ι' G' vs us:=Paired.mapP h fun _ _ h=>h.up p e
theorem RUf.up {vs:List (Str × V)} {us:List (Str × U)} (p:ι <+: ι') (e:Ex G G') (h:RUf K ι G vs us):RUf K ι' G' vs us:=Paired.mapP h fun _ _ h=>⟨h.1,h.2.up p e⟩
theorem RO.up (p:ι <+: ι') (e:Ex G G'):∀ {v:Option V} {u:Option U},RO K ι G v u→RO K ι' G' v u
 | none,none,_=>trivial
 | some _,none,_=>trivial
 | some _,some _,h=>RU.up p e h
theorem RelE.up {σ:L2.St} {ρ:Env} (p:ι <+: ι') (e:Ex G G') (h:RelE K ι G σ ρ):RelE K ι' G' σ ρ:=Paired.mapP h fun _ _ h=>h.up p e
theorem Ui {α β:Type} {F:α→β→Prop} : ∀ {l1:List α} {l2:List β},Paired F l1 l2→∀ {i:Nat} {b:β},l2[i]?=some b→∃ a,l1[i]?=some a∧F a b
 | _,_,.nil,_,_,h=>by simp at h
 | _,_,.cons f t,0,b,h=>by
  simp only[List.getElem?_cons_zero,Option.some.injEq] at h
  subst h
  exact⟨_,rfl,f⟩
 | _,_,.cons f t,i + 1,b,h=>by
  simp only[List.getElem?_cons_succ] at h ⊢
  exact Ui t h
theorem Jw {α β:Type} {F:α→β→Prop} : ∀ {l1:List α} {l2:List β},Paired F l1 l2→∀ {i:Nat} {a:α},l1[i]?=some a→∃ b,l2[i]?=some b∧F a b
 | _,_,.nil,_,_,h=>by simp at h
 | _,_,.cons f t,0,b,h=>by
  simp only[List.getElem?_cons_zero,Option.some.injEq] at h
  subst h
  exact⟨_,rfl,f⟩
 | _,_,.cons f t,i + 1,b,h=>by
  simp only[List.getElem?_cons_succ] at h ⊢
  exact Jw t h
theorem Qm {α β:Type} {F:α→β→Prop} : ∀ {l1:List α} {l2:List β},Paired F l1 l2→l1.length=l2.length
 | _,_,.nil=>rfl
 | _,_,.cons _ t=>by rw[List.length_cons,List.length_cons,Qm t]
theorem Jy {α β:Type} {F:α→β→Prop} {a:α} {b:β} (f:F a b):∀ {l1:List α} {l2:List β} (i:Nat),Paired F l1 l2→Paired F (l1.set i a) (l2.set i b)
 | _,_,_,.nil=>.nil
 | _,_,0,.cons _ t=>.cons f t
 | _,_,i + 1,.cons g t=>.cons g (Jy f i t)
theorem Jz {α β:Type} {F:α→β→Prop} : ∀ {l1 m1:List α} {l2 m2:List β},Paired F l1 l2→Paired F m1 m2→Paired F (l1++m1) (l2++m2)
 | _,_,_,_,.nil,h=>h
 | _,_,_,_,.cons f t,h=>.cons f (Jz t h)
theorem Ja.pair {vs:List V} {ds:List D} : Ja K G vs ds→Paired (Rv K G) vs ds
 | .nil=>.nil
 | .cons h t=>.cons h t.pair
theorem Ja.of {vs:List V} : ∀ {ds:List D},Paired (Rv K G) vs ds→Ja K G vs ds
 | _,.nil=>.nil
 | _,.cons h t=>.cons h (Ja.of t)
theorem Ja.us {vs:List V} {ds:List D} : Ja K G vs ds→RUs K ι G vs (ds.map .d)
 | .nil=>.nil
 | .cons h t=>.cons h t.us
/-- all of them data -/
def allD:List U→Option (List D)
 | []=>some []
 | .d x :: t=>(allD t).map (x :: ·)
 | .r _ :: _=>none
theorem Q9 (ds:List D):allD (ds.map .d)=some ds:=by
 induction ds with
 | nil=>rfl
 | cons x t ih=>rw[List.map_cons]; show (allD (t.map .d)).map (x :: ·)=_; rw[ih]; rfl
theorem allD_eq:∀ {us:List U} {ds:List D},allD us=some ds→us=ds.map .d
 | [],ds,h=>by cases h; rfl
 | .d x :: t,ds,h=>by
  cases e:allD t with
  | none=>simp [allD,e] at h
  | some l =>
   simp [allD,e] at h
   subst h
   rw[allD_eq e]; rfl
 | .r _ :: _,ds,h=>by cases h
theorem RUs.all {vs:List V} {us:List U} {ds:List D} (h:RUs K ι G vs us) (e:allD us=some ds):Ja K G vs ds:=by
 rw[allD_eq e] at h
 clear e
 induction ds generalizing vs with
 | nil=>cases h; exact .nil
 | cons x t ih=>cases h with
  | cons a b=>exact .cons a (ih b)
end
/-- a dict whose keys are tuples -/
def DtEnt (w:World) (p:NestedKey × Addr × V) (e:DictEntry):Prop:=e.hash=p.1.hash w∧e.key=.ref p.2.1∧RelV p.2.2 e.val
def DtAt (w:World) (a:Addr) (ps:List (NestedKey × Addr × V)) (h:Heap):Prop :=
 ps.length≤sizeLine∧(a == sysModules)=false∧(ps.map (·.1)).Nodup∧∃ o es ep,h.get? a=some o∧o.ExactDict∧o.data=.dict es ep∧Paired (DtEnt w) ps es.toList
abbrev KeyR (K:PySem.W.Frag) (ι:List Addr) (G:Hp) (p:NestedKey × Addr × V) (q:NestedKey × D × U):Prop :=
 p.1=q.1∧nk q.2.1=some q.1∧q.1.depth≤8∧Rv K G (.ref p.2.1) q.2.1∧RU K ι G p.2.2 q.2.2
def Zi (K:PySem.W.Frag) (ι:List Addr) (G H:Hp) (a:Addr):Cell→Prop
 | .lst us=>G a=none∧∃ vs,H a=some (.lst vs)∧RUs K ι G vs us
 | .obj c fs=>G a=none∧∃ dx vs,H a=some (.ins (ga K c) dx vs)∧RUf K ι G vs fs
 | .frz x=>Rv K G (.ref a) x
 | .dk kvs=>G a=none∧∃ ps,H a=some (.dK ps)∧Paired (fun p q=>p.1=q.1∧RU K ι G p.2 q.2) ps kvs
 | .dt w kvs=>G a=none∧∃ ps,H a=some (.ext (DtAt w a ps))∧Paired (KeyR K ι G) ps kvs
 | .dkL kvs=>G a=none∧∃ o ps,H a=some (.frz o (.dK ps))∧Paired (fun p q=>p.1=q.1∧RU K ι G p.2 q.2) ps kvs
 | .dtL w kvs=>G a=none∧∃ o ps,H a=some (.frz o (.ext (DtAt w a ps)))∧Paired (KeyR K ι G) ps kvs
 | .tp us=>G a=none∧∃ vs,H a=some (.tup vs)∧RUs K ι G vs us
 | .tab b q=>a=b∧G a=none∧∃ ps,H a=some (.tbl ps)∧TriplesOk ps.toList∧∀ (pos:Pos) (cv:Value),codeAmong pos ps.toList=some cv→∃ c,cv=.ref c∧G c=some (LamX.CodeO c q)
/-- a pinned object: no cell's,but that of a locked one -/
def PinI (S:Qa) (ι:List Addr) (a:Addr) (o:HO):Prop:=∀ n:Nat,ι[n]?=some a→(∃ ob u,o=.frz ob u)∧∃ c,S[n]?=some c∧c.lkd=true
theorem PinI.ne {S:Qa} {ι:List Addr} {a:Addr} {o:HO} (h:PinI S ι a o) (ho:∀ ob u,o ≠ .frz ob u):∀ n:Nat,ι[n]? ≠ some a:=fun n e=>by
 obtain⟨⟨ob,u,e'⟩,_⟩:=h n e
 exact ho _ _ e'
structure Sr (K:PySem.W.Frag) (P:Hp) (ι:List Addr) (G:Hp) (S:Qa) (H:Hp):Prop where
 ex:Ex G H
 len:ι.length=S.length
 nd:ι.Nodup
 at_:∀ (n:Nat) c a,S[n]?=some c→ι[n]?=some a→Zi K ι G H a c
 out:∀ (n:Nat) a,ι[n]?=some a→∃ o,H a=some o
 pin:∀ a o,P a=some o→H a=some o∧G a=none∧PinI S ι a o
 lk:∀ (n:Nat) c a,S[n]?=some c→c.lkd=true→ι[n]?=some a→∃ o,P a=some o
section
variable {K:PySem.W.Frag} {P:Hp} {ι ι':List Addr} {G G' H H':Hp} {S:Qa}
theorem Zi.up {a:Addr} (p:ι <+: ι') (e:Ex G G') (hg:G' a=none∨∃ o,G a=some o) (hh:∀ o,H a=some o→H' a=some o):∀ {c:Cell},Zi K ι G H a c→Zi K ι' G' H' a c
 | .lst us,⟨h0,vs,h1,h2⟩=>by
  refine⟨?_,vs,hh _ h1,h2.up p e⟩
  rcases hg with h | ⟨o,h⟩
  ·exact h
  ·rw[h0] at h; cases h
 | .obj c fs,⟨h0,dx,vs,h1,h2⟩=>by
  refine⟨?_,dx,vs,hh _ h1,h2.up p e⟩
  rcases hg with h | ⟨o,h⟩
  ·exact h
  ·rw[h0] at h; cases h
 | .frz x,h=>Rv.ex e h
 | .dk kvs,⟨h0,ps,h1,h2⟩=>by
  refine⟨?_,ps,hh _ h1,Paired.mapP h2 fun _ _ z=>⟨z.1,z.2.up p e⟩⟩
  rcases hg with h | ⟨o,h⟩
  ·exact h
  ·rw[h0] at h; cases h
 | .dt w kvs,⟨h0,ps,h1,h2⟩=>by
  refine⟨?_,ps,hh _ h1,Paired.mapP h2 fun _ _ z=>⟨z.1,z.2.1,z.2.2.1,Rv.ex e z.2.2.2.1,z.2.2.2.2.up p e⟩⟩
  rcases hg with h | ⟨o,h⟩
  ·exact h
  ·rw[h0] at h; cases h
 | .dkL kvs,⟨h0,o,ps,h1,h2⟩=>by
  refine⟨?_,o,ps,hh _ h1,Paired.mapP h2 fun _ _ z=>⟨z.1,z.2.up p e⟩⟩
  rcases hg with h | ⟨o,h⟩
  ·exact h
  ·rw[h0] at h; cases h
 | .dtL w kvs,⟨h0,o,ps,h1,h2⟩=>by
  refine⟨?_,o,ps,hh _ h1,Paired.mapP h2 fun _ _ z=>⟨z.1,z.2.1,z.2.2.1,Rv.ex e z.2.2.2.1,z.2.2.2.2.up p e⟩⟩
  rcases hg with h | ⟨o,h⟩
  ·exact h
  ·rw[h0] at h; cases h
 | .tp us,⟨h0,vs,h1,h2⟩=>by
  refine⟨?_,vs,hh _ h1,h2.up p e⟩
  rcases hg with h | ⟨o,h⟩
  ·exact h
  ·rw[h0] at h; cases h
 | .tab b q,⟨hb,h0,ps,h1,h2,h3⟩=>by
  refine⟨hb,?_,ps,hh _ h1,h2,fun pos cv hc=>?_⟩
  ·rcases hg with h | ⟨o,h⟩
   ·exact h
   ·rw[h0] at h; cases h
  ·obtain⟨c,e1,e2⟩:=h3 pos cv hc
   exact⟨c,e1,e _ _ e2⟩
theorem Sr.here (s:Sr K P ι G S H) {n:Nat} {c:Cell} (h:S[n]?=some c):∃ a,ι[n]?=some a∧Zi K ι G H a c:=by
 have hn:n < S.length:=(List.getElem?_eq_some_iff.mp h).1
 have hi:n < ι.length:=by rw[s.len]; exact hn
 exact⟨ι[n],List.getElem?_eq_getElem hi,s.at_ n c _ h (List.getElem?_eq_getElem hi)⟩
theorem Sr.ne (s:Sr K P ι G S H) {n:Nat} {a p:Addr} (h:ι[n]?=some a) (hp:H p=none):a ≠ p:=by
 obtain⟨o,ho⟩:=s.out n a h
 exact ne_of_none ho hp
/-- a new object that nobody tracks -/
theorem Sr.tmp (s:Sr K P ι G S H) {p:Addr} {o:HO} (hp:H p=none):Sr K P ι G S (upd H p o):=by
 refine⟨s.ex.trans (Ex.new hp),s.len,s.nd,fun n c a h1 h2=>?_,fun n a h=>?_,fun a u h=>?_,s.lk⟩
 ·refine (s.at_ n c a h1 h2).up (List.prefix_refl ι) (Ex.refl G) ?_ fun o h=>?_
  ·cases hg:G a with
   | none=>exact .inl rfl
   | some o=>exact .inr ⟨o,rfl⟩
  ·rw[upd_ne (s.ne h2 hp)]; exact h
 ·obtain⟨o,ho⟩:=s.out n a h
  exact⟨o,by rw[upd_ne (s.ne h hp)]; exact ho⟩
 ·obtain⟨h1,h2,h3⟩:=s.pin a u h
  exact⟨by rw[upd_ne (ne_of_none h1 hp)]; exact h1,h2,h3⟩
/-- a pinned object changes,by its pin -/
theorem Sr.repin (s:Sr K P ι G S H) {p:Addr} {o o':HO} (hp:P p=some o') (hz:∀ ob u,o' ≠ .frz ob u:=by intro _ _ h; cases h):Sr K (upd P p o) ι G S (upd H p o):=by
 obtain⟨h1,h2,h3⟩:=s.pin p o' hp
 have h3:=h3.ne hz
 have hne:∀ (n:Nat) a,ι[n]?=some a→a ≠ p:=fun n a h e=>h3 n (by rw[h,e])
 refine⟨Ex.mut s.ex h2,s.len,s.nd,fun n c a h1 h2=>?_,fun n a h=>?_,fun a u h=>?_,fun n c a k1 k2 k3=>?_⟩
 ·refine (s.at_ n c a h1 h2).up (List.prefix_refl ι) (Ex.refl G) ?_ fun o h=>?_
  ·cases hg:G a with
   | none=>exact .inl rfl
   | some o=>exact .inr ⟨o,rfl⟩
  ·rw[upd_ne (hne n a h2)]; exact h
 ·obtain⟨o,ho⟩:=s.out n a h
  exact⟨o,by rw[upd_ne (hne n a h)]; exact ho⟩
 ·by_cases ha:a=p
  ·subst ha
   rw[upd_same] at h ⊢
   exact⟨h,h2,fun n e=>absurd e (h3 n)⟩
  ·rw[upd_ne ha] at h ⊢
   exact s.pin a u h
 ·obtain⟨o1,e1⟩:=s.lk n c a k1 k2 k3
  exact⟨o1,by rw[upd_ne (hne n a k3)]; exact e1⟩
/-- a new object is pinned -/
theorem Sr.pinned (s:Sr K P ι G S H) {p:Addr} {o:HO} (h:H p=some o) (hg:G p=none) (hi:∀ n:Nat,ι[n]? ≠ some p):Sr K (upd P p o) ι G S H:=by
 refine⟨s.ex,s.len,s.nd,s.at_,s.out,fun a u e=>?_,fun n c a k1 k2 k3=>?_⟩
 ·by_cases ha:a=p
  ·subst ha; rw[upd_same] at e; exact⟨by rw[h]; exact e,hg,fun n e=>absurd e (hi n)⟩
  ·rw[upd_ne ha] at e; exact s.pin a u e
 ·obtain⟨o1,e1⟩:=s.lk n c a k1 k2 k3
  exact⟨o1,by rw[upd_ne (fun z=>hi n (by rw[k3,z]))]; exact e1⟩
/-- what was pinned is so no longer -/
theorem Sr.unpin {p:Addr} {o:HO} (s:Sr K (upd P p o) ι G S H) (hz:∀ ob u,o ≠ .frz ob u) (hP:P p=none):Sr K P ι G S H:=by
 obtain⟨_,_,h3⟩:=s.pin p o upd_same
 have h3:=h3.ne hz
 refine⟨s.ex,s.len,s.nd,s.at_,s.out,fun a u h=>s.pin a u (by rw[upd_ne (ne_of_none h hP)]; exact h),fun n c a k1 k2 k3=>?_⟩
 obtain⟨o1,e1⟩:=s.lk n c a k1 k2 k3
 exact⟨o1,by rw[upd_ne (fun z=>h3 n (by rw[k3,z]))] at e1; exact e1⟩
/-- what nobody tracks is data from now on -/
theorem Sr.own (s:Sr K P ι G S H) {p:Addr} {o:HO} (h:H p=some o) (hg:G p=none) (hi:∀ n:Nat,ι[n]? ≠ some p) (hP:P p=none):Sr K P ι (upd G p o) S H:=by
 have hne:∀ (n:Nat) a,ι[n]?=some a→a ≠ p:=fun n a h e=>hi n (by rw[h,e])
 refine⟨fun a u e=>?_,s.len,s.nd,fun n c a h1 h2=>?_,s.out,fun a u e=>?_,s.lk⟩
 ·by_cases ha:a=p
  ·subst ha; rw[upd_same] at e; rw[h]; exact e
  ·rw[upd_ne ha] at e; exact s.ex a u e
 ·refine (s.at_ n c a h1 h2).up (List.prefix_refl ι) (Ex.new hg) ?_ fun o h=>h
  rw[upd_ne (hne n a h2)]
  cases hg:G a with
  | none=>exact .inl rfl
  | some o=>exact .inr ⟨o,rfl⟩
 ·obtain⟨h1,h2,h3⟩:=s.pin a u e
  exact⟨h1,by rw[upd_ne (ne_of_none e hP)]; exact h2,h3⟩
theorem Sr.fresh (s:Sr K P ι G S H) {p:Addr} (hp:H p=none):G p=none∧∀ n:Nat,ι[n]? ≠ some p:=by
 refine⟨Evl.fresh_back s.ex hp,fun n h=>?_⟩
 obtain⟨o,ho⟩:=s.out n p h
 rw[hp] at ho; cases ho
theorem Sr.noPin (s:Sr K P ι G S H) {p:Addr} (hp:H p=none):P p=none:=by
 cases h:P p with
 | none=>rfl
 | some o=>rw[(s.pin p o h).1] at hp; cases hp
/-- a new object,data -/
theorem Sr.new (s:Sr K P ι G S H) {p:Addr} {o:HO} (hp:H p=none):Sr K P ι (upd G p o) S (upd H p o) :=
 (s.tmp hp).own upd_same (s.fresh hp).1 (s.fresh hp).2 (s.noPin hp)
theorem Sr.exN (s:Sr K P ι G S H) {p:Addr} {o:HO} (hp:H p=none):Ex G (upd G p o):=Ex.new (s.fresh hp).1
/-- a new cell -/
theorem Sr.cell (s:Sr K P ι G S H) {p:Addr} {o:HO} {c:Cell} (hp:H p=none) (hc:Zi K (ι++[p]) G (upd H p o) p c) (hcl:c.lkd=false:=by rfl):Sr K P (ι++[p]) G (S++[c]) (upd H p o):=by
 have t:=s.tmp (o:=o) hp
 have up:ι <+: ι++[p]:=List.prefix_append ι [p]
 refine⟨t.ex,by rw[List.length_append,List.length_append,s.len]; rfl,?_,fun n c' a h1 h2=>?_,fun n a h=>?_,fun a u e=>?_,fun n c' a k1 k2 k3=>?_⟩
 ·rw[List.nodup_append]
  refine⟨s.nd,by simp,fun a ha b hb e=>?_⟩
  obtain rfl:=List.mem_singleton.mp hb
  subst e
  obtain⟨n,hn,hh⟩:=List.getElem_of_mem ha
  exact (s.fresh hp).2 n (by rw[List.getElem?_eq_getElem hn,hh])
 ·by_cases hn:n < S.length
  ·rw[List.getElem?_append_left hn] at h1
   rw[List.getElem?_append_left (by rw[s.len]; exact hn)] at h2
   refine (t.at_ n c' a h1 h2).up up (Ex.refl G) ?_ fun o h=>h
   cases hg:G a with
   | none=>exact .inl rfl
   | some o=>exact .inr ⟨o,rfl⟩
  ·have hn2:n < S.length + 1:=by
    have:=(List.getElem?_eq_some_iff.mp h1).1
    rw[List.length_append] at this
    exact this
   obtain rfl:n=S.length:=by omega
   rw[List.getElem?_append_right (Nat.le_refl _),Nat.sub_self] at h1
   obtain rfl:c=c':=Option.some.inj h1
   rw[← s.len,List.getElem?_append_right (Nat.le_refl _),Nat.sub_self] at h2
   obtain rfl:p=a:=Option.some.inj h2
   exact hc
 ·by_cases hn:n < ι.length
  ·rw[List.getElem?_append_left hn] at h
   exact t.out n a h
  ·have hn2:n < ι.length + 1:=by
    have:=(List.getElem?_eq_some_iff.mp h).1
    rw[List.length_append] at this
    exact this
   obtain rfl:n=ι.length:=by omega
   rw[List.getElem?_append_right (Nat.le_refl _),Nat.sub_self] at h
   obtain rfl:p=a:=Option.some.inj h
   exact⟨o,upd_same⟩
 ·obtain⟨h1,h2,h3⟩:=t.pin a u e
  refine⟨h1,h2,fun n hn=>?_⟩
  by_cases hl:n < ι.length
  ·rw[List.getElem?_append_left hl] at hn
   obtain⟨q1,c1,q2,q3⟩:=h3 n hn
   exact⟨q1,c1,by rw[List.getElem?_append_left (by rw[← s.len]; exact hl)]; exact q2,q3⟩
  ·rw[List.getElem?_append_right (by omega)] at hn
   have h4:n - ι.length=0:=by
    have:=(List.getElem?_eq_some_iff.mp hn).1
    simp at this
    omega
   rw[h4] at hn
   obtain rfl:p=a:=Option.some.inj hn
   rw[s.noPin hp] at e; cases e
 ·by_cases hn:n < S.length
  ·rw[List.getElem?_append_left hn] at k1
   rw[List.getElem?_append_left (by rw[s.len]; exact hn)] at k3
   exact s.lk n c' a k1 k2 k3
  ·have hn2:n < S.length + 1:=by
    have:=(List.getElem?_eq_some_iff.mp k1).1
    rw[List.length_append] at this
    exact this
   obtain rfl:n=S.length:=by omega
   rw[List.getElem?_append_right (Nat.le_refl _),Nat.sub_self] at k1
   obtain rfl:c=c':=Option.some.inj k1
   rw[hcl] at k2
   cases k2
theorem nodup_at {l:List Addr} (nd:l.Nodup) {i j:Nat} {a:Addr} (h1:l[i]?=some a) (h2:l[j]?=some a):i=j:=by
 have hi:=(List.getElem?_eq_some_iff.mp h1)
 have hj:=(List.getElem?_eq_some_iff.mp h2)
 obtain⟨hi,e1⟩:=hi
 obtain⟨hj,e2⟩:=hj
 have pw:=List.pairwise_iff_getElem.mp nd
 rcases Nat.lt_trichotomy i j with h | h | h
 ·exact absurd (e1.trans e2.symm) (pw i j hi hj h)
 ·exact h
 ·exact absurd (e2.trans e1.symm) (pw j i hj hi h)
/-- a cell changes -/
theorem Sr.put (s:Sr K P ι G S H) {n:Nat} {a:Addr} {o:HO} {c0 c:Cell} (h0:S[n]?=some c0) (hn:ι[n]?=some a) (hg:G a=none) (hc:Zi K ι G (upd H a o) a c) (hl0:c0.lkd=false:=by rfl) (hl:c.lkd=false:=by rfl):Sr K P ι G (S.set n c) (upd H a o):=by
 refine⟨Ex.mut s.ex hg,by rw[List.length_set]; exact s.len,s.nd,fun m c' b h1 h2=>?_,fun m b h=>?_,fun b u e=>?_,fun m c' b k1 k2 k3=>?_⟩
 ·by_cases hm:m=n
  ·subst hm
   rw[hn] at h2
   obtain rfl:a=b:=Option.some.inj h2
   rw[List.getElem?_set_self (List.getElem?_eq_some_iff.mp h0).1] at h1
   obtain rfl:c=c':=Option.some.inj h1
   exact hc
  ·rw[List.getElem?_set_ne (Ne.symm hm)] at h1
   have hne:b ≠ a:=fun e=>hm (nodup_at s.nd h2 (e ▸ hn))
   refine (s.at_ m c' b h1 h2).up (List.prefix_refl ι) (Ex.refl G) ?_ fun o h=>by rw[upd_ne hne]; exact h
   cases hg:G b with
   | none=>exact .inl rfl
   | some o=>exact .inr ⟨o,rfl⟩
 ·by_cases hb:b=a
  ·subst hb; exact⟨o,upd_same⟩
  ·obtain⟨o',ho⟩:=s.out m b h
   exact⟨o',by rw[upd_ne hb]; exact ho⟩
 ·obtain⟨h1,h2,h3⟩:=s.pin b u e
  have hb:b ≠ a:=fun z=>by
   obtain⟨_,c1,q1,q2⟩:=h3 n (by rw[hn,z])
   rw[h0] at q1
   obtain rfl:=Option.some.inj q1
   rw[hl0] at q2; cases q2
  exact⟨by rw[upd_ne hb]; exact h1,h2,fun m hm=>by
   obtain⟨q0,c1,q1,q2⟩:=h3 m hm
   refine⟨q0,c1,?_,q2⟩
   rw[List.getElem?_set_ne (fun z=>hb (by subst z; rw[hn] at hm; exact (Option.some.inj hm).symm))]
   exact q1⟩
 ·by_cases hm:n=m
  ·subst hm
   rw[List.getElem?_set_self (List.getElem?_eq_some_iff.mp h0).1] at k1
   obtain rfl:=Option.some.inj k1
   rw[hl] at k2; cases k2
  ·rw[List.getElem?_set_ne hm] at k1
   exact s.lk m c' b k1 k2 k3
/-- a cell is data from now on -/
theorem Sr.frz (s:Sr K P ι G S H) {n:Nat} {a:Addr} {o:HO} {x:D} {c0:Cell} (h0:S[n]?=some c0) (hn:ι[n]?=some a) (hg:G a=none) (ho:H a=some o) (hx:Rv K (upd G a o) (.ref a) x) (hl0:c0.lkd=false:=by rfl):Sr K P ι (upd G a o) (S.set n (.frz x)) H:=by
 refine⟨fun b u e=>?_,by rw[List.length_set]; exact s.len,s.nd,fun m c' b h1 h2=>?_,s.out,fun b u e=>?_,fun m c' b k1 k2 k3=>?_⟩
 ·by_cases hb:b=a
  ·subst hb; rw[upd_same] at e; rw[ho]; exact e
  ·rw[upd_ne hb] at e; exact s.ex b u e
 ·by_cases hm:m=n
  ·subst hm
   rw[hn] at h2
   obtain rfl:a=b:=Option.some.inj h2
   rw[List.getElem?_set_self (List.getElem?_eq_some_iff.mp h0).1] at h1
   obtain rfl:Cell.frz x=c':=Option.some.inj h1
   exact hx
  ·rw[List.getElem?_set_ne (Ne.symm hm)] at h1
   have hne:b ≠ a:=fun e=>hm (nodup_at s.nd h2 (e ▸ hn))
   refine (s.at_ m c' b h1 h2).up (List.prefix_refl ι) (Ex.new hg) ?_ fun o h=>h
   rw[upd_ne hne]
   cases hg:G b with
   | none=>exact .inl rfl
   | some o=>exact .inr ⟨o,rfl⟩
 ·obtain⟨h1,h2,h3⟩:=s.pin b u e
  have hb:b ≠ a:=fun z=>by
   obtain⟨_,c1,q1,q2⟩:=h3 n (by rw[hn,z])
   rw[h0] at q1
   obtain rfl:=Option.some.inj q1
   rw[hl0] at q2; cases q2
  exact⟨h1,by rw[upd_ne hb]; exact h2,fun m hm=>by
   obtain⟨q0,c1,q1,q2⟩:=h3 m hm
   refine⟨q0,c1,?_,q2⟩
   rw[List.getElem?_set_ne (fun z=>hb (by subst z; rw[hn] at hm; exact (Option.some.inj hm).symm))]
   exact q1⟩
 ·by_cases hm:n=m
  ·subst hm
   rw[List.getElem?_set_self (List.getElem?_eq_some_iff.mp h0).1] at k1
   obtain rfl:=Option.some.inj k1
   cases k2
  ·rw[List.getElem?_set_ne hm] at k1
   exact s.lk m c' b k1 k2 k3
end
def ErrAt (K:PySem.W.Frag) (G:Hp) (od:Option Addr) (fs:List (Str × D)):Prop:=(fs=[]∧od=none)∨∃ dd vs,od=some dd∧G dd=some (.xd vs)∧RvF K G vs fs
theorem ErrAt.ex {K:PySem.W.Frag} {G G':Hp} {od:Option Addr} {fs:List (Str × D)} (e:Ex G G') (h:ErrAt K G od fs):ErrAt K G' od fs:=by
 rcases h with h | ⟨dd,vs,h1,h2,h3⟩
 ·exact .inl h
 ·exact .inr ⟨dd,vs,h1,e _ _ h2,h3.ex e⟩
abbrev Rel (α β:Type):=List Addr→Hp→β→α→Prop
def Post {α β:Type} (R:Rel α β) (K:PySem.W.Frag) (Wx:WX) (P:Hp) (ι:List Addr) (G:Hp) (σ:L2.St) (Q:β→Hp→Prop):Res α→Prop
 | .ok a S'=>∀ ι' G' H' v,ι <+: ι'→Ex G G'→Sr K P ι' G' S' H'→R ι' G' v a→Q v H'
 | .err c fs S'=>∀ ι' G' H' od,ι <+: ι'→Ex G G'→Sr K P ι' G' S' H'→ErrAt K G' od fs→Wx (.ref (ga K c)) od σ H'
 | .bad=>False
section
variable {α β γ δ:Type} {R:Rel α β} {R2:Rel γ δ} {K:PySem.W.Frag} {Wx:WX} {P:Hp} {ι ι':List Addr} {G G':Hp} {σ:L2.St} {Q:β→Hp→Prop} {Q2:δ→Hp→Prop}
theorem Post.up (p:ι <+: ι') (e:Ex G G'):∀ {r:Res α},Post R K Wx P ι G σ Q r→Post R K Wx P ι' G' σ Q r
 | .ok a S',h=>fun ι1 G1 H1 v p1 e1 s r=>h ι1 G1 H1 v (p.trans p1) (e.trans e1) s r
 | .err c fs S',h=>fun ι1 G1 H1 od p1 e1 s r=>h ι1 G1 H1 od (p.trans p1) (e.trans e1) s r
 | .bad,h=>h
theorem Post.bind {r:Res α} {k:α→Qa→Res γ} (h:Post R2 K Wx P ι G σ Q2 (r.bind k))
  (f:∀ a S' ι' G' H' v,ι <+: ι'→Ex G G'→Sr K P ι' G' S' H'→R ι' G' v a→Post R2 K Wx P ι' G' σ Q2 (k a S')→Q v H'):Post R K Wx P ι G σ Q r:=by
 cases r with
 | ok a S'=>exact fun ι1 G1 H1 v p1 e1 s r=>f a S' ι1 G1 H1 v p1 e1 s r (Post.up p1 e1 h)
 | err c fs S'=>exact h
 | bad=>exact h
theorem Post.ok {a:α} {S':Qa} {H':Hp} {v:β} (h:Post R K Wx P ι G σ Q (.ok a S')) (s:Sr K P ι G S' H') (r:R ι G v a):Q v H':=h ι G H' v (List.prefix_refl ι) (Ex.refl G) s r
end
def DG {α β:Type} (R:Rel α β) (K:PySem.W.Frag) (Wx:WX) (t:L2.St→Hp→(β→Hp→Prop)→Prop) (F:Env→Qa→Res α):Prop :=
 ∀ P ι G σ S H ρ Q,Sr K P ι G S H→RelE K ι G σ ρ→Post R K Wx P ι G σ Q (F ρ S)→t σ H Q
def RB:Rel Bool Bool:=fun _ _ b c=>b=c
/-- an expression,arguments,a test,and what they compute -/
def PD (X:Cx) (Wx:WX) (e:Expr) (F:Env→Qa→Res U):Prop:=∃ t,PE X e t∧DG (RU X.K) X.K Wx t F
def PDA (X:Cx) (Wx:WX) (es:List Expr) (F:Env→Qa→Res (List U)):Prop:=∃ t,PA X es t∧DG (RUs X.K) X.K Wx t F
def PDK (X:Cx) (Wx:WX) (ks:List Keyword) (F:Env→Qa→Res (List U)):Prop:=∃ t,PK X ks t∧DG (RUs X.K) X.K Wx t F
def PDT (X:Cx) (Wx:WX) (e:Expr) (F:Env→Qa→Res Bool):Prop:=∃ t,PT X e t∧DG RB X.K Wx t F
def PDW (X:Cx) (Wx:WX) (e:Expr) (F:Env→Qa→Res Bool):Prop:=∃ t,PW X e t∧DG RB X.K Wx t F
inductive Fl where
 | nx (ρ:Env) (S:Qa) | rt (u:U) (S:Qa) | bk (ρ:Env) (S:Qa) | ct (ρ:Env) (S:Qa) | err (c:Str) (fs:List (Str × D)) (ρ:Env) (S:Qa) | bad
def Res.fl {α:Type} (r:Res α) (ρ:Env) (k:α→Qa→Fl):Fl:=match r with
 | .ok a S=>k a S
 | .err c fs S=>.err c fs ρ S
 | .bad=>.bad
def Jj (K:PySem.W.Frag) (Wx:WX) (P:Hp) (ι:List Addr) (G:Hp) (E:Ends):Fl→Prop
 | .nx ρ S=>∀ ι' G' σ' H',ι <+: ι'→Ex G G'→Sr K P ι' G' S H'→RelE K ι' G' σ' ρ→E.nx σ' H'
 | .bk ρ S=>∀ ι' G' σ' H',ι <+: ι'→Ex G G'→Sr K P ι' G' S H'→RelE K ι' G' σ' ρ→E.bk σ' H'
 | .ct ρ S=>∀ ι' G' σ' H',ι <+: ι'→Ex G G'→Sr K P ι' G' S H'→RelE K ι' G' σ' ρ→E.ct σ' H'
 | .rt u S=>∀ ι' G' H' v,ι <+: ι'→Ex G G'→Sr K P ι' G' S H'→RU K ι' G' v u→E.rt v H'
 | .err c fs ρ S=>∀ ι' G' σ' H' od,ι <+: ι'→Ex G G'→Sr K P ι' G' S H'→RelE K ι' G' σ' ρ→ErrAt K G' od fs→Wx (.ref (ga K c)) od σ' H'
 | .bad=>False
def DS (K:PySem.W.Frag) (Wx:WX) (t:TS) (F:Env→Qa→Fl):Prop:=∀ P ι G σ S H ρ E,Sr K P ι G S H→RelE K ι G σ ρ→Jj K Wx P ι G E (F ρ S)→t E σ H
def PDS (X:Cx) (Wx:WX) (st:Stmt) (F:Env→Qa→Fl):Prop:=∃ t,PS X st t∧DS X.K Wx t F
def PDSs (X:Cx) (Wx:WX) (sts:List Stmt) (F:Env→Qa→Fl):Prop:=∃ t,PSs X sts t∧DS X.K Wx t F
section
variable {α β:Type} {R:Rel α β} {K:PySem.W.Frag} {Wx:WX} {P:Hp} {ι ι':List Addr} {G G':Hp} {σ:L2.St} {ρ:Env} {E:Ends}
theorem Jj.up (p:ι <+: ι') (e:Ex G G'):∀ {r:Fl},Jj K Wx P ι G E r→Jj K Wx P ι' G' E r
 | .nx _ _,h=>fun ι1 G1 s1 H1 p1 e1=>h ι1 G1 s1 H1 (p.trans p1) (e.trans e1)
 | .bk _ _,h=>fun ι1 G1 s1 H1 p1 e1=>h ι1 G1 s1 H1 (p.trans p1) (e.trans e1)
 | .ct _ _,h=>fun ι1 G1 s1 H1 p1 e1=>h ι1 G1 s1 H1 (p.trans p1) (e.trans e1)
 | .rt _ _,h=>fun ι1 G1 s1 H1 p1 e1=>h ι1 G1 s1 H1 (p.trans p1) (e.trans e1)
 | .err _ _ _ _,h=>fun ι1 G1 s1 H1 od p1 e1=>h ι1 G1 s1 H1 od (p.trans p1) (e.trans e1)
 | .bad,h=>h
/-- an expression ahead of a statement's end -/
theorem Post.fl {r:Res α} {k:α→Qa→Fl} {Q:β→Hp→Prop} (hρ:RelE K ι G σ ρ) (h:Jj K Wx P ι G E (r.fl ρ k))
  (f:∀ a S' ι' G' H' v,ι <+: ι'→Ex G G'→Sr K P ι' G' S' H'→R ι' G' v a→RelE K ι' G' σ ρ→Jj K Wx P ι' G' E (k a S')→Q v H'):Post R K Wx P ι G σ Q r:=by
 cases r with
 | ok a S'=>exact fun ι1 G1 H1 v p1 e1 s r=>f a S' ι1 G1 H1 v p1 e1 s r (hρ.up p1 e1) (Jj.up p1 e1 h)
 | err c fs S'=>exact fun ι1 G1 H1 od p1 e1 s r=>h ι1 G1 σ H1 od p1 e1 s (hρ.up p1 e1) r
 | bad=>exact h
end
end DL
namespace DL
open PySem PySem.Spec PyProof.Rows L2
open He (ga ma)
open Evl (Ex)
/-- what a name's value is: a frozen cell is data -/
def norm (S:Qa):U→U
 | .d x=>.d x
 | .r n=>match S[n]? with
  | some (.frz x)=>.d x
  | _=>.r n
theorem norm_ok {K:PySem.W.Frag} {P:Hp} {ι:List Addr} {G H:Hp} {S:Qa} {v:V} (s:Sr K P ι G S H):∀ {u:U},RU K ι G v u→RU K ι G v (norm S u)
 | .d x,h=>h
 | .r n,⟨a,h,hv⟩=>by
  show RU K ι G v (match S[n]? with | some (.frz x)=>.d x | _=>.r n)
  split
  ·rename_i x e
   have:=s.at_ n _ a e h
   rw[hv]
   exact this
  ·exact⟨a,h,hv⟩
def rdV (ρ:Env) (i:Nat) (S:Qa):Res U:=match ρ[i]? with
 | some (some u)=>.ok (norm S u) S
 | _=>.bad
def asB (u:U) (S:Qa):Res Bool:=match u with
 | .d (.bl b)=>.ok b S
 | _=>.bad
def OpD (X:Cx) (f:Value→Value→Sem Value) (g:U→U→Qa→Res U):Prop:=∃ r,OpR X f r ∧
 ∀ Wx P ι G S H v1 v2 u1 u2 σ Q,Sr X.K P ι G S H→RU X.K ι G v1 u1→RU X.K ι G v2 u2→Post (RU X.K) X.K Wx P ι G σ Q (g u1 u2 S)→r v1 v2 H Q
def IxD (X:Cx) (g:U→U→Qa→Res U):Prop:=∃ r,IxR X r ∧
 ∀ Wx P ι G S H v1 v2 u1 u2 σ Q,Sr X.K P ι G S H→RU X.K ι G v1 u1→RU X.K ι G v2 u2→Post (RU X.K) X.K Wx P ι G σ Q (g u1 u2 S)→r v1 v2 H Q
def SlD (X:Cx) (g:U→Option Int→Option Int→Qa→Res U):Prop:=∃ r,SlR X r ∧
 ∀ Wx P ι G S H v u lo hi σ Q,Sr X.K P ι G S H→RU X.K ι G v u→Post (RU X.K) X.K Wx P ι G σ Q (g u lo hi S)→r v lo hi H Q
def Xa (X:Cx) (f:Value) (g:List U→Qa→Res U):Prop:=∃ r,CallR X f r ∧
 ∀ Wx P ι G S H vs us σ Q,Sr X.K P ι G S H→RUs X.K ι G vs us→Post (RU X.K) X.K Wx P ι G σ Q (g us S)→r vs H Q
def MtD (X:Cx) (id:String) (g:U→List U→Qa→Res U):Prop:=∃ r,MtR X id r ∧
 ∀ Wx P ι G S H v vs u us σ Q,Sr X.K P ι G S H→RU X.K ι G v u→RUs X.K ι G vs us→Post (RU X.K) X.K Wx P ι G σ Q (g u us S)→r v vs H Q
section
variable {X:Cx} {Wx:WX} {P:Hp} {a b c e:Expr} {es:List Expr} {A B C:Env→Qa→Res U} {As:Env→Qa→Res (List U)} {At Bt:Env→Qa→Res Bool} {pos:Pos}
theorem pd_of {x:D} {v:V} {t:TE} (h:PE X e t) (ht:t=tC v) (r:∀ G,Rv X.K G v x):PD X Wx e (fun _ S=>.ok (.d x) S):=by
 subst ht
 exact⟨_,h,fun P ι G σ S H ρ Q s _ post=>post.ok s (r G)⟩
theorem Qi {i:Int} {j:Nat} : PD X Wx (.Constant (.int i) j pos) (fun _ S=>.ok (.d (.int i)) S):=pd_of pe_int rfl fun _=>.int i
theorem pd_bl {i:Bool} {j:Nat} : PD X Wx (.Constant (.bool i) j pos) (fun _ S=>.ok (.d (.bl i)) S):=pd_of pe_bl rfl fun _=>.bl i
theorem pd_non {j:Nat} : PD X Wx (.Constant .none j pos) (fun _ S=>.ok (.d .non) S):=pd_of pe_non rfl fun _=>.non
theorem Uj {i:Str} {j:Nat} : PD X Wx (.Constant (.str i) j pos) (fun _ S=>.ok (.d (.str i)) S):=pd_of pe_str rfl fun _=>.str i
/-- a constant of the module -/
theorem pd_gv {x:Str} {v:V} {d:D} (h:∃ u,X.mg x=some u∧RelV v u) (r:∀ G,Rv X.K G v d) (hg:Gl X x:=by rfl) (hd:(x == ("__debug__" : Str))=false:=by decide):PD X Wx (.Name x pos) (fun _ S=>.ok (.d d) S):=pd_of (pe_gv h hg hd) rfl r
theorem Qe {x:Str} (i:Nat) (h:PE X (.Name x pos) (tVar i)):PD X Wx (.Name x pos) (fun ρ S=>rdV ρ i S):=by
 refine⟨_,h,fun P ι G σ S H ρ Q s e post=>?_⟩
 have post':Post (RU X.K) X.K Wx P ι G σ Q (match ρ[i]? with | some (some u)=>Res.ok (norm S u) S | _=>Res.bad):=post
 split at post'
 ·rename_i u hu
  obtain⟨o,ho,r⟩:=Ui e hu
  cases o with
  | none=>exact r.elim
  | some v=>exact⟨v,ho,post'.ok s (norm_ok s r)⟩
 ·exact post'.elim
theorem Je {op:Operator} {g:U→U→Qa→Res U} (ho:OpD X (binaryOp op) g) (ha:PD X Wx a A) (hb:PD X Wx b B):PD X Wx (.BinOp a op b pos) (fun ρ S=>(A ρ S).bind fun x S=>(B ρ S).bind fun y S=>g x y S):=by
 obtain⟨r,hr,h⟩:=ho
 obtain⟨ta,pa,da⟩:=ha
 obtain⟨tb,pb,db⟩:=hb
 refine⟨_,pe_op hr pa pb,fun P ι G σ S H ρ Q s e post=>?_⟩
 refine da P ι G σ S H ρ _ s e (post.bind fun x S1 ι1 G1 H1 v p1 e1 s1 rv post1=>?_)
 refine db P ι1 G1 σ S1 H1 ρ _ s1 (e.up p1 e1) (post1.bind fun y S2 ι2 G2 H2 v2 p2 e2 s2 rv2 post2=>?_)
 exact h Wx P ι2 G2 S2 H2 v v2 x y σ Q s2 (rv.up p2 e2) rv2 post2
theorem Qw {g:U→U→Qa→Res U} (ho:IxD X g) (ha:PD X Wx a A) (hb:PD X Wx b B) (hs:PlainIx b:=by exact fun _ _=>rfl):PD X Wx (.Subscript a b pos) (fun ρ S=>(A ρ S).bind fun x S=>(B ρ S).bind fun y S=>g x y S):=by
 obtain⟨r,hr,h⟩:=ho
 obtain⟨ta,pa,da⟩:=ha
 obtain⟨tb,pb,db⟩:=hb
 refine⟨_,pe_ix hr pa pb hs,fun P ι G σ S H ρ Q s e post=>?_⟩
 refine da P ι G σ S H ρ _ s e (post.bind fun x S1 ι1 G1 H1 v p1 e1 s1 rv post1=>?_)
 refine db P ι1 G1 σ S1 H1 ρ _ s1 (e.up p1 e1) (post1.bind fun y S2 ι2 G2 H2 v2 p2 e2 s2 rv2 post2=>?_)
 exact h Wx P ι2 G2 S2 H2 v v2 x y σ Q s2 (rv.up p2 e2) rv2 post2
theorem pd_cmp {op:CmpOp} {g:U→U→Qa→Res U} (ho:OpD X (compareOp op) g) (ha:PD X Wx a A) (hb:PD X Wx b B) (hm:behindInMarks op b=false):PD X Wx (.Compare a [op] [b] pos) (fun ρ S=>(A ρ S).bind fun x S=>(B ρ S).bind fun y S=>g x y S):=by
 obtain⟨r,hr,h⟩:=ho
 obtain⟨ta,pa,da⟩:=ha
 obtain⟨tb,pb,db⟩:=hb
 refine⟨_,pe_cmpR hr pa pb hm,fun P ι G σ S H ρ Q s e post=>?_⟩
 refine da P ι G σ S H ρ _ s e (post.bind fun x S1 ι1 G1 H1 v p1 e1 s1 rv post1=>?_)
 refine db P ι1 G1 σ S1 H1 ρ _ s1 (e.up p1 e1) (post1.bind fun y S2 ι2 G2 H2 v2 p2 e2 s2 rv2 post2=>?_)
 exact h Wx P ι2 G2 S2 H2 v v2 x y σ Q s2 (rv.up p2 e2) rv2 post2
theorem asB_post {α β:Type} {R:Rel α β} {ι:List Addr} {G:Hp} {S:Qa} {σ:L2.St} {u:U} {v:V} {Q:β→Hp→Prop} {k:Bool→Qa→Res α} (r:RU X.K ι G v u) (post:Post R X.K Wx P ι G σ Q ((asB u S).bind k)):∃ b,v=.bl b∧Post R X.K Wx P ι G σ Q (k b S):=by
 match u,r,post with
 | .d (.bl b),r,post =>
  cases r
  exact⟨b,rfl,post⟩
theorem asB_ok {ι:List Addr} {G H:Hp} {S:Qa} {σ:L2.St} {u:U} {v:V} {Q:Bool→Hp→Prop} (s:Sr X.K P ι G S H) (r:RU X.K ι G v u) (post:Post RB X.K Wx P ι G σ Q (asB u S)):∃ k,v=.bl k∧Q k H:=by
 match u,r,post with
 | .d (.bl b),r,post =>
  cases r
  exact⟨b,rfl,post.ok s rfl⟩
theorem Qt {op:CmpOp} {g:U→U→Qa→Res U} (ho:OpD X (compareOp op) g) (ha:PD X Wx a A) (hb:PD X Wx b B) (hm:behindInMarks op b=false):PDT X Wx (.Compare a [op] [b] pos) (fun ρ S=>(A ρ S).bind fun x S=>(B ρ S).bind fun y S=>(g x y S).bind asB):=by
 obtain⟨r,hr,h⟩:=ho
 obtain⟨ta,pa,da⟩:=ha
 obtain⟨tb,pb,db⟩:=hb
 refine⟨_,pt_cmpR hr pa pb hm,fun P ι G σ S H ρ Q s e post=>?_⟩
 refine da P ι G σ S H ρ _ s e (post.bind fun x S1 ι1 G1 H1 v p1 e1 s1 rv post1=>?_)
 refine db P ι1 G1 σ S1 H1 ρ _ s1 (e.up p1 e1) (post1.bind fun y S2 ι2 G2 H2 v2 p2 e2 s2 rv2 post2=>?_)
 refine h Wx P ι2 G2 S2 H2 v v2 x y σ _ s2 (rv.up p2 e2) rv2 (post2.bind fun z S3 ι3 G3 H3 v3 p3 e3 s3 rv3 post3=>?_)
 exact asB_ok s3 rv3 post3
theorem pdt_chain {op op':CmpOp} {g g':U→U→Qa→Res U} (ho:OpD X (compareOp op) g) (ho':OpD X (compareOp op') g') (ha:PD X Wx a A) (hb:PD X Wx b B) (hc:PD X Wx c C) (hm:lastMarks [op,op'] [b,c]=false:=by rfl) :
  PDT X Wx (.Compare a [op,op'] [b,c] pos) (fun ρ S=>(A ρ S).bind fun x S=>(B ρ S).bind fun y S=>(g x y S).bind fun z S=>(asB z S).bind fun k S=>if k=true then (C ρ S).bind fun z S=>(g' y z S).bind asB else .ok false S):=by
 obtain⟨r,hr,h⟩:=ho
 obtain⟨r',hr',h'⟩:=ho'
 obtain⟨ta,pa,da⟩:=ha
 obtain⟨tb,pb,db⟩:=hb
 obtain⟨tc,pc,dc⟩:=hc
 refine⟨_,pt_chain hr hr' pa pb pc hm,fun P ι G σ S H ρ Q s e post=>?_⟩
 refine da P ι G σ S H ρ _ s e (post.bind fun x S1 ι1 G1 H1 v p1 e1 s1 rv post1=>?_)
 refine db P ι1 G1 σ S1 H1 ρ _ s1 (e.up p1 e1) (post1.bind fun y S2 ι2 G2 H2 v2 p2 e2 s2 rv2 post2=>?_)
 refine h Wx P ι2 G2 S2 H2 v v2 x y σ _ s2 (rv.up p2 e2) rv2 (post2.bind fun z S3 ι3 G3 H3 v3 p3 e3 s3 rv3 post3=>?_)
 obtain⟨k,rfl,post4⟩:=asB_post rv3 post3
 refine⟨k,rfl,?_⟩
 cases k with
 | true =>
  rw[if_pos rfl] at post4 ⊢
  refine dc P ι3 G3 σ S3 H3 ρ _ s3 (((e.up p1 e1).up p2 e2).up p3 e3) (post4.bind fun z S5 ι5 G5 H5 v5 p5 e5 s5 rv5 post5=>?_)
  refine h' Wx P ι5 G5 S5 H5 v2 v5 y z σ _ s5 ((rv2.up p3 e3).up p5 e5) rv5 (post5.bind fun z S6 ι6 G6 H6 v6 p6 e6 s6 rv6 post6=>?_)
  exact asB_ok s6 rv6 post6
 | false =>
  rw[if_neg Bool.false_ne_true] at post4 ⊢
  exact⟨false,rfl,post4.ok s3 rfl⟩
def truU (u:U) (S:Qa):Res Bool:=match u with
 | .d .non=>.ok false S
 | .d (.bl b)=>.ok b S
 | .d (.int i)=>.ok (i != 0) S
 | .d (.str z)=>if z.length≤sizeLine then .ok ((z.length:Int) != 0) S else .bad
 | .d (.tup ds)=>.ok (!ds.isEmpty) S
 | .d (.lst ds)=>.ok (!ds.isEmpty) S
 | .d _=>.bad
 | .r n=>match S[n]? with
  | some (.lst us)=>.ok (!us.isEmpty) S
  | _=>.bad
theorem Vr {α β:Type} {F:α→β→Prop} {l1:List α} {l2:List β} (h:Paired F l1 l2):l1.isEmpty=l2.isEmpty:=by cases h<;>rfl
theorem tru_post {α β:Type} {R:Rel α β} {ι:List Addr} {G H:Hp} {S:Qa} {σ:L2.St} {u:U} {v:V} {Q:β→Hp→Prop} {k:Bool→Qa→Res α} (s:Sr X.K P ι G S H) (r:RU X.K ι G v u) (post:Post R X.K Wx P ι G σ Q ((truU u S).bind k)):∃ b,TruV X.K v H b∧Post R X.K Wx P ι G σ Q (k b S):=by
 match u,r,post with
 | .d .non,r,post=>cases r; exact⟨false,rfl,post⟩
 | .d (.bl b),r,post=>cases r; exact⟨b,rfl,post⟩
 | .d (.int i),r,post=>cases r; exact⟨_,rfl,post⟩
 | .d (.str z),r,post =>
  cases r
  simp only[truU] at post
  split at post
  ·rename_i hz
   exact⟨_,⟨hz,rfl⟩,post⟩
  ·exact post.elim
 | .d (.tup ds),r,post =>
  cases r with
  | tup h1 h2=>exact⟨_,.inr (.inl ⟨_,Evl.ex_t s.ex h1,rfl⟩),by rw[Vr h2.pair]; exact post⟩
 | .d (.lst ds),r,post =>
  cases r with
  | lst h1 h2=>exact⟨_,.inl ⟨_,Evl.ex_l s.ex h1,rfl⟩,by rw[Vr h2.pair]; exact post⟩
 | .r n,⟨p,hn,hv⟩,post =>
  subst hv
  simp only[truU] at post
  split at post
  ·rename_i us hc
   obtain⟨_,vs,h1,h2⟩:=s.at_ n _ p hc hn
   exact⟨_,.inl ⟨_,SqL.of h1,rfl⟩,by rw[Vr h2]; exact post⟩
  ·exact post.elim
theorem Res.bind_ok {α:Type} (r:Res α):r.bind .ok=r:=by cases r<;>rfl
theorem tru_ok {ι:List Addr} {G H:Hp} {S:Qa} {σ:L2.St} {u:U} {v:V} {Q:Bool→Hp→Prop} (s:Sr X.K P ι G S H) (r:RU X.K ι G v u) (post:Post RB X.K Wx P ι G σ Q (truU u S)):∃ k,TruV X.K v H k∧Q k H:=by
 rw[← Res.bind_ok (truU u S)] at post
 obtain⟨b,h,post⟩:=tru_post s r post
 exact⟨b,h,post.ok s rfl⟩
theorem Jd (ha:PD X Wx a A) (he:∀ whole,isTrue a X.env whole=(do let v ← whole; standAt a.pos; holding [v] (truthy v)):=by intro _; rfl):PDT X Wx a (fun ρ S=>(A ρ S).bind truU):=by
 obtain⟨ta,pa,da⟩:=ha
 refine⟨_,pt_truth pa he,fun P ι G σ S H ρ Q s e post=>?_⟩
 exact da P ι G σ S H ρ _ s e (post.bind fun x S1 ι1 G1 H1 v p1 e1 s1 rv post1=>tru_ok s1 rv post1)
theorem Y5 (ha:PDT X Wx a At):PDT X Wx (.UnaryOp .Not a pos) (fun ρ S=>(At ρ S).bind fun k S=>.ok (!k) S):=by
 obtain⟨ta,pa,da⟩:=ha
 refine⟨_,pt_not pa,fun P ι G σ S H ρ Q s e post=>?_⟩
 refine da P ι G σ S H ρ _ s e (post.bind fun x S1 ι1 G1 H1 v p1 e1 s1 rv post1=>?_)
 cases rv
 exact post1.ok s1 rfl
theorem pdw_and1 (ha:PDT X Wx a At):PDW X Wx (.BoolOp .And [a] pos) At:=by
 obtain⟨ta,pa,da⟩:=ha
 exact⟨_,pw_and1 pa,da⟩
theorem pdw_or1 (ha:PDT X Wx a At):PDW X Wx (.BoolOp .Or [a] pos) At:=by
 obtain⟨ta,pa,da⟩:=ha
 exact⟨_,pw_or1 pa,da⟩
theorem pdw_and (ha:PDT X Wx a At) (hb:PDW X Wx (.BoolOp .And (b :: es) pos) Bt):PDW X Wx (.BoolOp .And (a :: b :: es) pos) (fun ρ S=>(At ρ S).bind fun k S=>if k=true then Bt ρ S else .ok false S):=by
 obtain⟨ta,pa,da⟩:=ha
 obtain⟨tb,pb,db⟩:=hb
 refine⟨_,pw_and pa pb,fun P ι G σ S H ρ Q s e post=>?_⟩
 refine da P ι G σ S H ρ _ s e (post.bind fun x S1 ι1 G1 H1 v p1 e1 s1 rv post1=>?_)
 cases rv
 cases x with
 | true=>rw[if_pos rfl] at post1 ⊢; exact db P ι1 G1 σ S1 H1 ρ _ s1 (e.up p1 e1) post1
 | false=>rw[if_neg Bool.false_ne_true] at post1 ⊢; exact post1.ok s1 rfl
theorem pdw_or (ha:PDT X Wx a At) (hb:PDW X Wx (.BoolOp .Or (b :: es) pos) Bt):PDW X Wx (.BoolOp .Or (a :: b :: es) pos) (fun ρ S=>(At ρ S).bind fun k S=>if k=true then .ok true S else Bt ρ S):=by
 obtain⟨ta,pa,da⟩:=ha
 obtain⟨tb,pb,db⟩:=hb
 refine⟨_,pw_or pa pb,fun P ι G σ S H ρ Q s e post=>?_⟩
 refine da P ι G σ S H ρ _ s e (post.bind fun x S1 ι1 G1 H1 v p1 e1 s1 rv post1=>?_)
 cases rv
 cases x with
 | true=>rw[if_pos rfl] at post1 ⊢; exact post1.ok s1 rfl
 | false=>rw[if_neg Bool.false_ne_true] at post1 ⊢; exact db P ι1 G1 σ S1 H1 ρ _ s1 (e.up p1 e1) post1
theorem PDW.pt (h:PDW X Wx a At):PDT X Wx a At:=by
 obtain⟨ta,pa,da⟩:=h
 exact⟨_,pa.pt,da⟩
theorem pd_one {op:BoolOp} (h:PD X Wx a A):PD X Wx (.BoolOp op [a] pos) A:=by
 obtain⟨ta,pa,da⟩:=h
 exact⟨_,pe_one pa,da⟩
theorem pd_and (ha:PD X Wx a A) (hb:PD X Wx (.BoolOp .And (b :: es) pos) B):PD X Wx (.BoolOp .And (a :: b :: es) pos) (fun ρ S=>(A ρ S).bind fun u S=>(truU u S).bind fun k S=>if k=true then B ρ S else .ok u S):=by
 obtain⟨ta,pa,da⟩:=ha
 obtain⟨tb,pb,db⟩:=hb
 refine⟨_,pe_andT pa pb,fun P ι G σ S H ρ Q s e post=>?_⟩
 refine da P ι G σ S H ρ _ s e (post.bind fun x S1 ι1 G1 H1 v p1 e1 s1 rv post1=>?_)
 obtain⟨k,hk,post2⟩:=tru_post s1 rv post1
 refine⟨k,hk,?_⟩
 cases k with
 | true=>rw[if_pos rfl] at post2 ⊢; exact db P ι1 G1 σ S1 H1 ρ _ s1 (e.up p1 e1) post2
 | false=>rw[if_neg Bool.false_ne_true] at post2 ⊢; exact post2.ok s1 rv
theorem Uy (hc:PDT X Wx c At) (ha:PD X Wx a A) (hb:PD X Wx b B):PD X Wx (.IfExp c a b pos) (fun ρ S=>(At ρ S).bind fun k S=>if k=true then A ρ S else B ρ S):=by
 obtain⟨tc,pc,dc⟩:=hc
 obtain⟨ta,pa,da⟩:=ha
 obtain⟨tb,pb,db⟩:=hb
 refine⟨_,pe_ifExp pc pa pb,fun P ι G σ S H ρ Q s e post=>?_⟩
 refine dc P ι G σ S H ρ _ s e (post.bind fun x S1 ι1 G1 H1 v p1 e1 s1 rv post1=>?_)
 cases rv
 cases x with
 | true=>rw[if_pos rfl] at post1 ⊢; exact da P ι1 G1 σ S1 H1 ρ _ s1 (e.up p1 e1) post1
 | false=>rw[if_neg Bool.false_ne_true] at post1 ⊢; exact db P ι1 G1 σ S1 H1 ρ _ s1 (e.up p1 e1) post1
theorem Qg:PDA X Wx [] (fun _ S=>.ok [] S):=⟨_,pa_nil,fun P ι G σ S H ρ Q s _ post=>post.ok s .nil⟩
theorem Qc (ha:PD X Wx a A) (hr:PDA X Wx es As) (hs:starEach (a :: es) X.env=(false,eval a X.env) :: starEach es X.env:=by rfl):PDA X Wx (a :: es) (fun ρ S=>(A ρ S).bind fun x S=>(As ρ S).bind fun xs S=>.ok (x :: xs) S):=by
 obtain⟨ta,pa,da⟩:=ha
 obtain⟨tb,pb,db⟩:=hr
 refine⟨_,pa_cons pa pb hs,fun P ι G σ S H ρ Q s e post=>?_⟩
 refine da P ι G σ S H ρ _ s e (post.bind fun x S1 ι1 G1 H1 v p1 e1 s1 rv post1=>?_)
 refine db P ι1 G1 σ S1 H1 ρ _ s1 (e.up p1 e1) (post1.bind fun y S2 ι2 G2 H2 v2 p2 e2 s2 rv2 post2=>?_)
 exact post2.ok s2 (.cons (rv.up p2 e2) rv2)
/-- what a list or a tuple holds -/
def seqU (u:U) (S:Qa):Res (List U):=match u with
 | .d (.tup ds)=>.ok (ds.map .d) S
 | .d (.lst ds)=>.ok (ds.map .d) S
 | .r n=>match S[n]? with
  | some (.lst us)=>.ok us S
  | _=>.bad
 | _=>.bad
theorem seq_post {α β:Type} {R:Rel α β} {ι:List Addr} {G H:Hp} {S:Qa} {σ:L2.St} {u:U} {v:V} {Q:β→Hp→Prop} {k:List U→Qa→Res α} (s:Sr X.K P ι G S H) (r:RU X.K ι G v u) (post:Post R X.K Wx P ι G σ Q ((seqU u S).bind k)) :
  ∃ a xs us,v=.ref a∧(SqT X.K H a xs∨SqL X.K H a xs)∧RUs X.K ι G xs us∧Post R X.K Wx P ι G σ Q (k us S):=by
 match u,r,post with
 | .d (.tup ds),r,post =>
  cases r with
  | tup h1 h2=>exact⟨_,_,_,rfl,.inl (Evl.ex_t s.ex h1),h2.us,post⟩
 | .d (.lst ds),r,post =>
  cases r with
  | lst h1 h2=>exact⟨_,_,_,rfl,.inr (Evl.ex_l s.ex h1),h2.us,post⟩
 | .r n,⟨p,hn,hv⟩,post =>
  subst hv
  simp only[seqU] at post
  split at post
  ·rename_i us hc
   obtain⟨_,vs,h1,h2⟩:=s.at_ n _ p hc hn
   exact⟨_,_,_,rfl,.inr (SqL.of h1),h2,post⟩
  ·exact post.elim
theorem pda_star {p:Pos} (ha:PD X Wx a A) (hr:PDA X Wx es As) (hs:starEach (.Starred a p :: es) X.env=(true,eval a X.env) :: starEach es X.env:=by rfl):PDA X Wx (.Starred a p :: es) (fun ρ S=>(A ρ S).bind fun x S=>(seqU x S).bind fun us S=>(As ρ S).bind fun xs S=>.ok (us++xs) S):=by
 obtain⟨ta,pa,da⟩:=ha
 obtain⟨tb,pb,db⟩:=hr
 refine⟨_,StX.pa_star pa pb hs,fun P ι G σ S H ρ Q s e post=>?_⟩
 refine da P ι G σ S H ρ _ s e (post.bind fun x S1 ι1 G1 H1 v p1 e1 s1 rv post1=>?_)
 obtain⟨q,xs,us,rfl,hq,rv2,post2⟩:=seq_post s1 rv post1
 refine⟨q,xs,rfl,hq,?_⟩
 refine db P ι1 G1 σ S1 H1 ρ _ s1 (e.up p1 e1) (post2.bind fun y S3 ι3 G3 H3 v3 p3 e3 s3 rv3 post3=>?_)
 exact post3.ok s3 (Jz (rv2.up p3 e3) rv3)
def mkT (us:List U) (S:Qa):Res U:=match allD us with
 | some ds=>if ds.length≤sizeLine then .ok (.d (.tup ds)) S else .bad
 | none=>.bad
def mkL (us:List U) (S:Qa):Res U:=match allD us with
 | some ds=>if ds.length≤sizeLine then .ok (.d (.lst ds)) S else .bad
 | none=>.bad
/-- a new list that will change -/
def mkM (us:List U) (S:Qa):Res U:=if us.length≤sizeLine then .ok (.r S.length) (S++[.lst us]) else .bad
theorem allD_len {us:List U} {ds:List D} (h:allD us=some ds):us.length=ds.length:=by rw[allD_eq h,List.length_map]
theorem Y6 {x1} (h:PDA X Wx es As):PD X Wx (.Tuple es x1 pos) (fun ρ S=>(As ρ S).bind mkT):=by
 obtain⟨ta,pa,da⟩:=h
 refine⟨_,pe_tup pa,fun P ι G σ S H ρ Q s e post=>?_⟩
 refine da P ι G σ S H ρ _ s e (post.bind fun us S1 ι1 G1 H1 vs p1 e1 s1 rv post1=>?_)
 unfold mkT at post1
 split at post1
 ·rename_i ds hd
  split at post1
  ·rename_i hz
   have hl:=Qm rv
   rw[allD_len hd] at hl
   refine⟨by rw[hl]; exact hz,fun p hp=>?_⟩
   exact post1 ι1 _ _ (.ref p) (List.prefix_refl _) (s1.exN hp) (s1.new hp) (.tup (SqT.of upd_same) ((rv.all hd).ex (s1.exN hp)))
  ·exact post1.elim
 ·exact post1.elim
theorem Xb (h:PDA X Wx es As):PD X Wx (.List es pos) (fun ρ S=>(As ρ S).bind mkL):=by
 obtain⟨ta,pa,da⟩:=h
 refine⟨_,pe_lst pa,fun P ι G σ S H ρ Q s e post=>?_⟩
 refine da P ι G σ S H ρ _ s e (post.bind fun us S1 ι1 G1 H1 vs p1 e1 s1 rv post1=>?_)
 unfold mkL at post1
 split at post1
 ·rename_i ds hd
  split at post1
  ·rename_i hz
   have hl:=Qm rv
   rw[allD_len hd] at hl
   refine⟨by rw[hl]; exact hz,fun p hp=>?_⟩
   exact post1 ι1 _ _ (.ref p) (List.prefix_refl _) (s1.exN hp) (s1.new hp) (.lst (SqL.of upd_same) ((rv.all hd).ex (s1.exN hp)))
  ·exact post1.elim
 ·exact post1.elim
theorem newM {ι:List Addr} {G H:Hp} {S:Qa} {us:List U} {vs:List V} {p:Addr} {Q:VK} {σ:L2.St} (s:Sr X.K P ι G S H) (hp:H p=none) (rv:RUs X.K ι G vs us) (post:Post (RU X.K) X.K Wx P ι G σ Q (.ok (.r S.length) (S++[.lst us]))):Q (.ref p) (upd H p (.lst vs)):=by
 have up:ι <+: ι++[p]:=List.prefix_append ι [p]
 refine post (ι++[p]) G _ (.ref p) up (Ex.refl G) (s.cell hp ⟨(s.fresh hp).1,vs,upd_same,rv.up up (Ex.refl G)⟩) ⟨p,?_,rfl⟩
 rw[← s.len,List.getElem?_append_right (Nat.le_refl _),Nat.sub_self]
 rfl
theorem Uk (h:PDA X Wx es As):PD X Wx (.List es pos) (fun ρ S=>(As ρ S).bind mkM):=by
 obtain⟨ta,pa,da⟩:=h
 refine⟨_,pe_lst pa,fun P ι G σ S H ρ Q s e post=>?_⟩
 refine da P ι G σ S H ρ _ s e (post.bind fun us S1 ι1 G1 H1 vs p1 e1 s1 rv post1=>?_)
 unfold mkM at post1
 split at post1
 ·rename_i hz
  have hl:=Qm rv
  exact⟨by rw[hl]; exact hz,fun p hp=>newM s1 hp rv post1⟩
 ·exact post1.elim
def PDO (X:Cx) (Wx:WX) (e:Option Expr) (F:Env→Qa→Res (Option Int)):Prop:=∃ t,PO X e t∧DG (fun _ _ a b=>a=b) X.K Wx t F
def asI (u:U) (S:Qa):Res (Option Int):=match u with
 | .d (.int i)=>.ok (some i) S
 | _=>.bad
theorem Yp:PDO X Wx none (fun _ S=>.ok none S):=⟨_,po_none,fun P ι G σ S H ρ Q s _ post=>post.ok s rfl⟩
theorem Yq (ha:PD X Wx a A):PDO X Wx (some a) (fun ρ S=>(A ρ S).bind asI):=by
 obtain⟨ta,pa,da⟩:=ha
 refine⟨_,po_some pa,fun P ι G σ S H ρ Q s e post=>?_⟩
 refine da P ι G σ S H ρ _ s e (post.bind fun x S1 ι1 G1 H1 v p1 e1 s1 rv post1=>?_)
 match x,rv,post1 with
 | .d (.int i),rv,post1 =>
  cases rv
  exact⟨i,rfl,post1.ok s1 rfl⟩
theorem Vl {g:U→Option Int→Option Int→Qa→Res U} {lo hi:Option Expr} {L Hh:Env→Qa→Res (Option Int)} {p2:Pos} (ho:SlD X g) (ha:PD X Wx a A) (hl:PDO X Wx lo L) (hh:PDO X Wx hi Hh):PD X Wx (.Subscript a (.Slice lo hi none p2) pos) (fun ρ S=>(A ρ S).bind fun x S=>(L ρ S).bind fun l S=>(Hh ρ S).bind fun h S=>g x l h S):=by
 obtain⟨r,hr,h⟩:=ho
 obtain⟨ta,pa,da⟩:=ha
 obtain⟨tb,pb,db⟩:=hl
 obtain⟨tc,pc,dc⟩:=hh
 refine⟨_,pe_slice hr pa pb pc,fun P ι G σ S H ρ Q s e post=>?_⟩
 refine da P ι G σ S H ρ _ s e (post.bind fun x S1 ι1 G1 H1 v p1 e1 s1 rv post1=>?_)
 refine db P ι1 G1 σ S1 H1 ρ _ s1 (e.up p1 e1) (post1.bind fun y S2 ι2 G2 H2 v2 p2 e2 s2 rv2 post2=>?_)
 refine dc P ι2 G2 σ S2 H2 ρ _ s2 ((e.up p1 e1).up p2 e2) (post2.bind fun z S3 ι3 G3 H3 v3 p3 e3 s3 rv3 post3=>?_)
 cases rv2
 cases rv3
 exact h Wx P ι3 G3 S3 H3 v x _ _ σ Q s3 ((rv.up p2 e2).up p3 e3) post3
theorem Qo {id:String} {x:Str} {p:Pos} {g:List U→Qa→Res U} (hc:Xa X (.builtin id) g) (hm:X.mg x=none) (ha:PDA X Wx (e :: es) As) (hg:Gl X x:=by rfl) (hv:bootBuiltins x=some (.builtin id):=by decide +kernel) (hn:x ≠ "__name__" := by decide) (hdb:(x == ("__debug__" : Str))=false:=by decide)
  (he:starEach (e :: es) X.env=(false,eval e X.env) :: starEach es X.env:=by rfl) (hpl:(backTo pos (starEach es X.env)).any (·.1)=false:=by rfl):PD X Wx (.Call (.Name x p) (e :: es) [] pos) (fun ρ S=>(As ρ S).bind g):=by
 obtain⟨r,hr,h⟩:=hc
 obtain⟨ta,pa,da⟩:=ha
 refine⟨_,pe_callB hr hg hm hv pa hn hdb he hpl,fun P ι G σ S H ρ Q s e post=>?_⟩
 exact da P ι G σ S H ρ _ s e (post.bind fun us S1 ι1 G1 H1 vs p1 e1 s1 rv post1=>h Wx P ι1 G1 S1 H1 vs us σ Q s1 rv post1)
theorem Q8 {T:String} {x:Str} {p:Pos} {g:List U→Qa→Res U} (hc:Xa X (.type T) g) (hm:X.mg x=none) (ha:PDA X Wx (e :: es) As) (hg:Gl X x:=by rfl) (hv:bootBuiltins x=some (.type T):=by decide +kernel) (hn:x ≠ "__name__" := by decide) (hdb:(x == ("__debug__" : Str))=false:=by decide)
  (he:starEach (e :: es) X.env=(false,eval e X.env) :: starEach es X.env:=by rfl) (hpl:(backTo pos (starEach es X.env)).any (·.1)=false:=by rfl):PD X Wx (.Call (.Name x p) (e :: es) [] pos) (fun ρ S=>(As ρ S).bind g):=by
 obtain⟨r,hr,h⟩:=hc
 obtain⟨ta,pa,da⟩:=ha
 refine⟨_,pe_callTy hr hg hm hv pa hn hdb he hpl,fun P ι G σ S H ρ Q s e post=>?_⟩
 exact da P ι G σ S H ρ _ s e (post.bind fun us S1 ι1 G1 H1 vs p1 e1 s1 rv post1=>h Wx P ι1 G1 S1 H1 vs us σ Q s1 rv post1)
end
end DL
namespace DL
open PySem PySem.Spec PyProof.Rows L2
open He (ga ma)
open Evl (Ex)
open TL (tl)
def RT (K:PySem.W.Frag) (sl:List Nat) (σ:L2.St):Rel Env L2.St:=fun ι G σ' ρ'=>RelE K ι G σ' ρ'∧σ'.length=σ.length∧∀ i,i ∉ sl→σ'[i]?=σ[i]?
def DTg (K:PySem.W.Frag) (Wx:WX) (sl:List Nat) (g:TG) (T:U→Env→Qa→Res Env):Prop :=
 ∀ P ι G σ S H ρ v u Q,Sr K P ι G S H→RelE K ι G σ ρ→RU K ι G v u→Post (RT K sl σ) K Wx P ι G σ Q (T u ρ S)→g v σ H Q
def DTgs (K:PySem.W.Frag) (Wx:WX) (sl:List Nat) (g:TGs) (T:List U→Env→Qa→Res Env):Prop :=
 ∀ P ι G σ S H ρ vs us Q,Sr K P ι G S H→RelE K ι G σ ρ→RUs K ι G vs us→Post (RT K sl σ) K Wx P ι G σ Q (T us ρ S)→g vs σ H Q
/-- in Wx the slots do not matter -/
def NoSlot (Wx:WX):Prop:=∀ c d σ σ' H,Wx c d σ H→Wx c d σ' H
def PDG (X:Cx) (Wx:WX) (tg:Expr) (sl:List Nat) (T:U→Env→Qa→Res Env):Prop:=∃ g,PG X tg g∧DTg X.K Wx sl g T
def PDGs (X:Cx) (Wx:WX) (tgs:List Expr) (sl:List Nat) (T:List U→Env→Qa→Res Env):Prop:=∃ g,PGs X tgs g∧DTgs X.K Wx sl g T
def tuple? (u:U) (S:Qa):Res (List U):=match u with
 | .d (.tup ds)=>.ok (ds.map .d) S
 | _=>.bad
section
variable {X:Cx} {Wx:WX} {P:Hp} {pos:Pos}
theorem RT.refl {K:PySem.W.Frag} {ι:List Addr} {G:Hp} {σ:L2.St} {ρ:Env} {sl:List Nat} (h:RelE K ι G σ ρ):RT K sl σ ι G σ ρ:=⟨h,rfl,fun _ _=>rfl⟩
theorem Qn {i:Nat} {x:Str} (hN:X.N.Nodup) (hi:X.N[i]?=some x) (hx:Loc X.env.scope x) (hf:X.fn x=true∨X.env.scope.names.lookup x=some .local:=by first | exact .inl rfl | exact .inr rfl | assumption):PDG X Wx (.Name x pos) [i] (fun u ρ S=>.ok (ρ.set i (some u)) S):=by
 refine⟨_,pg_name hN hi hx hf,fun P ι G σ S H ρ v u Q s e r post=>?_⟩
 refine post.ok s ⟨Jy (show RO X.K ι G (some v) (some u) from r) i e,List.length_set,fun j hj=>?_⟩
 rw[List.getElem?_set_ne (by intro z; subst z; exact hj List.mem_cons_self)]
theorem Yg:PDGs X Wx [] [] (fun us ρ S=>match us with | []=>.ok ρ S | _=>.bad):=by
 refine⟨_,pgs_nil,fun P ι G σ S H ρ vs us Q s e r post=>?_⟩
 cases r with
 | nil=>exact⟨rfl,post.ok s (RT.refl e)⟩
 | cons _ _=>exact post.elim
theorem Q4 {e:Expr} {es:List Expr} {sl sl':List Nat} {T:U→Env→Qa→Res Env} {Ts:List U→Env→Qa→Res Env} (hw:NoSlot Wx) (h1:PDG X Wx e sl T) (h2:PDGs X Wx es sl' Ts) (hs:(assignEach (e :: es) X.env).map (·.2)=assign e X.env :: (assignEach es X.env).map (·.2):=by rfl) :
  PDGs X Wx (e :: es) (sl++sl') (fun us ρ S=>match us with | []=>.bad | u :: r=>(T u ρ S).bind fun ρ S=>Ts r ρ S):=by
 obtain⟨g,pg,dg⟩:=h1
 obtain⟨gs,pgs,dgs⟩:=h2
 refine⟨_,pgs_cons pg pgs hs,fun P ι G σ S H ρ vs us Q s e r post=>?_⟩
 cases r with
 | nil=>exact post.elim
 | cons r1 rr =>
  refine⟨_,_,rfl,dg P ι G σ S H ρ _ _ _ s e r1 ?_⟩
  refine post.bind fun ρ1 S1 ι1 G1 H1 σ1 p1 e1 s1 rt post1=>?_
  refine dgs P ι1 G1 σ1 S1 H1 ρ1 _ _ _ s1 rt.1 (RUs.up p1 e1 rr) ?_
  -- the slots of the end
  have:∀ {r:Res Env},Post (RT X.K (sl++sl') σ) X.K Wx P ι1 G1 σ Q r→Post (RT X.K sl' σ1) X.K Wx P ι1 G1 σ1 Q r:=by
   intro r h
   cases r with
   | ok a S2 =>
    intro ι2 G2 H2 σ2 p2 e2 s2 rt2
    refine h ι2 G2 H2 σ2 p2 e2 s2 ⟨rt2.1,rt2.2.1.trans rt.2.1,fun i hi=>?_⟩
    rw[rt2.2.2 i fun z=>hi (List.mem_append_right _ z),rt.2.2 i fun z=>hi (List.mem_append_left _ z)]
   | err c fs S2=>exact fun ι2 G2 H2 od p2 e2 s2 ea=>hw _ _ _ _ _ (h ι2 G2 H2 od p2 e2 s2 ea)
   | bad=>exact h
  exact this post1
theorem Y7 {es:List Expr} {k:Nat} {n:Nat} {sl:List Nat} {Ts:List U→Env→Qa→Res Env} (hc:X.calm=true) (h:PDGs X Wx es sl Ts) (hn:(assignEach es X.env).length=n:=by rfl) (hst:(assignEach es X.env).findIdx? (·.1)=none:=by rfl) :
  PDG X Wx (.Tuple es k pos) sl (fun u ρ S=>(tuple? u S).bind fun us S=>if us.length=n then Ts us ρ S else .bad):=by
 obtain⟨g,pg,dg⟩:=h
 refine⟨_,pg_tup hc pg hn hst,fun P ι G σ S H ρ v u Q s e r post=>?_⟩
 match u,r,post with
 | .d (.tup ds),r,post =>
  cases r with
  | tup h1 h2 =>
   have h3:=h2.us (ι:=ι)
   have post':Post (RT X.K sl σ) X.K Wx P ι G σ Q (if (ds.map U.d).length=n then Ts (ds.map .d) ρ S else .bad):=post
   split at post'
   ·rename_i hl
    exact⟨_,_,rfl,Evl.ex_t s.ex h1,by rw[Qm h3]; exact hl,dg P ι G σ S H ρ _ _ _ s e h3 post'⟩
   ·exact post'.elim
def Fl.seq (f:Fl) (k:Env→Qa→Fl):Fl:=match f with
 | .nx ρ S=>k ρ S
 | f=>f
variable {e c:Expr} {A:Env→Qa→Res U} {At:Env→Qa→Res Bool} {st:Stmt} {sts sts':List Stmt} {B B':Env→Qa→Fl}
theorem Qq:PDSs X Wx [] (fun ρ S=>.nx ρ S):=⟨_,pss_nil,fun P ι G σ S H ρ E s e post=>post ι G σ H (List.prefix_refl _) (Ex.refl _) s e⟩
theorem Ql (h:PDS X Wx st B):PDSs X Wx [st] B:=by
 obtain⟨t,p,d⟩:=h
 exact⟨_,pss_one p,d⟩
theorem seq_ok {K:PySem.W.Frag} {t u:TS} (d1:DS K Wx t B) (d2:DS K Wx u B'):DS K Wx (tSeq t u) (fun ρ S=>(B ρ S).seq B'):=by
 intro P ι G σ S H ρ E s e post
 refine d1 P ι G σ S H ρ _ s e ?_
 have:∀ {f:Fl},Jj K Wx P ι G E (f.seq B')→Jj K Wx P ι G { E with nx:=u E } f:=by
  intro f h
  cases f with
  | nx ρ1 S1=>exact fun ι1 G1 σ1 H1 p1 e1 s1 r1=>d2 P ι1 G1 σ1 S1 H1 ρ1 E s1 r1 (Jj.up p1 e1 h)
  | rt _ _=>exact h
  | bk _ _=>exact h
  | ct _ _=>exact h
  | err _ _ _ _=>exact h
  | bad=>exact h
 exact this post
theorem Qh (h1:PDS X Wx st B) (h2:PDSs X Wx sts B'):PDSs X Wx (st :: sts) (fun ρ S=>(B ρ S).seq B'):=by
 obtain⟨t,p,d⟩:=h1
 obtain⟨u,q,d2⟩:=h2
 exact⟨_,pss_cons p q,seq_ok d d2⟩
theorem Y8 (h:PD X Wx e A) (hs:swapsWith e none pos.line X.env=pure false:=by rfl):PDS X Wx (.Expr e pos) (fun ρ S=>(A ρ S).fl ρ fun _ S=>.nx ρ S):=by
 obtain⟨t,p,d⟩:=h
 refine⟨_,ps_expr p hs,fun P ι G σ S H ρ E s e post=>?_⟩
 exact d P ι G σ S H ρ _ s e (Post.fl e post fun u S1 ι1 G1 H1 v p1 e1 s1 rv r1 post1=>post1 ι1 G1 σ H1 (List.prefix_refl _) (Ex.refl _) s1 r1)
theorem Qs (h:PD X Wx e A):PDS X Wx (.Return (some e) pos) (fun ρ S=>(A ρ S).fl ρ fun u S=>.rt u S):=by
 obtain⟨t,p,d⟩:=h
 refine⟨_,ps_ret p,fun P ι G σ S H ρ E s e post=>?_⟩
 exact d P ι G σ S H ρ _ s e (Post.fl e post fun u S1 ι1 G1 H1 v p1 e1 s1 rv r1 post1=>post1 ι1 G1 H1 v (List.prefix_refl _) (Ex.refl _) s1 rv)
theorem Q5 (hc:PDT X Wx c At) (ha:PDSs X Wx sts B) (hb:PDSs X Wx sts' B'):PDS X Wx (.If c sts sts' pos) (fun ρ S=>(At ρ S).fl ρ fun k S=>if k=true then B ρ S else B' ρ S):=by
 obtain⟨tc,pc,dc⟩:=hc
 obtain⟨ta,pa,da⟩:=ha
 obtain⟨tb,pb,db⟩:=hb
 refine⟨_,ps_if pc pa pb,fun P ι G σ S H ρ E s e post=>?_⟩
 refine dc P ι G σ S H ρ _ s e (Post.fl e post fun k S1 ι1 G1 H1 v p1 e1 s1 rv r1 post1=>?_)
 cases rv
 cases k with
 | true=>rw[if_pos rfl] at post1 ⊢; exact da P ι1 G1 σ S1 H1 ρ E s1 r1 post1
 | false=>rw[if_neg Bool.false_ne_true] at post1 ⊢; exact db P ι1 G1 σ S1 H1 ρ E s1 r1 post1
theorem tg_fl {K:PySem.W.Frag} {sl:List Nat} {ι:List Addr} {G:Hp} {σ:L2.St} {ρ:Env} {E:Ends} {r:Res Env} {k:Env→Qa→Fl} {Q:L2.St→Hp→Prop} (hρ:RelE K ι G σ ρ) (h:Jj K Wx P ι G E (r.fl ρ k))
  (f:∀ ρ1 S1 ι1 G1 H1 σ1,ι <+: ι1→Ex G G1→Sr K P ι1 G1 S1 H1→RelE K ι1 G1 σ1 ρ1→Jj K Wx P ι1 G1 E (k ρ1 S1)→Q σ1 H1):Post (RT K sl σ) K Wx P ι G σ Q r :=
 Post.fl hρ h fun ρ1 S1 ι1 G1 H1 σ1 p1 e1 s1 rt r1 post1=>f ρ1 S1 ι1 G1 H1 σ1 p1 e1 s1 rt.1 post1
theorem pds_asg {tg:Expr} {sl:List Nat} {T:U→Env→Qa→Res Env} (he:PD X Wx e A) (hg:PDG X Wx tg sl T) (hs:swapsWithSole [tg] e pos.line X.env=pure false:=by rfl) (hw:swappedStores [tg] e X.env=pure none:=by rfl)
  (h1:(assignEach [tg] X.env).map (·.2)=[assign tg X.env]:=by rfl):PDS X Wx (.Assign [tg] e pos) (fun ρ S=>(A ρ S).fl ρ fun u S=>(T u ρ S).fl ρ fun ρ S=>.nx ρ S):=by
 obtain⟨t,p,d⟩:=he
 obtain⟨g,pg,dg⟩:=hg
 refine⟨_,ps_asg p pg hs hw h1,fun P ι G σ S H ρ E s e post=>?_⟩
 refine d P ι G σ S H ρ _ s e (Post.fl e post fun u S1 ι1 G1 H1 v p1 e1 s1 rv r1 post1=>?_)
 exact dg P ι1 G1 σ S1 H1 ρ v u _ s1 r1 rv (tg_fl r1 post1 fun ρ2 S2 ι2 G2 H2 σ2 p2 e2 s2 r2 post2=>post2 ι2 G2 σ2 H2 (List.prefix_refl _) (Ex.refl _) s2 r2)
theorem Q6 {i:Nat} {x:Str} {pos':Pos} (hN:X.N.Nodup) (hi:X.N[i]?=some x) (hx:Loc X.env.scope x) (he:PD X Wx e A) (hs:swapsWith e (some (.Name x pos')) pos.line X.env=pure false:=by rfl) (hf:X.fn x=true∨X.env.scope.names.lookup x=some .local:=by first | exact .inl rfl | exact .inr rfl | assumption) :
  PDS X Wx (.Assign [.Name x pos'] e pos) (fun ρ S=>(A ρ S).fl ρ fun u S=>.nx (ρ.set i (some u)) S):=by
 obtain⟨t,p,d⟩:=he
 refine⟨_,ps_set hN hi hx p hs hf,fun P ι G σ S H ρ E s e post=>?_⟩
 exact d P ι G σ S H ρ _ s e (Post.fl e post fun u S1 ι1 G1 H1 v p1 e1 s1 rv r1 post1=>post1 ι1 G1 _ H1 (List.prefix_refl _) (Ex.refl _) s1 (Jy (show RO X.K ι1 G1 (some v) (some u) from rv) i r1))
theorem pds_par {i j:Nat} {x y:Str} {a b:Expr} {As:Env→Qa→Res (List U)} {px py pt:Pos} {kt k2 pt2} (hc:X.calm=true) (hN:X.N.Nodup) (hi:X.N[i]?=some x) (hj:X.N[j]?=some y) (hij:i ≠ j) (hx:X.env.scope.names.lookup x=some .local) (hy:X.env.scope.names.lookup y=some .local)
  (ha:PDA X Wx [a,b] As) (h:∀ {t:TA},PA X [a,b] t→PS X (.Assign [.Tuple [.Name x px,.Name y py] kt pt] (.Tuple [a,b] k2 pt2) pos) (tPar i j t)) :
  PDS X Wx (.Assign [.Tuple [.Name x px,.Name y py] kt pt] (.Tuple [a,b] k2 pt2) pos) (fun ρ S=>(As ρ S).fl ρ fun us S=>match us with | [u,w]=>.nx ((ρ.set i (some u)).set j (some w)) S | _=>.bad):=by
 obtain⟨t,p,d⟩:=ha
 refine⟨_,h p,fun P ι G σ S H ρ E s e post=>?_⟩
 refine d P ι G σ S H ρ _ s e (Post.fl e post fun us S1 ι1 G1 H1 vs p1 e1 s1 rv r1 post1=>?_)
 cases rv with
 | nil=>exact post1.elim
 | cons ra rr=>cases rr with
  | nil=>exact post1.elim
  | cons rb rr=>cases rr with
   | nil=>exact⟨_,_,rfl,post1 ι1 G1 _ H1 (List.prefix_refl _) (Ex.refl _) s1 (Jy (show RO X.K ι1 G1 (some _) (some _) from rb) j (Jy (show RO X.K ι1 G1 (some _) (some _) from ra) i r1))⟩
   | cons _ _=>exact post1.elim
end
structure Iter where
 us:List U
 g:Option (Nat × List U)
def gOk (S:Qa):Option (Nat × List U)→Prop
 | none=>True
 | some (n,us)=>S[n]?=some (.lst us)
def GW (K:PySem.W.Frag) (ι:List Addr) (G:Hp) (J:It) (it:Iter):Prop:=∃ (Gd:Hp→Prop) (Y:Nat→Hp→V→Hp→Prop),Walk J it.us.length Gd Y ∧
 (∀ P' ι' G' S' H',ι <+: ι'→Ex G G'→Sr K P' ι' G' S' H'→gOk S' it.g→Gd H') ∧
 (∀ i H x H',i < it.us.length→Y i H x H'→∀ P' ι' G' S',ι <+: ι'→Ex G G'→Sr K P' ι' G' S' H→gOk S' it.g→∃ G'' u,Ex G' G''∧Sr K P' ι' G'' S' H'∧it.us[i]?=some u∧RU K ι' G'' x u)
def RI (K:PySem.W.Frag):Rel Iter It:=fun ι G J it=>GW K ι G J it
def PDI (X:Cx) (Wx:WX) (tg iter:Expr) (F:Env→Qa→Res Iter):Prop:=∃ w,PI X tg iter w∧DG (RI X.K) X.K Wx w F
def Z6 (u:U) (S:Qa):Res Iter:=match u with
 | .d (.tup ds)=>.ok ⟨ds.map .d,none⟩ S
 | .d (.lst ds)=>.ok ⟨ds.map .d,none⟩ S
 | .d (.str z)=>.ok ⟨(tl z).map fun c=>.d (.str ⟨#[c]⟩),none⟩ S
 | .r n=>match S[n]? with
  | some (.lst us)=>.ok ⟨us,some (n,us)⟩ S
  | _=>.bad
 | _=>.bad
def Ut (ds:List D):List U:=ds.zipIdx.map fun p=>.d (.tup [.int (p.2:Nat),p.1])
def enumU (u:U) (S:Qa):Res Iter:=match u with
 | .d (.tup ds)=>.ok ⟨Ut ds,none⟩ S
 | .d (.lst ds)=>.ok ⟨Ut ds,none⟩ S
 | .r n=>match S[n]? with
  | some (.lst us)=>match allD us with
   | some ds=>.ok ⟨Ut ds,some (n,us)⟩ S
   | none=>.bad
  | _=>.bad
 | _=>.bad
def Jg (lo:Int) (n:Nat):List U:=(List.range n).map fun i=>.d (.int (lo + (i:Nat)))
def Xc (us:List U) (S:Qa):Res Iter:=match us with
 | [.d (.int j)]=>if -(2 ^ 62)≤j∧j < 2 ^ 62 then .ok ⟨Jg 0 j.toNat,none⟩ S else .bad
 | _=>.bad
section
variable {X:Cx} {Wx:WX} {P:Hp} {pos:Pos} {tg a b:Expr} {A:Env→Qa→Res U} {As:Env→Qa→Res (List U)}
def iAny (K:PySem.W.Frag) (te:TE):TI:=fun σ H R=>te σ H fun x H1=>(∃ a,x=.ref a∧(∃ xs,SqL K H1 a xs)∧R (Itl K a) H1)∨(∃ a,x=.ref a∧(∃ xs,SqT K H1 a xs)∧R (Itt K a) H1)∨(∃ z,x=.str z∧R (Its z) H1)
theorem pi_any {l:Expr} {tl:TE} (hl:PE X l tl):PI X tg l (iAny X.K tl):=by
 refine⟨fun pins s σ H R I h=>?_⟩
 refine thn (hl.run pins s σ H _ I h) fun v s1 ⟨x,H1,I1,r1,q1⟩=>?_
 rcases q1 with ⟨a,e,⟨xs,hq⟩,q⟩ | ⟨a,e,⟨xs,hq⟩,q⟩ | ⟨z,e,q⟩
 ·subst e
  cases r1
  obtain⟨its,rv,p,hz⟩:=I1.list hq
  exact wpAny_pyIter_list p.isList (pi_one (tk:=s1.toks) I1 _ (turn_list a _) ⟨_,Heap.get?_push_size _ rfl,rfl,rfl⟩ q)
 ·subst e
  cases r1
  obtain⟨its,rv,p,hz⟩:=I1.tuple hq
  exact wpAny_pyIter_tuple (show s1.heap.IsTuple a its.toArray from p) (pi_one (tk:=s1.toks) I1 _ (turn_tuple a _) ⟨_,Heap.get?_push_size _ rfl,rfl,rfl⟩ q)
 ·subst e
  obtain⟨t,rfl⟩:=r1
  cases ha:z.cps.all (· < 128)
  ·exact wpAny_pyIter_wide ha (pi_one (tk:=s1.toks) I1 _ (turn_str _ z t "str_iterator" (.inr rfl)) ⟨_,Heap.get?_push_size _ rfl,rfl,rfl⟩ q)
  ·exact wpAny_pyIter_ascii ha (pi_one (tk:=s1.toks) I1 _ (turn_str _ z t "str_ascii_iterator" (.inl rfl)) ⟨_,Heap.get?_push_size _ rfl,rfl,rfl⟩ q)
theorem gw_list {K:PySem.W.Frag} {ι:List Addr} {G:Hp} {a:Addr} {xs:List V} {us:List U} (h:SqL K G a xs) (r:RUs K ι G xs us):GW K ι G (Itl K a) ⟨us,none⟩:=by
 refine⟨_,_,(Qm r ▸ walk_list (xs:=xs)),fun P' ι' G' S' H' p e s _=>Evl.ex_l (e.trans s.ex) h,?_⟩
 rintro i H x H' hi ⟨rfl,hx⟩ P' ι' G' S' p e s _
 obtain⟨u,hu,ru⟩:=Jw r hx
 exact⟨G',u,Ex.refl _,s,hu,ru.up p e⟩
theorem gw_tup {K:PySem.W.Frag} {ι:List Addr} {G:Hp} {a:Addr} {xs:List V} {us:List U} (h:SqT K G a xs) (r:RUs K ι G xs us):GW K ι G (Itt K a) ⟨us,none⟩:=by
 refine⟨_,_,(Qm r ▸ walk_tup (xs:=xs)),fun P' ι' G' S' H' p e s _=>Evl.ex_t (e.trans s.ex) h,?_⟩
 rintro i H x H' hi ⟨rfl,hx⟩ P' ι' G' S' p e s _
 obtain⟨u,hu,ru⟩:=Jw r hx
 exact⟨G',u,Ex.refl _,s,hu,ru.up p e⟩
theorem gw_cell {K:PySem.W.Frag} {ι:List Addr} {G:Hp} {n:Nat} {a:Addr} {us:List U} {xs:List V} (hn:ι[n]?=some a) (r:RUs K ι G xs us) (h0:∀ P' ι' G' S' H',ι <+: ι'→Ex G G'→Sr K P' ι' G' S' H'→S'[n]?=some (.lst us)→∃ ys,H' a=some (.lst ys)∧RUs K ι' G' ys us):GW K ι G (Itl K a) ⟨us,some (n,us)⟩:=by
 refine⟨fun H=>∃ ys:List V,SqL K H a ys∧ys.length=us.length,fun i H x H'=>H'=H∧∀ ys,SqL K H a ys→ys[i]?=some x,⟨?_,?_,?_⟩,?_,?_⟩
 ·rintro i H hi ⟨ys,hq,hl⟩
  have hi':i < ys.length:=by rw[hl]; exact hi
  exact⟨ys,ys[i],hq,List.getElem?_eq_getElem hi'⟩
 ·rintro H ⟨ys,hq,hl⟩
  exact⟨ys,hq,by rw[hl]; exact Nat.le_refl _⟩
 ·rintro i H x H' _ _ y
  exact y
 ·intro P' ι' G' S' H' p e s g
  obtain⟨ys,h1,h2⟩:=h0 P' ι' G' S' H' p e s g
  exact⟨ys,SqL.of h1,Qm h2⟩
 ·rintro i H x H' hi ⟨rfl,hx⟩ P' ι' G' S' p e s g
  obtain⟨ys,h1,h2⟩:=h0 P' ι' G' S' _ p e s g
  obtain⟨u,hu,ru⟩:=Jw h2 (hx ys (SqL.of h1))
  exact⟨G',u,Ex.refl _,s,hu,ru⟩
theorem gw_str {K:PySem.W.Frag} {ι:List Addr} {G:Hp} (z:Str):GW K ι G (Its z) ⟨(tl z).map fun c=>.d (.str ⟨#[c]⟩),none⟩:=by
 refine⟨fun _=>True,(fun i H v H'=>H'=H∧∃ c,z.cps[i]?=some c∧v=.str ⟨#[c]⟩),?_,fun _ _ _ _ _ _ _ _ _=>trivial,?_⟩
 ·have hl:((tl z).map fun c=>U.d (.str ⟨#[c]⟩)).length=z.cps.size:=by rw[List.length_map,size_tl]
  show Walk (Its z) ((tl z).map fun c=>U.d (.str ⟨#[c]⟩)).length _ _
  rw[hl]
  exact walk_str
 ·rintro i H x H' hi ⟨rfl,c,hc,rfl⟩ P' ι' G' S' p e s _
  refine⟨G',.d (.str ⟨#[c]⟩),Ex.refl _,s,?_,Rv.str _⟩
  show ((tl z).map fun c=>U.d (.str ⟨#[c]⟩))[i]?=_
  rw[List.getElem?_map,str_at hc]
  rfl
theorem Yw (ha:PD X Wx a A):PDI X Wx tg a (fun ρ S=>(A ρ S).bind Z6):=by
 obtain⟨ta,pa,da⟩:=ha
 refine⟨_,pi_any pa,fun P ι G σ S H ρ Q s e post=>?_⟩
 refine da P ι G σ S H ρ _ s e (post.bind fun x S1 ι1 G1 H1 v p1 e1 s1 rv post1=>?_)
 match x,rv,post1 with
 | .d (.tup ds),rv,post1 =>
  cases rv with
  | tup h1 h2=>exact .inr (.inl ⟨_,rfl,⟨_,Evl.ex_t s1.ex h1⟩,post1.ok s1 (gw_tup h1 h2.us)⟩)
 | .d (.lst ds),rv,post1 =>
  cases rv with
  | lst h1 h2=>exact .inl ⟨_,rfl,⟨_,Evl.ex_l s1.ex h1⟩,post1.ok s1 (gw_list h1 h2.us)⟩
 | .d (.str z),rv,post1 =>
  cases rv
  exact .inr (.inr ⟨z,rfl,post1.ok s1 (gw_str z)⟩)
 | .r n,⟨p,hn,hv⟩,post1 =>
  subst hv
  simp only[Z6] at post1
  split at post1
  ·rename_i us hc
   obtain⟨_,vs,h1,h2⟩:=s1.at_ n _ p hc hn
   refine .inl ⟨_,rfl,⟨_,SqL.of h1⟩,post1.ok s1 (gw_cell hn h2 fun P' ι' G' S' H' pp e' s' g=>?_)⟩
   obtain⟨_,ys,h3,h4⟩:=s'.at_ n _ p g (Zt pp hn)
   exact⟨ys,h3,h4⟩
  ·exact post1.elim
 | .d .non,_,post1=>exact post1.elim
 | .d (.bl _),_,post1=>exact post1.elim
 | .d (.int _),_,post1=>exact post1.elim
 | .d (.obj _ _),_,post1=>exact post1.elim
theorem gw_range {K:PySem.W.Frag} {ι:List Addr} {G:Hp} (lo:Int) (n:Nat):GW K ι G (Itr lo n) ⟨Jg lo n,none⟩:=by
 refine⟨fun _=>True,YFn fun i=>.int (lo + i),?_,fun _ _ _ _ _ _ _ _ _=>trivial,?_⟩
 ·show Walk (Itr lo n) (Jg lo n).length _ _
  unfold Jg
  rw[List.length_map,List.length_range]
  exact walk_range
 ·rintro i H x H' hi ⟨rfl,rfl⟩ P' ι' G' S' p e s _
  refine⟨G',.d (.int (lo + (i:Nat))),Ex.refl _,s,?_,Rv.int _⟩
  have hi':i < n:=by
   have:i < (Jg lo n).length:=hi
   unfold Jg at this
   rw[List.length_map,List.length_range] at this
   exact this
  show (Jg lo n)[i]?=_
  unfold Jg
  rw[List.getElem?_map,List.getElem?_range hi']
  rfl
theorem Yh {p:Pos} (hm:X.mg "range" = none) (ha:PDA X Wx [a] As) (hg:Gl X "range" := by rfl) (hs:starEach [a] X.env=[(false,eval a X.env)]:=by rfl):PDI X Wx tg (.Call (.Name "range" p) [a] [] pos) (fun ρ S=>(As ρ S).bind Xc):=by
 obtain⟨ta,pa,da⟩:=ha
 refine⟨_,pi_range1 hg hm pa hs,fun P ι G σ S H ρ Q s e post=>?_⟩
 refine da P ι G σ S H ρ _ s e (post.bind fun us S1 ι1 G1 H1 vs p1 e1 s1 rv post1=>?_)
 match us,rv,post1 with
 | [.d (.int j)],rv,post1 =>
  cases rv with
  | cons r1 rr =>
   cases rr
   cases r1
   simp only[Xc] at post1
   split at post1
   ·rename_i hj
    exact⟨j,rfl,hj.1,hj.2,post1.ok s1 (gw_range 0 _)⟩
   ·exact post1.elim
theorem enum_at {ds:List D} {i:Nat} {d:D} (h:ds[i]?=some d):(Ut ds)[i]?=some (.d (.tup [.int (i:Nat),d])):=by
 unfold Ut
 rw[List.getElem?_map,List.getElem?_zipIdx,h]
 simp
theorem gw_enum {K:PySem.W.Frag} {ι:List Addr} {G:Hp} {J:It} {Gd:Hp→Prop} {xs:List V} {ds:List D} {g:Option (Nat × List U)} (wk:Walk J xs.length Gd (YPair (fun i=>some (.int (i:Nat))) (fun i=>xs[i]?))) (r:Ja K G xs ds)
  (hg:∀ P' ι' G' S' H',ι <+: ι'→Ex G G'→Sr K P' ι' G' S' H'→gOk S' g→Gd H'):GW K ι G J ⟨Ut ds,g⟩:=by
 have hl:(Ut ds).length=xs.length:=by
  unfold Ut
  rw[List.length_map,List.length_zipIdx,Qm r.pair]
 refine⟨Gd,YPair (fun i=>some (.int (i:Nat))) (fun i=>xs[i]?),?_,hg,?_⟩
 ·show Walk J (Ut ds).length Gd _
  rw[hl]
  exact wk
 ·rintro i H v H' hi ⟨T,x,y,rfl,hT,rfl,h1,h2⟩ P' ι' G' S' p e s _
  obtain rfl:=Option.some.inj h1
  obtain⟨d,hd,rd⟩:=Jw r.pair h2
  exact⟨_,_,s.exN hT,s.new hT,enum_at hd,.tup (SqT.of upd_same) (.cons (.int _) (.cons (rd.ex (e.trans (s.exN hT))) .nil))⟩
theorem gw_enumC {K:PySem.W.Frag} {ι:List Addr} {G:Hp} {n:Nat} {a:Addr} {ds:List D} (h0:∀ P' ι' G' S' H',ι <+: ι'→Ex G G'→Sr K P' ι' G' S' H'→S'[n]?=some (.lst (ds.map .d))→∃ ys,H' a=some (.lst ys)∧RUs K ι' G' ys (ds.map .d)):GW K ι G (Ite K a) ⟨Ut ds,some (n,ds.map .d)⟩:=by
 have hl:(Ut ds).length=ds.length:=by unfold Ut; rw[List.length_map,List.length_zipIdx]
 refine⟨fun H=>∃ ys:List V,SqL K H a ys∧ys.length=ds.length,fun i H v H'=>∃ T x,v=.ref T∧H T=none∧H'=upd H T (.tup [.int (i:Nat),x])∧∀ xs,SqL K H a xs→xs[i]?=some x,⟨?_,?_,?_⟩,?_,?_⟩
 ·rintro i H hi ⟨ys,hq,hy⟩
  have hi':i < ys.length:=by rw[hy,← hl]; exact hi
  exact⟨ys,ys[i],hq,List.getElem?_eq_getElem hi'⟩
 ·rintro H ⟨ys,hq,hy⟩
  exact⟨ys,hq,by rw[hy]; exact Nat.le_of_eq hl.symm⟩
 ·rintro i H x H' _ _ y
  exact y
 ·intro P' ι' G' S' H' p e s g
  obtain⟨ys,h1,h2⟩:=h0 P' ι' G' S' H' p e s g
  exact⟨ys,SqL.of h1,by rw[Qm h2,List.length_map]⟩
 ·rintro i H x H' hi ⟨T,y,rfl,hT,rfl,hy⟩ P' ι' G' S' p e s g
  obtain⟨ys,h1,h2⟩:=h0 P' ι' G' S' _ p e s g
  obtain⟨u,hu,ru⟩:=Jw h2 (hy ys (SqL.of h1))
  rw[List.getElem?_map] at hu
  cases hd:ds[i]? with
  | none=>rw[hd] at hu; cases hu
  | some d =>
   rw[hd] at hu
   obtain rfl:=Option.some.inj hu
   exact⟨_,_,s.exN hT,s.new hT,enum_at hd,.tup (SqT.of upd_same) (.cons (.int _) (.cons (ru.ex (s.exN hT)) .nil))⟩
def iEnumC (K:PySem.W.Frag) (ta:TA):TI:=fun σ H R=>ta σ H fun vs H1=>(∃ a xs b,vs=[.ref a]∧SqB K b H1 a xs∧∀ (J:It) (G:Hp→Prop),(∀ H',SqB K b H' a xs→G H')→Walk J xs.length G (YPair (fun i=>some (.int (i:Nat))) (fun i=>xs[i]?))→R J H1)∨∃ a xs,vs=[.ref a]∧SqL K H1 a xs∧R (Ite K a) H1
theorem pi_enumC {X:Cx} {e:Expr} {ta:TA} {p pos tpos:Pos} {elts:List Expr} {kk:Nat} (hg:Gl X "enumerate") (hm:X.mg "enumerate" = none) (ha:PA X [e] ta) (hs:starEach [e] X.env=[(false,eval e X.env)]:=by rfl) :
  PI X (.Tuple elts kk tpos) (.Call (.Name "enumerate" p) [e] [] pos) (iEnumC X.K ta):=by
 refine⟨fun pins s σ H R I h=>?_⟩
 refine Call_ (ld_blt I hg hm boot_enumerate (PyProof.Rows.callWith_type1 (thn (ha.run pos pins s σ H _ I h) fun us s1 ⟨vs,H1,I1,r1,q1⟩=>?_) hs rfl))
 have low:∀ b,b∈[s1.heap.objs.size + 1,s1.heap.objs.size]→s1.heap.objs.size≤b:=fun b hb=>by
  have e':b=s1.heap.objs.size + 1∨b=s1.heap.objs.size:=by simpa using hb
  rcases e' with z | z<;>rw[z]<;>omega
 have lists:∀ (a:Addr) (v:Value) (xs:List V),RelV (.ref a) v→SqL X.K H1 a xs→R (Ite X.K a) H1→wpAny (model X.prog X.w) X.A (call (.type "enumerate") [v]) (fun v s=>wpAny (model X.prog X.w) X.A (pyIter v) (PIE X pins σ (.Tuple elts kk tpos) R) X.xe s) X.xe s1:=fun a v xs r hq q=>by
  cases (show v=Value.ref a from r)
  obtain⟨its,rv,p',hz⟩:=I1.list hq
  refine call_enumerate_list p'.isList fun h' he hit hsz hk=>wpAny_pyIter_enum he ?_
  have I2:Inv X pins σ H1 { s1 with heap:=h' }:=I1.kept (t':=s1.toks) hk
  exact⟨s1.heap.objs.size + 1,[s1.heap.objs.size + 1,s1.heap.objs.size],_,_,H1,rfl,I2,turn_enum a (s1.heap.objs.size + 1) s1.heap.objs.size,⟨⟨.none,he⟩,hit,Nat.succ_ne_self _⟩,fun b hb=>I1.fpOk (low b hb) (I1.hok.fresh (low b hb)),q⟩
 rcases q1 with ⟨a,xs,b,ex,hq,q⟩ | ⟨a,xs,ex,hq,q⟩
 ·subst ex
  cases r1 with
  | cons r rr =>
   cases rr
   cases b
   rotate_left
   ·exact lists a _ xs r hq (q (Ite X.K a) _ (fun H' h=>h) walk_enum)
   ·cases r
    replace q:=q (Itet X.K a) _ (fun H' h=>h) walk_enumT
    obtain⟨its,rv,p',hz⟩:=I1.tuple hq
    have hlt:a < s1.heap.objs.size:=by obtain⟨o,ho,_⟩:=p'; exact Heap.lt_size ho
    refine WE.call_enum1 (begins_tuple a its.toArray) p' fun h' he hit hk=>wpAny_pyIter_enum he ?_
    have I2:Inv X pins σ H1 { s1 with heap:=h' }:=I1.kept (t':=s1.toks) hk
    exact⟨s1.heap.objs.size + 1,[s1.heap.objs.size + 1,s1.heap.objs.size],_,_,H1,rfl,I2,turn_enumT a (s1.heap.objs.size + 1) s1.heap.objs.size (Nat.ne_of_lt (Nat.lt_succ_of_lt hlt)) (Nat.ne_of_lt hlt),⟨⟨.none,he⟩,⟨_,hit,rfl,rfl⟩,Nat.succ_ne_self _⟩,fun b hb=>I1.fpOk (low b hb) (I1.hok.fresh (low b hb)),q⟩
 ·subst ex
  cases r1 with
  | cons r rr =>
   cases rr
   exact lists a _ xs r hq q
def Uu (us:List U) (S:Qa):Res Iter:=match us with
 | [u]=>enumU u S
 | _=>.bad
theorem Yr {p tpos:Pos} {elts:List Expr} {kk:Nat} (hm:X.mg "enumerate" = none) (ha:PDA X Wx [a] As) (hg:Gl X "enumerate" := by rfl) (hs:starEach [a] X.env=[(false,eval a X.env)]:=by rfl) :
  PDI X Wx (.Tuple elts kk tpos) (.Call (.Name "enumerate" p) [a] [] pos) (fun ρ S=>(As ρ S).bind Uu):=by
 obtain⟨ta,pa,da⟩:=ha
 refine⟨_,pi_enumC hg hm pa hs,fun P ι G σ S H ρ Q s e post=>?_⟩
 refine da P ι G σ S H ρ _ s e (post.bind fun us S1 ι1 G1 H1 vs p1 e1 s1 rv post1=>?_)
 match us,rv,post1 with
 | [x],rv,post1 =>
  cases rv with
  | cons r1 rr =>
   cases rr
   match x,r1,post1 with
   | .d (.tup ds),r1,post1 =>
    cases r1 with
    | tup h1 h2=>exact .inl ⟨_,_,false,rfl,Evl.ex_t s1.ex h1,fun J G' hG wk=>post1.ok s1 (gw_enum wk h2 fun P' ι' G2 S' H' p e s _=>hG H' (Evl.ex_t (e.trans s.ex) h1))⟩
   | .d (.lst ds),r1,post1 =>
    cases r1 with
    | lst h1 h2=>exact .inl ⟨_,_,true,rfl,Evl.ex_l s1.ex h1,fun J G' hG wk=>post1.ok s1 (gw_enum wk h2 fun P' ι' G2 S' H' p e s _=>hG H' (Evl.ex_l (e.trans s.ex) h1))⟩
   | .d .non,_,post1=>exact post1.elim
   | .d (.bl _),_,post1=>exact post1.elim
   | .d (.int _),_,post1=>exact post1.elim
   | .d (.str _),_,post1=>exact post1.elim
   | .d (.obj _ _),_,post1=>exact post1.elim
   | .r n,⟨p,hn,hv⟩,post1 =>
    subst hv
    simp only[Uu,enumU] at post1
    split at post1
    ·rename_i us hc
     split at post1
     ·rename_i ds hd
      obtain rfl:=allD_eq hd
      obtain⟨_,vs,h1,h2⟩:=s1.at_ n _ p hc hn
      refine .inr ⟨_,_,rfl,SqL.of h1,post1.ok s1 (gw_enumC fun P' ι' G' S' H' pp e' s' g=>?_)⟩
      obtain⟨_,ys,h3,h4⟩:=s'.at_ n _ p g (Zt pp hn)
      exact⟨ys,h3,h4⟩
     ·exact post1.elim
    ·exact post1.elim
end
end DL
namespace DL
open PySem PySem.Spec PyProof.Rows L2
open He (ga ma)
open Evl (Ex)
open TL (tl)
open Classical in
noncomputable def gFl (g:Option (Nat × List U)) (S:Qa) (x:Fl):Fl:=match g with
 | none=>x
 | some (n,us)=>if S[n]?=some (.lst us) then x else .bad
open Classical in
noncomputable def gRs {α:Type} (g:Option (Nat × List U)) (S:Qa) (x:Res α):Res α:=match g with
 | none=>x
 | some (n,us)=>if S[n]?=some (.lst us) then x else .bad
noncomputable def forU (g:Option (Nat × List U)) (T:U→Env→Qa→Res Env) (B:Env→Qa→Fl):List U→Env→Qa→Fl
 | [],ρ,S=>gFl g S (.nx ρ S)
 | u :: r,ρ,S=>gFl g S ((T u ρ S).fl ρ fun ρ1 S1=>match B ρ1 S1 with
  | .nx ρ2 S2=>forU g T B r ρ2 S2
  | .ct ρ2 S2=>forU g T B r ρ2 S2
  | .bk ρ2 S2=>.nx ρ2 S2
  | f=>f)
section
variable {X:Cx} {Wx:WX} {P:Hp} {pos:Pos}
theorem gFl_post {K:PySem.W.Frag} {ι:List Addr} {G:Hp} {E:Ends} {g:Option (Nat × List U)} {S:Qa} {x:Fl} (h:Jj K Wx P ι G E (gFl g S x)):gOk S g∧Jj K Wx P ι G E x:=by
 unfold gFl at h
 split at h
 ·exact⟨trivial,h⟩
 ·split at h
  ·rename_i hc
   exact⟨hc,h⟩
  ·exact h.elim
theorem forU_ok {g:Option (Nat × List U)} {T:U→Env→Qa→Res Env} {B:Env→Qa→Fl} {us:List U} {ρ:Env} {S:Qa} {K:PySem.W.Frag} {ι:List Addr} {G:Hp} {E:Ends} (h:Jj K Wx P ι G E (forU g T B us ρ S)):gOk S g:=by
 cases us with
 | nil=>unfold forU at h; exact (gFl_post h).1
 | cons u r=>unfold forU at h; exact (gFl_post h).1
theorem Jp {tg iter:Expr} {body:List Stmt} {I:Env→Qa→Res Iter} {sl:List Nat} {T:U→Env→Qa→Res Env} {B:Env→Qa→Fl} (hp:PassesOwn (model X.prog X.w) X.A X.env X.xe) (hc:X.calm=true) (hi:PDI X Wx tg iter I) (hg:PDG X Wx tg sl T) (hb:PDSs X Wx body B)
  (hs:∀ x,foldedSetIterable iter X.env x=pure x:=by intro _; rfl):PDS X Wx (.For tg iter body [] pos) (fun ρ S=>(I ρ S).fl ρ fun it S=>forU it.g T B it.us ρ S):=by
 obtain⟨w,pi,di⟩:=hi
 obtain⟨g,pg,dg⟩:=hg
 obtain⟨tb,pb,db⟩:=hb
 refine⟨_,ps_for hp hc pi pg pb hs,fun P ι G σ S H ρ E s e post=>?_⟩
 refine di P ι G σ S H ρ _ s e (Post.fl e post fun it S1 ι1 G1 H1 J p1 e1 s1 gw r1 post1=>?_)
 obtain⟨Gd,Y,wk,hG,hY⟩:=gw
 refine for_it wk (fun i σ' H'=>∃ ι' G' S' ρ',ι1 <+: ι'∧Ex G1 G'∧Sr X.K P ι' G' S' H'∧RelE X.K ι' G' σ' ρ'∧Jj X.K Wx P ι' G' E (forU it.g T B (it.us.drop i) ρ' S')) ?_ ?_ ?_ ?_
 ·exact⟨ι1,G1,S1,ρ,List.prefix_refl _,Ex.refl _,s1,r1,post1⟩
 ·rintro i σ' H' _ ⟨ι',G',S',ρ',p,e,s',r',post'⟩
  exact hG P ι' G' S' H' p e s' (forU_ok post')
 ·rintro i x σ' H' H'' hi ⟨ι',G',S',ρ',p,e,s',r',post'⟩ y
  obtain⟨G2,u,e2,s2,hu,ru⟩:=hY i H' x H'' hi y P ι' G' S' p e s' (forU_ok post')
  obtain⟨hl,hu'⟩:=List.getElem?_eq_some_iff.mp hu
  rw[List.drop_eq_getElem_cons hl,hu'] at post'
  unfold forU at post'
  have post2:=Jj.up (List.prefix_refl _) e2 (gFl_post post').2
  have r2:=r'.up (List.prefix_refl _) e2
  refine dg P ι' G2 σ' S' H'' ρ' x u _ s2 r2 ru (tg_fl r2 post2 fun ρ3 S3 ι3 G3 H3 σ3 p3 e3 s3 r3 post3=>?_)
  refine db P ι3 G3 σ3 S3 H3 ρ3 _ s3 r3 ?_
  have pp:=p.trans p3
  have ee:=(e.trans e2).trans e3
  generalize B ρ3 S3=f at post3
  cases f with
  | nx ρ4 S4=>exact fun ι5 G5 σ5 H5 p5 e5 s5 r5=>⟨ι5,G5,S4,ρ4,pp.trans p5,ee.trans e5,s5,r5,Jj.up p5 e5 post3⟩
  | ct ρ4 S4=>exact fun ι5 G5 σ5 H5 p5 e5 s5 r5=>⟨ι5,G5,S4,ρ4,pp.trans p5,ee.trans e5,s5,r5,Jj.up p5 e5 post3⟩
  | bk ρ4 S4=>exact post3
  | rt _ _=>exact post3
  | err _ _ _ _=>exact post3
  | bad=>exact post3
 ·rintro σ' H' ⟨ι',G',S',ρ',p,e,s',r',post'⟩
  rw[List.drop_length] at post'
  unfold forU at post'
  exact (gFl_post post').2 ι' G' σ' H' (List.prefix_refl _) (Ex.refl _) s' r'
def Yn (ρ:Env):List Nat→Env
 | []=>ρ
 | v :: vs=>(Yn ρ vs).set v none
theorem wipe_rel {K:PySem.W.Frag} {ι:List Addr} {G:Hp} {σ:L2.St} {ρ:Env} (h:RelE K ι G σ ρ):∀ vs:List Nat,RelE K ι G (wipe σ vs) (Yn ρ vs)
 | []=>h
 | v :: vs=>Jy (show RO K ι G none none from trivial) v (wipe_rel h vs)
theorem wipe_at (σ:L2.St):∀ (vs:List Nat) (i:Nat),(wipe σ vs)[i]?=if i∈vs then (if i < σ.length then some none else none) else σ[i]?
 | [],i=>by simp [wipe]
 | v :: vs,i=>by
  show ((wipe σ vs).set v none)[i]?=_
  by_cases h:i=v
  ·subst h
   rw[if_pos List.mem_cons_self]
   by_cases hl:i < σ.length
   ·rw[if_pos hl,List.getElem?_set_self (by rw[wipe_length]; exact hl)]
   ·rw[if_neg hl,List.getElem?_eq_none (by rw[List.length_set,wipe_length]; omega)]
  ·rw[List.getElem?_set_ne (Ne.symm h),wipe_at σ vs i]
   by_cases hm:i∈vs
   ·rw[if_pos hm,if_pos (List.mem_cons_of_mem _ hm)]
   ·rw[if_neg hm,if_neg (by intro z; rcases List.mem_cons.mp z with z | z; exact h z; exact hm z)]
theorem wipe_eq {σ σ':L2.St} {vs sl:List Nat} (hs:∀ i∈sl,i∈vs) (hl:σ'.length=σ.length) (h:∀ i,i ∉ sl→σ'[i]?=(wipe σ vs)[i]?):wipe σ' vs=wipe σ vs:=by
 apply List.ext_getElem?
 intro i
 rw[wipe_at]
 by_cases hm:i∈vs
 ·rw[if_pos hm,wipe_at,if_pos hm,hl]
 ·rw[if_neg hm,h i fun z=>hm (hs i z)]
/-- the readings,by what is computed -/
def tOf {α β:Type} (R:Rel α β) (K:PySem.W.Frag) (Wx:WX) (F:Env→Qa→Res α):L2.St→Hp→(β→Hp→Prop)→Prop:=fun σ H Q=>∃ P ι G S ρ,Sr K P ι G S H∧RelE K ι G σ ρ∧Post R K Wx P ι G σ Q (F ρ S)
def gOf (K:PySem.W.Frag) (Wx:WX) (sl:List Nat) (T:U→Env→Qa→Res Env):TG:=fun v σ H Q=>∃ P ι G S ρ u,Sr K P ι G S H∧RelE K ι G σ ρ∧RU K ι G v u∧Post (RT K sl σ) K Wx P ι G σ Q (T u ρ S)
theorem PD.pe {e:Expr} {F:Env→Qa→Res U} (h:PD X Wx e F):PE X e (tOf (RU X.K) X.K Wx F):=by
 obtain⟨t,p,d⟩:=h
 exact⟨fun pins s σ H Q I ⟨P,ι,G,S,ρ,h1,h2,h3⟩=>p.run pins s σ H Q I (d P ι G σ S H ρ Q h1 h2 h3)⟩
theorem PDT.pt {e:Expr} {F:Env→Qa→Res Bool} (h:PDT X Wx e F):PT X e (tOf RB X.K Wx F):=by
 obtain⟨t,p,d⟩:=h
 exact⟨fun pins s σ H Q I ⟨P,ι,G,S,ρ,h1,h2,h3⟩=>p.run pins s σ H Q I (d P ι G σ S H ρ Q h1 h2 h3)⟩
theorem PDG.pg {e:Expr} {sl:List Nat} {T:U→Env→Qa→Res Env} (h:PDG X Wx e sl T):PG X e (gOf X.K Wx sl T):=by
 obtain⟨t,p,d⟩:=h
 exact⟨fun pins s σ H v u Q I r ⟨P,ι,G,S,ρ,u',h1,h2,h3,h4⟩=>p.run pins s σ H v u Q I r (d P ι G σ S H ρ v u' Q h1 h2 h3 h4)⟩
/-- tests of a comprehension -/
def PDTs (X:Cx) (Wx:WX) (ifs:List Expr) (F:Env→Qa→Res Bool):Prop:=∃ t,PTs X ifs t∧DG RB X.K Wx t F
theorem J8:PDTs X Wx [] (fun _ S=>.ok true S):=⟨_,pts_nil,fun P ι G σ S H ρ Q s _ post=>post.ok s rfl⟩
theorem pdts_one {c:Expr} {F:Env→Qa→Res Bool} (h:PDT X Wx c F):PDTs X Wx [c] F:=by
 obtain⟨t,p,d⟩:=h
 exact⟨_,pts_one p,d⟩
theorem PDTs.pts {es:List Expr} {F:Env→Qa→Res Bool} (h:PDTs X Wx es F):PTs X es (tOf RB X.K Wx F):=by
 obtain⟨t,p,d⟩:=h
 exact⟨fun pins s σ H Q I ⟨P,ι,G,S,ρ,h1,h2,h3⟩=>p.run pins s σ H Q I (d P ι G σ S H ρ Q h1 h2 h3)⟩
/-- an error cannot leave a comprehension -/
def Res.ne {α:Type} : Res α→Res α
 | .err _ _ _=>.bad
 | r=>r
noncomputable def lcU (g:Option (Nat × List U)) (T:U→Env→Qa→Res Env) (C:Env→Qa→Res Bool) (El:Env→Qa→Res U) (ρ:Env):List U→List U→Qa→Res (List U)
 | [],acc,S=>gRs g S (.ok acc S)
 | u :: r,acc,S=>gRs g S ((T u ρ S).ne.bind fun ρ1 S=>(C ρ1 S).ne.bind fun k S=>if k=true then (El ρ1 S).ne.bind fun y S=>if acc.length < sizeLine then lcU g T C El ρ r (acc++[y]) S else .bad else lcU g T C El ρ r acc S)
theorem lcU_ok {α β:Type} {R:Rel α β} {g:Option (Nat × List U)} {T:U→Env→Qa→Res Env} {C:Env→Qa→Res Bool} {El:Env→Qa→Res U} {us acc:List U} {ρ:Env} {S:Qa} {K:PySem.W.Frag} {ι:List Addr} {G:Hp} {σ:L2.St} {Q:β→Hp→Prop} {k:List U→Qa→Res α}
  (h:Post R K Wx P ι G σ Q ((lcU g T C El ρ us acc S).bind k)):gOk S g:=by
 cases us with
 | nil =>
  unfold lcU at h
  cases g with
  | none=>trivial
  | some p =>
   unfold gRs at h
   simp only at h
   split at h
   ·rename_i hc; exact hc
   ·exact h.elim
 | cons u r =>
  unfold lcU at h
  cases g with
  | none=>trivial
  | some p =>
   unfold gRs at h
   simp only at h
   split at h
   ·rename_i hc; exact hc
   ·exact h.elim
theorem gRs_bind {α γ δ:Type} {R:Rel γ δ} {K:PySem.W.Frag} {ι:List Addr} {G:Hp} {σ:L2.St} {Q:δ→Hp→Prop} {g:Option (Nat × List U)} {S:Qa} {x:Res α} {k:α→Qa→Res γ} (h:Post R K Wx P ι G σ Q ((gRs g S x).bind k)):Post R K Wx P ι G σ Q (x.bind k):=by
 cases g with
 | none=>exact h
 | some p =>
  unfold gRs at h
  simp only at h
  split at h
  ·exact h
  ·exact h.elim
def Wbot:WX:=fun _ _ _ _=>False
theorem Vs {α β γ:Type} (r:Res α) (k:α→Qa→Res β) (l:β→Qa→Res γ):(r.bind k).bind l=r.bind fun a S=>(k a S).bind l:=by cases r<;>rfl
theorem Post.ne {α β γ δ:Type} {R:Rel α β} {R2:Rel γ δ} {K:PySem.W.Frag} {Wx':WX} {P':Hp} {ι:List Addr} {G:Hp} {σ σ':L2.St} {Q:β→Hp→Prop} {Q2:δ→Hp→Prop} {r:Res α} {k:α→Qa→Res γ} (h:Post R2 K Wx P ι G σ Q2 (r.ne.bind k))
  (f:∀ a S' ι' G' H' v,ι <+: ι'→Ex G G'→Sr K P' ι' G' S' H'→R ι' G' v a→Post R2 K Wx P ι' G' σ Q2 (k a S')→Q v H'):Post R K Wx' P' ι G σ' Q r:=by
 cases r with
 | ok a S'=>exact fun ι1 G1 H1 v p1 e1 s r=>f a S' ι1 G1 H1 v p1 e1 s r (Post.up p1 e1 h)
 | err c fs S'=>exact h.elim
 | bad=>exact h
/-- a comprehension: what its new list holds,then k -/
theorem lc_post {K:PySem.W.Frag} {R:Rel U V} {J:It} {it:Iter} {sl vs:List Nat} {T:U→Env→Qa→Res Env} {C:Env→Qa→Res Bool} {El:Env→Qa→Res U} {k:List U→Qa→Res U} {ι:List Addr} {G H1:Hp} {σ:L2.St} {ρ:Env} {S:Qa} {Q:VK} {Dd:Addr}
  (hsl:∀ i∈sl,i∈vs) (gw:GW K ι G J it) (s:Sr K P ι G S H1) (e:RelE K ι G σ ρ) (hD:H1 Dd=none)
  (post:Post R K Wx P ι G σ Q ((lcU it.g T C El (Yn ρ vs) it.us [] S).bind k))
  (fin:∀ ι' G' H' S' xs us,ι <+: ι'→Ex G G'→Sr K (upd P Dd (.lst xs)) ι' G' S' H'→RUs K ι' G' xs us→Post R K Wx P ι' G' σ Q (k us S')→Q (.ref Dd) H') :
  ∃ W:Nat→Nat→Hp→Prop,(∃ m,W 0 m (upd H1 Dd (.lst [])))∧∀ i m H,W i m H →
   (J.stop i H∧Q (.ref Dd) H)∨(J.go i H∧∃ Nx:Hp→Prop,(∀ H',Nx H'→∃ m',m' < m∧W (i + 1) m' H')∧∀ x H',J.yld i H x H'→gOf K Wbot sl T x (wipe σ vs) H' fun σ2 H2=>wipe σ2 vs=wipe σ vs∧tOf RB K Wbot C σ2 H2 fun b H3 =>
    if b=true then tOf (RU K) K Wbot El σ2 H3 fun y H4=>∃ acc,H4 Dd=some (.lst acc)∧acc.length < sizeLine∧Nx (upd H4 Dd (.lst (acc++[y]))) else Nx H3):=by
 obtain⟨Gd,Y,wk,hG,hY⟩:=gw
 have hPD:P Dd=none:=s.noPin hD
 refine lc_it wk (fun i H=>∃ ι' G' S' xs us,ι <+: ι'∧Ex G G'∧Sr K (upd P Dd (.lst xs)) ι' G' S' H∧RUs K ι' G' xs us∧Post R K Wx P ι' G' σ Q ((lcU it.g T C El (Yn ρ vs) (it.us.drop i) us S').bind k)) ?_ ?_ ?_ ?_
 ·exact⟨ι,G,S,[],[],List.prefix_refl _,Ex.refl _,(s.tmp hD).pinned upd_same (s.fresh hD).1 (s.fresh hD).2,.nil,post⟩
 ·rintro i H _ ⟨ι',G',S',xs,us,p,e',s',r',post'⟩
  exact hG _ ι' G' S' H p e' s' (lcU_ok post')
 ·rintro i x H H' hi ⟨ι',G',S',xs,us,p,e',s',r',post'⟩ y
  obtain⟨G2,u,e2,s2,hu,ru⟩:=hY i H x H' hi y _ ι' G' S' p e' s' (lcU_ok post')
  obtain⟨hl,hu'⟩:=List.getElem?_eq_some_iff.mp hu
  rw[List.drop_eq_getElem_cons hl,hu'] at post'
  unfold lcU at post'
  have post2:=Post.up (List.prefix_refl _) e2 (gRs_bind post')
  have r2:=(wipe_rel (e.up p e') vs).up (List.prefix_refl _) e2
  rw[Vs] at post2
  refine⟨_,ι',G2,S',Yn ρ vs,u,s2,r2,ru,Post.ne post2 fun ρ3 S3 ι3 G3 H3 σ3 p3 e3 s3 rt post3=>⟨wipe_eq hsl (by rw[rt.2.1,wipe_length]) rt.2.2,?_⟩⟩
  rw[Vs] at post3
  refine⟨_,ι3,G3,S3,ρ3,s3,rt.1,Post.ne post3 fun b S4 ι4 G4 H4 b' p4 e4 s4 rb post4=>?_⟩
  cases rb
  cases b with
  | false =>
   rw[if_neg Bool.false_ne_true] at post4 ⊢
   exact⟨ι4,G4,S4,xs,us,(p.trans p3).trans p4,((e'.trans e2).trans e3).trans e4,s4,RUs.up (p3.trans p4) ((e2.trans e3).trans e4) r',post4⟩
  | true =>
   rw[if_pos rfl] at post4 ⊢
   rw[Vs] at post4
   refine⟨_,ι4,G4,S4,ρ3,s4,rt.1.up p4 e4,Post.ne post4 fun y S5 ι5 G5 H5 v p5 e5 s5 rv post5=>?_⟩
   have hD5:=(s5.pin Dd _ upd_same).1
   split at post5
   ·rename_i hlen
    have r5:RUs K ι5 G5 xs us:=RUs.up ((p3.trans p4).trans p5) (((e2.trans e3).trans e4).trans e5) r'
    refine⟨xs,hD5,by rw[Qm r5]; exact hlen,?_⟩
    refine⟨ι5,G5,S5,xs++[v],us++[y],((p.trans p3).trans p4).trans p5,(((e'.trans e2).trans e3).trans e4).trans e5,?_,Jz r5 (.cons rv .nil),post5⟩
    have:=s5.repin (o:=.lst (xs++[v])) upd_same
    rwa [upd_upd] at this
   ·exact post5.elim
 ·rintro H ⟨ι',G',S',xs,us,p,e',s',r',post'⟩
  rw[List.drop_length] at post'
  unfold lcU at post'
  have post2:=gRs_bind post'
  exact fin ι' G' H S' xs us p e' s' r' post2
theorem Sr.ownPin {K:PySem.W.Frag} {ι:List Addr} {G H:Hp} {S:Qa} {p:Addr} {o:HO} (s:Sr K (upd P p o) ι G S H) (hP:P p=none) (hz:∀ ob u,o ≠ .frz ob u:=by intro _ _ h; cases h):Sr K P ι (upd G p o) S H∧Ex G (upd G p o):=by
 obtain⟨h1,h2,h3⟩:=s.pin p o upd_same
 exact⟨(s.unpin hz hP).own h1 h2 (h3.ne hz) hP,Ex.new h2⟩
variable {elt tg iter:Expr} {ifs:List Expr} {scope:Scope} {own:List (Str × Nat)} {I:Env→Qa→Res Iter} {sl:List Nat} {T:U→Env→Qa→Res Env} {C:Env→Qa→Res Bool} {El:Env→Qa→Res U}
theorem lc_end {ι:List Addr} {G H1:Hp} {σ:L2.St} {S:Qa} {Q:VK} {Dd:Addr} {xs:List V} {us:List U} (hP:P Dd=none) (s:Sr X.K (upd P Dd (.lst xs)) ι G S H1) (r:RUs X.K ι G xs us) (post:Post (RU X.K) X.K Wx P ι G σ Q (mkL us S)):Q (.ref Dd) H1:=by
 unfold mkL at post
 split at post
 ·rename_i ds hd
  split at post
  ·obtain⟨s',e'⟩:=s.ownPin hP
   exact post ι _ H1 (.ref Dd) (List.prefix_refl _) e' s' (.lst (SqL.of upd_same) ((r.all hd).ex e'))
  ·exact post.elim
 ·exact post.elim
/-- [e for x in ..],a list that never changes -/
theorem pd_lc (hc:X.calm=true) (hN:X.N.Nodup) (hi:PDI X Wx tg iter I) (ok:BlkOk X.N X.env.scope scope own) (hsl:∀ i∈sl,i∈own.map (·.2))
  (hg:∀ (s:Shared) (H:Hp) (C:Addr) (cl:List (Str × Addr)) (fp:List Addr),PDG (X.blk s H scope (compEnvC scope cl C X.env) fp) Wbot tg sl T) (ht:∀ (s:Shared) (H:Hp) (Ca:Addr) (cl:List (Str × Addr)) (fp:List Addr),PDTs (X.blk s H scope (compEnvC scope cl Ca X.env) fp) Wbot ifs C)
  (he:∀ (s:Shared) (H:Hp) (C:Addr) (cl:List (Str × Addr)) (fp:List Addr),PD (X.blk s H scope (compEnvC scope cl C X.env) fp) Wbot elt El) (hs:∀ x,foldedSetIterable iter X.env x=pure x:=by intro _; rfl) :
  PD X Wx (.ListComp elt [⟨tg,iter,ifs,0⟩] scope pos) (fun ρ S=>(I ρ S).bind fun it S=>(lcU it.g T C El (Yn ρ (own.map (·.2))) it.us [] S).bind mkL):=by
 obtain⟨w,pi,di⟩:=hi
 refine⟨_,pe_lc (te:=tOf (RU X.K) X.K Wbot El) (tt:=tOf RB X.K Wbot C) (g:=gOf X.K Wbot sl T) hc hN pi ok (fun s H C cl fp=>(hg s H C cl fp).pg) (fun s H C cl fp=>(ht s H C cl fp).pts) (fun s H C cl fp=>(he s H C cl fp).pe) hs,fun P ι G σ S H ρ Q s e post=>?_⟩
 refine di P ι G σ S H ρ _ s e (post.bind fun it S1 ι1 G1 H1 J p1 e1 s1 gw post1=>fun Dd hD=>?_)
 exact lc_post hsl gw s1 (e.up p1 e1) hD post1 fun ι2 G2 H2 S2 xs us p2 e2 s2 r2 post2=>lc_end (s1.noPin hD) s2 r2 post2
/-- name=[e for x in ..] -/
theorem Z8 {i:Nat} {y:Str} {py spos:Pos} (hc:X.calm=true) (hN:X.N.Nodup) (hy:X.N[i]?=some y) (hyl:X.env.scope.names.lookup y=some .local)
  (hsw:swapsWith (.ListComp elt [⟨tg,iter,ifs,0⟩] scope pos) (some (.Name y py)) spos.line X.env=pure true) (hi:PDI X Wx tg iter I) (ok:BlkOk X.N X.env.scope scope own) (hsl:∀ i∈sl,i∈own.map (·.2))
  (hg:∀ (s:Shared) (H:Hp) (C:Addr) (cl:List (Str × Addr)) (fp:List Addr),PDG (X.blk s H scope (compEnvC scope cl C X.env) fp) Wbot tg sl T) (ht:∀ (s:Shared) (H:Hp) (Ca:Addr) (cl:List (Str × Addr)) (fp:List Addr),PDTs (X.blk s H scope (compEnvC scope cl Ca X.env) fp) Wbot ifs C)
  (he:∀ (s:Shared) (H:Hp) (C:Addr) (cl:List (Str × Addr)) (fp:List Addr),PD (X.blk s H scope (compEnvC scope cl C X.env) fp) Wbot elt El) (hs:∀ x,foldedSetIterable iter X.env x=pure x:=by intro _; rfl) :
  PDS X Wx (.Assign [.Name y py] (.ListComp elt [⟨tg,iter,ifs,0⟩] scope pos) spos) (fun ρ S=>((I ρ S).bind fun it S=>(lcU it.g T C El (Yn ρ (own.map (·.2))) it.us [] S).bind mkL).fl ρ fun u S=>.nx (ρ.set i (some u)) S):=by
 obtain⟨w,pi,di⟩:=hi
 refine⟨_,ps_setLc (te:=tOf (RU X.K) X.K Wbot El) (tt:=tOf RB X.K Wbot C) (g:=gOf X.K Wbot sl T) hc hN hy hyl hsw pi ok (fun s H C cl fp=>(hg s H C cl fp).pg) (fun s H C cl fp=>(ht s H C cl fp).pts) (fun s H C cl fp=>(he s H C cl fp).pe) hs,fun P ι G σ S H ρ E s e post=>?_⟩
 have post0:Post (RU X.K) X.K Wx P ι G σ (fun v H'=>E.nx (σ.set i (some v)) H') ((I ρ S).bind fun it S=>(lcU it.g T C El (Yn ρ (own.map (·.2))) it.us [] S).bind mkL) :=
  Post.fl e post fun u S1 ι1 G1 H1 v p1 e1 s1 rv r1 post1=>post1 ι1 G1 _ H1 (List.prefix_refl _) (Ex.refl _) s1 (Jy (show RO X.K ι1 G1 (some v) (some u) from rv) i r1)
 refine di P ι G σ S H ρ _ s e (post0.bind fun it S1 ι1 G1 H1 J p1 e1 s1 gw post1=>fun Dd hD=>?_)
 exact lc_post (Q:=fun v H'=>E.nx (σ.set i (some v)) H') hsl gw s1 (e.up p1 e1) hD post1 fun ι2 G2 H2 S2 xs us p2 e2 s2 r2 post2=>lc_end (s1.noPin hD) s2 r2 post2
def allF:List (Str × U)→Option (List (Str × D))
 | []=>some []
 | (f,.d x) :: t=>(allF t).map ((f,x) :: ·)
 | (_,.r _) :: _=>none
def frzN (n:Nat) (S:Qa):Qa:=match S[n]? with
 | some (.lst us)=>match allD us with
  | some ds=>S.set n (.frz (.lst ds))
  | none=>S
 | some (.obj c fs)=>match allF fs with
  | some gs=>S.set n (.frz (.obj c gs))
  | none=>S
 | _=>S
def frzV (ρ:Env) (i:Nat) (S:Qa):Qa:=match ρ[i]? with
 | some (some (.r n))=>frzN n S
 | _=>S
theorem RUf.all {K:PySem.W.Frag} {ι:List Addr} {G:Hp} : ∀ {vs:List (Str × V)} {us:List (Str × U)} {ds:List (Str × D)},RUf K ι G vs us→allF us=some ds→RvF K G vs ds
 | _,[],ds,h,e=>by cases h; cases e; exact .nil
 | _,(f,.d x) :: t,ds,h,e=>by
  cases e1:allF t with
  | none=>simp [allF,e1] at e
  | some l =>
   simp [allF,e1] at e
   subst e
   cases h with
   | cons a b =>
    rename_i p l'
    obtain⟨pf,pv⟩:=p
    obtain⟨rfl,r⟩:=a
    exact .cons r (RUf.all b e1)
 | _,(_,.r _) :: _,ds,h,e=>by cases e
theorem frzN_ok {K:PySem.W.Frag} {ι:List Addr} {G H:Hp} {S:Qa} {n:Nat} (s:Sr K P ι G S H):∃ G',Ex G G'∧Sr K P ι G' (frzN n S) H:=by
 unfold frzN
 split
 ·rename_i us hc
  split
  ·rename_i ds hd
   obtain⟨a,ha,h0,vs,h1,h2⟩:=s.here hc
   exact⟨_,Ex.new h0,s.frz hc ha h0 h1 (.lst (SqL.of upd_same) ((RUs.all h2 hd).ex (Ex.new h0)))⟩
  ·exact⟨G,Ex.refl _,s⟩
 ·rename_i c fs hc
  split
  ·rename_i gs hd
   obtain⟨a,ha,h0,dx,vs,h1,h2⟩:=s.here hc
   exact⟨_,Ex.new h0,s.frz hc ha h0 h1 (.obj upd_same ((RUf.all h2 hd).ex (Ex.new h0)))⟩
  ·exact⟨G,Ex.refl _,s⟩
 ·exact⟨G,Ex.refl _,s⟩
theorem frzV_ok {K:PySem.W.Frag} {ι:List Addr} {G H:Hp} {S:Qa} {ρ:Env} {i:Nat} (s:Sr K P ι G S H):∃ G',Ex G G'∧Sr K P ι G' (frzV ρ i S) H:=by
 unfold frzV
 split
 ·exact frzN_ok s
 ·exact⟨G,Ex.refl _,s⟩
/-- ahead of the rest of a block a name's list is frozen -/
theorem Zw {sts:List Stmt} {B:Env→Qa→Fl} (i:Nat) (h:PDSs X Wx sts B):PDSs X Wx sts (fun ρ S=>B ρ (frzV ρ i S)):=by
 obtain⟨t,p,d⟩:=h
 refine⟨t,p,fun P ι G σ S H ρ E s e post=>?_⟩
 obtain⟨G',e',s'⟩:=frzV_ok (ρ:=ρ) (i:=i) s
 exact d P ι G' σ _ H ρ E s' (e.up (List.prefix_refl _) e') (Jj.up (List.prefix_refl _) e' post)
end
end DL
namespace DL
open PySem PySem.Spec PyProof.Rows L2
open He (ga ma)
open Evl (Ex)
open TL (tl)
abbrev Fn:=List U→Qa→Res U
def spD (K:PySem.W.Frag) (n:Nat) (fF:Fn):Sp:=fun vs H Q E=>vs.length=n∧∃ P ι G S us,Sr K P ι G S H∧RUs K ι G vs us∧Post (RU K) K (fun c d _ H=>E c d H) P ι G [] Q (fF us S)
/-- the def at f computes fF -/
def FD (P:Program) (w:World) (K:PySem.W.Frag) (mg:Str→Option Value) (base:Heap) (k:Nat) (f:Addr) (ps:List Str) (fF:Fn):Prop :=
 (∀ us S,us.length ≠ ps.length→fF us S=.bad)∧∃ fd,FnG P w K mg base (L2.CX P w) k f fd ps (spD K ps.length fF)∧Binds K fd ps []∧PySem.W.keepIn K (.ref f)=true
/-- the def of the module named x computes fF -/
def FM (P:Program) (w:World) (K:PySem.W.Frag) (mg:Str→Option Value) (base:Heap) (k:Nat) (x:Str) (ps:List Str) (fF:Fn):Prop:=FD P w K mg base k (ga K x) ps fF∧mg x=some (.ref (ga K x))
def F0 (f:Qa→Res U):Fn:=fun us S=>match us with | []=>f S | _=>.bad
def F1 (f:U→Qa→Res U):Fn:=fun us S=>match us with | [a]=>f a S | _=>.bad
def F2 (f:U→U→Qa→Res U):Fn:=fun us S=>match us with | [a,b]=>f a b S | _=>.bad
def F3 (f:U→U→U→Qa→Res U):Fn:=fun us S=>match us with | [a,b,c]=>f a b c S | _=>.bad
def F4 (f:U→U→U→U→Qa→Res U):Fn:=fun us S=>match us with | [a,b,c,d]=>f a b c d S | _=>.bad
def F5 (f:U→U→U→U→U→Qa→Res U):Fn:=fun us S=>match us with | [a,b,c,d,e]=>f a b c d e S | _=>.bad
def F6 (f:U→U→U→U→U→U→Qa→Res U):Fn:=fun us S=>match us with | [a,b,c,d,e,g]=>f a b c d e g S | _=>.bad
theorem F0.len {f} (us:List U) (S:Qa) (h:us.length ≠ 0):F0 f us S=.bad:=by match us,h with | [],h=>exact absurd rfl h | _ :: _,_=>rfl
theorem F1.len {f} (us:List U) (S:Qa) (h:us.length ≠ 1):F1 f us S=.bad:=by match us,h with | [],h=>rfl | [_],h=>exact absurd rfl h | _ :: _ :: _,_=>rfl
theorem F2.len {f} (us:List U) (S:Qa) (h:us.length ≠ 2):F2 f us S=.bad:=by match us,h with | [],h=>rfl | [_],h=>rfl | [_,_],h=>exact absurd rfl h | _ :: _ :: _ :: _,_=>rfl
theorem F3.len {f} (us:List U) (S:Qa) (h:us.length ≠ 3):F3 f us S=.bad:=by match us,h with | [],h=>rfl | [_],h=>rfl | [_,_],h=>rfl | [_,_,_],h=>exact absurd rfl h | _ :: _ :: _ :: _ :: _,_=>rfl
theorem F4.len {f} (us:List U) (S:Qa) (h:us.length ≠ 4):F4 f us S=.bad:=by match us,h with | [],h=>rfl | [_],h=>rfl | [_,_],h=>rfl | [_,_,_],h=>rfl | [_,_,_,_],h=>exact absurd rfl h | _ :: _ :: _ :: _ :: _ :: _,_=>rfl
theorem F5.len {f} (us:List U) (S:Qa) (h:us.length ≠ 5):F5 f us S=.bad:=by match us,h with | [],h=>rfl | [_],h=>rfl | [_,_],h=>rfl | [_,_,_],h=>rfl | [_,_,_,_],h=>rfl | [_,_,_,_,_],h=>exact absurd rfl h | _ :: _ :: _ :: _ :: _ :: _ :: _,_=>rfl
theorem F6.len {f} (us:List U) (S:Qa) (h:us.length ≠ 6):F6 f us S=.bad:=by match us,h with | [],h=>rfl | [_],h=>rfl | [_,_],h=>rfl | [_,_,_],h=>rfl | [_,_,_,_],h=>rfl | [_,_,_,_,_],h=>rfl | [_,_,_,_,_,_],h=>exact absurd rfl h | _ :: _ :: _ :: _ :: _ :: _ :: _ :: _,_=>rfl
def Jc:Fl→Res U
 | .nx _ S=>.ok (.d .non) S
 | .rt u S=>.ok u S
 | .err c fs _ S=>.err c fs S
 | _=>.bad
def Q3 (n:Nat) (us:List U):Env:=us.map some++List.replicate (n - us.length) none
theorem start_rel {K:PySem.W.Frag} {ι:List Addr} {G:Hp} {vs:List V} {us:List U} {N:List Str} (r:RUs K ι G vs us):RelE K ι G (L2.start N vs) (Q3 N.length us):=by
 unfold L2.start Q3
 rw[Qm r]
 refine Jz ?_ ?_
 ·induction r with
  | nil=>exact .nil
  | cons h _ ih=>exact .cons h ih
 ·generalize N.length - us.length=m
  induction m with
  | zero=>exact .nil
  | succ m ih=>exact .cons (show RO K ι G none none from trivial) ih
def U.below (m:Nat):U→Prop
 | .d _=>True
 | .r n=>n < m
def Cell.below (m:Nat):Cell→Prop
 | .lst us=>∀ u∈us,u.below m
 | .obj _ fs=>∀ p∈fs,p.2.below m
 | .frz _=>True
 | .dk kvs=>∀ p∈kvs,p.2.below m
 | .dt _ kvs=>∀ p∈kvs,p.2.2.below m
 | .dkL kvs=>∀ p∈kvs,p.2.below m
 | .dtL _ kvs=>∀ p∈kvs,p.2.2.below m
 | .tp us=>∀ u∈us,u.below m
 | .tab _ _=>True
/-- behind a def only the old cells are kept -/
def Shr (S S2:Qa):Prop:=S2.length=S.length∧∀ (n:Nat) c,S2[n]?=some c→S[n]?=some c∨c.below S.length
inductive Qx (S:Qa):Res U→Res U→Prop
 | bad (r:Res U):Qx S .bad r
 | refl (r:Res U):Qx S r r
 | ok {u:U} {S2:Qa} (g:Qa):Shr S S2→u.below S.length→Qx S (.ok u S2) (.ok u (S2++g))
 | err {c:Str} {fs:List (Str × D)} {S2:Qa} (g:Qa):Shr S S2→Qx S (.err c fs S2) (.err c fs (S2++g))
theorem Shr.refl (S:Qa):Shr S S:=⟨rfl,fun _ _ h=>.inl h⟩
section
variable {K:PySem.W.Frag} {P:Hp} {ι ι':List Addr} {G G' H H':Hp} {S S2 g:Qa} {Wx:WX} {σ:L2.St} {Q:VK}
theorem RU.down {v:V} {u:U} (p:ι <+: ι') (h:RU K ι' G v u) (b:u.below ι.length):RU K ι G v u:=by
 cases u with
 | d x=>exact h
 | r n =>
  obtain⟨a,h1,h2⟩:=h
  obtain⟨t,rfl⟩:=p
  rw[List.getElem?_append_left b] at h1
  exact⟨a,h1,h2⟩
theorem RU.below {v:V} {u:U} (h:RU K ι G v u):u.below ι.length:=by
 cases u with
 | d x=>trivial
 | r n =>
  obtain⟨a,h1,h2⟩:=h
  exact (List.getElem?_eq_some_iff.mp h1).1
theorem Yi {α β:Type} {F:α→β→Prop} : ∀ {l1:List α} {l2:List β},Paired F l1 l2→∀ b∈l2,∃ a,F a b
 | _,_,.nil,b,h=>by cases h
 | _,_,.cons f t,b,h=>by
  rcases List.mem_cons.mp h with rfl | h
  ·exact⟨_,f⟩
  ·exact Yi t b h
theorem Jx {α β:Type} {F F':α→β→Prop} : ∀ {l1:List α} {l2:List β},Paired F l1 l2→(∀ a b,b∈l2→F a b→F' a b)→Paired F' l1 l2
 | _,_,.nil,_=>.nil
 | _,_,.cons f t,h=>.cons (h _ _ List.mem_cons_self f) (Jx t fun a b hb=>h a b (List.mem_cons_of_mem _ hb))
theorem Zi.below {a:Addr} {c:Cell} (h:Zi K ι G H a c):c.below ι.length:=by
 cases c with
 | lst us =>
  obtain⟨_,vs,_,r⟩:=h
  intro u hu
  obtain⟨v,hv⟩:=Yi r u hu
  exact hv.below
 | obj c fs =>
  obtain⟨_,dx,vs,_,r⟩:=h
  intro u hu
  obtain⟨v,hv⟩:=Yi r u hu
  exact hv.2.below
 | frz x=>trivial
 | dk kvs =>
  obtain⟨_,ps,_,r⟩:=h
  intro u hu
  obtain⟨v,hv⟩:=Yi r u hu
  exact hv.2.below
 | dt w kvs =>
  obtain⟨_,ps,_,r⟩:=h
  intro u hu
  obtain⟨v,hv⟩:=Yi r u hu
  exact hv.2.2.2.2.below
 | dkL kvs =>
  obtain⟨_,o,ps,_,r⟩:=h
  intro u hu
  obtain⟨v,hv⟩:=Yi r u hu
  exact hv.2.below
 | dtL w kvs =>
  obtain⟨_,o,ps,_,r⟩:=h
  intro u hu
  obtain⟨v,hv⟩:=Yi r u hu
  exact hv.2.2.2.2.below
 | tp us =>
  obtain⟨_,vs,_,r⟩:=h
  intro u hu
  obtain⟨v,hv⟩:=Yi r u hu
  exact hv.below
 | tab b q=>trivial
theorem Zi.down {a:Addr} {c:Cell} (p:ι <+: ι') (h:Zi K ι' G H a c) (b:c.below ι.length):Zi K ι G H a c:=by
 cases c with
 | lst us =>
  obtain⟨h0,vs,h1,r⟩:=h
  exact⟨h0,vs,h1,Jx r fun v u hu hv=>hv.down p (b u hu)⟩
 | obj c fs =>
  obtain⟨h0,dx,vs,h1,r⟩:=h
  exact⟨h0,dx,vs,h1,Jx r fun v u hu hv=>⟨hv.1,hv.2.down p (b u hu)⟩⟩
 | frz x=>exact h
 | dk kvs =>
  obtain⟨h0,ps,h1,r⟩:=h
  exact⟨h0,ps,h1,Jx r fun v u hu hv=>⟨hv.1,hv.2.down p (b u hu)⟩⟩
 | dt w kvs =>
  obtain⟨h0,ps,h1,r⟩:=h
  exact⟨h0,ps,h1,Jx r fun v u hu hv=>⟨hv.1,hv.2.1,hv.2.2.1,hv.2.2.2.1,hv.2.2.2.2.down p (b u hu)⟩⟩
 | dkL kvs =>
  obtain⟨h0,o,ps,h1,r⟩:=h
  exact⟨h0,o,ps,h1,Jx r fun v u hu hv=>⟨hv.1,hv.2.down p (b u hu)⟩⟩
 | dtL w kvs =>
  obtain⟨h0,o,ps,h1,r⟩:=h
  exact⟨h0,o,ps,h1,Jx r fun v u hu hv=>⟨hv.1,hv.2.1,hv.2.2.1,hv.2.2.2.1,hv.2.2.2.2.down p (b u hu)⟩⟩
 | tp us =>
  obtain⟨h0,vs,h1,r⟩:=h
  exact⟨h0,vs,h1,Jx r fun v u hu hv=>hv.down p (b u hu)⟩
 | tab b' q=>exact h
theorem Sr.shrink (s0:Sr K P ι G S H) (p:ι <+: ι') (s:Sr K P ι' G' (S2++g) H') (sh:Shr S S2):Sr K P ι G' S2 H':=by
 refine⟨s.ex,by rw[s0.len,sh.1],s0.nd,fun n c a h1 h2=>?_,fun n a h=>s.out n a (Zt p h),fun a o h=>?_,fun n c a k1 k2 k3=>?_⟩
 ·have hn:n < S2.length:=(List.getElem?_eq_some_iff.mp h1).1
  have h3:(S2++g)[n]?=some c:=by rw[List.getElem?_append_left hn]; exact h1
  refine Zi.down p (s.at_ n c a h3 (Zt p h2)) ?_
  rcases sh.2 n c h1 with h | h
  ·obtain⟨b,hb,hc⟩:=s0.here h
   exact hc.below
  ·rw[s0.len]; exact h
 ·obtain⟨h1,h2,h3⟩:=s.pin a o h
  refine⟨h1,h2,fun n hn=>?_⟩
  obtain⟨q0,c1,q1,q2⟩:=h3 n (Zt p hn)
  refine⟨q0,c1,?_,q2⟩
  rw[List.getElem?_append_left (by rw[sh.1,← s0.len]; exact (List.getElem?_eq_some_iff.mp hn).1)] at q1
  exact q1
 ·exact s.lk n c a (by rw[List.getElem?_append_left (List.getElem?_eq_some_iff.mp k1).1]; exact k1) k2 (Zt p k3)
theorem Qx.post {r r':Res U} (s0:Sr K P ι G S H) (h:Qx S r r') (post:Post (RU K) K Wx P ι G σ Q r):Post (RU K) K Wx P ι G σ Q r':=by
 cases h with
 | bad=>exact post.elim
 | refl=>exact post
 | ok g sh b=>exact fun ι' G' H' v p e s rv=>post ι G' H' v (List.prefix_refl _) e (s0.shrink p s sh) (rv.down p (by rw[s0.len]; exact b))
 | err g sh=>exact fun ι' G' H' od p e s ea=>post ι G' H' od (List.prefix_refl _) e (s0.shrink p s sh) ea
theorem body_post {E:XK} {f:Fl} (h:Post (RU K) K (fun c d _ H=>E c d H) P ι G [] Q (Jc f)):Jj K (fun c d _ H=>E c d H) P ι G { nx:=fun _ H'=>Q .non H',rt:=Q } f:=by
 cases f with
 | nx ρ S=>exact fun ι' G' σ' H' p e s r=>h ι' G' H' .non p e s .non
 | rt u S=>exact h
 | bk _ _=>exact h.elim
 | ct _ _=>exact h.elim
 | err c fs ρ S=>exact fun ι' G' σ' H' od p e s r ea=>h ι' G' H' od p e s ea
 | bad=>exact h
end
section
variable {P:Program} {w:World} {K:PySem.W.Frag} {mg:Str→Option Value} {base:Heap} {k:Nat} {x qual:Str} {st:Stmt} {f:Addr} {N ps:List Str} {fF:Fn} {B:Env→Qa→Fl}
theorem Vd {X:Cx} {E:XK} {sts:List Stmt} {vs:List V} {H:Hp} {Q:VK} (hK:X.K=K) (hB:PDSs X (fun c d _ H=>E c d H) sts B) (href:∀ us S,us.length=ps.length→Qx S (fF us S) (Jc (B (Q3 N.length us) S))) (h:spD K ps.length fF vs H Q E) :
  ∃ t,PSs X sts t∧t { nx:=fun _ H'=>Q .non H',rt:=Q } (L2.start N vs) H:=by
 subst hK
 obtain⟨t,p,d⟩:=hB
 obtain⟨hl,P',ι,G,S,us,s,r,post⟩:=h
 refine⟨t,p,d P' ι G _ S H _ _ s (start_rel r) (body_post (Qx.post s (href us S ?_) post))⟩
 rw[← Qm r]; exact hl
/-- a def of the module by its body -/
theorem okM (F:FnF K mg x st) (S:FnScope N ps (defScope st)) (hb:Ug x st ps) (hlen:∀ us S,us.length ≠ ps.length→fF us S=.bad)
  (hB:∀ (cdv:Value) (A:Around) (outer:List PySem.Env) (s:Shared) (H:Hp) (E:XK),(A.deeper (envOfC x (defScope st) s.heap.objs.size (ga K x) cdv)).guards=some []→Room k (A.deeper (envOfC x (defScope st) s.heap.objs.size (ga K x) cdv)) →
   PDSs (cxOf (L2.CX P w) P w K mg base N x (defScope st) (ga K x) cdv A outer s H E) (fun c d _ H=>E c d H) (defBody st) B)
  (href:∀ us S,us.length=ps.length→Qx S (fF us S) (Jc (B (Q3 N.length us) S))):FM P w K mg base (k + 1) x ps fF:=by
 obtain⟨fd,F,hm⟩:=F
 have hB':=F.binds hb
 have hP:=F.kp
 obtain⟨oc,od,kV,doc,pm,an,cdv,ct,osl,rfl,lk,hcd⟩:=F.ex
 refine⟨⟨hlen,_,fnG_of lk hcd S (fun vs H Q E h=>h.1) fun A outer s H vs Q E hA hr hsp=>?_,hB',hP⟩,hm⟩
 exact Vd rfl (hB cdv A outer s H E hA hr) href hsp
/-- a method by its body -/
theorem okMt (F:MtF K x qual st f) (S:FnScope N ps (defScope st)) (hb:BindRowQ x qual st ps) (hlen:∀ us S,us.length ≠ ps.length→fF us S=.bad)
  (hB:∀ (cdv:Value) (A:Around) (outer:List PySem.Env) (s:Shared) (H:Hp) (E:XK),(A.deeper (envOfC qual (defScope st) s.heap.objs.size f cdv)).guards=some []→Room k (A.deeper (envOfC qual (defScope st) s.heap.objs.size f cdv)) →
   PDSs (cxOf (L2.CX P w) P w K mg base N qual (defScope st) f cdv A outer s H E) (fun c d _ H=>E c d H) (defBody st) B)
  (href:∀ us S,us.length=ps.length→Qx S (fF us S) (Jc (B (Q3 N.length us) S))):FD P w K mg base (k + 1) f ps fF:=by
 obtain⟨fd,F⟩:=F
 have hB':=F.binds hb
 have hP:=F.kp
 obtain⟨oc,od,kV,doc,pm,an,cdv,ct,osl,rfl,lk,hcd⟩:=F.ex
 refine⟨hlen,_,fnG_of lk hcd S (fun vs H Q E h=>h.1) fun A outer s H vs Q E hA hr hsp=>?_,hB',hP⟩
 exact Vd rfl (hB cdv A outer s H E hA hr) href hsp
/-- a def with defaults by its body -/
theorem okG {params:Arguments} {body:List Stmt} {scope:Scope} {dvs:List V} {kws:List (Str × V)} {fd:FuncData} (F:FunD K x qual params body scope dvs kws f fd) (S:FnScope N ps scope)
  (hB:∀ (cdv:Value) (A:Around) (outer:List PySem.Env) (s:Shared) (H:Hp) (E:XK),(A.deeper (envOfC qual scope s.heap.objs.size f cdv)).guards=some []→Room k (A.deeper (envOfC qual scope s.heap.objs.size f cdv)) →
   PDSs (cxOf (L2.CX P w) P w K mg base N qual scope f cdv A outer s H E) (fun c d _ H=>E c d H) body B)
  (href:∀ us S,us.length=ps.length→Qx S (fF us S) (Jc (B (Q3 N.length us) S))):FnG P w K mg base (L2.CX P w) (k + 1) f fd ps (spD K ps.length fF):=by
 obtain⟨oc,od,dV,kV,doc,pm,an,cdv,ct,osl,rfl,lk,hcd,_,_⟩:=F.ex
 refine fnG_of lk hcd S (fun vs H Q E h=>h.1) fun A outer s H vs Q E hA hr hsp=>?_
 exact Vd rfl (hB cdv A outer s H E hA hr) href hsp
theorem FD.mono {j:Nat} (F:FD P w K mg base j f ps fF) (h:j≤k):FD P w K mg base k f ps fF:=let ⟨l,fd,a,b⟩:=F; ⟨l,fd,a.mono h,b⟩
theorem FM.mono {j:Nat} (F:FM P w K mg base j x ps fF) (h:j≤k):FM P w K mg base k x ps fF:=⟨F.1.mono h,F.2⟩
end
section
variable {X:Cx} {Wx:WX} {k:Nat} {f:Addr} {fd:FuncData} {ps:List Str} {sp:Sp} {dvs:List V} {ds:List Value} {E:L2.St→XK} {x m:Str} {p pos apos:Pos} {e o:Expr} {es:List Expr} {t:TA} {fF:Fn} {A:Env→Qa→Res U} {As:Env→Qa→Res (List U)}
/-- how a caller goes on behind a callee's end: with its value,or with its error -/
def Goes1 (X:Cx) (pins:List (Addr × Obj)) (σ:L2.St) (Q:VK):Result→Shared→Prop
 | .ok (.ret u),s'=>EP X pins σ Q u s'
 | .error e,s'=>X.xe e s'
 | _,_=>False
theorem goes_of {CX:CXT} {pins:List (Addr × Obj)} {σ:L2.St} {H:Hp} {s s':Shared} {Q:VK} {E':XK} {r:Result} (I:Inv X pins σ H s) (hx:PassesAt CX X σ E') (h:CR CX X.stack X.prog X.w H s Q E' r s'):Goes1 X pins σ Q r s' :=
 match r,h with
 | .ok (.ret _),h=>I.after h
 | .error e,h=>hx pins H s e s' I h
theorem wp_goes {pins:List (Addr × Obj)} {σ:L2.St} {s:Shared} {Q:VK} {fv:Value} {us:List Value} {kw:List (Str × Value)} (h:codeAny (model X.prog X.w) X.A (.call fv ⟨us,kw⟩) (Goes1 X pins σ Q) s):wpAny (model X.prog X.w) X.A (call fv us kw) (EP X pins σ Q) X.xe s :=
 wpAny_call (codeAny_mono h fun r _ g=>match r,g with
  | .ok (.ret _),g=>g
  | .error _,g=>g)
theorem run_fnGS {CX:CXT} {pins:List (Addr × Obj)} {σ:L2.St} {H:Hp} {s:Shared} {Q:VK} {us:List Value} {vs:List V} (hA:X.A.guards=some []) (F:FnG X.prog X.w X.K X.mg X.base CX k f fd ps sp) (hr:Room k X.A) (hb:Binds X.K fd ps ds) (hd:Vals dvs ds) (hx:PassesAt CX X σ (E σ))
  (I:Inv X pins σ H s) (r:Vals vs us) (h:sp (vs++dvs) H Q (E σ)):wpAny (model X.prog X.w) X.A (call (.ref f) us) (EP X pins σ Q) X.xe s:=by
 have rr:=Vals.append r hd
 have bb:=hb s us I.kIn (rr.length.symm.trans (F.len _ _ _ _ h))
 exact wp_goes (codeAny_mono (F.run X.A hA _ s H _ _ _ Q (E σ) hr I.env0 bb rr h) fun _ _ g=>goes_of I hx g)
theorem X4 {K:PySem.W.Frag} {P:Hp} {ι:List Addr} {G H:Hp} {S:Qa} {σ:L2.St} {vs:List V} {us:List U} {Q:VK} (hlen:∀ us S,us.length ≠ ps.length→fF us S=.bad) (s:Sr K P ι G S H) (r:RUs K ι G vs us) (post:Post (RU K) K Wx P ι G σ Q (fF us S)):spD K ps.length fF vs H Q (WE Wx σ):=by
 have hl:vs.length=ps.length:=by
  rw[Qm r]
  by_cases h:us.length=ps.length
  ·exact h
  ·rw[hlen us S h] at post; exact post.elim
 refine⟨hl,P,ι,G,S,us,s,r,?_⟩
 generalize fF us S=q at post
 cases q with
 | ok a S'=>exact post
 | err c fs S'=>exact post
 | bad=>exact post
theorem Qp (hA:X.A.guards=some []) (F:FM X.prog X.w X.K X.mg X.base k x ps fF) (hr:Room k X.A) (tk:Takes X Wx) (ha:PDA X Wx (e :: es) As) (hg:Gl X x:=by rfl) (hdb:(x == ("__debug__" : Str))=false:=by decide)
  (he:starEach (e :: es) X.env=(false,eval e X.env) :: starEach es X.env:=by rfl) (hpl:(backTo pos (starEach es X.env)).any (·.1)=false:=by rfl):PD X Wx (.Call (.Name x p) (e :: es) [] pos) (fun ρ S=>(As ρ S).bind fF):=by
 obtain⟨⟨hlen,fd,F,hb,hk⟩,hm⟩:=F
 obtain⟨ta,pa,da⟩:=ha
 refine⟨tCallS (spD X.K ps.length fF) (WE Wx) ta,⟨fun pins s σ H Q I h=>?_⟩,fun P ι G σ S H ρ Q s e post=>?_⟩
 ·refine wpAny_Call_Name_kw (ld_glob I hg hm ?_ hdb)
  refine PySem.W.callWith_K (h₀:=X.base) I.ok.mod.kin hk (thn (pa.run pos pins s σ H _ I h) fun us s1 ⟨vs,H1,I1,r,q⟩=>⟨I1.kIn,?_⟩) he hpl
  exact run_fnGS (dvs:=[]) (ds:=[]) (E:=WE Wx) hA F hr hb .nil (passAt tk σ) I1 r (by rw[List.append_nil]; exact q)
 ·exact da P ι G σ S H ρ _ s e (post.bind fun us S1 ι1 G1 H1 vs p1 e1 s1 rv post1=>X4 hlen s1 rv post1)
def mkE (c:Str) (fls:List Str) (us:List U) (ρ:Env) (S:Qa):Fl:=match allD us with
 | some ds=>if ds.length=fls.length then .err c (fls.zip ds).reverse ρ S else .bad
 | none=>.bad
/-- raise C(e),an error of one field -/
theorem Yb {fl:Str} {fI:Addr} {pos2:Pos} (hc:X.calm=true) (T:PySem.WErr.ErrTxt X.prog X.K X.mg x fl (ga X.K x) fI) (hr:Room k X.A) (tk:Takes X Wx) (ha:PDA X Wx [e] As) (hg:Gl X x:=by rfl) (hdb:(x == ("__debug__" : Str))=false:=by decide)
  (h:∀ {t:TA},PA X [e] t→PS X (.Raise (some (.Call (.Name x p) [e] [] pos)) none pos2) (tRaiseErr (ga X.K x) fl Wx t)):PDS X Wx (.Raise (some (.Call (.Name x p) [e] [] pos)) none pos2) (fun ρ S=>(As ρ S).fl ρ fun us S=>mkE x [fl] us ρ S):=by
 obtain⟨ta,pa,da⟩:=ha
 refine⟨_,h pa,fun P ι G σ S H ρ E s e post=>?_⟩
 refine da P ι G σ S H ρ _ s e (Post.fl e post fun us S1 ι1 G1 H1 vs p1 e1 s1 rv r1 post1=>?_)
 unfold mkE at post1
 split at post1
 ·rename_i ds hd
  have h2:=rv.all hd
  split at post1
  ·rename_i hl
   match ds,hl,h2,post1 with
   | [d],_,h2,post1 =>
    cases h2 with
    | cons h3 h4 =>
     cases h4
     refine⟨_,rfl,fun dd hdd=>?_⟩
     exact post1 ι1 _ σ _ (some dd) (List.prefix_refl _) (s1.exN hdd) (s1.new hdd) (r1.up (List.prefix_refl _) (s1.exN hdd)) (.inr ⟨dd,_,rfl,upd_same,.cons (h3.ex (s1.exN hdd)) .nil⟩)
  ·exact post1.elim
 ·exact post1.elim
end
end DL
namespace DL
open PySem PySem.Spec PyProof.Rows L2
open He (ga ma)
open Evl (Ex)
open TL (tl)
mutual
def D.py:D→PyData
 | .non=>.none
 | .bl b=>.bool b
 | .int i=>.int i
 | .str z=>.str z
 | .tup ds=>.tuple (Jh ds)
 | .lst ds=>.list (Jh ds)
 | _=>.none
def Jh:List D→List PyData
 | []=>[]
 | d :: t=>d.py :: Jh t
end
mutual
def D.plain:D→Bool
 | .non=>true
 | .bl _=>true
 | .int _=>true
 | .str _=>true
 | .tup ds=>Jb ds
 | .lst ds=>Jb ds
 | _=>false
def Jb:List D→Bool
 | []=>true
 | d :: t=>d.plain && Jb t
end
theorem Vf (ds:List D):Jh ds=ds.map D.py:=by
 induction ds with
 | nil=>rfl
 | cons d t ih=>rw[Jh,ih]; rfl
mutual
theorem Rv.dp {K:PySem.W.Frag} {G:Hp} : ∀ {v:V} {d:D},Rv K G v d→d.plain=true→Dp K G v d.py
 | _,_,.non,_=>.non
 | _,_,.bl b,_=>.bl b
 | _,_,.int i,_=>.int i
 | _,_,.str z,_=>.str z
 | _,_,.tup h1 h2,h=>.tup h1 (Ja.dp h2 h)
 | _,_,.lst h1 h2,h=>.lst h1 (Ja.dp h2 h)
 | _,_,.obj h1 h2,h=>by cases h
 | _,_,.ty _,h=>by cases h
 | _,_,.cls _,h=>by cases h
 | _,_,.tpl _ _,h=>by cases h
theorem Ja.dp {K:PySem.W.Frag} {G:Hp} : ∀ {vs:List V} {ds:List D},Ja K G vs ds→Jb ds=true→DpAll K G vs (Jh ds)
 | _,_,.nil,_=>.nil
 | _,_,.cons h1 h2,h=>.cons (Rv.dp h1 (Bool.and_eq_true_iff.mp h).1) (Ja.dp h2 (Bool.and_eq_true_iff.mp h).2)
end
/-- a value as data: a list that changes is told as it stands -/
def dat (u:U) (S:Qa):Option D:=match u with
 | .d x=>some x
 | .r n=>match S[n]? with
  | some (.frz x)=>some x
  | some (.lst us)=>(allD us).map .lst
  | _=>none
def okD (x:D):Bool:=x.plain && SeqAt.shaped x.py
section
variable {X:Cx} {K:PySem.W.Frag} {Wx:WX} {P:Hp} {ι:List Addr} {G H:Hp} {S:Qa} {σ:L2.St} {Q:VK}
theorem Yy {v:V} {u:U} {x:D} (s:Sr K P ι G S H) (r:RU K ι G v u) (h:dat u S=some x) (hp:x.plain=true):Dp K H v x.py:=by
 match u,r,h with
 | .d y,r,h =>
  obtain rfl:y=x:=Option.some.inj h
  exact Dp.ex s.ex (Rv.dp r hp)
 | .r n,⟨a,hn,hv⟩,h =>
  subst hv
  simp only[dat] at h
  split at h
  ·rename_i y hc
   obtain rfl:y=x:=Option.some.inj h
   exact Dp.ex s.ex (Rv.dp (s.at_ n _ a hc hn) hp)
  ·rename_i us hc
   obtain⟨_,vs,h1,h2⟩:=s.at_ n _ a hc hn
   cases hd:allD us with
   | none=>rw[hd] at h; cases h
   | some ds =>
    rw[hd] at h
    obtain rfl:D.lst ds=x:=Option.some.inj h
    have h3:=(RUs.all h2 hd).dp hp
    have:DpAll K H vs (Jh ds):=by
     have:∀ {vs:List V} {es:List PyData},DpAll K G vs es→DpAll K H vs es:=fun h=>DpAll.ex s.ex h
     exact this h3
    exact .lst (SqL.of h1) this
  ·cases h
def eqU (a b:U) (S:Qa):Res U:=match dat a S,dat b S with
 | some (.str x),some (.str y)=>.ok (.d (.bl (decide (x=y)))) S
 | some x,some y=>if okD x=true∧okD y=true then .ok (.d (.bl (PyData.eqv x.py y.py))) S else .bad
 | _,_=>.bad
def neU (a b:U) (S:Qa):Res U:=match dat a S,dat b S with
 | some x,some y=>if okD x=true∧okD y=true then .ok (.d (.bl (!PyData.eqv x.py y.py))) S else .bad
 | _,_=>.bad
theorem Yx {x:D} (h:okD x=true):x.plain=true∧SeqAt.shaped x.py=true:=Bool.and_eq_true_iff.mp h
theorem Xo {k:Nat} (hr:Room k X.A):OpD X (compareOp .Eq) eqU:=by
 refine⟨_,OpR.or op_eq (op_eqD hr.units),fun Wx P ι G S H v1 v2 u1 u2 σ Q s r1 r2 post=>?_⟩
 unfold eqU at post
 split at post
 ·rename_i x y h1 h2
  have e1:=Yy s r1 h1 rfl
  have e2:=Yy s r2 h2 rfl
  cases e1
  cases e2
  refine .inl ⟨rfl,?_⟩
  have:decide (V.str x=V.str y)=decide (x=y):=decide_eq_decide.mpr ⟨fun h=>V.str.inj h,fun h=>by rw[h]⟩
  rw[this]
  exact post.ok s (.bl _)
 ·rename_i x y _ h1 h2
  split at post
  ·rename_i h
   obtain⟨a1,a2⟩:=Yx h.1
   obtain⟨b1,b2⟩:=Yx h.2
   exact .inr ⟨_,_,Yy s r1 h1 a1,Yy s r2 h2 b1,a2,b2,post.ok s (.bl _)⟩
  ·exact post.elim
 ·exact post.elim
theorem od_ne {k:Nat} (hr:Room k X.A):OpD X (compareOp .NotEq) neU:=by
 refine⟨_,op_neD hr.units,fun Wx P ι G S H v1 v2 u1 u2 σ Q s r1 r2 post=>?_⟩
 unfold neU at post
 split at post
 ·rename_i x y h1 h2
  split at post
  ·rename_i h
   obtain⟨a1,a2⟩:=Yx h.1
   obtain⟨b1,b2⟩:=Yx h.2
   exact⟨_,_,Yy s r1 h1 a1,Yy s r2 h2 b1,a2,b2,post.ok s (.bl _)⟩
  ·exact post.elim
 ·exact post.elim
def X5 (C:Int→Int→Bool) (f:Int→Int→D) (a b:U) (S:Qa):Res U:=match a,b with
 | .d (.int i),.d (.int j)=>if C i j=true then .ok (.d (f i j)) S else .bad
 | _,_=>.bad
theorem int_ok {f:Value→Value→Sem Value} {C:Int→Int→Bool} {C':Int→Int→Prop} {g:Int→Int→V} {fD:Int→Int→D} (h:OpR X f (rI C' g)) (hC:∀ i j,C i j=true→C' i j) (hg:∀ G i j,Rv X.K G (g i j) (fD i j)):OpD X f (X5 C fD):=by
 refine⟨_,h,fun Wx P ι G S H v1 v2 u1 u2 σ Q s r1 r2 post=>?_⟩
 unfold X5 at post
 split at post
 ·split at post
  ·rename_i hc
   cases r1
   cases r2
   exact⟨_,_,rfl,rfl,hC _ _ hc,post.ok s (hg _ _ _)⟩
  ·exact post.elim
 ·exact post.elim
theorem int_ok0 {f:Value→Value→Sem Value} {g:Int→Int→V} {fD:Int→Int→D} (h:OpR X f (rI0 g)) (hg:∀ G i j,Rv X.K G (g i j) (fD i j)):OpD X f (X5 (fun _ _=>true) fD):=by
 refine⟨_,h,fun Wx P ι G S H v1 v2 u1 u2 σ Q s r1 r2 post=>?_⟩
 unfold X5 at post
 split at post
 ·rw[if_pos rfl] at post
  cases r1
  cases r2
  exact⟨_,_,rfl,rfl,post.ok s (hg _ _ _)⟩
 ·exact post.elim
abbrev subU:=X5 (fun _ _=>true) fun i j=>.int (i - j)
abbrev ltU:=X5 (fun _ _=>true) fun i j=>.bl (decide (i < j))
abbrev leU:=X5 (fun _ _=>true) fun i j=>.bl (decide (i≤j))
abbrev gtU:=X5 (fun _ _=>true) fun i j=>.bl (decide (j < i))
abbrev geU:=X5 (fun _ _=>true) fun i j=>.bl (decide (j≤i))
theorem od_lt:OpD X (compareOp .Lt) ltU:=int_ok0 op_lt fun _ _ _=>.bl _
theorem od_le:OpD X (compareOp .LtE) leU:=int_ok0 op_le fun _ _ _=>.bl _
theorem od_gt:OpD X (compareOp .Gt) gtU:=int_ok0 op_gt fun _ _ _=>.bl _
theorem od_ge:OpD X (compareOp .GtE) geU:=int_ok0 op_ge fun _ _ _=>.bl _
def mulC (i j:Int):Bool:=(decide (-(2 ^ 64) < i) && decide (i < 2 ^ 64)) || (decide (-(2 ^ 64) < j) && decide (j < 2 ^ 64))
abbrev mulU:=X5 mulC fun i j=>.int (i * j)
theorem Vt:OpD X (binaryOp .Mult) mulU:=int_ok op_mul (fun i j h=>by
 unfold mulC at h
 rw[Bool.or_eq_true,Bool.and_eq_true,Bool.and_eq_true] at h
 rcases h with h | h
 ·exact .inl ⟨of_decide_eq_true h.1,of_decide_eq_true h.2⟩
 ·exact .inr ⟨of_decide_eq_true h.1,of_decide_eq_true h.2⟩) fun _ _ _=>.int _
abbrev modU:=X5 (fun _ j=>decide (0 < j)) fun i j=>.int (i % j)
theorem Uz:OpD X (binaryOp .Mod) modU:=int_ok op_mod (fun i j h=>of_decide_eq_true h) fun _ _ _=>.int _
abbrev divU:=X5 (fun _ j=>decide (0 < j) && decide (j≤10 ^ 60)) fun i j=>.int (i / j)
theorem od_div:OpD X (binaryOp .FloorDiv) divU:=int_ok op_fdivW (fun i j h=>by
 rw[Bool.and_eq_true] at h
 exact div_ok (of_decide_eq_true h.1) (of_decide_eq_true h.2)) fun _ _ _=>.int _
def powC (i j:Int):Bool:=decide (0≤j) && (decide (j≤1000000) && decide (i.natAbs < 2 ^ 64))
abbrev powU:=X5 powC fun i j=>.int (i ^ j.toNat)
theorem od_pow:OpD X (binaryOp .Pow) powU:=int_ok op_pow (fun i j h=>by
 unfold powC at h
 rw[Bool.and_eq_true,Bool.and_eq_true] at h
 exact⟨of_decide_eq_true h.1,of_decide_eq_true h.2.1,of_decide_eq_true h.2.2⟩) fun _ _ _=>.int _
def rCatR (K:PySem.W.Frag):R2:=fun x y H Q=>∃ l b xs zs,x=.ref l∧y=.ref b∧SqL K H l xs∧SqL K H b zs∧xs.length + zs.length≤sizeLine∧∀ p,H p=none→Q (.ref p) (upd H p (.lst (xs++zs)))
theorem op_catR:OpR X (binaryOp .Add) (rCatR X.K):=by
 intro pins s σ H x y v u Q I rx ry h
 obtain⟨l,b,xs,zs,rfl,rfl,hH,hB,hz,q⟩:=h
 cases rx
 cases ry
 obtain⟨its,r,⟨⟨cls,dd,data,sl⟩,n,ho,hc,hdd,hd⟩,_⟩:=I.list hH
 obtain⟨its2,r2,⟨⟨cls2,dd2,data2,sl2⟩,n2,ho2,hc2,hdd2,hd2⟩,_⟩:=I.list hB
 simp only at hc hd hc2 hd2
 subst hc hd hc2 hd2
 have hl:=r.length
 have hl2:=r2.length
 refine concat_meets ⟨_,ho,rfl⟩ ⟨_,ho2,rfl⟩ noFill_list_add seq_list_add PySem.F.slot_list_add PySem.F.entry_list_add (PySem.F.args_list_add_2 _ _) (list_addW l b its.toArray its2.toArray n n2 dd dd2 sl sl2 (by rw[List.size_toArray,List.size_toArray]; omega)) ⟨ho,ho2,?_⟩
 have ea:its.toArray++its2.toArray=(its++its2).toArray:=by simp
 rw[ea]
 exact⟨.ref _,_,I.lnew (t':=s.toks) (r.append r2) (by rw[List.length_append]; omega),rfl,q _ I.fresh⟩
def addU (a b:U) (S:Qa):Res U:=match a,b with
 | .d (.int i),.d (.int j)=>.ok (.d (.int (i + j))) S
 | .d (.str x),.d (.str y)=>if x.length + y.length≤sizeLine then .ok (.d (.str (x++y))) S else .bad
 | .d (.tup x),.d (.tup y)=>if x.length + y.length≤sizeLine then .ok (.d (.tup (x++y))) S else .bad
 | .d (.lst x),.d (.lst y)=>if x.length + y.length≤sizeLine then .ok (.d (.lst (x++y))) S else .bad
 | _,_=>.bad
theorem Ja.app {vs ws:List V} {ds es:List D} (h:Ja K G vs ds) (h':Ja K G ws es):Ja K G (vs++ws) (ds++es):=Ja.of (Jz h.pair h'.pair)
theorem Yd:OpD X (binaryOp .Add) addU:=by
 refine⟨_,OpR.or op_add (OpR.or op_add_str (OpR.or op_catA op_catR)),fun Wx P ι G S H v1 v2 u1 u2 σ Q s r1 r2 post=>?_⟩
 unfold addU at post
 split at post
 ·cases r1
  cases r2
  exact .inl ⟨_,_,rfl,rfl,post.ok s (.int _)⟩
 ·split at post
  ·rename_i hz
   cases r1
   cases r2
   exact .inr (.inl ⟨_,_,rfl,rfl,hz,post.ok s (.str _)⟩)
  ·exact post.elim
 ·split at post
  ·rename_i hz
   cases r1 with
   | tup a1 a2 =>
    cases r2 with
    | tup b1 b2 =>
     have l1:=Qm a2.pair
     have l2:=Qm b2.pair
     refine .inr (.inr (.inl ⟨_,_,_,_,rfl,rfl,Evl.ex_t s.ex a1,Evl.ex_t s.ex b1,by omega,fun hx=>?_,fun hx hy=>?_,fun hx hy p hp=>?_⟩))
     ·subst hx
      cases a2
      exact post.ok s (.tup b1 b2)
     ·subst hy
      cases b2
      rw[List.append_nil] at post
      exact post.ok s (.tup a1 a2)
     ·exact post ι _ _ (.ref p) (List.prefix_refl _) (s.exN hp) (s.new hp) (.tup (SqT.of upd_same) ((a2.app b2).ex (s.exN hp)))
  ·exact post.elim
 ·split at post
  ·rename_i hz
   cases r1 with
   | lst a1 a2 =>
    cases r2 with
    | lst b1 b2 =>
     have l1:=Qm a2.pair
     have l2:=Qm b2.pair
     refine .inr (.inr (.inr ⟨_,_,_,_,rfl,rfl,Evl.ex_l s.ex a1,Evl.ex_l s.ex b1,by omega,fun p hp=>?_⟩))
     exact post ι _ _ (.ref p) (List.prefix_refl _) (s.exN hp) (s.new hp) (.lst (SqL.of upd_same) ((a2.app b2).ex (s.exN hp)))
  ·exact post.elim
 ·exact post.elim
end
end DL
namespace DL
open PySem PySem.Spec PyProof.Rows L2
open He (ga ma)
open Evl (Ex)
open TL (tl)
section
variable {X:Cx} {K:PySem.W.Frag} {Wx:WX} {P:Hp} {ι:List Addr} {G H:Hp} {S:Qa} {σ:L2.St} {Q:VK}
def rInDT (K:PySem.W.Frag):R2:=fun x y H Q=>∃ d ds,Dp K H x d∧Dp K H y (.tuple ds)∧SeqAt.shaped d=true∧SeqAt.shaped (.tuple ds)=true∧Q (.bl (ds.any fun z=>PyData.eqv z d)) H
def rNotInDT (K:PySem.W.Frag):R2:=fun x y H Q=>∃ d ds,Dp K H x d∧Dp K H y (.tuple ds)∧SeqAt.shaped d=true∧SeqAt.shaped (.tuple ds)=true∧Q (.bl (!ds.any fun z=>PyData.eqv z d)) H
theorem op_inDT (hu:X.A.units + 65 < cLine):OpR X (compareOp .In) (rInDT X.K):=by
 intro pins s σ H x y v u Q I rx ry h
 obtain⟨d,ds,hd,he,sd,se,q⟩:=h
 obtain⟨as,r1⟩:=Dp.reads I d x v hd rx
 obtain⟨bs,r2⟩:=Dp.reads I (.tuple ds) y u he ry
 exact SeqAt.in_tuple_reads r2 r1 (SeqAt.canLay_of_shaped se) (SeqAt.canLay_of_shaped sd) (room_in_shaped sd hu) ⟨.bl _,H,I,rfl,q⟩
theorem op_notInDT (hu:X.A.units + 65 < cLine):OpR X (compareOp .NotIn) (rNotInDT X.K):=by
 intro pins s σ H x y v u Q I rx ry h
 obtain⟨d,ds,hd,he,sd,se,q⟩:=h
 obtain⟨as,r1⟩:=Dp.reads I d x v hd rx
 obtain⟨bs,r2⟩:=Dp.reads I (.tuple ds) y u he ry
 exact SeqAt.notIn_tuple_reads r2 r1 (SeqAt.canLay_of_shaped se) (SeqAt.canLay_of_shaped sd) (room_in_shaped sd hu) ⟨.bl _,H,I,rfl,q⟩
/-- how the answer is told: in,not in -/
def inB (neg b:Bool):Bool:=if neg then !b else b
def inU (neg:Bool) (a b:U) (S:Qa):Res U:=match dat a S,dat b S with
 | some (.str x),some (.str z)=>match tl x with
  | [c]=>.ok (.d (.bl (inB neg (decide (c∈tl z))))) S
  | _=>.bad
 | some x,some (.lst ds)=>if okD x=true∧okD (.lst ds)=true then .ok (.d (.bl (inB neg (ds.any fun z=>PyData.eqv z.py x.py)))) S else .bad
 | some x,some (.tup ds)=>if okD x=true∧okD (.tup ds)=true then .ok (.d (.bl (inB neg (ds.any fun z=>PyData.eqv z.py x.py)))) S else .bad
 | _,_=>.bad
theorem dat_str {v:V} {u:U} {x:Str} (s:Sr K P ι G S H) (r:RU K ι G v u) (h:dat u S=some (.str x)):v=.str x:=by
 have:=Yy s r h rfl
 cases this
 rfl
theorem any_py (ds:List D) (p:PyData):((Jh ds).any fun z=>PyData.eqv z p)=ds.any fun z=>PyData.eqv z.py p:=by
 rw[Vf,List.any_map]; rfl
theorem lt65 {k:Nat} {A:Around} (hr:Room k A):A.units + 65 < cLine:=by have:=hr.un; omega
theorem od_in {k:Nat} (hr:Room k X.A):OpD X (compareOp .In) (inU false):=by
 refine⟨_,OpR.or op_in_sign (OpR.or (op_inD (lt65 hr)) (op_inDT (lt65 hr))),fun Wx P ι G S H v1 v2 u1 u2 σ Q s r1 r2 post=>?_⟩
 unfold inU at post
 split at post
 ·rename_i x z h1 h2
  split at post
  ·rename_i c hc
   have e1:=dat_str s r1 h1
   have e2:=dat_str s r2 h2
   have hx:x=⟨#[c]⟩:=by
    have:(⟨(tl x).toArray⟩ : Str)=x:=by simp [tl]
    rw[← this,hc]
   refine .inl ⟨c,z,by rw[e1,hx],e2,post.ok s (.bl _)⟩
  ·exact post.elim
 ·rename_i _ x ds h1 h2
  split at post
  ·rename_i h
   obtain⟨a1,a2⟩:=Yx h.1
   obtain⟨b1,b2⟩:=Yx h.2
   refine .inr (.inl ⟨_,_,Yy s r1 h1 a1,Yy s r2 h2 b1,a2,b2,?_⟩)
   rw[any_py]
   exact post.ok s (.bl _)
  ·exact post.elim
 ·rename_i _ x ds h1 h2
  split at post
  ·rename_i h
   obtain⟨a1,a2⟩:=Yx h.1
   obtain⟨b1,b2⟩:=Yx h.2
   refine .inr (.inr ⟨_,_,Yy s r1 h1 a1,Yy s r2 h2 b1,a2,b2,?_⟩)
   rw[any_py]
   exact post.ok s (.bl _)
  ·exact post.elim
 ·exact post.elim
theorem X6 {k:Nat} (hr:Room k X.A):OpD X (compareOp .NotIn) (inU true):=by
 refine⟨_,OpR.or op_notIn_sign (OpR.or (op_notInD (lt65 hr)) (op_notInDT (lt65 hr))),fun Wx P ι G S H v1 v2 u1 u2 σ Q s r1 r2 post=>?_⟩
 unfold inU at post
 split at post
 ·rename_i x z h1 h2
  split at post
  ·rename_i c hc
   have e1:=dat_str s r1 h1
   have e2:=dat_str s r2 h2
   have hx:x=⟨#[c]⟩:=by
    have:(⟨(tl x).toArray⟩ : Str)=x:=by simp [tl]
    rw[← this,hc]
   refine .inl ⟨c,z,by rw[e1,hx],e2,post.ok s (.bl _)⟩
  ·exact post.elim
 ·rename_i _ x ds h1 h2
  split at post
  ·rename_i h
   obtain⟨a1,a2⟩:=Yx h.1
   obtain⟨b1,b2⟩:=Yx h.2
   refine .inr (.inl ⟨_,_,Yy s r1 h1 a1,Yy s r2 h2 b1,a2,b2,?_⟩)
   rw[any_py]
   exact post.ok s (.bl _)
  ·exact post.elim
 ·rename_i _ x ds h1 h2
  split at post
  ·rename_i h
   obtain⟨a1,a2⟩:=Yx h.1
   obtain⟨b1,b2⟩:=Yx h.2
   refine .inr (.inr ⟨_,_,Yy s r1 h1 a1,Yy s r2 h2 b1,a2,b2,?_⟩)
   rw[any_py]
   exact post.ok s (.bl _)
  ·exact post.elim
 ·exact post.elim
def isNonU:U→Bool
 | .d .non=>true
 | _=>false
def isU (neg:Bool) (a b:U) (S:Qa):Res U:=match b with
 | .d .non=>.ok (.d (.bl (inB neg (isNonU a)))) S
 | _=>.bad
theorem non_iff {v:V} {u:U} (r:RU K ι G v u):decide (v=.non)=isNonU u:=by
 match u,r with
 | .r n,⟨a,_,hv⟩=>subst hv; rfl
 | .d x,r=>cases r<;>rfl
theorem od_is:OpD X (compareOp .Is) (isU false):=by
 refine⟨_,op_isN,fun Wx P ι G S H v1 v2 u1 u2 σ Q s r1 r2 post=>?_⟩
 unfold isU at post
 split at post
 ·cases r2
  refine⟨rfl,?_⟩
  rw[non_iff r1]
  exact post.ok s (.bl _)
 ·exact post.elim
theorem od_isnot:OpD X (compareOp .IsNot) (isU true):=by
 refine⟨_,op_notN,fun Wx P ι G S H v1 v2 u1 u2 σ Q s r1 r2 post=>?_⟩
 unfold isU at post
 split at post
 ·cases r2
  refine⟨rfl,?_⟩
  rw[non_iff r1]
  exact post.ok s (.bl _)
 ·exact post.elim
def optR {α:Type} (o:Option α) (f:α→U) (S:Qa):Res U:=match o with
 | some x=>.ok (f x) S
 | none=>.bad
def ixU (a b:U) (S:Qa):Res U:=match a,b with
 | .d (.lst ds),.d (.int i)=>optR (atI ds i) .d S
 | .d (.tup ds),.d (.int i)=>optR (atI ds i) .d S
 | .d (.str z),.d (.int i)=>if z.length≤sizeLine then optR (atI (tl z) i) (fun c=>.d (.str ⟨#[c]⟩)) S else .bad
 | .r n,.d (.int i)=>match S[n]? with
  | some (.lst us)=>optR (atI us i) id S
  | _=>.bad
 | _,_=>.bad
theorem atI_pair {α β:Type} {F:α→β→Prop} {l1:List α} {l2:List β} (h:Paired F l1 l2) {i:Int} {b:β} (e:atI l2 i=some b):∃ a,atI l1 i=some a∧F a b:=by
 unfold atI at e ⊢
 rw[Qm h]
 cases hj:ixN l2.length i with
 | none=>rw[hj] at e; cases e
 | some j =>
  rw[hj] at e
  exact Ui h e
theorem ixd:IxD X ixU:=by
 refine⟨_,ix_seq,fun Wx P ι G S H v1 v2 u1 u2 σ Q s r1 r2 post=>?_⟩
 unfold ixU at post
 split at post
 ·cases r1 with
  | lst a1 a2 =>
   cases r2
   unfold optR at post
   split at post
   ·rename_i i _ d hd
    obtain⟨v,hv,rv⟩:=atI_pair a2.pair hd
    exact .inl ⟨_,_,_,v,rfl,rfl,Evl.ex_l s.ex a1,hv,post.ok s rv⟩
   ·exact post.elim
 ·cases r1 with
  | tup a1 a2 =>
   cases r2
   unfold optR at post
   split at post
   ·rename_i i _ d hd
    obtain⟨v,hv,rv⟩:=atI_pair a2.pair hd
    exact .inr (.inl ⟨_,_,_,v,rfl,rfl,Evl.ex_t s.ex a1,hv,post.ok s rv⟩)
   ·exact post.elim
 ·split at post
  ·rename_i hz
   cases r1
   cases r2
   unfold optR at post
   split at post
   ·rename_i c hc
    exact .inr (.inr ⟨_,_,c,rfl,rfl,hz,hc,post.ok s (.str _)⟩)
   ·exact post.elim
  ·exact post.elim
 ·rename_i n i
  cases r2
  obtain⟨a,hn,hv⟩:=r1
  subst hv
  split at post
  ·rename_i us hc
   obtain⟨_,vs,h1,h2⟩:=s.at_ n _ a hc hn
   unfold optR at post
   split at post
   ·rename_i u hu
    obtain⟨v,hv,rv⟩:=atI_pair h2 hu
    exact .inl ⟨_,_,_,v,rfl,rfl,SqL.of h1,hv,post.ok s rv⟩
   ·exact post.elim
  ·exact post.elim
 ·exact post.elim
def cutL {α:Type} (xs:List α) (lo hi:Option Int):List α:=(xs.drop (HT.sIx xs.length 0 lo)).take (HT.sIx xs.length xs.length hi - HT.sIx xs.length 0 lo)
def slU (a:U) (lo hi:Option Int) (S:Qa):Res U:=match a with
 | .d (.lst ds)=>.ok (.d (.lst (cutL ds lo hi))) S
 | .d (.tup ds)=>.ok (.d (.tup (cutL ds lo hi))) S
 | .d (.str z)=>if z.length≤sizeLine then .ok (.d (.str (cutS z lo hi))) S else .bad
 | .r n=>match S[n]? with
  | some (.lst us)=>match allD us with
   | some ds=>.ok (.d (.lst (cutL ds lo hi))) S
   | none=>.bad
  | _=>.bad
 | _=>.bad
theorem U0 {α β:Type} {F:α→β→Prop} : ∀ {l1:List α} {l2:List β} (n:Nat),Paired F l1 l2→Paired F (l1.drop n) (l2.drop n)
 | _,_,0,h=>h
 | _,_,_ + 1,.nil=>.nil
 | _,_,n + 1,.cons _ t=>U0 n t
theorem U3 {α β:Type} {F:α→β→Prop} : ∀ {l1:List α} {l2:List β} (n:Nat),Paired F l1 l2→Paired F (l1.take n) (l2.take n)
 | _,_,0,_=>.nil
 | _,_,_ + 1,.nil=>.nil
 | _,_,n + 1,.cons f t=>.cons f (U3 n t)
theorem Vu {α β:Type} {F:α→β→Prop} {l1:List α} {l2:List β} (h:Paired F l1 l2) (lo hi:Option Int):Paired F (cutL l1 lo hi) (cutL l2 lo hi):=by
 unfold cutL
 rw[Qm h]
 exact U3 _ (U0 _ h)
theorem cutL_all {α:Type} {xs:List α} {lo hi:Option Int} (h1:HT.sIx xs.length 0 lo=0) (h2:HT.sIx xs.length xs.length hi=xs.length):cutL xs lo hi=xs:=by
 unfold cutL
 rw[h1,h2]
 simp
theorem sld:SlD X slU:=by
 refine⟨_,SlR.or sl_list (SlR.or sl_tupA sl_str),fun Wx P ι G S H v u lo hi σ Q s r post=>?_⟩
 unfold slU at post
 split at post
 ·cases r with
  | lst a1 a2 =>
   refine .inl ⟨_,_,rfl,Evl.ex_l s.ex a1,fun p hp=>?_⟩
   exact post ι _ _ (.ref p) (List.prefix_refl _) (s.exN hp) (s.new hp) (.lst (SqL.of upd_same) ((Ja.of (Vu a2.pair lo hi)).ex (s.exN hp)))
 ·rename_i ds
  cases r with
  | tup a1 a2 =>
   have hl:=Qm a2.pair
   refine .inr (.inl ⟨_,_,rfl,Evl.ex_t s.ex a1,fun hw=>?_,fun hw p hp=>?_⟩)
   ·rw[hl] at hw
    rw[cutL_all hw.1 hw.2] at post
    exact post.ok s (.tup a1 a2)
   ·exact post ι _ _ (.ref p) (List.prefix_refl _) (s.exN hp) (s.new hp) (.tup (SqT.of upd_same) ((Ja.of (Vu a2.pair lo hi)).ex (s.exN hp)))
 ·split at post
  ·rename_i hz
   cases r
   exact .inr (.inr ⟨_,rfl,hz,post.ok s (.str _)⟩)
  ·exact post.elim
 ·rename_i n
  obtain⟨a,hn,hv⟩:=r
  subst hv
  split at post
  ·rename_i us hc
   split at post
   ·rename_i ds hd
    obtain⟨_,vs,h1,h2⟩:=s.at_ n _ a hc hn
    have h3:=RUs.all h2 hd
    refine .inl ⟨_,_,rfl,SqL.of h1,fun p hp=>?_⟩
    exact post ι _ _ (.ref p) (List.prefix_refl _) (s.exN hp) (s.new hp) (.lst (SqL.of upd_same) ((Ja.of (Vu h3.pair lo hi)).ex (s.exN hp)))
   ·exact post.elim
  ·exact post.elim
 ·exact post.elim
end
end DL
namespace DL
open PySem PySem.Spec PyProof.Rows L2
open He (ga ma)
open Evl (Ex)
open TL (tl)
section
variable {X:Cx} {K:PySem.W.Frag} {Wx:WX} {P:Hp} {ι:List Addr} {G H:Hp} {S:Qa} {σ:L2.St} {Q:VK}
/-- a call of one value -/
def c1 (g:U→Qa→Res U) (us:List U) (S:Qa):Res U:=match us with
 | [u]=>g u S
 | _=>.bad
def c2 (g:U→U→Qa→Res U) (us:List U) (S:Qa):Res U:=match us with
 | [u,w]=>g u w S
 | _=>.bad
theorem call1 {f:Value} {g:U→Qa→Res U} {r:List V→Hp→VK→Prop} (hr:CallR X f r) (h:∀ Wx P ι G S H v u σ Q,Sr X.K P ι G S H→RU X.K ι G v u→Post (RU X.K) X.K Wx P ι G σ Q (g u S)→r [v] H Q):Xa X f (c1 g):=by
 refine⟨r,hr,fun Wx P ι G S H vs us σ Q s rv post=>?_⟩
 unfold c1 at post
 split at post
 ·cases rv with
  | cons r1 rr =>
   cases rr
   exact h Wx P ι G S H _ _ σ Q s r1 post
 ·exact post.elim
theorem call2 {f:Value} {g:U→U→Qa→Res U} {r:List V→Hp→VK→Prop} (hr:CallR X f r) (h:∀ Wx P ι G S H v v2 u u2 σ Q,Sr X.K P ι G S H→RU X.K ι G v u→RU X.K ι G v2 u2→Post (RU X.K) X.K Wx P ι G σ Q (g u u2 S)→r [v,v2] H Q):Xa X f (c2 g):=by
 refine⟨r,hr,fun Wx P ι G S H vs us σ Q s rv post=>?_⟩
 unfold c2 at post
 split at post
 ·cases rv with
  | cons r1 rr =>
   cases rr with
   | cons r2 rr =>
    cases rr
    exact h Wx P ι G S H _ _ _ _ σ Q s r1 r2 post
 ·exact post.elim
def lenU (u:U) (S:Qa):Res U:=match u with
 | .d (.lst ds)=>.ok (.d (.int ds.length)) S
 | .d (.tup ds)=>.ok (.d (.int ds.length)) S
 | .d (.str z)=>if z.length≤sizeLine then .ok (.d (.int z.length)) S else .bad
 | .r n=>match S[n]? with
  | some (.lst us)=>.ok (.d (.int us.length)) S
  | _=>.bad
 | _=>.bad
theorem Jk:Xa X (.builtin "len") (c1 lenU):=call1 call_len fun Wx P ι G S H v u σ Q s r post=>by
 unfold lenU at post
 split at post
 ·cases r with
  | lst a1 a2=>exact⟨_,_,rfl,.inl ⟨_,Evl.ex_l s.ex a1,rfl⟩,by rw[Qm a2.pair]; exact post.ok s (.int _)⟩
 ·cases r with
  | tup a1 a2=>exact⟨_,_,rfl,.inr ⟨_,Evl.ex_t s.ex a1,rfl⟩,by rw[Qm a2.pair]; exact post.ok s (.int _)⟩
 ·split at post
  ·rename_i hz
   cases r
   exact⟨_,_,rfl,⟨hz,rfl⟩,post.ok s (.int _)⟩
  ·exact post.elim
 ·rename_i n
  obtain⟨a,hn,hv⟩:=r
  subst hv
  split at post
  ·rename_i us hc
   obtain⟨_,vs,h1,h2⟩:=s.at_ n _ a hc hn
   exact⟨_,_,rfl,.inl ⟨_,SqL.of h1,rfl⟩,by rw[Qm h2]; exact post.ok s (.int _)⟩
  ·exact post.elim
 ·exact post.elim
def intU (u:U) (S:Qa):Res U:=match u with
 | .d (.int i)=>.ok (.d (.int i)) S
 | _=>.bad
theorem Vv:Xa X (.type "int") (c1 intU):=call1 call_int1 fun Wx P ι G S H v u σ Q s r post=>by
 unfold intU at post
 split at post
 ·cases r
  exact .inl ⟨_,rfl,post.ok s (.int _)⟩
 ·exact post.elim
def absU (u:U) (S:Qa):Res U:=match u with
 | .d (.int i)=>.ok (.d (.int (if i < 0 then -i else i))) S
 | _=>.bad
theorem cd_abs:Xa X (.builtin "abs") (c1 absU):=call1 call_abs fun Wx P ι G S H v u σ Q s r post=>by
 unfold absU at post
 split at post
 ·cases r
  exact⟨_,rfl,post.ok s (.int _)⟩
 ·exact post.elim
def max2U (u w:U) (S:Qa):Res U:=match u,w with
 | .d (.int i),.d (.int j)=>.ok (.d (.int (if j > i then j else i))) S
 | _,_=>.bad
def min2U (u w:U) (S:Qa):Res U:=match u,w with
 | .d (.int i),.d (.int j)=>.ok (.d (.int (if j < i then j else i))) S
 | _,_=>.bad
theorem cd_max (hc:X.calm=true):Xa X (.builtin "max") (c2 max2U):=call2 (call_max2 hc) fun Wx P ι G S H v v2 u u2 σ Q s r r2 post=>by
 unfold max2U at post
 split at post
 ·cases r
  cases r2
  exact⟨_,_,rfl,post.ok s (.int _)⟩
 ·exact post.elim
theorem cd_min (hc:X.calm=true):Xa X (.builtin "min") (c2 min2U):=call2 (call_min2 hc) fun Wx P ι G S H v v2 u u2 σ Q s r r2 post=>by
 unfold min2U at post
 split at post
 ·cases r
  cases r2
  exact⟨_,_,rfl,post.ok s (.int _)⟩
 ·exact post.elim
def Xy:List D→Option (List Bool)
 | []=>some []
 | .bl b :: t=>(Xy t).map (b :: ·)
 | _ :: _=>none
theorem boolsD_map (bs:List Bool):Xy (bs.map .bl)=some bs:=by
 induction bs with
 | nil=>rfl
 | cons b t ih=>rw[List.map_cons,Xy,ih]; rfl
theorem bools_ok:∀ {vs:List V} {ds:List D} {bs:List Bool},Ja K G vs ds→Xy ds=some bs→vs=bs.map V.bl
 | _,_,bs,.nil,h=>by cases h; rfl
 | _,_,bs,.cons (d:=d) h1 h2,h=>by
  cases d with
  | bl b =>
   rename_i t
   cases e:Xy t with
   | none=>simp [Xy,e] at h
   | some l =>
    simp [Xy,e] at h
    subst h
    cases h1
    rw[bools_ok h2 e]
    rfl
  | _=>cases h
def allU (u:U) (S:Qa):Res U:=match u with
 | .d (.lst ds)=>match Xy ds with
  | some bs=>.ok (.d (.bl (bs.all id))) S
  | none=>.bad
 | _=>.bad
theorem cd_all (hc:X.calm=true):Xa X (.builtin "all") (c1 allU):=call1 (cr_all hc) fun Wx P ι G S H v u σ Q s r post=>by
 unfold allU at post
 split at post
 ·split at post
  ·rename_i bs hb
   cases r with
   | lst a1 a2 =>
    obtain rfl:=bools_ok a2 hb
    exact⟨_,bs,rfl,Evl.ex_l s.ex a1,post.ok s (.bl _)⟩
  ·exact post.elim
 ·exact post.elim
def isTy (n:String):D→Option Bool
 | .non=>kitB "NoneType" n
 | .bl _=>kitB "bool" n
 | .int _=>kitB "int" n
 | .str _=>kitB "str" n
 | .lst _=>kitB "list" n
 | .tup _=>kitB "tuple" n
 | _=>none
theorem rv_tyx {v:V} {d:D} {n:String} {b:Bool} (r:Rv K G v d) (h:isTy n d=some b):∃ t,TyX K G v (.type t)∧kitB t n=some b:=by
 cases r with
 | non=>exact⟨_,.base .non,h⟩
 | bl b=>exact⟨_,.base (.bl b),h⟩
 | int i=>exact⟨_,.base (.int i),h⟩
 | str x=>exact⟨_,.base (.str x),h⟩
 | @lst a xs ds h1 _ =>
  rcases h1 with (h1 | ⟨o,h1⟩) | ⟨o,its,n,h1,h2,_⟩
  ·exact⟨_,.base (.lst h1),h⟩
  ·exact⟨_,.base (.frz h1),h⟩
  ·exact⟨_,.kList h1 h2,h⟩
 | @tup a xs ds h1 _ =>
  rcases h1 with (h1 | ⟨o,h1⟩) | ⟨o,its,n,h1,h2,_⟩
  ·exact⟨_,.base (.tup h1),h⟩
  ·exact⟨_,.fTuple h1,h⟩
  ·exact⟨_,.kTuple h1 h2,h⟩
 | obj _ _=>cases h
 | ty _=>cases h
 | cls _=>cases h
 | tpl _ _=>cases h
theorem TyX.ex {v:V} {t:Value} (e:Ex G H) (h:TyX K G v t):TyX K H v t:=by
 cases h with
 | base h =>
  refine .base ?_
  cases h with
  | non=>exact .non
  | bl b=>exact .bl b
  | int i=>exact .int i
  | str x=>exact .str x
  | flt x=>exact .flt x
  | lst h=>exact .lst (e _ _ h)
  | frz h=>exact .frz (e _ _ h)
  | tup h=>exact .tup (e _ _ h)
  | dK h=>exact .dK (e _ _ h)
  | dT h=>exact .dT (e _ _ h)
  | ins h a b c d f=>exact .ins (e _ _ h) a b c d f
 | byt b=>exact .byt b
 | set h=>exact .set (e _ _ h)
 | kList h c=>exact .kList h c
 | kTuple h c=>exact .kTuple h c
 | kDict h c=>exact .kDict h c
 | fTuple h=>exact .fTuple (e _ _ h)
 | fDict h=>exact .fDict (e _ _ h)
def isiU (u w:U) (S:Qa):Res U:=match u,w with
 | .d x,.d (.ty n)=>match isTy n x with
  | some b=>.ok (.d (.bl b)) S
  | none=>.bad
 | _,_=>.bad
theorem cd_isi:Xa X (.builtin "isinstance") (c2 isiU):=call2 call_isi fun Wx P ι G S H v v2 u u2 σ Q s r r2 post=>by
 unfold isiU at post
 split at post
 ·split at post
  ·rename_i b hb
   cases r2
   obtain⟨t,h1,h2⟩:=rv_tyx r hb
   exact⟨_,_,_,_,b,rfl,.ty _,TyX.ex s.ex h1,kit_ty h2,post.ok s (.bl _)⟩
  ·exact post.elim
 ·exact post.elim
/-- a built-in class as a value -/
theorem pd_ty {x:Str} {n:String} {pos:Pos} (hm:X.mg x=none) (hv:bootBuiltins x=some (.type n):=by decide +kernel) (hg:Gl X x:=by rfl) (hn:x ≠ "__name__" := by decide) (hd:(x == ("__debug__" : Str))=false:=by decide):PD X Wx (.Name x pos) (fun _ S=>.ok (.d (.ty n)) S) :=
 pd_of (pe_bltn (v:=.ty n) hg hm hv rfl hn hd) rfl fun _=>.ty n
/-- a class of the program as a value -/
theorem Xd {x:Str} {pos:Pos} (hm:X.mg x=some (.ref (ga X.K x))) (hg:Gl X x:=by rfl) (hd:(x == ("__debug__" : Str))=false:=by decide):PD X Wx (.Name x pos) (fun _ S=>.ok (.d (.cls x)) S) :=
 pd_of (pe_glob (v:=.ref (ga X.K x)) hg hm rfl hd) rfl fun _=>.cls x
def tupU (u:U) (S:Qa):Res U:=match dat u S with
 | some (.tup ds)=>.ok (.d (.tup ds)) S
 | some (.lst ds)=>.ok (.d (.tup ds)) S
 | _=>.bad
theorem dat_seq {v:V} {u:U} {ds:List D} (s:Sr K P ι G S H) (r:RU K ι G v u) (h:dat u S=some (.lst ds)∨dat u S=some (.tup ds)):∃ a xs,v=.ref a∧(SqL K H a xs∨SqT K G a xs)∧Ja K G xs ds:=by
 match u,r,h with
 | .d y,r,h =>
  rcases h with h | h
  ·obtain rfl:y=.lst ds:=Option.some.inj h
   cases r with
   | lst a1 a2=>exact⟨_,_,rfl,.inl (Evl.ex_l s.ex a1),a2⟩
  ·obtain rfl:y=.tup ds:=Option.some.inj h
   cases r with
   | tup a1 a2=>exact⟨_,_,rfl,.inr a1,a2⟩
 | .r n,⟨a,hn,hv⟩,h =>
  subst hv
  simp only[dat] at h
  split at h
  ·rename_i y hc
   have hr:Rv K G (.ref a) y:=s.at_ n _ a hc hn
   rcases h with h | h
   ·obtain rfl:y=.lst ds:=Option.some.inj h
    cases hr with
    | lst a1 a2=>exact⟨_,_,rfl,.inl (Evl.ex_l s.ex a1),a2⟩
   ·obtain rfl:y=.tup ds:=Option.some.inj h
    cases hr with
    | tup a1 a2=>exact⟨_,_,rfl,.inr a1,a2⟩
  ·rename_i us hc
   obtain⟨_,vs,h1,h2⟩:=s.at_ n _ a hc hn
   cases hd:allD us with
   | none=>rw[hd] at h; rcases h with h | h<;>cases h
   | some es =>
    rw[hd] at h
    rcases h with h | h
    ·obtain rfl:es=ds:=by
      have:=Option.some.inj h
      injection this
     exact⟨_,_,rfl,.inl (SqL.of h1),RUs.all h2 hd⟩
    ·have:=Option.some.inj h
     cases this
  ·rcases h with h | h<;>cases h
theorem Yj:Xa X (.type "tuple") (c1 tupU):=call1 call_tuple_of fun Wx P ι G S H v u σ Q s r post=>by
 have key:∀ ds,(dat u S=some (.lst ds)∨dat u S=some (.tup ds))→Post (RU X.K) X.K Wx P ι G σ Q (.ok (.d (.tup ds)) S)→∃ p ys,[v]=[.ref p]∧((SqL X.K H p ys∧∀ l,H l=none→Q (.ref l) (upd H l (.tup ys)))∨(SqT X.K H p ys∧Q (.ref p) H)):=by
  intro ds h post
  obtain⟨a,xs,rfl,sq,rv⟩:=dat_seq s r h
  refine⟨a,xs,rfl,?_⟩
  rcases sq with sq | sq
  ·exact .inl ⟨sq,fun p hp=>post ι _ _ (.ref p) (List.prefix_refl _) (s.exN hp) (s.new hp) (.tup (SqT.of upd_same) (rv.ex (s.exN hp)))⟩
  ·exact .inr ⟨Evl.ex_t s.ex sq,post.ok s (.tup sq rv)⟩
 unfold tupU at post
 split at post
 ·rename_i ds h
  exact key ds (.inr h) post
 ·rename_i ds h
  exact key ds (.inl h) post
 ·exact post.elim
/-- a list that will change -/
def lstMU (u:U) (S:Qa):Res U:=match dat u S with
 | some (.tup ds)=>.ok (.r S.length) (S++[.lst (ds.map .d)])
 | some (.lst ds)=>.ok (.r S.length) (S++[.lst (ds.map .d)])
 | _=>.bad
theorem seq_any {v:V} {u:U} {ds:List D} (s:Sr K P ι G S H) (r:RU K ι G v u) (h:dat u S=some (.lst ds)∨dat u S=some (.tup ds)):∃ a xs,v=.ref a∧(SqL K H a xs∨SqT K H a xs)∧Ja K G xs ds:=by
 obtain⟨a,xs,h1,h2,h3⟩:=dat_seq s r h
 exact⟨a,xs,h1,h2.elim .inl (fun z=>.inr (Evl.ex_t s.ex z)),h3⟩
theorem cd_listM:Xa X (.type "list") (c1 lstMU):=call1 call_list_of fun Wx P ι G S H v u σ Q s r post=>by
 have key:∀ ds,(dat u S=some (.lst ds)∨dat u S=some (.tup ds))→Post (RU X.K) X.K Wx P ι G σ Q (.ok (.r S.length) (S++[.lst (ds.map .d)]))→∃ p ys,[v]=[.ref p]∧(SqL X.K H p ys∨SqT X.K H p ys)∧∀ l,H l=none→Q (.ref l) (upd H l (.lst ys)):=by
  intro ds h post
  obtain⟨a,xs,rfl,sq,rv⟩:=seq_any s r h
  exact⟨a,xs,rfl,sq,fun p hp=>newM s hp rv.us post⟩
 unfold lstMU at post
 split at post
 ·rename_i ds h
  exact key ds (.inr h) post
 ·rename_i ds h
  exact key ds (.inl h) post
 ·exact post.elim
open Classical in
noncomputable def Ju (xs:List Str):List Str:=if h:∃ ys:List Str,ys.Perm xs∧sortedS ys=true then Classical.choose h else xs
theorem sortS_eq {xs ys:List Str} (hp:ys.Perm xs) (hs:sortedS ys=true):Ju xs=ys:=by
 have h:∃ ys:List Str,ys.Perm xs∧sortedS ys=true:=⟨ys,hp,hs⟩
 unfold Ju
 rw[dif_pos h]
 have c:=Classical.choose_spec h
 exact sorted_one c.2 hs (c.1.trans hp.symm)
def Jv:List D→Option (List Str)
 | []=>some []
 | .str z :: t=>(Jv t).map (z :: ·)
 | _ :: _=>none
theorem Yc (zs:List Str):Jv (zs.map .str)=some zs:=by
 induction zs with
 | nil=>rfl
 | cons b t ih=>rw[List.map_cons,Jv,ih]; rfl
theorem Ys:∀ {ds:List D} {zs:List Str},Jv ds=some zs→ds=zs.map .str
 | [],zs,h=>by cases h; rfl
 | d :: t,zs,h=>by
  cases d with
  | str z =>
   cases e:Jv t with
   | none=>simp [Jv,e] at h
   | some l =>
    simp [Jv,e] at h
    subst h
    rw[Ys e]; rfl
  | _=>cases h
theorem strs_ok {vs:List V} {zs:List Str} (h:Ja K G vs (zs.map .str)):vs=zs.map V.str:=by
 induction zs generalizing vs with
 | nil=>cases h; rfl
 | cons z t ih =>
  cases h with
  | cons h1 h2 =>
   cases h1
   rw[ih h2]; rfl
theorem rv_strs (zs:List Str):Ja K G (zs.map V.str) (zs.map .str):=by
 induction zs with
 | nil=>exact .nil
 | cons z t ih=>exact .cons (.str z) ih
noncomputable def sortU (u:U) (S:Qa):Res U:=match dat u S with
 | some (.tup ds)=>match Jv ds with
  | some zs=>if zs.length < 64 then .ok (.d (.lst ((Ju zs).map .str))) S else .bad
  | none=>.bad
 | some (.lst ds)=>match Jv ds with
  | some zs=>if zs.length < 64 then .ok (.d (.lst ((Ju zs).map .str))) S else .bad
  | none=>.bad
 | _=>.bad
theorem cd_sorted:Xa X (.builtin "sorted") (c1 sortU):=call1 cr_sortedLT fun Wx P ι G S H v u σ Q s r post=>by
 have key:∀ ds,(dat u S=some (.lst ds)∨dat u S=some (.tup ds))→Post (RU X.K) X.K Wx P ι G σ Q (match Jv ds with
  | some zs=>if zs.length < 64 then .ok (.d (.lst ((Ju zs).map .str))) S else .bad
  | none=>.bad)→rSortedLT X.K [v] H Q:=by
  intro ds h post
  obtain⟨a,xs,rfl,sq,rv⟩:=seq_any s r h
  split at post
  ·rename_i zs hz
   split at post
   ·rename_i h64
    rw[Ys hz] at rv
    obtain rfl:=strs_ok rv
    refine⟨a,zs,rfl,sq,h64,fun ys p hp hs hn=>?_⟩
    rw[sortS_eq hp hs] at post
    exact post ι _ _ (.ref p) (List.prefix_refl _) (s.exN hn) (s.new hn) (.lst (SqL.of upd_same) (rv_strs ys))
   ·exact post.elim
  ·exact post.elim
 unfold sortU at post
 split at post
 ·rename_i ds h
  exact key ds (.inr h) post
 ·rename_i ds h
  exact key ds (.inl h) post
 ·exact post.elim
end
end DL
namespace DL
open PySem PySem.Spec PyProof.Rows L2
open He (ga ma)
open Evl (Ex)
open TL (tl)
section
variable {X:Cx} {K:PySem.W.Frag} {Wx:WX} {P:Hp} {ι:List Addr} {G H:Hp} {S:Qa} {σ:L2.St} {Q:VK}
def Zf (u:U) (S:Qa):Option (Nat × List U):=match u with
 | .r n=>match S[n]? with
  | some (.lst us)=>some (n,us)
  | _=>none
 | _=>none
theorem cell_at {v:V} {u:U} {n:Nat} {us:List U} (s:Sr K P ι G S H) (r:RU K ι G v u) (h:Zf u S=some (n,us)):∃ a vs,v=.ref a∧S[n]?=some (.lst us)∧ι[n]?=some a∧G a=none∧H a=some (.lst vs)∧RUs K ι G vs us:=by
 unfold Zf at h
 split at h
 ·rename_i m
  split at h
  ·rename_i ws hc
   simp only[Option.some.injEq,Prod.mk.injEq] at h
   obtain⟨rfl,rfl⟩:=h
   obtain⟨a,hn,hv⟩:=r
   obtain⟨h0,vs,h1,h2⟩:=s.at_ m _ a hc hn
   exact⟨a,vs,hv,hc,hn,h0,h1,h2⟩
  ·cases h
 ·cases h
theorem put_ok {n:Nat} {a:Addr} {us us':List U} {vs':List V} (s:Sr K P ι G S H) (hc:S[n]?=some (.lst us)) (hn:ι[n]?=some a) (hg:G a=none) (r:RUs K ι G vs' us'):Sr K P ι G (S.set n (.lst us')) (upd H a (.lst vs')) :=
 s.put hc hn hg ⟨hg,vs',upd_same,r⟩
def appU (u:U) (ws:List U) (S:Qa):Res U:=match Zf u S,ws with
 | some (n,us),[w]=>if us.length < sizeLine then .ok (.d .non) (S.set n (.lst (us++[w]))) else .bad
 | _,_=>.bad
theorem Yz:MtD X "list.append" appU:=by
 refine⟨_,mt_append,fun Wx P ι G S H v vs u us σ Q s r rs post=>?_⟩
 unfold appU at post
 split at post
 ·rename_i n cs w hc
  split at post
  ·rename_i hz
   obtain⟨a,xs,rfl,h1,h2,h3,h4,h5⟩:=cell_at s r hc
   cases rs with
   | cons r1 rr =>
    cases rr
    exact⟨a,xs,_,rfl,rfl,h4,by rw[Qm h5]; exact hz,post.ok (put_ok s h1 h2 h3 (Jz h5 (.cons r1 .nil))) .non⟩
  ·exact post.elim
 ·exact post.elim
def popU (u:U) (ws:List U) (S:Qa):Res U:=match Zf u S,ws with
 | some (n,us),[.d (.int i)]=>if -(2 ^ 63)≤i∧i < 2 ^ 63 then match seqIndex? i us.length with
  | some k=>match us[k]? with
   | some y=>.ok y (S.set n (.lst (us.eraseIdx k)))
   | none=>.bad
  | none=>.bad else .bad
 | _,_=>.bad
theorem paired_erase {α β:Type} {F:α→β→Prop} : ∀ {l1:List α} {l2:List β} (k:Nat),Paired F l1 l2→Paired F (l1.eraseIdx k) (l2.eraseIdx k)
 | _,_,_,.nil=>.nil
 | _,_,0,.cons _ t=>t
 | _,_,k + 1,.cons f t=>.cons f (paired_erase k t)
theorem md_popAt:MtD X "list.pop" popU:=by
 refine⟨_,mt_popAt,fun Wx P ι G S H v vs u us σ Q s r rs post=>?_⟩
 unfold popU at post
 split at post
 ·rename_i n cs i hc
  split at post
  ·rename_i hi
   split at post
   ·rename_i k hk
    split at post
    ·rename_i y hy
     obtain⟨a,xs,rfl,h1,h2,h3,h4,h5⟩:=cell_at s r hc
     cases rs with
     | cons r1 rr =>
      cases rr
      cases r1
      obtain⟨w,hw,rw'⟩:=Ui h5 hy
      exact⟨a,xs,i,k,w,rfl,rfl,h4,hi.1,hi.2,by rw[Qm h5]; exact hk,hw,post.ok (put_ok s h1 h2 h3 (paired_erase k h5)) rw'⟩
    ·exact post.elim
   ·exact post.elim
  ·exact post.elim
 ·exact post.elim
def insU (u:U) (ws:List U) (S:Qa):Res U:=match Zf u S,ws with
 | some (n,us),[.d (.int i),w]=>if us.length < sizeLine∧0≤i∧i < 2 ^ 63 then .ok (.d .non) (S.set n (.lst (us.take i.toNat++[w]++us.drop i.toNat))) else .bad
 | _,_=>.bad
theorem md_insert:MtD X "list.insert" insU:=by
 refine⟨_,mt_insert,fun Wx P ι G S H v vs u us σ Q s r rs post=>?_⟩
 unfold insU at post
 split at post
 ·rename_i n cs i w hc
  split at post
  ·rename_i hi
   obtain⟨a,xs,rfl,h1,h2,h3,h4,h5⟩:=cell_at s r hc
   cases rs with
   | cons r1 rr =>
    cases rr with
    | cons r2 rr =>
     cases rr
     cases r1
     exact⟨a,xs,i,_,rfl,rfl,h4,by rw[Qm h5]; exact hi.1,hi.2.1,hi.2.2,post.ok (put_ok s h1 h2 h3 (Jz (Jz (U3 _ h5) (.cons r2 .nil)) (U0 _ h5))) .non⟩
  ·exact post.elim
 ·exact post.elim
/-- what a list or tuple of texts holds -/
def Uv (u:U) (S:Qa):Option (List Str):=match dat u S with
 | some (.tup ds)=>Jv ds
 | some (.lst ds)=>Jv ds
 | _=>none
theorem txts_ok {v:V} {u:U} {zs:List Str} (s:Sr K P ι G S H) (r:RU K ι G v u) (h:Uv u S=some zs):∃ a,v=.ref a∧(SqL K H a (zs.map V.str)∨SqT K H a (zs.map V.str)):=by
 unfold Uv at h
 split at h
 ·rename_i ds hd
  obtain⟨a,xs,hv,sq,rv⟩:=seq_any s r (.inr hd)
  rw[Ys h] at rv
  obtain rfl:=strs_ok rv
  exact⟨a,hv,sq⟩
 ·rename_i ds hd
  obtain⟨a,xs,hv,sq,rv⟩:=seq_any s r (.inl hd)
  rw[Ys h] at rv
  obtain rfl:=strs_ok rv
  exact⟨a,hv,sq⟩
 ·cases h
def joinU (u:U) (ws:List U) (S:Qa):Res U:=match u,ws with
 | .d (.str a),[w]=>match Uv w S with
  | some ys=>if (ys.map (·.length)).sum + ys.length * a.length≤16777216 then .ok (.d (.str (Txt.join a ys))) S else .bad
  | none=>.bad
 | _,_=>.bad
theorem md_join:MtD X "str.join" joinU:=by
 refine⟨_,mt_join,fun Wx P ι G S H v vs u us σ Q s r rs post=>?_⟩
 unfold joinU at post
 split at post
 ·split at post
  ·rename_i ys hy
   split at post
   ·rename_i hz
    cases r
    cases rs with
    | cons r1 rr =>
     cases rr
     obtain⟨p,rfl,sq⟩:=txts_ok s r1 hy
     exact⟨_,p,ys,rfl,rfl,sq,hz,post.ok s (.str _)⟩
   ·exact post.elim
  ·exact post.elim
 ·exact post.elim
def tyU (T:String) (u:U) (S:Qa):Bool:=match u with
 | .d (.str _)=>T == "str"
 | .d (.lst _)=>T == "list"
 | .r n=>match S[n]? with
  | some (.lst _)=>T == "list"
  | _=>false
 | _=>false
theorem ty_ok {T:String} {v:V} {u:U} (s:Sr K P ι G S H) (r:RU K ι G v u) (h:tyU T u S=true):tyV K T v H:=by
 unfold tyU at h
 split at h
 ·cases r; exact beq_iff_eq.mp h
 ·cases r with
  | lst a1 a2=>exact .inl ⟨beq_iff_eq.mp h,_,Evl.ex_l s.ex a1⟩
 ·rename_i n
  obtain⟨a,hn,hv⟩:=r
  subst hv
  split at h
  ·rename_i us hc
   obtain⟨_,vs,h1,_⟩:=s.at_ n _ a hc hn
   exact .inl ⟨beq_iff_eq.mp h,_,SqL.of h1⟩
  ·cases h
 ·cases h
variable {o e:Expr} {es:List Expr} {name:Str} {apos cpos:Pos} {T id:String} {A:Env→Qa→Res U} {As:Env→Qa→Res (List U)} {g:U→List U→Qa→Res U}
theorem Uw (pa:PlainAttrs T) (slot:Slot T name id) (hty:typeOf (.builtin id)=pure (.type "method_descriptor")) (hm:MtD X id g) (ho:PD X Wx o A) (ha:PDA X Wx (e :: es) As)
  (hbase:attributeBase o name X.env (eval o X.env)=eval o X.env:=by rfl)
  (hfew:((backTo cpos (starEach (e :: es) X.env)).all (fun x=>!x.1) && (backToKw cpos (keywordEach [] X.env)).all (fun x=>x.1.isSome)
   && decide ((e :: es).length + ([]:List Keyword).length + (if ([]:List Keyword).isEmpty then 0 else 1) < 30))=true:=by rfl)
  (hline:(apos.endLine == cpos.line)=true:=by rfl) (hs:starEach (e :: es) X.env=(false,eval e X.env) :: starEach es X.env:=by rfl) (hplain:(backTo cpos (starEach es X.env)).any (·.1)=false:=by rfl) :
  PD X Wx (.Call (.Attribute o name apos) (e :: es) [] cpos) (fun ρ S=>(A ρ S).bind fun u S=>if tyU T u S=true then (As ρ S).bind fun us S=>g u us S else .bad):=by
 obtain⟨r,hr,h⟩:=hm
 obtain⟨ta,pa',da⟩:=ho
 obtain⟨tb,pb,db⟩:=ha
 refine⟨_,pe_bm pa slot hty hr pa' pb hbase hfew hline hs hplain,fun P ι G σ S H ρ Q s e post=>?_⟩
 refine da P ι G σ S H ρ _ s e (post.bind fun u S1 ι1 G1 H1 v p1 e1 s1 rv post1=>?_)
 split at post1
 ·rename_i ht
  refine⟨ty_ok s1 rv ht,db P ι1 G1 σ S1 H1 ρ _ s1 (e.up p1 e1) (post1.bind fun us S2 ι2 G2 H2 vs p2 e2 s2 rvs post2=>?_)⟩
  exact h Wx P ι2 G2 S2 H2 v vs u us σ Q s2 (rv.up p2 e2) rvs post2
 ·exact post1.elim
def setU (u i w:U) (S:Qa):Option Qa:=match Zf u S,i with
 | some (n,us),.d (.int k)=>(ixN us.length k).map fun j=>S.set n (.lst (us.set j w))
 | _,_=>none
theorem pdg_sub {i:Expr} {I:Env→Qa→Res U} {pos:Pos} (ho:PD X Wx o A) (hi:PD X Wx i I) (h:∀ {to ti:TE},PE X o to→PE X i ti→PG X (.Subscript o i pos) (gSub to ti rSetL)) :
  PDG X Wx (.Subscript o i pos) [] (fun w ρ S=>(A ρ S).bind fun u S=>(I ρ S).bind fun k S=>match setU u k w S with | some S'=>.ok ρ S' | none=>.bad):=by
 obtain⟨ta,pa',da⟩:=ho
 obtain⟨tb,pb,db⟩:=hi
 refine⟨_,h pa' pb,fun P ι G σ S H ρ v w Q s e r post=>?_⟩
 refine da P ι G σ S H ρ _ s e (post.bind fun u S1 ι1 G1 H1 v1 p1 e1 s1 rv post1=>?_)
 refine db P ι1 G1 σ S1 H1 ρ _ s1 (e.up p1 e1) (post1.bind fun k S2 ι2 G2 H2 v2 p2 e2 s2 rv2 post2=>?_)
 split at post2
 ·rename_i S' hS
  unfold setU at hS
  split at hS
  ·rename_i n us j hc
   cases rv2
   cases hx:ixN us.length j with
   | none=>rw[hx] at hS; cases hS
   | some m =>
    rw[hx] at hS
    obtain rfl:_=S':=Option.some.inj hS
    obtain⟨a,xs,rfl,h1,h2,h3,h4,h5⟩:=cell_at s2 (rv.up p2 e2) hc
    refine⟨a,xs,j,m,rfl,rfl,h4,by rw[Qm h5]; exact hx,?_⟩
    exact post2.ok (put_ok s2 h1 h2 h3 (Jy ((r.up p1 e1).up p2 e2) m h5)) (RT.refl ((e.up p1 e1).up p2 e2))
  ·cases hS
 ·exact post2.elim
end
end DL
namespace DL
open PySem PySem.Spec PyProof.Rows L2
open He (ga ma)
open Evl (Ex)
open TL (tl)
section
variable {X:Cx} {K:PySem.W.Frag} {Wx:WX} {P:Hp} {ι:List Addr} {G H:Hp} {S:Qa} {σ:L2.St} {Q:VK}
theorem RvF.look:∀ {vs:List (Str × V)} {fs:List (Str × D)} {f:Str} {d:D},RvF K G vs fs→fs.lookup f=some d→∃ v,vs.lookup f=some v∧Rv K G v d
 | _,_,f,d,.nil,h=>by cases h
 | _,_,f,d,.cons (f:=g) h1 h2,h=>by
  rw[List.lookup_cons] at h ⊢
  cases e:(f == g) with
  | true =>
   rw[e] at h
   obtain rfl:=Option.some.inj h
   exact⟨_,rfl,h1⟩
  | false =>
   rw[e] at h
   exact RvF.look h2 h
theorem RvF.none:∀ {vs:List (Str × V)} {fs:List (Str × D)} {f:Str},RvF K G vs fs→fs.lookup f=none→vs.lookup f=none
 | _,_,f,.nil,h=>rfl
 | _,_,f,.cons (f:=g) h1 h2,h=>by
  rw[List.lookup_cons] at h ⊢
  cases e:(f == g) with
  | true=>rw[e] at h; cases h
  | false=>rw[e] at h; exact RvF.none h2 h
theorem RUf.look:∀ {vs:List (Str × V)} {fs:List (Str × U)} {f:Str} {d:U},RUf K ι G vs fs→fs.lookup f=some d→∃ v,vs.lookup f=some v∧RU K ι G v d
 | _,_,f,d,.nil,h=>by cases h
 | _,_,f,d,.cons (a:=a) (b:=b) h1 h2,h=>by
  obtain⟨g,v⟩:=a
  obtain⟨g',u⟩:=b
  obtain⟨rfl,h1⟩:=h1
  rw[List.lookup_cons] at h ⊢
  cases e:(f == g) with
  | true =>
   rw[e] at h
   obtain rfl:=Option.some.inj h
   exact⟨_,rfl,h1⟩
  | false =>
   rw[e] at h
   exact RUf.look h2 h
theorem RUf.none:∀ {vs:List (Str × V)} {fs:List (Str × U)} {f:Str},RUf K ι G vs fs→fs.lookup f=none→vs.lookup f=none
 | _,_,f,.nil,h=>rfl
 | _,_,f,.cons (a:=a) (b:=b) h1 h2,h=>by
  obtain⟨g,v⟩:=a
  obtain⟨g',u⟩:=b
  obtain⟨rfl,h1⟩:=h1
  rw[List.lookup_cons] at h ⊢
  cases e:(f == g) with
  | true=>rw[e] at h; cases h
  | false=>rw[e] at h; exact RUf.none h2 h
def putU (f:Str) (v:U):List (Str × U)→List (Str × U)
 | []=>[(f,v)]
 | (g,x) :: r=>if g=f then (g,v) :: r else (g,x) :: putU f v r
theorem RUf.put {f:Str} {v:V} {u:U} (h:RU K ι G v u):∀ {vs:List (Str × V)} {fs:List (Str × U)},RUf K ι G vs fs→RUf K ι G (putF f v vs) (putU f u fs)
 | _,_,.nil=>.cons ⟨rfl,h⟩ .nil
 | _,_,.cons (a:=a) (b:=b) h1 h2=>by
  obtain⟨g,w⟩:=a
  obtain⟨g',z⟩:=b
  obtain⟨e,h1⟩:=h1
  have e:g=g':=e
  subst e
  unfold putF putU
  split
  ·exact .cons ⟨rfl,h⟩ h2
  ·exact .cons ⟨rfl,h1⟩ (RUf.put h h2)
/-- what class an object has,what it holds -/
def objU (u:U) (S:Qa):Option (Str × List (Str × U)):=match u with
 | .d (.obj c fs)=>some (c,fs.map fun p=>(p.1,.d p.2))
 | .r n=>match S[n]? with
  | some (.obj c fs)=>some (c,fs)
  | some (.frz (.obj c fs))=>some (c,fs.map fun p=>(p.1,.d p.2))
  | _=>none
 | _=>none
theorem RvF.uf:∀ {vs:List (Str × V)} {fs:List (Str × D)},RvF K G vs fs→RUf K ι G vs (fs.map fun p=>(p.1,.d p.2))
 | _,_,.nil=>.nil
 | _,_,.cons h1 h2=>.cons ⟨rfl,h1⟩ (RvF.uf h2)
theorem U4 {v:V} {u:U} {c:Str} {fs:List (Str × U)} (s:Sr K P ι G S H) (r:RU K ι G v u) (h:objU u S=some (c,fs)):∃ a dx vs,v=.ref a∧H a=some (.ins (ga K c) dx vs)∧RUf K ι G vs fs:=by
 unfold objU at h
 split at h
 ·simp only[Option.some.injEq,Prod.mk.injEq] at h
  obtain⟨rfl,rfl⟩:=h
  cases r with
  | obj h1 h2=>exact⟨_,_,_,rfl,s.ex _ _ h1,h2.uf⟩
 ·rename_i n
  obtain⟨a,hn,rfl⟩:=r
  split at h
  ·rename_i hc
   simp only[Option.some.injEq,Prod.mk.injEq] at h
   obtain⟨rfl,rfl⟩:=h
   obtain⟨_,dx,vs,h1,h2⟩:=s.at_ n _ a hc hn
   exact⟨_,dx,vs,rfl,h1,h2⟩
  ·rename_i hc
   simp only[Option.some.injEq,Prod.mk.injEq] at h
   obtain⟨rfl,rfl⟩:=h
   have hr:Rv K G (.ref a) _:=s.at_ n _ a hc hn
   cases hr with
   | obj h1 h2=>exact⟨_,_,_,rfl,s.ex _ _ h1,h2.uf⟩
  ·cases h
 ·cases h
def fldU (cs:List Str) (f:Str) (u:U) (S:Qa):Res U:=match objU u S with
 | some (c,fs)=>if c∈cs then optR (fs.lookup f) id S else .bad
 | none=>.bad
variable {o e:Expr} {es:List Expr} {f m x:Str} {p pos apos pos':Pos} {A B:Env→Qa→Res U} {As Ks:Env→Qa→Res (List U)}
theorem Jr {cs:List Str} (he:PD X Wx e A) (hcs:∀ c∈cs,Cls X.K (ga X.K c)∧NoAttr X.K (ga X.K c) f) (hb:attributeBase e f X.env (eval e X.env)=eval e X.env:=by rfl):PD X Wx (.Attribute e f pos) (fun ρ S=>(A ρ S).bind fun u S=>fldU cs f u S):=by
 obtain⟨ta,pa,da⟩:=he
 refine⟨_,pe_fld pa hb,fun P ι G σ S H ρ Q s e post=>?_⟩
 refine da P ι G σ S H ρ _ s e (post.bind fun u S1 ι1 G1 H1 v p1 e1 s1 rv post1=>?_)
 unfold fldU at post1
 split at post1
 ·rename_i c fs ho
  split at post1
  ·rename_i hc
   obtain⟨a,dx,vs,rfl,h1,h2⟩:=U4 s1 rv ho
   unfold optR at post1
   split at post1
   ·rename_i w hw
    obtain⟨v,hv,r⟩:=h2.look hw
    obtain⟨k1,k2⟩:=hcs c hc
    exact⟨a,_,dx,vs,v,rfl,h1,k1,k2,hv,post1.ok s1 r⟩
   ·exact post1.elim
  ·exact post1.elim
 ·exact post1.elim
def setF (cs:List Str) (f:Str) (u w:U) (S:Qa):Option Qa:=match u with
 | .r n=>match S[n]? with
  | some (.obj c fs)=>if c∈cs∧fs.length < 1000 then some (S.set n (.obj c (putU f w fs))) else none
  | _=>none
 | _=>none
theorem Vg {cs:List Str} (ho:PD X Wx o A) (he:PD X Wx e B) (hcs:∀ c∈cs,Cls X.K (ga X.K c)∧NoAttr X.K (ga X.K c) f) (hs:swapsWith e (some (.Attribute o f pos')) pos.line X.env=pure false:=by rfl) :
  PDS X Wx (.Assign [.Attribute o f pos'] e pos) (fun ρ S=>(B ρ S).fl ρ fun w S=>(A ρ S).fl ρ fun u S=>match setF cs f u w S with | some S'=>.nx ρ S' | none=>.bad):=by
 obtain⟨ta,pa,da⟩:=ho
 obtain⟨tb,pb,db⟩:=he
 refine⟨_,ps_fld pa pb hs,fun P ι G σ S H ρ E s e post=>?_⟩
 refine db P ι G σ S H ρ _ s e (Post.fl e post fun w S1 ι1 G1 H1 v1 p1 e1 s1 rv1 r1 post1=>?_)
 refine da P ι1 G1 σ S1 H1 ρ _ s1 r1 (Post.fl r1 post1 fun u S2 ι2 G2 H2 v2 p2 e2 s2 rv2 r2 post2=>?_)
 split at post2
 ·rename_i S' hS
  unfold setF at hS
  split at hS
  ·rename_i n
   obtain⟨a,hn,rfl⟩:=rv2
   split at hS
   ·rename_i c fs hc
    split at hS
    ·rename_i h
     obtain rfl:_=S':=Option.some.inj hS
     obtain⟨h0,dx,vs,h1,h2⟩:=s2.at_ n _ a hc hn
     obtain⟨k1,k2⟩:=hcs c h.1
     refine⟨a,_,dx,vs,rfl,h1,k1,k2,by rw[Qm h2]; exact h.2,?_⟩
     refine post2 ι2 G2 σ _ (List.prefix_refl _) (Ex.refl _) (s2.put hc hn h0 ⟨h0,dx,_,upd_same,RUf.put (rv1.up p2 e2) h2⟩) r2
    ·cases hS
   ·cases hS
  ·cases hS
 ·exact post2.elim
/-- the methods named m of these classes -/
def MtDs (X:Cx) (k:Nat) (cs:List Str) (m:Str) (fF:Str→Fn):Prop:=∀ c∈cs,Cls X.K (ga X.K c)∧∃ f ps,Meth X.K (ga X.K c) m f∧FD X.prog X.w X.K X.mg X.base k f ps (fF c)
def tMethD (X:Cx) (cs:List Str) (m:Str) (fF:Str→Fn) (Wx:WX) (ta:TE) (t:TA):TE:=fun σ H Q=>ta σ H fun x H1=>∃ a c dx fs,x=.ref a∧c∈cs∧H1 a=some (.ins (ga X.K c) dx fs)∧fs.lookup m=none∧t σ H1 fun vs H2=>∃ n,(∀ us S,us.length ≠ n→fF c us S=.bad)∧spD X.K n (fF c) (.ref a :: vs) H2 Q (WE Wx σ)
theorem spD_len {n n':Nat} {fF:Fn} {vs:List V} {E:XK} (h1:∀ us S,us.length ≠ n→fF us S=.bad) (h:spD K n' fF vs H Q E):spD K n fF vs H Q E:=by
 obtain⟨hl,P,ι,G,S,us,s,r,post⟩:=h
 have:us.length=n:=by
  by_cases z:us.length=n
  ·exact z
  ·rw[h1 us S z] at post; exact post.elim
 exact⟨by rw[Qm r]; exact this,P,ι,G,S,us,s,r,post⟩
theorem pd_meth0 {k:Nat} {cs:List Str} {fF:Str→Fn} {pl:Sem Bool} (hA:X.A.guards=some []) (he:PD X Wx o A) (hm:MtDs X k cs m fF) (hr:Room k X.A) (tk:Takes X Wx)
  (ht:eval (.Call (.Attribute o m apos) [] [] pos) X.env=(do
   let ov ← eval o X.env
   standAt apos.atName
   let (f,first) ← holding [ov] (getMethod ov m pl)
   callWith pos f first (backTo pos (starEach [] X.env)) (backToKw pos (keywordEach [] X.env))):=by rfl) :
  PD X Wx (.Call (.Attribute o m apos) [] [] pos) (fun ρ S=>(A ρ S).bind fun u S=>match objU u S with | some (c,fs)=>if c∈cs∧fs.lookup m=none then fF c [u] S else .bad | none=>.bad):=by
 obtain⟨ta,pa,da⟩:=he
 refine⟨tMethD X cs m fF Wx ta tNil,⟨fun pins s σ H Q I h=>?_⟩,fun P ι G σ S H ρ Q s e post=>?_⟩
 ·refine PySem.W.methodCall_KW (pl:=pl) (thn (pa.run pins s σ H _ I h) fun u s1 ⟨x,H1,I1,rx,a,c,dx,fs,ex,hc,ea,l,n,hn,q⟩=>?_) ht
  subst ex
  obtain rfl:u=Value.ref a:=rx
  obtain⟨k1,f,ps,k2,hlen,fd,F,hb,hk⟩:=hm c hc
  refine getmeth_ok I1 ea k1 k2 l ?_
  exact PySem.W.callWith_K0 (first:=[.ref a]) I1.kIn k2.kp (run_fnGS (us:=[.ref a]) (vs:=[.ref a]) (dvs:=[]) (ds:=[]) (E:=WE Wx) hA F hr hb .nil (passAt tk σ) I1 (.cons rfl .nil) (spD_len hlen q))
 ·refine da P ι G σ S H ρ _ s e (post.bind fun u S1 ι1 G1 H1 v p1 e1 s1 rv post1=>?_)
  split at post1
  ·rename_i c fs ho
   split at post1
   ·rename_i h
    obtain⟨a,dx,vs,rfl,h1,h2⟩:=U4 s1 rv ho
    obtain⟨k1,f,ps,k2,hlen,_⟩:=hm c h.1
    exact⟨a,c,dx,vs,rfl,h.1,h1,h2.none h.2,ps.length,hlen,X4 hlen s1 (.cons rv .nil) post1⟩
   ·exact post1.elim
  ·exact post1.elim
end
end DL
namespace DL
open PySem PySem.Spec PyProof.Rows L2
open He (ga ma)
open Evl (Ex)
open TL (tl)
section
variable {X:Cx} {Wx:WX} {k n:Nat} {f C:Addr} {fd:FuncData} {ps ks:List Str} {sp:Sp} {E:L2.St→XK} {x:Str} {p pos:Pos} {e:Expr} {es:List Expr} {kws:List Keyword} {t tk:TA} {g:List Value→List Value→List Value} {gV:List V→List V→List V} {dvs:List V} {ds:List Value}
theorem under_guards {A:Around} {C:Addr} {us:List Value} {kw:List (Str × Value)} (h:A.guards=some []):(A.under (.builtin "type.__call__" ⟨.ref C :: us,kw⟩)).guards=some []:=by
 first | exact h | simpa [Around.under,Code.weight,Code.isCreation,Code.isGuard,Code.isCaller,Code.frames,Code.isFrame,guardIds] using h
/-- an object is made: __init__ is called with the new object ahead of the arguments,however they are bound -/
theorem run_new {CX:CXT} {pins:List (Addr × Obj)} {σ:L2.St} {H:Hp} {s:Shared} {Q:VK} {us bs:List Value} {kw:List (Str × Value)} {ws:List V} (hA:X.A.guards=some []) (M:Mk X.K C f) (F:FnG X.prog X.w X.K X.mg X.base CX k f fd ps sp) (hr:Room (k + 1) X.A) (hx:PassesAt CX X σ (E σ)) (I:Inv X pins σ H s)
  (hb:∀ s':Shared,X.K.In s'.heap→BindsTo s' fd ⟨Value.ref (s.heap.objs.size + 1) :: us,kw⟩ (ps.zip bs)) (rw:Vals ws bs)
  (h:sp ws (upd (upd H s.heap.objs.size (.own (s.heap.objs.size + 1))) (s.heap.objs.size + 1) (.ins C s.heap.objs.size [])) (fun v H2=>v=.non∧Q (.ref (s.heap.objs.size + 1)) H2) (E σ)) :
  wpAny (model X.prog X.w) X.A (call (.ref C) us kw) (EP X pins σ Q) X.xe s:=by
 have J:=Inv.made (C:=C) I
 refine wp_goes (make_map I.kIn M.makes M.init (beq_iff_eq.mp M.fn) (codeAny_mono (F.run _ (under_guards hA) X.stack _ _ _ bs ws _ (E σ) (hr.make C us kw) (J.env0.make C us kw) (hb _ J.kIn) rw h) fun r s' g=>?_))
 have g':=goes_of J hx g
 match r,g' with
 | .error e,g'=>exact g'
 | .ok (.ret u),⟨v,H',I3,rv,hv,q⟩ =>
  subst hv
  exact⟨rv,V.ref _,H',I3,rfl,q⟩
/-- a new object of the class,__init__ run over it; frozen where it changes no more -/
def makeU (fz:Bool) (c:Str) (iF:Fn) (us:List U) (S:Qa):Res U:=(iF (.r S.length :: us) (S++[.obj c []])).bind fun u S2=>match u with
 | .d .non=>if fz=true then .ok (norm (frzN S.length S2) (.r S.length)) (frzN S.length S2) else .ok (.r S.length) S2
 | _=>.bad
theorem call_postN {K:PySem.W.Frag} {P:Hp} {ι:List Addr} {G H:Hp} {S:Qa} {σ:L2.St} {vs:List V} {us:List U} {Q:VK} {m:Nat} {fF:Fn} (hlen:∀ us S,us.length ≠ m→fF us S=.bad) (s:Sr K P ι G S H) (r:RUs K ι G vs us) (post:Post (RU K) K Wx P ι G σ Q (fF us S)):spD K m fF vs H Q (WE Wx σ):=by
 have h:=X4 (ps:=List.replicate m Str.empty) (fun us S h=>hlen us S (by rw[List.length_replicate] at h; exact h)) s r post
 rw[List.length_replicate] at h
 exact h
theorem make_post {K:PySem.W.Frag} {P:Hp} {ι:List Addr} {G H:Hp} {S:Qa} {σ:L2.St} {Q:VK} {fz:Bool} {c:Str} {iF:Fn} {us:List U} {vs:List V} {m:Nat} (hlen:∀ us S,us.length ≠ m→iF us S=.bad) (s:Sr K P ι G S H) (post:Post (RU K) K Wx P ι G σ Q (makeU fz c iF us S))
  (a dx:Addr) (ha:H a=none) (hd:H dx=none) (hne:dx ≠ a) (r:RUs K (ι++[a]) G vs us):spD K m iF (.ref a :: vs) (upd (upd H dx (.own a)) a (.ins (ga K c) dx [])) (fun v H2=>v=.non∧Q (.ref a) H2) (WE Wx σ):=by
 have ha':upd H dx (.own a) a=none:=by rw[upd_ne (Ne.symm hne)]; exact ha
 have up:ι <+: ι++[a]:=List.prefix_append ι [a]
 have hg:=(s.fresh ha).1
 have s1:Sr K P (ι++[a]) G (S++[.obj c []]) (upd (upd H dx (.own a)) a (.ins (ga K c) dx [])):=(s.tmp hd).cell ha' ⟨hg,dx,[],upd_same,.nil⟩
 have hn:(ι++[a])[S.length]?=some a:=by rw[← s.len,List.getElem?_append_right (Nat.le_refl _),Nat.sub_self]; rfl
 refine call_postN (Wx:=Wx) (σ:=σ) hlen s1 (.cons (show RU K (ι++[a]) G (.ref a) (.r S.length) from ⟨a,hn,rfl⟩) r) ?_
 unfold makeU at post
 generalize iF (.r S.length :: us) (S++[.obj c []])=q at post
 cases q with
 | bad=>exact post
 | err c' fs S2=>exact fun ι' G' H' od p e s' ea=>post ι' G' H' od (up.trans p) e s' ea
 | ok u S2 =>
  intro ι' G' H' v p e s' rv
  match u,post,rv with
  | .d .non,post1,rv =>
   cases rv
   refine⟨rfl,?_⟩
   cases fz with
   | true =>
    obtain⟨G2,e2,s2⟩:=frzN_ok (n:=S.length) s'
    exact post1 ι' G2 H' (.ref a) (up.trans p) (e.trans e2) s2 (norm_ok s2 (show RU K ι' G2 (.ref a) (.r S.length) from ⟨a,Zt p hn,rfl⟩))
   | false=>exact post1 ι' G' H' (.ref a) (up.trans p) e s' ⟨a,Zt p hn,rfl⟩
theorem pdk_nil:PDK X Wx [] (fun _ S=>.ok [] S):=⟨_,pk_nil,fun P ι G σ S H ρ Q s _ post=>post.ok s .nil⟩
variable {A:Env→Qa→Res U} {As Ks:Env→Qa→Res (List U)} {nm:Option Str} {kpos:Pos}
theorem pdk_cons (ha:PD X Wx e A) (hr:PDK X Wx kws Ks):PDK X Wx (⟨nm,e,kpos⟩ :: kws) (fun ρ S=>(A ρ S).bind fun x S=>(Ks ρ S).bind fun xs S=>.ok (x :: xs) S):=by
 obtain⟨ta,pa,da⟩:=ha
 obtain⟨tb,pb,db⟩:=hr
 refine⟨_,pk_cons pa pb,fun P ι G σ S H ρ Q s e post=>?_⟩
 refine da P ι G σ S H ρ _ s e (post.bind fun x S1 ι1 G1 H1 v p1 e1 s1 rv post1=>?_)
 refine db P ι1 G1 σ S1 H1 ρ _ s1 (e.up p1 e1) (post1.bind fun y S2 ι2 G2 H2 v2 p2 e2 s2 rv2 post2=>?_)
 exact post2.ok s2 (.cons (rv.up p2 e2) rv2)
/-- the class x is made by __init__,which computes iF -/
structure MkD (X:Cx) (k:Nat) (x:Str) (fd:FuncData) (ps:List Str) (iF:Fn):Prop where
 made:Mk X.K (ga X.K x) (ma X.K (ga X.K x) "__init__")
 gl:X.mg x=some (.ref (ga X.K x))
 fn:FnG X.prog X.w X.K X.mg X.base (L2.CX X.prog X.w) k (ma X.K (ga X.K x) "__init__") fd ps (spD X.K ps.length iF)
 len:∀ us S,us.length ≠ ps.length→iF us S=.bad
/-- C(e,..,k=v,..) -/
theorem pd_makeK {iF:Fn} {gU:List U→List U→List U} (fz:Bool) (hA:X.A.guards=some []) (M:MkD X k x fd ps iF) (hr:Room (k + 1) X.A) (tk:Takes X Wx) (hb:KBn X.K fd ps (n + 1) ks g gV)
  (hgU:∀ (ι:List Addr) (G:Hp) (a:Addr) (vs:List V) (us:List U) (zs:List V) (ws:List U),vs.length=n→zs.length=ks.length→RUs X.K ι G vs us→RUs X.K ι G zs ws→∃ ys,gV (.ref a :: vs) zs=.ref a :: ys∧RUs X.K ι G ys (gU us ws))
  (ha:PDA X Wx (e :: es) As) (hkw:PDK X Wx kws Ks) (hg:Gl X x:=by rfl)
  (hall:(backToKw pos (keywordEach kws X.env)).all (·.1.isSome)=true:=by rfl) (hks:(backToKw pos (keywordEach kws X.env)).filterMap (·.1)=ks:=by rfl) (hdb:(x == ("__debug__" : Str))=false:=by decide)
  (he:starEach (e :: es) X.env=(false,eval e X.env) :: starEach es X.env:=by rfl) (hpl:((backTo pos (starEach (e :: es) X.env)).any (·.1) || (backToKw pos (keywordEach kws X.env)).any (·.1.isNone))=false:=by rfl) :
  PD X Wx (.Call (.Name x p) (e :: es) kws pos) (fun ρ S=>(As ρ S).bind fun us S=>(Ks ρ S).bind fun ws S=>if us.length=n∧ws.length=ks.length then makeU fz x iF (gU us ws) S else .bad):=by
 obtain⟨ta,pa,da⟩:=ha
 obtain⟨tb,pb,db⟩:=hkw
 refine⟨fun σ H Q=>ta σ H fun vs H1=>tb σ H1 fun zs H2=>vs.length=n∧zs.length=ks.length∧∀ a dx,H2 a=none→H2 dx=none→dx ≠ a→spD X.K ps.length iF (gV (.ref a :: vs) zs) (upd (upd H2 dx (.own a)) a (.ins (ga X.K x) dx [])) (fun v H2=>v=.non∧Q (.ref a) H2) (WE Wx σ),⟨fun pins s σ H Q I h=>?_⟩,fun P ι G σ S H ρ Q s e post=>?_⟩
 ·refine wpAny_Call_Name_kw (ld_glob I hg M.gl ?_ hdb)
  refine PySem.W.callWith_KW (h₀:=X.base) I.ok.mod.kin M.made.kp hall (thn (pa.run pos pins s σ H _ I h) fun us s1 ⟨vs,H1,I1,r,q⟩=>?_) hpl he
  refine thn (pb.run pos pins s1 σ H1 _ I1 q) fun ws s2 ⟨zs,H2,I2,rz,l1,l2,q2⟩=>⟨I2.kIn,?_⟩
  rw[hks]
  refine run_new (E:=WE Wx) hA M.made M.fn hr (passAt tk σ) I2 (fun s' hK=>hb.to s' _ ws hK ?_ ?_) (hb.rel (.cons (show RelV (V.ref (s2.heap.objs.size + 1)) _ from rfl) r) rz) (q2 _ _ (I2.hok.fresh (Nat.le_succ _)) (I2.hok.fresh (Nat.le_refl _)) (Nat.ne_of_lt (Nat.lt_succ_self _)))
  ·show ([]++us).length + 1=n + 1
   rw[List.nil_append,← r.length,l1]
  ·rw[← rz.length,l2]
 ·refine da P ι G σ S H ρ _ s e (post.bind fun us S1 ι1 G1 H1 vs p1 e1 s1 rv post1=>?_)
  refine db P ι1 G1 σ S1 H1 ρ _ s1 (e.up p1 e1) (post1.bind fun ws S2 ι2 G2 H2 zs p2 e2 s2 rz post2=>?_)
  split at post2
  ·rename_i hl
   have rv2:=RUs.up p2 e2 rv
   have l1:vs.length=n:=by rw[Qm rv2]; exact hl.1
   have l2:zs.length=ks.length:=by rw[Qm rz]; exact hl.2
   refine⟨l1,l2,fun a dx ha hd hne=>?_⟩
   have up:ι2 <+: ι2++[a]:=List.prefix_append ι2 [a]
   obtain⟨ys,hy,ry⟩:=hgU (ι2++[a]) G2 a vs us zs ws l1 l2 (RUs.up up (Ex.refl _) rv2) (RUs.up up (Ex.refl _) rz)
   rw[hy]
   exact make_post M.len s2 post2 a dx ha hd hne ry
  ·exact post2.elim
end
end DL
namespace DL
open PySem PySem.Spec PyProof.Rows L2
open He (ga ma)
open Evl (Ex)
section
variable {X:Cx} {pins:List (Addr × Obj)} {σ:L2.St} {H:Hp} {cls:Value} {d:Option Addr} {a:Addr} {s:Shared}
/-- the exception at a is in hand,the frame stands as Inv says -/
structure Yk (X:Cx) (pins:List (Addr × Obj)) (σ:L2.St) (H:Hp) (cls:Value) (d:Option Addr) (a:Addr) (s:Shared):Prop where
 ex:∃ (B:Heap) (sI:Shared),Inv X pins σ H sI∧(∀ b o,sI.heap.get? b=some o→b ∉ frs X.stack→B.get? b=some o)∧sI.heap.UpToSlots s.heap∧s.os=sI.os∧AllBare s.gens∧HandSPX.FlyingZ B X.stack a (Zc cls d) s.heap
 na:H a=none
theorem Yk.inv (c:Yk X pins σ H cls d a s):Inv X pins σ H s:=by
 obtain⟨⟨B,sI,I,nb,up,os,ag,fl⟩,_⟩:=c
 exact I.landed nb fl.1 up os ag
theorem Yk.obj (c:Yk X pins σ H cls d a s):∃ oe,s.heap.get? a=some oe∧Zc cls d oe∧∃ vs,oe.data=.fields vs:=by
 obtain⟨⟨B,sI,I,nb,up,os,ag,fl⟩,_⟩:=c
 obtain⟨oe,vs,h1,h2,h3⟩:=fl.there
 exact⟨oe,h1,h2,vs,h3⟩
/-- it is no frame -/
theorem Yk.apart (c:Yk X pins σ H cls d a s):a ∉ frs X.stack:=by
 intro hm
 obtain⟨oe,h1,_,vs,h3⟩:=c.obj
 obtain⟨⟨B,sI,I,nb,up,os,ag,fl⟩,_⟩:=c
 obtain⟨_,o,ho,hno⟩:=fl.2.2.1.mem hm
 obtain rfl:=Option.some.inj (h1.symm.trans ho)
 exact hno _ h3
theorem Yk.suite (c:Yk X pins σ H cls d a s) (hs:X.stack=X.env :: X.outer) (hf:X.env.frame=some X.env.locals) :
  ∃ oe,Zc cls d oe∧(∃ vs,oe.data=.fields vs)∧s.heap.get? a=some oe∧Inv (X.suite a ((a,oe) :: (X.pn++pins))) [] σ H s:=by
 obtain⟨oe,h1,h2,vs,h3⟩:=c.obj
 have ap:=c.apart
 rw[hs] at ap
 refine⟨oe,h2,⟨vs,h3⟩,h1,c.inv.suite h1 h3 c.na (fun z=>ap ?_) fun hm=>ap ?_⟩
 ·exact List.mem_filterMap.mpr ⟨_,List.mem_cons_self,by rw[hf,z]⟩
 ·obtain⟨e,he,q⟩:=List.mem_filterMap.mp hm
  exact List.mem_filterMap.mpr ⟨e,List.mem_cons_of_mem _ he,q⟩
/-- a clause's suite begins -/
theorem Yk.again {M:Model} {A:Around} {E:Value→Shared→Prop} {Q:Unit→Shared→Prop} (c:Yk X pins σ H cls d a s) (h:∀ s',Yk X pins σ H cls d a s'→Q () s'):wpAny M A (setFlight (.ref a) none) Q E s:=by
 obtain⟨⟨B,sI,I,nb,up,os,ag,fl⟩,na⟩:=c
 exact HandSPX.lands_againZ fl fun h4 fl4 up4=>h { s with heap:=h4 } ⟨⟨B,sI,I,nb,up.trans up4,os,ag,fl4⟩,na⟩
/-- no clause serves: it goes on -/
theorem Yk.out {W:WX} {Q:Flow→Shared→Prop} (c:Yk X pins σ H cls d a s) (hf:X.env.frame=some X.env.locals) (tk:Takes X W) (w:W cls d σ H):wpAny (model X.prog X.w) X.A (handleBy (.ref a) X.env []) Q X.xe s:=by
 obtain⟨⟨B,sI,I,nb,up,os,ag,fl⟩,na⟩:=c
 refine wpAny_handleBy_nil ?_
 have go:wpAny (model X.prog X.w) X.A (setFlight (.ref a) X.env.frame) (fun _ s4=>wpAny (model X.prog X.w) X.A (throw (.ref a):Sem Flow) Q X.xe s4) X.xe s:=by
  rw[hf]
  exact HandSPX.setFlight_upZ fl fun h4 hh up4=>wpAny_throw (tk _ _ ⟨a,B,sI,pins,σ,H,cls,d,rfl,I,nb,up.trans up4,.inr (.inr hh),na,os,ag,w⟩)
 obtain⟨_,_,_,oe,vs,T,oT,ts,he,_,hd,h1,_⟩:=fl
 unfold PySem.passOn
 refine wpAny_bind (wpAny_field he hd h1 ?_)
 have hT:¬ ((Value.ref T == Value.none)=true):=by simp
 rw[if_neg hT]
 first | exact wpAny_bind (wpAny_pure (wpAny_bind go)) | exact wpAny_bind go
/-- what stands in the air over the try comes into hand -/
theorem caught_of {W:WX} {u:Value} {pn:List (Addr × Obj)} {xe E₁:Value→Shared→Prop} {Q:Unit→Shared→Prop} (ok:X.Ok) (hs:X.stack=X.env :: X.outer) (hf:X.env.frame=some X.env.locals) (x:XE (X.tr (X.pn++pins) xe) W u s)
  (h:∀ a σ H cls d s',u=.ref a→Yk X pins σ H cls d a s'→W cls d σ H→Q () s'):wpAny (model X.prog X.w) X.A (noteFrame u X.env) (fun _ s2=>wpAny (model X.prog X.w) X.A (setFlight u none) Q E₁ s2) E₁ s:=by
 obtain⟨a,B,sI,pins',σ,H,cls,d,rfl,J,nb,up,sky,na,os,ag,w⟩:=x
 have sk:Sky B (X.env :: X.outer) a (Zc cls d) X.env.locals s.heap:=by rw[← hs]; exact sky
 refine Sky.land Zc.steady (by rw[ok.frames,hs]) hf sk fun h3 fl up3=>?_
 exact h a σ H cls d { s with heap:=h3 } rfl ⟨⟨B,sI,J.ofTry ok,nb,up.trans up3,os,ag,by rw[hs]; exact fl⟩,na⟩ w
end
def mt (c cn:Str):Bool:=c == cn || cn == ("WhichError" : Str)
abbrev Cl:=Str × (List (Str × D)→Env→Qa→Res U)
def hdlU (c:Str) (fs:List (Str × D)) (ρ:Env) (S:Qa):List Cl→Fl
 | []=>.err c fs ρ S
 | (cn,F) :: r=>if mt c cn=true then (match F fs ρ S with | .ok u S'=>.rt u S' | _=>.bad) else hdlU c fs ρ S r
def tryU (cs:List Str) (cl:List Cl) (f:Fl):Fl:=match f with
 | .err c fs ρ S=>if c∈cs then hdlU c fs ρ S cl else .bad
 | f=>f
def setO (σ:L2.St) (io:Option Nat) (a:Addr):L2.St:=match io with
 | none=>σ
 | some i=>σ.set i (some (.ref a))
/-- what a clause returns,by the fields of its error -/
def PX (X:Cx) (cs:List Str) (io:Option Nat) (e:Expr) (F:List (Str × D)→Env→Qa→Res U):Prop:=∀ (a:Addr) (oe:Obj) (d:Option Addr) (pn:List (Addr × Obj)) (c:Str),c∈cs→Zc (.ref (ga X.K c)) d oe→(∃ vs,oe.data=.fields vs) →
 ∃ t,PE (X.suite a ((a,oe) :: pn)) e t∧∀ fs P ι G σ0 S H ρ Q,Sr X.K P ι G S H→RelE X.K ι G σ0 ρ→(∀ i,io=some i→i < σ0.length)→ErrAt X.K G d fs→Post (RU X.K) X.K Wbot P ι G σ0 Q (F fs ρ S)→t (setO σ0 io a) H Q
inductive ClOk (X:Cx) (cs:List Str):List ExceptHandler→List Cl→Prop
 | nil:ClOk X cs [] []
 | one {x cn:Str} {e:Expr} {F:List (Str × D)→Env→Qa→Res U} {np rp pos':Pos} {hds:List ExceptHandler} {cl:List Cl} (hc:Names X x (.ref (ga X.K cn))) (hm:∀ c∈cs,PySem.W.exmOne X.K (.ref (ga X.K c)) (.ref (ga X.K cn))=some (mt c cn)) (hp:PX X cs none e F) (r:ClOk X cs hds cl) :
   ClOk X cs (.ExceptHandler (some (.Name x np)) none [.Return (some e) rp] pos' :: hds) ((cn,F) :: cl)
 | as {x n cn:Str} {i:Nat} {e:Expr} {F:List (Str × D)→Env→Qa→Res U} {np rp pos':Pos} {hds:List ExceptHandler} {cl:List Cl} (hN:X.N.Nodup) (hi:X.N[i]?=some n) (hl:X.env.kindOf n=some .local) (hc:Names X x (.ref (ga X.K cn)))
   (hm:∀ c∈cs,PySem.W.exmOne X.K (.ref (ga X.K c)) (.ref (ga X.K cn))=some (mt c cn)) (hp:PX X cs (some i) e F) (r:ClOk X cs hds cl) :
   ClOk X cs (.ExceptHandler (some (.Name x np)) (some n) [.Return (some e) rp] pos' :: hds) ((cn,F) :: cl)
section
variable {X:Cx} {pins:List (Addr × Obj)} {σ:L2.St} {H:Hp} {d:Option Addr} {a:Addr} {s:Shared} {Wx:WX} {P:Hp} {ι:List Addr} {G:Hp} {S:Qa} {ρ:Env} {fs:List (Str × D)} {E:Ends} {cs:List Str} {c:Str}
/-- the class that a clause names,asked where the exception is in hand -/
theorem Yk.test {cv:Value} {x:Str} {np:Pos} {b:Bool} {cls:Value} {Q:Bool→Shared→Prop} {E1 E2:Value→Shared→Prop} (k:Yk X pins σ H cls d a s) (hs:X.stack=X.env :: X.outer) (hf:X.env.frame=some X.env.locals) (hc:Names X x cv) (hb:PySem.W.exmOne X.K cls cv=some b) (q:Q b s) :
  wpAny (model X.prog X.w) (X.A.mark (some (.ref a))) (eval (.Name x np) X.env) (fun c' s1=>wpAny (model X.prog X.w) (X.A.mark (some (.ref a))) (excMatches (.ref a) c') Q E1 s1) E2 s:=by
 obtain⟨oe,hz,hd,ho,J⟩:=k.suite hs hf
 have look:PySem.W.Looks (model X.prog X.w) s.heap (typeOf (.ref a)) cls:=fun A Q E s' kp q=>wpAny_typeOf_ref (kp _ _ ho) (by rw[hz.1]; exact q)
 have val:=(PySem.W.exm_one (M:=model X.prog X.w) k.inv.kIn look hb).here (A:=X.A.mark (some (.ref a))) (E:=E1) q
 obtain⟨hg,hdb,hm | ⟨hm,hv,hn⟩⟩:=hc
 ·exact ld_glob (X:=X.suite a ((a,oe) :: (X.pn++pins))) J hg hm val hdb
 ·exact ld_blt (X:=X.suite a ((a,oe) :: (X.pn++pins))) J hg hm hv val hn hdb
/-- a clause's value,as the suite returns it -/
theorem px_run {io:Option Nat} {e:Expr} {F:List (Str × D)→Env→Qa→Res U} {rp:Pos} {oe:Obj} {pn:List (Addr × Obj)} {s5:Shared} (hp:PX X cs io e F) (hc:c∈cs) (hz:Zc (.ref (ga X.K c)) d oe) (hd:∃ vs,oe.data=.fields vs) (J:Inv (X.suite a ((a,oe) :: pn)) [] (setO σ io a) H s5) (hio:∀ i,io=some i→i < σ.length)
  (sr:Sr X.K P ι G S H) (r:RelE X.K ι G σ ρ) (ea:ErrAt X.K G d fs) {u:U} {S':Qa} (hF:F fs ρ S=.ok u S') (post:Jj X.K Wx P ι G E (.rt u S')) :
  wpAny (model X.prog X.w) (X.suite a ((a,oe) :: pn)).A (execs [.Return (some e) rp] X.env) (fun f s'=>∃ v σ' H' w,f=.ret w∧Inv (X.suite a ((a,oe) :: pn)) [] σ' H' s'∧RelV v w∧E.rt v H') (fun _ _=>False) s5:=by
 obtain⟨t,pe,h⟩:=hp a oe d pn c hc hz hd
 have:=(pss_one (ps_ret (pos:=rp) pe)).run [] s5 (setO σ io a) H { nx:=fun _ _=>False,rt:=E.rt,bk:=fun _ _=>False,ct:=fun _ _=>False } J
  (h fs P ι G σ S H ρ _ sr r hio ea (by rw[hF]; exact fun ι' G' H' v p e s r=>post ι' G' H' v p e s r))
 refine wpAny_mono this (fun f s' g=>?_) fun _ _ z=>z
 cases f with
 | ret w=>obtain⟨v,σ',H',J',rv,q⟩:=g; exact⟨v,σ',H',w,rfl,J',rv,q⟩
 | next=>obtain⟨_,_,_,z⟩:=g; exact z.elim
 | brk=>obtain⟨_,_,_,z⟩:=g; exact z.elim
 | cont=>obtain⟨_,_,_,z⟩:=g; exact z.elim
theorem clauses {hds:List ExceptHandler} {cl:List Cl} (h:ClOk X cs hds cl) (ok:X.Ok) (hs:X.stack=X.env :: X.outer) (hf:X.env.frame=some X.env.locals) (tk:Takes X Wx) (hc:c∈cs) (k:Yk X pins σ H (.ref (ga X.K c)) d a s)
  (sr:Sr X.K P ι G S H) (r:RelE X.K ι G σ ρ) (ea:ErrAt X.K G d fs) (post:Jj X.K Wx P ι G E (hdlU c fs ρ S cl)):wpAny (model X.prog X.w) X.A (handleBy (.ref a) X.env hds) (SP X pins E) X.xe s:=by
 have val:∀ {F:List (Str × D)→Env→Qa→Res U},Jj X.K Wx P ι G E (match F fs ρ S with | .ok u S'=>.rt u S' | _=>.bad)→∃ u S',F fs ρ S=.ok u S'∧Jj X.K Wx P ι G E (.rt u S'):=fun {F} p=>by
  cases hF:F fs ρ S with
  | ok u S'=>rw[hF] at p; exact⟨u,S',rfl,p⟩
  | err _ _ _=>rw[hF] at p; exact p.elim
  | bad=>rw[hF] at p; exact p.elim
 induction h with
 | nil=>exact k.out hf tk (post ι G σ H d (List.prefix_refl _) (Ex.refl _) sr r ea)
 | @one x cn e F np rp pos' hds cl hn hm hp _ ih =>
  refine wpAny_handleBy_cons (codeAny_handlers_test (k.test hs hf hn (hm c hc) ?_)) (by intro q; cases q)
  unfold hdlU at post
  cases hb:mt c cn with
  | false=>rw[hb,if_neg Bool.false_ne_true] at post; exact ih post
  | true =>
   rw[hb,if_pos rfl] at post
   obtain⟨u,S',hF,post⟩:=val post
   refine codeAny_handlers_suite (k.again fun s4 k4=>?_)
   obtain⟨oe,hz,hd,_,J⟩:=k4.suite hs hf
   refine wpAny_mono (px_run (io:=none) (rp:=rp) hp hc hz hd J (fun i z=>nomatch z) sr r ea hF post) (fun f s6 g=>?_) fun _ _ z=>z.elim
   obtain⟨v,σ6,H6,w,rfl,J6,rv,q⟩:=g
   exact⟨v,σ6,H6,J6.unsuite ok,rv,q⟩
 | @as x n cn i e F np rp pos' hds cl hN hi hl hn hm hp _ ih =>
  refine wpAny_handleBy_cons (codeAny_handlers_test (k.test hs hf hn (hm c hc) ?_)) (by intro q; cases q)
  unfold hdlU at post
  cases hb:mt c cn with
  | false=>rw[hb,if_neg Bool.false_ne_true] at post; exact ih post
  | true =>
   rw[hb,if_pos rfl] at post
   obtain⟨u,S',hF,post⟩:=val post
   refine codeAny_handlers_suite_as (k.again fun s4 k4=>?_)
   obtain⟨oe,hz,hd,_,J⟩:=k4.suite hs hf
   have hil:i < σ.length:=by rw[J.len]; exact (List.getElem?_eq_some_iff.mp hi).1
   refine store_ok (X:=X.suite a ((a,oe) :: (X.pn++pins))) (v:=.ref a) J hN hi (.inl hl) rfl (fun s5 J5=>?_) (.inr hl)
   refine wpAny_mono (px_run (io:=some i) (rp:=rp) hp hc hz hd J5 (fun j z=>by obtain rfl:=Option.some.inj z; exact hil) sr r ea hF post) (fun f s6 g=>?_) fun _ _ z=>z.elim
   obtain⟨v,σ6,H6,w,rfl,J6,rv,q⟩:=g
   exact gone_ok (J6.unsuite ok) hN hi hl fun s7 J7=>⟨v,_,H6,J7,rv,q⟩
/-- what the body's errors are wished to be -/
def wTry (K:PySem.W.Frag) (Wx:WX) (E:Ends) (cs:List Str) (cl:List Cl):WX:=fun cls d σ H=>∃ c P ι G S ρ fs,cls=.ref (ga K c)∧c∈cs∧Sr K P ι G S H∧RelE K ι G σ ρ∧ErrAt K G d fs∧Jj K Wx P ι G E (hdlU c fs ρ S cl)
variable {io:Option Nat} {e:Expr} {pos:Pos}
theorem px_of {v:V} {x:D} (h:∀ (a:Addr) (oe:Obj) (pn:List (Addr × Obj)),PE (X.suite a ((a,oe) :: pn)) e (tC v)) (r:∀ G,Rv X.K G v x):PX X cs io e (fun _ _ S=>.ok (.d x) S):=fun a oe d pn c _ _ _ =>
 ⟨_,h a oe pn,fun fs P ι G σ0 S H ρ Q s _ _ _ post=>post.ok s (r G)⟩
theorem px_str {z:Str} {j:Nat} : PX X cs io (.Constant (.str z) j pos) (fun _ _ S=>.ok (.d (.str z)) S):=px_of (fun _ _ _=>pe_str) fun _=>.str z
/-- e.f of the caught error -/
theorem px_fld {i:Nat} {n f:Str} {np:Pos} (hx:∀ c∈cs,XfC X.K (ga X.K c)∧PySem.W.findIn X.K (.ref (ga X.K c)) f=some none) (hv:∀ (a:Addr) (oe:Obj) (pn:List (Addr × Obj)),PE (X.suite a ((a,oe) :: pn)) (.Name n np) (tVar i))
  (hb:attributeBase (.Name n np) f X.env (eval (.Name n np) X.env)=eval (.Name n np) X.env:=by rfl):PX X cs (some i) (.Attribute (.Name n np) f pos) (fun fs _ S=>optR (fs.lookup f) .d S):=fun a oe d pn c hc hz hd=>by
 refine⟨_,pe_xf (hx c hc).1 (hx c hc).2 hz hd (hv a oe pn) hb,fun fs P ι G σ0 S H ρ Q s r hi ea post=>?_⟩
 refine⟨.ref a,List.getElem?_set_self (hi i rfl),rfl,rfl,?_⟩
 simp only[optR] at post
 split at post
 ·rename_i x hx
  rcases ea with ⟨rfl,_⟩ | ⟨dd,vs,rfl,h1,h2⟩
  ·cases hx
  ·obtain⟨v,hv,rv⟩:=h2.look hx
   exact⟨dd,vs,v,rfl,s.ex _ _ h1,hv,post.ok s rv⟩
 ·exact post.elim
/-- (e,e') -/
theorem px_two {e1 e2:Expr} {F1 F2:List (Str × D)→Env→Qa→Res U} {x1} (h1:PX X cs io e1 F1) (h2:PX X cs io e2 F2) (hs1:∀ (a:Addr) (q:List (Addr × Obj)),starEach [e1,e2] (X.suite a q).env=(false,eval e1 (X.suite a q).env) :: starEach [e2] (X.suite a q).env:=by intros; rfl)
  (hs2:∀ (a:Addr) (q:List (Addr × Obj)),starEach [e2] (X.suite a q).env=(false,eval e2 (X.suite a q).env) :: starEach [] (X.suite a q).env:=by intros; rfl) :
  PX X cs io (.Tuple [e1,e2] x1 pos) (fun fs ρ S=>(F1 fs ρ S).bind fun u S=>(F2 fs ρ S).bind fun w S=>mkT [u,w] S):=fun a oe d pn c hc hz hd=>by
 obtain⟨t1,p1,d1⟩:=h1 a oe d pn c hc hz hd
 obtain⟨t2,p2,d2⟩:=h2 a oe d pn c hc hz hd
 refine⟨_,pe_tup (pa_cons p1 (pa_cons p2 pa_nil (hs2 a _)) (hs1 a _)),fun fs P ι G σ0 S H ρ Q s r hi ea post=>?_⟩
 refine d1 fs P ι G σ0 S H ρ _ s r hi ea (post.bind fun u S1 ι1 G1 H1 v q1 k1 s1 rv post1=>?_)
 refine d2 fs P ι1 G1 σ0 S1 H1 ρ _ s1 (r.up q1 k1) hi (ea.ex k1) (post1.bind fun w S2 ι2 G2 H2 v2 q2 k2 s2 rv2 post2=>?_)
 have rr:RUs X.K ι2 G2 [v,v2] [u,w]:=.cons (rv.up q2 k2) (.cons rv2 .nil)
 unfold mkT at post2
 split at post2
 ·rename_i ds hds
  split at post2
  ·exact⟨show 2≤sizeLine by decide,fun p hp=>post2 ι2 _ _ (.ref p) (List.prefix_refl _) (s2.exN hp) (s2.new hp) (.tup (SqT.of upd_same) ((rr.all hds).ex (s2.exN hp)))⟩
  ·exact post2.elim
 ·exact post2.elim
end
end DL
namespace DL
open PySem PySem.Spec PyProof.Rows L2
open He (ga ma)
open Evl (Ex)
open TL (tl)
section
variable {X:Cx} {Wx:WX} {P:Hp} {pos:Pos} {a:Expr} {A:Env→Qa→Res U}
def lenSetU (u:U) (S:Qa):Res U:=match u with
 | .d (.tup ds)=>match Jv ds with
  | some zs=>if zs.length≤1000 then .ok (.d (.int (WT.dcn zs zs.length:Nat))) S else .bad
  | none=>.bad
 | _=>.bad
theorem pd_lenSet {p p2 q:Pos} (hm:X.mg "len" = none) (hm2:X.mg "set" = none) (ha:PD X Wx a A) (hc:X.calm=true:=by rfl) (hg:Gl X "len" := by rfl) (hg2:Gl X "set" := by rfl) (na:starEach [a] X.env=(false,eval a X.env) :: starEach [] X.env:=by rfl) :
  PD X Wx (.Call (.Name "len" p) [.Call (.Name "set" p2) [a] [] q] [] pos) (fun ρ S=>(A ρ S).bind lenSetU):=by
 obtain⟨ta,pa,da⟩:=ha
 refine⟨_,pe_lenSetT hc hg hm hg2 hm2 pa na,fun P ι G σ S H ρ Q s e post=>?_⟩
 refine da P ι G σ S H ρ _ s e (post.bind fun u S1 ι1 G1 H1 v p1 e1 s1 rv post1=>?_)
 unfold lenSetU at post1
 split at post1
 ·split at post1
  ·rename_i zs hz
   split at post1
   ·rename_i hl
    cases rv with
    | tup a1 a2 =>
     rw[Ys hz] at a2
     obtain rfl:=strs_ok a2
     exact⟨_,zs,rfl,Evl.ex_t s1.ex a1,hl,post1.ok s1 (.int _)⟩
   ·exact post1.elim
  ·exact post1.elim
 ·exact post1.elim
theorem Sr.adopt {K:PySem.W.Frag} {ι:List Addr} {G H:Hp} {S:Qa} {p:Addr} {vs:List V} {us:List U} (s:Sr K (upd P p (.lst vs)) ι G S H) (hP:P p=none) (r:RUs K ι G vs us):Sr K P (ι++[p]) G (S++[.lst us]) H:=by
 obtain⟨h1,h2,h3⟩:=s.pin p _ upd_same
 have h3:=h3.ne (by intro _ _ h; cases h)
 have up:ι <+: ι++[p]:=List.prefix_append ι [p]
 have last:∀ {n:Nat} {b:Addr},(ι++[p])[n]?=some b→(n < ι.length∧ι[n]?=some b)∨(n=ι.length∧b=p):=fun {n b} h=>by
  by_cases hn:n < ι.length
  ·rw[List.getElem?_append_left hn] at h; exact .inl ⟨hn,h⟩
  ·have hl:=(List.getElem?_eq_some_iff.mp h).1
   rw[List.length_append] at hl
   have hl':n < ι.length + 1:=hl
   obtain rfl:n=ι.length:=by omega
   rw[List.getElem?_append_right (Nat.le_refl _),Nat.sub_self] at h
   exact .inr ⟨rfl,(Option.some.inj h).symm⟩
 refine⟨s.ex,by rw[List.length_append,List.length_append,s.len]; rfl,?_,fun n c b hc hb=>?_,fun n b hb=>?_,fun b o hb=>?_,fun n c' b k1 k2 k3=>?_⟩
 ·rw[List.nodup_append]
  refine⟨s.nd,by simp,fun b hb c hc e=>?_⟩
  obtain rfl:=List.mem_singleton.mp hc
  subst e
  obtain⟨n,hn,hh⟩:=List.getElem_of_mem hb
  exact h3 n (by rw[List.getElem?_eq_getElem hn,hh])
 ·rcases last hb with ⟨hn,hb'⟩ | ⟨rfl,rfl⟩
  ·rw[List.getElem?_append_left (by rw[← s.len]; exact hn)] at hc
   refine (s.at_ n c b hc hb').up up (Ex.refl G) ?_ fun o h=>h
   cases hg:G b with
   | none=>exact .inl rfl
   | some o=>exact .inr ⟨o,rfl⟩
  ·rw[s.len,List.getElem?_append_right (Nat.le_refl _),Nat.sub_self] at hc
   obtain rfl:Cell.lst us=c:=Option.some.inj hc
   exact⟨h2,vs,h1,r.up up (Ex.refl G)⟩
 ·rcases last hb with ⟨_,hb'⟩ | ⟨_,rfl⟩
  ·exact s.out n b hb'
  ·exact⟨_,h1⟩
 ·have hne:b ≠ p:=ne_of_none hb hP
  obtain⟨k1,k2,k3⟩:=s.pin b o (by rw[upd_ne hne]; exact hb)
  refine⟨k1,k2,fun n hn=>?_⟩
  rcases last hn with ⟨_,hn'⟩ | ⟨_,e⟩
  ·obtain⟨q0,c1,q1,q2⟩:=k3 n hn'
   exact⟨q0,c1,by rw[List.getElem?_append_left (List.getElem?_eq_some_iff.mp q1).1]; exact q1,q2⟩
  ·exact absurd e hne
 ·rcases last k3 with ⟨hn,hb'⟩ | ⟨e,_⟩
  ·rw[List.getElem?_append_left (by rw[← s.len]; exact hn)] at k1
   obtain⟨o1,e1⟩:=s.lk n c' b k1 k2 hb'
   exact⟨o1,by rw[upd_ne (fun z=>h3 n (by rw[hb',z]))] at e1; exact e1⟩
  ·rw[e,s.len,List.getElem?_append_right (Nat.le_refl _),Nat.sub_self] at k1
   obtain rfl:=Option.some.inj k1
   cases k2
variable {elt tg iter:Expr} {ifs:List Expr} {scope:Scope} {own:List (Str × Nat)} {I:Env→Qa→Res Iter} {sl:List Nat} {T:U→Env→Qa→Res Env} {C:Env→Qa→Res Bool} {El:Env→Qa→Res U}
theorem pds_setLcM {i:Nat} {y:Str} {py spos:Pos} (hc:X.calm=true) (hN:X.N.Nodup) (hy:X.N[i]?=some y) (hyl:X.env.scope.names.lookup y=some .local)
  (hsw:swapsWith (.ListComp elt [⟨tg,iter,ifs,0⟩] scope pos) (some (.Name y py)) spos.line X.env=pure true) (hi:PDI X Wx tg iter I) (ok:BlkOk X.N X.env.scope scope own) (hsl:∀ i∈sl,i∈own.map (·.2))
  (hg:∀ (s:Shared) (H:Hp) (C:Addr) (cl:List (Str × Addr)) (fp:List Addr),PDG (X.blk s H scope (compEnvC scope cl C X.env) fp) Wbot tg sl T) (ht:∀ (s:Shared) (H:Hp) (Ca:Addr) (cl:List (Str × Addr)) (fp:List Addr),PDTs (X.blk s H scope (compEnvC scope cl Ca X.env) fp) Wbot ifs C)
  (he:∀ (s:Shared) (H:Hp) (C:Addr) (cl:List (Str × Addr)) (fp:List Addr),PD (X.blk s H scope (compEnvC scope cl C X.env) fp) Wbot elt El) (hs:∀ x,foldedSetIterable iter X.env x=pure x:=by intro _; rfl) :
  PDS X Wx (.Assign [.Name y py] (.ListComp elt [⟨tg,iter,ifs,0⟩] scope pos) spos) (fun ρ S=>((I ρ S).bind fun it S=>(lcU it.g T C El (Yn ρ (own.map (·.2))) it.us [] S).bind mkM).fl ρ fun u S=>.nx (ρ.set i (some u)) S):=by
 obtain⟨w,pi,di⟩:=hi
 refine⟨_,ps_setLc (te:=tOf (RU X.K) X.K Wbot El) (tt:=tOf RB X.K Wbot C) (g:=gOf X.K Wbot sl T) hc hN hy hyl hsw pi ok (fun s H C cl fp=>(hg s H C cl fp).pg) (fun s H C cl fp=>(ht s H C cl fp).pts) (fun s H C cl fp=>(he s H C cl fp).pe) hs,fun P ι G σ S H ρ E s e post=>?_⟩
 have post0:Post (RU X.K) X.K Wx P ι G σ (fun v H'=>E.nx (σ.set i (some v)) H') ((I ρ S).bind fun it S=>(lcU it.g T C El (Yn ρ (own.map (·.2))) it.us [] S).bind mkM) :=
  Post.fl e post fun u S1 ι1 G1 H1 v p1 e1 s1 rv r1 post1=>post1 ι1 G1 _ H1 (List.prefix_refl _) (Ex.refl _) s1 (Jy (show RO X.K ι1 G1 (some v) (some u) from rv) i r1)
 refine di P ι G σ S H ρ _ s e (post0.bind fun it S1 ι1 G1 H1 J p1 e1 s1 gw post1=>fun Dd hD=>?_)
 refine lc_post (Q:=fun v H'=>E.nx (σ.set i (some v)) H') hsl gw s1 (e.up p1 e1) hD post1 fun ι2 G2 H2 S2 xs us p2 e2 s2 r2 post2=>?_
 unfold mkM at post2
 split at post2
 ·refine post2 (ι2++[Dd]) G2 H2 (.ref Dd) (List.prefix_append _ _) (Ex.refl _) (s2.adopt (s1.noPin hD) r2) ⟨Dd,?_,rfl⟩
  rw[← s2.len,List.getElem?_append_right (Nat.le_refl _),Nat.sub_self]
  rfl
 ·exact post2.elim
end
theorem bind_ok {α β:Type} (a:α) (S:Qa) (k:α→Qa→Res β):(Res.ok a S).bind k=k a S:=rfl
theorem bind_err {α β:Type} (c:Str) (fs:List (Str × D)) (S:Qa) (k:α→Qa→Res β):(Res.err c fs S:Res α).bind k=.err c fs S:=rfl
theorem bind_bad {α β:Type} (k:α→Qa→Res β):(Res.bad:Res α).bind k=.bad:=rfl
theorem fl_ok {α:Type} (a:α) (S:Qa) (ρ:Env) (k:α→Qa→Fl):(Res.ok a S).fl ρ k=k a S:=rfl
theorem fl_err {α:Type} (c:Str) (fs:List (Str × D)) (S:Qa) (ρ:Env) (k:α→Qa→Fl):(Res.err c fs S:Res α).fl ρ k=.err c fs ρ S:=rfl
theorem fl_bad {α:Type} (ρ:Env) (k:α→Qa→Fl):(Res.bad:Res α).fl ρ k=.bad:=rfl
theorem seq_nx (ρ:Env) (S:Qa) (k:Env→Qa→Fl):(Fl.nx ρ S).seq k=k ρ S:=rfl
theorem seq_rt (u:U) (S:Qa) (k:Env→Qa→Fl):(Fl.rt u S).seq k=.rt u S:=rfl
theorem seq_err (c:Str) (fs:List (Str × D)) (ρ:Env) (S:Qa) (k:Env→Qa→Fl):(Fl.err c fs ρ S).seq k=.err c fs ρ S:=rfl
theorem seq_bk (ρ:Env) (S:Qa) (k:Env→Qa→Fl):(Fl.bk ρ S).seq k=.bk ρ S:=rfl
theorem seq_ct (ρ:Env) (S:Qa) (k:Env→Qa→Fl):(Fl.ct ρ S).seq k=.ct ρ S:=rfl
theorem seq_bad (k:Env→Qa→Fl):Fl.bad.seq k=.bad:=rfl
theorem gFl_none (S:Qa) (x:Fl):gFl none S x=x:=rfl
theorem gRs_none {α:Type} (S:Qa) (x:Res α):gRs none S x=x:=rfl
theorem norm_d (S:Qa) (x:D):norm S (.d x)=.d x:=rfl
theorem dat_d (S:Qa) (x:D):dat (.d x) S=some x:=rfl
theorem Zg {α:Type} (a:α) (S:Qa):(Res.ok a S).ne=.ok a S:=rfl
/-- a comprehension over data whose element is pure: a map -/
theorem lcU_map {T:U→Env→Qa→Res Env} {El:Env→Qa→Res U} {ρ:Env} {S:Qa} (f:U→U):∀ (us acc:List U),(∀ u∈us,∃ ρ1,T u ρ S=.ok ρ1 S∧El ρ1 S=.ok (f u) S)→acc.length + us.length≤sizeLine→lcU none T (fun _ S=>.ok true S) El ρ us acc S=.ok (acc++us.map f) S
 | [],acc,_,_=>by simp [lcU,gRs]
 | u :: r,acc,h,hl=>by
  obtain⟨ρ1,h1,h2⟩:=h u List.mem_cons_self
  have hl':acc.length + (r.length + 1)≤sizeLine:=hl
  unfold lcU
  rw[gRs_none,h1,Zg,bind_ok,Zg,bind_ok,if_pos rfl,h2,Zg,bind_ok,if_pos (by omega),lcU_map f r (acc++[f u]) (fun w hw=>h w (List.mem_cons_of_mem _ hw)) (by rw[List.length_append]; show acc.length + 1 + r.length≤_; omega)]
  simp
end DL
namespace DL
open PySem PySem.Spec PyProof.Rows L2
open TL (tl)
open Classical in
noncomputable def pre (p:Prop) (r:Res U):Res U:=if p then r else .bad
theorem Zu {p:Prop} {r:Res U} (h:p):pre p r=r:=if_pos h
theorem Z7 {S:Qa} {p:Prop} {r r':Res U} (h:p→Qx S r r'):Qx S (pre p r) r':=by
 unfold pre
 split
 ·rename_i hp; exact h hp
 ·exact .bad _
theorem Ul {S:Qa} {r r':Res U} (h:r'=r):Qx S r r':=by rw[h]; exact .refl r
theorem bodyR_rt (u:U) (S:Qa):Jc (.rt u S)=.ok u S:=rfl
theorem bodyR_nx (ρ:Env) (S:Qa):Jc (.nx ρ S)=.ok (.d .non) S:=rfl
theorem bodyR_err (c:Str) (fs:List (Str × D)) (ρ:Env) (S:Qa):Jc (.err c fs ρ S)=.err c fs S:=rfl
theorem asB_bl (b:Bool) (S:Qa):asB (.d (.bl b)) S=.ok b S:=rfl
theorem tru_bl (b:Bool) (S:Qa):truU (.d (.bl b)) S=.ok b S:=rfl
theorem iff_f {α:Type} (a b:α):(if false=true then a else b)=b:=rfl
theorem iff_t {α:Type} (a b:α):(if true=true then a else b)=a:=rfl
theorem leU_int (i j:Int) (S:Qa):leU (.d (.int i)) (.d (.int j)) S=.ok (.d (.bl (decide (i≤j)))) S:=rfl
theorem ltU_int (i j:Int) (S:Qa):ltU (.d (.int i)) (.d (.int j)) S=.ok (.d (.bl (decide (i < j)))) S:=rfl
theorem gtU_int (i j:Int) (S:Qa):gtU (.d (.int i)) (.d (.int j)) S=.ok (.d (.bl (decide (j < i)))) S:=rfl
theorem geU_int (i j:Int) (S:Qa):geU (.d (.int i)) (.d (.int j)) S=.ok (.d (.bl (decide (j≤i)))) S:=rfl
theorem subU_int (i j:Int) (S:Qa):subU (.d (.int i)) (.d (.int j)) S=.ok (.d (.int (i - j))) S:=rfl
theorem addU_int (i j:Int) (S:Qa):addU (.d (.int i)) (.d (.int j)) S=.ok (.d (.int (i + j))) S:=rfl
theorem len_tup (ds:List D) (S:Qa):lenU (.d (.tup ds)) S=.ok (.d (.int ds.length)) S:=rfl
theorem len_lst (ds:List D) (S:Qa):lenU (.d (.lst ds)) S=.ok (.d (.int ds.length)) S:=rfl
theorem c1_one (g:U→Qa→Res U) (u:U) (S:Qa):c1 g [u] S=g u S:=rfl
theorem c2_two (g:U→U→Qa→Res U) (u w:U) (S:Qa):c2 g [u,w] S=g u w S:=rfl
theorem rd0 (o:U) (ρ:Env) (S:Qa):rdV (some o :: ρ) 0 S=.ok (norm S o) S:=rfl
theorem rdS (o:Option U) (ρ:Env) (i:Nat) (S:Qa):rdV (o :: ρ) (i + 1) S=rdV ρ i S:=rfl
theorem isTy_str:∀ x:D,isTy "str" x=match x with | .str _=>some true | .obj _ _=>none | .ty _=>none | .cls _=>none | .tpl _=>none | _=>some false
 | .non=>by decide +kernel
 | .bl _=>show kitB "bool" "str" = some false by decide +kernel
 | .int _=>show kitB "int" "str" = some false by decide +kernel
 | .str _=>show kitB "str" "str" = some true by decide +kernel
 | .tup _=>show kitB "tuple" "str" = some false by decide +kernel
 | .lst _=>show kitB "list" "str" = some false by decide +kernel
 | .obj _ _=>rfl
 | .ty _=>rfl
 | .cls _=>rfl
 | .tpl _=>rfl
theorem isTy_tup:∀ x:D,isTy "tuple" x=match x with | .tup _=>some true | .obj _ _=>none | .ty _=>none | .cls _=>none | .tpl _=>none | _=>some false
 | .non=>by decide +kernel
 | .bl _=>show kitB "bool" "tuple" = some false by decide +kernel
 | .int _=>show kitB "int" "tuple" = some false by decide +kernel
 | .str _=>show kitB "str" "tuple" = some false by decide +kernel
 | .tup _=>show kitB "tuple" "tuple" = some true by decide +kernel
 | .lst _=>show kitB "list" "tuple" = some false by decide +kernel
 | .obj _ _=>rfl
 | .ty _=>rfl
 | .cls _=>rfl
 | .tpl _=>rfl
structure GD (x:D):Prop where
 pl:x.plain=true
 gd:L2.Gd x.py
theorem GD.ok {x:D} (h:GD x):okD x=true:=by
 unfold okD
 rw[h.pl,h.gd.shaped]; rfl
end DL
namespace DL
open PySem PySem.Spec PyProof.Rows L2
open TL (tl)
/-- plain signs alone -/
def Asc (z:Str):Prop:=∀ c∈tl z,c < 128
theorem gd_str {z:Str} (h:Asc z):gd (.str z)=true:=by
 simp only[gd]
 exact List.all_eq_true.mpr fun c hc=>decide_eq_true (h c hc)
theorem okD_str {z:Str} (h:Asc z):okD (.str z)=true:=by
 have h1:(PyData.str z).canLay0=true:=gd_can _ (gd_str h)
 show (true && SeqAt.shaped (.str z))=true
 unfold SeqAt.shaped
 rw[h1]; rfl
theorem Um:∀ zs:List Str,PyData.depthAll (Jh (zs.map .str))=0
 | []=>rfl
 | z :: t=>by
  show max (PyData.depth (.str z)) (PyData.depthAll (Jh (t.map .str)))=0
  rw[Um t]; rfl
theorem can_strs:∀ {zs:List Str},(∀ z∈zs,Asc z)→PyData.canLayAll0 (Jh (zs.map .str))=true
 | [],_=>rfl
 | z :: t,h=>by
  show (PyData.canLay0 (.str z) && PyData.canLayAll0 (Jh (t.map .str)))=true
  rw[can_strs fun y hy=>h y (List.mem_cons_of_mem _ hy),gd_can _ (gd_str (h z List.mem_cons_self))]; rfl
theorem plain_strs:∀ zs:List Str,Jb (zs.map D.str)=true
 | []=>rfl
 | z :: t=>by show (true && Jb (t.map D.str))=true; rw[plain_strs t]; rfl
theorem okD_lst {zs:List Str} (h:∀ z∈zs,Asc z):okD (.lst (zs.map .str))=true:=by
 show (Jb (zs.map D.str) && (PyData.canLayAll0 (Jh (zs.map .str)) && decide (PyData.depthAll (Jh (zs.map .str)) + 1≤64)))=true
 rw[plain_strs,can_strs h,Um]; rfl
theorem okD_tup {zs:List Str} (h:∀ z∈zs,Asc z):okD (.tup (zs.map .str))=true:=by
 show (Jb (zs.map D.str) && (PyData.canLayAll0 (Jh (zs.map .str)) && decide (PyData.depthAll (Jh (zs.map .str)) + 1≤64)))=true
 rw[plain_strs,can_strs h,Um]; rfl
theorem any_str (zs:List Str) (x:Str):((zs.map D.str).any fun z=>PyData.eqv z.py (D.str x).py)=decide (x∈zs):=by
 rw[List.any_map]
 induction zs with
 | nil=>simp
 | cons z t ih =>
  rw[List.any_cons,ih]
  have e:((fun y:D=>PyData.eqv y.py (D.str x).py) ∘ D.str) z=decide (z=x):=by
   show (z == x)=_
   by_cases h:z=x<;>simp [h]
  rw[e]
  by_cases h:z=x
  ·subst h; simp
  ·have h2:¬ x=z:=fun e=>h e.symm
   simp [h,h2]
theorem Uo {neg:Bool} {x:Str} {zs:List Str} (hx:Asc x) (h:∀ z∈zs,Asc z) (S:Qa):inU neg (.d (.str x)) (.d (.lst (zs.map .str))) S=.ok (.d (.bl (inB neg (decide (x∈zs))))) S:=by
 show (if okD (.str x)=true∧okD (.lst (zs.map .str))=true then Res.ok (U.d (.bl (inB neg ((zs.map D.str).any fun z=>PyData.eqv z.py (D.str x).py)))) S else .bad)=_
 rw[if_pos ⟨okD_str hx,okD_lst h⟩,any_str]
theorem in_tup {neg:Bool} {x:Str} {zs:List Str} (hx:Asc x) (h:∀ z∈zs,Asc z) (S:Qa):inU neg (.d (.str x)) (.d (.tup (zs.map .str))) S=.ok (.d (.bl (inB neg (decide (x∈zs))))) S:=by
 show (if okD (.str x)=true∧okD (.tup (zs.map .str))=true then Res.ok (U.d (.bl (inB neg ((zs.map D.str).any fun z=>PyData.eqv z.py (D.str x).py)))) S else .bad)=_
 rw[if_pos ⟨okD_str hx,okD_tup h⟩,any_str]
theorem cut_to {α:Type} {xs:List α} {i:Nat} (h:i≤xs.length):cutL xs none (some (i:Int))=xs.take i:=by
 unfold cutL
 rw[HT.sIx_none,HT.sIx_nat,Nat.min_eq_left h]
 rfl
def Jo (n:Nat) (ds:List D):List U:=(ds.zipIdx n).map fun p=>.d (.tup [.int (p.2:Nat),p.1])
theorem Qy (n:Nat) (d:D) (t:List D):Jo n (d :: t)=.d (.tup [.int (n:Nat),d]) :: Jo (n + 1) t:=by
 unfold Jo
 rw[List.zipIdx_cons,List.map_cons]
theorem Yl (n:Nat):Jo n []=[]:=rfl
theorem forU_nil (T:U→Env→Qa→Res Env) (B:Env→Qa→Fl) (ρ:Env) (S:Qa):forU none T B [] ρ S=.nx ρ S:=rfl
theorem forU_cons (T:U→Env→Qa→Res Env) (B:Env→Qa→Fl) (u:U) (r:List U) (ρ:Env) (S:Qa):forU none T B (u :: r) ρ S=(T u ρ S).fl ρ fun ρ1 S1=>match B ρ1 S1 with
  | .nx ρ2 S2=>forU none T B r ρ2 S2
  | .ct ρ2 S2=>forU none T B r ρ2 S2
  | .bk ρ2 S2=>.nx ρ2 S2
  | f=>f:=by (conv=>lhs; unfold forU); rfl
/-- a for by its invariant; K: what is wanted of its end -/
theorem loop {T:U→Env→Qa→Res Env} {B:Env→Qa→Fl} (K:Fl→Prop) (I:List U→Env→Qa→Prop)
  (step:∀ u r ρ S,I (u :: r) ρ S→∃ ρ1 S1,T u ρ S=.ok ρ1 S1∧(match B ρ1 S1 with | .nx ρ2 S2=>I r ρ2 S2 | .ct ρ2 S2=>I r ρ2 S2 | .bk ρ2 S2=>K (.nx ρ2 S2) | f=>K f))
  (done:∀ ρ S,I [] ρ S→K (.nx ρ S)):∀ {us:List U} {ρ:Env} {S:Qa},I us ρ S→K (forU none T B us ρ S)
 | [],ρ,S,h=>by rw[forU_nil]; exact done ρ S h
 | u :: r,ρ,S,h=>by
  obtain⟨ρ1,S1,h1,h2⟩:=step u r ρ S h
  rw[forU_cons,h1,fl_ok]
  generalize B ρ1 S1=f at h2
  cases f with
  | nx ρ2 S2=>exact loop K I step done h2
  | ct ρ2 S2=>exact loop K I step done h2
  | bk ρ2 S2=>exact h2
  | rt _ _=>exact h2
  | err _ _ _ _=>exact h2
  | bad=>exact h2
theorem tuple_two (a b:D) (S:Qa):tuple? (.d (.tup [a,b])) S=.ok [.d a,.d b] S:=rfl
theorem mkE_one (c f:Str) (x:D) (ρ:Env) (S:Qa):mkE c [f] [.d x] ρ S=.err c [(f,x)] ρ S:=rfl
theorem eqU_int (i j:Int) (S:Qa):eqU (.d (.int i)) (.d (.int j)) S=.ok (.d (.bl (decide (i=j)))) S:=by
 show (if okD (.int i)=true∧okD (.int j)=true then Res.ok (U.d (.bl (PyData.eqv (.int i) (.int j)))) S else .bad)=_
 rw[if_pos ⟨rfl,rfl⟩]
 have:PyData.eqv (.int i) (.int j)=decide (i=j):=by
  show (i == j)=_
  by_cases h:i=j<;>simp [h]
 rw[this]
theorem neU_int (i j:Int) (S:Qa):neU (.d (.int i)) (.d (.int j)) S=.ok (.d (.bl (!decide (i=j)))) S:=by
 show (if okD (.int i)=true∧okD (.int j)=true then Res.ok (U.d (.bl (!PyData.eqv (.int i) (.int j)))) S else .bad)=_
 rw[if_pos ⟨rfl,rfl⟩]
 have:PyData.eqv (.int i) (.int j)=decide (i=j):=by
  show (i == j)=_
  by_cases h:i=j<;>simp [h]
 rw[this]
theorem eqU_txt (x y:Str) (S:Qa):eqU (.d (.str x)) (.d (.str y)) S=.ok (.d (.bl (decide (x=y)))) S:=rfl
theorem eqU_ok {x y:D} (hx:okD x=true) (hy:okD y=true) (S:Qa):eqU (.d x) (.d y) S=.ok (.d (.bl (PyData.eqv x.py y.py))) S:=by
 have h:(if okD x=true∧okD y=true then Res.ok (U.d (.bl (PyData.eqv x.py y.py))) S else .bad)=.ok (.d (.bl (PyData.eqv x.py y.py))) S:=if_pos ⟨hx,hy⟩
 cases x with
 | str a =>
  cases y with
  | str b =>
   show Res.ok (U.d (.bl (decide (a=b)))) S=_
   have:PyData.eqv (D.str a).py (D.str b).py=decide (a=b):=by
    show (a == b)=_
    by_cases h:a=b<;>simp [h]
   rw[this]
  | _=>exact h
 | _=>exact h
end DL
namespace DL
open PySem PySem.Spec PyProof.Rows L2
open TL (tl)
mutual
/-- plain,ascii,short throughout -/
def J9:D→Bool
 | .non=>true
 | .bl _=>true
 | .int i=>decide (i.natAbs < 10 ^ 100)
 | .str z=>(tl z).all (fun c=>decide (c < 128)) && decide (z.length≤5000)
 | .tup ds=>decide (ds.length < 60) && Y9 ds
 | .lst ds=>decide (ds.length < 60) && Y9 ds
 | _=>false
def Y9:List D→Bool
 | []=>true
 | d :: t=>J9 d && Y9 t
end
theorem niceAll_iff:∀ {ds:List D},Y9 ds=true ↔ ∀ d∈ds,J9 d=true
 | []=>by simp [Y9]
 | d :: t=>by
  show (J9 d && Y9 t)=true ↔ _
  rw[Bool.and_eq_true,niceAll_iff (ds:=t)]
  simp
theorem Xe {ds:List D} : J9 (.tup ds)=true ↔ ds.length < 60∧∀ d∈ds,J9 d=true:=by
 show (decide (ds.length < 60) && Y9 ds)=true ↔ _
 rw[Bool.and_eq_true,decide_eq_true_iff,niceAll_iff]
theorem X7 {z:Str} : J9 (.str z)=true ↔ Asc z∧z.length≤5000:=by
 show ((tl z).all (fun c=>decide (c < 128)) && decide (z.length≤5000))=true ↔ _
 rw[Bool.and_eq_true,decide_eq_true_iff,List.all_eq_true]
 constructor
 ·rintro⟨a,b⟩; exact⟨fun c hc=>of_decide_eq_true (a c hc),b⟩
 ·rintro⟨a,b⟩; exact⟨fun c hc=>decide_eq_true (a c hc),b⟩
mutual
theorem Vw:∀ d:D,J9 d=true→d.plain=true
 | .non,_=>rfl
 | .bl _,_=>rfl
 | .int _,_=>rfl
 | .str _,_=>rfl
 | .tup ds,h=>Xz ds (Bool.and_eq_true_iff.mp h).2
 | .lst ds,h=>Xz ds (Bool.and_eq_true_iff.mp h).2
 | .obj _ _,h=>by cases h
 | .ty _,h=>by cases h
 | .cls _,h=>by cases h
 | .tpl _,h=>by cases h
theorem Xz:∀ ds:List D,Y9 ds=true→Jb ds=true
 | [],_=>rfl
 | d :: t,h=>by
  have h':=Bool.and_eq_true_iff.mp (show (J9 d && Y9 t)=true from h)
  show (d.plain && Jb t)=true
  rw[Vw d h'.1,Xz t h'.2]; rfl
end
mutual
theorem nice_gd:∀ d:D,J9 d=true→gd d.py=true
 | .non,_=>rfl
 | .bl _,_=>rfl
 | .int i,h=>h
 | .str z,h=>gd_str (X7.mp h).1
 | .tup ds,h=>Vx ds (Bool.and_eq_true_iff.mp h).2
 | .lst ds,h=>Vx ds (Bool.and_eq_true_iff.mp h).2
 | .obj _ _,h=>by cases h
 | .ty _,h=>by cases h
 | .cls _,h=>by cases h
 | .tpl _,h=>by cases h
theorem Vx:∀ ds:List D,Y9 ds=true→gdAll (Jh ds)=true
 | [],_=>rfl
 | d :: t,h=>by
  have h':=Bool.and_eq_true_iff.mp (show (J9 d && Y9 t)=true from h)
  show (gd d.py && gdAll (Jh t))=true
  rw[nice_gd d h'.1,Vx t h'.2]; rfl
end
theorem rising_of:∀ {p:Str} {l:List Str},(∀ x∈l,tl p≤tl x)→l.Pairwise (fun a b=>tl a≤tl b)→risingS p l=true
 | p,[],_,_=>rfl
 | p,y :: r,h,hp=>by
  show (!ltCps y.cps.toList p.cps.toList && risingS y r)=true
  rw[Bool.and_eq_true,Bool.not_eq_true',ltCps_eq]
  cases hp with
  | cons h1 h2=>exact⟨decide_eq_false (h y List.mem_cons_self),rising_of h1 h2⟩
theorem sortedS_of:∀ {l:List Str},l.Pairwise (fun a b=>tl a≤tl b)→sortedS l=true
 | [],_=>rfl
 | x :: r,.cons h1 h2=>rising_of h1 h2
theorem Xf (xs:List Str):(Ju xs).Perm xs∧sortedS (Ju xs)=true:=by
 have h:∃ ys:List Str,ys.Perm xs∧sortedS ys=true:=by
  refine⟨xs.mergeSort fun a b=>decide (tl a≤tl b),List.mergeSort_perm _ _,sortedS_of ?_⟩
  have:=List.pairwise_mergeSort (le:=fun a b:Str=>decide (tl a≤tl b)) (fun a b c h1 h2=>by simp only[decide_eq_true_eq] at *; exact List.le_trans h1 h2) (fun a b=>by simp only[Bool.or_eq_true,decide_eq_true_eq]; exact List.le_total _ _) xs
  exact this.imp fun h=>of_decide_eq_true h
 unfold Ju
 rw[dif_pos h]
 exact Classical.choose_spec h
theorem sortS_iff (xs ys:List Str):Ju xs=Ju ys ↔ xs.Perm ys:=sorted_iff (Xf xs).1 (Xf xs).2 (Xf ys).1 (Xf ys).2
theorem sortS_asc {xs:List Str} (h:∀ z∈xs,Asc z):∀ z∈Ju xs,Asc z:=fun z hz=>h z ((Xf xs).1.mem_iff.mp hz)
theorem pyAll_strs (zs:List Str):Jh (zs.map .str)=zs.map .str:=by
 rw[Vf,List.map_map]; rfl
theorem eqv_lists (xs ys:List Str):PyData.eqv (D.lst (xs.map .str)).py (D.lst (ys.map .str)).py=decide (xs=ys):=by
 show PyData.eqv (.list (Jh (xs.map .str))) (.list (Jh (ys.map .str)))=_
 rw[pyAll_strs,pyAll_strs]
 exact eqv_strs xs ys
theorem okD_lists {mss:List (List Str)} (h:∀ m∈mss,∀ z∈m,Asc z):okD (.lst (mss.map fun m=>.lst (m.map .str)))=true:=by
 have h1:∀ {l:List (List Str)},Jb (l.map fun m=>D.lst (m.map .str))=true:=fun {l}=>by
  induction l with
  | nil=>rfl
  | cons m t ih=>show (Jb (m.map D.str) && Jb (t.map _))=true; rw[plain_strs,ih]; rfl
 have h2:∀ {l:List (List Str)},(∀ m∈l,∀ z∈m,Asc z)→PyData.canLayAll0 (Jh (l.map fun m=>D.lst (m.map .str)))=true:=fun {l} hl=>by
  induction l with
  | nil=>rfl
  | cons m t ih =>
   show (PyData.canLayAll0 (Jh (m.map .str)) && PyData.canLayAll0 (Jh (t.map _)))=true
   rw[can_strs (hl m List.mem_cons_self),ih fun m' hm'=>hl m' (List.mem_cons_of_mem _ hm')]; rfl
 have h3:∀ {l:List (List Str)},PyData.depthAll (Jh (l.map fun m=>D.lst (m.map .str)))≤1:=fun {l}=>by
  induction l with
  | nil=>exact Nat.zero_le _
  | cons m t ih =>
   show max (PyData.depthAll (Jh (m.map .str)) + 1) (PyData.depthAll (Jh (t.map _)))≤1
   rw[Um]
   exact Nat.max_le.mpr ⟨Nat.le_refl _,ih⟩
 show (Jb _ && (PyData.canLayAll0 (Jh _) && decide (PyData.depthAll (Jh _) + 1≤64)))=true
 rw[h1,h2 h,decide_eq_true (Nat.le_trans (Nat.succ_le_succ h3) (by decide))]; rfl
/-- sorted(x) in [sorted(y),..] -/
theorem in_sorted {xs:List Str} {mss:List (List Str)} (hx:∀ z∈xs,Asc z) (h:∀ m∈mss,∀ z∈m,Asc z) (S:Qa) :
  inU false (.d (.lst ((Ju xs).map .str))) (.d (.lst (mss.map fun m=>.lst ((Ju m).map .str)))) S=.ok (.d (.bl (mss.any fun m=>decide (m.Perm xs)))) S:=by
 have e:(mss.map fun m=>D.lst ((Ju m).map .str))=(mss.map Ju).map fun m=>.lst (m.map .str):=by rw[List.map_map]; rfl
 show (if okD (.lst ((Ju xs).map .str))=true∧okD (.lst (mss.map fun m=>D.lst ((Ju m).map .str)))=true then Res.ok (U.d (.bl (inB false ((mss.map fun m=>D.lst ((Ju m).map .str)).any fun z=>PyData.eqv z.py (D.lst ((Ju xs).map .str)).py)))) S else .bad)=_
 rw[if_pos ⟨okD_lst (sortS_asc hx),by rw[e]; exact okD_lists fun m hm=>by obtain⟨n,hn,rfl⟩:=List.mem_map.mp hm; exact sortS_asc (h n hn)⟩,List.any_map]
 have:∀ l:List (List Str),(l.any ((fun z:D=>PyData.eqv z.py (D.lst ((Ju xs).map .str)).py) ∘ fun m=>D.lst ((Ju m).map .str)))=l.any fun m=>decide (m.Perm xs):=fun l=>by
  induction l with
  | nil=>rfl
  | cons m t ih =>
   rw[List.any_cons,List.any_cons,ih]
   show (PyData.eqv (D.lst ((Ju m).map .str)).py (D.lst ((Ju xs).map .str)).py || _)=_
   rw[eqv_lists,decide_eq_decide.mpr (sortS_iff m xs)]
 rw[this]; rfl
theorem gRs_ok {α:Type} {g:Option (Nat × List U)} {S:Qa} (h:gOk S g) (x:Res α):gRs g S x=x:=by
 cases g with
 | none=>rfl
 | some p=>exact if_pos h
theorem lcU_mapG {g:Option (Nat × List U)} {T:U→Env→Qa→Res Env} {El:Env→Qa→Res U} {ρ:Env} {S:Qa} (hg:gOk S g) (f:U→U):∀ (us acc:List U),(∀ u∈us,∃ ρ1,T u ρ S=.ok ρ1 S∧El ρ1 S=.ok (f u) S)→acc.length + us.length≤sizeLine→lcU g T (fun _ S=>.ok true S) El ρ us acc S=.ok (acc++us.map f) S
 | [],acc,_,_=>by unfold lcU; rw[gRs_ok hg]; simp
 | u :: r,acc,h,hl=>by
  obtain⟨ρ1,h1,h2⟩:=h u List.mem_cons_self
  have hl':acc.length + (r.length + 1)≤sizeLine:=hl
  unfold lcU
  rw[gRs_ok hg,h1,Zg,bind_ok,Zg,bind_ok,if_pos rfl,h2,Zg,bind_ok,if_pos (by omega),lcU_mapG hg f r (acc++[f u]) (fun w hw=>h w (List.mem_cons_of_mem _ hw)) (by rw[List.length_append]; show acc.length + 1 + r.length≤_; omega)]
  simp
end DL
namespace DL
open PySem PySem.Spec PyProof.Rows L2
open He (ga ma)
open TL (tl)
def BagC (c:Cell):Prop:=∃ d m k:Int,c=.lst [.d (.int d),.d (.int m),.d (.int k)]∧0≤d∧0≤m∧m < 2 ^ 63∧0≤k
def Bag (S:Qa) (n:Nat):Prop:=∃ c,S[n]?=some c∧BagC c
/-- only the bag may have changed -/
def Drew (n:Nat) (S S':Qa):Prop:=∃ c,BagC c∧S'=S.set n c
theorem Bag.lt {S:Qa} {n:Nat} (h:Bag S n):n < S.length:=let ⟨_,e,_⟩:=h; (List.getElem?_eq_some_iff.mp e).1
theorem Bag.norm {S:Qa} {n:Nat} (h:Bag S n):norm S (.r n)=.r n:=by
 obtain⟨c,e,d,m,k,rfl,_⟩:=h
 simp only[DL.norm,e]
theorem Bag.app {S g:Qa} {n:Nat} (h:Bag S n):Bag (S++g) n:=by
 obtain⟨c,e,hc⟩:=h
 exact⟨c,by rw[List.getElem?_append_left (List.getElem?_eq_some_iff.mp e).1]; exact e,hc⟩
theorem Drew.refl {S:Qa} {n:Nat} (h:Bag S n):Drew n S S:=by
 obtain⟨c,e,hc⟩:=h
 refine⟨c,hc,?_⟩
 obtain⟨hl,e'⟩:=List.getElem?_eq_some_iff.mp e
 rw[← e',List.set_getElem_self]
theorem Drew.trans {S S' S'':Qa} {n:Nat} (h:Drew n S S') (h':Drew n S' S''):Drew n S S'':=by
 obtain⟨c,hc,rfl⟩:=h
 obtain⟨c',hc',rfl⟩:=h'
 exact⟨c',hc',List.set_set ..⟩
theorem Drew.len {S S':Qa} {n:Nat} (h:Drew n S S'):S'.length=S.length:=by obtain⟨c,hc,rfl⟩:=h; exact List.length_set
theorem Drew.bag {S S':Qa} {n:Nat} (h:Drew n S S') (b:Bag S n):Bag S' n:=by
 obtain⟨c,hc,rfl⟩:=h
 exact⟨c,List.getElem?_set_self b.lt,hc⟩
theorem Drew.app {S S' g:Qa} {n:Nat} (h:Drew n S S') (b:Bag S n):Drew n (S++g) (S'++g):=by
 obtain⟨c,hc,rfl⟩:=h
 exact⟨c,hc,(List.set_append_left _ _ b.lt).symm⟩
/-- drawn over a longer store: the tail stays -/
theorem Drew.split {S S' g:Qa} {n:Nat} (h:Drew n (S++g) S') (b:Bag S n):∃ S1,S'=S1++g∧Drew n S S1:=by
 obtain⟨c,hc,rfl⟩:=h
 exact⟨S.set n c,List.set_append_left _ _ b.lt,c,hc,rfl⟩
theorem Drew.old {S S':Qa} {n m:Nat} (h:Drew n S S') (hm:m ≠ n):S'[m]?=S[m]?:=by
 obtain⟨c,hc,rfl⟩:=h
 exact List.getElem?_set_ne (Ne.symm hm)
theorem BagC.below {c:Cell} (h:BagC c) (m:Nat):c.below m:=by
 obtain⟨d,m,k,rfl,_⟩:=h
 simp [Cell.below,U.below]
theorem Drew.shr {S S':Qa} {n:Nat} (h:Drew n S S'):Shr S S':=by
 obtain⟨c,hc,rfl⟩:=h
 refine⟨List.length_set,fun m c' e=>?_⟩
 by_cases hn:n=m
 ·subst hn
  have hl:n < S.length:=by have:=(List.getElem?_eq_some_iff.mp e).1; rwa [List.length_set] at this
  rw[List.getElem?_set_self hl] at e
  obtain rfl:=Option.some.inj e
  exact .inr (hc.below _)
 ·rw[List.getElem?_set_ne hn] at e
  exact .inl e
def ExZ (S:Qa) (po:Res U→Prop) (R:Res U):Prop:=∃ r,Qx S r R∧po r
/-- a def ends with data,drawn from the bag; cells made on the way are dropped -/
def Ye (n:Nat) (S:Qa) (po:D→Prop) (R:Res U):Prop:=∃ y S' g,R=.ok (.d y) (S'++g)∧Drew n S S'∧po y
theorem drawZ {n:Nat} {S S':Qa} {po:D→Prop} {y:D} (d:Drew n S S') (h:po y):Ye n S po (.ok (.d y) S'):=⟨y,S',[],by rw[List.append_nil],d,h⟩
theorem drawZg {n:Nat} {S S':Qa} {po:D→Prop} {y:D} (g:Qa) (d:Drew n S S') (h:po y):Ye n S po (.ok (.d y) (S'++g)):=⟨y,S',g,rfl,d,h⟩
theorem Ye.mono {n:Nat} {S:Qa} {po po':D→Prop} {R:Res U} (h:Ye n S po R) (m:∀ y,po y→po' y):Ye n S po' R:=let ⟨y,S',g,e,d,p⟩:=h; ⟨y,S',g,e,d,m y p⟩
/-- a stage that goes on in a state of which I tells,or returns -/
theorem seq_cut {Z:Res U→Prop} {f:Fl} {k:Env→Qa→Fl} (I:Env→Qa→Prop) (h:(∃ ρ S,f=.nx ρ S∧I ρ S)∨(∃ u S,f=.rt u S∧Z (.ok u S))) (h2:∀ ρ S,I ρ S→Z (Jc (k ρ S))):Z (Jc (f.seq k)):=by
 rcases h with ⟨ρ,S,rfl,h⟩ | ⟨u,S,rfl,h⟩
 ·exact h2 ρ S h
 ·exact h
theorem strs_inj {xs ys:List Str} (h:xs.map D.str=ys.map D.str):xs=ys:=by
 have h1:=congrArg Jv h
 rw[Yc,Yc] at h1
 exact Option.some.inj h1
def bagOf:List U→Nat
 | .r n :: _=>n
 | _=>0
section
variable {P:Program} {w:World} {K:PySem.W.Frag} {mg:Str→Option Value} {base:Heap} {k:Nat} {x:Str} {st:Stmt} {N ps:List Str} {B:Env→Qa→Fl}
/-- a def that draws: it ends with data of which Po tells -/
theorem Vy (Pre:List U→Qa→Prop) (Po:List U→Qa→D→Prop) (F:FnF K mg x st) (Sc:FnScope N ps (defScope st)) (hb:Ug x st ps)
  (hB:∀ (cdv:Value) (A:Around) (outer:List PySem.Env) (s:Shared) (H:Hp) (E:XK),(A.deeper (envOfC x (defScope st) s.heap.objs.size (ga K x) cdv)).guards=some []→Room k (A.deeper (envOfC x (defScope st) s.heap.objs.size (ga K x) cdv)) →
   PDSs (cxOf (L2.CX P w) P w K mg base N x (defScope st) (ga K x) cdv A outer s H E) (fun c d _ H=>E c d H) (defBody st) B)
  (h:∀ us S,us.length=ps.length→Bag S (bagOf us)→Pre us S→Ye (bagOf us) S (Po us S) (Jc (B (Q3 N.length us) S))) :
  ∃ fF,FM P w K mg base (k + 1) x ps fF∧∀ us S,us.length=ps.length→Bag S (bagOf us)→Pre us S→∃ y S',fF us S=.ok (.d y) S'∧Drew (bagOf us) S S'∧Po us S y:=by
 have h':∀ us S,∃ r:Res U,Qx S r (Jc (B (Q3 N.length us) S))∧(us.length ≠ ps.length→r=.bad)∧(us.length=ps.length→Bag S (bagOf us)→Pre us S→∃ y S',r=.ok (.d y) S'∧Drew (bagOf us) S S'∧Po us S y):=fun us S=>by
  by_cases c:us.length=ps.length∧Bag S (bagOf us)∧Pre us S
  ·obtain⟨y,S',g,e,dr,po⟩:=h us S c.1 c.2.1 c.2.2
   refine⟨.ok (.d y) S',?_,fun hl=>absurd c.1 hl,fun _ _ _=>⟨y,S',rfl,dr,po⟩⟩
   rw[e]
   exact .ok g dr.shr trivial
  ·exact⟨.bad,.bad _,fun _=>rfl,fun h1 h2 h3=>absurd ⟨h1,h2,h3⟩ c⟩
 exact⟨fun us S=>(h' us S).choose,okM F Sc hb (fun us S hl=>(h' us S).choose_spec.2.1 hl) hB fun us S hl=>(h' us S).choose_spec.1,fun us S=>(h' us S).choose_spec.2.2⟩
/-- a def of which Po tells where Pre holds -/
theorem okEx (Pre:List U→Qa→Prop) (Po:List U→Qa→Res U→Prop) (F:FnF K mg x st) (Sc:FnScope N ps (defScope st)) (hb:Ug x st ps)
  (hB:∀ (cdv:Value) (A:Around) (outer:List PySem.Env) (s:Shared) (H:Hp) (E:XK),(A.deeper (envOfC x (defScope st) s.heap.objs.size (ga K x) cdv)).guards=some []→Room k (A.deeper (envOfC x (defScope st) s.heap.objs.size (ga K x) cdv)) →
   PDSs (cxOf (L2.CX P w) P w K mg base N x (defScope st) (ga K x) cdv A outer s H E) (fun c d _ H=>E c d H) (defBody st) B)
  (h:∀ us S,us.length=ps.length→Pre us S→ExZ S (Po us S) (Jc (B (Q3 N.length us) S))) :
  ∃ fF,FM P w K mg base (k + 1) x ps fF∧∀ us S,us.length=ps.length→Pre us S→Po us S (fF us S):=by
 have h':∀ us S,∃ r:Res U,Qx S r (Jc (B (Q3 N.length us) S))∧(us.length ≠ ps.length→r=.bad)∧(us.length=ps.length→Pre us S→Po us S r):=fun us S=>by
  by_cases c:us.length=ps.length∧Pre us S
  ·obtain⟨r,e,po⟩:=h us S c.1 c.2
   exact⟨r,e,fun hl=>absurd c.1 hl,fun _ _=>po⟩
  ·exact⟨.bad,.bad _,fun _=>rfl,fun h1 h2=>absurd ⟨h1,h2⟩ c⟩
 exact⟨fun us S=>(h' us S).choose,okM F Sc hb (fun us S hl=>(h' us S).choose_spec.2.1 hl) hB fun us S hl=>(h' us S).choose_spec.1,fun us S=>(h' us S).choose_spec.2.2⟩
end
/-- a list,a tuple or a list that still changes,of these data -/
inductive LstU (S:Qa) (ds:List D):U→Prop
 | lst:LstU S ds (.d (.lst ds))
 | tup:LstU S ds (.d (.tup ds))
 | cell {m:Nat} : S[m]?=some (.lst (ds.map .d))→LstU S ds (.r m)
/-- .. or the signs of a text -/
inductive SeqU (S:Qa):List D→U→Prop
 | of {ds u} : LstU S ds u→SeqU S ds u
 | str {z:Str} : z.length≤sizeLine→SeqU S ((tl z).map fun c=>.str ⟨#[c]⟩) (.d (.str z))
theorem LstU.norm {S:Qa} {ds:List D} {u:U} (h:LstU S ds u):norm S u=u:=by
 cases h with
 | cell e=>simp only[DL.norm,e]
 | _=>rfl
theorem SeqU.norm {S:Qa} {ds:List D} {u:U} (h:SeqU S ds u):norm S u=u:=by
 cases h with
 | of h=>exact h.norm
 | str _=>rfl
theorem LstU.drew {S S':Qa} {ds:List D} {u:U} {n:Nat} (h:LstU S ds u) (hd:Drew n S S') (hn:u ≠ .r n):LstU S' ds u:=by
 cases h with
 | lst=>exact .lst
 | tup=>exact .tup
 | cell e=>exact .cell (by rw[hd.old fun e=>hn (by rw[e])]; exact e)
theorem SeqU.drew {S S':Qa} {ds:List D} {u:U} {n:Nat} (h:SeqU S ds u) (hd:Drew n S S') (hn:u ≠ .r n):SeqU S' ds u:=by
 cases h with
 | of h=>exact .of (h.drew hd hn)
 | str h=>exact .str h
theorem LstU.app {S g:Qa} {ds:List D} {u:U} (h:LstU S ds u):LstU (S++g) ds u:=by
 cases h with
 | lst=>exact .lst
 | tup=>exact .tup
 | cell e=>exact .cell (by rw[List.getElem?_append_left (List.getElem?_eq_some_iff.mp e).1]; exact e)
theorem LstU.len {S:Qa} {ds:List D} {u:U} (h:LstU S ds u):lenU u S=.ok (.d (.int (ds.length:Nat))) S:=by
 cases h with
 | lst=>rfl
 | tup=>rfl
 | cell e=>simp only[lenU,e,List.length_map]
theorem SeqU.len {S:Qa} {ds:List D} {u:U} (h:SeqU S ds u):lenU u S=.ok (.d (.int (ds.length:Nat))) S:=by
 cases h with
 | of h=>exact h.len
 | str h=>rw[List.length_map,← TL.len_tl]; exact if_pos h
theorem LstU.ix {S:Qa} {ds:List D} {u:U} {i:Nat} {d:D} (h:LstU S ds u) (e:ds[i]?=some d):ixU u (.d (.int (i:Nat))) S=.ok (.d d) S:=by
 cases h with
 | lst=>show optR (atI ds (i:Nat)) .d S=_; rw[atI_nat e]; rfl
 | tup=>show optR (atI ds (i:Nat)) .d S=_; rw[atI_nat e]; rfl
 | cell hc=>simp only[ixU,hc]; rw[atI_nat (show (ds.map U.d)[i]?=some (.d d) by rw[List.getElem?_map,e]; rfl)]; rfl
theorem SeqU.ix {S:Qa} {ds:List D} {u:U} {i:Nat} {d:D} (h:SeqU S ds u) (e:ds[i]?=some d):ixU u (.d (.int (i:Nat))) S=.ok (.d d) S:=by
 cases h with
 | of h=>exact h.ix e
 | str h =>
  rename_i z
  simp only[ixU]
  rw[if_pos h]
  rw[List.getElem?_map] at e
  cases hc:(tl z)[i]? with
  | none=>rw[hc] at e; cases e
  | some c =>
   rw[hc] at e
   obtain rfl:=Option.some.inj e
   rw[atI_nat hc]; rfl
theorem LstU.isIn {S:Qa} {zs:List Str} {u:U} {neg:Bool} {x:Str} (h:LstU S (zs.map .str) u) (hx:Asc x) (hz:∀ z∈zs,Asc z):inU neg (.d (.str x)) u S=.ok (.d (.bl (inB neg (decide (x∈zs))))) S:=by
 cases h with
 | lst=>exact Uo hx hz S
 | tup=>exact in_tup hx hz S
 | @cell m e =>
  have hd:dat (.r m) S=some (.lst (zs.map .str)):=by
   simp only[dat,e]
   rw[Q9]; rfl
  have:=Uo (neg:=neg) hx hz S
  unfold inU at this ⊢
  rw[hd]
  exact this
theorem LstU.tru {S:Qa} {ds:List D} {u:U} (h:LstU S ds u):truU u S=.ok (!ds.isEmpty) S:=by
 cases h with
 | lst=>rfl
 | tup=>rfl
 | cell e=>simp only[truU,e]; rw[List.isEmpty_map]
theorem LstU.dat {S:Qa} {ds:List D} {u:U} (h:LstU S ds u):dat u S=some (.lst ds)∨dat u S=some (.tup ds):=by
 cases h with
 | lst=>exact .inl rfl
 | tup=>exact .inr rfl
 | cell e=>exact .inl (by simp only[DL.dat,e]; rw[Q9]; rfl)
theorem LstU.toM {S:Qa} {ds:List D} {u:U} (h:LstU S ds u):lstMU u S=.ok (.r S.length) (S++[.lst (ds.map .d)]):=by
 unfold lstMU; rcases h.dat with e | e<;>rw[e]
theorem map_d_inj {ds es:List D} (h:ds.map U.d=es.map U.d):ds=es:=by
 have h1:=congrArg allD h
 rw[Q9,Q9] at h1
 exact Option.some.inj h1
theorem LstU.inj {S:Qa} {ds es:List D} {u:U} (h:LstU S ds u) (h':LstU S es u):ds=es:=by
 cases h with
 | lst=>cases h'; rfl
 | tup=>cases h'; rfl
 | cell e =>
  cases h' with
  | cell e' =>
   rw[e] at e'
   exact map_d_inj (by simpa using e')
theorem SeqU.inj {S:Qa} {ds es:List D} {u:U} (h:SeqU S ds u) (h':SeqU S es u):ds=es:=by
 cases h with
 | of h =>
  cases h' with
  | of h'=>exact h.inj h'
  | str _=>cases h
 | str _ =>
  cases h' with
  | of h'=>cases h'
  | str _=>rfl
/-- a comprehension that draws -/
theorem lcU_inv {T:U→Env→Qa→Res Env} {El:Env→Qa→Res U} {ρ:Env} (Q:Qa→Prop) (R:U→Prop):∀ (us acc:List U) (S:Qa),(∀ u∈us,∀ S,Q S→∃ ρ1 x S1,T u ρ S=.ok ρ1 S∧El ρ1 S=.ok x S1∧Q S1∧R x)→Q S→acc.length + us.length≤sizeLine →
  ∃ xs S',lcU none T (fun _ S=>.ok true S) El ρ us acc S=.ok (acc++xs) S'∧xs.length=us.length∧Q S'∧∀ x∈xs,R x
 | [],acc,S,_,q,_=>⟨[],S,by simp [lcU,gRs],rfl,q,fun _ h=>nomatch h⟩
 | u :: r,acc,S,h,q,hl=>by
  obtain⟨ρ1,x,S1,h1,h2,q1,hx⟩:=h u List.mem_cons_self S q
  have hl':acc.length + (r.length + 1)≤sizeLine:=hl
  obtain⟨xs,S',e,l,q',hr⟩:=lcU_inv Q R r (acc++[x]) S1 (fun w hw=>h w (List.mem_cons_of_mem _ hw)) q1 (by rw[List.length_append]; show acc.length + 1 + r.length≤_; omega)
  refine⟨x :: xs,S',?_,by rw[List.length_cons,List.length_cons,l],q',fun y hy=>?_⟩
  ·unfold lcU
   rw[gRs_none,h1,Zg,bind_ok,Zg,bind_ok,if_pos rfl,h2,Zg,bind_ok,if_pos (by omega),e]
   simp
  ·rcases List.mem_cons.mp hy with rfl | hy
   ·exact hx
   ·exact hr y hy
theorem intU_int (i:Int) (S:Qa):intU (.d (.int i)) S=.ok (.d (.int i)) S:=rfl
theorem absU_int (i:Int) (S:Qa):absU (.d (.int i)) S=.ok (.d (.int (if i < 0 then -i else i))) S:=rfl
theorem modU_pos {i j:Int} (S:Qa) (h:0 < j):modU (.d (.int i)) (.d (.int j)) S=.ok (.d (.int (i % j))) S:=if_pos (decide_eq_true h)
theorem mulU_l {i j:Int} (S:Qa) (h : -(2 ^ 64) < i∧i < 2 ^ 64):mulU (.d (.int i)) (.d (.int j)) S=.ok (.d (.int (i * j))) S:=if_pos (by unfold mulC; rw[Bool.or_eq_true,Bool.and_eq_true]; exact .inl ⟨decide_eq_true h.1,decide_eq_true h.2⟩)
theorem mulU_r {i j:Int} (S:Qa) (h : -(2 ^ 64) < j∧j < 2 ^ 64):mulU (.d (.int i)) (.d (.int j)) S=.ok (.d (.int (i * j))) S:=if_pos (by unfold mulC; rw[Bool.or_eq_true,Bool.and_eq_true,Bool.and_eq_true]; exact .inr ⟨decide_eq_true h.1,decide_eq_true h.2⟩)
theorem Uq (i:Int) (S:Qa):asI (.d (.int i)) S=.ok (some i) S:=rfl
theorem Zj {i:Nat} (S:Qa) (h:i≤1000000):Xc [.d (.int i)] S=.ok ⟨Jg 0 i,none⟩ S:=by
 simp only[Xc,Int.toNat_natCast]
 rw[if_pos (by omega)]
theorem cutL_mem {α:Type} {xs:List α} {lo hi:Option Int} {x:α} (h:x∈cutL xs lo hi):x∈xs:=List.mem_of_mem_drop (List.mem_of_mem_take h)
/-- "".join of signs -/
def ofSigns (cs:List Nat):Str:=Txt.join Str.empty (cs.map fun c=>(⟨#[c]⟩ : Str))
theorem tl_signs (cs:List Nat):tl (ofSigns cs)=cs:=by
 unfold ofSigns
 rw[tl_join0,List.map_map]
 induction cs with
 | nil=>rfl
 | cons c t ih=>rw[List.map_cons,List.flatten_cons,ih]; rfl
theorem sum_signs (cs:List Nat):((cs.map fun c=>(⟨#[c]⟩ : Str)).map (·.length)).sum=cs.length:=by
 rw[List.map_map]
 induction cs with
 | nil=>rfl
 | cons c t ih=>rw[List.map_cons,List.sum_cons,ih,List.length_cons]; show 1 + _=_; omega
theorem join_signs {cs:List Nat} (h:cs.length≤1000) (S:Qa):joinU (.d (.str Str.empty)) [.d (.lst ((cs.map fun c=>(⟨#[c]⟩ : Str)).map .str))] S=.ok (.d (.str (ofSigns cs))) S:=by
 have h0:Str.empty.length=0:=rfl
 simp only[joinU,Uv,dat_d,Yc,sum_signs,List.length_map,h0,Nat.mul_zero,Nat.add_zero]
 rw[if_pos (by omega)]
 rfl
theorem signs_of {xs:List U} {p:Nat→Prop} (hx:∀ x∈xs,∃ c,x=.d (.str ⟨#[c]⟩)∧p c):∃ cs:List Nat,xs=((cs.map fun c=>(⟨#[c]⟩ : Str)).map D.str).map U.d∧∀ c∈cs,p c:=by
 induction xs with
 | nil=>exact⟨[],rfl,fun _ h=>nomatch h⟩
 | cons x t ih =>
  obtain⟨cs,h1,h2⟩:=ih fun y hy=>hx y (List.mem_cons_of_mem _ hy)
  obtain⟨c,rfl,hc⟩:=hx x List.mem_cons_self
  refine⟨c :: cs,by rw[h1]; rfl,fun d hd=>?_⟩
  rcases List.mem_cons.mp hd with rfl | hd
  ·exact hc
  ·exact h2 d hd
theorem mkL_d {ds:List D} (h:ds.length≤1000) (S:Qa):mkL (ds.map .d) S=.ok (.d (.lst ds)) S:=by
 unfold mkL
 rw[Q9]
 exact if_pos (sz10 h)
theorem addU_lst {x y:List D} (h:x.length + y.length≤1000) (S:Qa):addU (.d (.lst x)) (.d (.lst y)) S=.ok (.d (.lst (x++y))) S:=if_pos (sz10 h)
theorem at0 (S:Qa) (a b:Cell):(S++[a,b])[S.length]?=some a:=by rw[List.getElem?_append_right (Nat.le_refl _),Nat.sub_self]; rfl
theorem at1 (S:Qa) (a b:Cell):(S++[a,b])[S.length + 1]?=some b:=by rw[List.getElem?_append_right (Nat.le_succ _),show S.length + 1 - S.length=1 by omega]; rfl
theorem set0 (S:Qa) (a b c:Cell):(S++[a,b]).set S.length c=S++[c,b]:=by rw[List.set_append_right _ _ (Nat.le_refl _),Nat.sub_self]; rfl
theorem set1 (S:Qa) (a b c:Cell):(S++[a,b]).set (S.length + 1) c=S++[a,c]:=by rw[List.set_append_right _ _ (Nat.le_succ _),show S.length + 1 - S.length=1 by omega]; rfl
end DL
namespace WH
open PySem PySem.Spec PyProof.Rows L2
open He (ga ma)
theorem exm_ok {K:PySem.W.Frag} {l:List Str} (c:cExm l K=true) (x:Str) (hx:x∈l) (y:Str) (hy:y∈l):PySem.W.exmOne K (.ref (ga K x)) (.ref (ga K y))=some (x == y) :=
 of_decide_eq_true (List.all_eq_true.mp (List.all_eq_true.mp (Bool.and_eq_true_iff.mp c).1 x hx) y hy)
theorem exmW_ok {K:PySem.W.Frag} {l:List Str} (c:cExm l K=true) (x:Str) (hx:x∈l):PySem.W.exmOne K (.ref (ga K x)) (.ref (ga K "WhichError"))=some true :=
 of_decide_eq_true (List.all_eq_true.mp (Bool.and_eq_true_iff.mp c).2 x hx)
theorem isFree_ok {o:Option (Option Value)} (h:isFree o=true):o=some none:=by
 match o,h with
 | some none,_=>rfl
theorem fnd_ok {K:PySem.W.Frag} {l fs:List Str} (c:cFnd l fs K=true) (x:Str) (hx:x∈l) (f:Str) (hf:f∈fs):PySem.W.findIn K (.ref (ga K x)) f=some none :=
 isFree_ok (List.all_eq_true.mp (List.all_eq_true.mp c x hx) f hf)
end WH
namespace DL
open PySem PySem.Spec PyProof.Rows L2
open He (ga ma)
theorem exm_is {K:PySem.W.Frag} {l:List Str} (h:∀ c∈l,∀ y∈l,PySem.W.exmOne K (.ref (ga K c)) (.ref (ga K y))=some (c == y)) {y:Str} (hy:y∈l) (hw:(y == ("WhichError" : Str))=false):∀ c∈l,PySem.W.exmOne K (.ref (ga K c)) (.ref (ga K y))=some (mt c y):=fun c hc=>by
 rw[h c hc y hy]; unfold mt; rw[hw,Bool.or_false]
end DL
namespace DL
open PySem PySem.Spec PyProof.Rows L2
open He (ga ma)
open TL (tl)
theorem rv_ints {K:PySem.W.Frag} {G:Hp} : ∀ ns:List Int,Ja K G (ns.map V.int) (ns.map D.int)
 | []=>.nil
 | i :: t=>.cons (.int i) (rv_ints t)
end DL
namespace DL
open PySem PySem.Spec PyProof.Rows L2
open He (ga ma)
open Evl (Ex)
open TL (tl)
/-- what is walked: data,or a list that lies in a cell -/
theorem LstU.iter {S:Qa} {ds:List D} {u:U} (h:LstU S ds u):∃ g,Z6 u S=.ok ⟨ds.map .d,g⟩ S∧∀ S',LstU S' ds u→gOk S' g:=by
 cases h with
 | lst=>exact⟨none,rfl,fun _ _=>trivial⟩
 | tup=>exact⟨none,rfl,fun _ _=>trivial⟩
 | @cell m e =>
  refine⟨some (m,ds.map .d),by simp only[Z6,e],fun S' h'=>?_⟩
  cases h' with
  | cell e'=>exact e'
theorem gFl_ok {g:Option (Nat × List U)} {S:Qa} (h:gOk S g) (x:Fl):gFl g S x=x:=by
 cases g with
 | none=>rfl
 | some p =>
  obtain⟨n,us⟩:=p
  simp only[gFl]
  exact if_pos h
/-- a for by its invariant,over a list that does not change -/
theorem loopG {g:Option (Nat × List U)} {T:U→Env→Qa→Res Env} {B:Env→Qa→Fl} (K:Fl→Prop) (I:List U→Env→Qa→Prop) (hg:∀ us ρ S,I us ρ S→gOk S g)
  (step:∀ u r ρ S,I (u :: r) ρ S→∃ ρ1 S1,T u ρ S=.ok ρ1 S1∧(match B ρ1 S1 with | .nx ρ2 S2=>I r ρ2 S2 | .ct ρ2 S2=>I r ρ2 S2 | .bk ρ2 S2=>K (.nx ρ2 S2) | f=>K f))
  (done:∀ ρ S,I [] ρ S→K (.nx ρ S)):∀ {us:List U} {ρ:Env} {S:Qa},I us ρ S→K (forU g T B us ρ S)
 | [],ρ,S,h=>by
  unfold forU
  rw[gFl_ok (hg _ _ _ h)]
  exact done ρ S h
 | u :: r,ρ,S,h=>by
  obtain⟨ρ1,S1,h1,h2⟩:=step u r ρ S h
  unfold forU
  rw[gFl_ok (hg _ _ _ h),h1,fl_ok]
  generalize B ρ1 S1=f at h2
  cases f with
  | nx ρ2 S2=>exact loopG K I hg step done h2
  | ct ρ2 S2=>exact loopG K I hg step done h2
  | bk ρ2 S2=>exact h2
  | rt _ _=>exact h2
  | err _ _ _ _=>exact h2
  | bad=>exact h2
end DL
namespace DL
open PySem PySem.Spec PyProof.Rows L2
/-- a comprehension with a test -/
theorem lcU_filt {g:Option (Nat × List U)} {T:U→Env→Qa→Res Env} {C:Env→Qa→Res Bool} {El:Env→Qa→Res U} {ρ:Env} {S:Qa} (hg:gOk S g) (p:U→Bool) (f:U→U):∀ (us acc:List U),(∀ u∈us,∃ ρ1,T u ρ S=.ok ρ1 S∧C ρ1 S=.ok (p u) S∧(p u=true→El ρ1 S=.ok (f u) S))→acc.length + us.length≤sizeLine→lcU g T C El ρ us acc S=.ok (acc++(us.filter p).map f) S
 | [],acc,_,_=>by unfold lcU; rw[gRs_ok hg]; simp
 | u :: r,acc,h,hl=>by
  obtain⟨ρ1,h1,h2,h3⟩:=h u List.mem_cons_self
  have hl':acc.length + (r.length + 1)≤sizeLine:=hl
  unfold lcU
  rw[gRs_ok hg,h1,Zg,bind_ok,h2,Zg,bind_ok]
  cases hp:p u with
  | true =>
   rw[if_pos rfl,h3 hp,Zg,bind_ok,if_pos (by omega),lcU_filt hg p f r (acc++[f u]) (fun w hw=>h w (List.mem_cons_of_mem _ hw)) (by rw[List.length_append]; show acc.length + 1 + r.length≤_; omega),List.filter_cons_of_pos hp]
   simp
  | false =>
   rw[if_neg (by decide),lcU_filt hg p f r acc (fun w hw=>h w (List.mem_cons_of_mem _ hw)) (by omega),List.filter_cons_of_neg (by rw[hp]; decide)]
/-- a comprehension over items -/
theorem Vz {α:Type} {g:Option (Nat × List U)} {T:U→Env→Qa→Res Env} {El:Env→Qa→Res U} {ρ:Env} {S:Qa} (hg:gOk S g) (a b:α→U):∀ (xs:List α) (acc:List U),(∀ x∈xs,∃ ρ1,T (a x) ρ S=.ok ρ1 S∧El ρ1 S=.ok (b x) S)→acc.length + xs.length≤sizeLine→lcU g T (fun _ S=>.ok true S) El ρ (xs.map a) acc S=.ok (acc++xs.map b) S
 | [],acc,_,_=>by rw[List.map_nil]; unfold lcU; rw[gRs_ok hg]; simp
 | x :: r,acc,h,hl=>by
  obtain⟨ρ1,h1,h2⟩:=h x List.mem_cons_self
  have hl':acc.length + (r.length + 1)≤sizeLine:=hl
  rw[List.map_cons]
  unfold lcU
  rw[gRs_ok hg,h1,Zg,bind_ok,Zg,bind_ok,if_pos rfl,h2,Zg,bind_ok,if_pos (by omega),Vz hg a b r (acc++[b x]) (fun w hw=>h w (List.mem_cons_of_mem _ hw)) (by rw[List.length_append]; show acc.length + 1 + r.length≤_; omega)]
  simp
theorem LstU.enum {S:Qa} {ds:List D} {u:U} (h:LstU S ds u):∃ g,enumU u S=.ok ⟨Jo 0 ds,g⟩ S∧∀ S',LstU S' ds u→gOk S' g:=by
 cases h with
 | lst=>exact⟨none,rfl,fun _ _=>trivial⟩
 | tup=>exact⟨none,rfl,fun _ _=>trivial⟩
 | @cell m e =>
  refine⟨some (m,ds.map .d),?_,fun S' h'=>?_⟩
  ·simp only[enumU,e,Q9]
   rfl
  ·cases h' with
   | cell e'=>exact e'
theorem LstU.sl {S:Qa} {ds:List D} {u:U} (h:LstU S ds u) (lo hi:Option Int):∃ y,slU u lo hi S=.ok (.d y) S∧(y=.lst (cutL ds lo hi)∨y=.tup (cutL ds lo hi)):=by
 cases h with
 | lst=>exact⟨_,rfl,.inl rfl⟩
 | tup=>exact⟨_,rfl,.inr rfl⟩
 | cell e=>exact⟨.lst (cutL ds lo hi),by simp only[slU,e,Q9],.inl rfl⟩
theorem LstU.seq {S:Qa} {ds:List D} {u:U} (h:LstU S ds u):seqU u S=.ok (ds.map .d) S:=by
 cases h with
 | lst=>rfl
 | tup=>rfl
 | cell e=>simp only[seqU,e]
theorem LstU.datC {S:Qa} {ds:List D} {u:U} (h:LstU S ds u):DL.dat u S=some (.lst ds)∨DL.dat u S=some (.tup ds):=by
 cases h with
 | lst=>exact .inl rfl
 | tup=>exact .inr rfl
 | cell e=>exact .inl (by simp only[DL.dat,e,Q9]; rfl)
theorem LstU.tupU {S:Qa} {ds:List D} {u:U} (h:LstU S ds u):DL.tupU u S=.ok (.d (.tup ds)) S:=by
 unfold DL.tupU
 rcases h.datC with e | e<;>rw[e]
theorem LstU.txts {S:Qa} {zs:List Str} {u:U} (h:LstU S (zs.map .str) u):Uv u S=some zs:=by
 unfold Uv
 rcases h.datC with e | e<;>rw[e]<;>exact Yc zs
end DL
namespace DL
open PySem PySem.Spec PySem.W PyProof.Rows
open L2
open He (ga ma)
open Evl (Ex)
/-- the built-in type of data -/
def tyN:D→Option String
 | .non=>some "NoneType"
 | .bl _=>some "bool"
 | .int _=>some "int"
 | .str _=>some "str"
 | .tup _=>some "tuple"
 | .lst _=>some "list"
 | _=>none
theorem tyN_mem {d:D} {T:String} (h:tyN d=some T):T∈dataTs:=by
 cases d<;>simp [tyN] at h<;>subst h<;>decide
theorem type_looks {X:Cx} {pins:List (Addr × Obj)} {σ:L2.St} {G H:Hp} {s:Shared} {v:V} {u:Value} {d:D} {T:String} (I:Inv X pins σ H s) (ru:RelV v u) (rv:Rv X.K G v d) (e:Ex G H) (ht:tyN d=some T):PySem.W.Looks (model X.prog X.w) s.heap (typeOf u) (.type T):=by
 cases rv with
 | non=>cases ht; cases (show u=Value.none from ru); exact PySem.W.Looks.of_pure rfl
 | bl b=>cases ht; cases (show u=Value.bool b from ru); exact PySem.W.Looks.of_pure rfl
 | int i=>cases ht; obtain⟨t,rfl⟩:=(show ∃ t,u=Value.int i t from ru); exact PySem.W.Looks.of_pure rfl
 | str z=>cases ht; obtain⟨t,rfl⟩:=(show ∃ t,u=Value.str z t from ru); exact PySem.W.Looks.of_pure rfl
 | tup h1 h2 =>
  cases ht
  cases (show u=Value.ref _ from ru)
  obtain⟨its,r,⟨o,ho,hc,_⟩,_⟩:=I.tuple (Evl.ex_t e h1)
  exact fun A Q E s' kp q=>wpAny_typeOf_ref (kp _ _ ho) (by rw[hc]; exact q)
 | lst h1 h2 =>
  cases ht
  cases (show u=Value.ref _ from ru)
  obtain⟨its,r,⟨o,n,ho,hc,_⟩,_⟩:=I.list (Evl.ex_l e h1)
  exact fun A Q E s' kp q=>wpAny_typeOf_ref (kp _ _ ho) (by rw[hc]; exact q)
 | obj _ _=>cases ht
 | ty _=>cases ht
 | cls _=>cases ht
 | tpl _ _=>cases ht
structure EqOk (K:PySem.W.Frag) (C f:Addr):Prop where
 own:PySem.W.findIn K (.ref C) (cmpInfo .Eq).2.1=some (some (.ref f))
 fn:PySem.W.isFn K (.ref f)=true
 self:PySem.W.notFirst K C (.ref C)=true
 side:∀ T∈dataTs,PySem.W.notFirst K C (.type T)=true
/-- == by an own method: the right one is data of a built-in type or an object of the same class -/
def eqOwnU (c:Str) (fF:Fn) (x y:U) (S:Qa):Res U:=match objU x S with
 | some (c',_)=>if c'=c then match y with
  | .d d=>if (tyN d).isSome=true then fF [x,.d d] S else match objU (.d d) S with
   | some (c2,_)=>if c2=c then fF [x,.d d] S else .bad
   | none=>.bad
  | .r n=>match objU (.r n) S with
   | some (c2,_)=>if c2=c then fF [x,.r n] S else .bad
   | none=>.bad
  else .bad
 | none=>.bad
end DL
namespace DL
open PySem PySem.Spec PyProof.Rows L2
open He (ga ma)
open Evl (Ex)
/-- objects of the class at C: their type may be asked -/
def InsOk (K:PySem.W.Frag) (C:Addr):Prop:=∀ (H:Hp) (a dx:Addr) (fs:List (Str × V)),H a=some (.ins C dx fs)→TyOf K H (.ref a) (.ref C)
structure IsiOk (K:PySem.W.Frag) (c:Str):Prop where
 ins:InsOk K (ga K c)
 side:∀ T∈dataTs,PySem.W.kitOne K (.type T) (.ref (ga K c))=some false
/-- isinstance(x,c): x data of a built-in type or an object of the class itself -/
def Vh (c:Str) (u:U) (S:Qa):Res U:=match u with
 | .d d=>if (tyN d).isSome=true then .ok (.d (.bl false)) S else match objU (.d d) S with
  | some (c',_)=>if c'=c then .ok (.d (.bl true)) S else .bad
  | none=>.bad
 | .r n=>match objU (.r n) S with
  | some (c',_)=>if c'=c then .ok (.d (.bl true)) S else .bad
  | none=>.bad
def Xp (c:Str) (u w:U) (S:Qa):Res U:=match w with
 | .d (.cls c2)=>if c2=c then Vh c u S else .bad
 | _=>.bad
theorem rv_tyT {K:PySem.W.Frag} {G:Hp} {v:V} {d:D} {T:String} (r:Rv K G v d) (h:tyN d=some T):TyX K G v (.type T):=by
 cases r with
 | non=>cases h; exact .base .non
 | bl b=>cases h; exact .base (.bl b)
 | int i=>cases h; exact .base (.int i)
 | str x=>cases h; exact .base (.str x)
 | lst h1 _ =>
  cases h
  rcases h1 with (h1 | ⟨o,h1⟩) | ⟨o,its,n,h1,h2,_⟩
  ·exact .base (.lst h1)
  ·exact .base (.frz h1)
  ·exact .kList h1 h2
 | tup h1 _ =>
  cases h
  rcases h1 with (h1 | ⟨o,h1⟩) | ⟨o,its,n,h1,h2,_⟩
  ·exact .base (.tup h1)
  ·exact .fTuple h1
  ·exact .kTuple h1 h2
 | obj _ _=>cases h
 | ty _=>cases h
 | cls _=>cases h
 | tpl _ _=>cases h
theorem cd_isiOwn {X:Cx} {c:Str} (h:IsiOk X.K c):Xa X (.builtin "isinstance") (c2 (Xp c)):=call2 call_isi fun Wx P ι G S H v v2 u u2 σ Q s r r2 post=>by
 unfold Xp at post
 split at post
 ·rename_i c2
  split at post
  ·rename_i hc
   subst hc
   cases r2
   have self:PySem.W.kitOne X.K (.ref (ga X.K c2)) (.ref (ga X.K c2))=some true:=by
    unfold PySem.W.kitOne
    rw[if_pos (by simp)]
   have obj:∀ c' fs,objU u S=some (c',fs)→c'=c2→Post (RU X.K) X.K Wx P ι G σ Q (.ok (.d (.bl true)) S)→rIsi X.K [v,.ref (ga X.K c2)] H Q:=fun c' fs ho e post'=>by
    rw[e] at ho
    obtain⟨a,dx,vs,rfl,h1,_⟩:=U4 s r ho
    exact⟨_,_,_,_,true,rfl,.own _,.base (h.ins H a dx vs h1),self,post'.ok s (.bl _)⟩
   unfold Vh at post
   split at post
   ·rename_i d
    split at post
    ·rename_i hs
     obtain⟨T,hT⟩:=Option.isSome_iff_exists.mp hs
     exact⟨_,_,_,_,false,rfl,.own _,TyX.ex s.ex (rv_tyT r hT),h.side T (tyN_mem hT),post.ok s (.bl _)⟩
    ·split at post
     ·rename_i c' fs ho
      split at post
      ·rename_i e
       exact obj c' fs ho e post
      ·exact post.elim
     ·exact post.elim
   ·split at post
    ·rename_i c' fs ho
     split at post
     ·rename_i e
      exact obj c' fs ho e post
     ·exact post.elim
    ·exact post.elim
  ·exact post.elim
 ·exact post.elim
end DL
namespace WH
open PySem PySem.Spec PyProof.Rows L2 DL
open He (ga ma)
theorem ba2 {a b:Bool} (h:(a && b)=true):a=true∧b=true:=Bool.and_eq_true_iff.mp h
theorem eq_ok {K:PySem.W.Frag} {x:Str} {f:Addr} (c:cEq x K=true) (M:Meth K (ga K x) "__eq__" f):EqOk K (ga K x) f:=by
 obtain⟨c1,c2⟩:=ba2 c
 exact⟨M.at_,M.fn,c1,fun T hT=>List.all_eq_true.mp c2 T hT⟩
theorem isi_ok {K:PySem.W.Frag} {x:Str} (c:cIsi x K=true) (C:Cls K (ga K x)):IsiOk K x:=by
 obtain⟨c1,c2⟩:=ba2 c
 obtain⟨c2,c3⟩:=ba2 c2
 obtain⟨c3,c4⟩:=ba2 c3
 obtain⟨c4,c5⟩:=ba2 c4
 exact⟨fun H a dx fs e=>.ins e C (of_decide_eq_true c1) (of_decide_eq_true c2) (of_decide_eq_true c3) (of_decide_eq_true c4),fun T hT=>of_decide_eq_true (List.all_eq_true.mp c5 T hT)⟩
end WH
namespace DL
open PySem PySem.Spec PyProof.Rows L2
theorem hdl_t {c:Str} {fs:List (Str × D)} {ρ:Env} {S:Qa} {cn:Str} {F:List (Str × D)→Env→Qa→Res U} {r:List Cl} {u:U} {S':Qa} (h:mt c cn=true) (hF:F fs ρ S=.ok u S'):hdlU c fs ρ S ((cn,F) :: r)=.rt u S':=by
 unfold hdlU
 rw[if_pos h,hF]
theorem hdl_f {c:Str} {fs:List (Str × D)} {ρ:Env} {S:Qa} {cn:Str} {F:List (Str × D)→Env→Qa→Res U} {r:List Cl} (h:mt c cn=false):hdlU c fs ρ S ((cn,F) :: r)=hdlU c fs ρ S r:=by
 conv=>lhs; unfold hdlU
 rw[if_neg (by rw[h]; simp)]
theorem lookup_one (f:Str) (d:D):List.lookup f [(f,d)]=some d:=by simp [List.lookup]
end DL
namespace DL
open PySem PySem.Spec PySem.W PyProof.Rows
open L2
open He (ga ma)
open Evl (Ex)
def noErr:Res U→Res U
 | .err _ _ _=>.bad
 | r=>r
theorem noErr_post {K:PySem.W.Frag} {Wx:WX} {P:Hp} {ι:List Addr} {G:Hp} {σ τ:L2.St} {Q:VK} {W2:WX} : ∀ {r:Res U},Post (RU K) K Wx P ι G σ Q (noErr r)→Post (RU K) K W2 P ι G τ Q r
 | .ok _ _,h=>h
 | .err _ _ _,h=>h.elim
 | .bad,h=>h
def eqAny (c:Str) (fF:Fn) (x y:U) (S:Qa):Res U:=match objU x S with
 | some _=>noErr (eqOwnU c fF x y S)
 | none=>eqU x y S
section
variable {X:Cx} {k:Nat} {c:Str} {f:Addr} {ps:List Str} {fF:Fn}
theorem od_eqAny (hA:X.A.guards=some []) (hp:EqOk X.K (ga X.K c) f) (F:FD X.prog X.w X.K X.mg X.base k f ps fF) (hr:Room k X.A):OpD X (compareOp .Eq) (eqAny c fF):=by
 obtain⟨r0,h0,d0⟩:=Xo hr
 obtain⟨hlen,fd,FG,hbi,_⟩:=F
 refine⟨fun x y H Q=>r0 x y H Q∨∃ a dx vs,x=.ref a∧H a=some (.ins (ga X.K c) dx vs)∧((∃ G d T,Rv X.K G y d∧Ex G H∧tyN d=some T)∨∃ a2 dx2 vs2,y=.ref a2∧H a2=some (.ins (ga X.K c) dx2 vs2))∧spD X.K ps.length fF [x,y] H Q (fun _ _ _=>False),fun pins s2 σ H2 x y v u Q I2 rx ry h=>?_,fun Wx P ι G S H v1 v2 u1 u2 σ Q s r1 r2 post=>?_⟩
 ·rcases h with h | ⟨a,dx,vs,ex,ea,hy,q⟩
  ·exact h0 pins s2 σ H2 x y v u Q I2 rx ry h
  subst ex
  cases (show v=Value.ref a from rx)
  obtain⟨mA,om,_⟩:=ins_get I2.hok ea
  obtain⟨od,J,_⟩:=om.look
  obtain⟨m,hF⟩:=I2.fr
  have go:wpAny (model X.prog X.w) X.A (call (.ref f) [.ref a,u]) (PySem.W.CmpBack (EP X pins σ Q)) X.xe s2:=by
   refine wpAny_mono (run_fnGS (us:=[.ref a,u]) (vs:=[.ref a,y]) (dvs:=[]) (ds:=[]) (E:=WE fun _ _ _ _=>False) hA FG hr hbi .nil (passAt (W:=fun _ _ _ _=>False) (fun _ _ ⟨_,_,_,_,_,_,_,_,_,_,_,_,_,_,_,_,w⟩=>w.elim) σ) I2 (.cons rfl (.cons ry .nil)) (by rw[List.append_nil]; exact q)) (fun w s' z=>?_) fun _ _ x=>x
   obtain⟨z',H',I',rz,qz⟩:=z
   exact SlX.cmpback rz ⟨z',H',I',rz,qz⟩
  show wpAny (model X.prog X.w) X.A (richCompare .Eq (.ref a) u) _ _ _
  rcases hy with ⟨G,d,T,rv,eG,hT⟩ | ⟨a2,dx2,vs2,ey,ea2⟩
  ·exact PySem.W.cmp_K (op:=.Eq) hr.units0 hF I2.ok.mod.kin J (type_looks I2 ry rv eG hT) (hp.side T (tyN_mem hT)) hp.own hp.fn go
  ·subst ey
   cases (show u=Value.ref a2 from ry)
   obtain⟨mA2,om2,_⟩:=ins_get I2.hok ea2
   obtain⟨od2,J2,_⟩:=om2.look
   exact PySem.W.cmp_K (op:=.Eq) hr.units0 hF I2.ok.mod.kin J J2.type hp.self hp.own hp.fn go
 ·unfold eqAny at post
  split at post
  ·rename_i q ho'
   refine .inr ?_
   unfold eqOwnU at post
   split at post
   ·rename_i c' fs ho
    split at post
    ·rename_i h
     subst h
     obtain⟨a,dx,vs,rfl,h1,h2⟩:=U4 s r1 ho
     refine⟨a,dx,vs,rfl,h1,?_⟩
     have fin:∀ {y:U},RU X.K ι G v2 y→Post (RU X.K) X.K Wx P ι G σ Q (noErr (fF [u1,y] S))→spD X.K ps.length fF [.ref a,v2] H Q (fun _ _ _=>False):=fun {y} ry z =>
      X4 (Wx:=fun _ _ _ _=>False) (σ:=[]) hlen s (.cons r1 (.cons ry .nil)) (noErr_post z)
     split at post
     ·rename_i d
      split at post
      ·rename_i hs
       obtain⟨T,hT⟩:=Option.isSome_iff_exists.mp hs
       exact⟨.inl ⟨G,d,T,r2,s.ex,hT⟩,fin r2 post⟩
      ·split at post
       ·rename_i c2 fs2 ho2
        split at post
        ·rename_i h
         subst h
         obtain⟨a2,dx2,vs2,rfl,k1,k2⟩:=U4 s r2 ho2
         exact⟨.inr ⟨a2,dx2,vs2,rfl,k1⟩,fin r2 post⟩
        ·exact post.elim
       ·exact post.elim
     ·rename_i n
      split at post
      ·rename_i c2 fs2 ho2
       split at post
       ·rename_i h
        subst h
        obtain⟨a2,dx2,vs2,rfl,k1,k2⟩:=U4 s r2 ho2
        exact⟨.inr ⟨a2,dx2,vs2,rfl,k1⟩,fin r2 post⟩
       ·exact post.elim
      ·exact post.elim
    ·exact post.elim
   ·exact post.elim
  ·exact .inl (d0 Wx P ι G S H v1 v2 u1 u2 σ Q s r1 r2 post)
end
end DL
namespace DL
open PySem PySem.Spec PyProof.Rows L2
open He (ga ma)
open Evl (Ex)
/-- a def called by position alone -/
def FnP (P:Program) (w:World) (K:PySem.W.Frag) (mg:Str→Option Value) (base:Heap) (CX:CXT) (k:Nat) (f:Addr) (sp:Sp):Prop :=
 ∀ (A:Around),A.guards=some []→∀ (outer:List PySem.Env) (s:Shared) (H:Hp) (us:List Value) (vs:List V) (Q:VK) (E:XK),Room k A→Env0 P w K mg base A outer s H→Vals vs us→sp vs H Q E →
  codeAny (model P w) A (.call (.ref f) ⟨us,[]⟩) (CR CX outer P w H s Q E) s
theorem FnP.mono {P:Program} {w:World} {K:PySem.W.Frag} {mg:Str→Option Value} {base:Heap} {CX:CXT} {j k:Nat} {f:Addr} {sp:Sp} (F:FnP P w K mg base CX j f sp) (h:j≤k):FnP P w K mg base CX k f sp :=
 fun A hA outer s H us vs Q E hr=>F A hA outer s H us vs Q E (hr.mono h)
/-- one argument,what is left over is a new tuple -/
def spV (K:PySem.W.Frag) (fF:Fn):Sp:=fun vs H Q E=>∃ v rest,vs=v :: rest∧rest.length≤sizeLine∧∀ p,H p=none→spD K 2 fF [v,.ref p] (upd H p (.tup rest)) Q E
section
variable {P:Program} {w:World} {K:PySem.W.Frag} {mg:Str→Option Value} {base:Heap} {k:Nat} {x qual:Str} {f:Addr} {N:List Str} {fF:Fn} {B:Env→Qa→Fl}
/-- def f(a,*v) by its body -/
theorem okV {params:Arguments} {body:List Stmt} {scope:Scope} {fd:FuncData} {p1 pv:Str} (F:FunD K x qual params body scope [] [] f fd) (S:FnScope N [p1,pv] scope)
  (hb:∀ (kV doc pm cdv ct:Value) (an:Option Addr) (us rest:List Value),us.length=[p1].length→bindArgs (PySem.W.fnOf x qual params body scope .none kV doc pm an cdv ct) ⟨us++rest,[]⟩ = (newTuple rest >>= fun t=>pure ([p1].zip us++[(pv,t)])))
  (hB:∀ (cdv:Value) (A:Around) (outer:List PySem.Env) (s:Shared) (H:Hp) (E:XK),(A.deeper (envOfC qual scope s.heap.objs.size f cdv)).guards=some []→Room k (A.deeper (envOfC qual scope s.heap.objs.size f cdv)) →
   PDSs (cxOf (L2.CX P w) P w K mg base N qual scope f cdv A outer s H E) (fun c d _ H=>E c d H) body B)
  (href:∀ us S,us.length=2→Qx S (fF us S) (Jc (B (Q3 N.length us) S))):FnP P w K mg base (L2.CX P w) (k + 1) f (spV K fF):=by
 obtain⟨oc,od,dV,kV,doc,pm,an,cdv,ct,osl,rfl,lk,hcd,hD,_⟩:=F.ex
 obtain rfl:dV=.none:=by
  rcases hD with ⟨_,e⟩ | ⟨e,_⟩
  ·exact e
  ·exact absurd rfl e
 intro A hA outer s H us vs Q E hr e0 r hsp
 obtain⟨v,rest,rfl,hz,hq⟩:=hsp
 cases r with
 | cons r1 r2 =>
  rename_i u1 u2
  have hn:H s.heap.objs.size=none:=e0.hok.fresh (Nat.le_refl _)
  have hl2:u2.length≤sizeLine:=by rw[← r2.length]; exact hz
  refine StX.run_bnd lk hcd S hr e0 (G:=fun xs H2=>∃ p,H p=none∧xs=[v,V.ref p]∧H2=upd H p (.tup rest)) (fun A' Ex Q' h=>?_) fun s2 H2 xs ⟨p,hp,ex,eH⟩ hr'=>?_
  ·have hbb:=hb kV doc pm cdv ct an [u1] u2 rfl
   show wpAny _ _ (bindArgs _ ⟨[u1]++u2,[]⟩) _ _ _
   rw[hbb]
   refine wpAny_bind (wpAny_newTuple (wpAny_pure ?_) hl2)
   have un:=StX.un_laid (fs:=frs outer) (s:=s) (o:=({ cls:=.type "tuple",data:=.seq u2.toArray } : Obj)) (u:=.tup rest) hn
   have new:ObjOk P w (upd H s.heap.objs.size (.tup rest)) (s.heap.push ({ cls:=.type "tuple",data:=.seq u2.toArray } : Obj)) s.heap.objs.size (.tup rest):=⟨hz,u2,r2,⟨_,Heap.get?_push_size _ rfl,rfl,_,rfl⟩⟩
   exact h _ _ [v,V.ref s.heap.objs.size] [u1,Value.ref s.heap.objs.size] (StX.env0_laid e0 new) un rfl (fun e s'=>StX.cxUp outer s H _ _ E e s' un (fun b o q=>Heap.get?_push_of_some _ q) rfl) (.cons r1 (.cons rfl .nil)) rfl ⟨_,hn,rfl,rfl⟩
  ·subst ex eH
   exact Vd (ps:=[p1,pv]) rfl (hB cdv A outer s2 _ E hA hr') (fun us S h=>href us S h) (hq p hp)
end
section
variable {X:Cx} {Wx:WX} {k:Nat} {f C:Addr} {sp:Sp} {E:L2.St→XK} {x c:Str} {p pos spos:Pos} {e:Expr} {es:List Expr} {A Fc:Env→Qa→Res U} {As:Env→Qa→Res (List U)}
theorem run_newP {CX:CXT} {pins:List (Addr × Obj)} {σ:L2.St} {H:Hp} {s:Shared} {Q:VK} {us:List Value} {vs:List V} (hA:X.A.guards=some []) (M:Mk X.K C f) (F:FnP X.prog X.w X.K X.mg X.base CX k f sp) (hr:Room (k + 1) X.A) (hx:PassesAt CX X σ (E σ)) (I:Inv X pins σ H s) (r:Vals vs us)
  (h:sp (.ref (s.heap.objs.size + 1) :: vs) (upd (upd H s.heap.objs.size (.own (s.heap.objs.size + 1))) (s.heap.objs.size + 1) (.ins C s.heap.objs.size [])) (fun v H2=>v=.non∧Q (.ref (s.heap.objs.size + 1)) H2) (E σ)) :
  wpAny (model X.prog X.w) X.A (call (.ref C) us) (EP X pins σ Q) X.xe s:=by
 have J:=Inv.made (C:=C) I
 refine wp_goes (make_map I.kIn M.makes M.init (beq_iff_eq.mp M.fn) (codeAny_mono (F _ (under_guards hA) X.stack _ _ _ _ _ (E σ) (hr.make C us []) (J.env0.make C us []) (.cons (show RelV (V.ref (s.heap.objs.size + 1)) (Value.ref (s.heap.objs.size + 1)) from rfl) r) h) fun r s' g=>?_))
 have g':=goes_of J hx g
 match r,g' with
 | .error e,g'=>exact g'
 | .ok (.ret u),⟨v,H',I3,rv,hv,q⟩ =>
  subst hv
  exact⟨rv,V.ref _,H',I3,rfl,q⟩
def Za (c:Str) (iF:Fn) (us:List U) (S:Qa):Res U:=match allD us with
 | some ds=>if ds.length≤sizeLine then makeU true c iF [.d (.tup ds)] S else .bad
 | none=>.bad
theorem V1 {K:PySem.W.Frag} {P:Hp} {ι:List Addr} {G H:Hp} {S:Qa} {σ:L2.St} {Q:VK} {c:Str} {iF:Fn} {us:List U} {vs:List V} (hlen:∀ us S,us.length ≠ 2→iF us S=.bad) (s:Sr K P ι G S H) (r:RUs K ι G vs us) (post:Post (RU K) K Wx P ι G σ Q (Za c iF us S))
  (a dx:Addr) (ha:H a=none) (hd:H dx=none) (hne:dx ≠ a):spV K iF (.ref a :: vs) (upd (upd H dx (.own a)) a (.ins (ga K c) dx [])) (fun v H2=>v=.non∧Q (.ref a) H2) (WE Wx σ):=by
 unfold Za at post
 split at post
 ·rename_i ds hds
  split at post
  ·rename_i hz
   have rd:=r.all hds
   refine⟨_,_,rfl,by rw[Qm rd.pair]; exact hz,fun q hq=>?_⟩
   have ha':upd H dx (.own a) a=none:=by rw[upd_ne (Ne.symm hne)]; exact ha
   have up:ι <+: ι++[a]:=List.prefix_append ι [a]
   have hg:=(s.fresh ha).1
   have s1:Sr K P (ι++[a]) G (S++[.obj c []]) (upd (upd H dx (.own a)) a (.ins (ga K c) dx [])):=(s.tmp hd).cell ha' ⟨hg,dx,[],upd_same,.nil⟩
   have s2:=s1.new (o:=.tup vs) hq
   have eG:=s1.exN (o:=.tup vs) hq
   have hn:(ι++[a])[S.length]?=some a:=by rw[← s.len,List.getElem?_append_right (Nat.le_refl _),Nat.sub_self]; rfl
   refine call_postN (Wx:=Wx) (σ:=σ) hlen s2 (.cons (show RU K (ι++[a]) _ (.ref a) (.r S.length) from ⟨a,hn,rfl⟩) (.cons (show RU K (ι++[a]) _ (.ref q) (.d (.tup ds)) from .tup (SqT.of upd_same) (rd.ex eG)) .nil)) ?_
   unfold makeU at post
   generalize iF [.r S.length,.d (.tup ds)] (S++[.obj c []])=z at post
   cases z with
   | bad=>exact post
   | err c' fs S2=>exact fun ι' G' H' od p e s' ea=>post ι' G' H' od (up.trans p) (eG.trans e) s' ea
   | ok u S2 =>
    intro ι' G' H' v p e s' rv
    match u,post,rv with
    | .d .non,post1,rv =>
     cases rv
     refine⟨rfl,?_⟩
     obtain⟨G2,e2,s2⟩:=frzN_ok (n:=S.length) s'
     exact post1 ι' G2 H' (.ref a) (up.trans p) ((eG.trans e).trans e2) s2 (norm_ok s2 (show RU K ι' G2 (.ref a) (.r S.length) from ⟨a,Zt p hn,rfl⟩))
  ·exact post.elim
 ·exact post.elim
/-- the class c is made by __init__(self,*args),which computes iF -/
structure MkV (X:Cx) (k:Nat) (c:Str) (iF:Fn):Prop where
 made:Mk X.K (ga X.K c) (ma X.K (ga X.K c) "__init__")
 fn:FnP X.prog X.w X.K X.mg X.base (L2.CX X.prog X.w) k (ma X.K (ga X.K c) "__init__") (spV X.K iF)
 len:∀ us S,us.length ≠ 2→iF us S=.bad
def asC (c:Str) (u:U) (S:Qa) (r:Qa→Res U):Res U:=match u with
 | .d (.cls c')=>if c'=c then r S else .bad
 | _=>.bad
theorem Zb (c:Str) (S:Qa) (r:Qa→Res U):asC c (.d (.cls c)) S r=r S:=if_pos rfl
theorem asC_post {K:PySem.W.Frag} {P:Hp} {ι:List Addr} {G:Hp} {S:Qa} {σ:L2.St} {Q:VK} {v:V} {u:U} {r:Qa→Res U} (rv:RU K ι G v u) (post:Post (RU K) K Wx P ι G σ Q (asC c u S r)):v=.ref (ga K c)∧Post (RU K) K Wx P ι G σ Q (r S):=by
 unfold asC at post
 split at post
 ·rename_i c'
  split at post
  ·rename_i h
   subst h
   cases rv
   exact⟨rfl,post⟩
  ·exact post.elim
 ·exact post.elim
/-- C(e,..) -/
theorem Xg {iF:Fn} (hA:X.A.guards=some []) (M:MkV X k c iF) (hr:Room (k + 1) X.A) (tk:Takes X Wx) (hf:PD X Wx (.Name x p) Fc) (ha:PDA X Wx (e :: es) As)
  (he:starEach (e :: es) X.env=(false,eval e X.env) :: starEach es X.env:=by rfl) (hpl:(backTo pos (starEach es X.env)).any (·.1)=false:=by rfl) :
  PD X Wx (.Call (.Name x p) (e :: es) [] pos) (fun ρ S=>(Fc ρ S).bind fun u S=>asC c u S fun S=>(As ρ S).bind fun us S=>Za c iF us S):=by
 obtain⟨ta,pa,da⟩:=ha
 obtain⟨tf,pf,df⟩:=hf
 refine⟨fun σ H Q=>tf σ H fun x H0=>x=.ref (ga X.K c)∧ta σ H0 fun vs H1=>∀ a dx,H1 a=none→H1 dx=none→dx ≠ a→spV X.K iF (.ref a :: vs) (upd (upd H1 dx (.own a)) a (.ins (ga X.K c) dx [])) (fun v H2=>v=.non∧Q (.ref a) H2) (WE Wx σ),⟨fun pins s σ H Q I h=>?_⟩,fun P ι G σ S H ρ Q s e post=>?_⟩
 ·refine wpAny_Call_Name_kw (thn (pf.run pins s σ H _ I h) fun u s0 ⟨y,H0,I0,r0,ey,q0⟩=>?_)
  subst ey
  cases (show u=Value.ref _ from r0)
  refine PySem.W.callWith_K (h₀:=X.base) I.ok.mod.kin M.made.kp (thn (pa.run pos pins s0 σ H0 _ I0 q0) fun us s1 ⟨vs,H1,I1,r,q⟩=>⟨I1.kIn,?_⟩) he hpl
  exact run_newP (E:=WE Wx) hA M.made M.fn hr (passAt tk σ) I1 r (q _ _ (I1.hok.fresh (Nat.le_succ _)) (I1.hok.fresh (Nat.le_refl _)) (Nat.ne_of_lt (Nat.lt_succ_self _)))
 ·refine df P ι G σ S H ρ _ s e (post.bind fun u S0 ι0 G0 H0 v p0 e0 s0 rv0 post0=>?_)
  obtain⟨hv,post0⟩:=asC_post rv0 post0
  refine⟨hv,da P ι0 G0 σ S0 H0 ρ _ s0 (e.up p0 e0) (post0.bind fun us S1 ι1 G1 H1 vs p1 e1 s1 rv post1=>fun a dx ha hd hne=>?_)⟩
  exact V1 M.len s1 rv post1 a dx ha hd hne
/-- C() -/
theorem pd_makeV0 {iF:Fn} (hA:X.A.guards=some []) (M:MkV X k c iF) (hr:Room (k + 1) X.A) (tk:Takes X Wx) (hf:PD X Wx (.Name x p) Fc) :
  PD X Wx (.Call (.Name x p) [] [] pos) (fun ρ S=>(Fc ρ S).bind fun u S=>asC c u S fun S=>Za c iF [] S):=by
 obtain⟨tf,pf,df⟩:=hf
 refine⟨fun σ H Q=>tf σ H fun x H1=>x=.ref (ga X.K c)∧∀ a dx,H1 a=none→H1 dx=none→dx ≠ a→spV X.K iF [.ref a] (upd (upd H1 dx (.own a)) a (.ins (ga X.K c) dx [])) (fun v H2=>v=.non∧Q (.ref a) H2) (WE Wx σ),⟨fun pins s σ H Q I h=>?_⟩,fun P ι G σ S H ρ Q s e post=>?_⟩
 ·refine wpAny_Call_Name_kw (thn (pf.run pins s σ H _ I h) fun u s1 ⟨y,H1,I1,r0,ey,q⟩=>?_)
  subst ey
  cases (show u=Value.ref _ from r0)
  refine PySem.W.callWith_K0 I1.kIn M.made.kp ?_
  exact run_newP (E:=WE Wx) hA M.made M.fn hr (passAt tk σ) I1 .nil (q _ _ (I1.hok.fresh (Nat.le_succ _)) (I1.hok.fresh (Nat.le_refl _)) (Nat.ne_of_lt (Nat.lt_succ_self _)))
 ·refine df P ι G σ S H ρ _ s e (post.bind fun u S1 ι1 G1 H1 v p1 e1 s1 rv0 post0=>?_)
  obtain⟨hv,post0⟩:=asC_post rv0 post0
  exact⟨hv,fun a dx ha hd hne=>V1 M.len s1 .nil post0 a dx ha hd hne⟩
/-- C(*e) -/
theorem pd_makeVS {iF:Fn} (hA:X.A.guards=some []) (M:MkV X k c iF) (hr:Room (k + 1) X.A) (tk:Takes X Wx) (hf:PD X Wx (.Name x p) Fc) (ha:PD X Wx e A)
  (hst:starEach [.Starred e spos] X.env=[(true,eval e X.env)]:=by rfl) :
  PD X Wx (.Call (.Name x p) [.Starred e spos] [] pos) (fun ρ S=>(Fc ρ S).bind fun u S=>asC c u S fun S=>(A ρ S).bind fun u S=>(seqU u S).bind fun us S=>Za c iF us S):=by
 obtain⟨ta,pa,da⟩:=ha
 obtain⟨tf,pf,df⟩:=hf
 refine⟨fun σ H Q=>tf σ H fun x H0=>x=.ref (ga X.K c)∧ta σ H0 fun y H1=>∃ b xs,y=.ref b∧(SqT X.K H1 b xs∨SqL X.K H1 b xs)∧∀ a dx,H1 a=none→H1 dx=none→dx ≠ a→spV X.K iF (.ref a :: xs) (upd (upd H1 dx (.own a)) a (.ins (ga X.K c) dx [])) (fun v H2=>v=.non∧Q (.ref a) H2) (WE Wx σ),⟨fun pins s σ H Q I h=>?_⟩,fun P ι G σ S H ρ Q s e post=>?_⟩
 ·refine wpAny_Call_Name_kw (thn (pf.run pins s σ H _ I h) fun u s0 ⟨y,H0,I0,r0,ey,q0⟩=>?_)
  subst ey
  cases (show u=Value.ref _ from r0)
  refine PySem.W.callWith_S (h₀:=X.base) I.ok.mod.kin M.made.kp (thn (pa.run pins s0 σ H0 _ I0 q0) fun v s1 ⟨y,H1,I1,ry,b,xs,ey,hxs,q⟩=>?_) hst
  subst ey
  cases (show v=Value.ref b from ry)
  refine StX.star_any I1 hxs fun us s2 I2 rv=>⟨I2.kIn,?_⟩
  exact run_newP (E:=WE Wx) hA M.made M.fn hr (passAt tk σ) I2 rv (q _ _ (I2.hok.fresh (Nat.le_succ _)) (I2.hok.fresh (Nat.le_refl _)) (Nat.ne_of_lt (Nat.lt_succ_self _)))
 ·refine df P ι G σ S H ρ _ s e (post.bind fun u S0 ι0 G0 H0 v p0 e0 s0 rv0 post0=>?_)
  obtain⟨hv,post0⟩:=asC_post rv0 post0
  refine⟨hv,da P ι0 G0 σ S0 H0 ρ _ s0 (e.up p0 e0) (post0.bind fun u1 S1 ι1 G1 H1 v1 p1 e1 s1 rv post1=>?_)⟩
  obtain⟨b,xs,us,rfl,hq,rus,post2⟩:=seq_post s1 rv post1
  exact⟨b,xs,rfl,hq,fun a dx ha hd hne=>V1 M.len s1 rus post2 a dx ha hd hne⟩
end
end DL
namespace DL
open PySem PySem.Spec PyProof.Rows L2
open He (ga ma)
open Evl (Ex)
end DL
namespace DL
open PySem PySem.Spec PyProof.Rows L2
open He (ga ma)
open Evl (Ex)
/-- the def at f computes fF,wherever it is called -/
def FO (P:Program) (w:World) (K:PySem.W.Frag) (mg:Str→Option Value) (base:Heap) (k:Nat) (f:Addr) (ps:List Str) (fF:Fn):Prop :=
 (∀ us S,us.length ≠ ps.length→fF us S=.bad)∧∃ fd,FnOk P w K mg base (L2.CX P w) k f fd ps (spD K ps.length fF)∧Binds K fd ps []∧PySem.W.keepIn K (.ref f)=true
theorem FO.d {P:Program} {w:World} {K:PySem.W.Frag} {mg:Str→Option Value} {base:Heap} {k:Nat} {f:Addr} {ps:List Str} {fF:Fn} (F:FO P w K mg base k f ps fF):FD P w K mg base k f ps fF:=let ⟨l,fd,a,b⟩:=F; ⟨l,fd,a.g,b⟩
section
variable {P:Program} {w:World} {K:PySem.W.Frag} {mg:Str→Option Value} {base:Heap} {k:Nat} {x qual:Str} {st:Stmt} {f:Addr} {N ps:List Str} {fF:Fn} {B:Env→Qa→Fl}
/-- a method by its body,no repr in it -/
theorem okMtO (F:MtF K x qual st f) (S:FnScope N ps (defScope st)) (hb:BindRowQ x qual st ps) (hlen:∀ us S,us.length ≠ ps.length→fF us S=.bad)
  (hB:∀ (cdv:Value) (A:Around) (outer:List PySem.Env) (s:Shared) (H:Hp) (E:XK),Room k (A.deeper (envOfC qual (defScope st) s.heap.objs.size f cdv)) →
   PDSs (cxOf (L2.CX P w) P w K mg base N qual (defScope st) f cdv A outer s H E) (fun c d _ H=>E c d H) (defBody st) B)
  (href:∀ us S,us.length=ps.length→Qx S (fF us S) (Jc (B (Q3 N.length us) S))):FO P w K mg base (k + 1) f ps fF:=by
 obtain⟨fd,F⟩:=F
 have hB':=F.binds hb
 have hP:=F.kp
 obtain⟨oc,od,kV,doc,pm,an,cdv,ct,osl,rfl,lk,hcd⟩:=F.ex
 refine⟨hlen,_,fn_of lk hcd S (fun vs H Q E h=>h.1) fun A outer s H vs Q E hr hsp=>?_,hB',hP⟩
 exact Vd rfl (hB cdv A outer s H E hr) href hsp
end
theorem sr_whole (K:PySem.W.Frag) (H:Hp):Sr K (fun _=>none) [] H [] H:=⟨Ex.refl H,rfl,.nil,fun n c a h=>by simp at h,fun n a h=>by simp at h,(fun a o h=>by cases h),fun n c a h=>by simp at h⟩
theorem pre_post {K:PySem.W.Frag} {Wx:WX} {P:Hp} {ι:List Addr} {G:Hp} {σ:L2.St} {Q:VK} {p:Prop} {r:Res U} (post:Post (RU K) K Wx P ι G σ Q (pre p r)):p∧Post (RU K) K Wx P ι G σ Q r:=by
 unfold pre at post
 split at post
 ·rename_i h; exact⟨h,post⟩
 ·exact post.elim
end DL
namespace DL
open PySem PySem.Spec PyProof.Rows L2
open He (ga ma)
open Evl (Ex)
end DL
namespace DL
open PySem PySem.Spec PyProof.Rows L2
open He (ga ma)
open Evl (Ex)
end DL
namespace DL
open PySem PySem.Spec PyProof.Rows L2
open He (ga ma)
def mthU (c m:Str) (u:U) (S:Qa) (r:Qa→Res U):Res U:=match objU u S with
 | some (c',fs)=>if c'∈[c]∧fs.lookup m=none then r S else .bad
 | none=>.bad
section
variable {X:Cx} {Wx:WX} {k:Nat} {c m:Str} {f:Addr} {ps:List Str} {fF:Fn} {o e:Expr} {es:List Expr} {pos apos:Pos} {A:Env→Qa→Res U} {As:Env→Qa→Res (List U)} {pl:Sem Bool}
/-- o.m(),o of the class c -/
theorem pd_meth10 (hA:X.A.guards=some []) (he:PD X Wx o A) (cl:Cls X.K (ga X.K c)) (me:Meth X.K (ga X.K c) m f) (F:FD X.prog X.w X.K X.mg X.base k f ps fF) (hr:Room k X.A) (tk:Takes X Wx)
  (ht:eval (.Call (.Attribute o m apos) [] [] pos) X.env=(do
   let ov ← eval o X.env
   standAt apos.atName
   let (f,first) ← holding [ov] (getMethod ov m pl)
   callWith pos f first (backTo pos (starEach [] X.env)) (backToKw pos (keywordEach [] X.env))):=by rfl) :
  PD X Wx (.Call (.Attribute o m apos) [] [] pos) (fun ρ S=>(A ρ S).bind fun u S=>mthU c m u S fun S=>fF [u] S) :=
 pd_meth0 (cs:=[c]) (fF:=fun _=>fF) hA he (fun c' hc=>by obtain rfl:=List.mem_singleton.mp hc; exact⟨cl,f,ps,me,F⟩) hr tk ht
end
end DL
namespace DL
open PySem PySem.Spec PyProof.Rows L2
open He (ga ma)
/-- how a call ends: with data,or with an error of one field -/
inductive Ve where
 | ok (d:D) | err (e f:Str) (d:D)
def Ve.res:Ve→Qa→Res U
 | .ok d,S=>.ok (.d d) S
 | .err e f d,S=>.err e [(f,d)] S
theorem Ve.inj {a b:Ve} {S S':Qa} (h:a.res S=b.res S'):a=b:=by
 cases a with
 | ok d =>
  cases b with
  | ok d'=>cases h; rfl
  | err _ _ _=>cases h
 | err e f d =>
  cases b with
  | ok _=>cases h
  | err e' f' d'=>cases h; rfl
/-- this end,beside new cells -/
def ResG (v:Ve) (S:Qa) (r:Res U):Prop:=∃ g,r=v.res (S++g)
theorem resG {v:Ve} {S:Qa} : ResG v S (v.res S):=⟨[],by rw[List.append_nil]⟩
theorem resGg {v:Ve} {S g:Qa} : ResG v S (v.res (S++g)):=⟨g,rfl⟩
theorem fact_fn {ι:Type} (n:Nat) (b:List U→Qa→Res U) (args:ι→List U) (val:ι→Ve) (ok:ι→Prop) (hl:∀ i,(args i).length=n) (h:∀ i S,ok i→ResG (val i) S (b (args i) S)) :
  ∃ fF:Fn,(∀ us S,us.length ≠ n→fF us S=.bad)∧(∀ us S,us.length=n→Qx S (fF us S) (b us S))∧∀ i S,ok i→fF (args i) S=(val i).res S:=by
 have h':∀ us S,∃ r:Res U,(us.length ≠ n→r=.bad)∧Qx S r (b us S)∧∀ i,ok i→us=args i→r=(val i).res S:=fun us S=>by
  by_cases c:∃ i,ok i∧us=args i
  ·obtain⟨i,hi,rfl⟩:=c
   obtain⟨g,hg⟩:=h i S hi
   refine⟨(val i).res S,fun hn=>absurd (hl i) hn,?_,fun j hj e=>?_⟩
   ·rw[hg]
    cases val i with
    | ok d=>exact .ok g (Shr.refl S) trivial
    | err e f d=>exact .err g (Shr.refl S)
   ·obtain⟨g',hg'⟩:=h j S hj
    rw[← e,hg] at hg'
    rw[Ve.inj hg']
  ·exact⟨.bad,fun _=>rfl,.bad _,fun j hj e=>absurd ⟨j,hj,e⟩ c⟩
 exact⟨fun us S=>(h' us S).choose,fun us S hn=>(h' us S).choose_spec.1 hn,fun us S _=>(h' us S).choose_spec.2.1,fun i S hi=>(h' (args i) S).choose_spec.2.2 i hi rfl⟩
section
variable {P:Program} {w:World} {K:PySem.W.Frag} {mg:Str→Option Value} {base:Heap} {k:Nat} {x qual:Str} {st:Stmt} {f:Addr} {N ps:List Str} {B:Env→Qa→Fl} {ι:Type}
theorem factM (args:ι→List U) (val:ι→Ve) (ok:ι→Prop) (F:FnF K mg x st) (Sc:FnScope N ps (defScope st)) (hb:Ug x st ps) (hl:∀ i,(args i).length=ps.length)
  (hB:∀ (cdv:Value) (A:Around) (outer:List PySem.Env) (s:Shared) (H:Hp) (E:XK),(A.deeper (envOfC x (defScope st) s.heap.objs.size (ga K x) cdv)).guards=some []→Room k (A.deeper (envOfC x (defScope st) s.heap.objs.size (ga K x) cdv)) →
   PDSs (cxOf (L2.CX P w) P w K mg base N x (defScope st) (ga K x) cdv A outer s H E) (fun c d _ H=>E c d H) (defBody st) B)
  (h:∀ i S,ok i→ResG (val i) S (Jc (B (Q3 N.length (args i)) S))) :
  ∃ fF,FM P w K mg base (k + 1) x ps fF∧∀ i S,ok i→fF (args i) S=(val i).res S:=by
 obtain⟨fF,h1,h2,h3⟩:=fact_fn ps.length (fun us S=>Jc (B (Q3 N.length us) S)) args val ok hl h
 exact⟨fF,okM F Sc hb h1 hB h2,h3⟩
theorem factMt (args:ι→List U) (val:ι→Ve) (ok:ι→Prop) (F:MtF K x qual st f) (Sc:FnScope N ps (defScope st)) (hb:BindRowQ x qual st ps) (hl:∀ i,(args i).length=ps.length)
  (hB:∀ (cdv:Value) (A:Around) (outer:List PySem.Env) (s:Shared) (H:Hp) (E:XK),(A.deeper (envOfC qual (defScope st) s.heap.objs.size f cdv)).guards=some []→Room k (A.deeper (envOfC qual (defScope st) s.heap.objs.size f cdv)) →
   PDSs (cxOf (L2.CX P w) P w K mg base N qual (defScope st) f cdv A outer s H E) (fun c d _ H=>E c d H) (defBody st) B)
  (h:∀ i S,ok i→ResG (val i) S (Jc (B (Q3 N.length (args i)) S))) :
  ∃ fF,FD P w K mg base (k + 1) f ps fF∧∀ i S,ok i→fF (args i) S=(val i).res S:=by
 obtain⟨fF,h1,h2,h3⟩:=fact_fn ps.length (fun us S=>Jc (B (Q3 N.length us) S)) args val ok hl h
 exact⟨fF,okMt F Sc hb h1 hB h2,h3⟩
end
end DL
namespace DL
open PySem PySem.Spec PyProof.Rows L2
open He (ga ma)
open Evl (Ex)
end DL
namespace DL
open PySem PySem.Spec PyProof.Rows L2
open He (ga ma)
open Evl (Ex)
section
variable {M:Model} {h:Heap} {K:PySem.W.Frag} {nm:String}
open PySem.W in
theorem any_none {F:Value→Sem Bool} (X:K.In h) (hF:∀ c,PySem.W.findIn K c (PySem.dunder nm)=some none→PySem.W.findIn K c (dunderR nm)=some none→Looks M h (F c) false):∀ {l:List Value},noNum K nm l=true→Looks M h (l.anyM F) false
 | [],_=>.now
 | c :: r,e=>by
  obtain⟨a,b⟩:=Bool.and_eq_true_iff.mp e
  obtain⟨b,d⟩:=Bool.and_eq_true_iff.mp b
  exact (hF c (beq_iff_eq.mp a) (beq_iff_eq.mp b)).andThen (any_none X hF d)
open PySem.W in
theorem fills_none {C:Addr} {cd:ClassData} (X:K.In h) (hc:clsIn K C=some cd) (hn:noNum K nm cd.mro=true):Looks M h (fillsNumberSlot (.ref C) nm) false:=by
 unfold fillsNumberSlot
 refine ((looks_clsIn X hc).andThen (f:=fun cd=>pure cd.mro) .now).andThen (any_none (nm:=nm) X (fun c h1 h2=>?_) hn)
 have l1:Looks M h (typeLookup c (PySem.dunder nm)) none:=looks_findIn X h1
 have l2:Looks M h (typeLookup c (dunderR nm)) none:=looks_findIn X h2
 cases c
 case type n=>exact l1.andThen (l2.andThen .now)
 all_goals
  show Looks M h (List.anyM _ [_,_]) false
  rw[List.anyM_cons,List.anyM_cons,List.anyM_nil]
  refine Looks.andThen (a:=false) ?_ (Looks.andThen (a:=false) ?_ .now)
  ·exact Looks.andThen (a:=none) l1 .now
  ·exact Looks.andThen (a:=none) l2 .now
end
section
variable {P:Program} {w:World} {A:Around} {E:Value→Shared→Prop} {K:PySem.W.Frag} {x C C2 f:Addr} {b:Value} {ox:Obj} {od:Option Obj} {s:Shared} {op:Operator} {Q:Value→Shared→Prop}
open PySem.W in
theorem bin_own (X:K.In s.heap) (I:InstAt s.heap x ox C od) (hb:Looks (model P w) s.heap (typeOf b) (.ref C2)) (hne:C ≠ C2) (hc:selfFirst K C=true) (hs:findIn K (.ref C) (PySem.dunder op.info.2)=some (some (.ref f))) (hf:isFn K (.ref f)=true)
  (hfl:Looks (model P w) s.heap (fillsNumberSlot (.ref C2) op.info.2) false) (h:wpAny (model P w) A (call (.ref f) [.ref x,b]) (PySem.W.CmpBack Q) E s):wpAny (model P w) A (binaryOp op (.ref x) b) Q E s:=by
 obtain⟨cd,rest,hcd,hm⟩:=ksp_first hc
 have hne':(Value.ref C == Value.ref C2)=false:=Bool.eq_false_iff.mpr fun q=>by cases beq_iff_eq.mp q; exact hne rfl
 unfold binaryOp
 refine wpAny_holding (wpAny_bind ?_)
 unfold binaryOp1
 refine wpAny_bind (I.type.here (wpAny_bind (hb.here (wpAny_bind ((fills_K X hcd hm hs).here ?_)))))
 simp only[hne',Bool.false_eq_true,if_false]
 refine wpAny_bind (hfl.here ?_)
 simp only[Bool.and_false,Bool.false_eq_true,if_false,Bool.false_and]
 refine wpAny_bind (wpAny_pure ?_)
 simp only[Bool.false_eq_true,if_false,if_true]
 refine wpAny_bind (m:=tryMethod (.ref x) _ b) ?_
 unfold tryMethod
 refine wpAny_bind (special_fn X I hs (beq_iff_eq.mp hf) (wpAny_mono h (fun v s' hv=>?_) fun _ _ e=>e))
 cases v<;>first | exact hv.elim | exact wpAny_pure (wpAny_pure (wpAny_pure hv))
end
structure BinOk (K:PySem.W.Frag) (nm:String) (C f C2:Addr):Prop where
 first:PySem.W.selfFirst K C=true
 own:PySem.W.findIn K (.ref C) (PySem.dunder nm)=some (some (.ref f))
 fn:PySem.W.isFn K (.ref f)=true
 ne:C ≠ C2
 none:∃ cd,PySem.W.clsIn K C2=some cd∧noNum K nm cd.mro=true
def binU (c c2:Str) (fF:Fn) (x y:U) (S:Qa):Res U:=match objU x S,objU y S with
 | some (c',_),some (c2',_)=>if c'=c∧c2'=c2 then fF [x,y] S else .bad
 | _,_=>.bad
section
variable {X:Cx} {Wx:WX} {a b:Expr} {A B:Env→Qa→Res U} {pos:Pos} {k:Nat} {c c2:Str} {f:Addr} {ps:List Str} {fF:Fn} {op:Operator}
/-- a op b,by the own method of a's class c,b of the class c2 -/
theorem pd_bin (hA:X.A.guards=some []) (hp:BinOk X.K op.info.2 (ga X.K c) f (ga X.K c2)) (F:FD X.prog X.w X.K X.mg X.base k f ps fF) (hr:Room k X.A) (tk:Takes X Wx) (ha:PD X Wx a A) (hb:PD X Wx b B) :
  PD X Wx (.BinOp a op b pos) (fun ρ S=>(A ρ S).bind fun x S=>(B ρ S).bind fun y S=>binU c c2 fF x y S):=by
 obtain⟨ta,pa,da⟩:=ha
 obtain⟨tb,pb,db⟩:=hb
 obtain⟨hlen,fd,FG,hbi,_⟩:=F
 obtain⟨cd,hcd,hnn⟩:=hp.none
 refine⟨fun σ H Q=>ta σ H fun x H1=>tb σ H1 fun y H2=>∃ a dx vs a2 dx2 vs2,x=.ref a∧H2 a=some (.ins (ga X.K c) dx vs)∧y=.ref a2∧H2 a2=some (.ins (ga X.K c2) dx2 vs2)∧spD X.K ps.length fF [x,y] H2 Q (WE Wx σ),⟨fun pins s σ H Q I h=>?_⟩,fun P ι G σ S H ρ Q s e post=>?_⟩
 ·refine wpAny_BinOp (binT pa pb I h fun v u s2 x y H2 I2 rx ry ⟨a,dx,vs,a2,dx2,vs2,ex,ea,ey,ea2,q⟩=>?_)
  subst ex
  subst ey
  cases (show v=Value.ref a from rx)
  cases (show u=Value.ref a2 from ry)
  obtain⟨mA,om,_⟩:=ins_get I2.hok ea
  obtain⟨od,J,_⟩:=om.look
  obtain⟨mA2,om2,_⟩:=ins_get I2.hok ea2
  obtain⟨od2,J2,_⟩:=om2.look
  refine bin_own I2.kIn J J2.type hp.ne hp.first hp.own hp.fn (fills_none I2.kIn hcd hnn) ?_
  refine wpAny_mono (run_fnGS (us:=[.ref a,.ref a2]) (vs:=[.ref a,.ref a2]) (dvs:=[]) (ds:=[]) (E:=WE Wx) hA FG hr hbi .nil (passAt tk σ) I2 (.cons rfl (.cons rfl .nil)) (by rw[List.append_nil]; exact q)) (fun w s' z=>?_) fun _ _ x=>x
  obtain⟨z',H',I',rz,qz⟩:=z
  exact SlX.cmpback rz ⟨z',H',I',rz,qz⟩
 ·refine da P ι G σ S H ρ _ s e (post.bind fun x S1 ι1 G1 H1 v p1 e1 s1 rv post1=>?_)
  refine db P ι1 G1 σ S1 H1 ρ _ s1 (e.up p1 e1) (post1.bind fun y S2 ι2 G2 H2 v2 p2 e2 s2 rv2 post2=>?_)
  unfold binU at post2
  split at post2
  ·rename_i c' fs c2' fs2 ho ho2
   split at post2
   ·rename_i h
    obtain⟨rfl,rfl⟩:=h
    obtain⟨a,dx,vs,rfl,h1,h2⟩:=U4 s2 (rv.up p2 e2) ho
    obtain⟨a2,dx2,vs2,rfl,k1,k2⟩:=U4 s2 rv2 ho2
    exact⟨a,dx,vs,a2,dx2,vs2,rfl,h1,rfl,k1,X4 hlen s2 (.cons (rv.up p2 e2) (.cons rv2 .nil)) post2⟩
   ·exact post2.elim
  ·exact post2.elim
end
end DL
namespace GQB
open PySem PySem.SeqAt PySem.Spec PyProof.Rows
open AutoSeq1 (wpAny_loadPart')
open MeetsSeq MeetsSeq2 MeetsSeq3 SeqRoads2
open GQ (FinOf call_here eqBool_refG)
section
variable {prog:Program} {w:World} {A:Around} {R:Result→Shared→Prop}
theorem tuple_eqB (l b:Addr) (items items2:Array Value) (n n2:Nat) (dd dd2:Option Addr) (sl sl2:Array (Option Value)) (bs:Nat→Bool) (I:Nat→Shared→Prop)
  (turn:∀ i (h1:i < items.size) (h2:i < items2.size) s,I i s→wpAny (model prog w) A.in1 (eqBool items[i] items2[i]) (fun r s'=>r=bs i∧I (i + 1) s') (fun e s'=>R (.error e) s') s)
  (fin:∀ (r:Bool) i s,I i s→(r=true ↔ items.size=items2.size∧∀ j,j < items.size→bs j=true)→R (.ok (.ret (.bool r))) s) {s:Shared} (hl1:s.heap.get? l=some { cls:=.type "tuple",dict:=dd,data:=.seq items n,slots:=sl }) (hb1:s.heap.get? b=some { cls:=.type "tuple",dict:=dd2,data:=.seq items2 n2,slots:=sl2 }) (h:I 0 s) :
  wpAny (model prog w) A.in1 (Builtin.«tuple.__eq__» ⟨[.ref l,.ref b],[]⟩) (FinOf prog w A R) (fun e s'=>R (.error e) s') s:=by
 have f2:=AutoSeq1.sub_tuple_tuple
 have hZ:(items.toList.zip items2.toList).length=min items.size items2.size:=by simp
 have h0:=h
 obtain⟨hp,g,d,tk,os⟩:=s
 wp_walk using wpAny_loadPart' hl1,wpAny_loadPart' hb1,wpAny_forIn_list _ (fun rest b s'=>b.1=none∧∃ i,rest=(items.toList.zip items2.toList).drop i∧i≤min items.size items2.size∧(∀ j,j < i→bs j=true)∧I i s') _
 case turn =>
  rintro⟨y,x⟩ rest b s' ⟨hb',i,hz,hi,hbs,hI⟩
  have hlt:i < (items.toList.zip items2.toList).length:=by
   rcases Nat.lt_or_ge i (items.toList.zip items2.toList).length with h' | h'
   ·exact h'
   ·rw[List.drop_of_length_le h'] at hz; cases hz
  have h1:i < items.size:=by omega
  have h2:i < items2.size:=by omega
  rw[List.drop_eq_getElem_cons hlt] at hz
  injection hz with hyx hrest
  have hy:y=items[i]:=by have:=congrArg Prod.fst hyx; simpa using this
  have hx:x=items2[i]:=by have:=congrArg Prod.snd hyx; simpa using this
  subst hy hx
  refine wpAny_bind (wpAny_mono (turn i h1 h2 s' hI) (fun r s2 q2=>?_) fun _ _ x=>x)
  obtain⟨hr,q2⟩:=q2
  cases hbi:bs i with
  | true =>
   rw[hbi] at hr
   subst hr
   wp_walk
   exact⟨rfl,i + 1,hrest,by omega,fun j hj=>by
    rcases Nat.lt_or_ge j i with h' | h'
    ·exact hbs j h'
    ·rw[show j=i by omega]; exact hbi,q2⟩
  | false =>
   rw[hbi] at hr
   subst hr
   have:=fin false (i + 1) s2 q2 ⟨(fun e=>nomatch e),fun ⟨_,q⟩=>by rw[q i h1] at hbi; cases hbi⟩
   wp_walk
   exact this
 case fin =>
  rintro⟨b1,b2⟩ s' ⟨hb',i,hz,hi,hbs,hI⟩
  simp only at hb'
  subst hb'
  have hge:min items.size items2.size≤i:=by
   rcases Nat.lt_or_ge i (items.toList.zip items2.toList).length with h' | h'
   ·rw[List.drop_eq_getElem_cons h'] at hz; cases hz
   ·exact hZ ▸ h'
  have hR:=fin (items.size == items2.size) i s' hI ⟨fun e=>⟨beq_iff_eq.mp e,fun j hj=>hbs j (by have:=beq_iff_eq.mp e; omega)⟩,fun ⟨e,_⟩=>beq_iff_eq.mpr e⟩
  wp_walk
  simpa [Builtin.Tuple.tupleCompareSizes] using hR
 case h =>
  exact⟨rfl,0,rfl,Nat.zero_le _,fun j hj=>absurd hj (Nat.not_lt_zero j),h0⟩
end
section
variable {prog:Program} {w:World} {A:Around} {E:Value→Shared→Prop} {s:Shared}
theorem rc_tupB {l b:Addr} {items items2:Array Value} {bs:Nat→Bool} {Q:Value→Shared→Prop} (hu:A.units < cLine) (I:Nat→Shared→Prop)
  (hl:s.heap.IsTuple l items) (hb:s.heap.IsTuple b items2)
  (turn:∀ i (h1:i < items.size) (h2:i < items2.size) s,I i s→wpAny (model prog w) A.in1 (eqBool items[i] items2[i]) (fun r s'=>r=bs i∧I (i + 1) s') E s)
  (fin:∀ (r:Bool) i s,I i s→(r=true ↔ items.size=items2.size∧∀ j,j < items.size→bs j=true)→Q (.bool r) s) (h:I 0 s):wpAny (model prog w) A (richCompare .Eq (.ref l) (.ref b)) Q E s:=by
 obtain⟨⟨cls,dd,data,sl⟩,ho,hc,n,hd⟩:=id hl
 obtain⟨⟨cls2,dd2,data2,sl2⟩,ho2,hc2,n2,hd2⟩:=id hb
 simp only at hc hd hc2 hd2
 subst hc hd hc2 hd2
 refine wpAny_richCompare_same_room (op:=.Eq) ⟨_,ho,rfl⟩ ⟨_,ho2,rfl⟩ F.slot_tuple_eq (call_here F.slot_tuple_eq ⟨_,ho,rfl⟩ F.entry_tuple_eq (F.args_tuple_eq_2 _ _) ?_) hu
 exact tuple_eqB (R:=wants (fun v s'=>v ≠ .notImplemented∧Q v s') E) l b items items2 n n2 dd dd2 sl sl2 bs I turn (fun r i s' q hr=>⟨(fun x=>nomatch x),fin r i s' q hr⟩) ho ho2 h
end
end GQB
namespace DL
open PySem PySem.Spec PyProof.Rows L2
open He (ga ma)
open Evl (Ex)
noncomputable def dec (p:Prop):Bool:=@decide p (Classical.propDecidable p)
theorem dec_iff {p:Prop} : dec p=true ↔ p:=@decide_eq_true_iff p (Classical.propDecidable p)
theorem dec_t {p:Prop} (h:p):dec p=true:=dec_iff.mpr h
theorem dec_f {p:Prop} (h:¬ p):dec p=false:=by
 cases e:dec p with
 | false=>rfl
 | true=>exact absurd (dec_iff.mp e) h
def Xh:List (Str × D)→Bool
 | []=>true
 | (_,d) :: r=>d.plain && Xh r
section
variable {X:Cx} {pins:List (Addr × Obj)} {σ:L2.St} {H:Hp} {s:Shared}
theorem tup_lst (I:Inv X pins σ H s) {a:Addr} {xs ys:List V} (h1:SqT X.K H a xs) (h2:SqL X.K H a ys):False:=by
 obtain⟨its,r,⟨o,e,c,n,d⟩,_⟩:=I.tuple h1
 obtain⟨its',r',⟨o',n',e',c',_,d'⟩,_⟩:=I.list h2
 rw[e] at e'; cases e'
 rw[c] at c'
 exact absurd c' (by simp)
mutual
theorem rv_det (I:Inv X pins σ H s):∀ {v:V} {d e:D},Rv X.K H v d→Rv X.K H v e→d.plain=true→e.plain=true→d=e
 | _,_,_,.non,.non,_,_=>rfl
 | _,_,_,.bl _,.bl _,_,_=>rfl
 | _,_,_,.int _,.int _,_,_=>rfl
 | _,_,_,.str _,.str _,_,_=>rfl
 | _,_,_,.ty _,.ty _,_,_=>rfl
 | _,_,_,.tup h1 h2,.tup k1 k2,p,q=>by
  cases I.tuple_inj h1 k1
  rw[rvAll_det I h2 k2 p q]
 | _,_,_,.lst h1 h2,.lst k1 k2,p,q=>by
  cases I.list_inj h1 k1
  rw[rvAll_det I h2 k2 p q]
 | _,_,_,.tup h1 _,.lst k1 _,_,_=>(tup_lst I h1 k1).elim
 | _,_,_,.lst h1 _,.tup k1 _,_,_=>(tup_lst I k1 h1).elim
 | _,_,_,.obj _ _,_,p,_=>nomatch p
 | _,_,_,.cls _,_,p,_=>nomatch p
 | _,_,_,.tpl _ _,_,p,_=>nomatch p
 | _,_,_,.tup _ _,.obj _ _,_,q=>nomatch q
 | _,_,_,.tup _ _,.cls _,_,q=>nomatch q
 | _,_,_,.tup _ _,.tpl _ _,_,q=>nomatch q
 | _,_,_,.lst _ _,.obj _ _,_,q=>nomatch q
 | _,_,_,.lst _ _,.cls _,_,q=>nomatch q
 | _,_,_,.lst _ _,.tpl _ _,_,q=>nomatch q
theorem rvAll_det (I:Inv X pins σ H s):∀ {vs:List V} {ds es:List D},Ja X.K H vs ds→Ja X.K H vs es→Jb ds=true→Jb es=true→ds=es
 | _,_,_,.nil,.nil,_,_=>rfl
 | _,_,_,.cons a b,.cons c d,p,q=>by
  have p':=Bool.and_eq_true_iff.mp p
  have q':=Bool.and_eq_true_iff.mp q
  rw[rv_det I a c p'.1 q'.1,rvAll_det I b d p'.2 q'.2]
end
theorem rvF_det (I:Inv X pins σ H s):∀ {vs:List (Str × V)} {ds es:List (Str × D)},RvF X.K H vs ds→RvF X.K H vs es→Xh ds=true→Xh es=true→ds=es
 | _,_,_,.nil,.nil,_,_=>rfl
 | _,_,_,.cons a b,.cons c d,p,q=>by
  have p':=Bool.and_eq_true_iff.mp p
  have q':=Bool.and_eq_true_iff.mp q
  rw[rv_det I a c p'.1 q'.1,rvF_det I b d p'.2 q'.2]
end
/-- two objects of the class c,and whether fF says that they are equal -/
def ObEq (K:PySem.W.Frag) (c:Str) (fF:Fn) (H:Hp) (x y:V) (b:Bool):Prop:=∃ a1 a2 dx1 dx2 vs1 vs2 g1 g2,x=.ref a1∧y=.ref a2∧H a1=some (.ins (ga K c) dx1 vs1)∧H a2=some (.ins (ga K c) dx2 vs2)∧RvF K H vs1 g1∧RvF K H vs2 g2 ∧
 Xh g1=true∧Xh g2=true∧fF [.d (.obj c g1),.d (.obj c g2)] []=.ok (.d (.bl b)) []∧(g1=g2→b=true)
theorem ObEq.ext {K:PySem.W.Frag} {c:Str} {fF:Fn} {H H':Hp} {x y:V} {b:Bool} (e:Ext H H') (h:ObEq K c fF H x y b):ObEq K c fF H' x y b:=by
 obtain⟨a1,a2,dx1,dx2,vs1,vs2,g1,g2,h1,h2,h3,h4,h5,h6,h7⟩:=h
 exact⟨a1,a2,dx1,dx2,vs1,vs2,g1,g2,h1,h2,e _ _ h3,e _ _ h4,h5.ex e,h6.ex e,h7⟩
section
variable {X:Cx} {k:Nat} {c:Str} {f:Addr} {ps:List Str} {fF:Fn}
theorem ob_rc (hq:PySem.W.findIn X.K (.ref (ga X.K c)) "__eq__" = some (some (.ref f))) (hfn:PySem.W.isFn X.K (.ref f)=true) (F:FO X.prog X.w X.K X.mg X.base k f ps fF) {A:Around} (sb:Sub X k A) {pins:List (Addr × Obj)} {s:Shared} {σ:L2.St} {H:Hp} {x y:V} {u v:Value} {b:Bool} (I:Inv X pins σ H s) (rx:RelV x u) (ry:RelV y v) (h:ObEq X.K c fF H x y b) :
  wpAny (model X.prog X.w) A (eqBool u v) (fun r s'=>r=b∧LoopI X pins σ H s') X.xe s:=by
 obtain⟨hlen,fd,FG,hbi,_⟩:=F
 obtain⟨a1,a2,dx1,dx2,vs1,vs2,g1,g2,rfl,rfl,h3,h4,h5,h6,p1,p2,h7,h8⟩:=h
 cases (show u=Value.ref a1 from rx)
 cases (show v=Value.ref a2 from ry)
 by_cases hab:a1=a2
 ·subst hab
  rw[h3] at h4
  cases h4
  rw[h8 (rvF_det I h5 h6 p1 p2)]
  exact SeqAt.EqAt.same (A:=A) (s:=s) (.ref a1) X.prog X.w X.xe _ ⟨rfl,H,I,Ext.rfl'⟩
 refine GQ.eqBool_refG hab ?_
 obtain⟨mA,J,_⟩:=ins_get I.hok h3
 obtain⟨mB,J',_⟩:=ins_get I.hok h4
 obtain⟨od,J,_⟩:=J.look
 obtain⟨od',J',_⟩:=J'.look
 obtain⟨m,hF⟩:=I.fr
 refine PySem.W.cmp_K (op:=.Eq) (tb:=.ref (ga X.K c)) sb.room.units0 hF I.ok.mod.kin J J'.type (by simp [PySem.W.notFirst]) hq hfn ?_
 have h2:ps.length=2:=by
  by_cases h:([U.d (.obj c g1),U.d (.obj c g2)]:List U).length=ps.length
  ·exact h.symm
  ·rw[hlen _ _ h] at h7; cases h7
 have hsp:spD X.K ps.length fF [.ref a1,.ref a2] H (fun v H'=>v=.bl b∧Ext H H') (fun _ _ _=>False):=by
  refine⟨h2.symm,fun _=>none,[],H,[],[.d (.obj c g1),.d (.obj c g2)],sr_whole X.K H,.cons (.obj h3 h5) (.cons (.obj h4 h6) .nil),?_⟩
  rw[h7]
  intro ι' G' H' v _ eG s' rv
  cases rv
  exact⟨rfl,eG.trans s'.ex⟩
 have e0:Env0 X.prog X.w X.K X.mg X.base A X.stack s H:=by
  have e:=I.env0
  exact⟨by rw[sb.fr]; exact e.frames,e.mod,e.bs,e.bsz,e.funs,e.frf,e.hok,e.bare⟩
 have r2:Vals [V.ref a1,V.ref a2] [Value.ref a1,Value.ref a2]:=.cons rfl (.cons rfl .nil)
 refine wpAny_call (codeAny_mono (FG.run A X.stack s H ⟨[.ref a1,.ref a2],[]⟩ [.ref a1,.ref a2] [.ref a1,.ref a2] _ _ sb.room e0 (by
  have:=hbi s [.ref a1,.ref a2] I.kIn (by simpa using h2.symm)
  simpa using this) r2 hsp) fun r s' hq=>?_)
 cases r with
 | error e =>
  obtain⟨_,_,_,_,_,_,_,_,_,_,_,_,z⟩:=hq
  exact z.elim
 | ok fl =>
  cases fl with
  | ret w =>
   obtain⟨z,H',I',rz,ez,ex⟩:=I.after hq
   subst ez
   cases (show w=Value.bool b from rz)
   exact⟨b,rfl,rfl,H',I',ex⟩
  | next=>exact False.elim hq
  | brk=>exact False.elim hq
  | cont=>exact False.elim hq
end
/-- the pairs are objects of the class c,and fF decides them -/
def ObPr (c:Str) (fF:Fn) (ds es:List D):Prop:=∀ (i:Nat) d e,ds[i]?=some d→es[i]?=some e→∃ g1 g2 b,d=.obj c g1∧e=.obj c g2∧Xh g1=true∧Xh g2=true∧fF [.d d,.d e] []=.ok (.d (.bl b)) []∧(g1=g2→b=true)
def ObAll (fF:Fn) (ds es:List D):Prop:=ds.length=es.length∧∀ (i:Nat) d e,ds[i]?=some d→es[i]?=some e→fF [.d d,.d e] []=.ok (.d (.bl true)) []
noncomputable def eqTupB (c:Str) (fF:Fn) (x y:U) (S:Qa):Res U:=match x,y with
 | .d (.tup ds),.d (.tup es)=>pre (ObPr c fF ds es) (.ok (.d (.bl (dec (ObAll fF ds es)))) S)
 | _,_=>.bad
/-- the pairs of two lists of values -/
def VPr (K:PySem.W.Frag) (c:Str) (fF:Fn) (bs:Nat→Bool) (H:Hp) (xs ys:List V):Prop:=∀ (i:Nat) x y,xs[i]?=some x→ys[i]?=some y→ObEq K c fF H x y (bs i)
noncomputable def obBs (fF:Fn) (ds es:List D) (i:Nat):Bool:=dec (∀ d e,ds[i]?=some d→es[i]?=some e→fF [.d d,.d e] []=.ok (.d (.bl true)) [])
theorem vpr_of {K:PySem.W.Frag} {c:Str} {fF:Fn} {H:Hp} {xs ys:List V} {ds es:List D} (h1:Ja K H xs ds) (h2:Ja K H ys es) (h:ObPr c fF ds es):VPr K c fF (obBs fF ds es) H xs ys:=fun i x y hx hy=>by
 obtain⟨d,hd,rd⟩:=Jw h1.pair hx
 obtain⟨g,hg,rg⟩:=Jw h2.pair hy
 obtain⟨g1,g2,b,rfl,rfl,p1,p2,hf,hb⟩:=h i d g hd hg
 have eb:obBs fF ds es i=b:=by
  unfold obBs
  cases b with
  | true=>exact dec_t fun d e he1 he2=>by rw[hd] at he1; rw[hg] at he2; cases he1; cases he2; exact hf
  | false=>exact dec_f fun q=>by rw[q _ _ hd hg] at hf; cases hf
 rw[eb]
 cases rd with
 | obj k1 k2 =>
  cases rg with
  | obj l1 l2=>exact⟨_,_,_,_,_,_,_,_,rfl,rfl,k1,l1,k2,l2,p1,p2,hf,hb⟩
theorem ob_iff {fF:Fn} {ds es:List D} {n m:Nat} (hn:ds.length=n) (hm:es.length=m):(n=m∧∀ j,j < n→obBs fF ds es j=true) ↔ ObAll fF ds es:=by
 subst hn hm
 refine⟨fun ⟨a,b⟩=>⟨a,fun i d e h1 h2=>?_⟩,fun ⟨a,b⟩=>⟨a,fun j hj=>dec_t fun d e h1 h2=>b j d e h1 h2⟩⟩
 exact dec_iff.mp (b i (List.getElem?_eq_some_iff.mp h1).1) d e h1 h2
section
variable {X:Cx} {k:Nat} {c:Str} {f:Addr} {ps:List Str} {fF:Fn}
theorem vpr_turn (hq:PySem.W.findIn X.K (.ref (ga X.K c)) "__eq__" = some (some (.ref f))) (hfn:PySem.W.isFn X.K (.ref f)=true) (F:FO X.prog X.w X.K X.mg X.base k f ps fF) {A:Around} (sb:Sub X (k + 1) A) {pins:List (Addr × Obj)} {σ:L2.St} {H:Hp} {xs ys:List V} {its its2:List Value} {bs:Nat→Bool} (p:VPr X.K c fF bs H xs ys) (r:Vals xs its) (r2:Vals ys its2)
  (i:Nat) (h1:i < its.toArray.size) (h2:i < its2.toArray.size) (s':Shared) (l:LoopI X pins σ H s') :
  wpAny (model X.prog X.w) A.in1 (eqBool its.toArray[i] its2.toArray[i]) (fun r s2=>r=bs i∧LoopI X pins σ H s2) X.xe s':=by
 obtain⟨H1,I1,e1⟩:=l
 have g1:its[i]?=some its.toArray[i]:=by
  have h1':i < its.length:=by simpa using h1
  rw[List.getElem?_eq_getElem h1']<;>simp
 have g2:its2[i]?=some its2.toArray[i]:=by
  have h2':i < its2.length:=by simpa using h2
  rw[List.getElem?_eq_getElem h2']<;>simp
 have k1:i < xs.length:=by rw[r.length]; simpa using h1
 have k2:i < ys.length:=by rw[r2.length]; simpa using h2
 obtain⟨u,hu,ru⟩:=r.get (List.getElem?_eq_getElem k1)
 obtain⟨v,hv,rv⟩:=r2.get (List.getElem?_eq_getElem k2)
 rw[g1] at hu
 rw[g2] at hv
 rw[Option.some.inj hu,Option.some.inj hv]
 refine wpAny_mono (ob_rc hq hfn F sb.in1 I1 ru rv ((p i _ _ (List.getElem?_eq_getElem k1) (List.getElem?_eq_getElem k2)).ext e1)) (fun r s2 q=>?_) fun _ _ x=>x
 obtain⟨hr,H2,I2,e2⟩:=q
 exact⟨hr,H2,I2,e1.trans e2⟩
theorem sr_ext {K:PySem.W.Frag} {P:Hp} {ι:List Addr} {G H H':Hp} {S:Qa} (s:Sr K P ι G S H) (e:Ext H H'):Sr K P ι G S H':=by
 refine⟨s.ex.trans e,s.len,s.nd,fun n c a h1 h2=>?_,fun n a h=>?_,fun a o h=>?_,s.lk⟩
 ·refine (s.at_ n c a h1 h2).up (List.prefix_refl ι) (Ex.refl G) ?_ fun o h=>e a o h
  cases hg:G a with
  | none=>exact .inl rfl
  | some o=>exact .inr ⟨o,rfl⟩
 ·obtain⟨o,ho⟩:=s.out n a h
  exact⟨o,e a o ho⟩
 ·obtain⟨h1,h2,h3⟩:=s.pin a o h
  exact⟨e a o h1,h2,h3⟩
theorem od_eqTupB (hq:PySem.W.findIn X.K (.ref (ga X.K c)) "__eq__" = some (some (.ref f))) (hfn:PySem.W.isFn X.K (.ref f)=true) (F:FO X.prog X.w X.K X.mg X.base k f ps fF) (hr:Room (k + 1) X.A):OpD X (compareOp .Eq) (eqTupB c fF):=by
 refine⟨fun x y H Q=>∃ a b xs ys ds es,x=.ref a∧y=.ref b∧SqT X.K H a xs∧SqT X.K H b ys∧ds.length=xs.length∧es.length=ys.length∧VPr X.K c fF (obBs fF ds es) H xs ys∧∀ (b:Bool) H',(b=true ↔ ObAll fF ds es)→Ext H H'→Q (.bl b) H',fun pins s σ H x y v u Q I rx ry h=>?_,fun Wx P ι G S H v1 v2 u1 u2 σ Q s r1 r2 post=>?_⟩
 ·obtain⟨a,b,xs,ys,ds,es,rfl,rfl,ha,hb,l1,l2,p,q⟩:=h
  cases (show v=Value.ref a from rx)
  cases (show u=Value.ref b from ry)
  obtain⟨its,r,e,z⟩:=I.tuple ha
  obtain⟨its2,r2,e2,z2⟩:=I.tuple hb
  show wpAny (model X.prog X.w) X.A (richCompare .Eq (.ref a) (.ref b)) _ _ _
  have sb:Sub X (k + 1) X.A:=⟨hr,rfl⟩
  refine GQB.rc_tupB (bs:=obBs fF ds es) sb.room.units0 (fun _ s'=>LoopI X pins σ H s') e e2 (fun i h1 h2 s' q=>vpr_turn hq hfn F sb p r r2 i h1 h2 s' q) (fun b i s' l hb=>?_) ⟨H,I,Ext.rfl'⟩
  obtain⟨H',I',eH⟩:=l
  exact⟨.bl b,H',I',rfl,q b H' (hb.trans (ob_iff (by rw[l1,r.length]; simp) (by rw[l2,r2.length]; simp))) eH⟩
 ·unfold eqTupB at post
  split at post
  ·rename_i ds es
   obtain⟨hp,post⟩:=pre_post post
   cases r1 with
   | tup a1 b1 =>
    cases r2 with
    | tup a2 b2 =>
     refine⟨_,_,_,_,ds,es,rfl,rfl,Evl.ex_t s.ex a1,Evl.ex_t s.ex a2,(Qm b1.pair).symm,(Qm b2.pair).symm,vpr_of (b1.ex s.ex) (b2.ex s.ex) hp,fun b H' hb e=>?_⟩
     have:b=dec (ObAll fF ds es):=by
      cases b with
      | true=>exact (dec_t (hb.mp rfl)).symm
      | false=>exact (dec_f fun q=>nomatch (hb.mpr q)).symm
     rw[this]
     exact post ι G H' _ (List.prefix_refl _) (Ex.refl _) (sr_ext s e) (.bl _)
  ·exact post.elim
end
end DL
namespace DL
open PySem PySem.Spec PyProof.Rows L2
open Evl (Ex)
end DL
namespace WH
open PySem PySem.Spec PyProof.Rows L2 DL
open He (ga ma)
theorem bin_ok {K:PySem.W.Frag} {nm:String} {x y:Str} {f:Addr} (c:cBin nm x y K=true) (M:Meth K (ga K x) (PySem.dunder nm) f):BinOk K nm (ga K x) f (ga K y):=by
 obtain⟨c1,c2⟩:=ba2 c
 obtain⟨c2,c3⟩:=ba2 c2
 refine⟨c1,M.at_,M.fn,of_decide_eq_true c2,?_⟩
 split at c3
 ·rename_i cd h
  exact⟨cd,h,c3⟩
 ·cases c3
end WH
namespace DL
open PySem PySem.Spec PyProof.Rows L2
open Evl (Ex)
def indexU (u:U) (ws:List U) (S:Qa):Res U:=match u,ws with
 | .d (.lst ds),[.d x]=>if okD (.lst ds)=true∧okD x=true then match ds.findIdx? (fun z=>PyData.eqv z.py x.py) with
  | some j=>.ok (.d (.int (j:Nat))) S
  | none=>.bad else .bad
 | _,_=>.bad
section
variable {X:Cx}
theorem md_index {k:Nat} (hr:Room k X.A):MtD X "list.index" indexU:=by
 refine⟨_,mt_indexD (lt65 hr),fun Wx P ι G S H v vs u us σ Q s r rs post=>?_⟩
 unfold indexU at post
 split at post
 ·rename_i ds x
  split at post
  ·rename_i ho
   split at post
   ·rename_i j hj
    cases rs with
    | cons r1 rr =>
     cases rr
     cases r with
     | lst a1 a2 =>
      have p1:(D.lst ds).plain=true:=by
       have:=ho.1
       unfold okD at this
       exact (Bool.and_eq_true_iff.mp this).1
      have p2:x.plain=true:=by
       have:=ho.2
       unfold okD at this
       exact (Bool.and_eq_true_iff.mp this).1
      have s1:SeqAt.shaped (D.lst ds).py=true:=by
       have:=ho.1
       unfold okD at this
       exact (Bool.and_eq_true_iff.mp this).2
      have s2:SeqAt.shaped x.py=true:=by
       have:=ho.2
       unfold okD at this
       exact (Bool.and_eq_true_iff.mp this).2
      have d1:Dp X.K H (V.ref _) (D.lst ds).py:=((Rv.lst a1 a2:Rv X.K G _ (.lst ds)).ex s.ex).dp p1
      have d2:=((show Rv X.K G _ x from r1).ex s.ex).dp p2
      obtain⟨hjl,hje,hjn⟩:=List.findIdx?_eq_some_iff_getElem.mp hj
      refine⟨_,_,_,Jh ds,j,ds[j].py,rfl,rfl,d1,d2,s1,s2,?_,hje,fun m z' hm hz'=>?_,post.ok s (.int _)⟩
      ·rw[Vf,List.getElem?_map,List.getElem?_eq_getElem hjl]; rfl
      ·rw[Vf,List.getElem?_map,List.getElem?_eq_getElem (by omega)] at hz'
       obtain rfl:=Option.some.inj hz'
       have:=hjn m hm
       simpa using this
   ·exact post.elim
  ·exact post.elim
 ·exact post.elim
end
end DL
namespace DL
open PySem PySem.Spec PyProof.Rows L2
open He (ga ma)
open Evl (Ex)
/-- what the written part says of super().m(..) in a def of the class c,whose base has m at f2 -/
structure SupTxt (P:Program) (K:PySem.W.Frag) (mg:Str→Option Value) (c m:Str) (f f2:Addr) (fd:FuncData) (cdv:Value) (cc:Addr):Prop where
 lk:∃ oc od osl,K.lookup f=some ⟨oc,od,.func fd,osl⟩
 hp:∃ ar,(fd.params.posonlyargs++fd.params.args).head?=some ar∧ar.arg = "self"
 code:∃ cda ccl cdd vs ccs file tf,cdv=.ref cda∧K.lookup cda=some ⟨ccl,cdd,.fields vs,ccs⟩∧vs[2]?=some (.str file tf)∧((P.main.file:Str) == file)=true
 cell:∃ cl cld csl,K.lookup cc=some ⟨cl,cld,.cell (some (.ref (ga K c))),csl⟩
 cls:∃ cl cld cd csl,K.lookup (ga K c)=some ⟨cl,cld,.cls cd,csl⟩
 own:PySem.W.mroIn K (ga K c) (.ref (ga K c))=some true
 sup:PySem.W.ks_superIn K (ga K c) (ga K c) m=some (some (.ref f2))
 fn2:PySem.W.typeIn K (.ref f2)=some (.type "function")
 fi2:PySem.W.fnIn K f2=true
 any:PySem.W.nsIn K cStatics "thirdparty.any" = some none
 gS:mg "super" = none
 htop:(P.main.scope.names.lookup ("super" : Str)).isSome=false
end DL
namespace DL
open PySem PySem.Spec PyProof.Rows L2
open He (ga ma)
/-- the class c over b: its __init__ is the text st -/
def InitS (P:Program) (K:PySem.W.Frag) (mg:Str→Option Value) (c b:Str) (st:Stmt):Prop :=
 ∃ (oc:Value) (od:Option Addr) (osl:Array (Option Value)) (D:Addr) (doc pm:Value) (an:Option Addr) (cda cc:Addr) (ct:Value),
  K.lookup (ma K (ga K c) "__init__")=some ⟨oc,od,.func (PySem.W.ksFn "__init__" (c ++ ".__init__") (defArgs st) (defBody st) (defScope st) .none (.ref D) doc pm an (.ref cda) ct cc),osl⟩∧PySem.W.codeIn K (.ref cda) (c ++ ".__init__")=true ∧
  SupTxt P K mg c "__init__" (ma K (ga K c) "__init__") (ma K (ga K b) "__init__") (PySem.W.ksFn "__init__" (c ++ ".__init__") (defArgs st) (defBody st) (defScope st) .none (.ref D) doc pm an (.ref cda) ct cc) (.ref cda) cc
end DL
namespace WH
open PySem PySem.Spec PyProof.Rows L2
open He (ga ma ba eqO eqO_ok)
theorem SuI.txt {prog:Program} {K:Frag} {h:Heap} {mg:Str→Option Value} {e:SuI} {ar:Arg} (X:K.In h) (G:h.Ns mainGlobals mg) (c:e.ok prog K=true∧fnE K e.x=e.val) (hP:((defArgs e.st).posonlyargs++(defArgs e.st).args).head?=some ar) (hA:ar.arg = "self"):DL.InitS prog K mg e.x e.b e.st:=by
 obtain⟨c,v⟩:=c
 obtain⟨c1,c⟩:=ba c
 obtain⟨c2,c⟩:=ba c
 obtain⟨c3,c⟩:=ba c
 obtain⟨c4,c⟩:=ba c
 obtain⟨c5,c⟩:=ba c
 obtain⟨c6,c⟩:=ba c
 obtain⟨c7,c⟩:=ba c
 obtain⟨c17,c⟩:=ba c
 obtain⟨c18,c19⟩:=ba c
 unfold fnE at v
 unfold inB at c17
 unfold kwR at c18
 unfold DL.InitS
 have hcls:∃ cl cld cd csl,K.lookup (ga K e.x)=some ⟨cl,cld,.cls cd,csl⟩:=by
  have h:(PySem.W.clsIn K (ga K e.x)).isSome=true:=c19
  unfold PySem.W.clsIn at h
  split at h
  ·rename_i a b cd d ho
   exact⟨_,_,_,_,ho⟩
  ·cases h
 cases q:K.lookup (iAd K e.x) with
 | none=>rw[q] at v; cases v
 | some o =>
  obtain⟨oc,od,dt,osl⟩:=o
  rw[q] at v c17 c18
  cases dt with
  | func fd =>
   obtain⟨n1,n2,n3,n4,n5,n6,n7,n8,n9,n10,n11,n12,n13,n14,n15⟩:=fd
   have e2:(some (n1,n2,n3,n4,n5,n6,n7.map (·.1),n15):FnE)=e.val:=v
   unfold SuI.val at e2
   simp only[Option.some.injEq,Prod.mk.injEq] at e2
   obtain⟨g1,g2,g3,g4,g5,g6,g7,g8⟩:=e2
   subst g1 g2 g3 g4 g5 g6 g8
   dsimp only at c17 c18
   split at c17
   ·rename_i cda nm cc
    obtain⟨d1,d⟩:=ba c17
    obtain⟨d2,d3⟩:=ba d
    have hnm:nm=("__class__" : Str):=by simpa using g7
    subst hnm
    split at c18
    ·rename_i D
     refine⟨oc,od,osl,D,_,_,_,cda,cc,_,q,d1,⟨oc,od,osl,q⟩,⟨ar,hP,hA⟩,⟨cda,?_⟩,?_,hcls,of_decide_eq_true c5,eqO_ok c1,of_decide_eq_true c2,c3,eqO_ok c4,PySem.W.mg_none_of X G (eqO_ok c6),by simpa using c7⟩
     ·split at d2
      ·rename_i z1 z2 vs z3 hl
       split at d2
       ·rename_i file tf hv
        exact⟨_,_,vs,_,file,tf,rfl,hl,hv,d2⟩
       ·cases d2
      ·cases d2
     ·split at d3
      ·rename_i z1 z2 D z3 hl
       obtain rfl:=of_decide_eq_true d3
       exact⟨_,_,_,hl⟩
      ·cases d3
    ·cases c18
   ·cases c17
  | _=>cases c17
section
variable {prog:Program} {fa:List Chk} {fn:List He5.DefA} {er:List ErN} {su:List SuI} {K:Frag}
theorem SaysS.n (c:SaysS prog fa fn er su K):SaysN prog fa fn er K:=congrArg (fun z:AlS=>z.1) c
theorem SaysS.sup (c:SaysS prog fa fn er su K) (i:Nat) {e:SuI} (h:su[i]?=some e:=by rfl):e.ok prog K=true∧fnE K e.x=e.val:=by
 have e1:su.map (fun e=>fnE K e.x)=su.map SuI.val:=congrArg (fun z:AlS=>z.2.2) c
 have e2:=congrArg (fun l=>l[i]?) e1
 simp only[List.getElem?_map,h] at e2
 exact⟨List.all_eq_true.mp (congrArg (fun z:AlS=>z.2.1) c) e (List.mem_of_getElem? h),Option.some.inj e2⟩
end
end WH
namespace DL
open PySem PySem.Spec PyProof.Rows L2
open He (ga ma)
open Evl (Ex)
abbrev RX (p:NestedKey × Addr × V) (x:NestedKey × Addr × Value):Prop:=p.1=x.1∧p.2.1=x.2.1∧RelV p.2.2 x.2.2
theorem RX.keys {ps:List (NestedKey × Addr × V)} {xs:List (NestedKey × Addr × Value)} (h:Paired RX ps xs):ps.map (·.1)=xs.map (·.1):=by
 induction h with
 | nil=>rfl
 | cons r t ih=>rw[List.map_cons,List.map_cons,r.1,ih]
end DL
namespace DL
open PySem PySem.Spec PyProof.Rows L2
open He (ga ma)
open Evl (Ex)
section
variable {X:Cx} {Wx:WX} {P:Hp} {ι:List Addr} {G H:Hp} {S:Qa} {σ:L2.St} {Q:VK} {pos:Pos} {o i:Expr} {A B:Env→Qa→Res U}
theorem MtR.or {id:String} {r r':V→List V→Hp→VK→Prop} (h:MtR X id r) (h':MtR X id r'):MtR X id (fun x ys H Q=>r x ys H Q∨r' x ys H Q):=by
 intro pins s σ H x ys v us Q I rx rys z
 rcases z with z | z
 ·exact h pins s σ H x ys v us Q I rx rys z
 ·exact h' pins s σ H x ys v us Q I rx rys z
theorem PSet.or {t t':TSet} (h:PSet X t) (h':PSet X t'):PSet X (fun o i v H Q=>t o i v H Q∨t' o i v H Q):=by
 intro pins s σ H o i v ov iv u Q I ro ri rv z
 rcases z with z | z
 ·exact h pins s σ H o i v ov iv u Q I ro ri rv z
 ·exact h' pins s σ H o i v ov iv u Q I ro ri rv z
theorem u1 {k:Nat} (hr:Room k X.A):X.A.units + 1 < cLine:=hu_of hr
end
end DL
namespace DL
open PySem PySem.Spec PyProof.Rows L2
open He (ga ma)
open Evl (Ex)
end DL
namespace DL
open PySem PySem.Spec PyProof.Rows L2
open He (ga ma)
open Evl (Ex)
end DL
namespace DL
open PySem PySem.Spec PyProof.Rows L2
open He (ga ma)
open Evl (Ex)
end DL
namespace DL
open PySem PySem.Spec PyProof.Rows L2
open He (ga ma)
open Evl (Ex)
open PySem.W (EachIs AllAlike Sortable dataLe)
end DL
namespace DL
open PySem PySem.Spec PyProof.Rows L2
open He (ga ma)
open Evl (Ex)
open PySem.W (EachIs AllAlike Sortable dataLe KdlSrc)
/-- the keys and the values of the dict at a -/
def DHas (H:Hp) (a:Addr) (ks vs:List V):Prop:=(∃ ps,H a=some (.dK ps)∧ks=ps.map (fun p=>kV p.1)∧vs=ps.map (·.2))∨∃ w ps,H a=some (.ext (DtAt w a ps))∧ks=ps.map (fun p=>V.ref p.2.1)∧vs=ps.map (·.2.2)
end DL
namespace DL
open PySem PySem.Spec PyProof.Rows L2
open He (ga ma)
open Evl (Ex)
theorem DHas.up {H H':Hp} {a:Addr} {ks vs:List V} (h:DHas H a ks vs) (hx:∀ b o,H b=some o→H' b=some o):DHas H' a ks vs:=by
 rcases h with ⟨ps,h,e1,e2⟩ | ⟨w,ps,h,e1,e2⟩
 ·exact .inl ⟨ps,hx _ _ h,e1,e2⟩
 ·exact .inr ⟨w,ps,hx _ _ h,e1,e2⟩
end DL
namespace DL
open PySem PySem.Spec PyProof.Rows L2
open He (ga ma)
open Evl (Ex)
end DL
namespace DL
open PySem PySem.Spec PyProof.Rows L2
open He (ga ma)
open Evl (Ex)
end DL
namespace DL
open PySem PySem.Spec PyProof.Rows L2
open He (ga ma)
end DL
namespace DL
open PySem PySem.Spec PyProof.Rows L2
open He (ga ma)
open Evl (Ex)
end DL
namespace DL
open PySem PySem.Spec PyProof.Rows L2
open Evl (Ex)
end DL
namespace DL
open PySem PySem.Spec PyProof.Rows L2
open He (ga ma)
open Evl (Ex)
end DL
namespace DL
open PySem PySem.Spec PyProof.Rows L2
open Evl (Ex)
end DL
namespace DL
open PySem PySem.Spec PyProof.Rows L2
end DL
namespace DL
open PySem PySem.Spec PyProof.Rows L2
open He (ga ma)
end DL
namespace DL
open PySem PySem.Spec PyProof.Rows L2
open He (ga ma)
open Evl (Ex)
end DL
namespace DL
open PySem PySem.Spec PyProof.Rows L2
open He (ga ma)
end DL
namespace DL
open PySem PySem.Spec PyProof.Rows L2
end DL
namespace DL
open PySem PySem.Spec PyProof.Rows L2
open He (ga ma)
end DL
namespace DL
open PySem PySem.Spec PyProof.Rows L2
open He (ga ma)
open Evl (Ex)
end DL
namespace DL
open PySem PySem.Spec PyProof.Rows L2
open He (ga ma)
open Evl (Ex)
end DL
namespace DL
open PySem PySem.Spec PyProof.Rows L2
open He (ga ma)
/-- the method m of the class c over b is the text st -/
def MethS (P:Program) (K:PySem.W.Frag) (mg:Str→Option Value) (c b m:Str) (st:Stmt):Prop :=
 ∃ (oc:Value) (od:Option Addr) (osl:Array (Option Value)) (doc pm:Value) (an:Option Addr) (cda cc:Addr) (ct:Value),
  K.lookup (ma K (ga K c) m)=some ⟨oc,od,.func (PySem.W.ksFn m (c++("." ++ m)) (defArgs st) (defBody st) (defScope st) .none .none doc pm an (.ref cda) ct cc),osl⟩∧PySem.W.codeIn K (.ref cda) (c++("." ++ m))=true ∧
  SupTxt P K mg c m (ma K (ga K c) m) (ma K (ga K b) m) (PySem.W.ksFn m (c++("." ++ m)) (defArgs st) (defBody st) (defScope st) .none .none doc pm an (.ref cda) ct cc) (.ref cda) cc∧PySem.W.keepIn K (.ref (ma K (ga K c) m))=true
end DL
namespace WH
open PySem PySem.Spec PyProof.Rows L2
open He (ga ma ba eqO eqO_ok)
theorem SuM.txt {prog:Program} {K:Frag} {h:Heap} {mg:Str→Option Value} {e:SuM} {ar:Arg} (X:K.In h) (G:h.Ns mainGlobals mg) (c:e.ok prog K=true∧fnAt K (e.at_ K)=e.val) (hP:((defArgs e.st).posonlyargs++(defArgs e.st).args).head?=some ar) (hA:ar.arg = "self"):DL.MethS prog K mg e.x e.b e.m e.st:=by
 obtain⟨c,v⟩:=c
 obtain⟨c1,c⟩:=ba c
 obtain⟨c2,c⟩:=ba c
 obtain⟨c3,c⟩:=ba c
 obtain⟨c4,c⟩:=ba c
 obtain⟨c5,c⟩:=ba c
 obtain⟨c6,c⟩:=ba c
 obtain⟨c7,c⟩:=ba c
 obtain⟨c17,c⟩:=ba c
 obtain⟨c18,c⟩:=ba c
 obtain⟨c19,c20⟩:=ba c
 unfold fnAt SuM.at_ at v
 unfold SuM.at_ at c17 c18 c20
 unfold SuM.bat at c1 c2 c3
 unfold inB at c17
 unfold noDef at c18
 unfold DL.MethS
 have hcls:∃ cl cld cd csl,K.lookup (ga K e.x)=some ⟨cl,cld,.cls cd,csl⟩:=by
  have h:(PySem.W.clsIn K (ga K e.x)).isSome=true:=c19
  unfold PySem.W.clsIn at h
  split at h
  ·rename_i a b cd d ho
   exact⟨_,_,_,_,ho⟩
  ·cases h
 cases q:K.lookup (ma K (ga K e.x) e.m) with
 | none=>rw[q] at v; cases v
 | some o =>
  obtain⟨oc,od,dt,osl⟩:=o
  rw[q] at v c17 c18
  cases dt with
  | func fd =>
   obtain⟨n1,n2,n3,n4,n5,n6,n7,n8,n9,n10,n11,n12,n13,n14,n15⟩:=fd
   have e2:(some (n1,n2,n3,n4,n5,n6,n7.map (·.1),n15):FnE)=e.val:=v
   unfold SuM.val at e2
   simp only[Option.some.injEq,Prod.mk.injEq] at e2
   obtain⟨g1,g2,g3,g4,g5,g6,g7,g8⟩:=e2
   subst g1 g2 g3 g4 g5 g6 g8
   dsimp only at c17 c18
   split at c17
   ·rename_i cda nm cc
    obtain⟨d1,d⟩:=ba c17
    obtain⟨d2,d3⟩:=ba d
    have hnm:nm=("__class__" : Str):=by simpa using g7
    subst hnm
    split at c18
    ·refine⟨oc,od,osl,n10,n11,n12,cda,cc,n14,rfl,d1,⟨⟨oc,od,osl,q⟩,⟨ar,hP,hA⟩,⟨cda,?_⟩,?_,hcls,of_decide_eq_true c5,eqO_ok c1,of_decide_eq_true c2,c3,eqO_ok c4,PySem.W.mg_none_of X G (eqO_ok c6),by simpa using c7⟩,c20⟩
     ·split at d2
      ·rename_i z1 z2 vs z3 hl
       split at d2
       ·rename_i file tf hv
        exact⟨_,_,vs,_,file,tf,rfl,hl,hv,d2⟩
       ·cases d2
      ·cases d2
     ·split at d3
      ·rename_i z1 z2 D z3 hl
       obtain rfl:=of_decide_eq_true d3
       exact⟨_,_,_,hl⟩
      ·cases d3
    ·cases c18
   ·cases c17
  | _=>cases c17
section
variable {prog:Program} {fa:List Chk} {fn:List He5.DefA} {er:List ErN} {su:List SuI} {sm:List SuM} {K:Frag}
theorem SaysM.s (c:SaysM prog fa fn er su sm K):SaysS prog fa fn er su K:=congrArg (fun z:AlM=>z.1) c
end
end WH
namespace DL
open PySem PySem.Spec PyProof.Rows L2
open He (ga ma)
open Evl (Ex)
end DL
namespace DL
open PySem PySem.Spec PyProof.Rows L2
open He (ga ma)
open Evl (Ex)
/-- under a pin more: an answer,or an error with the pin gone -/
theorem Post.pin {α β γ δ:Type} {R:Rel α β} {R2:Rel γ δ} {K:PySem.W.Frag} {Wx:WX} {P:Hp} {p:Addr} {o:HO} {ι:List Addr} {G:Hp} {σ:L2.St} {Q:β→Hp→Prop} {Q2:δ→Hp→Prop} {r:Res α} {k:α→Qa→Res γ} (hz:∀ ob u,o ≠ .frz ob u) (hP:P p=none) (h:Post R2 K Wx P ι G σ Q2 (r.bind k))
  (f:∀ a S' ι' G' H' v,ι <+: ι'→Ex G G'→Sr K (upd P p o) ι' G' S' H'→R ι' G' v a→Post R2 K Wx P ι' G' σ Q2 (k a S')→Q v H'):Post R K Wx (upd P p o) ι G σ Q r:=by
 cases r with
 | ok a S'=>exact fun ι1 G1 H1 v p1 e1 s r=>f a S' ι1 G1 H1 v p1 e1 s r (Post.up p1 e1 h)
 | err c fs S'=>exact fun ι1 G1 H1 od p1 e1 s r=>h ι1 G1 H1 od p1 e1 (s.unpin hz hP) r
 | bad=>exact h
end DL
namespace DL
open PySem PySem.Spec PyProof.Rows L2
open He (ga ma)
end DL
namespace DL
open PySem PySem.Spec PyProof.Rows L2
open He (ga ma)
open Evl (Ex)
end DL
namespace DL
open PySem PySem.Spec PyProof.Rows L2
open He (ga ma)
open Evl (Ex)
end DL
namespace DL
open PySem PySem.Spec PyProof.Rows L2
open He (ga ma)
open Evl (Ex)
section
variable {X:Cx} {pins:List (Addr × Obj)} {σ:L2.St} {H:Hp} {s:Shared}
theorem newFr (I:Inv X pins σ H s) {f:Addr} (h:s.heap.objs.size≤f):f ∉ frs X.stack:=fun z=>by
 rcases List.mem_cons.mp (I.stkSub _ z) with e | e
 ·subst e
  exact Nat.lt_irrefl _ (Nat.lt_of_lt_of_le I.lt h)
 ·exact I.nofs h e
/-- how the heap stands behind it: as it was (its code lies in the table),or with one code more -/
def LamHp (H H1:Hp) (P c':Addr) (ps:Array Value) (pos:Pos) (q:Str):Prop :=
 (H1=H∧codeAmong pos ps.toList=some (.ref c'))∨(H c'=none∧c' ≠ P∧codeAmong pos ps.toList=none∧H1=upd (upd H c' (LamX.CodeO c' q)) P (.tbl (ps++#[rawInt pos.line,rawInt pos.col,.ref c'])))
theorem lam_new {c P:Addr} {ps:Array Value} {params:Arguments} {body:Expr} {scope:Scope} {pos:Pos} {E Q:Value→Shared→Prop} (I:Inv X pins σ H s) (TB:LamX.TabB X.base X.mg c P) (hcode:X.env.code=.ref c) (hP:H P=some (.tbl ps)) (ht:TriplesOk ps.toList)
  (hs:∀ (pos:Pos) (cv:Value),codeAmong pos ps.toList=some cv→∃ c',cv=.ref c') (hdef:defaultsOf params X.env=([],[])) (hfree:∀ y∈scope.names,y.2=.free→∃ c,X.env.cells.lookup y.1=some c)
  (h:∀ (f c':Addr) (pm ctv:Value) (H1:Hp) (s':Shared),Inv X pins σ H1 s'→LamHp H H1 P c' ps pos (X.env.qual ++ "<lambda>") →
   s'.heap.get? f=some (PySem.W.kla_obj "<lambda>" (X.env.qual ++ "<lambda>") params body scope (cloFrom X.env.cells scope.names []) pm c' ctv)→H1 f=none→f ∉ frs X.stack→Q (.ref f) s') :
  wpAny (model X.prog X.w) X.A (eval (.Lambda params body scope pos) X.env) Q E s:=by
 have tab:s.heap.get? P=some { cls:=.none,data:=.fields ps }:=I.hok P _ hP
 have bm:=TB.bm.keeps I.bk
 refine PySem.W.kla_eval hdef ?_
 rcases hc:codeAmong pos ps.toList with _ | cv
 ·refine PySem.W.kla_makeFunction (closure_ok hfree) I.ok.glob (I.mod.glob.keeps I.bk) hcode (TB.code.keeps I.bk) tab ht hc TB.gP bm fun c' ctv h' tk hx hge hlt hrec htb=>?_
  obtain⟨c2,oc,vs,t,e2,hoc,hd,hv⟩:=hrec
  cases e2
  have le:s.heap.objs.size≤h'.objs.size:=by omega
  have nC:H c'=none:=I.hok.fresh hge
  have cP:c' ≠ P:=fun z=>by rw[z,hP] at nC; cases nC
  have fC:h'.objs.size ≠ c':=by omega
  have fP:h'.objs.size ≠ P:=Nat.ne_of_gt (Nat.lt_of_lt_of_le (Heap.lt_size tab) le)
  have J:=LamX.inv_table (q:=X.env.qual ++ "<lambda>") (t':=tk) (more:=#[rawInt pos.line,rawInt pos.col,.ref c']) (h':=h'.push (PySem.W.kla_obj "<lambda>" (X.env.qual ++ "<lambda>") params body scope (cloFrom X.env.cells scope.names []) ((X.mg "__name__").getD .none) c' ctv)) I hP
   (fun b o hb e=>Heap.get?_push_of_some _ (hx b o hb e)) (Heap.get?_push_of_some _ htb) hge ⟨oc,vs,t,Heap.get?_push_of_some _ hoc,hd,hv⟩
  have swap:∀ (a b:HO),upd (upd H P a) c' b=upd (upd H c' b) P a:=fun a b=>by
   funext z
   by_cases z1:z=c'
   ·subst z1; rw[upd_same,upd_ne cP,upd_same]
   ·by_cases z2:z=P
    ·subst z2; rw[upd_ne z1,upd_same,upd_same]
    ·rw[upd_ne z1,upd_ne z2,upd_ne z2,upd_ne z1]
  rw[swap] at J
  refine h _ c' _ ctv _ _ J (.inr ⟨nC,cP,hc,rfl⟩) (Heap.get?_push_size _ rfl) ?_ (newFr I le)
  rw[upd_ne fP,upd_ne fC]
  exact I.hok.fresh le
 ·obtain⟨c',rfl⟩:=hs pos cv hc
  refine PySem.W.kla_makeFunctionHit (closure_ok hfree) I.ok.glob (I.mod.glob.keeps I.bk) hcode (TB.code.keeps I.bk) tab ht hc bm fun ctv h' tk hx le=>?_
  have J:Inv X pins σ H { s with heap:=h'.push (PySem.W.kla_obj "<lambda>" (X.env.qual ++ "<lambda>") params body scope (cloFrom X.env.cells scope.names []) ((X.mg "__name__").getD .none) c' ctv),toks:=tk }:=I.kept fun b o e=>Heap.get?_push_of_some _ (hx b o e)
  exact h _ c' _ ctv H _ J (.inl ⟨rfl,hc⟩) (Heap.get?_push_size _ rfl) (I.hok.fresh le) (newFr I le)
end
def Acts (P:Program) (w:World) (K:PySem.W.Frag) (mg:Str→Option Value) (base:Heap) (j:Nat) (outer:List PySem.Env) (s:Shared) (H:Hp) (f:Addr) (Pp:Hp) (ι:List Addr) (G:Hp) (r:Res U):Prop :=
 (∃ o,s.heap.get? f=some o∧∀ h:Heap,h.get? f=some o→PySem.W.FnAt f h)∧H f=none∧f ∉ frs outer ∧
 ∀ (A:Around) (out2:List PySem.Env) (s2:Shared) (Q:VK) (E:XK),A.guards=some []→Room j A→Env0 P w K mg base A out2 s2 H→Un (frs outer) [] H H s.heap s2.heap→Post (RU K) K (fun c d _ H=>E c d H) Pp ι G [] Q r →
  codeAny (model P w) A (.call (.ref f) ⟨[],[]⟩) (CR (L2.CX P w) out2 P w H s2 Q E) s2
/-- the def x makes τ of what its action does -/
def Tells (P:Program) (w:World) (K:PySem.W.Frag) (mg:Str→Option Value) (base:Heap) (j:Nat) (x:Str) (τ:Res U→Res U):Prop :=
 (mg x=some (.ref (ga K x))∧PySem.W.keepIn K (.ref (ga K x))=true)∧∀ (A:Around) (outer:List PySem.Env) (s:Shared) (H:Hp) (f:Addr) (Pp:Hp) (ι:List Addr) (G:Hp) (r:Res U) (Q:VK),A.guards=some []→Room (j + 1) A→Env0 P w K mg base A outer s H →
  Acts P w K mg base j outer s H f Pp ι G r→Post (RU K) K (fun _ _ _ _=>False) Pp ι G [] Q (τ r) →
  codeAny (model P w) A (.call (.ref (ga K x)) ⟨[.ref f],[]⟩) (CR (L2.CX P w) outer P w H s Q fun _ _ _=>False) s
section
variable {X:Cx} {Wx:WX} {P:Hp} {ι:List Addr} {G:Hp} {σ:L2.St} {H:Hp} {cs:List Str}
theorem ps_tryAt {body:List Stmt} {h₀:ExceptHandler} {hds:List ExceptHandler} {cl:List Cl} {pos:Pos} {f0:Fl} (hs:X.stack=X.env :: X.outer) (hf:X.env.frame=some X.env.locals) (tk:Takes X Wx) (hh:ClOk X cs (h₀ :: hds) cl)
  (hb:∀ (W:WX) (pn:List (Addr × Obj)) (xe:Value→Shared→Prop),Takes (X.tr pn xe) W→PassesOwn (model X.prog X.w) X.A X.env xe→∃ t,PSs (X.tr pn xe) body t∧∀ E,Jj X.K W P ι G E f0→t E σ H) :
  ∃ t,PS X (.Try body (h₀ :: hds) [] [] pos) t∧∀ E,Jj X.K Wx P ι G E (tryU cs cl f0)→t E σ H:=by
 refine⟨fun E σ' H'=>σ'=σ∧H'=H∧Jj X.K Wx P ι G E (tryU cs cl f0),⟨fun pins s σ' H' E I ⟨e1,e2,post⟩=>?_⟩,fun E post=>⟨rfl,rfl,post⟩⟩
 subst e1 e2
 have ok:=I.ok
 obtain⟨t,pb,db⟩:=hb (wTry X.K Wx E cs cl) (X.pn++pins) (fun e s₁=>wpAny (model X.prog X.w) X.A (noteFrame e X.env) (fun _ s₂=>wpAny (model X.prog X.w) X.A (setFlight e none) (fun _ s₃=>wpAny (model X.prog X.w) X.A (handleBy e X.env (h₀ :: hds)) (SP X pins E) X.xe s₃) X.xe s₂) X.xe s₁)
  (fun u s' x=>caught_of (pn:=[]) ok hs hf x fun a σ' H' cls d s3 hu k ⟨c,P',ι',G',S',ρ',fs,hcls,hc,sr',r',ea,post'⟩=>by
   subst hu
   subst hcls
   exact clauses hh ok hs hf tk hc k sr' r' ea post') PassesOwn.looking
 have inner:Jj X.K (wTry X.K Wx E cs cl) P ι G E f0:=by
  match f0,post with
  | .nx _ _,post=>exact post
  | .rt _ _,post=>exact post
  | .bk _ _,post=>exact post
  | .ct _ _,post=>exact post
  | .bad,post=>exact post
  | .err c fs ρ' S',post =>
   have post:Jj X.K Wx P ι G E (if c∈cs then hdlU c fs ρ' S' cl else .bad):=post
   by_cases hc:c∈cs
   ·rw[if_pos hc] at post
    exact fun ι' G' σ' H' od p e s' r' ea=>⟨c,P,ι',G',S',ρ',fs,rfl,hc,s',r',ea,Jj.up p e post⟩
   ·rw[if_neg hc] at post
    exact post.elim
 refine wpAny_Try_except (wpAny_mono (pb.run [] s σ' H' E (I.toTry _) (db E inner)) (fun f s1 g=>?_) fun _ _ z=>z)
 match f,g with
 | .next,⟨σ',H',J,q⟩=>exact wpAny_execs_nil ⟨σ',H',J.ofTry ok,q⟩
 | .brk,⟨σ',H',J,q⟩=>exact⟨σ',H',J.ofTry ok,q⟩
 | .cont,⟨σ',H',J,q⟩=>exact⟨σ',H',J.ofTry ok,q⟩
 | .ret u,⟨v,σ',H',J,rv,q⟩=>exact⟨v,σ',H',J.ofTry ok,rv,q⟩
end
theorem rel_none {K:PySem.W.Frag} {ι:List Addr} {G:Hp} : ∀ (σ:L2.St),RelE K ι G σ (List.replicate σ.length none)
 | []=>.nil
 | none :: σ=>.cons (show RO K ι G none none from trivial) (rel_none σ)
 | some v :: σ=>.cons (show RO K ι G (some v) none from trivial) (rel_none σ)
def tellU (ret:Bool) (cs:List Str) (cl:List Cl) (n:Nat) (r:Res U):Res U:=match r with
 | .ok u S=>.ok (if ret=true then u else .d .non) S
 | .err c fs S=>if c∈cs then (match hdlU c fs (List.replicate n none) S cl with | .rt u S'=>.ok u S' | _=>.bad) else .bad
 | .bad=>.bad
section
variable {P:Program} {w:World} {K:PySem.W.Frag} {mg:Str→Option Value} {base:Heap} {k:Nat} {x a:Str} {st:Stmt} {N:List Str} {cs:List Str} {cl:List Cl} {h₀:ExceptHandler} {hds:List ExceptHandler} {p1 p2 p3 p4 p5 p6:Pos} {j:Nat}
/-- action(),in the def's try -/
theorem pe_action {cdv:Value} {A:Around} {outer:List PySem.Env} {s:Shared} {H:Hp} {f:Addr} {Pp:Hp} {ι:List Addr} {G:Hp} {r:Res U} {W:WX} {pn:List (Addr × Obj)} {xe:Value→Shared→Prop} (hA:A.guards=some []) (hr:Room k (A.deeper (envOfC x (defScope st) s.heap.objs.size (ga K x) cdv)))
  (tk:Takes ((cxOf (L2.CX P w) P w K mg base N x (defScope st) (ga K x) cdv A outer s H fun _ _ _=>False).tr pn xe) W) (act:Acts P w K mg base k outer s H f Pp ι G r) (hN:N[0]?=some a) (hv:Vis (defScope st) a) (σ0:L2.St) (h0:σ0[0]?=some (some (.ref f)))
  (hd:(a == ("__debug__" : Str))=false) (hcd:(a == ("__classdict__" : Str))=false) :
  PE ((cxOf (L2.CX P w) P w K mg base N x (defScope st) (ga K x) cdv A outer s H fun _ _ _=>False).tr pn xe) (.Call (.Name a p1) [] [] p2) (fun σZ HZ Q=>σZ=σ0∧HZ=H∧Post (RU K) K (fun c d _ H'=>W c d σ0 H') Pp ι G [] Q r):=by
 obtain⟨⟨o,ho,hfn⟩,nf,nfr,run⟩:=act
 refine⟨fun pinsZ sZ σZ HZ Q IZ ⟨e1,e2,post⟩=>?_⟩
 subst e1 e2
 refine wpAny_Call_Name_kw (thn ((pe_var (pos:=p1) (i:=0) hN hv hd hcd).run pinsZ sZ σZ HZ (fun v H1=>v=.ref f∧H1=HZ) IZ ⟨.ref f,h0,rfl,rfl⟩) fun u s1 ⟨v,H1,I1,r1,q1⟩=>?_)
 obtain⟨ev,eH⟩:=q1
 subst ev
 subst eH
 obtain rfl:u=Value.ref f:=r1
 have un:Un (frs outer) [] H1 H1 s.heap s1.heap:=I1.base
 refine PySem.W.callWith_F0 (hfn _ (un.keep f o ho nf nfr (fun z=>nomatch z))) ?_
 exact wp_goes (codeAny_mono (run _ _ s1 Q (WE W σZ) hA hr I1.env0 un post) fun _ _ g=>goes_of I1 (passAt tk σZ) g)
theorem tells_try (ret:Bool) (F:FnF K mg x st) (S:FnScope N [a] (defScope st)) (hb:Ug x st [a]) (hN:N[0]?=some a) (hv:Vis (defScope st) a)
  (hbody:defBody st=if ret=true then [.Try [.Return (some (.Call (.Name a p1) [] [] p2)) p3] (h₀ :: hds) [] [] p4] else [.Try [.Expr (.Call (.Name a p1) [] [] p2) p3] (h₀ :: hds) [] [] p4,.Return (some (.Constant .none j p5)) p6])
  (hcl:∀ (cdv:Value) (A:Around) (outer:List PySem.Env) (s:Shared) (H:Hp) (E:XK),(A.deeper (envOfC x (defScope st) s.heap.objs.size (ga K x) cdv)).guards=some []→Room k (A.deeper (envOfC x (defScope st) s.heap.objs.size (ga K x) cdv)) →
   ClOk (cxOf (L2.CX P w) P w K mg base N x (defScope st) (ga K x) cdv A outer s H E) cs (h₀ :: hds) cl)
  (hd:(a == ("__debug__" : Str))=false:=by decide) (hcd:(a == ("__classdict__" : Str))=false:=by decide):Tells P w K mg base k x (tellU ret cs cl N.length):=by
 obtain⟨fd,F,hm⟩:=F
 have hB:=F.binds hb
 refine⟨⟨hm,F.kp⟩,fun A outer s H f Pp ι G r Q hA hr e0 act post=>?_⟩
 obtain⟨oc,od,kV,doc,pm,an,cdv,ct,osl,rfl,lk,hcode⟩:=F.ex
 have KX:K.In s.heap:=e0.mod.kin.keeps fun b o e=>(e0.bs b o e).1
 refine LamX.run_ofS (N:=N) (ps:=[a]) (us:=[.ref f]) (vs:=[.ref f]) lk hcode S hr e0 (hB s [.ref f] KX rfl) (.cons rfl .nil) rfl fun hr'=>?_
 have hN0:0 < N.length:=(List.getElem?_eq_some_iff.mp hN).1
 have sl:(L2.start N [V.ref f]).length=N.length:=by
  unfold L2.start
  simp
  omega
 have s0:(L2.start N [V.ref f])[0]?=some (some (.ref f)):=rfl
 have rel:∀ ι' G',RelE K ι' G' (L2.start N [V.ref f]) (List.replicate N.length none):=fun ι' G'=>by
  have:=rel_none (K:=K) (ι:=ι') (G:=G') (L2.start N [V.ref f])
  rwa [sl] at this
 have hh:=hcl cdv A outer s H (fun _ _ _=>False) hA hr'
 -- what the clauses make of an error
 have err:∀ (E:Ends) c fs S',(∀ u S',Post (RU K) K (fun _ _ _ _=>False) Pp ι G [] Q (.ok u S')→Jj K (fun _ _ _ _=>False) Pp ι G E (.rt u S'))→Post (RU K) K (fun _ _ _ _=>False) Pp ι G [] Q (tellU ret cs cl N.length (.err c fs S')) →
   Jj K (fun _ _ _ _=>False) Pp ι G E (tryU cs cl (.err c fs (List.replicate N.length none) S')):=fun E c fs S' hE h=>by
  have h:Post (RU K) K (fun _ _ _ _=>False) Pp ι G [] Q (if c∈cs then (match hdlU c fs (List.replicate N.length none) S' cl with | .rt u S'=>Res.ok u S' | _=>.bad) else .bad):=h
  show Jj K _ Pp ι G E (if c∈cs then hdlU c fs (List.replicate N.length none) S' cl else .bad)
  by_cases hc:c∈cs
  ·rw[if_pos hc] at h ⊢
   generalize hdlU c fs (List.replicate N.length none) S' cl=z at h ⊢
   match z,h with
   | .rt u S2,h=>exact hE u S2 h
  ·rw[if_neg hc] at h
   exact h.elim
 rw[hbody]
 cases ret with
 | true =>
  rw[if_pos rfl]
  obtain⟨t,pt,dt⟩:=ps_tryAt (X:=cxOf (L2.CX P w) P w K mg base N x (defScope st) (ga K x) cdv A outer s H fun _ _ _=>False) (Wx:=fun _ _ _ _=>False) (P:=Pp) (ι:=ι) (G:=G) (σ:=L2.start N [V.ref f]) (H:=H) (pos:=p4) (f0:=r.fl (List.replicate N.length none) fun u S=>.rt u S) rfl rfl LamX.takes0 hh (fun W pn xe tk hp =>
   ⟨_,pss_one (ps_ret (pos:=p3) (pe_action (p1:=p1) (p2:=p2) hA hr' tk act hN hv _ s0 hd hcd)),fun E h=>⟨rfl,rfl,by
    cases r with
    | ok u S'=>exact h
    | bad=>exact h.elim
    | err c fs S'=>exact fun ι' G' H' od p e s' ea=>h ι' G' _ H' od p e s' (rel ι' G') ea⟩⟩)
  ·refine⟨_,pss_one pt,dt _ ?_⟩
   cases r with
   | ok u S'=>exact post
   | bad=>exact post.elim
   | err c fs S'=>exact err _ c fs S' (fun u S' h=>h) post
 | false =>
  rw[if_neg Bool.false_ne_true]
  obtain⟨t,pt,dt⟩:=ps_tryAt (X:=cxOf (L2.CX P w) P w K mg base N x (defScope st) (ga K x) cdv A outer s H fun _ _ _=>False) (Wx:=fun _ _ _ _=>False) (P:=Pp) (ι:=ι) (G:=G) (σ:=L2.start N [V.ref f]) (H:=H) (pos:=p4) (f0:=r.fl (List.replicate N.length none) fun _ S=>.nx (List.replicate N.length none) S) rfl rfl LamX.takes0 hh (fun W pn xe tk hp =>
   ⟨_,pss_one (ps_expr (pos:=p3) (pe_action (p1:=p1) (p2:=p2) hA hr' tk act hN hv _ s0 hd hcd)),fun E h=>⟨rfl,rfl,by
    cases r with
    | ok u S'=>exact fun ι' G' H' v p e s' rv=>h ι' G' _ H' p e s' (rel ι' G')
    | bad=>exact h.elim
    | err c fs S'=>exact fun ι' G' H' od p e s' ea=>h ι' G' _ H' od p e s' (rel ι' G') ea⟩⟩)
  ·refine⟨_,pss_cons pt (pss_one (ps_ret (pos:=p6) (pe_non (j:=j) (pos:=p5)))),dt _ ?_⟩
   cases r with
   | ok u S'=>exact fun ι' G' σ' H' p e s' _=>post ι' G' H' .non p e s' .non
   | bad=>exact post.elim
   | err c fs S'=>exact err _ c fs S' (fun u S' h=>h) post
end
theorem set_same {α:Type} {l:List α} {n:Nat} {x:α} (h:l[n]?=some x):l.set n x=l:=by
 refine List.ext_getElem? fun i=>?_
 by_cases e:n=i
 ·subst e
  rw[List.getElem?_set_self (List.getElem?_eq_some_iff.mp h).1,h]
 ·rw[List.getElem?_set_ne e]
/-- where the table of code objects lies in the store -/
def tabU (n:Nat) (Pt:Addr) (q:Str) (S:Qa) (r:Res U):Res U:=match S[n]? with
 | some (.tab a z)=>if a=Pt∧z=q then r else .bad
 | _=>.bad
def Ur:Res U→Res U
 | .err _ _ _=>.bad
 | r=>r
section
variable {X:Cx} {Wx:WX} {k:Nat} {x:Str} {τ:Res U→Res U} {c Pt:Addr} {params:Arguments} {body:Expr} {scope:Scope} {p lpos pos:Pos} {n:Nat} {F:Env→Qa→Res U}
theorem pd_lam (hA:X.A.guards=some []) (hT:Tells X.prog X.w X.K X.mg X.base (k + 1) x τ) (hr:Room (k + 2) X.A) (TB:LamX.TabB X.base X.mg c Pt) (hcode:X.env.code=.ref c) (L:LamX.LamS X.env.scope scope) (hdef:defaultsOf params X.env=([],[]))
  (hbind:∀ (q:Str) (cl:List (Str × Addr)) (pm cv ctv:Value),bindArgs (PySem.W.kla_fn "<lambda>" q params body scope cl pm cv ctv) ⟨[],[]⟩ = pure [])
  (hbody:∀ (A:Around) (outer:List PySem.Env) (s:Shared) (H:Hp) (E:XK) (f c':Addr),(A.deeper (LamX.lamEnv X scope s.heap.objs.size f c')).guards=some []→Room k (A.deeper (LamX.lamEnv X scope s.heap.objs.size f c'))→PD (LamX.lamCx X A outer s H E scope f c') (fun c d _ H=>E c d H) body F)
  (hg:Gl X x:=by rfl) (hdb:(x == ("__debug__" : Str))=false:=by decide) :
  PD X Wx (.Call (.Name x p) [.Lambda params body scope lpos] [] pos) (fun ρ S=>tabU n Pt (X.env.qual ++ "<lambda>") S (Ur (τ (F ρ S)))):=by
 obtain⟨⟨hm,hk⟩,run⟩:=hT
 refine⟨tOf (RU X.K) X.K Wx _,⟨fun pins s σ H Q I ⟨P,ι,G,S,ρ,sr,re,post⟩=>?_⟩,fun P ι G σ S H ρ Q s e post=>⟨P,ι,G,S,ρ,s,e,post⟩⟩
 have post:Post (RU X.K) X.K Wx P ι G σ Q (tabU n Pt (X.env.qual ++ "<lambda>") S (Ur (τ (F ρ S)))):=post
 unfold tabU at post
 split at post
 ·rename_i a z hS
  split at post
  ·rename_i hz
   have postT:Post (RU X.K) X.K Wx P ι G σ Q (Ur (τ (F ρ S))):=post
   obtain⟨rfl,rfl⟩:=hz
   obtain⟨a',hi,ha',hg0,ps,hP,ht,hs⟩:=sr.here hS
   subst ha'
   refine wpAny_Call_Name_kw (ld_glob I hg hm ?_ hdb)
   refine PySem.W.callWith_K (h₀:=X.base) I.ok.mod.kin hk ?_ (by rfl) (by rfl)
   show wpAny _ _ (spliced ((false,eval (.Lambda params body scope lpos) X.env) :: backTo pos (starEach [] X.env))) _ _ s
   refine Calls.spliced_cons (lam_new I TB hcode hP ht (fun pos cv h=>(hs pos cv h).imp fun _ h=>h.1) hdef (L.has I.ok) fun f c' pm ctv H1 s1 I1 hH hf nf nfr=>Calls.spliced_nil ⟨I1.kIn,?_⟩)
   -- the store behind it
   have st:∃ G1,Ex G G1∧Sr X.K P ι G1 S H1∧G1 c'=some (LamX.CodeO c' (X.env.qual ++ "<lambda>")):=by
    rcases hH with ⟨rfl,hc⟩ | ⟨nC,cP,hc,rfl⟩
    ·obtain⟨c2,e1,e2⟩:=hs _ _ hc
     cases e1
     exact⟨G,Ex.refl G,sr,e2⟩
    ·have s2:=sr.new (o:=LamX.CodeO c' (X.env.qual ++ "<lambda>")) nC
     refine⟨_,sr.exN nC,?_,upd_same⟩
     have g2:(upd G c' (LamX.CodeO c' (X.env.qual ++ "<lambda>"))) a'=none:=by rw[upd_ne (Ne.symm cP)]; exact hg0
     have s3:=s2.put (o:=.tbl (ps++#[rawInt lpos.line,rawInt lpos.col,.ref c'])) (c:=.tab a' (X.env.qual ++ "<lambda>")) hS hi g2 ⟨rfl,g2,_,upd_same,by
      rw[show (ps++#[rawInt lpos.line,rawInt lpos.col,.ref c']).toList=ps.toList++[rawInt lpos.line,rawInt lpos.col,.ref c'] by simp]
      exact PySem.TriplesOk_snoc _ _ _ _ ht,fun p' cv hcv=>?_⟩
     ·rwa [set_same hS] at s3
     ·rw[show (ps++#[rawInt lpos.line,rawInt lpos.col,.ref c']).toList=ps.toList++[rawInt lpos.line,rawInt lpos.col,.ref c'] by simp] at hcv
      rcases LamX.among_app _ ht hcv with h | h
      ·obtain⟨c2,e1,e2⟩:=hs p' cv h
       exact⟨c2,e1,(sr.exN nC) _ _ e2⟩
      ·exact⟨c',h,upd_same⟩
   obtain⟨G1,eG,sr1,hco⟩:=st
   have co:H1 c'=some (LamX.CodeO c' (X.env.qual ++ "<lambda>")):=sr1.ex _ _ hco
   have act:Acts X.prog X.w X.K X.mg X.base (k + 1) X.stack s1 H1 f P ι G1 (F ρ S):=by
    refine⟨⟨_,hf,fun h e=>⟨_,_,_,_,e⟩⟩,nf,nfr,fun A out2 s2 Q2 E2 gA rA e2 un p2=>?_⟩
    have of2:=un.keep f _ hf nf nfr (fun z=>nomatch z)
    obtain⟨⟨oc,vs,t,hoc,hdc,hvc⟩,_,_⟩:=e2.hok c' _ co
    refine PySem.W.kla_callFunE rA.depth of2 rfl L.co L.gen rfl ⟨c',oc,vs,t,rfl,hoc,hdc,hvc⟩ ?_
    rw[hbind]
    refine wpAny_pure (wpAny_newFunctionEnv (fun y hy=>(L.own y hy).2) (fun y hy=>nomatch hy) (fun h₁ hns hsb=>⟨(e2.mod.nolimit.keeps fun b o e=>(e2.bs b o e).1).fresh _ hsb,?_⟩) L.kind)
    show codeAny _ _ (.expr body (LamX.lamEnv X scope s2.heap.objs.size f c')) _ _
    have kp:∀ b o,s2.heap.get? b=some o→h₁.get? b=some o:=fun b o e=>hsb.extBut b o (Nat.ne_of_lt (Heap.lt_size e)) (Heap.get?_push_of_some _ e)
    have J:Inv (LamX.lamCx X A out2 s2 H1 E2 scope f c') [] σ H1 { s2 with heap:=h₁,toks:=s2.toks + ([]:List (Str × Value)).length }:=LamX.lam_start2 I1 L e2 rA.hd un hns kp
    obtain⟨tb,pb,db⟩:=hbody A out2 s2 H1 E2 f c' gA (rA.deeper _)
    have q:=db P ι G1 σ S H1 ρ Q2 sr1 (re.up (List.prefix_refl _) eG) (by
     generalize F ρ S=r at p2
     cases r with
     | ok u S'=>exact p2
     | err c fs S'=>exact p2
     | bad=>exact p2)
    refine PySem.W.kla_codeExpr (wpAny_mono (pb.run [] _ σ H1 Q2 J q) (fun v s' hq=>?_) fun e s' hq=>hq)
    obtain⟨w',H',J',rv,q⟩:=hq
    exact⟨w',H',J'.os,J'.bare,J'.base,J'.hok,rv,q⟩
   have post1:Post (RU X.K) X.K (fun _ _ _ _=>False) P ι G1 [] Q (τ (F ρ S)):=by
    have post:Post (RU X.K) X.K Wx P ι G1 σ Q (Ur (τ (F ρ S))):=Post.up (List.prefix_refl ι) eG postT
    generalize τ (F ρ S)=r at post
    cases r with
    | ok u S'=>exact post
    | err c fs S'=>exact post.elim
    | bad=>exact post.elim
   exact wp_goes (codeAny_mono (run X.A X.stack s1 H1 f P ι G1 (F ρ S) Q hA hr I1.env0 act post1) fun _ _ g=>goes_of I1 (passAt (W:=fun _ _ _ _=>False) LamX.takes0 σ) g)
  ·exact post.elim
 ·exact post.elim
end
end DL
namespace DL
open PySem PySem.Spec PyProof.Rows L2
open He (ga ma)
open TL (tl)
open Evl (Ex)
open PySem.W (tabObj CodeHd noTabs tabIn)
abbrev tbS (tb:List Tb):Qa:=tb.map fun p=>.tab p.2.1 p.2.2
noncomputable def lawFT (tb:List Tb) (u:U) (S:Qa):Res U:=match u with
 | .d (.lst ds)=>pre (S=tbS tb∧∃ is:List Int,ds=is.map .int) (.ok (.d (.bl true)) S)
 | _=>.bad
theorem lawT_sp {K:PySem.W.Frag} {H:Hp} {a:Addr} {ns:List Int} {tb:List Tb} (nd:(tb.map (·.2.1)).Nodup) (hT:∀ p∈tb,H p.2.1=some (.tbl #[])) (ha:∀ p∈tb,p.2.1 ≠ a) (h:SqL K H a (ns.map V.int)):spD K 1 (F1 (lawFT tb)) [.ref a] H (fun v _=>v=.bl true) fun _ _ _=>False:=by
 obtain⟨G,hG⟩ : ∃ G:Hp,G=fun b=>if b∈tb.map (·.2.1) then none else H b:=⟨_,rfl⟩
 have gT:∀ b∈tb.map (·.2.1),G b=none:=fun b hb=>by rw[hG]; exact if_pos hb
 have gA:G a=H a:=by
  rw[hG]
  refine if_neg fun hm=>?_
  obtain⟨p,hp,e⟩:=List.mem_map.mp hm
  exact ha p hp e
 have hGH:Ex G H:=fun b o e=>by
  rw[hG] at e
  by_cases hb:b∈tb.map (·.2.1)
  ·simp only[if_pos hb] at e; cases e
  ·simp only[if_neg hb] at e; exact e
 have sr:Sr K (fun _=>none) (tb.map (·.2.1)) G (tbS tb) H:=by
  refine⟨hGH,by rw[List.length_map,List.length_map],nd,fun n c b h1 h2=>?_,fun n b h=>?_,(fun b o h=>nomatch h),fun n c b h1 h2 _=>?_⟩
  ·rw[List.getElem?_map] at h1 h2
   cases e:tb[n]? with
   | none=>rw[e] at h1; cases h1
   | some p =>
    rw[e] at h1 h2
    cases h1
    cases h2
    have hp:=List.mem_of_getElem? e
    exact⟨rfl,gT _ (List.mem_map.mpr ⟨p,hp,rfl⟩),#[],hT p hp,trivial,fun pos cv z=>nomatch (show (none:Option Value)=some cv from z)⟩
  ·obtain⟨p,hp,e⟩:=List.mem_map.mp (List.mem_of_getElem? h)
   exact⟨_,e ▸ hT p hp⟩
  ·rw[List.getElem?_map] at h1
   cases e:tb[n]? with
   | none=>rw[e] at h1; cases h1
   | some p=>rw[e] at h1; cases h1; cases h2
 have hq:SqL K G a (ns.map V.int):=by
  rcases h with h | h
  ·rcases h with h | ⟨o,h⟩
   ·exact .inl (.inl (by rw[gA]; exact h))
   ·exact .inl (.inr ⟨o,by rw[gA]; exact h⟩)
  ·exact .inr h
 refine⟨rfl,fun _=>none,_,G,tbS tb,[.d (.lst (ns.map .int))],sr,.cons (.lst hq (rv_ints ns)) .nil,?_⟩
 show Post _ _ _ _ _ _ _ _ (pre _ _)
 rw[Zu ⟨rfl,ns,rfl⟩]
 intro ι' G' H' v p e s r
 cases r
 rfl
/-- the law's call -/
theorem lawKT {P:Program} {w:World} {K:PySem.W.Frag} {mg mb:Str→Option Value} {k:Nat} {fa a:Addr} {x:Str} {s₁:Shared} {vs:List Value} {ns:List Int} {tb:List Tb}
  (KX:K.In s₁.heap) (hns:s₁.heap.Ns mainGlobals mg) (hb:s₁.heap.Ns builtinsNs mb) (hbb:∀ x:Str,x ≠ "__name__" → mb x=bootBuiltins x) (hlim:s₁.heap.NoLimit) (hg:s₁.gens = #[])
  (nd:(tb.map (·.2.1)).Nodup) (hT:∀ p∈tb,s₁.heap.get? p.2.1=some (tabObj #[])) (nT:noTabs K=true) (C:∀ p∈tb,CodeHd s₁.heap p.1 p.2.1)
  (hbm:∃ (bm:Addr) (ob:Obj),mg "__builtins__" = some (.ref bm)∧bm ≠ builtinsNs∧s₁.heap.get? bm=some ob∧ob.cls=.type "module" ∧ ob.dict=some builtinsNs∧ob.data=.plain)
  (ha:s₁.heap.get? a=some { cls:=.type "list",data:=.seq vs.toArray }) (hi:IntsAre vs ns) (hl:ns.length≤sizeLine) (hr:Room k callerA)
  (F:∀ base:Heap,(∀ p∈tb,LamX.TabB base mg p.1 p.2.1)→∃ fd,FnG P w K mg base (L2.CX P w) k fa fd [x] (spD K 1 (F1 (lawFT tb)))∧Binds K fd [x] []) :
  codeAny (model P w) callerA (.call (.ref fa) ⟨[.ref a],[]⟩) (fun r s'=>r=.ok (.ret (.bool true))∧OldK s₁.heap s'.heap∧s'.os=s₁.os∧AllBare s'.gens) s₁:=by
 have rv:=vals_ints hi
 have lenV:=hi.length
 have tbl:∀ b∈tb.map (·.2.1),s₁.heap.get? b=some (tabObj #[]):=fun b hm=>by
  obtain⟨p,hp,e⟩:=List.mem_map.mp hm
  exact e ▸ hT p hp
 have aN:a ∉ tb.map (·.2.1):=fun hm=>by
  have:=tbl a hm
  rw[ha] at this
  have:=congrArg Obj.cls (Option.some.inj this)
  cases this
 have kN:∀ b∈tb.map (·.2.1),K.lookup b=none:=fun b hm=>by
  cases e:K.lookup b with
  | none=>rfl
  | some o =>
   have e2:=KX _ _ e
   rw[tbl b hm] at e2
   cases e2
   have:=List.all_eq_true.mp nT (b,tabObj #[]) (PySem.W.mem_of_lookupK e)
   cases this
 -- the tables and the script,as far as the fragment has it not
 obtain⟨H,hH⟩ : ∃ H:Hp,H=fun b=>if b∈tb.map (·.2.1) then some (.tbl #[]) else if b=a∧K.lookup a=none then some (.frz { cls:=.type "list",data:=.seq vs.toArray } (.lst (ns.map V.int))) else none:=⟨_,rfl⟩
 have h1:∀ b∈tb.map (·.2.1),H b=some (.tbl #[]):=fun b hm=>by rw[hH]; exact if_pos hm
 have h2:∀ b,b ∉ tb.map (·.2.1)→H b=if b=a∧K.lookup a=none then some (.frz { cls:=.type "list",data:=.seq vs.toArray } (.lst (ns.map V.int))) else none:=fun b hm=>by rw[hH]; exact if_neg hm
 have h3:∀ b,H b ≠ none→b∈tb.map (·.2.1)∨(b=a∧K.lookup a=none):=fun b q=>by
  by_cases hm:b∈tb.map (·.2.1)
  ·exact .inl hm
  ·refine .inr ?_
   rw[h2 b hm] at q
   by_cases c:b=a∧K.lookup a=none
   ·exact c
   ·rw[if_neg c] at q; exact absurd rfl q
 have free:∀ {b:Addr} {o:Obj},s₁.heap.get? b=some o→o ≠ tabObj #[]→(∀ vs n,o.data ≠ .seq vs n)→H b=none:=fun {b o} e n1 n2=>by
  cases q:H b with
  | none=>rfl
  | some u =>
   rcases h3 b (by rw[q]; exact fun z=>nomatch z) with hm | ⟨rfl,_⟩
   ·rw[tbl b hm] at e; exact absurd (Option.some.inj e).symm n1
   ·rw[ha] at e; cases e; exact absurd rfl (n2 _ _)
 have hok:HOk P w H s₁.heap:=fun b u e=>by
  rcases h3 b (by rw[e]; exact fun z=>nomatch z) with hm | ⟨rfl,hk⟩
  ·rw[h1 b hm] at e; cases e; exact tbl b hm
  ·rw[h2 b aN,if_pos ⟨rfl,hk⟩] at e
   cases e
   exact⟨ha,by rw[List.length_map]; exact hl,vs,_,rv,ha⟩
 have hS:SqL K H a (ns.map V.int):=by
  by_cases hk:K.lookup a=none
  ·exact .inl (.inr ⟨_,(h2 a aN).trans (if_pos ⟨rfl,hk⟩)⟩)
  ·obtain⟨o,ho⟩:=Option.ne_none_iff_exists'.mp hk
   have e:=KX a o ho
   rw[ha] at e
   cases e
   exact .inr ⟨_,vs.toArray,_,ho,rfl,rfl,rfl,by rw[List.size_toArray,lenV]; exact hl,by simpa using rv⟩
 have dictFree:∀ {b:Addr} {o:Obj} {es:Array DictEntry} {ep:Nat},s₁.heap.get? b=some o→o.data=.dict es ep→H b=none:=fun {b o es ep} e d=>by
  refine free e (fun z=>?_) (fun vs n z=>?_)
  ·rw[z] at d; cases d
  ·rw[d] at z; cases z
 have keepNs:∀ {b:Addr} {m:Str→Option Value},s₁.heap.Ns b m→(hidT s₁.heap H).Ns b m:=fun {b m} q=>by
  obtain⟨o,es,ep,e,d,r⟩:=q
  exact⟨o,es,ep,hidT_get e (dictFree e d),d,r⟩
 have kb:K.In (hidT s₁.heap H):=fun b o e=>hidT_get (KX b o e) (by
  cases q:H b with
  | none=>rfl
  | some u =>
   rcases h3 b (by rw[q]; exact fun z=>nomatch z) with hm | ⟨rfl,hk⟩
   ·rw[kN b hm] at e; cases e
   ·rw[hk] at e; cases e)
 have md:L2.Mod K mg (hidT s₁.heap H):=by
  obtain⟨mc,q1,q2⟩:=hlim
  exact⟨kb,keepNs hns,⟨mb,keepNs hb,hbb⟩,⟨mc,keepNs q1,q2⟩⟩
 have e0:Env0 P w K mg (hidT s₁.heap H) callerA [] s₁ H :=
  { frames:=rfl,mod:=md,bs:=fun b o e=>of_hidT e,bsz:=Nat.le_of_eq (hidT_size _ _),funs:=trivial,frf:=fun b hb=>(nomatch (show b∈([]:List Addr) from hb)),hok:=hok,bare:=.of_eq hg }
 have TB:∀ p∈tb,LamX.TabB (hidT s₁.heap H) mg p.1 p.2.1:=fun p hp=>by
  refine⟨?_,?_,fun z=>?_⟩
  ·obtain⟨o,us,file,tf,flags,tg,inF,text,tt,q1,q2,q3,q⟩:=C p hp
   exact⟨o,us,file,tf,flags,tg,inF,text,tt,hidT_get q1 (free q1 (fun z=>by rw[z] at q2; cases q2) (fun vs n z=>by rw[q3] at z; cases z)),q2,q3,q⟩
  ·obtain⟨bm,ob,b1,b2,b3,b4,b5,b6⟩:=hbm
   refine⟨bm,ob,b1,b2,fun z=>?_,fun z=>?_,hidT_get b3 (free b3 (fun z=>by rw[z] at b4; cases b4) (fun vs n z=>by rw[b6] at z; cases z)),b4,b5,b6⟩
   ·obtain⟨o,es,ep,e,hd,_⟩:=hns
    rw[z,e] at b3
    cases b3
    rw[hd] at b6
    cases b6
   ·rw[z,hT p hp] at b3
    cases b3
    cases b4
  ·obtain⟨o,es,ep,e,hd,_⟩:=hns
   rw[z,hT p hp] at e
   cases e
   cases hd
 obtain⟨fd,hF,hbind⟩:=F _ TB
 refine codeAny_mono (hF.run callerA rfl [] s₁ H ⟨[.ref a],[]⟩ [.ref a] [.ref a] _ _ hr e0 (hbind s₁ [.ref a] KX rfl) (.cons rfl .nil) (lawT_sp nd (fun p hp=>h1 _ (List.mem_map.mpr ⟨p,hp,rfl⟩)) (fun p hp e=>aN (List.mem_map.mpr ⟨p,hp,e⟩)) hS)) fun r s' h=>?_
 match r,h with
 | .error e,h =>
  obtain⟨_,_,_,_,_,_,_,_,_,_,_,_,z⟩:=h
  exact z.elim
 | .ok .next,h=>exact False.elim h
 | .ok .brk,h=>exact False.elim h
 | .ok .cont,h=>exact False.elim h
 | .ok (.ret u),h =>
  obtain⟨v,H',os,bare,un,hok',r',q⟩:=h
  obtain rfl:v=.bl true:=q
  obtain rfl:u=Value.bool true:=r'
  have stays:∀ b o,b ∉ tb.map (·.2.1)→s₁.heap.get? b=some o→s'.heap.get? b=some o:=fun b o hm e=>by
   by_cases c:b=a∧K.lookup a=none
   ·have z:=h2 b hm
    rw[if_pos c] at z
    have q1:=(hok b _ z).1
    rw[e] at q1
    cases q1
    exact (hok' b _ (un.frzs b _ _ z)).1
   ·have z:=h2 b hm
    rw[if_neg c] at z
    exact un.keep b o e z (fun y=>nomatch (show b∈([]:List Addr) from y)) (fun y=>nomatch y)
  have grew:∀ p∈tb,∃ more:Array Value,s'.heap.get? p.2.1=some (tabObj more):=fun p hp=>by
   obtain⟨more,z⟩:=un.tbls _ #[] (h1 p.2.1 (List.mem_map.mpr ⟨p,hp,rfl⟩))
   exact⟨_,hok' _ _ z⟩
  refine⟨rfl,⟨fun b o e=>?_,fun b o e=>?_⟩,os,bare⟩
  ·by_cases hm:b∈tb.map (·.2.1)
   ·obtain⟨p,hp,rfl⟩:=List.mem_map.mp hm
    obtain⟨more,hmore⟩:=grew p hp
    rw[hT p hp] at e
    cases e
    exact .inr (.inl ⟨((C p hp).tab (hT p hp)).isCodeTable,rfl,#[],more,rfl,by rw[Array.empty_append]; exact hmore⟩)
   ·exact .inl (stays b o hm e)
  ·by_cases hm:b∈tb.map (·.2.1)
   ·obtain⟨p,hp,rfl⟩:=List.mem_map.mp hm
    obtain⟨more,hmore⟩:=grew p hp
    exact⟨_,hmore⟩
   ·exact⟨o,stays b o hm e⟩
theorem walkDT {l:PySem.W.OpenLaw} {n k:Nat} {q:Program} {loose:List Str} {XP:(Str→Option Value)→Heap→Prop} {YP:World→Heap→Prop} {d:DefRec} {x:Str} (xs:List Str)
  (hn:l.most=some n) (hn2:n≤sizeLine) (hdf:d.params.defaults=[]) (hr:Room k callerA) (hname:d.name=("law" : Str)) (hxs:∀ x∈xs,∃ d,(recsOf q).find? (fun e=>e.name == x)=some d)
  (F:∀ (w:World) (mg:Str→Option Value) (h:Heap),YP w h→h.Ns mainGlobals mg→∃ K:PySem.W.Frag,K.In h∧cTabs xs K=true∧∀ base:Heap,(∀ p∈tabsK K xs,LamX.TabB base mg p.1 p.2.1)→FM l.prog w K mg base k "law" [x] (F1 (lawFT (tabsK K xs)))) :
  PySem.W.WalkO q loose XP YP l.row.toRowW d [] (fun f vs=>PySem.call f vs) :=
 Att.attach_call hn hdf fun w s₀ s₁ mg mb fa o pm cd doc a vs ns G Y ho hd hcd hmg hobj hints hlen hg=>by
  obtain⟨K,KX,hc,hF⟩:=F w mg _ Y G.T.g
  unfold cTabs at hc
  rw[Bool.and_eq_true,Bool.and_eq_true] at hc
  obtain⟨c1,_,c3⟩:=hc
  have at_:∀ p∈tabsK K xs,CodeHd s₁.heap p.1 p.2.1∧s₁.heap.get? p.2.1=some (tabObj #[]):=fun p hp=>by
   obtain⟨y,hy,e⟩:=List.mem_filterMap.mp hp
   obtain⟨z,hz,rfl⟩:=Option.map_eq_some_iff.mp e
   obtain⟨d',hd'⟩:=hxs y hy
   exact PySem.W.tab_of G.T KX hd' hz
  rw[hname] at hmg
  refine lawKT (x:=x) (tb:=tabsK K xs) KX G.T.g G.T.b G.T.builtins G.T.nolimit hg (of_decide_eq_true c3) (fun p hp=>(at_ p hp).2) c1 (fun p hp=>(at_ p hp).1) G.T.bmain hobj hints (Nat.le_trans hlen hn2) hr (fun base tbs=>?_)
  obtain⟨⟨_,fd,f1,f2,_⟩,f3⟩:=hF base tbs
  have e:=hmg.symm.trans f3
  obtain rfl:fa=ga K "law" := by cases e; rfl
  exact⟨fd,f1,f2⟩
end DL
namespace DL
open PySem PySem.Spec PyProof.Rows L2
open He (ga ma)
open PySem.W (tabIn noTabs)
theorem code_of {K:PySem.W.Frag} {x:Str} {c Pt:Addr} (h:tabIn K x=some (c,Pt)) {oc:Value} {od:Option Addr} {fd:FuncData} {osl:Array (Option Value)} (lk:K.lookup (ga K x)=some ⟨oc,od,.func fd,osl⟩):fd.code=.ref c:=by
 unfold tabIn at h
 split at h
 ·rename_i f hf
  have hg:ga K x=f:=by unfold He.ga; rw[hf]
  rw[hg] at lk
  rw[lk] at h
  simp only at h
  split at h
  ·rename_i c' hc
   split at h
   ·split at h
    ·cases h; exact hc
    ·cases h
   ·cases h
  ·cases h
 ·cases h
section
variable {P:Program} {w:World} {K:PySem.W.Frag} {mg:Str→Option Value} {base:Heap} {k:Nat} {x:Str} {st:Stmt} {N ps:List Str} {B:Env→Qa→Fl} {fF:Fn} {c Pt:Addr}
/-- a def by its body,its code object at c -/
theorem okM_T (tb:tabIn K x=some (c,Pt)) (F:FnF K mg x st) (S:FnScope N ps (defScope st)) (hb:Ug x st ps) (hlen:∀ us S,us.length ≠ ps.length→fF us S=.bad)
  (hB:∀ (cdv:Value) (A:Around) (outer:List PySem.Env) (s:Shared) (H:Hp) (E:XK),cdv=.ref c→(A.deeper (envOfC x (defScope st) s.heap.objs.size (ga K x) cdv)).guards=some []→Room k (A.deeper (envOfC x (defScope st) s.heap.objs.size (ga K x) cdv)) →
   PDSs (cxOf (L2.CX P w) P w K mg base N x (defScope st) (ga K x) cdv A outer s H E) (fun c d _ H=>E c d H) (defBody st) B)
  (href:∀ us S,us.length=ps.length→Qx S (fF us S) (Jc (B (Q3 N.length us) S))):FM P w K mg base (k + 1) x ps fF:=by
 obtain⟨fd,F,hm⟩:=F
 have hB':=F.binds hb
 have hP:=F.kp
 obtain⟨oc,od,kV,doc,pm,an,cdv,ct,osl,rfl,lk,hcd⟩:=F.ex
 have hc:cdv=.ref c:=code_of tb lk
 refine⟨⟨hlen,_,fnG_of lk hcd S (fun vs H Q E h=>h.1) fun A outer s H vs Q E hA hr hsp=>?_,hB',hP⟩,hm⟩
 exact Vd rfl (hB cdv A outer s H E hc hA hr) href hsp
end
abbrev lamQ (x:Str):Str:=x++(".<locals>." ++ ("<lambda>" : Str))
theorem tabs_at {K:PySem.W.Frag} {xs:List Str} (h:cTabs xs K=true) {x:Str} (hx:x∈xs):∃ c Pt,tabIn K x=some (c,Pt):=by
 unfold cTabs at h
 rw[Bool.and_eq_true,Bool.and_eq_true] at h
 obtain⟨q,hq⟩:=Option.isSome_iff_exists.mp (List.all_eq_true.mp h.2.1 x hx)
 exact⟨q.1,q.2,hq⟩
theorem tabs1 {K:PySem.W.Frag} {x:Str} {c Pt:Addr} (h:tabIn K x=some (c,Pt)):tabsK K [x]=[(c,Pt,lamQ x)]:=by
 unfold tabsK
 rw[List.filterMap_cons_some (by rw[h]; rfl)]
 rfl
theorem tabU_at {n:Nat} {Pt:Addr} {q q':Str} {S:Qa} (h:S[n]?=some (.tab Pt q')) (e:q'=q) (r:Res U):tabU n Pt q S r=r:=by
 unfold tabU
 rw[h]
 exact if_pos ⟨rfl,e⟩
section
variable {X:Cx} {Wx:WX} {k:Nat} {x q:Str} {τ:Res U→Res U} {c Pt:Addr} {params:Arguments} {body:Expr} {scope:Scope} {p lpos pos:Pos} {n:Nat} {F:Env→Qa→Res U}
/-- the call with a lambda,its name told -/
theorem pd_lamQ (hA:X.A.guards=some []) (hT:Tells X.prog X.w X.K X.mg X.base (k + 1) x τ) (hr:Room (k + 2) X.A) (TB:LamX.TabB X.base X.mg c Pt) (hcode:X.env.code=.ref c) (hq:X.env.qual ++ "<lambda>" = q) (L:LamX.LamS X.env.scope scope) (hdef:defaultsOf params X.env=([],[]))
  (hbind:∀ (q:Str) (cl:List (Str × Addr)) (pm cv ctv:Value),bindArgs (PySem.W.kla_fn "<lambda>" q params body scope cl pm cv ctv) ⟨[],[]⟩ = pure [])
  (hbody:∀ (A:Around) (outer:List PySem.Env) (s:Shared) (H:Hp) (E:XK) (f c':Addr),(A.deeper (LamX.lamEnv X scope s.heap.objs.size f c')).guards=some []→Room k (A.deeper (LamX.lamEnv X scope s.heap.objs.size f c'))→PD (LamX.lamCx X A outer s H E scope f c') (fun c d _ H=>E c d H) body F)
  (hg:Gl X x:=by rfl) (hdb:(x == ("__debug__" : Str))=false:=by decide) :
  PD X Wx (.Call (.Name x p) [.Lambda params body scope lpos] [] pos) (fun ρ S=>tabU n Pt q S (Ur (τ (F ρ S)))):=by
 subst hq
 exact pd_lam hA hT hr TB hcode L hdef hbind hbody hg hdb
end
end DL
namespace KL
open PySem PySem.Spec PyProof.Rows L2
open He (ga ma)
open Evl (Ex Ev EvA EvT EvL EvU)
open TL (tl)
structure Txt (P:Program) (K:PySem.W.Frag) (mg:Str→Option Value):Prop where
 m_all:mg "all" = none
 m_enumerate:mg "enumerate" = none
 m_range:mg "range" = none
 m_min:mg "min" = none
 m_isinstance:mg "isinstance" = none
 m_str:mg "str" = none
 m_len:mg "len" = none
 m_tuple:mg "tuple" = none
 m_TypeError:mg "TypeError" = none
 m_abs:mg "abs" = none
 m_int:mg "int" = none
 m_list:mg "list" = none
 m_max:mg "max" = none
 m_set:mg "set" = none
 m_sorted:mg "sorted" = none
 c_LETTERS:∃ u,mg "LETTERS" = some u∧RelV (.str "abcdefghijklmnopqrstuvwxyz") u
 c_MOST_LETTERS:∃ u,mg "MOST_LETTERS" = some u∧RelV (.int 8) u
 c_MOST_COLUMNS:∃ u,mg "MOST_COLUMNS" = some u∧RelV (.int 5) u
 c_MOST_REFERENCES:∃ u,mg "MOST_REFERENCES" = some u∧RelV (.int 2) u
 c_MOST_TABLES:∃ u,mg "MOST_TABLES" = some u∧RelV (.int 6) u
 g_WhichError:mg "WhichError" = some (.ref (ga K "WhichError"))
 g_Layout:mg "Layout" = some (.ref (ga K "Layout"))
 g_Schema:mg "Schema" = some (.ref (ga K "Schema"))
 n_BadName:PySem.WErr.ErrTxtN P K mg "BadName" ["name"] (ga K "BadName") (WH.iAd K "BadName")
 n_Twice:PySem.WErr.ErrTxtN P K mg "Twice" ["name"] (ga K "Twice") (WH.iAd K "Twice")
 n_BadKey:PySem.WErr.ErrTxtN P K mg "BadKey" ["index"] (ga K "BadKey") (WH.iAd K "BadKey")
 n_BadReference:PySem.WErr.ErrTxtN P K mg "BadReference" ["index"] (ga K "BadReference") (WH.iAd K "BadReference")
 n_NoTable:PySem.WErr.ErrTxtN P K mg "NoTable" ["table"] (ga K "NoTable") (WH.iAd K "NoTable")
 n_TooMany:PySem.WErr.ErrTxtN P K mg "TooMany" ["limit"] (ga K "TooMany") (WH.iAd K "TooMany")
 n_BadText:PySem.WErr.ErrTxtN P K mg "BadText" ["index"] (ga K "BadText") (WH.iAd K "BadText")
 e_BadName:PySem.WErr.ErrTxt P K mg "BadName" "name" (ga K "BadName") (WH.iAd K "BadName")
 e_Twice:PySem.WErr.ErrTxt P K mg "Twice" "name" (ga K "Twice") (WH.iAd K "Twice")
 e_BadKey:PySem.WErr.ErrTxt P K mg "BadKey" "index" (ga K "BadKey") (WH.iAd K "BadKey")
 e_BadReference:PySem.WErr.ErrTxt P K mg "BadReference" "index" (ga K "BadReference") (WH.iAd K "BadReference")
 e_NoTable:PySem.WErr.ErrTxt P K mg "NoTable" "table" (ga K "NoTable") (WH.iAd K "NoTable")
 e_TooMany:PySem.WErr.ErrTxt P K mg "TooMany" "limit" (ga K "TooMany") (WH.iAd K "TooMany")
 e_BadText:PySem.WErr.ErrTxt P K mg "BadText" "index" (ga K "BadText") (WH.iAd K "BadText")
 exm:∀ x∈errN,∀ y∈errN,PySem.W.exmOne K (.ref (ga K x)) (.ref (ga K y))=some (x == y)
 exmW:∀ x∈errN,PySem.W.exmOne K (.ref (ga K x)) (.ref (ga K "WhichError"))=some true
 xfc:∀ x∈errN,XfC K (ga K x)
 fnd:∀ x∈errN,∀ f∈errFs,PySem.W.findIn K (.ref (ga K x)) f=some none
 cls_Layout:Cls K (ga K "Layout")
 mk_Layout:Mk K (ga K "Layout") (ma K (ga K "Layout") "__init__")
 na_Layout_name:NoAttr K (ga K "Layout") "name"
 na_Layout_columns:NoAttr K (ga K "Layout") "columns"
 na_Layout_all_keys:NoAttr K (ga K "Layout") "all_keys"
 na_Layout_key:NoAttr K (ga K "Layout") "key"
 na_Layout_refers:NoAttr K (ga K "Layout") "refers"
 I_Layout:∃ fd,FunD K "__init__" "Layout.__init__" (defArgs Qu) (defBody Qu) (defScope Qu) [] [("keys",V.ref (WH.kwAt "Layout" "keys" K)),("refers",V.ref (WH.kwAt "Layout" "refers" K))] (ma K (ga K "Layout") "__init__") fd
 me_Layout___eq__:Meth K (ga K "Layout") "__eq__" (ma K (ga K "Layout") "__eq__")
 F_Layout___eq__:MtF K "__eq__" "Layout.__eq__" Zz (ma K (ga K "Layout") "__eq__")
 eq_Layout:DL.EqOk K (ga K "Layout") (ma K (ga K "Layout") "__eq__")
 isi_Layout:DL.IsiOk K "Layout"
 cls_Schema:Cls K (ga K "Schema")
 mk_Schema:Mk K (ga K "Schema") (ma K (ga K "Schema") "__init__")
 na_Schema_layouts:NoAttr K (ga K "Schema") "layouts"
 I_Schema:∃ fd,FunD K "__init__" "Schema.__init__" (defArgs Qv) (defBody Qv) (defScope Qv) [] [] (ma K (ga K "Schema") "__init__") fd
 me_Schema_names:Meth K (ga K "Schema") "names" (ma K (ga K "Schema") "names")
 F_Schema_names:MtF K "names" "Schema.names" Y4 (ma K (ga K "Schema") "names")
 me_Schema___or__:Meth K (ga K "Schema") "__or__" (ma K (ga K "Schema") "__or__")
 F_Schema___or__:MtF K "__or__" "Schema.__or__" Yu (ma K (ga K "Schema") "__or__")
 me_Schema___eq__:Meth K (ga K "Schema") "__eq__" (ma K (ga K "Schema") "__eq__")
 F_Schema___eq__:MtF K "__eq__" "Schema.__eq__" Z0 (ma K (ga K "Schema") "__eq__")
 eq_Schema:DL.EqOk K (ga K "Schema") (ma K (ga K "Schema") "__eq__")
 isi_Schema:DL.IsiOk K "Schema"
 or_Schema:DL.BinOk K "or" (ga K "Schema") (ma K (ga K "Schema") "__or__") (ga K "Layout")
 F_place_in:FnF K mg "place_in" Ua
 F_is_name:FnF K mg "is_name" Vb
 F_lines_of:FnF K mg "lines_of" s_lines_of
 F_first_twice:FnF K mg "first_twice" Xw
 F_are_columns:FnF K mg "are_columns" Zr
 F_is_reference:FnF K mg "is_reference" Z9
 F_layout_line:FnF K mg "layout_line" Vk
 F_layout_of_line:FnF K mg "layout_of_line" X3
 F_law_bag:FnF K mg "_law_bag" s_law_bag
 F_law_take:FnF K mg "_law_take" Vo
 F_law_of:FnF K mg "_law_of" s_law_of
 F_law_picked:FnF K mg "_law_picked" Ub
 F_law_name:FnF K mg "_law_name" Uc
 F_law_make:FnF K mg "_law_make" Vp
 F_law_schema_of:FnF K mg "_law_schema_of" Yv
 F_law_due:FnF K mg "_law_due" Vc
 F_law_raised:FnF K mg "_law_raised" Ud
 F_law_link:FnF K mg "_law_link" Vq
 F_law_plain:FnF K mg "_law_plain" Xn
 F_law_plains:FnF K mg "_law_plains" Ue
 F_law:FnF K mg "law" s_law
 tabs:DL.cTabs ["law"] K=true
end KL
local macro_rules
| `(tactic| simp! [$ts,*])=>`(tactic| simp -implicitDefEqProofs only[DL.bind_ok,DL.bind_err,DL.bind_bad,DL.fl_ok,DL.fl_err,DL.fl_bad,DL.seq_nx,DL.seq_rt,DL.seq_err,DL.seq_bk,DL.seq_ct,DL.seq_bad,DL.bodyR_rt,DL.bodyR_nx,DL.bodyR_err,DL.asB_bl,DL.tru_bl,DL.iff_f,DL.iff_t,DL.leU_int,DL.ltU_int,DL.gtU_int,DL.geU_int,DL.subU_int,DL.addU_int,DL.eqU_int,DL.neU_int,DL.tuple_two,DL.mkE_one,DL.len_tup,DL.len_lst,DL.c1_one,DL.c2_two,DL.rd0,DL.rdS,DL.norm_d,DL.dat_d,DL.gFl_none,DL.gRs_none,List.set_cons_zero,List.set_cons_succ,Bool.not_true,Bool.not_false,Bool.false_eq_true,↓reduceIte,$ts,*])
| `(tactic| simp! only[$ts,*])=>`(tactic| simp only[DL.bind_ok,DL.bind_err,DL.bind_bad,DL.fl_ok,DL.fl_err,DL.fl_bad,DL.seq_nx,DL.seq_rt,DL.seq_err,DL.seq_bk,DL.seq_ct,DL.seq_bad,DL.bodyR_rt,DL.bodyR_nx,DL.bodyR_err,DL.asB_bl,DL.tru_bl,DL.iff_f,DL.iff_t,DL.leU_int,DL.ltU_int,DL.gtU_int,DL.geU_int,DL.subU_int,DL.addU_int,DL.eqU_int,DL.neU_int,DL.tuple_two,DL.mkE_one,DL.len_tup,DL.len_lst,DL.c1_one,DL.c2_two,DL.rd0,DL.rdS,DL.norm_d,DL.dat_d,DL.gFl_none,DL.gRs_none,List.set_cons_zero,List.set_cons_succ,Bool.not_true,Bool.not_false,Bool.false_eq_true,↓reduceIte,$ts,*])
namespace KL
open PySem PySem.Spec PyProof.Rows L2 DL
open He (ga ma)
open TL (tl)
def nameB (l:List Nat):Bool:=(decide (1≤l.length) && decide (l.length≤8)) && l.all fun c=>decide (c∈tl abc)
theorem nameB_iff {l:List Nat} : nameB l=true ↔ NameL l:=by
 unfold nameB NameL
 rw[Bool.and_eq_true,Bool.and_eq_true,decide_eq_true_iff,decide_eq_true_iff,List.all_eq_true]
 constructor
 ·rintro⟨⟨a,b⟩,c⟩
  exact⟨a,b,fun x hx=>abc_mem (of_decide_eq_true (c x hx))⟩
 ·rintro⟨a,b,c⟩
  exact⟨⟨a,b⟩,fun x hx=>decide_eq_true (abc_in (c x hx))⟩
def Y0:D→Bool
 | .str z=>nameB (tl z)
 | _=>false
/-- plain at its top,not too long -/
def topD:D→Prop
 | .str z=>z.length≤sizeLine
 | .obj _ _=>False
 | .ty _=>False
 | .cls _=>False
 | .tpl _=>False
 | _=>True
noncomputable def isNameF (u:U) (S:Qa):Res U:=match u with
 | .d x=>pre (topD x) (.ok (.d (.bl (Y0 x))) S)
 | .r _=>.bad
theorem all_bools (l:List Nat) (p:Nat→Bool):Xy (l.map fun c=>D.bl (p c))=some (l.map p):=by
 have:=boolsD_map (l.map p)
 rwa [List.map_map] at this
section
variable {P:Program} {w:World} {K:PySem.W.Frag} {mg:Str→Option Value} {base:Heap}
theorem V2:FnScope ["thing", "letter"] ["thing"] (defScope Vb):=⟨rfl,rfl,rfl,by decide +kernel,rfl,by decide +kernel,by decide +kernel⟩
theorem dk_is_name (T:Txt P K mg):FM P w K mg base 1 "is_name" ["thing"] (F1 isNameF):=by
 refine okM T.F_is_name V2 (fun _ _ _ _ _ _ us hl=>match us,hl with | [_],_=>rfl) F1.len (fun cdv A outer s H E hA hr=>(Qh (Q5 (PDW.pt (pdw_or (Y5 (Jd (Qo cd_isi T.m_isinstance (Qc (Qe 0 (pv 0)) (Qc (pd_ty (n := "str") T.m_str) Qg))))) (pdw_or1 (Y5 (pdt_chain od_le od_le Qi (Qo Jk T.m_len (Qc (Qe 0 (pv 0)) Qg)) (pd_gv T.c_MOST_LETTERS (fun _=>.int _))))))) (Ql (Qs pd_bl)) Qq)
 (Ql (Qs (Qo (cd_all rfl) T.m_all (Qc (pd_lc (own:=[("letter",1)]) rfl V2.nd (Yw (Qe 0 (pv 0))) (blkOk_by (own:=[("letter",1)]) (N:=["thing", "letter"]) (sc:=defScope Vb) (by decide +kernel)) (by decide) (fun _ _ _ _ _=>(Qn (i:=1) V2.nd rfl (by first | exact Or.inl rfl | exact Or.inr rfl))) (fun _ _ _ _ _=>J8) (fun _ _ _ _ _=>(pd_cmp (od_in hr) (Qe 1 (pv 1)) (pd_gv T.c_LETTERS (fun _=>.str _)) (by rfl)))) Qg)))))) (fun us S hl=>?_)
 match us,hl with
 | [.r _],_=>exact .bad _
 | [.d x],_ =>
  refine Z7 fun hx=>Ul ?_
  show Jc _=_
  rw[show Q3 (["thing", "letter"]:List Str).length [U.d x]=[some (.d x),none] from rfl]
  cases x with
  | str z =>
   have hz:z.length≤sizeLine:=hx
   have hl:lenU (.d (.str z)) S=.ok (.d (.int z.length)) S:=if_pos hz
   simp! only[isiU,isTy_str,hl]
   have hlen:z.length=(tl z).length:=TL.len_tl z
   by_cases h1:1≤z.length
   ·rw[decide_eq_true (show (1:Int)≤(z.length:Int) by omega)]
    simp! only[]
    by_cases h8:z.length≤8
    ·rw[decide_eq_true (show (z.length:Int)≤8 by omega)]
     simp! only[Z6]
     rw[lcU_map (fun u=>match u with | .d (.str y)=>.d (.bl (decide ((tl y).headD 0∈tl abc))) | u=>u) _ []]
     ·simp! only[List.nil_append,List.map_map]
      have e1:(tl z).map ((fun u=>match u with | U.d (.str y)=>U.d (.bl (decide ((tl y).headD 0∈tl abc))) | u=>u) ∘ fun c=>U.d (.str ⟨#[c]⟩))=((tl z).map fun c=>D.bl (decide (c∈tl abc))).map U.d:=by
       rw[List.map_map]; rfl
      rw[e1]
      unfold mkL
      rw[Q9]
      simp only[List.length_map]
      rw[if_pos (by omega)]
      simp! only[allU]
      rw[all_bools]
      simp! only[Y0,nameB]
      rw[decide_eq_true (show 1≤(tl z).length by omega),decide_eq_true (show (tl z).length≤8 by omega),List.all_map]
      rfl
     ·intro u hu
      obtain⟨c,hc,rfl⟩:=List.mem_map.mp hu
      exact⟨_,rfl,rfl⟩
     ·rw[List.length_map]; show 0 + (tl z).length≤sizeLine; omega
    ·rw[decide_eq_false (show ¬ (z.length:Int)≤8 by omega)]
     simp! only[Y0,nameB]
     rw[decide_eq_false (show ¬ (tl z).length≤8 by omega),Bool.and_false,Bool.false_and]
   ·rw[decide_eq_false (show ¬ (1:Int)≤(z.length:Int) by omega)]
    simp! only[Y0,nameB]
    rw[decide_eq_false (show ¬ 1≤(tl z).length by omega),Bool.false_and,Bool.false_and]
  | obj _ _=>exact hx.elim
  | ty _=>exact hx.elim
  | cls _=>exact hx.elim
  | tpl _=>exact hx.elim
  | _=>simp! only[isiU,isTy_str,Y0]
end
end KL
namespace KL
open PySem PySem.Spec PyProof.Rows L2 DL
open He (ga ma)
open TL (tl)
/-- the first of some texts that stands ahead of itself -/
def twF (pre:List Str):List Str→Option Str
 | []=>none
 | x :: r=>if x∈pre then some x else twF (pre++[x]) r
def twS (xs:List Str):Option Str:=twF [] xs
def optD:Option Str→D
 | none=>.non
 | some z=>.str z
/-- a list or a tuple of these texts -/
def SeqS (x:D) (zs:List Str):Prop:=x=.lst (zs.map .str)∨x=.tup (zs.map .str)
noncomputable def Jq (u:U) (S:Qa):Res U:=match Uv u S with
 | some zs=>pre ((∀ z∈zs,Asc z)∧LstU S (zs.map .str) u) (.ok (.d (optD (twS zs))) S)
 | none=>.bad
def Xq (d:D) (cols:List Str):Bool:=match d with
 | .tup ds=>match Jv ds with
  | some zs=>!zs.isEmpty && (zs.all (fun z=>decide (z∈cols)) && decide zs.Nodup)
  | none=>false
 | _=>false
def refD (d:D) (cols:List Str):Bool:=match d with
 | .tup [a,b]=>Xq a cols && Y0 b
 | _=>false
section
variable {P:Program} {w:World} {K:PySem.W.Frag} {mg:Str→Option Value} {base:Heap}
theorem Xi:FnScope ["names", "index", "name"] ["names"] (defScope Xw):=⟨rfl,rfl,rfl,by decide +kernel,rfl,by decide +kernel,by decide +kernel⟩
theorem U5 (T:Txt P K mg):FM P w K mg base 1 "first_twice" ["names"] (F1 Jq):=by
 refine okM T.F_first_twice Xi (fun _ _ _ _ _ _ us hl=>match us,hl with | [_],_=>rfl) F1.len (fun cdv A outer s H E hA hr=>(Qh (Jp (passes_of rfl) rfl (Yr T.m_enumerate (Qc (Qe 0 (pv 0)) Qg)) (Y7 (n:=2) rfl (Q4 (fun _ _ _ _ _ h=>h) (Qn (i:=1) Xi.nd rfl (by first | exact Or.inl rfl | exact Or.inr rfl)) (Q4 (fun _ _ _ _ _ h=>h) (Qn (i:=2) Xi.nd rfl (by first | exact Or.inl rfl | exact Or.inr rfl)) Yg))) (Ql (Q5 (Qt (od_in hr) (Qe 2 (pv 2)) (Vl sld (Qe 0 (pv 0)) Yp (Yq (Qe 1 (pv 1)))) (by rfl)) (Ql (Qs (Qe 2 (pv 2)))) Qq)))
 (Ql (Qs pd_non)))) (fun us S hl=>?_)
 match us,hl with
 | [u],_ =>
  show Qx S (Jq u S) _
  unfold Jq
  split
  ·rename_i zs hz
   refine Z7 fun ⟨ha,hu⟩=>Ul ?_
   rw[show Q3 (["names", "index", "name"]:List Str).length [u]=[some u,none,none] from rfl]
   obtain⟨g,he,hg⟩:=hu.enum
   simp! only[Uu,hu.norm,he]
   refine loopG (K:=fun f=>Jc (f.seq _)=_) (I:=fun us ρ S'=>S'=S∧∃ (pr rest:List Str) (v1 v2:Option U),us=Jo pr.length (rest.map .str)∧pr++rest=zs∧twF [] zs=twF pr rest∧ρ=[some u,v1,v2]) ?_ ?_ ?_ ?_
   ·rintro us ρ S' ⟨rfl,_⟩
    exact hg _ hu
   ·rintro t us ρ S' ⟨rfl,pr,rest,v1,v2,hus,hpr,htw,rfl⟩
    cases rest with
    | nil=>rw[List.map_nil,Yl] at hus; cases hus
    | cons z rest =>
     rw[List.map_cons,Qy] at hus
     simp only[List.cons.injEq] at hus
     obtain⟨rfl,rfl⟩:=hus
     refine⟨_,_,rfl,?_⟩
     obtain⟨y,hsl,hy⟩:=hu.sl none (some (pr.length:Int))
     have hc:cutL (zs.map D.str) none (some (pr.length:Int))=pr.map .str:=by
      rw[cut_to (by rw[List.length_map,← hpr,List.length_append]; omega),← List.map_take,← hpr,List.take_left]
     rw[hc] at hy
     have hz':Asc z:=ha z (by rw[← hpr]; simp)
     have hpre:∀ y∈pr,Asc y:=fun y hy=>ha y (by rw[← hpr]; exact List.mem_append_left _ hy)
     have hin:inU false (.d (.str z)) (.d y) S'=.ok (.d (.bl (decide (z∈pr)))) S':=by
      rcases hy with rfl | rfl
      ·rw[Uo hz' hpre]; rfl
      ·rw[in_tup hz' hpre]; rfl
     simp! only[hu.norm,Uq,hsl,hin]
     have htw':twF [] zs=if z∈pr then some z else twF (pr++[z]) rest:=htw
     by_cases hm:z∈pr
     ·rw[if_pos hm] at htw'
      simp only[decide_eq_true hm,bind_ok,bind_err,bind_bad,fl_ok,fl_err,fl_bad,seq_nx,seq_rt,seq_err,seq_bk,seq_ct,seq_bad,bodyR_rt,bodyR_nx,bodyR_err,asB_bl,tru_bl,iff_f,iff_t,leU_int,ltU_int,gtU_int,geU_int,subU_int,addU_int,eqU_int,neU_int,tuple_two,mkE_one,len_tup,len_lst,c1_one,c2_two,rd0,rdS,norm_d,dat_d,gFl_none,gRs_none,List.set_cons_zero,List.set_cons_succ,Bool.not_true,Bool.not_false,Bool.false_eq_true,↓reduceIte]
      unfold twS
      rw[htw']
      rfl
     ·rw[if_neg hm] at htw'
      simp only[decide_eq_false hm,bind_ok,bind_err,bind_bad,fl_ok,fl_err,fl_bad,seq_nx,seq_rt,seq_err,seq_bk,seq_ct,seq_bad,bodyR_rt,bodyR_nx,bodyR_err,asB_bl,tru_bl,iff_f,iff_t,leU_int,ltU_int,gtU_int,geU_int,subU_int,addU_int,eqU_int,neU_int,tuple_two,mkE_one,len_tup,len_lst,c1_one,c2_two,rd0,rdS,norm_d,dat_d,gFl_none,gRs_none,List.set_cons_zero,List.set_cons_succ,Bool.not_true,Bool.not_false,Bool.false_eq_true,↓reduceIte]
      exact⟨trivial,pr++[z],rest,_,_,by rw[List.length_append]; rfl,by rw[List.append_assoc]; exact hpr,htw',rfl⟩
   ·rintro ρ S' ⟨rfl,pr,rest,v1,v2,hus,hpr,htw,rfl⟩
    have hr0:rest=[]:=by
     cases rest with
     | nil=>rfl
     | cons _ _=>rw[List.map_cons,Qy] at hus; cases hus
    subst hr0
    simp! only[]
    unfold twS
    rw[htw]
    rfl
   ·exact⟨rfl,[],zs,_,_,rfl,rfl,rfl,rfl⟩
  ·exact .bad _
/-- what are_columns asks -/
structure ColsPre (x y:D) (cols:List Str):Prop where
 top:topD x
 sq:SeqS y cols
 asc:∀ z∈cols,Asc z
 few:∀ ds,x=.tup ds→ds.length≤1000
 tops:∀ ds,x=.tup ds→∀ d∈ds,topD d∧∀ z,d=.str z→Asc z
noncomputable def Xj (a b:U) (S:Qa):Res U:=match a,b with
 | .d x,.d y=>match Uv (.d y) S with
  | some cols=>pre (ColsPre x y cols) (.ok (.d (.bl (Xq x cols))) S)
  | none=>.bad
 | _,_=>.bad
def colB (cols:List Str):D→Bool
 | .str z=>decide (z∈cols)
 | _=>false
theorem cols_strs {cols:List Str} : ∀ ds:List D,ds.all (colB cols)=match Jv ds with | some zs=>zs.all fun z=>decide (z∈cols) | none=>false
 | []=>rfl
 | d :: t=>by
  rw[List.all_cons,cols_strs t]
  cases d with
  | str z =>
   rw[show Jv (D.str z :: t)=(Jv t).map (z :: ·) from rfl]
   cases Jv t with
   | none=>exact Bool.and_false _
   | some zs=>rfl
  | _=>rfl
theorem in_seq {neg:Bool} {y:D} {x:Str} {zs:List Str} (sq:SeqS y zs) (hx:Asc x) (h:∀ z∈zs,Asc z) (S:Qa):inU neg (.d (.str x)) (.d y) S=.ok (.d (.bl (inB neg (decide (x∈zs))))) S:=by
 rcases sq with rfl | rfl
 ·exact Uo hx h S
 ·exact in_tup hx h S
theorem Xk:FnScope ["thing", "columns", "column"] ["thing", "columns"] (defScope Zr):=⟨rfl,rfl,rfl,by decide +kernel,rfl,by decide +kernel,by decide +kernel⟩
theorem U6 (T:Txt P K mg):FM P w K mg base 1 "are_columns" ["thing", "columns"] (F2 Xj):=by
 refine okM T.F_are_columns Xk (fun _ _ _ _ _ _ us hl=>match us,hl with | [_,_],_=>rfl) F2.len (fun cdv A outer s H E hA hr=>(Qh (Q5 (PDW.pt (pdw_or (Y5 (Jd (Qo cd_isi T.m_isinstance (Qc (Qe 0 (pv 0)) (Qc (pd_ty (n := "tuple") T.m_tuple) Qg))))) (pdw_or1 (Y5 (Jd (Qe 0 (pv 0))))))) (Ql (Qs pd_bl)) Qq)
 (Qh (Q5 (Y5 (Jd (Qo (cd_all rfl) T.m_all (Qc (pd_lc (own:=[("column",2)]) rfl Xk.nd (Yw (Qe 0 (pv 0))) (blkOk_by (own:=[("column",2)]) (N:=["thing", "columns", "column"]) (sc:=defScope Zr) (by decide +kernel)) (by decide) (fun _ _ _ _ _=>(Qn (i:=2) Xk.nd rfl (by first | exact Or.inl rfl | exact Or.inr rfl))) (fun _ _ _ _ _=>J8) (fun _ _ _ _ _=>(pd_and (Qo cd_isi T.m_isinstance (Qc (Qe 2 (pv 2)) (Qc (pd_ty (n := "str") T.m_str) Qg))) (pd_one (pd_cmp (od_in hr) (Qe 2 (pv 2)) (Qe 1 (pv 1)) (by rfl)))))) Qg)))) (Ql (Qs pd_bl)) Qq)
 (Ql (Qs (pd_cmp (Xo hr) (pd_lenSet T.m_len T.m_set (Qe 0 (pv 0))) (Qo Jk T.m_len (Qc (Qe 0 (pv 0)) Qg)) (nomark _))))))) (fun us S hl=>?_)
 match us,hl with
 | [.r _,_],_=>exact .bad _
 | [.d _,.r _],_=>exact .bad _
 | [.d x,.d y],_ =>
  show Qx S (Xj (.d x) (.d y) S) _
  unfold Xj
  simp only
  split
  ·rename_i cols hcols
   refine Z7 fun hp=>Ul ?_
   show Jc _=_
   rw[show Q3 (["thing", "columns", "column"]:List Str).length [U.d x,U.d y]=[some (.d x),some (.d y),none] from rfl]
   have htop:=hp.top
   cases x with
   | obj _ _=>exact htop.elim
   | ty _=>exact htop.elim
   | cls _=>exact htop.elim
   | tpl _=>exact htop.elim
   | tup ds =>
    have hlen:=hp.few ds rfl
    have htops:=hp.tops ds rfl
    have ht:truU (.d (.tup ds)) S=.ok (!ds.isEmpty) S:=rfl
    simp! only[isiU,isTy_tup,ht]
    cases hds:ds.isEmpty with
    | true =>
     simp! only[]
     obtain rfl:=List.isEmpty_iff.mp hds
     rfl
    | false =>
     simp! only[Z6]
     rw[lcU_map (fun u=>match u with | .d d=>.d (.bl (colB cols d)) | u=>u) _ []]
     ·have e1:(ds.map U.d).map (fun u=>match u with | .d d=>U.d (.bl (colB cols d)) | u=>u)=(ds.map fun d=>D.bl (colB cols d)).map U.d:=by
       rw[List.map_map,List.map_map]; rfl
      have e2:Xy (ds.map fun d=>D.bl (colB cols d))=some (ds.map (colB cols)):=by
       have:=boolsD_map (ds.map (colB cols))
       rwa [List.map_map] at this
      simp! only[List.nil_append,e1,mkL,Q9,List.length_map,sz10 hlen,if_true,allU,e2]
      have e3:(ds.map (colB cols)).all id=ds.all (colB cols):=by rw[List.all_map]; rfl
      rw[e3,cols_strs]
      show _=Res.ok (U.d (D.bl (match Jv ds with | some zs=>!zs.isEmpty && (zs.all (fun z=>decide (z∈cols)) && decide zs.Nodup) | none=>false))) S
      cases hs:Jv ds with
      | none=>simp! only[]
      | some zs =>
       have hzl:zs.length=ds.length:=by rw[Ys hs,List.length_map]
       have hne:zs.isEmpty=false:=by
        cases zs with
        | nil=>rw[Ys hs] at hds; cases hds
        | cons _ _=>rfl
       simp only[hne]
       rcases Bool.eq_false_or_eq_true (zs.all fun z=>decide (z∈cols)) with hal | hal
       rotate_left
       ·simp only[hal,bind_ok,bind_err,bind_bad,fl_ok,fl_err,fl_bad,seq_nx,seq_rt,seq_err,seq_bk,seq_ct,seq_bad,bodyR_rt,bodyR_nx,bodyR_err,asB_bl,tru_bl,iff_f,iff_t,leU_int,ltU_int,gtU_int,geU_int,subU_int,addU_int,eqU_int,neU_int,tuple_two,mkE_one,len_tup,len_lst,c1_one,c2_two,rd0,rdS,norm_d,dat_d,gFl_none,gRs_none,List.set_cons_zero,List.set_cons_succ,Bool.not_true,Bool.not_false,Bool.false_eq_true,↓reduceIte,Bool.false_and,Bool.and_false]
       ·have hls:lenSetU (.d (.tup ds)) S=.ok (.d (.int (WT.dcn zs zs.length:Nat))) S:=by
         unfold lenSetU
         simp only[hs]
         rw[if_pos (by omega)]
        simp only[hal,bind_ok,bind_err,bind_bad,fl_ok,fl_err,fl_bad,seq_nx,seq_rt,seq_err,seq_bk,seq_ct,seq_bad,bodyR_rt,bodyR_nx,bodyR_err,asB_bl,tru_bl,iff_f,iff_t,leU_int,ltU_int,gtU_int,geU_int,subU_int,addU_int,eqU_int,neU_int,tuple_two,mkE_one,len_tup,len_lst,c1_one,c2_two,rd0,rdS,norm_d,dat_d,gFl_none,gRs_none,List.set_cons_zero,List.set_cons_succ,Bool.not_true,Bool.not_false,Bool.false_eq_true,↓reduceIte,hls,Bool.true_and]
        have hn:=WT.dcn_iff zs _ (Nat.le_refl _)
        rw[List.take_length] at hn
        have:decide ((WT.dcn zs zs.length:Int)=(ds.length:Int))=decide zs.Nodup:=decide_eq_decide.mpr ⟨fun h=>hn.mp (by omega),fun h=>by have:=hn.mpr h; omega⟩
        rw[this]
     ·intro u hu
      obtain⟨d,hd,rfl⟩:=List.mem_map.mp hu
      obtain⟨h1,h2⟩:=htops d hd
      refine⟨_,rfl,?_⟩
      cases d with
      | obj _ _=>exact h1.elim
      | ty _=>exact h1.elim
      | cls _=>exact h1.elim
      | tpl _=>exact h1.elim
      | str z =>
       have hi:=in_seq (neg:=false) hp.sq (h2 z rfl) hp.asc S
       simp only[Yn,List.map,bind_ok,bind_err,bind_bad,fl_ok,fl_err,fl_bad,seq_nx,seq_rt,seq_err,seq_bk,seq_ct,seq_bad,bodyR_rt,bodyR_nx,bodyR_err,asB_bl,tru_bl,iff_f,iff_t,leU_int,ltU_int,gtU_int,geU_int,subU_int,addU_int,eqU_int,neU_int,tuple_two,mkE_one,len_tup,len_lst,c1_one,c2_two,rd0,rdS,norm_d,dat_d,gFl_none,gRs_none,List.set_cons_zero,List.set_cons_succ,Bool.not_true,Bool.not_false,Bool.false_eq_true,↓reduceIte,isiU,isTy_str,hi]
       rfl
      | _=>simp only[Yn,List.map,bind_ok,bind_err,bind_bad,fl_ok,fl_err,fl_bad,seq_nx,seq_rt,seq_err,seq_bk,seq_ct,seq_bad,bodyR_rt,bodyR_nx,bodyR_err,asB_bl,tru_bl,iff_f,iff_t,leU_int,ltU_int,gtU_int,geU_int,subU_int,addU_int,eqU_int,neU_int,tuple_two,mkE_one,len_tup,len_lst,c1_one,c2_two,rd0,rdS,norm_d,dat_d,gFl_none,gRs_none,List.set_cons_zero,List.set_cons_succ,Bool.not_true,Bool.not_false,Bool.false_eq_true,↓reduceIte,isiU,isTy_str]; rfl
     ·rw[List.length_map]; show 0 + ds.length≤sizeLine; have:=sz10 hlen; omega
   | _=>simp! only[isiU,isTy_tup,Xq]
  ·exact .bad _
theorem txts_seq {y:D} {cols:List Str} (h:SeqS y cols) (S:Qa):Uv (.d y) S=some cols:=by
 rcases h with rfl | rfl<;>exact Yc cols
theorem cols_call {x y:D} {cols:List Str} (h:ColsPre x y cols) (S:Qa):Xj (.d x) (.d y) S=.ok (.d (.bl (Xq x cols))) S:=by
 unfold Xj
 simp only[txts_seq h.sq]
 exact Zu h
theorem name_call {x:D} (h:topD x) (S:Qa):isNameF (.d x) S=.ok (.d (.bl (Y0 x))) S:=Zu h
structure RefPre (x y:D) (cols:List Str):Prop where
 top:topD x
 sq:SeqS y cols
 asc:∀ z∈cols,Asc z
 two:∀ a b,x=.tup [a,b]→ColsPre a y cols∧topD b
noncomputable def isRefF (a b:U) (S:Qa):Res U:=match a,b with
 | .d x,.d y=>match Uv (.d y) S with
  | some cols=>pre (RefPre x y cols) (.ok (.d (.bl (refD x cols))) S)
  | none=>.bad
 | _,_=>.bad
theorem ref_call {x y:D} {cols:List Str} (h:RefPre x y cols) (S:Qa):isRefF (.d x) (.d y) S=.ok (.d (.bl (refD x cols))) S:=by
 unfold isRefF
 simp only[txts_seq h.sq]
 exact Zu h
theorem refD_ne {ds:List D} {cols:List Str} (h:ds.length ≠ 2):refD (.tup ds) cols=false:=by
 match ds,h with
 | [],_=>rfl
 | [_],_=>rfl
 | [_,_],h=>exact absurd rfl h
 | _ :: _ :: _ :: _,_=>rfl
theorem F1_one (f:U→Qa→Res U) (a:U) (S:Qa):F1 f [a] S=f a S:=rfl
theorem F2_two (f:U→U→Qa→Res U) (a b:U) (S:Qa):F2 f [a,b] S=f a b S:=rfl
theorem sc_is_reference:FnScope ["thing", "columns"] ["thing", "columns"] (defScope Z9):=⟨rfl,rfl,rfl,by decide +kernel,rfl,by decide +kernel,by decide +kernel⟩
theorem dk_is_reference (T:Txt P K mg):FM P w K mg base 2 "is_reference" ["thing", "columns"] (F2 isRefF):=by
 have F_are_columns:FM P w K mg base 1 "are_columns" ["thing", "columns"] (F2 Xj):=U6 T
 have F_is_name:FM P w K mg base 1 "is_name" ["thing"] (F1 isNameF):=dk_is_name T
 refine okM T.F_is_reference sc_is_reference (fun _ _ _ _ _ _ us hl=>match us,hl with | [_,_],_=>rfl) F2.len (fun cdv A outer s H E hA hr=>(Qh (Q5 (PDW.pt (pdw_or (Y5 (Jd (Qo cd_isi T.m_isinstance (Qc (Qe 0 (pv 0)) (Qc (pd_ty (n := "tuple") T.m_tuple) Qg))))) (pdw_or1 (Qt (od_ne hr) (Qo Jk T.m_len (Qc (Qe 0 (pv 0)) Qg)) Qi (nomark _))))) (Ql (Qs pd_bl)) Qq)
 (Ql (Qs (pd_and (Qp hA F_are_columns (hr.mono (by decide)) (takes_of rfl rfl rfl rfl) (Qc (Qw ixd (Qe 0 (pv 0)) Qi) (Qc (Qe 1 (pv 1)) Qg))) (pd_one (Qp hA F_is_name (hr.mono (by decide)) (takes_of rfl rfl rfl rfl) (Qc (Qw ixd (Qe 0 (pv 0)) Qi) Qg)))))))) (fun us S hl=>?_)
 match us,hl with
 | [.r _,_],_=>exact .bad _
 | [.d _,.r _],_=>exact .bad _
 | [.d x,.d y],_ =>
  show Qx S (isRefF (.d x) (.d y) S) _
  unfold isRefF
  simp only
  split
  ·rename_i cols hcols
   refine Z7 fun hp=>Ul ?_
   show Jc _=_
   rw[show Q3 (["thing", "columns"]:List Str).length [U.d x,U.d y]=[some (.d x),some (.d y)] from rfl]
   have htop:=hp.top
   cases x with
   | obj _ _=>exact htop.elim
   | ty _=>exact htop.elim
   | cls _=>exact htop.elim
   | tpl _=>exact htop.elim
   | tup ds =>
    simp! only[isiU,isTy_tup]
    by_cases h2:ds.length=2
    ·match ds,h2 with
     | [a,b],_ =>
      obtain⟨h3,h4⟩:=hp.two a b rfl
      have i0:ixU (.d (.tup [a,b])) (.d (.int 0)) S=.ok (.d a) S:=rfl
      have i1:ixU (.d (.tup [a,b])) (.d (.int 1)) S=.ok (.d b) S:=rfl
      have hd:(!decide ((([a,b]:List D).length:Int)=2))=false:=rfl
      simp only[hd,bind_ok,bind_err,bind_bad,fl_ok,fl_err,fl_bad,seq_nx,seq_rt,seq_err,seq_bk,seq_ct,seq_bad,bodyR_rt,bodyR_nx,bodyR_err,asB_bl,tru_bl,iff_f,iff_t,leU_int,ltU_int,gtU_int,geU_int,subU_int,addU_int,eqU_int,neU_int,tuple_two,mkE_one,len_tup,len_lst,c1_one,c2_two,rd0,rdS,norm_d,dat_d,gFl_none,gRs_none,List.set_cons_zero,List.set_cons_succ,Bool.not_true,Bool.not_false,Bool.false_eq_true,↓reduceIte,i0,i1,F1_one,F2_two,cols_call h3,name_call h4]
      show _=Res.ok (U.d (D.bl (Xq a cols && Y0 b))) S
      cases Xq a cols<;>rfl
    ·have hd:(!decide ((ds.length:Int)=2))=true:=by rw[decide_eq_false (by omega)]; rfl
     simp only[hd,bind_ok,bind_err,bind_bad,fl_ok,fl_err,fl_bad,seq_nx,seq_rt,seq_err,seq_bk,seq_ct,seq_bad,bodyR_rt,bodyR_nx,bodyR_err,asB_bl,tru_bl,iff_f,iff_t,leU_int,ltU_int,gtU_int,geU_int,subU_int,addU_int,eqU_int,neU_int,tuple_two,mkE_one,len_tup,len_lst,c1_one,c2_two,rd0,rdS,norm_d,dat_d,gFl_none,gRs_none,List.set_cons_zero,List.set_cons_succ,Bool.not_true,Bool.not_false,Bool.false_eq_true,↓reduceIte,refD_ne h2]
   | _=>simp! only[isiU,isTy_tup,refD]
  ·exact .bad _
end
end KL
namespace KL
open PySem PySem.Spec PyProof.Rows L2 DL
open He (ga ma)
open TL (tl)
def keyS:D→List Str
 | .tup ds=>(Jv ds).getD []
 | _=>[]
def keyF (cols:List Str) (met:List (List Str)) (i:Nat):List D→Option Nat
 | []=>none
 | k :: r=>if (!Xq k cols || met.any fun m=>decide (m.Perm (keyS k)))=true then some i else keyF cols (met++[keyS k]) (i + 1) r
theorem keyF_cons (cols:List Str) (met:List (List Str)) (i:Nat) (k:D) (r:List D):keyF cols met i (k :: r)=if (!Xq k cols || met.any fun m=>decide (m.Perm (keyS k)))=true then some i else keyF cols (met++[keyS k]) (i + 1) r:=rfl
def refF (cols:List Str) (i:Nat):List D→Option Nat
 | []=>none
 | r :: t=>if (!refD r cols)=true then some i else refF cols (i + 1) t
theorem refF_cons (cols:List Str) (i:Nat) (r:D) (t:List D):refF cols i (r :: t)=if (!refD r cols)=true then some i else refF cols (i + 1) t:=rfl
def V3 (cs:List D):List Str:=(Jv cs).getD []
/-- the error that is due,its field,what it holds -/
def layD (n:D) (cs ks rs:List D):Option (Str × Str × D) :=
 match (n :: cs).find? (fun d=>!Y0 d) with
 | some d=>some ("BadName", "name",d)
 | none=>match twS (V3 cs) with
  | some z=>some ("Twice", "name",.str z)
  | none=>if 5 < cs.length then some ("TooMany", "limit",.int 5) else if 2 < rs.length then some ("TooMany", "limit",.int 2) else
   match keyF (V3 cs) [] 0 ks with
   | some i=>some ("BadKey", "index",.int i)
   | none=>match refF (V3 cs) 0 rs with
    | some i=>some ("BadReference", "index",.int i)
    | none=>none
def layF (n:D) (cs ks rs:List D):List (Str × U) :=
 [("name",.d n),("columns",.d (.tup cs)),("all_keys",.d (.tup (if ks=[] then [.tup cs] else ks))),("key",.d ((if ks=[] then [.tup cs] else ks).headD .non)),("refers",.d (.tup rs))]
def Xr:D→List D
 | .lst ds=>ds
 | .tup ds=>ds
 | _=>[]
/-- a list or a tuple of these -/
def SeqD (x:D) (ds:List D):Prop:=x=.lst ds∨x=.tup ds
structure SeqN (x:D):Prop where
 sq:SeqD x (Xr x)
 ni:∀ d∈Xr x,J9 d=true
 le:(Xr x).length≤1000
structure LayPre (n c k r:D):Prop where
 n:J9 n=true
 c:SeqN c
 k:SeqN k
 r:SeqN r
def layR (m:Nat) (n:D) (cs ks rs:List D) (S:Qa):Res U:=match layD n cs ks rs with
 | some (e,f,d)=>.err e [(f,d)] S
 | none=>.ok (.d .non) (S.set m (.obj "Layout" (layF n cs ks rs)))
/-- a list,a tuple or a list that still changes: its data -/
def Zh (u:U) (S:Qa):List D:=match dat u S with
 | some (.lst ds)=>ds
 | some (.tup ds)=>ds
 | _=>[]
theorem lst_of {S:Qa} {ds:List D} {u:U} (h:LstU S ds u):Zh u S=ds:=by
 unfold Zh
 rcases h.datC with e | e<;>rw[e]
structure Vm (S:Qa) (u:U) (ds:List D):Prop where
 sq:LstU S ds u
 ni:∀ d∈ds,J9 d=true
 le:ds.length≤1000
structure LayPreU (S:Qa) (n:D) (c k r:U):Prop where
 n:J9 n=true
 c:Vm S c (Zh c S)
 k:Vm S k (Zh k S)
 r:Vm S r (Zh r S)
noncomputable def initF (a n c k r:U) (S:Qa):Res U:=match a,n with
 | .r m,.d n=>pre (LayPreU S n c k r∧S[m]?=some (.obj "Layout" [])) (layR m n (Zh c S) (Zh k S) (Zh r S) S)
 | _,_=>.bad
theorem SeqN.u {x:D} (h:SeqN x) (S:Qa):Vm S (.d x) (Xr x)∧Zh (.d x) S=Xr x:=by
 have e:LstU S (Xr x) (.d x):=by
  have hs:=h.sq
  generalize Xr x=ds at hs
  rcases hs with rfl | rfl
  ·exact .lst
  ·exact .tup
 exact⟨⟨e,h.ni,h.le⟩,lst_of e⟩
theorem init_call {S:Qa} {m:Nat} {n:D} {c k r:U} {cs ks rs:List D} (hn:J9 n=true) (hc:Vm S c cs) (hk:Vm S k ks) (hr:Vm S r rs) (hS:S[m]?=some (.obj "Layout" [])):initF (.r m) (.d n) c k r S=layR m n cs ks rs S:=by
 have e1:=lst_of hc.sq
 have e2:=lst_of hk.sq
 have e3:=lst_of hr.sq
 have:=Zu (r:=layR m n (Zh c S) (Zh k S) (Zh r S) S) (show LayPreU S n c k r∧S[m]?=some (.obj "Layout" []) from ⟨⟨hn,by rw[e1]; exact hc,by rw[e2]; exact hk,by rw[e3]; exact hr⟩,hS⟩)
 rw[show initF (.r m) (.d n) c k r S=pre (LayPreU S n c k r∧S[m]?=some (.obj "Layout" [])) (layR m n (Zh c S) (Zh k S) (Zh r S) S) from rfl,this,e1,e2,e3]
theorem init_data {S:Qa} {m:Nat} {n c k r:D} (h:LayPre n c k r) (hS:S[m]?=some (.obj "Layout" [])):initF (.r m) (.d n) (.d c) (.d k) (.d r) S=layR m n (Xr c) (Xr k) (Xr r) S :=
 init_call h.n (h.c.u S).1 (h.k.u S).1 (h.r.u S).1 hS
theorem Xl {S g:Qa} {m:Nat} {ds:List D} {u:U} {c:Str} {fs:List (Str × U)} (h:LstU S ds u) (hm:S[m]?=some (.obj c fs)) (x:Cell):LstU (S.set m x++g) ds u:=by
 cases h with
 | lst=>exact .lst
 | tup=>exact .tup
 | @cell j e =>
  have hne:m ≠ j:=fun z=>by subst z; rw[hm] at e; cases e
  refine .cell ?_
  rw[List.getElem?_append_left (by rw[List.length_set]; exact (List.getElem?_eq_some_iff.mp e).1),List.getElem?_set_ne hne]
  exact e
theorem U7 {d:D} (h:J9 d=true):topD d:=by
 cases d with
 | str z=>exact Nat.le_trans (X7.mp h).2 (by rw[sizeLine_eq]; decide)
 | obj _ _=>cases h
 | ty _=>cases h
 | cls _=>cases h
 | tpl _=>cases h
 | _=>trivial
theorem cols_pre {x y:D} {cols:List Str} (h:J9 x=true) (sq:SeqS y cols) (ha:∀ z∈cols,Asc z):ColsPre x y cols:=by
 refine⟨U7 h,sq,ha,fun ds e=>?_,fun ds e d hd=>?_⟩
 ·subst e; have:=(Xe.mp h).1; omega
 ·subst e
  have hn:=(Xe.mp h).2 d hd
  exact⟨U7 hn,fun z e=>by subst e; exact (X7.mp hn).1⟩
theorem ref_pre {x y:D} {cols:List Str} (h:J9 x=true) (sq:SeqS y cols) (ha:∀ z∈cols,Asc z):RefPre x y cols:=by
 refine⟨U7 h,sq,ha,fun a b e=>?_⟩
 subst e
 have hn:=(Xe.mp h).2
 exact⟨cols_pre (hn a (by simp)) sq ha,U7 (hn b (by simp))⟩
theorem colsD_tup {d:D} {cols:List Str} (h:Xq d cols=true):∃ zs:List Str,d=.tup (zs.map .str)∧keyS d=zs∧∀ z∈zs,z∈cols:=by
 cases d with
 | tup ds =>
  have h':(match Jv ds with | some zs=>!zs.isEmpty && (zs.all (fun z=>decide (z∈cols)) && decide zs.Nodup) | none=>false)=true:=h
  cases hs:Jv ds with
  | none=>rw[hs] at h'; cases h'
  | some zs =>
   rw[hs] at h'
   simp only[Bool.and_eq_true] at h'
   refine⟨zs,by rw[Ys hs],?_,fun z hz=>of_decide_eq_true (List.all_eq_true.mp h'.2.1 z hz)⟩
   show (Jv ds).getD []=zs
   rw[hs]; rfl
 | _=>cases h
theorem sort_call {zs:List Str} (h:zs.length < 64) (S:Qa):sortU (.d (.tup (zs.map .str))) S=.ok (.d (.lst ((Ju zs).map .str))) S:=by
 unfold sortU
 rw[dat_d]
 simp only[Yc]
 exact if_pos h
theorem Jm (S:Qa) (c:Cell):(S++[c])[S.length]?=some c:=by rw[List.getElem?_append_right (Nat.le_refl _),Nat.sub_self]; rfl
theorem Xu (S:Qa) (c c':Cell):(S++[c]).set S.length c'=S++[c']:=by rw[List.set_append_right _ _ (Nat.le_refl _),Nat.sub_self]; rfl
theorem at_old {S g:Qa} {m:Nat} {c:Cell} (h:S[m]?=some c):(S++g)[m]?=some c:=by rw[List.getElem?_append_left (List.getElem?_eq_some_iff.mp h).1]; exact h
theorem set_old {S g:Qa} {m:Nat} {c:Cell} (h:S[m]?=some c) (c':Cell):(S++g).set m c'=S.set m c'++g:=List.set_append_left _ _ (List.getElem?_eq_some_iff.mp h).1
theorem shr_set {S:Qa} {m:Nat} {c:Cell} (h:c.below S.length):Shr S (S.set m c):=by
 refine⟨List.length_set,fun n c' hc=>?_⟩
 by_cases hn:m=n
 ·subst hn
  have hl:m < S.length:=by have:=(List.getElem?_eq_some_iff.mp hc).1; rwa [List.length_set] at this
  rw[List.getElem?_set_self hl] at hc
  obtain rfl:=Option.some.inj hc
  exact .inr h
 ·rw[List.getElem?_set_ne hn] at hc
  exact .inl hc
theorem norm_lst {S:Qa} {n:Nat} {us:List U} (h:S[n]?=some (.lst us)):norm S (.r n)=.r n:=by simp only[norm,h]
theorem norm_obj {S:Qa} {n:Nat} {c:Str} {fs:List (Str × U)} (h:S[n]?=some (.obj c fs)):norm S (.r n)=.r n:=by simp only[norm,h]
theorem Zx {S:Qa} {n:Nat} {x:D} (h:S[n]?=some (.frz x)):norm S (.r n)=.d x:=by simp only[norm,h]
section
variable {P:Program} {w:World} {K:PySem.W.Frag} {mg:Str→Option Value} {base:Heap}
theorem Qz:FnScope ["self", "name", "columns", "keys", "refers", "word", "twice", "found", "index", "key", "one", "reference"] ["self", "name", "columns", "keys", "refers"] (defScope Qu):=⟨rfl,rfl,rfl,by decide +kernel,rfl,by decide +kernel,by decide +kernel⟩
theorem dk_init (T:Txt P K mg) {fd:FuncData} {kws:List (Str × V)} (F:FunD K "__init__" "Layout.__init__" (defArgs Qu) (defBody Qu) (defScope Qu) [] kws (ma K (ga K "Layout") "__init__") fd) :
  FnG P w K mg base (L2.CX P w) 3 (ma K (ga K "Layout") "__init__") fd ["self", "name", "columns", "keys", "refers"] (spD K 5 (F5 initF)):=by
 have F_is_name:FM P w K mg base 1 "is_name" ["thing"] (F1 isNameF):=dk_is_name T
 have F_first_twice:FM P w K mg base 1 "first_twice" ["names"] (F1 Jq):=U5 T
 have F_are_columns:FM P w K mg base 1 "are_columns" ["thing", "columns"] (F2 Xj):=U6 T
 have F_is_reference:FM P w K mg base 2 "is_reference" ["thing", "columns"] (F2 isRefF):=dk_is_reference T
 refine okG (N:=["self", "name", "columns", "keys", "refers", "word", "twice", "found", "index", "key", "one", "reference"]) F Qz (fun cdv A outer s H E hA hr=>(Qh (Jp (passes_of rfl) rfl (Yw (Xb (Qc (Qe 1 (pv 1)) (pda_star (Qe 2 (pv 2)) Qg)))) (Qn (i:=5) Qz.nd rfl (by first | exact Or.inl rfl | exact Or.inr rfl)) (Ql (Q5 (Y5 (Jd (Qp hA F_is_name (hr.mono (by decide)) (takes_of rfl rfl rfl rfl) (Qc (Qe 5 (pv 5)) Qg)))) (Ql (Yb rfl T.e_BadName hr (takes_of rfl rfl rfl rfl) (Qc (Qe 5 (pv 5)) Qg) (by rfl) (by decide) (fun h=>Jl rfl T.e_BadName hr (takes_of rfl rfl rfl rfl) h))) Qq)))
 (Qh (Q6 (i:=6) Qz.nd rfl (by first | exact Or.inl rfl | exact Or.inr rfl) (Qp hA F_first_twice (hr.mono (by decide)) (takes_of rfl rfl rfl rfl) (Qc (Qe 2 (pv 2)) Qg)))
 (Qh (Q5 (Qt od_isnot (Qe 6 (pv 6)) pd_non (nomark _)) (Ql (Yb rfl T.e_Twice hr (takes_of rfl rfl rfl rfl) (Qc (Qe 6 (pv 6)) Qg) (by rfl) (by decide) (fun h=>Jl rfl T.e_Twice hr (takes_of rfl rfl rfl rfl) h))) Qq)
 (Qh (Q5 (Qt od_gt (Qo Jk T.m_len (Qc (Qe 2 (pv 2)) Qg)) (pd_gv T.c_MOST_COLUMNS (fun _=>.int _)) (nomark _)) (Ql (Yb rfl T.e_TooMany hr (takes_of rfl rfl rfl rfl) (Qc (pd_gv T.c_MOST_COLUMNS (fun _=>.int _)) Qg) (by rfl) (by decide) (fun h=>Jl rfl T.e_TooMany hr (takes_of rfl rfl rfl rfl) h))) Qq)
 (Qh (Q5 (Qt od_gt (Qo Jk T.m_len (Qc (Qe 4 (pv 4)) Qg)) (pd_gv T.c_MOST_REFERENCES (fun _=>.int _)) (nomark _)) (Ql (Yb rfl T.e_TooMany hr (takes_of rfl rfl rfl rfl) (Qc (pd_gv T.c_MOST_REFERENCES (fun _=>.int _)) Qg) (by rfl) (by decide) (fun h=>Jl rfl T.e_TooMany hr (takes_of rfl rfl rfl rfl) h))) Qq)
 (Qh (Q6 (i:=7) Qz.nd rfl (by first | exact Or.inl rfl | exact Or.inr rfl) (Uk Qg))
 (Qh (Jp (passes_of rfl) rfl (Yr T.m_enumerate (Qc (Qe 3 (pv 3)) Qg)) (Y7 (n:=2) rfl (Q4 (fun _ _ _ _ _ h=>h) (Qn (i:=8) Qz.nd rfl (by first | exact Or.inl rfl | exact Or.inr rfl)) (Q4 (fun _ _ _ _ _ h=>h) (Qn (i:=9) Qz.nd rfl (by first | exact Or.inl rfl | exact Or.inr rfl)) Yg))) (Qh (Q5 (PDW.pt (pdw_or (Y5 (Jd (Qp hA F_are_columns (hr.mono (by decide)) (takes_of rfl rfl rfl rfl) (Qc (Qe 9 (pv 9)) (Qc (Q8 Yj T.m_tuple (Qc (Qe 2 (pv 2)) Qg)) Qg))))) (pdw_or1 (Qt (od_in hr) (Qo cd_sorted T.m_sorted (Qc (Qe 9 (pv 9)) Qg)) (pd_lc (own:=[("one",10)]) rfl Qz.nd (Yw (Qe 7 (pv 7))) (blkOk_by (own:=[("one",10)]) (N:=["self", "name", "columns", "keys", "refers", "word", "twice", "found", "index", "key", "one", "reference"]) (sc:=defScope Qu) (by decide +kernel)) (by decide) (fun _ _ _ _ _=>(Qn (i:=10) Qz.nd rfl (by first | exact Or.inl rfl | exact Or.inr rfl))) (fun _ _ _ _ _=>J8) (fun _ _ _ _ _=>(Qo cd_sorted T.m_sorted (Qc (Qe 10 (pv 10)) Qg)))) (by rfl))))) (Ql (Yb rfl T.e_BadKey hr (takes_of rfl rfl rfl rfl) (Qc (Qe 8 (pv 8)) Qg) (by rfl) (by decide) (fun h=>Jl rfl T.e_BadKey hr (takes_of rfl rfl rfl rfl) h))) Qq)
 (Ql (Y8 (Uw PySem.F.plainAttrs_list PySem.F.slot_list_append PySem.F.type_list_append Yz (Qe 7 (pv 7)) (Qc (Qe 9 (pv 9)) Qg))))))
 (Zw 7 (Qh (Jp (passes_of rfl) rfl (Yr T.m_enumerate (Qc (Qe 4 (pv 4)) Qg)) (Y7 (n:=2) rfl (Q4 (fun _ _ _ _ _ h=>h) (Qn (i:=8) Qz.nd rfl (by first | exact Or.inl rfl | exact Or.inr rfl)) (Q4 (fun _ _ _ _ _ h=>h) (Qn (i:=11) Qz.nd rfl (by first | exact Or.inl rfl | exact Or.inr rfl)) Yg))) (Ql (Q5 (Y5 (Jd (Qp hA F_is_reference (hr.mono (by decide)) (takes_of rfl rfl rfl rfl) (Qc (Qe 11 (pv 11)) (Qc (Q8 Yj T.m_tuple (Qc (Qe 2 (pv 2)) Qg)) Qg))))) (Ql (Yb rfl T.e_BadReference hr (takes_of rfl rfl rfl rfl) (Qc (Qe 8 (pv 8)) Qg) (by rfl) (by decide) (fun h=>Jl rfl T.e_BadReference hr (takes_of rfl rfl rfl rfl) h))) Qq)))
 (Qh (Vg (cs:=["Layout"]) (Qe 0 (pv 0)) (Qe 1 (pv 1)) (fun c hc=>by simp only[List.mem_cons,List.not_mem_nil,or_false] at hc; subst hc; exact⟨T.cls_Layout,T.na_Layout_name⟩))
 (Qh (Vg (cs:=["Layout"]) (Qe 0 (pv 0)) (Q8 Yj T.m_tuple (Qc (Qe 2 (pv 2)) Qg)) (fun c hc=>by simp only[List.mem_cons,List.not_mem_nil,or_false] at hc; subst hc; exact⟨T.cls_Layout,T.na_Layout_columns⟩))
 (Qh (Vg (cs:=["Layout"]) (Qe 0 (pv 0)) (Uy (Jd (Qe 7 (pv 7))) (Q8 Yj T.m_tuple (Qc (Qe 7 (pv 7)) Qg)) (Y6 (Qc (Jr (cs:=["Layout"]) (Qe 0 (pv 0)) (fun c hc=>by simp only[List.mem_cons,List.not_mem_nil,or_false] at hc; subst hc; exact⟨T.cls_Layout,T.na_Layout_columns⟩)) Qg))) (fun c hc=>by simp only[List.mem_cons,List.not_mem_nil,or_false] at hc; subst hc; exact⟨T.cls_Layout,T.na_Layout_all_keys⟩))
 (Qh (Vg (cs:=["Layout"]) (Qe 0 (pv 0)) (Qw ixd (Jr (cs:=["Layout"]) (Qe 0 (pv 0)) (fun c hc=>by simp only[List.mem_cons,List.not_mem_nil,or_false] at hc; subst hc; exact⟨T.cls_Layout,T.na_Layout_all_keys⟩)) Qi) (fun c hc=>by simp only[List.mem_cons,List.not_mem_nil,or_false] at hc; subst hc; exact⟨T.cls_Layout,T.na_Layout_key⟩))
 (Ql (Vg (cs:=["Layout"]) (Qe 0 (pv 0)) (Q8 Yj T.m_tuple (Qc (Qe 4 (pv 4)) Qg)) (fun c hc=>by simp only[List.mem_cons,List.not_mem_nil,or_false] at hc; subst hc; exact⟨T.cls_Layout,T.na_Layout_refers⟩))))))))))))))))) (fun us S hl=>?_)
 match us,hl with
 | [a,n,c,k,r],_ =>
  show Qx S (initF a n c k r S) _
  unfold initF
  split
  ·rename_i m n _
   refine Z7 fun ⟨hp,hS⟩=>?_
   generalize hcE:Zh c S=cs at hp
   generalize hkE:Zh k S=ks at hp
   generalize hrE:Zh r S=rs at hp
   have hpc:Vm S c cs:=by have:=hp.c; rwa [hcE] at this
   have hpk:Vm S k ks:=by have:=hp.k; rwa [hkE] at this
   have hpr0:Vm S r rs:=by have:=hp.r; rwa [hrE] at this
   have hpn:=hp.n
   clear hp
   rw[show Q3 (["self", "name", "columns", "keys", "refers", "word", "twice", "found", "index", "key", "one", "reference"]:List Str).length [U.r m,.d n,c,k,r]=[some (.r m),some (.d n),some c,some k,some r,none,none,none,none,none,none,none] from rfl]
   have hcs:seqU c S=.ok (cs.map .d) S:=hpc.sq.seq
   have hmk:mkL ((n :: cs).map U.d) S=.ok (.d (.lst (n :: cs))) S:=by
    unfold mkL
    rw[Q9]
    exact if_pos (by have:=hpc.le; rw[List.length_cons]; exact sz5 (by omega))
   have hmk':mkL (U.d n :: (cs.map U.d++[])) S=.ok (.d (.lst (n :: cs))) S:=by rw[List.append_nil]; exact hmk
   simp! only[hpc.sq.norm,hcs,hmk',Z6]
   refine loop (K:=fun f=>Qx S _ (Jc (f.seq _))) (I:=fun us ρ S'=>S'=S∧∃ (rest:List D) (w:Option U),us=rest.map .d∧(∀ d∈rest,J9 d=true)∧(n :: cs).find? (fun d=>!Y0 d)=rest.find? (fun d=>!Y0 d) ∧
    ρ=[some (.r m),some (.d n),some c,some k,some r,w,none,none,none,none,none,none]) ?_ ?_ ?_
   ·rintro u us ρ S' ⟨rfl,rest,w,hus,hni,hf,rfl⟩
    match rest,hus with
    | d :: rest,hus =>
     simp only[List.map_cons,List.cons.injEq] at hus
     obtain⟨rfl,rfl⟩:=hus
     refine⟨_,_,rfl,?_⟩
     simp! only[F1_one,name_call (U7 (hni d List.mem_cons_self))]
     cases hd:Y0 d with
     | true =>
      simp! only[]
      refine⟨trivial,rest,_,rfl,fun e he=>hni e (List.mem_cons_of_mem _ he),?_,rfl⟩
      rw[hf,List.find?_cons_of_neg (by rw[hd]; simp)]
     | false =>
      simp! only[]
      refine Ul ?_
      have hf':(d :: rest).find? (fun d=>!Y0 d)=some d:=List.find?_cons_of_pos (by rw[hd]; rfl)
      unfold layR layD
      rw[hf,hf']
   ·rintro ρ S' ⟨rfl,rest,w,hus,_,hf,rfl⟩
    obtain rfl:rest=[]:=List.map_eq_nil_iff.mp hus.symm
    have hf0:(n :: cs).find? (fun d=>!Y0 d)=none:=hf
    have hnm:∀ d∈n :: cs,Y0 d=true:=fun d hd=>by
     have:=List.find?_eq_none.mp hf0 d hd
     simpa using this
    -- the columns are texts
    obtain⟨cols,hcols⟩ : ∃ cols:List Str,cs=cols.map .str:=by
     have:∀ l:List D,(∀ d∈l,Y0 d=true)→∃ zs:List Str,l=zs.map .str:=fun l hl=>by
      induction l with
      | nil=>exact⟨[],rfl⟩
      | cons d t ih =>
       obtain⟨zs,hz⟩:=ih fun e he=>hl e (List.mem_cons_of_mem _ he)
       have:=hl d List.mem_cons_self
       cases d with
       | str z=>exact⟨z :: zs,by rw[hz]; rfl⟩
       | _=>cases this
     exact this _ fun d hd=>hnm d (List.mem_cons_of_mem _ hd)
    have hasc:∀ z∈cols,Asc z:=fun z hz=>(X7.mp (hpc.ni (.str z) (by rw[hcols]; exact List.mem_map.mpr ⟨z,hz,rfl⟩))).1
    have hco:V3 cs=cols:=by unfold V3; rw[hcols,Yc]; rfl
    have hcl:LstU S' cs c:=hpc.sq
    have hkl:LstU S' ks k:=hpk.sq
    have hrl:LstU S' rs r:=hpr0.sq
    have nc0:norm S' c=c:=hcl.norm
    have nk0:norm S' k=k:=hkl.norm
    have nr0:norm S' r=r:=hrl.norm
    have nc:∀ g,norm (S'++g) c=c:=fun g=>hcl.app.norm
    have nk:∀ g,norm (S'++g) k=k:=fun g=>hkl.app.norm
    have nr:∀ g,norm (S'++g) r=r:=fun g=>hrl.app.norm
    have ncS:∀ x g,norm (S'.set m x++g) c=c:=fun x g=>(Xl hcl hS x).norm
    have nkS:∀ x g,norm (S'.set m x++g) k=k:=fun x g=>(Xl hkl hS x).norm
    have nrS:∀ x g,norm (S'.set m x++g) r=r:=fun x g=>(Xl hrl hS x).norm
    have hsqT:SeqS (.tup cs) cols:=.inr (by rw[hcols])
    have htup:∀ g,tupU c (S'++g)=.ok (.d (.tup cs)) (S'++g):=fun g=>hcl.app.tupU
    have htupS:∀ x g,tupU c (S'.set m x++g)=.ok (.d (.tup cs)) (S'.set m x++g):=fun x g=>(Xl hcl hS x).tupU
    have hlc:lenU c S'=.ok (.d (.int cs.length)) S':=hcl.len
    have hlr:lenU r S'=.ok (.d (.int rs.length)) S':=hrl.len
    have htw:Jq c S'=.ok (.d (optD (twS cols))) S':=by
     have hcl':LstU S' (cols.map .str) c:=by rw[← hcols]; exact hcl
     unfold Jq
     rw[hcl'.txts]
     exact Zu ⟨hasc,hcl'⟩
    simp! only[nc0,nc,ncS,nk0,nk,nkS,nr0,nr,nrS,F1_one,htw]
    have lay1:layD n cs ks rs=match twS cols with
     | some z=>some ("Twice", "name",.str z)
     | none=>if 5 < cs.length then some ("TooMany", "limit",.int 5) else if 2 < rs.length then some ("TooMany", "limit",.int 2) else
      match keyF cols [] 0 ks with
      | some i=>some ("BadKey", "index",.int i)
      | none=>match refF cols 0 rs with
       | some i=>some ("BadReference", "index",.int i)
       | none=>none:=by
     unfold layD
     rw[hf0,hco]
    cases htwc:twS cols with
    | some z =>
     rw[htwc] at lay1
     have:isU true (.d (optD (some z))) (.d .non) S'=.ok (.d (.bl true)) S':=rfl
     simp only[this,bind_ok,bind_err,bind_bad,fl_ok,fl_err,fl_bad,seq_nx,seq_rt,seq_err,seq_bk,seq_ct,seq_bad,bodyR_rt,bodyR_nx,bodyR_err,asB_bl,tru_bl,iff_f,iff_t,leU_int,ltU_int,gtU_int,geU_int,subU_int,addU_int,eqU_int,neU_int,tuple_two,mkE_one,len_tup,len_lst,c1_one,c2_two,rd0,rdS,norm_d,dat_d,gFl_none,gRs_none,List.set_cons_zero,List.set_cons_succ,Bool.not_true,Bool.not_false,Bool.false_eq_true,↓reduceIte,nc0,nc,ncS,nk0,nk,nkS,nr0,nr,nrS]
     refine Ul ?_
     unfold layR
     rw[lay1]
     rfl
    | none =>
     rw[htwc] at lay1
     have:isU true (.d (optD none)) (.d .non) S'=.ok (.d (.bl false)) S':=rfl
     simp only[this,bind_ok,bind_err,bind_bad,fl_ok,fl_err,fl_bad,seq_nx,seq_rt,seq_err,seq_bk,seq_ct,seq_bad,bodyR_rt,bodyR_nx,bodyR_err,asB_bl,tru_bl,iff_f,iff_t,leU_int,ltU_int,gtU_int,geU_int,subU_int,addU_int,eqU_int,neU_int,tuple_two,mkE_one,len_tup,len_lst,c1_one,c2_two,rd0,rdS,norm_d,dat_d,gFl_none,gRs_none,List.set_cons_zero,List.set_cons_succ,Bool.not_true,Bool.not_false,Bool.false_eq_true,↓reduceIte,nc0,nc,ncS,nk0,nk,nkS,nr0,nr,nrS,hlc,hlr]
     by_cases h5:5 < cs.length
     ·rw[decide_eq_true (show (5:Int) < (cs.length:Int) by omega)]
      simp! only[nc0,nc,ncS,nk0,nk,nkS,nr0,nr,nrS]
      refine Ul ?_
      unfold layR
      rw[lay1]
      simp only[h5,↓reduceIte]
     rw[decide_eq_false (show ¬ (5:Int) < (cs.length:Int) by omega)]
     simp! only[nc0,nc,ncS,nk0,nk,nkS,nr0,nr,nrS,hlr]
     simp only[h5,↓reduceIte] at lay1
     by_cases h2:2 < rs.length
     ·rw[decide_eq_true (show (2:Int) < (rs.length:Int) by omega)]
      simp! only[nc0,nc,ncS,nk0,nk,nkS,nr0,nr,nrS]
      refine Ul ?_
      unfold layR
      rw[lay1]
      simp only[h2,↓reduceIte]
     rw[decide_eq_false (show ¬ (2:Int) < (rs.length:Int) by omega)]
     simp only[h2,↓reduceIte] at lay1
     have hnew:mkM [] S'=.ok (.r S'.length) (S'++[.lst []]):=if_pos (Nat.zero_le _)
     obtain⟨gk,hen,hgk⟩:=(hkl.app (g:=[.lst []])).enum
     simp! only[nc0,nc,ncS,nk0,nk,nkS,nr0,nr,nrS,hnew,Uu,hen]
     have refG:∀ {e f:Str} {d:D} {g:Qa},layD n cs ks rs=some (e,f,d)→Qx S' (layR m n cs ks rs S') (.err e [(f,d)] (S'++g)):=fun {e f d g} h=>by
      unfold layR
      rw[h]
      exact .err g (Shr.refl S')
     refine loopG (K:=fun f=>Qx S' _ (Jc (f.seq _))) (I:=fun us ρ S1=>∃ (pre rest:List D) (v8 v9:Option U),us=Jo pre.length rest∧pre++rest=ks∧S1=S'++[.lst (pre.map .d)]∧keyF cols [] 0 ks=keyF cols (pre.map keyS) pre.length rest∧(∀ d∈pre,Xq d cols=true) ∧
      ρ=[some (.r m),some (.d n),some c,some k,some r,w,some (.d .non),some (.r S'.length),v8,v9,none,none]) ?_ ?_ ?_ ?_
     ·rintro us ρ S1 ⟨pr,rest,v8,v9,hus,hpr,rfl,_⟩
      exact hgk _ hkl.app
     ·rintro u us ρ S1 ⟨pr,rest,v8,v9,hus,hpr,rfl,hkf,hok,rfl⟩
      match rest,hus with
      | kd :: rest,hus =>
       rw[Qy] at hus
       simp only[List.cons.injEq] at hus
       obtain⟨rfl,rfl⟩:=hus
       refine⟨_,_,rfl,?_⟩
       have hkn:J9 kd=true:=hpk.ni kd (by rw[← hpr]; simp)
       have hcc:=cols_call (cols_pre hkn hsqT hasc) (S'++[.lst (pr.map .d)])
       have hno:norm (S'++[.lst (pr.map U.d)]) (.r S'.length)=.r S'.length:=norm_lst (Jm _ _)
       have hit:Z6 (.r S'.length) (S'++[.lst (pr.map U.d)])=.ok ⟨pr.map .d,some (S'.length,pr.map .d)⟩ (S'++[.lst (pr.map U.d)]):=by simp only[Z6,Jm]
       simp! only[nc0,nc,ncS,nk0,nk,nkS,nr0,nr,nrS,htup,F2_two,hcc,hno,hit]
       have hprl:pr.length≤1000:=by have h1:=hpk.le; rw[← hpr,List.length_append] at h1; omega
       rw[keyF_cons] at hkf
       cases hcd:Xq kd cols with
       | false =>
        rw[hcd] at hkf
        simp only[Bool.not_false,Bool.true_or,↓reduceIte] at hkf
        rw[hkf] at lay1
        simp! only[nc0,nc,ncS,nk0,nk,nkS,nr0,nr,nrS]
        exact refG lay1
       | true =>
        obtain⟨zs,rfl,hks,hzc⟩:=colsD_tup hcd
        have hz64:zs.length < 64:=by have:=(Xe.mp hkn).1; rw[List.length_map] at this; omega
        have hall:∀ d∈pr,∃ ys:List Str,d=.tup (ys.map .str)∧keyS d=ys∧ys.length < 64∧∀ z∈ys,Asc z:=fun d hd=>by
         obtain⟨ys,rfl,h1,h2⟩:=colsD_tup (hok d hd)
         refine⟨ys,rfl,h1,?_,fun z hz=>hasc z (h2 z hz)⟩
         have:=(Xe.mp (hpk.ni _ (by rw[← hpr]; exact List.mem_append_left _ hd))).1
         rw[List.length_map] at this; omega
        have hlc2:∀ ρ,lcU (some (S'.length,pr.map U.d)) (fun u ρ S=>Res.ok (List.set ρ 10 (some u)) S) (fun x S=>Res.ok true S) (fun ρ S=>((rdV ρ 10 S).bind fun x S=>Res.ok [x] S).bind (c1 sortU)) [some (.r m),some (.d n),some c,some k,some r,w,some (.d .non),some (.r S'.length),some (.d (.int pr.length)),some ρ,none,none] (pr.map U.d) [] (S'++[.lst (pr.map U.d)])
          = .ok ((pr.map fun d=>D.lst ((Ju (keyS d)).map .str)).map U.d) (S'++[.lst (pr.map U.d)]):=fun ρ=>by
         rw[lcU_mapG (show gOk _ (some (S'.length,pr.map U.d)) from Jm _ _) (fun u=>match u with | .d d=>.d (.lst ((Ju (keyS d)).map .str)) | u=>u) _ []]
         ·rw[List.nil_append,List.map_map,List.map_map]; rfl
         ·intro u hu
          obtain⟨d,hd,rfl⟩:=List.mem_map.mp hu
          obtain⟨ys,rfl,h1,h2,_⟩:=hall d hd
          refine⟨_,rfl,?_⟩
          simp! only[nc0,nc,ncS,nk0,nk,nkS,nr0,nr,nrS,sort_call h2,h1]
         ·rw[List.length_map]; show 0 + pr.length≤sizeLine; have:=sz10 hprl; omega
        have hmk2:∀ S:Qa,mkL ((pr.map fun d=>D.lst ((Ju (keyS d)).map .str)).map U.d) S=.ok (.d (.lst ((pr.map keyS).map fun m=>.lst ((Ju m).map .str)))) S:=fun S=>by
         unfold mkL
         rw[Q9]
         simp only[List.length_map,sz10 hprl,if_true,List.map_map]
         rfl
        have hin2:=in_sorted (xs:=zs) (mss:=pr.map keyS) (fun z hz=>hasc z (hzc z hz)) (fun m' hm' z hz=>by
         obtain⟨d,hd,rfl⟩:=List.mem_map.mp hm'
         obtain⟨ys,rfl,h1,_,h3⟩:=hall d hd
         rw[h1] at hz
         exact h3 z hz) (S'++[.lst (pr.map U.d)])
        have hw:∀ v:U,Yn [some (.r m),some (.d n),some c,some k,some r,w,some (.d .non),some (.r S'.length),some (.d (.int pr.length)),some v,none,none] ([(("one" : Str),10)].map fun x=>x.snd)=[some (.r m),some (.d n),some c,some k,some r,w,some (.d .non),some (.r S'.length),some (.d (.int pr.length)),some v,none,none]:=fun v=>rfl
        simp! only[nc0,nc,ncS,nk0,nk,nkS,nr0,nr,nrS,sort_call hz64,hw,hno,hit,hlc2,hmk2,hin2]
        rw[hcd] at hkf
        simp only[Bool.not_true,Bool.false_or,hks] at hkf
        cases han:(pr.map keyS).any fun m=>decide (m.Perm zs) with
        | true =>
         rw[han] at hkf
         simp only[↓reduceIte] at hkf
         rw[hkf] at lay1
         simp! only[nc0,nc,ncS,nk0,nk,nkS,nr0,nr,nrS]
         exact refG lay1
        | false =>
         rw[han] at hkf
         simp only[Bool.false_eq_true,↓reduceIte] at hkf
         have hty:tyU "list" (.r S'.length) (S'++[.lst (pr.map U.d)])=true:=by simp only[tyU,Jm]; rfl
         have hap:appU (.r S'.length) [.d (.tup (zs.map .str))] (S'++[.lst (pr.map U.d)])=.ok (.d .non) (S'++[.lst ((pr++[D.tup (zs.map .str)]).map U.d)]):=by
          simp only[appU,Zf,Jm,List.length_map]
          rw[if_pos (show pr.length < sizeLine from sz5l (by omega)),Xu,List.map_append]
          rfl
         simp! only[nc0,nc,ncS,nk0,nk,nkS,nr0,nr,nrS,hno,hty,hap]
         refine⟨pr++[.tup (zs.map .str)],rest,_,_,?_,by rw[List.append_assoc]; exact hpr,rfl,?_,?_,rfl⟩
         ·rw[List.length_append]; rfl
         ·rw[hkf,List.length_append,List.map_append]
          simp only[List.map_cons,List.map_nil,hks,List.length_cons,List.length_nil,Nat.zero_add]
         ·intro d hd
          rcases List.mem_append.mp hd with h | h
          ·exact hok d h
          ·obtain rfl:=List.mem_singleton.mp h
           exact hcd
     ·rintro ρ S1 ⟨pr,rest,v8,v9,hus,hpr,rfl,hkf,hok,rfl⟩
      have hrest:rest=[]:=by
       cases rest with
       | nil=>rfl
       | cons x t=>rw[Qy] at hus; cases hus
      subst hrest
      rw[List.append_nil] at hpr
      have hpr:=hpr.symm
      subst hpr
      have hkn:keyF cols [] 0 ks=none:=hkf
      rw[hkn] at lay1
      have hfz:frzV [some (.r m),some (.d n),some c,some k,some r,w,some (.d .non),some (.r S'.length),v8,v9,none,none] 7 (S'++[.lst (ks.map U.d)])=S'++[.frz (.lst ks)]:=by
       show frzN S'.length _=_
       unfold frzN
       simp only[Jm,Q9,Xu]
      obtain⟨gr,hen2,hgr⟩:=(hrl.app (g:=[.frz (.lst ks)])).enum
      simp! only[nc0,nc,ncS,nk0,nk,nkS,nr0,nr,nrS,hfz,Uu,hen2]
      refine loopG (K:=fun f=>Qx S' _ (Jc (f.seq _))) (I:=fun us ρ S1=>∃ (pre rest:List D) (v8 v9 v11:Option U),us=Jo pre.length rest∧pre++rest=rs∧S1=S'++[.frz (.lst ks)]∧refF cols 0 rs=refF cols pre.length rest ∧
       ρ=[some (.r m),some (.d n),some c,some k,some r,w,some (.d .non),some (.r S'.length),v8,v9,none,v11]) ?_ ?_ ?_ ?_
      ·rintro us ρ S1 ⟨pr,rest,v8,v9,v11,hus,hpr,rfl,_⟩
       exact hgr _ hrl.app
      ·rintro u us ρ S1 ⟨pr,rest,v8,v9,v11,hus,hpr,rfl,hrf,rfl⟩
       match rest,hus with
       | rd :: rest,hus =>
        rw[Qy] at hus
        simp only[List.cons.injEq] at hus
        obtain⟨rfl,rfl⟩:=hus
        refine⟨_,_,rfl,?_⟩
        have hrn:J9 rd=true:=hpr0.ni rd (by rw[← hpr]; simp)
        have hcc:=ref_call (ref_pre hrn hsqT hasc) (S'++[.frz (.lst ks)])
        simp! only[nc0,nc,ncS,nk0,nk,nkS,nr0,nr,nrS,htup,F2_two,hcc]
        rw[refF_cons] at hrf
        cases hcd:refD rd cols with
        | false =>
         rw[hcd] at hrf
         simp only[Bool.not_false,↓reduceIte] at hrf
         rw[hrf] at lay1
         simp! only[nc0,nc,ncS,nk0,nk,nkS,nr0,nr,nrS]
         exact refG lay1
        | true =>
         rw[hcd] at hrf
         simp only[Bool.not_true,Bool.false_eq_true,↓reduceIte] at hrf
         simp! only[nc0,nc,ncS,nk0,nk,nkS,nr0,nr,nrS]
         refine⟨pr++[rd],rest,_,_,_,?_,by rw[List.append_assoc]; exact hpr,trivial,?_,rfl⟩
         ·rw[List.length_append]; rfl
         ·rw[hrf,List.length_append]; rfl
      ·rintro ρ S1 ⟨pr,rest,v8,v9,v11,hus,hpr,rfl,hrf,rfl⟩
       have hrest:rest=[]:=by
        cases rest with
        | nil=>rfl
        | cons x t=>rw[Qy] at hus; cases hus
       subst hrest
       have hrn:refF cols 0 rs=none:=hrf
       rw[hrn] at lay1
       -- the fields
       have hmS:m < S'.length:=(List.getElem?_eq_some_iff.mp hS).1
       have hml:∀ c:Cell,(S'.set m c)[m]?=some c:=fun c=>List.getElem?_set_self hmS
       have hob0:(S'++[.frz (.lst ks)])[m]?=some (.obj "Layout" []):=at_old hS
       have hob:∀ fs,(S'.set m (.obj "Layout" fs)++[.frz (.lst ks)])[m]?=some (.obj "Layout" fs):=fun fs=>at_old (hml _)
       have hlen':∀ c:Cell,(S'.set m c).length=S'.length:=fun c=>List.length_set
       have hfo:∀ fs,norm (S'.set m (.obj "Layout" fs)++[.frz (.lst ks)]) (.r S'.length)=.d (.lst ks):=fun fs=>Zx (by have:=Jm (S'.set m (.obj "Layout" fs)) (.frz (.lst ks)); rwa [hlen'] at this)
       have hse0:∀ f w,setF ["Layout"] f (.r m) w (S'++[.frz (.lst ks)])=some (S'.set m (.obj "Layout" [(f,w)])++[.frz (.lst ks)]):=fun f w=>by
        simp only[setF,hob0,List.mem_singleton,true_and,List.length_nil,Nat.zero_lt_succ,↓reduceIte,putU]
        rw[set_old hS]
       have hse:∀ f w fs,fs.length < 1000→setF ["Layout"] f (.r m) w (S'.set m (.obj "Layout" fs)++[.frz (.lst ks)])=some (S'.set m (.obj "Layout" (putU f w fs))++[.frz (.lst ks)]):=fun f w fs h=>by
        simp only[setF,hob,List.mem_singleton,true_and,h,↓reduceIte]
        rw[set_old (hml _),List.set_set]
       have hfd:∀ f fs,fldU ["Layout"] f (.r m) (S'.set m (.obj "Layout" fs)++[.frz (.lst ks)])=optR (fs.lookup f) id (S'.set m (.obj "Layout" fs)++[.frz (.lst ks)]):=fun f fs=>by
        simp only[fldU,objU,hob,List.mem_singleton,↓reduceIte]
       have hno0:norm (S'++[.frz (.lst ks)]) (.r m)=.r m:=norm_obj hob0
       have hno1:∀ fs,norm (S'.set m (.obj "Layout" fs)++[.frz (.lst ks)]) (.r m)=.r m:=fun fs=>norm_obj (hob fs)
       have htr:∀ x g,tupU r (S'.set m x++g)=.ok (.d (.tup rs)) (S'.set m x++g):=fun x g=>(Xl hrl hS x).tupU
       have htk:∀ S:Qa,tupU (.d (.lst ks)) S=.ok (.d (.tup ks)) S:=fun S=>rfl
       have htru:∀ S:Qa,truU (.d (.lst ks)) S=.ok (!ks.isEmpty) S:=fun S=>rfl
       simp! only[nc0,nc,ncS,nk0,nk,nkS,nr0,nr,nrS,hno0,hse0,hno1,htup,htupS]
       rw[hse _ _ _ (by simp)]
       simp! only[nc0,nc,ncS,nk0,nk,nkS,nr0,nr,nrS,hno1,hfo,htru,htk]
       have p1:∀ a b,putU ("columns" : Str) a [(("name" : Str),b)]=[(("name" : Str),b),(("columns" : Str),a)]:=fun _ _=>rfl
       have p2:∀ a b c,putU ("all_keys" : Str) a [(("name" : Str),b),(("columns" : Str),c)]=[(("name" : Str),b),(("columns" : Str),c),(("all_keys" : Str),a)]:=fun _ _ _=>rfl
       have p3:∀ a b c d,putU ("key" : Str) a [(("name" : Str),b),(("columns" : Str),c),(("all_keys" : Str),d)]=[(("name" : Str),b),(("columns" : Str),c),(("all_keys" : Str),d),(("key" : Str),a)]:=fun _ _ _ _=>rfl
       have p4:∀ a b c d e,putU ("refers" : Str) a [(("name" : Str),b),(("columns" : Str),c),(("all_keys" : Str),d),(("key" : Str),e)]=[(("name" : Str),b),(("columns" : Str),c),(("all_keys" : Str),d),(("key" : Str),e),(("refers" : Str),a)]:=fun _ _ _ _ _=>rfl
       have l1:∀ (a b:U),List.lookup ("columns" : Str) [(("name" : Str),a),(("columns" : Str),b)]=some b:=fun _ _=>rfl
       have l2:∀ (a b c:U),List.lookup ("all_keys" : Str) [(("name" : Str),a),(("columns" : Str),b),(("all_keys" : Str),c)]=some c:=fun _ _ _=>rfl
       have fin:∀ ak ky:D,ak=.tup (if ks=[] then [.tup cs] else ks)→ky=(if ks=[] then [.tup cs] else ks).headD .non→Qx S' (layR m n cs ks rs S')
         (.ok (.d .non) (S'.set m (.obj "Layout" [("name",.d n),("columns",.d (.tup cs)),("all_keys",.d ak),("key",.d ky),("refers",.d (.tup rs))])++[.frz (.lst ks)])):=fun ak ky h1 h2=>by
        unfold layR
        rw[lay1,h1,h2]
        refine .ok _ (shr_set ?_) trivial
        simp [Cell.below,U.below,layF]
       by_cases hk0:ks=[]
       ·have he:ks.isEmpty=true:=by rw[hk0]; rfl
        have hmt:∀ S:Qa,mkT [.d (.tup cs)] S=.ok (.d (.tup [.tup cs])) S:=fun S=>rfl
        have hix:∀ S:Qa,ixU (.d (.tup [.tup cs])) (.d (.int 0)) S=.ok (.d (.tup cs)) S:=fun S=>rfl
        simp only[he,bind_ok,bind_err,bind_bad,fl_ok,fl_err,fl_bad,seq_nx,seq_rt,seq_err,seq_bk,seq_ct,seq_bad,bodyR_rt,bodyR_nx,bodyR_err,asB_bl,tru_bl,iff_f,iff_t,leU_int,ltU_int,gtU_int,geU_int,subU_int,addU_int,eqU_int,neU_int,tuple_two,mkE_one,len_tup,len_lst,c1_one,c2_two,rd0,rdS,norm_d,dat_d,gFl_none,gRs_none,List.set_cons_zero,List.set_cons_succ,Bool.not_true,Bool.not_false,Bool.false_eq_true,↓reduceIte,nc0,nc,ncS,nk0,nk,nkS,nr0,nr,nrS,p1,hfd,l1,optR,id,hmt,hno1]
        rw[hse _ _ _ (by simp)]
        simp! only[nc0,nc,ncS,nk0,nk,nkS,nr0,nr,nrS,p2,hfd,l2,optR,id,hno1,hix]
        rw[hse _ _ _ (by simp)]
        simp! only[nc0,nc,ncS,nk0,nk,nkS,nr0,nr,nrS,p3,hno1,htr]
        rw[hse _ _ _ (by simp)]
        simp! only[nc0,nc,ncS,nk0,nk,nkS,nr0,nr,nrS,p4]
        exact fin _ _ (by rw[if_pos hk0]) (by rw[if_pos hk0]; rfl)
       ·obtain⟨k0,kt,hkc⟩:=List.exists_cons_of_ne_nil hk0
        have he:ks.isEmpty=false:=by rw[hkc]; rfl
        have hix:∀ S:Qa,ixU (.d (.tup ks)) (.d (.int 0)) S=.ok (.d k0) S:=fun S=>by
         show optR (atI ks ((0:Nat):Int)) .d S=_
         rw[hkc,atI_nat (show (k0 :: kt)[0]?=some k0 from rfl)]
         rfl
        simp only[he,bind_ok,bind_err,bind_bad,fl_ok,fl_err,fl_bad,seq_nx,seq_rt,seq_err,seq_bk,seq_ct,seq_bad,bodyR_rt,bodyR_nx,bodyR_err,asB_bl,tru_bl,iff_f,iff_t,leU_int,ltU_int,gtU_int,geU_int,subU_int,addU_int,eqU_int,neU_int,tuple_two,mkE_one,len_tup,len_lst,c1_one,c2_two,rd0,rdS,norm_d,dat_d,gFl_none,gRs_none,List.set_cons_zero,List.set_cons_succ,Bool.not_true,Bool.not_false,Bool.false_eq_true,↓reduceIte,nc0,nc,ncS,nk0,nk,nkS,nr0,nr,nrS,p1,hno1]
        rw[hse _ _ _ (by simp)]
        simp! only[nc0,nc,ncS,nk0,nk,nkS,nr0,nr,nrS,p2,hfd,l2,optR,id,hno1,hix]
        rw[hse _ _ _ (by simp)]
        simp! only[nc0,nc,ncS,nk0,nk,nkS,nr0,nr,nrS,p3,hno1,htr]
        rw[hse _ _ _ (by simp)]
        simp! only[nc0,nc,ncS,nk0,nk,nkS,nr0,nr,nrS,p4]
        exact fin _ _ (by rw[if_neg hk0]) (by rw[if_neg hk0,hkc]; rfl)
      ·exact⟨[],rs,_,_,_,rfl,rfl,rfl,rfl,rfl⟩
     ·exact⟨[],ks,none,none,rfl,rfl,rfl,rfl,(fun d hd=>nomatch hd),rfl⟩
   ·exact⟨rfl,n :: cs,none,rfl,fun d hd=>by rcases List.mem_cons.mp hd with rfl | hd; exact hpn; exact hpc.ni d hd,rfl,rfl⟩
  ·exact .bad _
end
end KL
namespace KL
open PySem PySem.Spec PyProof.Rows L2 DL
open He (ga ma)
open TL (tl)
def TakeOk (f:Fn):Prop:=∀ (n:Nat) (m:Int) (S:Qa),Bag S n→0 < m→m≤1000000000000000000000→∃ (j:Nat) (S':Qa),f [.r n,.d (.int m)] S=.ok (.d (.int j)) S'∧Drew n S S'∧(j:Int) < m
def OfOk (f:Fn):Prop:=∀ (n:Nat) (u:U) (ds:List D) (S:Qa),Bag S n→SeqU S ds u→u ≠ .r n→ds ≠ []→ds.length≤1000→∃ (d:D) (S':Qa),f [.r n,u] S=.ok (.d d) S'∧Drew n S S'∧d∈ds
section
variable {P:Program} {w:World} {K:PySem.W.Frag} {mg:Str→Option Value} {base:Heap}
theorem Zy:FnScope ["_law_bag_here", "_law_many", "_law_digit", "_law_mixed"] ["_law_bag_here", "_law_many"] (defScope Vo):=⟨rfl,rfl,rfl,by decide +kernel,rfl,by decide +kernel,by decide +kernel⟩
theorem dk_take (T:Txt P K mg):∃ f,FM P w K mg base 1 "_law_take" ["_law_bag_here", "_law_many"] f∧TakeOk f:=by
 refine Exists.imp (fun f hf=>⟨hf.1,fun n m S b m0 m1=>?_⟩) (Vy (P:=P) (w:=w) (base:=base) (k:=0) (fun us _=>∃ n m,us=[.r n,.d (.int m)]∧0 < m∧m≤1000000000000000000000) (fun us _ y=>∃ (j:Nat),y=.int j∧∀ n m,us=[.r n,.d (.int m)]→(j:Int) < m) T.F_law_take Zy (fun _ _ _ _ _ _ us hl=>match us,hl with | [_,_],_=>rfl) (fun cdv A outer s H E hA hr=>(Qh (Q5 (Qt od_gt (Qw ixd (Qe 0 (pv 0)) Qi) Qi (nomark _)) (Qh (Q6 (i:=2) Zy.nd rfl (by first | exact Or.inl rfl | exact Or.inr rfl) (Je Uz (Q8 Vv T.m_int (Qc (Qw ixd (Qe 0 (pv 0)) Qi) Qg)) (Qe 1 (pv 1))))
 (Qh (pds_asg (Je od_div (Qw ixd (Qe 0 (pv 0)) Qi) (Qe 1 (pv 1))) (pdg_sub (Qe 0 (pv 0)) Qi (fun h1 h2=>pg_sub h1 h2 set_list)))
 (Ql (Qs (Qe 2 (pv 2)))))) Qq)
 (Qh (pds_asg (Je Yd (Qw ixd (Qe 0 (pv 0)) Qi) Qi) (pdg_sub (Qe 0 (pv 0)) Qi (fun h1 h2=>pg_sub h1 h2 set_list)))
 (Qh (Q6 (i:=3) Zy.nd rfl (by first | exact Or.inl rfl | exact Or.inr rfl) (Je Uz (Q8 Vv T.m_int (Qc (Je Yd (Qw ixd (Qe 0 (pv 0)) Qi) (Je Vt Qi (Qw ixd (Qe 0 (pv 0)) Qi))) Qg)) Qi))
 (Qh (Q6 (i:=3) Zy.nd rfl (by first | exact Or.inl rfl | exact Or.inr rfl) (Je Uz (Q8 Vv T.m_int (Qc (Je Yd (Je Yd (Je Vt (Qe 3 (pv 3)) (Qe 3 (pv 3))) (Je Vt Qi (Qe 3 (pv 3)))) (Je Vt Qi (Qw ixd (Qe 0 (pv 0)) Qi))) Qg)) Qi))
 (Qh (Q6 (i:=3) Zy.nd rfl (by first | exact Or.inl rfl | exact Or.inr rfl) (Je Uz (Q8 Vv T.m_int (Qc (Je Yd (Je od_pow (Je Yd (Je od_div (Qe 3 (pv 3)) Qi) (Qw ixd (Qe 0 (pv 0)) Qi)) Qi) (Je Vt Qi (Qw ixd (Qe 0 (pv 0)) Qi))) Qg)) Qi))
 (Ql (Qs (Je Uz (Q8 Vv T.m_int (Qc (Je od_div (Qe 3 (pv 3)) Qi) Qg)) (Qe 1 (pv 1))))))))))) (fun us S hl hb hp=>?_))
 ·obtain⟨y,S',e,dr,j,rfl,hj⟩:=hf.2 [.r n,.d (.int m)] S rfl b ⟨n,m,rfl,m0,m1⟩
  exact⟨j,S',e,dr,hj n m rfl⟩
 ·obtain⟨n,m,rfl,m0,m1⟩:=hp
  have hb':Bag S n:=hb
  obtain⟨c0,hc,d,mm,k,rfl,d0,mm0,mm1,k0⟩:=hb
  have hl':=hb'.lt
  have hn:∀ d mm k:Int,norm (S.set n (.lst [.d (.int d),.d (.int mm),.d (.int k)])) (.r n)=.r n:=fun d mm k=>by simp only[norm,List.getElem?_set_self hl']
  have hi:∀ d mm k:Int,∀ i:Int,ixU (.r n) (.d (.int i)) (S.set n (.lst [.d (.int d),.d (.int mm),.d (.int k)]))=optR (atI [U.d (.int d),.d (.int mm),.d (.int k)] i) id (S.set n (.lst [.d (.int d),.d (.int mm),.d (.int k)])):=fun d mm k i=>by simp only[ixU,List.getElem?_set_self hl']
  have a0:∀ d mm k:Int,atI [U.d (.int d),.d (.int mm),.d (.int k)] 0=some (.d (.int d)):=fun _ _ _=>rfl
  have a1:∀ d mm k:Int,atI [U.d (.int d),.d (.int mm),.d (.int k)] 1=some (.d (.int mm)):=fun _ _ _=>rfl
  have a2:∀ d mm k:Int,atI [U.d (.int d),.d (.int mm),.d (.int k)] 2=some (.d (.int k)):=fun _ _ _=>rfl
  have s0:∀ d mm k v:Int,setU (.r n) (.d (.int 0)) (.d (.int v)) (S.set n (.lst [.d (.int d),.d (.int mm),.d (.int k)]))=some (S.set n (.lst [.d (.int v),.d (.int mm),.d (.int k)])):=fun d mm k v=>by
   simp only[setU,Zf,List.getElem?_set_self hl']
   exact congrArg some (List.set_set ..)
  have s2:∀ d mm k v:Int,setU (.r n) (.d (.int 2)) (.d (.int v)) (S.set n (.lst [.d (.int d),.d (.int mm),.d (.int k)]))=some (S.set n (.lst [.d (.int d),.d (.int mm),.d (.int v)])):=fun d mm k v=>by
   simp only[setU,Zf,List.getElem?_set_self hl']
   exact congrArg some (List.set_set ..)
  have hS:S=S.set n (.lst [.d (.int d),.d (.int mm),.d (.int k)]):=by
   obtain⟨hl2,e'⟩:=List.getElem?_eq_some_iff.mp hc
   have e2:S.set n S[n]=S:=List.set_getElem_self hl'
   exact e2.symm.trans (congrArg (S.set n) e')
  rw[show Q3 (["_law_bag_here", "_law_many", "_law_digit", "_law_mixed"]:List Str).length [U.r n,.d (.int m)]=[some (.r n),some (.d (.int m)),none,none] from rfl]
  have hint:∀ (i:Int) (S:Qa),intU (.d (.int i)) S=.ok (.d (.int i)) S:=fun _ _=>rfl
  have hmod:∀ (i j:Int) (S:Qa),0 < j→modU (.d (.int i)) (.d (.int j)) S=.ok (.d (.int (i % j))) S:=fun i j S h=>if_pos (decide_eq_true h)
  have hdiv:∀ (i j:Int) (S:Qa),0 < j→j≤10 ^ 60→divU (.d (.int i)) (.d (.int j)) S=.ok (.d (.int (i / j))) S:=fun i j S h h'=>if_pos (by rw[Bool.and_eq_true]; exact⟨decide_eq_true h,decide_eq_true h'⟩)
  have hmul:∀ (i j:Int) (S:Qa),(-(2 ^ 64) < i∧i < 2 ^ 64)→mulU (.d (.int i)) (.d (.int j)) S=.ok (.d (.int (i * j))) S:=fun i j S h=>if_pos (by unfold mulC; rw[Bool.or_eq_true,Bool.and_eq_true]; exact .inl ⟨decide_eq_true h.1,decide_eq_true h.2⟩)
  have hpow:∀ (i:Int) (S:Qa),0≤i→i < 2 ^ 64→powU (.d (.int i)) (.d (.int 2)) S=.ok (.d (.int (i ^ 2))) S:=fun i S h h'=>if_pos (by unfold powC; rw[Bool.and_eq_true,Bool.and_eq_true]; exact⟨by decide,by decide,decide_eq_true (by omega)⟩)
  by_cases hd:0 < d
  ·refine⟨.int (d % m),S.set n (.lst [.d (.int (d / m)),.d (.int mm),.d (.int k)]),[],?_,⟨_,⟨_,_,_,rfl,Int.ediv_nonneg d0 (by omega),mm0,mm1,k0⟩,rfl⟩,(d % m).toNat,by rw[Int.toNat_of_nonneg (Int.emod_nonneg _ (by omega))],fun n' m' e=>?_⟩
   ·rw[List.append_nil]
    rw[hS]
    simp! only[hn,hi,a0,optR,id,decide_eq_true hd,hint,hmod _ _ _ m0,hdiv _ _ _ m0 (by omega:m≤10 ^ 60),s0,List.set_set]
   ·simp only[List.cons.injEq,U.d.injEq,D.int.injEq] at e
    obtain⟨_,rfl,_⟩:=e
    rw[Int.toNat_of_nonneg (Int.emod_nonneg _ (by omega))]
    exact Int.emod_lt_of_pos _ m0
  ·have dd:¬ 0 < d:=hd
   generalize hx1:(mm + 48271 * (k + 1)) % 2147483629=x1
   have x10:0≤x1:=by rw[← hx1]; exact Int.emod_nonneg _ (by decide)
   have x11:x1 < 2147483629:=by rw[← hx1]; exact Int.emod_lt_of_pos _ (by decide)
   generalize hx2:(x1 * x1 + 7 * x1 + 611953 * (k + 1)) % 2305843009213693951=x2
   have x20:0≤x2:=by rw[← hx2]; exact Int.emod_nonneg _ (by decide)
   have x21:x2 < 2305843009213693951:=by rw[← hx2]; exact Int.emod_lt_of_pos _ (by decide)
   generalize hx3:((x2 / 64 + mm) ^ 2 + 104729 * (k + 1)) % 1152921504606846883=x3
   refine⟨.int (x3 / 4096 % m),S.set n (.lst [.d (.int d),.d (.int mm),.d (.int (k + 1))]),[],?_,⟨_,⟨_,_,_,rfl,d0,mm0,mm1,by omega⟩,rfl⟩,(x3 / 4096 % m).toNat,by rw[Int.toNat_of_nonneg (Int.emod_nonneg _ (by omega))],fun n' m' e=>?_⟩
   ·rw[List.append_nil]
    rw[hS]
    simp! only[hn,hi,a0,a1,a2,optR,id,decide_eq_false dd,hint,hmul _ _ _ (by decide:(-(2 ^ 64:Int) < 48271∧(48271:Int) < 2 ^ 64)),hmod _ _ _ (by decide:(0:Int) < 2147483629),hx1,s2,List.set_set]
    simp! only[hn,hi,a0,a1,a2,optR,id,hint,hmul x1 _ _ (by omega:(-(2 ^ 64:Int) < x1∧x1 < 2 ^ 64)),hmul 7 _ _ (by decide:(-(2 ^ 64:Int) < 7∧(7:Int) < 2 ^ 64)),hmul 611953 _ _ (by decide:(-(2 ^ 64:Int) < 611953∧(611953:Int) < 2 ^ 64)),hmod _ _ _ (by decide:(0:Int) < 2305843009213693951),hx2]
    have hq:0≤x2 / 64 + mm∧x2 / 64 + mm < 2 ^ 64:=by omega
    simp! only[hn,hi,a0,a1,a2,optR,id,hint,hdiv _ _ _ (by decide:(0:Int) < 64) (by decide),hpow _ _ hq.1 hq.2,hmul 104729 _ _ (by decide:(-(2 ^ 64:Int) < 104729∧(104729:Int) < 2 ^ 64)),hmod _ _ _ (by decide:(0:Int) < 1152921504606846883),hx3]
    simp! only[hn,hint,hdiv _ _ _ (by decide:(0:Int) < 4096) (by decide),hmod _ _ _ m0]
   ·simp only[List.cons.injEq,U.d.injEq,D.int.injEq] at e
    obtain⟨_,rfl,_⟩:=e
    rw[Int.toNat_of_nonneg (Int.emod_nonneg _ (by omega))]
    exact Int.emod_lt_of_pos _ m0
theorem sc_law_of:FnScope ["_law_bag_here", "_law_some"] ["_law_bag_here", "_law_some"] (defScope s_law_of):=⟨rfl,rfl,rfl,by decide +kernel,rfl,by decide +kernel,by decide +kernel⟩
theorem dk_of (T:Txt P K mg):∃ f,FM P w K mg base 2 "_law_of" ["_law_bag_here", "_law_some"] f∧OfOk f:=by
 obtain⟨takeF,F_law_take,hT⟩:=dk_take (w:=w) (base:=base) T
 refine Exists.imp (fun f hf=>⟨hf.1,fun n u ds S b sq hn h0 h1=>?_⟩) (Vy (P:=P) (w:=w) (base:=base) (k:=1) (fun us S=>∃ n u ds,us=[.r n,u]∧SeqU S ds u∧u ≠ .r n∧ds ≠ []∧ds.length≤1000) (fun us S y=>∀ n u ds,us=[.r n,u]→SeqU S ds u→y∈ds) T.F_law_of sc_law_of (fun _ _ _ _ _ _ us hl=>match us,hl with | [_,_],_=>rfl) (fun cdv A outer s H E hA hr=>(Ql (Qs (Qw ixd (Qe 1 (pv 1)) (Qp hA F_law_take (hr.mono (by decide)) (takes_of rfl rfl rfl rfl) (Qc (Qe 0 (pv 0)) (Qc (Qo Jk T.m_len (Qc (Qe 1 (pv 1)) Qg)) Qg))))))) (fun us S hl hb hp=>?_))
 ·obtain⟨y,S',e,dr,hj⟩:=hf.2 [.r n,u] S rfl b ⟨n,u,ds,rfl,sq,hn,h0,h1⟩
  exact⟨y,S',e,dr,hj n u ds rfl sq⟩
 ·obtain⟨n,u,ds,rfl,sq,hn,h0,h1⟩:=hp
  have hb':Bag S n:=hb
  have hpos:0 < ds.length:=by cases ds with | nil=>exact absurd rfl h0 | cons _ _=>exact Nat.zero_lt_succ _
  obtain⟨j,S1,e1,d1,hj⟩:=hT n (ds.length:Nat) S hb' (by omega) (by omega)
  have hj':j < ds.length:=by omega
  rw[show Q3 (["_law_bag_here", "_law_some"]:List Str).length [U.r n,u]=[some (.r n),some u] from rfl]
  have hix:=(sq.drew d1 hn).ix (List.getElem?_eq_getElem hj')
  refine⟨ds[j],S1,[],?_,d1,fun n' u' ds' e sq'=>?_⟩
  ·rw[List.append_nil]
   simp! only[sq.norm,hb'.norm,sq.len,e1,(sq.drew d1 hn).norm,hix]
  ·simp only[List.cons.injEq] at e
   obtain⟨_,rfl,_⟩:=e
   rw[← sq.inj sq']
   exact List.getElem_mem hj'
theorem Zk:FnScope ["_law_script", "_law_at", "_law_cell", "_law_whole", "_law_one", "_law_digits"] ["_law_script", "_law_at"] (defScope s_law_bag):=⟨rfl,rfl,rfl,by decide +kernel,rfl,by decide +kernel,by decide +kernel⟩
def BagOk (f:Fn):Prop:=∀ (is:List Int) (a:Nat) (S:Qa),a≤1000→∃ c,f [.d (.lst (is.map .int)),.d (.int a)] S=.ok (.r S.length) (S++[c])∧BagC c
theorem dk_bag (T:Txt P K mg):∃ f,FM P w K mg base 1 "_law_bag" ["_law_script", "_law_at"] f∧BagOk f:=by
 refine Exists.imp (fun f hf=>⟨hf.1,fun is a S ha=>?_⟩) (okEx (P:=P) (w:=w) (base:=base) (k:=0) (fun us _=>∃ (is:List Int) (a:Nat),us=[.d (.lst (is.map .int)),.d (.int a)]∧a≤1000) (fun us S r=>∃ c,r=.ok (.r S.length) (S++[c])∧BagC c) T.F_law_bag Zk (fun _ _ _ _ _ _ us hl=>match us,hl with | [_,_],_=>rfl) (fun cdv A outer s H E hA hr=>(Qh (Q6 (i:=2) Zk.nd rfl (by first | exact Or.inl rfl | exact Or.inr rfl) (Uy (Qt od_lt (Qe 1 (pv 1)) (Qo Jk T.m_len (Qc (Qe 0 (pv 0)) Qg)) (nomark _)) (Qw ixd (Qe 0 (pv 0)) (Qe 1 (pv 1))) Qi))
 (Qh (Q6 (i:=3) Zk.nd rfl (by first | exact Or.inl rfl | exact Or.inr rfl) Qi)
 (Qh (Jp (passes_of rfl) rfl (Yw (Vl sld (Qe 0 (pv 0)) Yp (Yq Qi))) (Qn (i:=4) Zk.nd rfl (by first | exact Or.inl rfl | exact Or.inr rfl)) (Ql (Q6 (i:=3) Zk.nd rfl (by first | exact Or.inl rfl | exact Or.inr rfl) (Je Uz (Q8 Vv T.m_int (Qc (Je Yd (Je Vt (Qe 3 (pv 3)) Qi) (Qe 4 (pv 4))) Qg)) Qi))))
 (Qh (Q6 (i:=5) Zk.nd rfl (by first | exact Or.inl rfl | exact Or.inr rfl) (Uy (Qt od_ge (Qo cd_abs T.m_abs (Qc (Qe 2 (pv 2)) Qg)) (Je od_pow Qi Qi) (nomark _)) (Qo cd_abs T.m_abs (Qc (Qe 2 (pv 2)) Qg)) Qi))
 (Ql (Qs (Uk (Qc (Qe 5 (pv 5)) (Qc (Je Yd (Je Yd (Je Uz (Q8 Vv T.m_int (Qc (Qe 2 (pv 2)) Qg)) Qi) (Qe 3 (pv 3))) (Je Vt Qi (Qe 1 (pv 1)))) (Qc Qi Qg))))))))))) (fun us S hl hp=>?_))
 ·exact hf.2 [.d (.lst (is.map .int)),.d (.int a)] S rfl ⟨is,a,rfl,ha⟩
 ·obtain⟨is,a,rfl,ha⟩:=hp
  rw[show Q3 (["_law_script", "_law_at", "_law_cell", "_law_whole", "_law_one", "_law_digits"]:List Str).length [U.d (.lst (is.map .int)),.d (.int a)]=[some (.d (.lst (is.map .int))),some (.d (.int a)),none,none,none,none] from rfl]
  simp! only[List.length_map]
  obtain⟨c,hc⟩ : ∃ c:Int,(if decide ((a:Int) < (is.length:Int))=true then ixU (U.d (D.lst (List.map D.int is))) (U.d (D.int ↑a)) S else Res.ok (U.d (D.int 0)) S)=.ok (.d (.int c)) S:=by
   by_cases h:(a:Int) < (is.length:Int)
   ·rw[if_pos (decide_eq_true h)]
    have h':a < is.length:=by omega
    exact⟨is[a],(LstU.lst (S:=S)).ix (by rw[List.getElem?_map,List.getElem?_eq_getElem h']; rfl)⟩
   ·rw[if_neg (by simpa using h)]; exact⟨0,rfl⟩
  rw[hc]
  have hsl:slU (.d (.lst (is.map .int))) none (some 63) S=.ok (.d (.lst (cutL (is.map .int) none (some 63)))) S:=rfl
  have hit:∀ ds:List D,Z6 (.d (.lst ds)) S=.ok ⟨ds.map .d,none⟩ S:=fun _=>rfl
  simp! only[Uq,hsl,hit]
  refine loop (K:=fun f=>ExZ S _ (Jc (f.seq _))) (I:=fun us ρ S'=>S'=S∧∃ (h:Int) (v4:Option U),(∀ u∈us,∃ i,u=.d (.int i))∧0≤h∧h < 2305843009213693951 ∧
   ρ=[some (.d (.lst (is.map .int))),some (.d (.int a)),some (.d (.int c)),some (.d (.int h)),v4,none]) ?_ ?_ ?_
  ·rintro u us ρ S' ⟨rfl,h,v4,hus,h0,h1,rfl⟩
   obtain⟨i,rfl⟩:=hus u List.mem_cons_self
   refine⟨_,_,rfl,?_⟩
   simp! only[mulU_r _ (by decide:(-(2 ^ 64:Int) < 1000003∧(1000003:Int) < 2 ^ 64)),intU_int,modU_pos _ (by decide:(0:Int) < 2305843009213693951)]
   exact⟨trivial,_,_,fun w hw=>hus w (List.mem_cons_of_mem _ hw),Int.emod_nonneg _ (by decide),Int.emod_lt_of_pos _ (by decide),rfl⟩
  ·rintro ρ S' ⟨rfl,h,v4,hus,h0,h1,rfl⟩
   have hp:powU (.d (.int 10)) (.d (.int 18)) S'=.ok (.d (.int 1000000000000000000)) S':=rfl
   simp! only[absU_int,hp,intU_int,modU_pos _ (by decide:(0:Int) < 2305843009213693951),mulU_l _ (by decide:(-(2 ^ 64:Int) < 7919∧(7919:Int) < 2 ^ 64))]
   have m0:=Int.emod_nonneg c (show (2305843009213693951:Int) ≠ 0 by decide)
   have m1:=Int.emod_lt_of_pos c (show (0:Int) < 2305843009213693951 by decide)
   have mk:∀ x y z:U,mkM [x,y,z] S'=.ok (.r S'.length) (S'++[.lst [x,y,z]]):=fun x y z=>if_pos (show 3≤sizeLine from sz5 (by decide))
   by_cases hb:(1000000000000000000:Int)≤(if c < 0 then -c else c)
   ·simp only[decide_eq_true hb,bind_ok,bind_err,bind_bad,fl_ok,fl_err,fl_bad,seq_nx,seq_rt,seq_err,seq_bk,seq_ct,seq_bad,bodyR_rt,bodyR_nx,bodyR_err,asB_bl,tru_bl,iff_f,iff_t,leU_int,ltU_int,gtU_int,geU_int,subU_int,addU_int,eqU_int,neU_int,tuple_two,mkE_one,len_tup,len_lst,c1_one,c2_two,rd0,rdS,norm_d,dat_d,gFl_none,gRs_none,List.set_cons_zero,List.set_cons_succ,Bool.not_true,Bool.not_false,Bool.false_eq_true,↓reduceIte,mk]
    exact⟨_,.refl _,_,rfl,_,_,_,rfl,by split<;>omega,by omega,by omega,by omega⟩
   ·simp only[decide_eq_false hb,bind_ok,bind_err,bind_bad,fl_ok,fl_err,fl_bad,seq_nx,seq_rt,seq_err,seq_bk,seq_ct,seq_bad,bodyR_rt,bodyR_nx,bodyR_err,asB_bl,tru_bl,iff_f,iff_t,leU_int,ltU_int,gtU_int,geU_int,subU_int,addU_int,eqU_int,neU_int,tuple_two,mkE_one,len_tup,len_lst,c1_one,c2_two,rd0,rdS,norm_d,dat_d,gFl_none,gRs_none,List.set_cons_zero,List.set_cons_succ,Bool.not_true,Bool.not_false,Bool.false_eq_true,↓reduceIte,mk]
    exact⟨_,.refl _,_,rfl,_,_,_,rfl,by omega,by omega,by omega,by omega⟩
  ·refine⟨rfl,7,none,fun u hu=>?_,by decide,by decide,rfl⟩
   obtain⟨d,hd,rfl⟩:=List.mem_map.mp hu
   obtain⟨i,_,rfl⟩:=List.mem_map.mp (cutL_mem hd)
   exact⟨i,rfl⟩
end
end KL
namespace KL
open PySem PySem.Spec PyProof.Rows L2 DL
open He (ga ma)
open TL (tl)
def NmS (z:Str):Prop:=NameL (tl z)
theorem NmS.asc {z:Str} (h:NmS z):Asc z:=fun c hc=>by have:=h.2.2 c hc; omega
/-- names in a list,not too many -/
structure Nms (S:Qa) (n:Nat) (u:U) (zs:List Str):Prop where
 at_:LstU S (zs.map .str) u
 ne:u ≠ .r n
 ok:∀ z∈zs,NmS z
 few:zs.length≤1000
theorem Nms.drew {S S':Qa} {n:Nat} {u:U} {zs:List Str} (h:Nms S n u zs) (d:Drew n S S'):Nms S' n u zs:=⟨h.at_.drew d h.ne,h.ne,h.ok,h.few⟩
def NameOk (f:Fn):Prop:=∀ (n:Nat) (u p:U) (zs ps:List Str) (S:Qa),Bag S n→Nms S n u zs→Nms S n p ps→∃ (z:Str) (S':Qa),f [.r n,u,p] S=.ok (.d (.str z)) S'∧Drew n S S'∧NmS z∧(zs.length < 26→z ∉ zs)
section
variable {P:Program} {w:World} {K:PySem.W.Frag} {mg:Str→Option Value} {base:Heap}
theorem Jf:FnScope ["_law_bag_here", "_law_taken", "_law_pool", "_law_letters", "_law_kind", "_law_word", "_law_turn", "_law_spot", "_law_first"] ["_law_bag_here", "_law_taken", "_law_pool"] (defScope Uc):=⟨rfl,rfl,rfl,by decide +kernel,rfl,by decide +kernel,by decide +kernel⟩
theorem dk_name (T:Txt P K mg):∃ f,FM P w K mg base 3 "_law_name" ["_law_bag_here", "_law_taken", "_law_pool"] f∧NameOk f:=by
 obtain⟨takeF,F_law_take,hT⟩:=dk_take (w:=w) (base:=base) T
 obtain⟨ofF,F_law_of,hO⟩:=dk_of (w:=w) (base:=base) T
 refine Exists.imp (fun f hf=>⟨hf.1,fun n u p zs ps S b hz hp=>?_⟩) (Vy (P:=P) (w:=w) (base:=base) (k:=2) (fun us S=>∃ n u p zs ps,us=[.r n,u,p]∧Nms S n u zs∧Nms S n p ps) (fun us S y=>∃ z,y=.str z∧NmS z∧∀ n u p (zs:List Str),us=[.r n,u,p]→LstU S (zs.map .str) u→zs.length < 26→z ∉ zs) T.F_law_name Jf (fun _ _ _ _ _ _ us hl=>match us,hl with | [_,_,_],_=>rfl) (fun cdv A outer s H E hA hr=>(Qh (Q6 (i:=3) Jf.nd rfl (by first | exact Or.inl rfl | exact Or.inr rfl) Uj)
 (Qh (Q6 (i:=4) Jf.nd rfl (by first | exact Or.inl rfl | exact Or.inr rfl) (Qp hA F_law_take (hr.mono (by decide)) (takes_of rfl rfl rfl rfl) (Qc (Qe 0 (pv 0)) (Qc Qi Qg))))
 (Qh (Q5 (PDW.pt (pdw_and (Qt (Xo hr) (Qe 4 (pv 4)) Qi (nomark _)) (pdw_and1 (Jd (Qe 2 (pv 2)))))) (Qh (Q6 (i:=5) Jf.nd rfl (by first | exact Or.inl rfl | exact Or.inr rfl) (Qp hA F_law_of (hr.mono (by decide)) (takes_of rfl rfl rfl rfl) (Qc (Qe 0 (pv 0)) (Qc (Qe 2 (pv 2)) Qg))))
 (Ql (Q5 (Qt (X6 hr) (Qe 5 (pv 5)) (Qe 1 (pv 1)) (by rfl)) (Ql (Qs (Qe 5 (pv 5)))) Qq))) Qq)
 (Qh (Q5 (PDW.pt (pdw_and (Qt od_lt (Qe 4 (pv 4)) Qi (nomark _)) (pdw_and1 (Jd (Qe 1 (pv 1)))))) (Ql (Q6 (i:=5) Jf.nd rfl (by first | exact Or.inl rfl | exact Or.inr rfl) (Qp hA F_law_of (hr.mono (by decide)) (takes_of rfl rfl rfl rfl) (Qc (Qe 0 (pv 0)) (Qc (Qe 1 (pv 1)) Qg))))) (Ql (Q6 (i:=5) Jf.nd rfl (by first | exact Or.inl rfl | exact Or.inr rfl) (Uw PySem.F.plainAttrs_str PySem.F.slot_str_join PySem.F.type_str_join md_join Uj (Qc (pd_lc (own:=[("_law_turn",6)]) rfl Jf.nd (Yh T.m_range (Qc (Je Yd Qi (Qp hA F_law_take (hr.mono (by decide)) (takes_of rfl rfl rfl rfl) (Qc (Qe 0 (pv 0)) (Qc Qi Qg)))) Qg)) (blkOk_by (own:=[("_law_turn",6)]) (N:=["_law_bag_here", "_law_taken", "_law_pool", "_law_letters", "_law_kind", "_law_word", "_law_turn", "_law_spot", "_law_first"]) (sc:=defScope Uc) (by decide +kernel)) (by decide) (fun _ _ _ _ _=>(Qn (i:=6) Jf.nd rfl (by first | exact Or.inl rfl | exact Or.inr rfl))) (fun _ _ _ _ _=>J8) (fun _ _ _ _ _=>(Qp hA F_law_of (hr.mono (by decide)) takes0 (Qc (Qe 0 (pv 0)) (Qc (Qe 3 (pv 3)) Qg))))) Qg)))))
 (Qh (pds_par (i:=7) (j:=8) rfl Jf.nd rfl rfl (by decide) rfl rfl (Qc (Qp hA F_law_take (hr.mono (by decide)) (takes_of rfl rfl rfl rfl) (Qc (Qe 0 (pv 0)) (Qc (Qo Jk T.m_len (Qc (Qe 5 (pv 5)) Qg)) Qg))) (Qc (Qp hA F_law_take (hr.mono (by decide)) (takes_of rfl rfl rfl rfl) (Qc (Qe 0 (pv 0)) (Qc Qi Qg))) Qg)) (fun h=>ps_par (by rfl) Jf.nd rfl rfl (by decide) rfl rfl h (by rfl)))
 (Qh (Jp (passes_of rfl) rfl (Yh T.m_range (Qc Qi Qg)) (Qn (i:=6) Jf.nd rfl (by first | exact Or.inl rfl | exact Or.inr rfl)) (Qh (Q6 (i:=5) Jf.nd rfl (by first | exact Or.inl rfl | exact Or.inr rfl) (Je Yd (Je Yd (Vl sld (Qe 5 (pv 5)) Yp (Yq (Qe 7 (pv 7)))) (Qw ixd (Qe 3 (pv 3)) (Je Uz (Je Yd (Qe 8 (pv 8)) (Qe 6 (pv 6))) Qi))) (Vl sld (Qe 5 (pv 5)) (Yq (Je Yd (Qe 7 (pv 7)) Qi)) Yp)))
 (Ql (Q5 (Qt (X6 hr) (Qe 5 (pv 5)) (Qe 1 (pv 1)) (by rfl)) (Ql (Qs (Qe 5 (pv 5)))) Qq))))
 (Ql (Qs (Qe 5 (pv 5))))))))))) (fun us S hl hb hp=>?_))
 ·obtain⟨y,S',e,dr,z,rfl,h,h2⟩:=hf.2 [.r n,u,p] S rfl b ⟨n,u,p,zs,ps,rfl,hz,hp⟩
  exact⟨z,S',e,dr,h,h2 n u p zs rfl hz.at_⟩
 ·obtain⟨n,u,p,zs,ps,rfl,hz,hp⟩:=hp
  have hb:Bag S n:=hb
  refine Ye.mono (po:=fun y=>∃ z,y=.str z∧NmS z∧(zs.length < 26→z ∉ zs)) ?_ (fun y ⟨z,h1,h2,h3⟩=>⟨z,h1,h2,fun n' u' p' zs' e h=>by
   simp only[List.cons.injEq] at e
   obtain⟨_,rfl,_⟩:=e
   rw[← strs_inj (hz.at_.inj h)]
   exact h3⟩)
  show Ye n S _ _
  rw[show Q3 (["_law_bag_here", "_law_taken", "_law_pool", "_law_letters", "_law_kind", "_law_word", "_law_turn", "_law_spot", "_law_first"]:List Str).length [U.r n,u,p]=[some (.r n),some u,some p,none,none,none,none,none,none] from rfl]
  obtain⟨kd,S1,e1,d1,hk⟩:=hT n 4 S hb (by decide) (by decide)
  have b1:=d1.bag hb
  have z1:=hz.drew d1
  have p1:=hp.drew d1
  have zasc:∀ z∈zs,Asc z:=fun z h=>(hz.ok z h).asc
  have habc:(Str.ofString "abcdefghijklmnopqrstuvwxyz")=abc:=rfl
  simp! only[hb.norm,e1,b1.norm,z1.at_.norm,p1.at_.norm,p1.at_.tru,habc]
  -- one of the pool
  refine seq_cut (Z:=Ye n S _) (I:=fun ρ S'=>Drew n S S'∧∃ v5:Option U,ρ=[some (.r n),some u,some p,some (.d (.str abc)),some (.d (.int kd)),v5,none,none,none]) ?_ ?_
  ·by_cases hk0:(kd:Int)=0∧ps ≠ []
   ·obtain⟨hk0,hps⟩:=hk0
    have he:(ps.map D.str).isEmpty=false:=by cases ps with | nil=>exact absurd rfl hps | cons _ _=>rfl
    obtain⟨y,S2,e2,d2,hy⟩:=hO n p (ps.map .str) S1 b1 (.of p1.at_) hp.ne (by simpa using hps) (by rw[List.length_map]; exact hp.few)
    obtain⟨wd,hw,rfl⟩:=List.mem_map.mp hy
    have z2:=z1.drew d2
    simp only[decide_eq_true hk0,he,bind_ok,bind_err,bind_bad,fl_ok,fl_err,fl_bad,seq_nx,seq_rt,seq_err,seq_bk,seq_ct,seq_bad,bodyR_rt,bodyR_nx,bodyR_err,asB_bl,tru_bl,iff_f,iff_t,leU_int,ltU_int,gtU_int,geU_int,subU_int,addU_int,eqU_int,neU_int,tuple_two,mkE_one,len_tup,len_lst,c1_one,c2_two,rd0,rdS,norm_d,dat_d,gFl_none,gRs_none,List.set_cons_zero,List.set_cons_succ,Bool.not_true,Bool.not_false,Bool.false_eq_true,↓reduceIte,b1.norm,p1.at_.norm,e2,z2.at_.norm,z2.at_.isIn (neg:=true) (hp.ok wd hw).asc zasc]
    by_cases hin:wd∈zs
    ·simp only[decide_eq_true hin,inB,bind_ok,bind_err,bind_bad,fl_ok,fl_err,fl_bad,seq_nx,seq_rt,seq_err,seq_bk,seq_ct,seq_bad,bodyR_rt,bodyR_nx,bodyR_err,asB_bl,tru_bl,iff_f,iff_t,leU_int,ltU_int,gtU_int,geU_int,subU_int,addU_int,eqU_int,neU_int,tuple_two,mkE_one,len_tup,len_lst,c1_one,c2_two,rd0,rdS,norm_d,dat_d,gFl_none,gRs_none,List.set_cons_zero,List.set_cons_succ,Bool.not_true,Bool.not_false,Bool.false_eq_true,↓reduceIte]
     exact .inl ⟨_,_,rfl,d1.trans d2,_,rfl⟩
    ·simp only[decide_eq_false hin,inB,bind_ok,bind_err,bind_bad,fl_ok,fl_err,fl_bad,seq_nx,seq_rt,seq_err,seq_bk,seq_ct,seq_bad,bodyR_rt,bodyR_nx,bodyR_err,asB_bl,tru_bl,iff_f,iff_t,leU_int,ltU_int,gtU_int,geU_int,subU_int,addU_int,eqU_int,neU_int,tuple_two,mkE_one,len_tup,len_lst,c1_one,c2_two,rd0,rdS,norm_d,dat_d,gFl_none,gRs_none,List.set_cons_zero,List.set_cons_succ,Bool.not_true,Bool.not_false,Bool.false_eq_true,↓reduceIte]
     exact .inr ⟨_,_,rfl,drawZ (d1.trans d2) ⟨wd,rfl,hp.ok wd hw,fun _=>hin⟩⟩
   ·have:(if decide ((kd:Int)=0)=true then Res.ok (!(List.map D.str ps).isEmpty) S1 else Res.ok false S1)=.ok false S1:=by
     by_cases h0:(kd:Int)=0
     ·have:ps=[]:=by
       cases ps with
       | nil=>rfl
       | cons _ _=>exact absurd ⟨h0,by simp⟩ hk0
      rw[if_pos (decide_eq_true h0),this]; rfl
     ·rw[if_neg (by simpa using h0)]
    rw[this]
    simp! only[]
    exact .inl ⟨_,_,rfl,d1,_,rfl⟩
  rintro ρ S2 ⟨d2,v5,rfl⟩
  clear b1 z1 p1 e1 d1 S1
  have b2:=d2.bag hb
  have z2:=hz.drew d2
  simp! only[b2.norm,z2.at_.norm,z2.at_.tru]
  -- a taken name,or letters
  refine seq_cut (Z:=Ye n S _) (I:=fun ρ S'=>Drew n S S'∧∃ z0:Str,NmS z0∧ρ=[some (.r n),some u,some p,some (.d (.str abc)),some (.d (.int kd)),some (.d (.str z0)),none,none,none]) ?_ ?_
  ·by_cases hk0:(kd:Int) < 2∧zs ≠ []
   ·obtain⟨hk0,hps⟩:=hk0
    have he:(zs.map D.str).isEmpty=false:=by cases zs with | nil=>exact absurd rfl hps | cons _ _=>rfl
    obtain⟨y,S3,e3,d3,hy⟩:=hO n u (zs.map .str) S2 b2 (.of z2.at_) hz.ne (by simpa using hps) (by rw[List.length_map]; exact hz.few)
    obtain⟨wd,hw,rfl⟩:=List.mem_map.mp hy
    simp only[decide_eq_true hk0,he,bind_ok,bind_err,bind_bad,fl_ok,fl_err,fl_bad,seq_nx,seq_rt,seq_err,seq_bk,seq_ct,seq_bad,bodyR_rt,bodyR_nx,bodyR_err,asB_bl,tru_bl,iff_f,iff_t,leU_int,ltU_int,gtU_int,geU_int,subU_int,addU_int,eqU_int,neU_int,tuple_two,mkE_one,len_tup,len_lst,c1_one,c2_two,rd0,rdS,norm_d,dat_d,gFl_none,gRs_none,List.set_cons_zero,List.set_cons_succ,Bool.not_true,Bool.not_false,Bool.false_eq_true,↓reduceIte,b2.norm,z2.at_.norm,e3]
    exact .inl ⟨_,_,rfl,d2.trans d3,wd,hz.ok wd hw,rfl⟩
   ·have:(if decide ((kd:Int) < 2)=true then Res.ok (!(List.map D.str zs).isEmpty) S2 else Res.ok false S2)=.ok false S2:=by
     by_cases h0:(kd:Int) < 2
     ·have:zs=[]:=by
       cases zs with
       | nil=>rfl
       | cons _ _=>exact absurd ⟨h0,by simp⟩ hk0
      rw[if_pos (decide_eq_true h0),this]; rfl
     ·rw[if_neg (by simpa using h0)]
    rw[this]
    obtain⟨m,S3,e3,d3,hm⟩:=hT n 8 S2 b2 (by decide) (by decide)
    have b3:=d3.bag b2
    have hty:tyU "str" (U.d (.str (Str.ofString ""))) S2=true:=rfl
    have hrg:Xc [.d (.int (1 + (m:Int)))] S3=.ok ⟨Jg 0 (1 + m),none⟩ S3:=by
     rw[show (1:Int) + (m:Int)=((1 + m:Nat):Int) by omega]
     exact Zj (i:=1 + m) S3 (by omega)
    have hwp:Yn [some (U.r n),some u,some p,some (.d (.str abc)),some (.d (.int kd)),v5,none,none,none] ([((Str.ofString "_law_turn"),6)].map fun x=>x.snd)=[some (U.r n),some u,some p,some (.d (.str abc)),some (.d (.int kd)),v5,none,none,none]:=rfl
    simp! [b2.norm,e3,hty,hrg,hwp]
    obtain⟨xs,S4,e4,hxl,⟨d4,_⟩,hx⟩:=lcU_inv (T:=fun u ρ S=>Res.ok (List.set ρ 6 (some u)) S) (El:=fun ρ S=>((rdV ρ 0 S).bind fun x S=>((rdV ρ 3 S).bind fun x S=>Res.ok [x] S).bind fun xs S=>Res.ok (x :: xs) S).bind ofF)
     (ρ:=[some (U.r n),some u,some p,some (.d (.str abc)),some (.d (.int kd)),v5,none,none,none]) (fun S'=>Drew n S2 S'∧Bag S' n) (fun x=>∃ c,x=.d (.str ⟨#[c]⟩)∧97≤c∧c≤122) (Jg 0 (1 + m)) [] S3 (fun t ht S' ⟨dd,bb⟩=>by
      obtain⟨y,S5,e5,d5,hy⟩:=hO n (.d (.str abc)) _ S' bb (.str (by rw[abc_len]; decide)) (fun e=>nomatch e) (by rw[abc_tl]; simp) (by rw[List.length_map,abc_tl]; simp)
      obtain⟨c,hc,rfl⟩:=List.mem_map.mp hy
      refine⟨_,_,S5,rfl,?_,⟨dd.trans d5,d5.bag bb⟩,c,rfl,abc_mem hc⟩
      simp! only[bb.norm,e5]) ⟨d3,b3⟩ (by show 0 + _≤_; rw[Jg,List.length_map,List.length_range]; exact sz10 (by omega))
    rw[e4]
    obtain⟨cs,rfl,hcs⟩:=signs_of hx
    have hcl:cs.length=1 + m:=by rw[List.length_map,List.length_map,List.length_map,Jg,List.length_map,List.length_range] at hxl; exact hxl
    have hjn:joinU (.d (.str (Str.ofString ""))) [.d (.lst ((cs.map fun c=>(⟨#[c]⟩ : Str)).map .str))] S4=.ok (.d (.str (ofSigns cs))) S4:=join_signs (by omega) S4
    simp! only[List.nil_append,mkL_d (ds:=(cs.map fun c=>(⟨#[c]⟩ : Str)).map .str) (by rw[List.length_map,List.length_map]; omega),hjn]
    exact .inl ⟨_,_,rfl,d2.trans d4,_,(show NameL _ by rw[tl_signs]; exact⟨by omega,by omega,hcs⟩),rfl⟩
  rintro ρ S3 ⟨d3,z0,nz0,rfl⟩
  clear b2 z2 d2 S2
  have b3:=d3.bag hb
  have hz0:z0.length=(tl z0).length:=TL.len_tl z0
  have hz1:1≤(tl z0).length:=nz0.1
  have hz2:(tl z0).length≤8:=nz0.2.1
  have hln:∀ S:Qa,lenU (.d (.str z0)) S=.ok (.d (.int ((tl z0).length:Nat))) S:=fun S=>by rw[← hz0]; exact if_pos (sz10 (by omega))
  obtain⟨sp,S4,e4,d4,hsp⟩:=hT n ((tl z0).length:Nat) S3 b3 (by omega) (by omega)
  have b4:=d4.bag b3
  obtain⟨f,S5,e5,d5,hf⟩:=hT n 26 S4 b4 (by decide) (by decide)
  have b5:=d5.bag b4
  have d5':=d3.trans (d4.trans d5)
  have z5:=hz.drew d5'
  have hsp':sp < (tl z0).length:=by omega
  have hrg:Xc [.d (.int 26)] S5=.ok ⟨Jg 0 26,none⟩ S5:=Zj (i:=26) S5 (by omega)
  simp! only[b3.norm,hln,e4,b4.norm,e5,hrg]
  -- for turn in range(26)
  refine loop (K:=fun f=>Ye n S _ (Jc (f.seq _))) (I:=fun us ρ S'=>S'=S5∧∃ (i:Nat) (z:Str) (v6:Option U),us=(List.range' i (26 - i)).map (fun j=>U.d (.int (0 + (j:Nat))))∧i≤26∧(∃ c,tl z=(tl z0).set sp c)∧NmS z∧(∀ j < i,Uh (tl z0) sp f j∈zs) ∧
   ρ=[some (.r n),some u,some p,some (.d (.str abc)),some (.d (.int kd)),some (.d (.str z)),v6,some (.d (.int sp)),some (.d (.int f))]) ?_ ?_ ?_
  ·rintro t us ρ S' ⟨rfl,i,z,v6,hus,hi,⟨c0,hc0⟩,nz,hw,rfl⟩
   have hi':i < 26:=by
    rcases Nat.lt_or_ge i 26 with h | h
    ·exact h
    ·rw[show 26 - i=0 by omega] at hus; cases hus
   rw[show 26 - i=(26 - (i + 1)) + 1 by omega,List.range'_succ,List.map_cons] at hus
   simp only[List.cons.injEq] at hus
   obtain⟨rfl,rfl⟩:=hus
   refine⟨_,_,rfl,?_⟩
   have hzl:(tl z).length=(tl z0).length:=by rw[hc0,List.length_set]
   have hzz:z.length=(tl z).length:=TL.len_tl z
   have em:((f:Int) + (0 + (i:Int))) % 26=(((f + i) % 26:Nat):Int):=by omega
   have hm26:(f + i) % 26 < 26:=Nat.mod_lt _ (by decide)
   have t1:tl (cutS z none (some (sp:Int)))=(tl z).take sp:=tl_cut_to z (by omega)
   have t2:tl (cutS z (some ((sp:Int) + 1)) none)=(tl z).drop (sp + 1):=tl_cut_from z (i:=sp + 1) (by omega)
   have l1:(cutS z none (some (sp:Int))).length=sp:=by rw[TL.len_tl,t1,List.length_take]; omega
   have l2:(cutS z (some ((sp:Int) + 1)) none).length=(tl z).length - (sp + 1):=by rw[TL.len_tl,t2,List.length_drop]
   have s1:slU (.d (.str z)) none (some (sp:Int)) S'=.ok (.d (.str (cutS z none (some (sp:Int))))) S':=if_pos (sz10 (by omega))
   have s2:slU (.d (.str z)) (some ((sp:Int) + 1)) none S'=.ok (.d (.str (cutS z (some ((sp:Int) + 1)) none))) S':=if_pos (sz10 (by omega))
   have hix:ixU (.d (.str abc)) (.d (.int (((f + i) % 26:Nat):Int))) S'=.ok (.d (.str ⟨#[97 + (f + i) % 26]⟩)) S':=by
    simp only[ixU]
    rw[if_pos (by rw[abc_len]; decide),abc_at hm26]
    rfl
   have ad1:addU (.d (.str (cutS z none (some (sp:Int))))) (.d (.str ⟨#[97 + (f + i) % 26]⟩)) S'=.ok (.d (.str (cutS z none (some (sp:Int))++(⟨#[97 + (f + i) % 26]⟩ : Str)))) S':=if_pos (by rw[l1]; exact sz10 (show sp + 1≤1000 by omega))
   have ad2:addU (.d (.str (cutS z none (some (sp:Int))++(⟨#[97 + (f + i) % 26]⟩ : Str)))) (.d (.str (cutS z (some ((sp:Int) + 1)) none))) S'=.ok (.d (.str (Uh (tl z0) sp f i))) S':=by
    have ew:cutS z none (some (sp:Int))++(⟨#[97 + (f + i) % 26]⟩ : Str)++cutS z (some ((sp:Int) + 1)) none=Uh (tl z0) sp f i:=by
     apply TL.ext_tl
     rw[TL.tl_append,TL.tl_append,t1,t2]
     show (tl z).take sp++[97 + (f + i) % 26]++(tl z).drop (sp + 1)=(tl z0).set sp (97 + (f + i) % 26)
     rw[set_cut (by omega),hc0,List.set_set]
    rw[← ew]
    refine if_pos ?_
    rw[TL.len_tl,TL.tl_append,List.length_append,t1,l2,List.length_take]
    exact sz10 (show min sp (tl z).length + 1 + ((tl z).length - (sp + 1))≤1000 by omega)
   have nw:NmS (Uh (tl z0) sp f i):=nz0.set (by omega)
   simp! only[Uq,s1,modU_pos _ (by decide:(0:Int) < 26),em,hix,ad1,s2,ad2,z5.at_.norm,z5.at_.isIn (neg:=true) nw.asc zasc]
   by_cases hin:Uh (tl z0) sp f i∈zs
   ·simp only[decide_eq_true hin,inB,bind_ok,bind_err,bind_bad,fl_ok,fl_err,fl_bad,seq_nx,seq_rt,seq_err,seq_bk,seq_ct,seq_bad,bodyR_rt,bodyR_nx,bodyR_err,asB_bl,tru_bl,iff_f,iff_t,leU_int,ltU_int,gtU_int,geU_int,subU_int,addU_int,eqU_int,neU_int,tuple_two,mkE_one,len_tup,len_lst,c1_one,c2_two,rd0,rdS,norm_d,dat_d,gFl_none,gRs_none,List.set_cons_zero,List.set_cons_succ,Bool.not_true,Bool.not_false,Bool.false_eq_true,↓reduceIte]
    refine⟨trivial,i + 1,_,_,rfl,by omega,⟨_,rfl⟩,nw,fun j hj=>?_,rfl⟩
    rcases Nat.lt_succ_iff_lt_or_eq.mp hj with h | rfl
    ·exact hw j h
    ·exact hin
   ·simp only[decide_eq_false hin,inB,bind_ok,bind_err,bind_bad,fl_ok,fl_err,fl_bad,seq_nx,seq_rt,seq_err,seq_bk,seq_ct,seq_bad,bodyR_rt,bodyR_nx,bodyR_err,asB_bl,tru_bl,iff_f,iff_t,leU_int,ltU_int,gtU_int,geU_int,subU_int,addU_int,eqU_int,neU_int,tuple_two,mkE_one,len_tup,len_lst,c1_one,c2_two,rd0,rdS,norm_d,dat_d,gFl_none,gRs_none,List.set_cons_zero,List.set_cons_succ,Bool.not_true,Bool.not_false,Bool.false_eq_true,↓reduceIte]
    exact drawZ d5' ⟨_,rfl,nw,fun _=>hin⟩
  ·rintro ρ S' ⟨rfl,i,z,v6,hus,hi,⟨c0,hc0⟩,nz,hw,rfl⟩
   have hi':i=26:=by
    have:=congrArg List.length hus
    rw[List.length_map,List.length_range'] at this
    have h0:0=26 - i:=this
    omega
   subst hi'
   simp! only[]
   exact drawZ d5' ⟨_,rfl,nz,fun h=>absurd (words_many hsp' hw) (by omega)⟩
  ·exact⟨rfl,0,z0,none,by rw[Jg,List.range_eq_range'],by decide,⟨(tl z0)[sp],(List.set_getElem_self hsp').symm⟩,nz0,fun j hj=>absurd hj (Nat.not_lt_zero j),rfl⟩
end
end KL
namespace KL
open PySem PySem.Spec PyProof.Rows L2 DL
open He (ga ma)
open TL (tl)
/-- small data -/
structure SmD (b:Nat) (d:D):Prop where
 n:J9 d=true
 w:wt d.py≤b
 dp:d.py.depth≤20
theorem SmD.mono {a b:Nat} {d:D} (h:SmD a d) (l:a≤b):SmD b d:=⟨h.n,Nat.le_trans h.w l,h.dp⟩
theorem SmD.gd {b:Nat} {d:D} (h:SmD b d) (hb:b≤10000000):GD d:=⟨Vw d h.n,nice_gd d h.n,Nat.le_trans h.w hb,Nat.le_trans h.dp (by decide)⟩
theorem Vn {α β:Type} (f:α→β):∀ (l:List α) (k:Nat),(l.map f).eraseIdx k=(l.eraseIdx k).map f
 | [],_=>rfl
 | _ :: _,0=>rfl
 | x :: t,k + 1=>by
  show f x :: (t.map f).eraseIdx k=_
  rw[Vn f t k]; rfl
theorem perm_erase {α:Type} : ∀ (l:List α) (k:Nat) (h:k < l.length),(l[k] :: l.eraseIdx k).Perm l
 | x :: t,0,_=>.refl _
 | x :: t,k + 1,h=>by
  have h':k < t.length:=Nat.lt_of_succ_lt_succ h
  have ih:=perm_erase t k h'
  show (t[k] :: x :: t.eraseIdx k).Perm (x :: t)
  exact (List.Perm.swap x t[k] _).trans (ih.cons x)
def PickedOk (f:Fn):Prop:=∀ (n:Nat) (u:U) (ds:List D) (m:Nat) (S:Qa),Bag S n→LstU S ds u→u ≠ .r n→m≤ds.length→ds.length≤1000→∃ (es:List D) (S':Qa),f [.r n,u,.d (.int m)] S=.ok (.d (.lst es)) S'∧Drew n S S'∧es.length=m∧∃ rest,(es++rest).Perm ds
section
variable {P:Program} {w:World} {K:PySem.W.Frag} {mg:Str→Option Value} {base:Heap}
theorem Zv:FnScope ["_law_bag_here", "_law_some", "_law_many", "_law_left", "_law_found", "_law_turn"] ["_law_bag_here", "_law_some", "_law_many"] (defScope Ub):=⟨rfl,rfl,rfl,by decide +kernel,rfl,by decide +kernel,by decide +kernel⟩
theorem dk_picked (T:Txt P K mg):∃ f,FM P w K mg base 2 "_law_picked" ["_law_bag_here", "_law_some", "_law_many"] f∧PickedOk f:=by
 obtain⟨takeF,F_law_take,hT⟩:=dk_take (w:=w) (base:=base) T
 refine Exists.imp (fun f hf=>⟨hf.1,fun n u ds m S b hu hn hm hd=>?_⟩) (Vy (P:=P) (w:=w) (base:=base) (k:=1) (fun us S=>∃ n u ds m,us=[.r n,u,.d (.int (m:Nat))]∧LstU S ds u∧u ≠ .r n∧m≤ds.length∧ds.length≤1000) (fun us S y=>∃ es,y=.lst es∧∀ n u ds m,us=[.r n,u,.d (.int (m:Nat))]→LstU S ds u→es.length=m∧∃ rest,(es++rest).Perm ds) T.F_law_picked Zv (fun _ _ _ _ _ _ us hl=>match us,hl with | [_,_,_],_=>rfl) (fun cdv A outer s H E hA hr=>(Qh (pds_par (i:=3) (j:=4) rfl Zv.nd rfl rfl (by decide) rfl rfl (Qc (Q8 cd_listM T.m_list (Qc (Qe 1 (pv 1)) Qg)) (Qc (Uk Qg) Qg)) (fun h=>ps_par (by rfl) Zv.nd rfl rfl (by decide) rfl rfl h (by rfl)))
 (Qh (Jp (passes_of rfl) rfl (Yh T.m_range (Qc (Qe 2 (pv 2)) Qg)) (Qn (i:=5) Zv.nd rfl (by first | exact Or.inl rfl | exact Or.inr rfl)) (Ql (Y8 (Uw PySem.F.plainAttrs_list PySem.F.slot_list_append PySem.F.type_list_append Yz (Qe 4 (pv 4)) (Qc (Uw PySem.F.plainAttrs_list PySem.F.slot_list_pop PySem.F.type_list_pop md_popAt (Qe 3 (pv 3)) (Qc (Qp hA F_law_take (hr.mono (by decide)) (takes_of rfl rfl rfl rfl) (Qc (Qe 0 (pv 0)) (Qc (Qo Jk T.m_len (Qc (Qe 3 (pv 3)) Qg)) Qg))) Qg)) Qg)))))
 (Zw 3 (Zw 4 (Ql (Qs (Qe 4 (pv 4))))))))) (fun us S hl hb hp=>?_))
 ·obtain⟨y,S',e,dr,es,rfl,h⟩:=hf.2 [.r n,u,.d (.int m)] S rfl b ⟨n,u,ds,m,rfl,hu,hn,hm,hd⟩
  exact⟨es,S',e,dr,h n u ds m rfl hu⟩
 ·obtain⟨n,u,ds,m,rfl,hu,hn,hm,hd⟩:=hp
  have hb:Bag S n:=hb
  refine Ye.mono (po:=fun y=>∃ es,y=.lst es∧es.length=m∧∃ rest,(es++rest).Perm ds) ?_ (fun y ⟨es,h1,h2⟩=>⟨es,h1,fun n' u' ds' m' e h=>by
   simp only[List.cons.injEq,U.d.injEq,D.int.injEq] at e
   obtain⟨_,rfl,e2,_⟩:=e
   obtain rfl:m=m':=by omega
   rw[← hu.inj h]
   exact h2⟩)
  show Ye n S _ _
  rw[show Q3 (["_law_bag_here", "_law_some", "_law_many", "_law_left", "_law_found", "_law_turn"]:List Str).length [U.r n,u,.d (.int m)]=[some (.r n),some u,some (.d (.int m)),none,none,none] from rfl]
  have hmk:mkM [] (S++[Cell.lst (List.map U.d ds)])=.ok (.r (S.length + 1)) (S++[Cell.lst (ds.map .d),.lst []]):=by
   unfold mkM
   rw[if_pos (show ([]:List U).length≤sizeLine from Nat.zero_le _),List.length_append,List.append_assoc]; rfl
  have hrg:∀ S:Qa,Xc [.d (.int (m:Int))] S=.ok ⟨Jg 0 m,none⟩ S:=fun S=>Zj S (by omega)
  simp! [hu.norm,hu.toM,hmk,hrg]
  refine loop (K:=fun f=>Ye n S _ (Jc (f.seq _))) (I:=fun us ρ S'=>∃ (S1:Qa) (left found:List D) (v5:Option U),Drew n S S1∧S'=S1++[.lst (left.map .d),.lst (found.map .d)]∧us.length + found.length=m∧(found++left).Perm ds ∧
   ρ=[some (.r n),some u,some (.d (.int m)),some (.r S.length),some (.r (S.length + 1)),v5]) ?_ ?_ ?_
  ·rintro t us ρ S' ⟨S1,left,found,v5,d1,rfl,hlen,hpm,rfl⟩
   refine⟨_,_,rfl,?_⟩
   rw[List.length_cons] at hlen
   have hl1:=d1.len
   have hll:left.length + found.length=ds.length:=by rw[← hpm.length_eq,List.length_append]; omega
   have b1:=d1.bag hb
   have hno0:∀ (S1:Qa) (a b:List U),S1.length=S.length→norm (S1++[.lst a,.lst b]) (.r S.length)=.r S.length:=fun S1 a b h=>by
    simp only[norm,← h,at0]
   have hno1:∀ (S1:Qa) (a b:List U),S1.length=S.length→norm (S1++[.lst a,.lst b]) (.r (S.length + 1))=.r (S.length + 1):=fun S1 a b h=>by
    simp only[norm,← h,at1]
   have hln:lenU (.r S.length) (S1++[.lst (left.map .d),.lst (found.map .d)])=.ok (.d (.int (left.length:Nat))) (S1++[.lst (left.map .d),.lst (found.map .d)]):=by
    simp only[lenU,← hl1,at0,List.length_map]
   have hty0:∀ (S1:Qa) (a b:List U),S1.length=S.length→tyU "list" (.r S.length) (S1++[.lst a,.lst b])=true:=fun S1 a b h=>by simp only[tyU,← h,at0]; rfl
   have hty1:∀ (S1:Qa) (a b:List U),S1.length=S.length→tyU "list" (.r (S.length + 1)) (S1++[.lst a,.lst b])=true:=fun S1 a b h=>by simp only[tyU,← h,at1]; rfl
   obtain⟨j,S2',e2,d2,hj⟩:=hT n (left.length:Nat) (S1++[.lst (left.map .d),.lst (found.map .d)]) b1.app (by omega) (by omega)
   obtain⟨S2,rfl,d2'⟩:=d2.split b1
   have hl2:S2.length=S.length:=by rw[d2'.len,hl1]
   have hj':j < left.length:=by omega
   have hpop:popU (.r S.length) [.d (.int j)] (S2++[.lst (left.map .d),.lst (found.map .d)])=.ok (.d left[j]) (S2++[.lst ((left.eraseIdx j).map .d),.lst (found.map .d)]):=by
    have hsi:seqIndex? (j:Int) left.length=some j:=by simp [seqIndex?]; omega
    simp only[popU,Zf,← hl2,at0,List.length_map,hsi]
    rw[if_pos (by omega),List.getElem?_map,List.getElem?_eq_getElem hj']
    simp only[Option.map_some,set0]
    rw[Vn]
   have happ:appU (.r (S.length + 1)) [.d left[j]] (S2++[.lst ((left.eraseIdx j).map .d),.lst (found.map .d)])=.ok (.d .non) (S2++[.lst ((left.eraseIdx j).map .d),.lst ((found++[left[j]]).map .d)]):=by
    simp only[appU,Zf,← hl2,at1,List.length_map]
    rw[if_pos (sz5l (by omega)),set1,List.map_append]
    rfl
   simp! [b1.app.norm,hno0 _ _ _ hl1,hno1 _ _ _ hl1,hty1 _ _ _ hl1,hty0 _ _ _ hl1,hln,e2,hpop,happ]
   refine⟨S2,_,_,_,d1.trans d2',rfl,by rw[List.length_append]; show _ + (_ + 1)=_; omega,?_,rfl⟩
   rw[List.append_assoc]
   exact (List.Perm.append_left found (perm_erase left j hj')).trans hpm
  ·rintro ρ S' ⟨S1,left,found,v5,d1,rfl,hlen,hpm,rfl⟩
   have hl1:=d1.len
   have f1:frzV [some (.r n),some u,some (.d (.int m)),some (.r S.length),some (.r (S.length + 1)),v5] 3 (S1++[.lst (left.map .d),.lst (found.map .d)])=S1++[.frz (.lst left),.lst (found.map .d)]:=by
    show frzN S.length _=_
    unfold frzN
    simp only[← hl1,at0,Q9,set0]
   have f2:frzV [some (.r n),some u,some (.d (.int m)),some (.r S.length),some (.r (S.length + 1)),v5] 4 (S1++[.frz (.lst left),.lst (found.map .d)])=S1++[.frz (.lst left),.frz (.lst found)]:=by
    show frzN (S.length + 1) _=_
    unfold frzN
    simp only[← hl1,at1,Q9,set1]
   have hno:norm (S1++[.frz (.lst left),.frz (.lst found)]) (.r (S.length + 1))=.d (.lst found):=by simp only[norm,← hl1,at1]
   simp! only[f1,f2,hno]
   refine drawZg _ d1 ⟨found,rfl,?_,left,hpm⟩
   have h0:0 + found.length=m:=hlen
   omega
  ·refine⟨S,ds,[],none,.refl hb,rfl,?_,.refl _,rfl⟩
   rw[Jg,List.length_map,List.length_range]; rfl
end
end KL
namespace KL
open PySem PySem.Spec PyProof.Rows L2 DL
open He (ga ma)
open TL (tl)
theorem strs_nodup {l:List Str} (h:l.Nodup):(l.map D.str).Nodup:=List.Pairwise.map D.str (fun a b hne e=>hne (by cases e; rfl)) h
theorem nodup_strs {l:List Str} (h:(l.map D.str).Nodup):l.Nodup:=List.Pairwise.of_map D.str (fun a b hne e=>hne (congrArg D.str e)) h
/-- what is picked of some texts -/
theorem picked_part {fs:List Str} {es rest:List D} (hp:(es++rest).Perm (fs.map .str)) (nd:fs.Nodup):∃ ys:List Str,es=ys.map .str∧ys.Nodup∧∀ z∈ys,z∈fs:=by
 have mem:∀ d∈es,∃ z∈fs,d=.str z:=fun d hd=>by
  obtain⟨z,hz,rfl⟩:=List.mem_map.mp (hp.mem_iff.mp (List.mem_append_left rest hd))
  exact⟨z,hz,rfl⟩
 have nde:es.Nodup:=(List.nodup_append.mp (hp.nodup_iff.mpr (strs_nodup nd))).1
 have key:∀ l:List D,(∀ d∈l,∃ z∈fs,d=.str z)→∃ ys:List Str,l=ys.map .str∧∀ z∈ys,z∈fs:=fun l=>by
  induction l with
  | nil=>exact fun _=>⟨[],rfl,fun _ h=>nomatch h⟩
  | cons d t ih =>
   intro hl
   obtain⟨ys,h1,h2⟩:=ih fun e he=>hl e (List.mem_cons_of_mem _ he)
   obtain⟨z,hz,rfl⟩:=hl d List.mem_cons_self
   refine⟨z :: ys,by rw[h1]; rfl,fun y hy=>?_⟩
   rcases List.mem_cons.mp hy with rfl | hy
   ·exact hz
   ·exact h2 y hy
 obtain⟨ys,rfl,hy⟩:=key es mem
 exact⟨ys,rfl,nodup_strs nde,hy⟩
/-- a layout as it is drawn: label,fields,keys,links -/
structure Lay where
 z:Str
 fs:List Str
 us:List (List Str)
 ls:List (List Str × Str)
def Lay.keyD (k:List Str):D:=.tup (k.map .str)
def Lay.refD (p:List Str × Str):D:=.tup [.tup (p.1.map .str),.str p.2]
def Lay.d (l:Lay):D:=.tup [.str l.z,.tup (l.fs.map .str),.tup (l.us.map Lay.keyD),.tup (l.ls.map Lay.refD)]
/-- some of these,each once -/
structure Part (fs k:List Str):Prop where
 ne:k ≠ []
 nd:k.Nodup
 sub:∀ z∈k,z∈fs
structure Lay.Ok (most:Nat) (l:Lay):Prop where
 z:NmS l.z
 f:∀ z∈l.fs,NmS z
 f0:l.fs ≠ []
 fm:l.fs.length≤most
 fd:l.fs.Nodup
 u:∀ k∈l.us,Part l.fs k
 ud:l.us.Pairwise fun a b=>¬ a.Perm b
 um:l.us.length≤2
 r:∀ p∈l.ls,Part l.fs p.1∧NmS p.2
 rm:l.ls.length≤2
/-- the keys of a layout: all fields,where none was named -/
def Lay.keys (l:Lay):List (List Str):=if l.us=[] then [l.fs] else l.us
section
variable {P:Program} {w:World} {K:PySem.W.Frag} {mg:Str→Option Value} {base:Heap}
/-- a link to one of these,of as many columns as its first key -/
def LinkOk (ls:List Lay) (p:List Str × Str):Prop:=∃ o∈ls,p.2=o.z∧p.1.length=(o.keys.headD []).length
structure Lay.In (ls:List Lay) (l:Lay):Prop where
 nw:ls.length < 26→l.z ∉ ls.map Lay.z
 lk:∀ p∈l.ls,LinkOk ls p
end
end KL
namespace KL
open PySem PySem.Spec PyProof.Rows L2 DL
open He (ga ma)
open TL (tl)
theorem F5_five (f:U→U→U→U→U→Qa→Res U) (a b c d e:U) (S:Qa):F5 f [a,b,c,d,e] S=f a b c d e S:=rfl
section
variable {P:Program} {w:World} {K:PySem.W.Frag} {mg:Str→Option Value} {base:Heap}
theorem kb_Layout {kws:List (Str × V)} {fd:FuncData} (hk:kws ≠ []) (F:FunD K "__init__" "Layout.__init__" (defArgs Qu) (defBody Qu) (defScope Qu) [] kws (ma K (ga K "Layout") "__init__") fd) :
  KBn K fd ["self", "name", "columns", "keys", "refers"] 3 ["keys", "refers"] (fun us ws=>us++ws) (fun vs zs=>vs++zs):=by
 obtain⟨mv,h⟩:=FunD.kbinds0 (ps:=["self", "name", "columns", "keys", "refers"]) F 3 ["keys", "refers"] [] (fun us _ ws=>us++ws) hk (fun q hq=>nomatch hq) (fun r1 _ r2=>Vals.append r1 r2) (fun D doc pm an cdv ct us mv ws l1 l2 l3=>match us,l1,mv,l2,ws,l3 with | [_,_,_],_,[],_,[_,_],_=>rfl)
 exact h
theorem hgU_app {K:PySem.W.Frag} (ι:List Addr) (G:Hp) (a:Addr) (vs:List V) (us:List U) (zs:List V) (ws:List U) (h:RUs K ι G vs us) (h':RUs K ι G zs ws):∃ ys,(fun vs zs:List V=>vs++zs) (.ref a :: vs) zs=.ref a :: ys∧RUs K ι G ys (us++ws):=⟨vs++zs,rfl,Jz h h'⟩
end
end KL
namespace KL
open PySem PySem.Spec PyProof.Rows L2 DL
open He (ga ma)
open TL (tl)
/-- the fields of a layout,frozen; ks: all keys -/
def layG (n:D) (cs ks rs:List D):List (Str × D):=[("name",n),("columns",.tup cs),("all_keys",.tup ks),("key",ks.headD .non),("refers",.tup rs)]
theorem lay_frz (S:Qa) (n:D) (cs ks rs:List D) (h:ks ≠ []):frzN S.length (S++[.obj "Layout" (layF n cs ks rs)])=S++[.frz (.obj "Layout" (layG n cs ks rs))]:=by
 unfold frzN
 rw[Jm]
 have:allF (layF n cs ks rs)=some (layG n cs ks rs):=by unfold layF layG; rw[if_neg h]; rfl
 simp only[this,Xu]
end KL
namespace KL
open PySem PySem.Spec PyProof.Rows L2 DL
open He (ga ma)
open TL (tl)
theorem U8 (n:D) (cs ks rs:List D) (S:Qa):fldU ["Layout"] "name" (U.d (D.obj "Layout" (layG n cs ks rs))) S=.ok (.d n) S:=by simp [fldU,objU,layG,List.lookup,optR]<;>rfl
theorem lay_cols (n:D) (cs ks rs:List D) (S:Qa):fldU ["Layout"] "columns" (U.d (D.obj "Layout" (layG n cs ks rs))) S=.ok (.d (.tup cs)) S:=by simp [fldU,objU,layG,List.lookup,optR]<;>rfl
theorem lay_keys (n:D) (cs ks rs:List D) (S:Qa):fldU ["Layout"] "all_keys" (U.d (D.obj "Layout" (layG n cs ks rs))) S=.ok (.d (.tup ks)) S:=by simp [fldU,objU,layG,List.lookup,optR]<;>rfl
theorem lay_refs (n:D) (cs ks rs:List D) (S:Qa):fldU ["Layout"] "refers" (U.d (D.obj "Layout" (layG n cs ks rs))) S=.ok (.d (.tup rs)) S:=by simp [fldU,objU,layG,List.lookup,optR]<;>rfl
theorem lay_key1 (n:D) (cs ks rs:List D) (S:Qa):fldU ["Layout"] "key" (U.d (D.obj "Layout" (layG n cs ks rs))) S=.ok (.d (ks.headD .non)) S:=by simp [fldU,objU,layG,List.lookup,optR]<;>rfl
/-- what __eq__ compares -/
def V4 (gs:List (Str × D)):D:=.tup [(gs.lookup ("name" : Str)).getD .non,(gs.lookup ("columns" : Str)).getD .non,(gs.lookup ("all_keys" : Str)).getD .non,(gs.lookup ("refers" : Str)).getD .non]
noncomputable def leqF (a b:U) (S:Qa):Res U:=match a,b with
 | .d x,.d y=>match x,y with
  | .obj _ g1,.obj _ g2=>pre (∃ n cs ks rs n' cs' ks' rs',x=.obj "Layout" (layG n cs ks rs)∧y=.obj "Layout" (layG n' cs' ks' rs')∧okD (V4 g1)=true∧okD (V4 g2)=true) (.ok (.d (.bl (PyData.eqv (V4 g1).py (V4 g2).py))) S)
  | .obj _ _,y=>pre ((∃ n cs ks rs,x=.obj "Layout" (layG n cs ks rs))∧(tyN y).isSome=true) (.ok (.d (.bl false)) S)
  | _,_=>.bad
 | _,_=>.bad
section
variable {P:Program} {w:World} {K:PySem.W.Frag} {mg:Str→Option Value} {base:Heap}
theorem X8:FnScope ["self", "other", "mine"] ["self", "other"] (defScope Zz):=⟨rfl,rfl,rfl,by decide +kernel,rfl,by decide +kernel,by decide +kernel⟩
theorem dk_leqO (T:Txt P K mg):FO P w K mg base 1 (ma K (ga K "Layout") "__eq__") ["self", "other"] (F2 leqF):=by
 refine okMtO T.F_Layout___eq__ X8 (fun _ _ _ _ _ _ us hl=>match us,hl with | [_,_],_=>rfl) F2.len (fun cdv A outer s H E hr=>(Qh (Q5 (Y5 (Jd (Qo (cd_isiOwn T.isi_Layout) T.m_isinstance (Qc (Qe 1 (pv 1)) (Qc (Xd T.g_Layout) Qg))))) (Ql (Qs pd_bl)) Qq)
 (Qh (Q6 (i:=2) X8.nd rfl (by first | exact Or.inl rfl | exact Or.inr rfl) (Y6 (Qc (Jr (cs:=["Layout"]) (Qe 0 (pv 0)) (fun c hc=>by simp only[List.mem_cons,List.not_mem_nil,or_false] at hc; subst hc; exact⟨T.cls_Layout,T.na_Layout_name⟩)) (Qc (Jr (cs:=["Layout"]) (Qe 0 (pv 0)) (fun c hc=>by simp only[List.mem_cons,List.not_mem_nil,or_false] at hc; subst hc; exact⟨T.cls_Layout,T.na_Layout_columns⟩)) (Qc (Jr (cs:=["Layout"]) (Qe 0 (pv 0)) (fun c hc=>by simp only[List.mem_cons,List.not_mem_nil,or_false] at hc; subst hc; exact⟨T.cls_Layout,T.na_Layout_all_keys⟩)) (Qc (Jr (cs:=["Layout"]) (Qe 0 (pv 0)) (fun c hc=>by simp only[List.mem_cons,List.not_mem_nil,or_false] at hc; subst hc; exact⟨T.cls_Layout,T.na_Layout_refers⟩)) Qg))))))
 (Ql (Qs (pd_cmp (Xo hr) (Qe 2 (pv 2)) (Y6 (Qc (Jr (cs:=["Layout"]) (Qe 1 (pv 1)) (fun c hc=>by simp only[List.mem_cons,List.not_mem_nil,or_false] at hc; subst hc; exact⟨T.cls_Layout,T.na_Layout_name⟩)) (Qc (Jr (cs:=["Layout"]) (Qe 1 (pv 1)) (fun c hc=>by simp only[List.mem_cons,List.not_mem_nil,or_false] at hc; subst hc; exact⟨T.cls_Layout,T.na_Layout_columns⟩)) (Qc (Jr (cs:=["Layout"]) (Qe 1 (pv 1)) (fun c hc=>by simp only[List.mem_cons,List.not_mem_nil,or_false] at hc; subst hc; exact⟨T.cls_Layout,T.na_Layout_all_keys⟩)) (Qc (Jr (cs:=["Layout"]) (Qe 1 (pv 1)) (fun c hc=>by simp only[List.mem_cons,List.not_mem_nil,or_false] at hc; subst hc; exact⟨T.cls_Layout,T.na_Layout_refers⟩)) Qg))))) (nomark _))))))) (fun us S hl=>?_)
 match us,hl with
 | [.r _,_],_=>exact .bad _
 | [.d _,.r _],_=>exact .bad _
 | [.d x,.d y],_ =>
  show Qx S (leqF (.d x) (.d y) S) _
  unfold leqF
  simp only
  rw[show Q3 (["self", "other", "mine"]:List Str).length [U.d x,.d y]=[some (.d x),some (.d y),none] from rfl]
  split
  ·rename_i c1 g1 c2 g2
   refine Z7 fun ⟨n,cs,ks,rs,n',cs',ks',rs',hx,hy,o1,o2⟩=>?_
   cases hx
   cases hy
   have isi:Xp "Layout" (.d (.obj "Layout" (layG n' cs' ks' rs'))) (.d (.cls "Layout")) S=.ok (.d (.bl true)) S:=by simp [Xp,Vh,tyN,objU]
   have t1:∀ a b c d:D,mkT [.d a,.d b,.d c,.d d] S=.ok (.d (.tup [a,b,c,d])) S:=fun _ _ _ _=>rfl
   have he:eqU (.d (.tup [n,.tup cs,.tup ks,.tup rs])) (.d (.tup [n',.tup cs',.tup ks',.tup rs'])) S=.ok (.d (.bl (PyData.eqv (V4 (layG n cs ks rs)).py (V4 (layG n' cs' ks' rs')).py))) S:=eqU_ok o1 o2 S
   simp! [isi,U8,lay_cols,lay_keys,lay_refs,t1,he]
   exact .refl _
  ·rename_i c1 g1 y' hne
   refine Z7 fun ⟨⟨n,cs,ks,rs,hx⟩,ht⟩=>?_
   have isi:Xp "Layout" (.d y) (.d (.cls "Layout")) S=.ok (.d (.bl false)) S:=by
    show Vh "Layout" (.d y) S=_
    exact if_pos ht
   simp! [isi]
   exact .refl _
  ·exact .bad _
end
end KL
namespace KL
open PySem PySem.Spec PyProof.Rows L2 DL
open He (ga ma)
open TL (tl)
theorem nm_name {z:Str} (h:NmS z):Y0 (.str z)=true:=nameB_iff.mpr h
theorem tw_cons (pre:List Str) (x:Str) (r:List Str):twF pre (x :: r)=if x∈pre then some x else twF (pre++[x]) r:=rfl
theorem tw_none:∀ {r pre:List Str},(pre++r).Nodup→twF pre r=none
 | [],_,_=>rfl
 | x :: r,pre,h=>by
  rw[tw_cons,if_neg fun hx=>(List.nodup_append.mp h).2.2 x hx x List.mem_cons_self rfl]
  exact tw_none (by rw[List.append_assoc]; exact h)
theorem keyS_keyD (k:List Str):keyS (Lay.keyD k)=k:=by show (Jv (k.map .str)).getD []=k; rw[Yc]; rfl
theorem colsD_strs (k fs:List Str):Xq (Lay.keyD k) fs=(!k.isEmpty && (k.all (fun z=>decide (z∈fs)) && decide k.Nodup)):=by
 show (match Jv (k.map .str) with | some zs=>!zs.isEmpty && (zs.all (fun z=>decide (z∈fs)) && decide zs.Nodup) | none=>false)=_
 rw[Yc]
theorem colsD_part {fs k:List Str} (h:Part fs k):Xq (Lay.keyD k) fs=true:=by
 rw[colsD_strs,decide_eq_true h.nd,List.all_eq_true.mpr fun z hz=>decide_eq_true (h.sub z hz)]
 cases k with
 | nil=>exact absurd rfl h.ne
 | cons _ _=>rfl
abbrev Unl (us:List (List Str)):Prop:=us.Pairwise fun a b=>¬ a.Perm b
theorem keyF_app {fs:List Str} : ∀ (us met:List (List Str)) (i:Nat) (r:List D),(∀ k∈us,Part fs k)→Unl (met++us)→keyF fs met i (us.map Lay.keyD++r)=keyF fs (met++us) (i + us.length) r
 | [],met,i,r,_,_=>by rw[List.append_nil]; rfl
 | k :: us,met,i,r,h,hp=>by
  have hm:(met.any fun m=>decide (m.Perm k))=false:=by
   rw[List.any_eq_false]
   intro m hm
   rw[decide_eq_true_eq]
   exact (List.pairwise_append.mp hp).2.2 m hm k List.mem_cons_self
  rw[List.map_cons,List.cons_append,keyF_cons,colsD_part (h k List.mem_cons_self),keyS_keyD,hm,if_neg (by decide),keyF_app us (met++[k]) (i + 1) r (fun q hq=>h q (List.mem_cons_of_mem _ hq)) (by rw[List.append_assoc]; exact hp),List.append_assoc,List.length_cons]
  show keyF fs (met++k :: us) _ r=_
  rw[show i + 1 + us.length=i + (us.length + 1) by omega]
theorem refF_none {fs:List Str} : ∀ (ls:List (List Str × Str)) (i:Nat),(∀ p∈ls,Part fs p.1∧NmS p.2)→refF fs i (ls.map Lay.refD)=none
 | [],_,_=>rfl
 | p :: ls,i,h=>by
  obtain⟨h1,h2⟩:=h p List.mem_cons_self
  have hr:refD (Lay.refD p) fs=true:=by
   show (Xq (Lay.keyD p.1) fs && Y0 (.str p.2))=true
   rw[colsD_part h1,nm_name h2]; rfl
  rw[List.map_cons,refF_cons,hr,if_neg (by decide)]
  exact refF_none ls (i + 1) fun q hq=>h q (List.mem_cons_of_mem _ hq)
/-- label,fields and links that have no fault -/
structure Fine (z:Str) (fs:List Str) (ls:List (List Str × Str)):Prop where
 z:NmS z
 f:∀ z∈fs,NmS z
 f0:fs ≠ []
 fm:fs.length≤5
 fd:fs.Nodup
 r:∀ p∈ls,Part fs p.1∧NmS p.2
 rm:ls.length≤2
/-- keys that have no fault -/
structure FineK (fs:List Str) (ks:List (List Str)):Prop where
 u:∀ k∈ks,Part fs k
 d:Unl ks
theorem Lay.Ok.fine {l:Lay} (h:l.Ok 5):Fine l.z l.fs l.ls:=⟨h.z,h.f,h.f0,h.fm,h.fd,h.r,h.rm⟩
theorem Lay.Ok.fineU {m:Nat} {l:Lay} (h:l.Ok m):FineK l.fs l.us:=⟨h.u,h.ud⟩
theorem Lay.Ok.fineK {m:Nat} {l:Lay} (h:l.Ok m):FineK l.fs l.keys:=by
 unfold Lay.keys
 split
 ·refine⟨fun k hk=>?_,List.pairwise_singleton ..⟩
  obtain rfl:=List.mem_singleton.mp hk
  exact⟨h.f0,h.fd,fun _ h=>h⟩
 ·exact h.fineU
theorem Lay.keys_ne (l:Lay):l.keys ≠ []:=by
 unfold Lay.keys
 split
 ·simp
 ·assumption
theorem Lay.keys_le {m:Nat} {l:Lay} (h:l.Ok m):l.keys.length≤2:=by
 unfold Lay.keys
 split
 ·show 1≤2; decide
 ·exact h.um
theorem layD_fine {z:Str} {fs:List Str} {ls:List (List Str × Str)} {us:List (List Str)} (h:Fine z fs ls) (hu:FineK fs us) (r:List D) :
  layD (.str z) (fs.map .str) (us.map Lay.keyD++r) (ls.map Lay.refD)=match keyF fs us us.length r with | some i=>some ("BadKey", "index",.int i) | none=>none:=by
 have h1:(D.str z :: fs.map D.str).find? (fun d=>!Y0 d)=none:=by
  rw[List.find?_eq_none]
  intro d hd
  have:Y0 d=true:=by
   rcases List.mem_cons.mp hd with rfl | hd
   ·exact nm_name h.z
   ·obtain⟨y,hy,rfl⟩:=List.mem_map.mp hd; exact nm_name (h.f y hy)
  rw[this]; decide
 have h2:V3 (fs.map .str)=fs:=by unfold V3; rw[Yc]; rfl
 have h3:twS fs=none:=tw_none (by simpa using h.fd)
 have h4:=keyF_app (fs:=fs) us [] 0 r hu.u (by simpa using hu.d)
 rw[List.nil_append,Nat.zero_add] at h4
 unfold layD
 simp only[h1,h2,h3,h4,refF_none ls 0 h.r,List.length_map]
 rw[if_neg (by have:=h.fm; omega),if_neg (by have:=h.rm; omega)]
 all_goals (cases keyF fs us us.length r<;>rfl)
theorem layD_none {z:Str} {fs:List Str} {ls:List (List Str × Str)} {us:List (List Str)} (h:Fine z fs ls) (hu:FineK fs us) :
  layD (.str z) (fs.map .str) (us.map Lay.keyD) (ls.map Lay.refD)=none:=by
 have:=layD_fine h hu []
 rw[List.append_nil] at this
 exact this
theorem sub_len:∀ {k fs:List Str},k.Nodup→(∀ z∈k,z∈fs)→k.length≤fs.length
 | [],_,_,_=>Nat.zero_le _
 | x :: t,fs,nd,sub=>by
  have hx:=sub x List.mem_cons_self
  obtain⟨h1,h2⟩:=List.nodup_cons.mp nd
  have:=sub_len (k:=t) (fs:=fs.erase x) h2 fun z hz=>(List.mem_erase_of_ne (show z ≠ x from fun e=>h1 (e ▸ hz))).mpr (sub z (List.mem_cons_of_mem _ hz))
  rw[List.length_erase_of_mem hx] at this
  have h0:0 < fs.length:=List.length_pos_of_mem hx
  rw[List.length_cons]
  omega
theorem part_len {fs k:List Str} (h:Part fs k):k.length≤fs.length:=sub_len h.nd h.sub
theorem layF_keys (n:D) (cs ks rs:List D):layF n cs ks rs=layF n cs (if ks=[] then [.tup cs] else ks) rs:=by
 unfold layF
 split
 ·rw[if_neg (by simp)]
 ·rfl
structure WD (b dp:Nat) (d:D):Prop where
 n:J9 d=true
 w:wt d.py≤b
 dp:d.py.depth≤dp
theorem WD.mono {b c p q:Nat} {d:D} (h:WD b p d) (l:b≤c) (m:p≤q):WD c q d:=⟨h.n,Nat.le_trans h.w l,Nat.le_trans h.dp m⟩
theorem WD.gd {b p:Nat} {d:D} (h:WD b p d) (hb:b≤10000000) (hp:p≤60):GD d:=⟨Vw d h.n,nice_gd d h.n,Nat.le_trans h.w hb,Nat.le_trans h.dp hp⟩
theorem wd_all {b p:Nat} : ∀ {ds:List D},(∀ d∈ds,WD b p d)→wtAll (Jh ds)≤(b + 2) * ds.length∧PyData.depthAll (Jh ds)≤p
 | [],_=>⟨Nat.le_refl _,Nat.zero_le _⟩
 | d :: r,h=>by
  obtain⟨h1,h2⟩:=wd_all (ds:=r) fun e he=>h e (List.mem_cons_of_mem _ he)
  have:=h d List.mem_cons_self
  have hw:=this.w
  refine⟨?_,?_⟩
  ·show wt d.py + 2 + wtAll (Jh r)≤(b + 2) * (r.length + 1)
   rw[Nat.mul_add,Nat.mul_one]
   omega
  ·show max d.py.depth (PyData.depthAll (Jh r))≤p
   exact Nat.max_le.mpr ⟨this.dp,h2⟩
theorem wd_tup {b p m:Nat} {ds:List D} (h:∀ d∈ds,WD b p d) (l:ds.length≤m) (hm:m < 60):WD ((b + 2) * m + 3) (p + 1) (.tup ds):=by
 obtain⟨h1,h2⟩:=wd_all h
 refine⟨Xe.mpr ⟨by omega,fun d hd=>(h d hd).n⟩,?_,?_⟩
 ·show wtAll (Jh ds) + 3≤_
  have:=Nat.mul_le_mul_left (b + 2) l
  omega
 ·show PyData.depthAll (Jh ds) + 1≤_
  omega
theorem wd_nm {z:Str} (h:NmS z):WD 82 0 (.str z):=by
 have hl:z.length≤8:=by rw[TL.len_tl]; exact h.2.1
 exact⟨X7.mpr ⟨h.asc,by omega⟩,by show 10 * z.length + 2≤82; omega,Nat.zero_le _⟩
theorem wd_nms {ys:List Str} (h:∀ y∈ys,NmS y) (l:ys.length≤5):WD 423 1 (.tup (ys.map .str)):=by
 refine wd_tup (b:=82) (p:=0) (m:=5) (fun d hd=>?_) (by rw[List.length_map]; exact l) (by decide)
 obtain⟨y,hy,rfl⟩:=List.mem_map.mp hd
 exact wd_nm (h y hy)
theorem wd_key {fs k:List Str} (hf:∀ z∈fs,NmS z) (hm:fs.length≤5) (h:Part fs k):WD 423 1 (Lay.keyD k):=wd_nms (fun y hy=>hf y (h.sub y hy)) (Nat.le_trans (part_len h) hm)
theorem wd_keys {fs:List Str} {ks:List (List Str)} (hf:∀ z∈fs,NmS z) (hm:fs.length≤5) (h:∀ k∈ks,Part fs k) (l:ks.length≤20):WD 8503 2 (.tup (ks.map Lay.keyD)):=by
 refine wd_tup (b:=423) (p:=1) (m:=20) (fun d hd=>?_) (by rw[List.length_map]; exact l) (by decide)
 obtain⟨y,hy,rfl⟩:=List.mem_map.mp hd
 exact wd_key hf hm (h y hy)
theorem wd_ref {fs:List Str} {p:List Str × Str} (hf:∀ z∈fs,NmS z) (hm:fs.length≤5) (h:Part fs p.1∧NmS p.2):WD 853 2 (Lay.refD p):=by
 refine wd_tup (b:=423) (p:=1) (m:=2) (fun d hd=>?_) (Nat.le_refl _) (by decide)
 simp only[List.mem_cons,List.not_mem_nil,or_false] at hd
 rcases hd with rfl | rfl
 ·exact wd_key hf hm h.1
 ·exact (wd_nm h.2).mono (by decide) (by decide)
theorem wd_refs {fs:List Str} {ls:List (List Str × Str)} (hf:∀ z∈fs,NmS z) (hm:fs.length≤5) (h:∀ p∈ls,Part fs p.1∧NmS p.2) (l:ls.length≤2):WD 1713 3 (.tup (ls.map Lay.refD)):=by
 refine wd_tup (b:=853) (p:=2) (m:=2) (fun d hd=>?_) (by rw[List.length_map]; exact l) (by decide)
 obtain⟨y,hy,rfl⟩:=List.mem_map.mp hd
 exact wd_ref hf hm (h y hy)
theorem nice_all {ds:List D} {b p:Nat} (h:WD b p (.tup ds)):∀ d∈ds,J9 d=true:=(Xe.mp h.n).2
theorem lay_pre {z:Str} {fs:List Str} {ks:List (List Str)} {ls:List (List Str × Str)} (h:Fine z fs ls) (hk:FineK fs ks) (hl:ks.length≤20) {r:List D} (hr:∀ d∈r,J9 d=true) (hrl:r.length≤1):LayPre (.str z) (.tup (fs.map .str)) (.tup (ks.map Lay.keyD++r)) (.tup (ls.map Lay.refD)):=by
 have hfm:=h.fm
 have hrm:=h.rm
 refine⟨(wd_nm h.z).n,⟨.inr rfl,nice_all (wd_nms h.f h.fm),?_⟩,⟨.inr rfl,fun d hd=>?_,?_⟩,⟨.inr rfl,nice_all (wd_refs h.f h.fm h.r h.rm),?_⟩⟩
 ·show (fs.map D.str).length≤_; rw[List.length_map]; omega
 ·rcases List.mem_append.mp hd with hd | hd
  ·exact nice_all (wd_keys h.f h.fm hk.u (by omega)) d hd
  ·exact hr d hd
 ·show (ks.map Lay.keyD++r).length≤_; rw[List.length_append,List.length_map]; omega
 ·show (ls.map Lay.refD).length≤_; rw[List.length_map]; omega
/-- the layout as an object -/
def layO (z:Str) (fs:List Str) (ks:List (List Str)) (ls:List (List Str × Str)):D:=.obj "Layout" (layG (.str z) (fs.map .str) (ks.map Lay.keyD) (ls.map Lay.refD))
end KL
namespace KL
open PySem PySem.Spec PyProof.Rows L2 DL
open He (ga ma)
open TL (tl)
def V5 (z:Str):U→Bool
 | .d (.tup [_,.str y])=>decide (y=z)
 | _=>false
def pairAt:U→U
 | .d (.tup [a,_])=>.d a
 | u=>u
theorem pairs_at {z:Str} : ∀ (zs:List Str) (n:Nat),z∈zs→∃ is:List Nat,((Jo n (zs.map .str)).filter (V5 z)).map pairAt=((is.map fun (i:Nat)=>D.int i).map U.d)∧is.head?=some (n + zs.idxOf z)∧is.length≤zs.length
 | [],n,h=>by cases h
 | y :: t,n,h=>by
  have hnil:∀ (ws:List Str) (m:Nat),∃ is:List Nat,((Jo m (ws.map .str)).filter (V5 z)).map pairAt=((is.map fun (i:Nat)=>D.int i).map U.d)∧is.length≤ws.length:=fun ws=>by
   induction ws with
   | nil=>intro m; exact⟨[],by rw[List.map_nil,Yl]; rfl,Nat.le_refl _⟩
   | cons w r ih =>
    intro m
    obtain⟨is,h1,h2⟩:=ih (m + 1)
    rw[List.map_cons,Qy]
    by_cases hw:w=z
    ·refine⟨m :: is,?_,by rw[List.length_cons,List.length_cons]; omega⟩
     rw[List.filter_cons_of_pos (show V5 z (.d (.tup [.int (m:Nat),.str w]))=true from decide_eq_true hw),List.map_cons,h1]
     rfl
    ·refine⟨is,?_,by rw[List.length_cons]; omega⟩
     rw[List.filter_cons_of_neg (show ¬ V5 z (.d (.tup [.int (m:Nat),.str w]))=true by show ¬ decide (w=z)=true; simpa using hw),h1]
  rw[List.map_cons,Qy]
  by_cases hy:y=z
  ·obtain⟨is,h1,h2⟩:=hnil t (n + 1)
   refine⟨n :: is,?_,?_,by rw[List.length_cons,List.length_cons]; omega⟩
   ·rw[List.filter_cons_of_pos (show V5 z (.d (.tup [.int (n:Nat),.str y]))=true from decide_eq_true hy),List.map_cons,h1]
    rfl
   ·subst hy; simp
  ·have ht:z∈t:=by
    rcases List.mem_cons.mp h with rfl | h
    ·exact absurd rfl hy
    ·exact h
   obtain⟨is,h1,h2,h3⟩:=pairs_at t (n + 1) ht
   refine⟨is,?_,?_,by rw[List.length_cons]; omega⟩
   ·rw[List.filter_cons_of_neg (show ¬ V5 z (.d (.tup [.int (n:Nat),.str y]))=true by show ¬ decide (y=z)=true; simpa using hy),h1]
   ·rw[h2,List.idxOf_cons]
    have:(y == z)=false:=by simpa using hy
    rw[this]
    show some (n + 1 + t.idxOf z)=some (n + (t.idxOf z + 1))
    rw[show n + 1 + t.idxOf z=n + (t.idxOf z + 1) by omega]
noncomputable def placeF (a b:U) (S:Qa):Res U:=match a,b with
 | .d x,.d (.str z)=>match Uv (.d x) S with
  | some zs=>pre (z∈zs∧zs.length≤1000) (.ok (.d (.int ((zs.idxOf z:Nat):Int))) S)
  | none=>.bad
 | _,_=>.bad
theorem place_call {x:D} {zs:List Str} {z:Str} (h:SeqS x zs) (hz:z∈zs) (hl:zs.length≤1000) (S:Qa):F2 placeF [.d x,.d (.str z)] S=.ok (.d (.int ((zs.idxOf z:Nat):Int))) S:=by
 rw[F2_two]
 unfold placeF
 simp only[txts_seq h]
 exact Zu ⟨hz,hl⟩
section
variable {P:Program} {w:World} {K:PySem.W.Frag} {mg:Str→Option Value} {base:Heap}
theorem Xv:FnScope ["names", "name", "index", "one"] ["names", "name"] (defScope Ua):=⟨rfl,rfl,rfl,by decide +kernel,rfl,by decide +kernel,by decide +kernel⟩
theorem dk_place_in (T:Txt P K mg):FM P w K mg base 1 "place_in" ["names", "name"] (F2 placeF):=by
 refine okM T.F_place_in Xv (fun _ _ _ _ _ _ us hl=>match us,hl with | [_,_],_=>rfl) F2.len (fun cdv A outer s H E hA hr=>(Ql (Qs (Qw ixd (pd_lc (own:=[("index",2),("one",3)]) rfl Xv.nd (Yr T.m_enumerate (Qc (Qe 0 (pv 0)) Qg)) (blkOk_by (own:=[("index",2),("one",3)]) (N:=["names", "name", "index", "one"]) (sc:=defScope Ua) (by decide +kernel)) (by decide) (fun _ _ _ _ _=>(Y7 (n:=2) rfl (Q4 (fun _ _ _ _ _ h=>h) (Qn (i:=2) Xv.nd rfl (by first | exact Or.inl rfl | exact Or.inr rfl)) (Q4 (fun _ _ _ _ _ h=>h) (Qn (i:=3) Xv.nd rfl (by first | exact Or.inl rfl | exact Or.inr rfl)) Yg)))) (fun _ _ _ _ _=>(pdts_one (Qt (Xo hr) (Qe 3 (pv 3)) (Qe 1 (pv 1)) (nomark _)))) (fun _ _ _ _ _=>(Qe 2 (pv 2)))) Qi)))) (fun us S hl=>?_)
 match us,hl with
 | [a,b],_ =>
  show Qx S (placeF a b S) _
  unfold placeF
  split
  ·rename_i x z _
   split
   ·rename_i zs hz
    refine Z7 fun ⟨hm,hl⟩=>Ul ?_
    have hsq:SeqS x zs:=by
     unfold Uv at hz
     rw[dat_d] at hz
     cases x with
     | tup ds=>exact .inr (by rw[Ys hz])
     | lst ds=>exact .inl (by rw[Ys hz])
     | _=>cases hz
    rw[show Q3 (["names", "name", "index", "one"]:List Str).length [U.d x,.d (.str z)]=[some (.d x),some (.d (.str z)),none,none] from rfl]
    have he:enumU (.d x) S=.ok ⟨Jo 0 (zs.map .str),none⟩ S:=by rcases hsq with rfl | rfl<;>rfl
    obtain⟨is,h1,h2,h3⟩:=pairs_at zs 0 hm
    simp! [Uu,he]
    rw[show Yn [some (U.d x),some (U.d (D.str z)),none,none] (List.map (fun x=>x.snd) [(Str.ofString "index",2),(Str.ofString "one",3)])=[some (U.d x),some (U.d (D.str z)),none,none] from rfl]
    rw[lcU_filt (g:=none) trivial (V5 z) pairAt _ []]
    ·rw[List.nil_append,h1,bind_ok,mkL_d (by rw[List.length_map]; omega),bind_ok]
     have hix:=(LstU.lst (S:=S) (ds:=is.map fun (i:Nat)=>D.int i)).ix (i:=0) (d:=.int ((zs.idxOf z:Nat):Int)) (by
      cases is with
      | nil=>cases h2
      | cons i t =>
       simp only[List.head?_cons,Option.some.injEq,Nat.zero_add] at h2
       subst h2
       rfl)
     have hix':ixU (.d (.lst (is.map fun (i:Nat)=>D.int i))) (.d (.int 0)) S=.ok (.d (.int ((zs.idxOf z:Nat):Int))) S:=hix
     rw[hix']
     rfl
    ·intro u hu
     obtain⟨i,y,rfl⟩ : ∃ (i:Nat) (y:Str),u=.d (.tup [.int i,.str y]):=by
      have:∀ (ws:List Str) (n:Nat),u∈Jo n (ws.map .str)→∃ (i:Nat) (y:Str),u=.d (.tup [.int i,.str y]):=fun ws=>by
       induction ws with
       | nil=>intro n h; rw[List.map_nil,Yl] at h; cases h
       | cons w r ih =>
        intro n h
        rw[List.map_cons,Qy] at h
        rcases List.mem_cons.mp h with rfl | h
        ·exact⟨n,w,rfl⟩
        ·exact ih (n + 1) h
      exact this zs 0 hu
     refine⟨[some (.d x),some (.d (.str z)),some (.d (.int i)),some (.d (.str y))],rfl,?_,fun _=>?_⟩
     ·simp! [eqU_txt]
      rfl
     ·simp! []
      rfl
    ·have:∀ (ws:List Str) (n:Nat),(Jo n (ws.map .str)).length=ws.length:=fun ws=>by
      induction ws with
      | nil=>intro n; rw[List.map_nil,Yl]; rfl
      | cons w r ih=>intro n; rw[List.map_cons,Qy,List.length_cons,List.length_cons,ih]
     rw[this]
     show 0 + zs.length≤sizeLine
     exact sz10 (by omega)
   ·exact .bad _
  ·exact .bad _
end
end KL
namespace KL
open PySem PySem.Spec PyProof.Rows L2 DL
open He (ga ma)
open TL (tl)
/-- a layout as an object: label,fields,all keys,links -/
structure Lo where
 z:Str
 fs:List Str
 ks:List (List Str)
 ls:List (List Str × Str)
def Lo.d (l:Lo):D:=layO l.z l.fs l.ks l.ls
structure Lo.Ok (l:Lo):Prop where
 f:Fine l.z l.fs l.ls
 k:FineK l.fs l.ks
 k0:l.ks ≠ []
 kl:l.ks.length≤20
theorem str_inj {a b:Str} (h:D.str a=D.str b):a=b:=by cases h; rfl
theorem Vi {α β:Type} {f:α→β} (hf:∀ a b,f a=f b→a=b):∀ {l m:List α},l.map f=m.map f→l=m
 | [],[],_=>rfl
 | [],_ :: _,h=>by cases h
 | _ :: _,[],h=>by cases h
 | a :: l,b :: m,h=>by
  rw[List.map_cons,List.map_cons,List.cons.injEq] at h
  rw[hf a b h.1,Vi hf h.2]
theorem keyD_inj (a b:List Str) (h:Lay.keyD a=Lay.keyD b):a=b:=Vi (fun _ _=>str_inj) (D.tup.inj h)
theorem refD_inj (a b:List Str × Str) (h:Lay.refD a=Lay.refD b):a=b:=by
 obtain⟨a1,a2⟩:=a
 obtain⟨b1,b2⟩:=b
 have h':=D.tup.inj h
 simp only[List.cons.injEq] at h'
 rw[keyD_inj a1 b1 h'.1,str_inj h'.2.1]
theorem Lo.d_inj (a b:Lo) (h:a.d=b.d):a=b:=by
 obtain⟨z,fs,ks,ls⟩:=a
 obtain⟨z',fs',ks',ls'⟩:=b
 have h':layG (.str z) (fs.map .str) (ks.map Lay.keyD) (ls.map Lay.refD)=layG (.str z') (fs'.map .str) (ks'.map Lay.keyD) (ls'.map Lay.refD):=by
  have:=h
  unfold Lo.d layO at this
  simp only[D.obj.injEq,true_and] at this
  exact this
 unfold layG at h'
 simp only[List.cons.injEq,Prod.mk.injEq,true_and,and_true,D.tup.injEq] at h'
 obtain⟨h1,h2,h3,_,h4⟩:=h'
 rw[str_inj h1,Vi (fun _ _=>str_inj) h2,Vi keyD_inj h3,Vi refD_inj h4]
def Zd (names:List Str) (kl:List Nat) (at_:Nat):Nat→List (List Str × Str)→Option (Str × Str × D)
 | _,[]=>none
 | i,p :: r=>if p.2 ∉ names.take at_ then some (("NoTable" : Str),("table" : Str),D.str p.2) else if p.1.length ≠ kl.getD (names.idxOf p.2) 0 then some (("BadReference" : Str),("index" : Str),D.int (i:Nat)) else Zd names kl at_ (i + 1) r
theorem V6 (names:List Str) (kl:List Nat) (at_ i:Nat) (p:List Str × Str) (r:List (List Str × Str)):Zd names kl at_ i (p :: r)=if p.2 ∉ names.take at_ then some (("NoTable" : Str),("table" : Str),D.str p.2) else if p.1.length ≠ kl.getD (names.idxOf p.2) 0 then some (("BadReference" : Str),("index" : Str),D.int (i:Nat)) else Zd names kl at_ (i + 1) r:=rfl
def U9 (names:List Str) (kl:List Nat):Nat→List Lo→Option (Str × Str × D)
 | _,[]=>none
 | i,l :: r=>match Zd names kl i 0 l.ls with
  | some e=>some e
  | none=>U9 names kl (i + 1) r
theorem Xm (names:List Str) (kl:List Nat) (i:Nat) (l:Lo) (r:List Lo):U9 names kl i (l :: r)=match Zd names kl i 0 l.ls with
  | some e=>some e
  | none=>U9 names kl (i + 1) r:=rfl
def Lo.kn (l:Lo):Nat:=(l.ks.headD []).length
/-- the error of a schema that is due -/
def schD (ls:List Lo):Option (Str × Str × D):=match twS (ls.map Lo.z) with
 | some z=>some ("Twice", "name",.str z)
 | none=>if 6 < ls.length then some ("TooMany", "limit",.int 6) else U9 (ls.map Lo.z) (ls.map Lo.kn) 0 ls
def schR (m:Nat) (ls:List Lo) (S:Qa):Res U:=match schD ls with
 | some (e,f,d)=>.err e [(f,d)] S
 | none=>.ok (.d .non) (S.set m (.obj "Schema" [("layouts",.d (.tup (ls.map Lo.d)))]))
structure Us (ls:List Lo):Prop where
 ok:∀ l∈ls,l.Ok
 le:ls.length≤900
open Classical in
noncomputable def schF (a b:U) (S:Qa):Res U:=match a with
 | .r m=>if h:∃ ls:List Lo,b=.d (.tup (ls.map Lo.d))∧Us ls∧S[m]?=some (.obj "Schema" []) then schR m h.choose S else .bad
 | _=>.bad
theorem sch_call {m:Nat} {ls:List Lo} {S:Qa} (h:Us ls) (hS:S[m]?=some (.obj "Schema" [])):F2 schF [.r m,.d (.tup (ls.map Lo.d))] S=schR m ls S:=by
 have hx:∃ ls':List Lo,U.d (.tup (ls.map Lo.d))=.d (.tup (ls'.map Lo.d))∧Us ls'∧S[m]?=some (.obj "Schema" []):=⟨ls,rfl,h,hS⟩
 have e1:schF (.r m) (.d (.tup (ls.map Lo.d))) S=schR m hx.choose S:=dif_pos hx
 have e2:ls=hx.choose:=Vi Lo.d_inj (D.tup.inj (U.d.inj hx.choose_spec.1))
 rw[F2_two,e1,← e2]
def firstD:D→D
 | .obj _ ((_,n) :: _)=>n
 | _=>.non
section
variable {P:Program} {w:World} {K:PySem.W.Frag} {mg:Str→Option Value} {base:Heap}
theorem Q7:FnScope ["self", "layouts", "names", "layout", "twice", "at", "index", "columns", "table"] ["self", "layouts"] (defScope Qv):=⟨rfl,rfl,rfl,by decide +kernel,rfl,by decide +kernel,by decide +kernel⟩
theorem dk_schema (T:Txt P K mg) {fd:FuncData} (F:FunD K "__init__" "Schema.__init__" (defArgs Qv) (defBody Qv) (defScope Qv) [] [] (ma K (ga K "Schema") "__init__") fd) :
  FnP P w K mg base (L2.CX P w) 3 (ma K (ga K "Schema") "__init__") (spV K (F2 schF)):=by
 have F_first_twice:FM P w K mg base 1 "first_twice" ["names"] (F1 Jq):=U5 T
 have F_place_in:FM P w K mg base 1 "place_in" ["names", "name"] (F2 placeF):=dk_place_in T
 refine okV (N:=["self", "layouts", "names", "layout", "twice", "at", "index", "columns", "table"]) F Q7 (fun kV doc pm cdv ct an us rest hl=>StX.bind_star1 (B:=fun l=>bindArgs (PySem.W.fnOf "__init__" "Schema.__init__" (defArgs Qv) (defBody Qv) (defScope Qv) .none kV doc pm an cdv ct) ⟨l,[]⟩) (p1 := "self") (pv := "layouts") (fun a=>rfl) (fun a r rs=>rfl) us rest hl) (fun cdv A outer s H E hA hr=>(Qh (Z8 (i:=2) (own:=[("layout",3)]) rfl Q7.nd rfl rfl (sw_true rfl rfl rfl (by decide +kernel)) (Yw (Qe 1 (pv 1))) (blkOk_by (own:=[("layout",3)]) (N:=["self", "layouts", "names", "layout", "twice", "at", "index", "columns", "table"]) (sc:=defScope Qv) (by decide +kernel)) (by decide) (fun _ _ _ _ _=>(Qn (i:=3) Q7.nd rfl (by first | exact Or.inl rfl | exact Or.inr rfl))) (fun _ _ _ _ _=>J8) (fun _ _ _ _ _=>(Jr (cs:=["Layout"]) (Qe 3 (pv 3)) (fun c hc=>by simp only[List.mem_cons,List.not_mem_nil,or_false] at hc; subst hc; exact⟨T.cls_Layout,T.na_Layout_name⟩))))
 (Qh (Q6 (i:=4) Q7.nd rfl (by first | exact Or.inl rfl | exact Or.inr rfl) (Qp hA F_first_twice (hr.mono (by decide)) (takes_of rfl rfl rfl rfl) (Qc (Qe 2 (pv 2)) Qg)))
 (Qh (Q5 (Qt od_isnot (Qe 4 (pv 4)) pd_non (nomark _)) (Ql (Yb rfl T.e_Twice hr (takes_of rfl rfl rfl rfl) (Qc (Qe 4 (pv 4)) Qg) (by rfl) (by decide) (fun h=>Jl rfl T.e_Twice hr (takes_of rfl rfl rfl rfl) h))) Qq)
 (Qh (Q5 (Qt od_gt (Qo Jk T.m_len (Qc (Qe 1 (pv 1)) Qg)) (pd_gv T.c_MOST_TABLES (fun _=>.int _)) (nomark _)) (Ql (Yb rfl T.e_TooMany hr (takes_of rfl rfl rfl rfl) (Qc (pd_gv T.c_MOST_TABLES (fun _=>.int _)) Qg) (by rfl) (by decide) (fun h=>Jl rfl T.e_TooMany hr (takes_of rfl rfl rfl rfl) h))) Qq)
 (Qh (Jp (passes_of rfl) rfl (Yr T.m_enumerate (Qc (Qe 1 (pv 1)) Qg)) (Y7 (n:=2) rfl (Q4 (fun _ _ _ _ _ h=>h) (Qn (i:=5) Q7.nd rfl (by first | exact Or.inl rfl | exact Or.inr rfl)) (Q4 (fun _ _ _ _ _ h=>h) (Qn (i:=3) Q7.nd rfl (by first | exact Or.inl rfl | exact Or.inr rfl)) Yg))) (Ql (Jp (passes_of rfl) rfl (Yr T.m_enumerate (Qc (Jr (cs:=["Layout"]) (Qe 3 (pv 3)) (fun c hc=>by simp only[List.mem_cons,List.not_mem_nil,or_false] at hc; subst hc; exact⟨T.cls_Layout,T.na_Layout_refers⟩)) Qg)) (Y7 (n:=2) rfl (Q4 (fun _ _ _ _ _ h=>h) (Qn (i:=6) Q7.nd rfl (by first | exact Or.inl rfl | exact Or.inr rfl)) (Q4 (fun _ _ _ _ _ h=>h) (Y7 (n:=2) rfl (Q4 (fun _ _ _ _ _ h=>h) (Qn (i:=7) Q7.nd rfl (by first | exact Or.inl rfl | exact Or.inr rfl)) (Q4 (fun _ _ _ _ _ h=>h) (Qn (i:=8) Q7.nd rfl (by first | exact Or.inl rfl | exact Or.inr rfl)) Yg))) Yg))) (Qh (Q5 (Qt (X6 hr) (Qe 8 (pv 8)) (Vl sld (Qe 2 (pv 2)) Yp (Yq (Qe 5 (pv 5)))) (by rfl)) (Ql (Yb rfl T.e_NoTable hr (takes_of rfl rfl rfl rfl) (Qc (Qe 8 (pv 8)) Qg) (by rfl) (by decide) (fun h=>Jl rfl T.e_NoTable hr (takes_of rfl rfl rfl rfl) h))) Qq)
 (Ql (Q5 (Qt (od_ne hr) (Qo Jk T.m_len (Qc (Qe 7 (pv 7)) Qg)) (Qo Jk T.m_len (Qc (Jr (cs:=["Layout"]) (Qw ixd (Qe 1 (pv 1)) (Qp hA F_place_in (hr.mono (by decide)) (takes_of rfl rfl rfl rfl) (Qc (Qe 2 (pv 2)) (Qc (Qe 8 (pv 8)) Qg)))) (fun c hc=>by simp only[List.mem_cons,List.not_mem_nil,or_false] at hc; subst hc; exact⟨T.cls_Layout,T.na_Layout_key⟩)) Qg)) (nomark _)) (Ql (Yb rfl T.e_BadReference hr (takes_of rfl rfl rfl rfl) (Qc (Qe 6 (pv 6)) Qg) (by rfl) (by decide) (fun h=>Jl rfl T.e_BadReference hr (takes_of rfl rfl rfl rfl) h))) Qq))))))
 (Ql (Vg (cs:=["Schema"]) (Qe 0 (pv 0)) (Q8 Yj T.m_tuple (Qc (Qe 1 (pv 1)) Qg)) (fun c hc=>by simp only[List.mem_cons,List.not_mem_nil,or_false] at hc; subst hc; exact⟨T.cls_Schema,T.na_Schema_layouts⟩))))))))) (fun us S hl=>?_)
 match us,hl with
 | [a,b],_ =>
  rw[F2_two]
  unfold schF
  split
  ·rename_i m _
   split
   ·rename_i hx
    obtain⟨hb,hp,hS⟩:=hx.choose_spec
    generalize hx.choose=ls at hb hp
    subst hb
    rw[show Q3 (["self", "layouts", "names", "layout", "twice", "at", "index", "columns", "table"]:List Str).length [U.r m,.d (.tup (ls.map Lo.d))]=[some (.r m),some (.d (.tup (ls.map Lo.d))),none,none,none,none,none,none,none] from rfl]
    simp! [Z6]
    have hlc:∀ ρ:DL.Env,ρ=[some (.r m),some (.d (.tup (ls.map Lo.d))),none,none,none,none,none,none,none]→lcU none (fun u ρ S=>Res.ok (List.set ρ 3 (some u)) S) (fun x S=>Res.ok true S) (fun ρ S=>(rdV ρ 3 S).bind fun u S=>fldU [Str.ofString "Layout"] (Str.ofString "name") u S) ρ ((ls.map Lo.d).map U.d) [] S=.ok (((ls.map Lo.z).map D.str).map U.d) S:=fun ρ hρ=>by
     subst hρ
     rw[lcU_mapG (g:=none) trivial (fun u=>match u with | .d d=>.d (firstD d) | u=>u) _ []]
     ·rw[List.nil_append,List.map_map,List.map_map,List.map_map,List.map_map]; rfl
     ·intro w hw
      obtain⟨d,hd,rfl⟩:=List.mem_map.mp hw
      obtain⟨l,hl,rfl⟩:=List.mem_map.mp hd
      refine⟨_,rfl,?_⟩
      simp! []
      exact U8 _ _ _ _ _
     ·rw[List.length_map,List.length_map]; show 0 + ls.length≤sizeLine; exact sz10 (by have:=hp.le; omega)
    have hw:Yn [some (U.r m),some (U.d (D.tup (List.map Lo.d ls))),none,none,none,none,none,none,none] (List.map (fun x=>x.snd) [(Str.ofString "layout",3)])=[some (U.r m),some (U.d (D.tup (List.map Lo.d ls))),none,none,none,none,none,none,none]:=rfl
    generalize hzs:ls.map Lo.z=zs at *
    have hzl:zs.length=ls.length:=by rw[← hzs,List.length_map]
    have hasc:∀ z∈zs,Asc z:=fun z hz=>by
     rw[← hzs] at hz
     obtain⟨l,hl,rfl⟩:=List.mem_map.mp hz
     exact (hp.ok l hl).f.z.asc
    have hmk:mkL ((zs.map D.str).map U.d) S=.ok (.d (.lst (zs.map D.str))) S:=mkL_d (by rw[List.length_map]; have:=hp.le; omega) S
    have htw:F1 Jq [.d (.lst (zs.map .str))] S=.ok (.d (optD (twS zs))) S:=by
     rw[F1_one]
     unfold Jq
     rw[txts_seq (.inl rfl)]
     exact Zu ⟨hasc,.lst⟩
    simp! [hw,hlc _ rfl,hmk,htw]
    have sd:schD ls=match twS zs with
     | some z=>some ("Twice", "name",.str z)
     | none=>if 6 < ls.length then some ("TooMany", "limit",.int 6) else U9 zs (ls.map Lo.kn) 0 ls:=by unfold schD; rw[hzs]
    have refE:∀ {e f:Str} {d:D},schD ls=some (e,f,d)→Qx S (schR m ls S) (.err e [(f,d)] S):=fun {e f d} h=>by
     unfold schR
     rw[h]
     exact .refl _
    cases ht:twS zs with
    | some z =>
     rw[ht] at sd
     have:isU true (.d (optD (some z))) (.d .non) S=.ok (.d (.bl true)) S:=rfl
     simp only[this,bind_ok,bind_err,bind_bad,fl_ok,fl_err,fl_bad,seq_nx,seq_rt,seq_err,seq_bk,seq_ct,seq_bad,bodyR_rt,bodyR_nx,bodyR_err,asB_bl,tru_bl,iff_f,iff_t,leU_int,ltU_int,gtU_int,geU_int,subU_int,addU_int,eqU_int,neU_int,tuple_two,mkE_one,len_tup,len_lst,c1_one,c2_two,rd0,rdS,norm_d,dat_d,gFl_none,gRs_none,List.set_cons_zero,List.set_cons_succ,Bool.not_true,Bool.not_false,Bool.false_eq_true,↓reduceIte]
     exact refE sd
    | none =>
     rw[ht] at sd
     have:isU true (.d (optD none)) (.d .non) S=.ok (.d (.bl false)) S:=rfl
     simp only[this,bind_ok,bind_err,bind_bad,fl_ok,fl_err,fl_bad,seq_nx,seq_rt,seq_err,seq_bk,seq_ct,seq_bad,bodyR_rt,bodyR_nx,bodyR_err,asB_bl,tru_bl,iff_f,iff_t,leU_int,ltU_int,gtU_int,geU_int,subU_int,addU_int,eqU_int,neU_int,tuple_two,mkE_one,len_tup,len_lst,c1_one,c2_two,rd0,rdS,norm_d,dat_d,gFl_none,gRs_none,List.set_cons_zero,List.set_cons_succ,Bool.not_true,Bool.not_false,Bool.false_eq_true,↓reduceIte,List.length_map]
     by_cases h6:6 < ls.length
     ·rw[decide_eq_true (show (6:Int) < ((ls.length:Nat):Int) by omega)]
      simp! only[]
      refine refE (sd.trans ?_)
      simp only[h6,↓reduceIte]
     rw[decide_eq_false (show ¬ (6:Int) < ((ls.length:Nat):Int) by omega)]
     have hen:∀ (ds:List D) (S:Qa),enumU (.d (.tup ds)) S=.ok ⟨Jo 0 ds,none⟩ S:=fun ds S=>rfl
     simp! only[Uu,hen]
     simp only[h6,↓reduceIte] at sd
     refine loop (K:=fun f=>Qx S _ (Jc (f.seq _))) (I:=fun us ρ S'=>S'=S∧∃ (i:Nat) (rest:List Lo) (v3 v5 v6 v7 v8:Option U),us=Jo i (rest.map Lo.d)∧(∀ l∈rest,l∈ls)∧i + rest.length=ls.length∧U9 zs (ls.map Lo.kn) 0 ls=U9 zs (ls.map Lo.kn) i rest ∧
      ρ=[some (.r m),some (.d (.tup (ls.map Lo.d))),some (.d (.lst (zs.map .str))),v3,some (.d .non),v5,v6,v7,v8]) ?_ ?_ ?_
     ·rintro u us ρ S' ⟨rfl,i,rest,v3,v5,v6,v7,v8,hus,hsub,hil,hle,rfl⟩
      obtain⟨l,rest,rfl,rfl,rfl⟩ : ∃ l r,rest=l :: r∧u=.d (.tup [.int (i:Nat),l.d])∧us=Jo (i + 1) (r.map Lo.d):=by
       cases rest with
       | nil=>rw[List.map_nil,Yl] at hus; cases hus
       | cons l r =>
        rw[List.map_cons,Qy] at hus
        simp only[List.cons.injEq] at hus
        exact⟨l,r,rfl,hus.1,hus.2⟩
      refine⟨_,_,rfl,?_⟩
      rw[List.length_cons] at hil
      have hl:=hp.ok l (hsub l List.mem_cons_self)
      have hrf:fldU [Str.ofString "Layout"] (Str.ofString "refers") (.d l.d) S'=.ok (.d (.tup (l.ls.map Lay.refD))) S':=lay_refs _ _ _ _ _
      simp! [hrf,Uu,hen]
      generalize hfor:forU none _ _ (Jo 0 (l.ls.map Lay.refD)) _ _=fl
      obtain⟨v6',v7',v8',hfl,hln⟩ | ⟨e,f,d,ρ',hfl,hln⟩ : (∃ v6 v7 v8,fl=.nx [some (.r m),some (.d (.tup (ls.map Lo.d))),some (.d (.lst (zs.map .str))),some (.d l.d),some (.d .non),some (.d (.int (i:Nat))),v6,v7,v8] S'∧Zd zs (ls.map Lo.kn) i 0 l.ls=none)∨(∃ e f d ρ',fl=.err e [(f,d)] ρ' S'∧Zd zs (ls.map Lo.kn) i 0 l.ls=some (e,f,d)):=by
       rw[← hfor]
       refine loop (K:=fun fl=>(∃ v6 v7 v8,fl=.nx [some (.r m),some (.d (.tup (ls.map Lo.d))),some (.d (.lst (zs.map .str))),some (.d l.d),some (.d .non),some (.d (.int (i:Nat))),v6,v7,v8] S'∧Zd zs (ls.map Lo.kn) i 0 l.ls=none)∨(∃ e f d ρ',fl=.err e [(f,d)] ρ' S'∧Zd zs (ls.map Lo.kn) i 0 l.ls=some (e,f,d)))
        (I:=fun us ρ S1=>S1=S'∧∃ (j:Nat) (rs:List (List Str × Str)) (v6 v7 v8:Option U),us=Jo j (rs.map Lay.refD)∧(∀ q∈rs,q∈l.ls)∧Zd zs (ls.map Lo.kn) i 0 l.ls=Zd zs (ls.map Lo.kn) i j rs ∧
         ρ=[some (.r m),some (.d (.tup (ls.map Lo.d))),some (.d (.lst (zs.map .str))),some (.d l.d),some (.d .non),some (.d (.int (i:Nat))),v6,v7,v8]) ?_ ?_ ?_
       ·rintro u us ρ S1 ⟨rfl,j,rs,v6,v7,v8,hus,hrs,hlk,rfl⟩
        obtain⟨q,rs,rfl,rfl,rfl⟩ : ∃ q r,rs=q :: r∧u=.d (.tup [.int (j:Nat),Lay.refD q])∧us=Jo (j + 1) (r.map Lay.refD):=by
         cases rs with
         | nil=>rw[List.map_nil,Yl] at hus; cases hus
         | cons l r =>
          rw[List.map_cons,Qy] at hus
          simp only[List.cons.injEq] at hus
          exact⟨l,r,rfl,hus.1,hus.2⟩
        refine⟨_,_,rfl,?_⟩
        have hq:=hl.f.r q (hrs q List.mem_cons_self)
        have hsl:slU (.d (.lst (zs.map .str))) none (some ((i:Nat):Int)) S1=.ok (.d (.lst ((zs.take i).map .str))) S1:=by
         have hc:cutL (zs.map D.str) none (some ((i:Nat):Int))=(zs.take i).map .str:=by
          rw[cut_to (by rw[List.length_map]; omega),← List.map_take]
         show Res.ok _ _=_
         rw[hc]
        have hin:=Uo (neg:=true) hq.2.asc (fun z hz=>hasc z (List.mem_of_mem_take hz)) S1 (zs:=zs.take i)
        rw[V6] at hlk
        simp! [Uq,hsl,hin,inB]
        by_cases hm:q.2∈zs.take i
        ·have hmz:q.2∈zs:=List.mem_of_mem_take hm
         have hix0:zs.idxOf q.2 < ls.length:=by rw[← hzl]; exact List.idxOf_lt_length_of_mem hmz
         obtain⟨l2,hl2⟩ : ∃ l2,ls[zs.idxOf q.2]?=some l2:=⟨_,List.getElem?_eq_getElem hix0⟩
         have hix:ixU (.d (.tup (ls.map Lo.d))) (.d (.int ((zs.idxOf q.2:Nat):Int))) S1=.ok (.d l2.d) S1:=(LstU.tup (S:=S1)).ix (by rw[List.getElem?_map,hl2]; rfl)
         have hl2m:l2∈ls:=List.mem_of_getElem? hl2
         have hk2:=hp.ok l2 hl2m
         obtain⟨k0,kt,hkc⟩:=List.exists_cons_of_ne_nil hk2.k0
         have hky:fldU [Str.ofString "Layout"] (Str.ofString "key") (.d l2.d) S1=.ok (.d (.tup (k0.map .str))) S1:=by
          refine (lay_key1 _ _ _ _ _).trans ?_
          rw[hkc]
          rfl
         have hkn:(ls.map Lo.kn).getD (zs.idxOf q.2) 0=k0.length:=by
          rw[List.getD_eq_getElem?_getD,List.getElem?_map,hl2]
          show (l2.ks.headD []).length=_
          rw[hkc]
          rfl
         rw[if_neg (fun h=>h hm),hkn] at hlk
         simp -implicitDefEqProofs only[decide_eq_true hm,bind_ok,bind_err,bind_bad,fl_ok,fl_err,fl_bad,seq_nx,seq_rt,seq_err,seq_bk,seq_ct,seq_bad,bodyR_rt,bodyR_nx,bodyR_err,asB_bl,tru_bl,iff_f,iff_t,leU_int,ltU_int,gtU_int,geU_int,subU_int,addU_int,eqU_int,neU_int,tuple_two,mkE_one,len_tup,len_lst,c1_one,c2_two,rd0,rdS,norm_d,dat_d,gFl_none,gRs_none,List.set_cons_zero,List.set_cons_succ,Bool.not_true,Bool.not_false,Bool.false_eq_true,↓reduceIte,place_call (x:=.lst (zs.map .str)) (.inl rfl) hmz (by rw[hzl]; have:=hp.le; omega),hix,hky,List.length_map]
         by_cases hln:q.1.length=k0.length
         ·rw[if_neg (fun h=>h hln)] at hlk
          rw[decide_eq_true (show ((q.1.length:Nat):Int)=((k0.length:Nat):Int) by rw[hln])]
          simp! only[]
          exact⟨trivial,j + 1,rs,_,_,_,rfl,fun p h=>hrs p (List.mem_cons_of_mem _ h),hlk,rfl⟩
         ·rw[if_pos hln] at hlk
          rw[decide_eq_false (show ¬ ((q.1.length:Nat):Int)=((k0.length:Nat):Int) by omega)]
          simp! only[]
          exact .inr ⟨_,_,_,_,rfl,hlk⟩
        ·rw[if_pos hm] at hlk
         simp only[decide_eq_false hm,bind_ok,bind_err,bind_bad,fl_ok,fl_err,fl_bad,seq_nx,seq_rt,seq_err,seq_bk,seq_ct,seq_bad,bodyR_rt,bodyR_nx,bodyR_err,asB_bl,tru_bl,iff_f,iff_t,leU_int,ltU_int,gtU_int,geU_int,subU_int,addU_int,eqU_int,neU_int,tuple_two,mkE_one,len_tup,len_lst,c1_one,c2_two,rd0,rdS,norm_d,dat_d,gFl_none,gRs_none,List.set_cons_zero,List.set_cons_succ,Bool.not_true,Bool.not_false,Bool.false_eq_true,↓reduceIte]
         exact .inr ⟨_,_,_,_,rfl,hlk⟩
       ·rintro ρ S1 ⟨rfl,j,rs,v6,v7,v8,hus,hrs,hlk,rfl⟩
        have hrs0:rs=[]:=by
         cases rs with
         | nil=>rfl
         | cons x t=>rw[List.map_cons,Qy] at hus; cases hus
        subst hrs0
        exact .inl ⟨v6,v7,v8,rfl,hlk⟩
       ·exact⟨rfl,0,l.ls,_,_,_,rfl,fun q h=>h,rfl,rfl⟩
      ·subst hfl
       refine⟨rfl,i + 1,rest,_,_,_,_,_,rfl,fun q hq=>hsub q (List.mem_cons_of_mem _ hq),by omega,?_,rfl⟩
       rw[hle,Xm,hln]
      ·subst hfl
       refine refE (sd.trans ?_)
       rw[hle,Xm,hln]
     ·rintro ρ S' ⟨rfl,i,rest,v3,v5,v6,v7,v8,hus,hsub,hil,hle,rfl⟩
      have hr0:rest=[]:=by
       cases rest with
       | nil=>rfl
       | cons x t=>rw[List.map_cons,Qy] at hus; cases hus
      subst hr0
      have hn:schD ls=none:=sd.trans hle
      have htp:tupU (.d (.tup (ls.map Lo.d))) S'=.ok (.d (.tup (ls.map Lo.d))) S':=rfl
      have hse:setF ["Schema"] "layouts" (.r m) (.d (.tup (ls.map Lo.d))) S'=some (S'.set m (.obj "Schema" [("layouts",.d (.tup (ls.map Lo.d)))])):=by
       simp only[setF,hS,List.mem_singleton,true_and,List.length_nil,Nat.zero_lt_succ,↓reduceIte,putU]
      simp! [htp,norm_obj hS,hse]
      unfold schR
      rw[hn]
      exact .refl _
     ·exact⟨rfl,0,ls,_,_,_,_,_,rfl,fun q h=>h,by omega,rfl,rfl⟩
   ·exact .bad _
  ·exact .bad _
end
end KL
namespace KL
open PySem PySem.Spec PyProof.Rows L2 DL
open He (ga ma)
open TL (tl)
theorem Z3 {x:D} {ds:List D} (h:SeqD x ds):Xr x=ds:=by rcases h with rfl | rfl<;>rfl
/-- Layout(..) of lists or tuples that have no fault -/
theorem make_gen {z:Str} {fs:List Str} {us:List (List Str)} {ls:List (List Str × Str)} {c k r:D} (h:Fine z fs ls) (hu:FineK fs us) (hl:us.length≤20) (hc:SeqD c (fs.map .str)) (hk:SeqD k (us.map Lay.keyD)) (hr:SeqD r (ls.map Lay.refD)) (S:Qa) :
  makeU true "Layout" (F5 initF) [.d (.str z),.d c,.d k,.d r] S=.ok (.d (layO z fs (if us=[] then [fs] else us) ls)) (S++[.frz (layO z fs (if us=[] then [fs] else us) ls)]):=by
 have hp:=lay_pre h hu (by omega) (r:=[]) (fun _ h=>nomatch h) (Nat.zero_le _)
 rw[List.append_nil] at hp
 have hp':LayPre (.str z) c k r:=by
  refine⟨hp.n,⟨?_,?_,?_⟩,⟨?_,?_,?_⟩,⟨?_,?_,?_⟩⟩
  ·rw[Z3 hc]; exact hc
  ·rw[Z3 hc]; exact hp.c.ni
  ·rw[Z3 hc]; exact hp.c.le
  ·rw[Z3 hk]; exact hk
  ·rw[Z3 hk]; exact hp.k.ni
  ·rw[Z3 hk]; exact hp.k.le
  ·rw[Z3 hr]; exact hr
  ·rw[Z3 hr]; exact hp.r.ni
  ·rw[Z3 hr]; exact hp.r.le
 have hin:initF (.r S.length) (.d (.str z)) (.d c) (.d k) (.d r) (S++[.obj "Layout" []])=layR S.length (.str z) (fs.map .str) (us.map Lay.keyD) (ls.map Lay.refD) (S++[.obj "Layout" []]):=by
  have e:initF (.r S.length) (.d (.str z)) (.d c) (.d k) (.d r) (S++[.obj "Layout" []])=layR S.length (.str z) (Xr c) (Xr k) (Xr r) (S++[.obj "Layout" []]):=init_data hp' (Jm _ _)
  rw[e,Z3 hc,Z3 hk,Z3 hr]
 have hks:(if us.map Lay.keyD=[] then [D.tup (fs.map .str)] else us.map Lay.keyD)=(if us=[] then [fs] else us).map Lay.keyD:=by cases us<;>rfl
 have hfz:frzN S.length (S++[.obj "Layout" (layF (.str z) (fs.map .str) (us.map Lay.keyD) (ls.map Lay.refD))])=S++[.frz (layO z fs (if us=[] then [fs] else us) ls)]:=by
  rw[layF_keys,hks,lay_frz _ _ _ _ _ (by cases us<;>simp)]
  rfl
 unfold makeU
 rw[F5_five,hin]
 unfold layR
 rw[layD_none h hu]
 simp only[bind_ok,Xu,hfz,Zx (Jm S _),↓reduceIte]
/-- the object of a layout as it is drawn -/
def Lay.lo (l:Lay):Lo:=⟨l.z,l.fs,l.keys,l.ls⟩
theorem Lay.Ok.lo {l:Lay} (h:l.Ok 5):l.lo.Ok:=⟨h.fine,h.fineK,l.keys_ne,by have:=Lay.keys_le h; show l.keys.length≤20; omega⟩
/-- a drawn layout that has no fault -/
structure Lay.Fit (l:Lay):Prop where
 f:Fine l.z l.fs l.ls
 k:FineK l.fs l.us
 le:l.us.length≤20
theorem Lay.Ok.fit {l:Lay} (h:l.Ok 5):l.Fit:=⟨h.fine,h.fineU,by have:=h.um; omega⟩
theorem Lay.Fit.lo {l:Lay} (h:l.Fit):l.lo.Ok:=by
 refine⟨h.f,?_,l.keys_ne,?_⟩
 ·show FineK l.fs l.keys
  unfold Lay.keys
  split
  ·refine⟨fun k hk=>?_,List.pairwise_singleton ..⟩
   obtain rfl:=List.mem_singleton.mp hk
   exact⟨h.f.f0,h.f.fd,fun _ h=>h⟩
  ·exact h.k
 ·show l.keys.length≤20
  unfold Lay.keys
  split
  ·show 1≤20; decide
  ·have:=h.le; omega
section
variable {P:Program} {w:World} {K:PySem.W.Frag} {mg:Str→Option Value} {base:Heap}
theorem sc_law_make:FnScope ["_law_plain_here"] ["_law_plain_here"] (defScope Vp):=⟨rfl,rfl,rfl,by decide +kernel,rfl,by decide +kernel,by decide +kernel⟩
theorem dk_make (T:Txt P K mg):∃ f,FM P w K mg base 5 "_law_make" ["_law_plain_here"] f∧∀ (l:Lay) (S:Qa),l.Fit→f [.d l.d] S=(Ve.ok l.lo.d).res S:=by
 obtain⟨fd,FI⟩:=T.I_Layout
 have I_Layout:=dk_init (w:=w) (base:=base) T FI
 have KB_Layout:=kb_Layout (by simp) FI
 refine factM (k:=4) (fun l:Lay=>[U.d l.d]) (fun l=>.ok l.lo.d) Lay.Fit T.F_law_make sc_law_make (fun _ _ _ _ _ _ us hl=>match us,hl with | [_],_=>rfl) (fun _=>rfl) (fun cdv A outer s H E hA hr=>(Ql (Qs (pd_makeK (n:=2) (gU:=fun us ws=>us++ws) true hA ⟨T.mk_Layout,T.g_Layout,I_Layout,F5.len⟩ (hr.mono (by decide)) (takes_of rfl rfl rfl rfl) KB_Layout (fun ι G a vs us zs ws _ _ h h2=>hgU_app ι G a vs us zs ws h h2) (Qc (Qw ixd (Qe 0 (pv 0)) Qi) (Qc (Qw ixd (Qe 0 (pv 0)) Qi) Qg)) (pdk_cons (Qw ixd (Qe 0 (pv 0)) Qi) (pdk_cons (Qw ixd (Qe 0 (pv 0)) Qi) pdk_nil)))))) (fun l S ho=>?_)
 rw[show Q3 (["_law_plain_here"]:List Str).length [U.d l.d]=[some (.d l.d)] from rfl]
 have x0:∀ S,ixU (.d l.d) (.d (.int 0)) S=.ok (.d (.str l.z)) S:=fun S=>rfl
 have x1:∀ S,ixU (.d l.d) (.d (.int 1)) S=.ok (.d (.tup (l.fs.map .str))) S:=fun S=>rfl
 have x2:∀ S,ixU (.d l.d) (.d (.int 2)) S=.ok (.d (.tup (l.us.map Lay.keyD))) S:=fun S=>rfl
 have x3:∀ S,ixU (.d l.d) (.d (.int 3)) S=.ok (.d (.tup (l.ls.map Lay.refD))) S:=fun S=>rfl
 have hm:=make_gen ho.f ho.k (by have:=ho.le; omega) (.inr rfl) (.inr rfl) (.inr rfl) S
 rw[show (if l.us=[] then [l.fs] else l.us)=l.keys from rfl] at hm
 simp! [x0,x1,x2,x3,List.length_cons,List.length_nil,Nat.zero_add,Nat.reduceAdd,and_self,List.cons_append,List.nil_append,hm]
 exact resGg (v:=.ok l.lo.d)
end
end KL
namespace KL
open PySem PySem.Spec PyProof.Rows L2 DL
open He (ga ma)
open TL (tl)
/-- a schema as an object -/
def schO (ls:List Lo):D:=.obj "Schema" [("layouts",.tup (ls.map Lo.d))]
theorem sch_lays (ls:List Lo) (S:Qa):fldU ["Schema"] "layouts" (U.d (schO ls)) S=.ok (.d (.tup (ls.map Lo.d))) S:=by simp [fldU,objU,schO,List.lookup,optR]<;>rfl
/-- Schema(..) without a fault -/
theorem mkSch {ls:List Lo} (hp:Us ls) (h:schD ls=none) (S:Qa):Za "Schema" (F2 schF) ((ls.map Lo.d).map .d) S=.ok (.d (schO ls)) (S++[.frz (schO ls)]):=by
 unfold Za
 simp only[Q9]
 rw[if_pos (show (ls.map Lo.d).length≤sizeLine by rw[List.length_map]; exact sz10 (by have:=hp.le; omega))]
 unfold makeU
 rw[sch_call hp (Jm S _)]
 unfold schR
 rw[h]
 have hfz:frzN S.length (S++[.obj "Schema" [("layouts",.d (.tup (ls.map Lo.d)))]])=S++[.frz (schO ls)]:=by
  unfold frzN
  rw[Jm]
  have:allF [(("layouts" : Str),U.d (.tup (ls.map Lo.d)))]=some [(("layouts" : Str),D.tup (ls.map Lo.d))]:=rfl
  simp only[this,Xu]
  rfl
 simp only[bind_ok,Xu,hfz,Zx (Jm S _),↓reduceIte]
end KL
namespace KL
open PySem PySem.Spec PyProof.Rows L2 DL
open He (ga ma)
open TL (tl)
theorem eqP_gd {l:Lo} (h:l.Ok):GD (V4 (layG (.str l.z) (l.fs.map .str) (l.ks.map Lay.keyD) (l.ls.map Lay.refD))):=by
 have hkl:=h.kl
 refine WD.gd (b:=(8503 + 2) * 4 + 3) (p:=4) (wd_tup (b:=8503) (p:=3) (m:=4) (fun d hd=>?_) (Nat.le_refl _) (by decide)) (by decide) (by decide)
 simp only[List.mem_cons,List.not_mem_nil,or_false] at hd
 rcases hd with rfl | rfl | rfl | rfl
 ·exact (wd_nm h.f.z).mono (by decide) (by decide)
 ·exact (wd_nms h.f.f h.f.fm).mono (by decide) (by decide)
 ·exact (wd_keys h.f.f h.f.fm h.k.u (by omega)).mono (by decide) (by decide)
 ·exact (wd_refs h.f.f h.f.fm h.f.r h.f.rm).mono (by decide) (by decide)
section
variable {P:Program} {w:World} {K:PySem.W.Frag} {mg:Str→Option Value} {base:Heap}
theorem Z4:FnScope ["self", "layout"] ["self"] (defScope Y4):=⟨rfl,rfl,rfl,by decide +kernel,rfl,by decide +kernel,by decide +kernel⟩
theorem dk_names (T:Txt P K mg):∃ f,FD P w K mg base 1 (ma K (ga K "Schema") "names") ["self"] f∧∀ (ls:List Lo) (S:Qa),Us ls→f [.d (schO ls)] S=(Ve.ok (.lst ((ls.map Lo.z).map .str))).res S:=by
 refine factMt (k:=0) (fun ls:List Lo=>[U.d (schO ls)]) (fun ls=>.ok (.lst ((ls.map Lo.z).map .str))) Us T.F_Schema_names Z4 (fun _ _ _ _ _ _ us hl=>match us,hl with | [_],_=>rfl) (fun _=>rfl) (fun cdv A outer s H E hA hr=>(Ql (Qs (pd_lc (own:=[("layout",1)]) rfl Z4.nd (Yw (Jr (cs:=["Schema"]) (Qe 0 (pv 0)) (fun c hc=>by simp only[List.mem_cons,List.not_mem_nil,or_false] at hc; subst hc; exact⟨T.cls_Schema,T.na_Schema_layouts⟩))) (blkOk_by (own:=[("layout",1)]) (N:=["self", "layout"]) (sc:=defScope Y4) (by decide +kernel)) (by decide) (fun _ _ _ _ _=>(Qn (i:=1) Z4.nd rfl (by first | exact Or.inl rfl | exact Or.inr rfl))) (fun _ _ _ _ _=>J8) (fun _ _ _ _ _=>(Jr (cs:=["Layout"]) (Qe 1 (pv 1)) (fun c hc=>by simp only[List.mem_cons,List.not_mem_nil,or_false] at hc; subst hc; exact⟨T.cls_Layout,T.na_Layout_name⟩))))))) (fun ls S ho=>?_)
 rw[show Q3 (["self", "layout"]:List Str).length [U.d (schO ls)]=[some (.d (schO ls)),none] from rfl]
 have hle:=ho.le
 simp! [sch_lays,Z6]
 rw[show Yn [some (U.d (schO ls)),none] (List.map (fun x=>x.snd) [(Str.ofString "layout",1)])=[some (U.d (schO ls)),none] from rfl,show (ls.map Lo.d).map U.d=ls.map (U.d ∘ Lo.d) from List.map_map ..]
 rw[Vz (g:=none) trivial (U.d ∘ Lo.d) (fun l=>U.d (.str l.z)) ls []]
 ·have e:[]++ls.map (fun l=>U.d (.str l.z))=((ls.map Lo.z).map D.str).map U.d:=by rw[List.nil_append,List.map_map,List.map_map]; rfl
  rw[bind_ok,e,mkL_d (by rw[List.length_map,List.length_map]; omega)]
  simp! []
  exact resG (v:=.ok (.lst ((ls.map Lo.z).map .str)))
 ·intro l hl
  refine⟨_,rfl,?_⟩
  simp! [Function.comp]
  exact U8 _ _ _ _ _
 ·show 0 + ls.length≤sizeLine
  exact sz10 (by omega)
end
theorem mkSchE {ls:List Lo} {e f:Str} {d:D} (hp:Us ls) (h:schD ls=some (e,f,d)) (S:Qa):Za "Schema" (F2 schF) ((ls.map Lo.d).map .d) S=.err e [(f,d)] (S++[.obj "Schema" []]):=by
 unfold Za
 simp only[Q9]
 rw[if_pos (show (ls.map Lo.d).length≤sizeLine by rw[List.length_map]; exact sz10 (by have:=hp.le; omega))]
 unfold makeU
 rw[sch_call hp (Jm S _)]
 unfold schR
 rw[h]
 rfl
/-- how a schema of these ends -/
def schV (ls:List Lo):Ve:=match schD ls with
 | none=>.ok (schO ls)
 | some (e,f,d)=>.err e f d
/-- schema | layout -/
def orL (ls:List Lo) (l:Lo):List Lo:=(ls.map fun q=>if q.z=l.z then l else q)++(if l.z∈ls.map Lo.z then [] else [l])
theorem orL_len (ls:List Lo) (l:Lo):(orL ls l).length≤ls.length + 1:=by
 unfold orL
 rw[List.length_append,List.length_map]
 split<;>simp
theorem orL_ok {ls:List Lo} {l:Lo} (h:∀ q∈ls,q.Ok) (hl:l.Ok):∀ q∈orL ls l,q.Ok:=fun q hq=>by
 unfold orL at hq
 rcases List.mem_append.mp hq with h1 | h1
 ·obtain⟨p,hp,rfl⟩:=List.mem_map.mp h1
  split
  ·exact hl
  ·exact h p hp
 ·split at h1
  ·cases h1
  ·obtain rfl:=List.mem_singleton.mp h1; exact hl
/-- what == of layouts compares -/
def Lo.e (l:Lo):D:=.tup [.str l.z,.tup (l.fs.map .str),.tup (l.ks.map Lay.keyD),.tup (l.ls.map Lay.refD)]
def eqLo (l m:Lo):Bool:=PyData.eqv l.e.py m.e.py
def Ux:List Lo→List Lo→Bool
 | [],[]=>true
 | l :: r,m :: t=>eqLo l m && Ux r t
 | _,_=>false
theorem leq_lo {l m:Lo} (hl:l.Ok) (hm:m.Ok) (S:Qa):F2 leqF [.d l.d,.d m.d] S=.ok (.d (.bl (eqLo l m))) S:=by
 show pre _ _=_
 rw[Zu ⟨_,_,_,_,_,_,_,_,rfl,rfl,(eqP_gd hl).ok,(eqP_gd hm).ok⟩]
 rfl
theorem eqLo_refl {l:Lo} (hl:l.Ok):eqLo l l=true:=(eqP_gd hl).gd.refl
theorem eqLos_refl:∀ {ls:List Lo},(∀ l∈ls,l.Ok)→Ux ls ls=true
 | [],_=>rfl
 | l :: r,h=>by
  show (eqLo l l && Ux r r)=true
  rw[eqLo_refl (h l List.mem_cons_self),eqLos_refl fun q hq=>h q (List.mem_cons_of_mem _ hq)]
  rfl
theorem plain_strs (zs:List Str):(D.tup (zs.map .str)).plain=true:=by
 show Jb (zs.map .str)=true
 induction zs with
 | nil=>rfl
 | cons z t ih=>exact ih
theorem plain_keys (ks:List (List Str)):(D.tup (ks.map Lay.keyD)).plain=true:=by
 show Jb (ks.map Lay.keyD)=true
 induction ks with
 | nil=>rfl
 | cons k t ih =>
  show ((Lay.keyD k).plain && Jb (t.map Lay.keyD))=true
  rw[ih,show (Lay.keyD k).plain=true from plain_strs k]
  rfl
theorem plain_refs (ls:List (List Str × Str)):(D.tup (ls.map Lay.refD)).plain=true:=by
 show Jb (ls.map Lay.refD)=true
 induction ls with
 | nil=>rfl
 | cons p t ih =>
  show ((Lay.refD p).plain && Jb (t.map Lay.refD))=true
  rw[ih]
  have:(Lay.refD p).plain=((D.tup (p.1.map .str)).plain && (true && true)):=rfl
  rw[this,plain_strs]
  rfl
theorem plain_head (ks:List (List Str)):((ks.map Lay.keyD).headD .non).plain=true:=by
 cases ks with
 | nil=>rfl
 | cons k t=>exact plain_strs k
theorem lo_plain (l:Lo):Xh (layG (.str l.z) (l.fs.map .str) (l.ks.map Lay.keyD) (l.ls.map Lay.refD))=true:=by
 unfold layG
 simp only[Xh,plain_strs,plain_keys,plain_refs,plain_head,Bool.and_true,Bool.true_and]
 rfl
theorem ob_pr {ls ms:List Lo} (hl:∀ l∈ls,l.Ok) (hm:∀ l∈ms,l.Ok):ObPr "Layout" (F2 leqF) (ls.map Lo.d) (ms.map Lo.d):=fun i d e hd he=>by
 rw[List.getElem?_map] at hd he
 cases h1:ls[i]? with
 | none=>rw[h1] at hd; cases hd
 | some l =>
  cases h2:ms[i]? with
  | none=>rw[h2] at he; cases he
  | some m =>
   rw[h1] at hd
   rw[h2] at he
   obtain rfl:=Option.some.inj hd
   obtain rfl:=Option.some.inj he
   have o1:=hl l (List.mem_of_getElem? h1)
   have o2:=hm m (List.mem_of_getElem? h2)
   refine⟨_,_,eqLo l m,rfl,rfl,lo_plain l,lo_plain m,leq_lo o1 o2 [],fun h=>?_⟩
   have:l=m:=Lo.d_inj l m (by unfold Lo.d layO; rw[h])
   rw[this]
   exact eqLo_refl o2
theorem ob_all:∀ {ls ms:List Lo},(∀ l∈ls,l.Ok)→(∀ l∈ms,l.Ok)→(ObAll (F2 leqF) (ls.map Lo.d) (ms.map Lo.d) ↔ Ux ls ms=true)
 | [],[],_,_=>⟨fun _=>rfl,fun _=>⟨rfl,fun i d e h=>by simp at h⟩⟩
 | [],_ :: _,_,_=>⟨fun h=>by have:=h.1; simp at this,fun h=>nomatch h⟩
 | _ :: _,[],_,_=>⟨fun h=>by have:=h.1; simp at this,fun h=>nomatch h⟩
 | l :: r,m :: t,hl,hm=>by
  have o1:=hl l List.mem_cons_self
  have o2:=hm m List.mem_cons_self
  have ih:=ob_all (ls:=r) (ms:=t) (fun q hq=>hl q (List.mem_cons_of_mem _ hq)) (fun q hq=>hm q (List.mem_cons_of_mem _ hq))
  have e0:Ux (l :: r) (m :: t)=(eqLo l m && Ux r t):=rfl
  rw[e0,Bool.and_eq_true]
  refine⟨fun ⟨h1,h2⟩=>⟨?_,ih.mp ⟨by simpa using h1,fun i d e hd he=>h2 (i + 1) d e (by simpa using hd) (by simpa using he)⟩⟩,fun ⟨h1,h2⟩=>?_⟩
  ·have:=h2 0 l.d m.d rfl rfl
   rw[leq_lo o1 o2] at this
   simpa using this
  ·obtain⟨k1,k2⟩:=ih.mpr h2
   refine⟨by simpa using k1,fun i d e hd he=>?_⟩
   cases i with
   | zero =>
    simp only[List.map_cons,List.getElem?_cons_zero,Option.some.injEq] at hd he
    subst hd he
    rw[leq_lo o1 o2,h1]
   | succ i=>exact k2 i d e (by simpa using hd) (by simpa using he)
theorem eqTup_lo {ls ms:List Lo} (hl:∀ l∈ls,l.Ok) (hm:∀ l∈ms,l.Ok) (S:Qa):eqTupB "Layout" (F2 leqF) (.d (.tup (ls.map Lo.d))) (.d (.tup (ms.map Lo.d))) S=.ok (.d (.bl (Ux ls ms))) S:=by
 show pre _ _=_
 rw[Zu (ob_pr hl hm)]
 cases h:Ux ls ms with
 | true=>rw[dec_t ((ob_all hl hm).mpr h)]
 | false=>rw[dec_f fun q=>by rw[(ob_all hl hm).mp q] at h; cases h]
theorem mkSchV {ls:List Lo} (hp:Us ls) (S:Qa):∃ g,Za "Schema" (F2 schF) ((ls.map Lo.d).map .d) S=(schV ls).res (S++g):=by
 unfold schV
 cases h:schD ls with
 | none=>exact⟨_,mkSch hp h S⟩
 | some p=>obtain⟨e,f,d⟩:=p; exact⟨_,mkSchE hp h S⟩
section
variable {P:Program} {w:World} {K:PySem.W.Frag} {mg:Str→Option Value} {base:Heap}
theorem sc_Schema___eq__:FnScope ["self", "other"] ["self", "other"] (defScope Z0):=⟨rfl,rfl,rfl,by decide +kernel,rfl,by decide +kernel,by decide +kernel⟩
/-- by the right side: a schema,or data -/
theorem dk_seq (T:Txt P K mg):∃ f,FD P w K mg base 3 (ma K (ga K "Schema") "__eq__") ["self", "other"] f∧(∀ (ls ms:List Lo) (S:Qa),(∀ l∈ls,l.Ok)→(∀ l∈ms,l.Ok)→f [.d (schO ls),.d (schO ms)] S=.ok (.d (.bl (Ux ls ms))) S)∧∀ (ls:List Lo) (y:D) (S:Qa),(tyN y).isSome=true→f [.d (schO ls),.d y] S=.ok (.d (.bl false)) S:=by
 have O_Layout:=dk_leqO (w:=w) (base:=base) T
 refine Exists.imp (fun f hf=>⟨hf.1,fun ls ms S h1 h2=>hf.2 (ls,.inl ms) S (fun q hq=>(Option.some.inj hq) ▸ ⟨h1,h2⟩),fun ls y S h=>hf.2 (ls,.inr ⟨y,h⟩) S (fun q hq=>nomatch hq)⟩) (factMt (k:=2) (fun p:List Lo × (List Lo ⊕ {y:D // (tyN y).isSome=true})=>[U.d (schO p.1),U.d (match p.2 with | .inl ms=>schO ms | .inr y=>y.1)]) (fun p=>.ok (.bl (match p.2 with | .inl ms=>Ux p.1 ms | .inr _=>false))) (fun p=>∀ q,p.2.getLeft?=some q→(∀ l∈p.1,l.Ok)∧∀ l∈q,l.Ok) T.F_Schema___eq__ sc_Schema___eq__ (fun _ _ _ _ _ _ us hl=>match us,hl with | [_,_],_=>rfl) (fun _=>rfl) (fun cdv A outer s H E hA hr=>(Ql (Qs (pd_and (Qo (cd_isiOwn T.isi_Schema) T.m_isinstance (Qc (Qe 1 (pv 1)) (Qc (Xd T.g_Schema) Qg))) (pd_one (pd_cmp (od_eqTupB T.me_Layout___eq__.at_ T.me_Layout___eq__.fn O_Layout (hr.mono (by decide))) (Jr (cs:=["Schema"]) (Qe 0 (pv 0)) (fun c hc=>by simp only[List.mem_cons,List.not_mem_nil,or_false] at hc; subst hc; exact⟨T.cls_Schema,T.na_Schema_layouts⟩)) (Jr (cs:=["Schema"]) (Qe 1 (pv 1)) (fun c hc=>by simp only[List.mem_cons,List.not_mem_nil,or_false] at hc; subst hc; exact⟨T.cls_Schema,T.na_Schema_layouts⟩)) (nomark _))))))) (fun p S ho=>?_))
 obtain⟨ls,ms | ⟨y,hy⟩⟩:=p
 ·obtain⟨h1,h2⟩:=ho ms rfl
  show ResG (.ok (.bl (Ux ls ms))) S _
  rw[show Q3 (["self", "other"]:List Str).length [U.d (schO ls),U.d (schO ms)]=[some (.d (schO ls)),some (.d (schO ms))] from rfl]
  have isi:Xp "Schema" (.d (schO ms)) (.d (.cls "Schema")) S=.ok (.d (.bl true)) S:=by simp [Xp,Vh,tyN,objU,schO]
  simp! [isi,sch_lays,eqTup_lo h1 h2]
  exact resG (v:=.ok (.bl (Ux ls ms)))
 ·show ResG (.ok (.bl false)) S _
  rw[show Q3 (["self", "other"]:List Str).length [U.d (schO ls),U.d y]=[some (.d (schO ls)),some (.d y)] from rfl]
  have isi:Xp "Schema" (.d y) (.d (.cls "Schema")) S=.ok (.d (.bl false)) S:=by
   show Vh "Schema" (.d y) S=_
   exact if_pos hy
  simp! [isi]
  exact resG (v:=.ok (.bl false))
theorem Zm:FnScope ["self", "layout", "layouts", "one"] ["self", "layout"] (defScope Yu):=⟨rfl,rfl,rfl,by decide +kernel,rfl,by decide +kernel,by decide +kernel⟩
theorem dk_or (T:Txt P K mg):∃ f,FD P w K mg base 5 (ma K (ga K "Schema") "__or__") ["self", "layout"] f∧∀ (p:List Lo × Lo) (S:Qa),((∀ l∈p.1,l.Ok)∧p.2.Ok∧p.1.length≤20)→f [.d (schO p.1),.d p.2.d] S=(schV (orL p.1 p.2)).res S:=by
 obtain⟨namesF,M_Schema_names,hN⟩:=dk_names (w:=w) (base:=base) T
 obtain⟨fd,FI⟩:=T.I_Schema
 have V_Schema:=(dk_schema (w:=w) (base:=base) T FI)
 refine factMt (k:=4) (fun p:List Lo × Lo=>[U.d (schO p.1),U.d p.2.d]) (fun p=>schV (orL p.1 p.2)) (fun p=>(∀ l∈p.1,l.Ok)∧p.2.Ok∧p.1.length≤20) T.F_Schema___or__ Zm (fun _ _ _ _ _ _ us hl=>match us,hl with | [_,_],_=>rfl) (fun _=>rfl) (fun cdv A outer s H E hA hr=>(Qh (pds_setLcM (i:=2) (own:=[("one",3)]) rfl Zm.nd rfl rfl (sw_true rfl rfl rfl (by decide +kernel)) (Yw (Jr (cs:=["Schema"]) (Qe 0 (pv 0)) (fun c hc=>by simp only[List.mem_cons,List.not_mem_nil,or_false] at hc; subst hc; exact⟨T.cls_Schema,T.na_Schema_layouts⟩))) (blkOk_by (own:=[("one",3)]) (N:=["self", "layout", "layouts", "one"]) (sc:=defScope Yu) (by decide +kernel)) (by decide) (fun _ _ _ _ _=>(Qn (i:=3) Zm.nd rfl (by first | exact Or.inl rfl | exact Or.inr rfl))) (fun _ _ _ _ _=>J8) (fun _ _ _ _ _=>(Uy (Qt (Xo hr) (Jr (cs:=["Layout"]) (Qe 3 (pv 3)) (fun c hc=>by simp only[List.mem_cons,List.not_mem_nil,or_false] at hc; subst hc; exact⟨T.cls_Layout,T.na_Layout_name⟩)) (Jr (cs:=["Layout"]) (Qe 1 (pv 1)) (fun c hc=>by simp only[List.mem_cons,List.not_mem_nil,or_false] at hc; subst hc; exact⟨T.cls_Layout,T.na_Layout_name⟩)) (nomark _)) (Qe 1 (pv 1)) (Qe 3 (pv 3)))))
 (Qh (Q5 (Qt (X6 hr) (Jr (cs:=["Layout"]) (Qe 1 (pv 1)) (fun c hc=>by simp only[List.mem_cons,List.not_mem_nil,or_false] at hc; subst hc; exact⟨T.cls_Layout,T.na_Layout_name⟩)) (pd_meth10 hA (Qe 0 (pv 0)) T.cls_Schema T.me_Schema_names M_Schema_names (hr.mono (by decide)) (takes_of rfl rfl rfl rfl)) (by rfl)) (Ql (Y8 (Uw PySem.F.plainAttrs_list PySem.F.slot_list_append PySem.F.type_list_append Yz (Qe 2 (pv 2)) (Qc (Qe 1 (pv 1)) Qg)))) Qq)
 (Zw 2 (Ql (Qs (pd_makeVS hA ⟨T.mk_Schema,V_Schema,F2.len⟩ (hr.mono (by decide)) (takes_of rfl rfl rfl rfl) (Xd T.g_Schema) (Qe 2 (pv 2))))))))) (fun p S ⟨ho,hl,hn⟩=>?_)
 obtain⟨ls,l⟩:=p
 have ho:∀ l∈ls,l.Ok:=ho
 have hl:l.Ok:=hl
 have hn:ls.length≤20:=hn
 show ResG (schV (orL ls l)) S _
 rw[show Q3 (["self", "layout", "layouts", "one"]:List Str).length [U.d (schO ls),U.d l.d]=[some (.d (schO ls)),some (.d l.d),none,none] from rfl]
 simp! [sch_lays,Z6]
 have hlc:lcU none (fun u ρ S=>Res.ok (List.set ρ 3 (some u)) S) (fun x S=>Res.ok true S)
   (fun ρ S=>(((rdV ρ 3 S).bind fun u S=>fldU [Str.ofString "Layout"] (Str.ofString "name") u S).bind fun x S=>((rdV ρ 1 S).bind fun u S=>fldU [Str.ofString "Layout"] (Str.ofString "name") u S).bind fun y S=>(DL.eqU x y S).bind asB).bind fun k S=>if k=true then rdV ρ 1 S else rdV ρ 3 S)
   [some (U.d (schO ls)),some (U.d l.d),none,none] (List.map U.d (List.map Lo.d ls)) [] S=.ok (((ls.map fun q=>if q.z=l.z then l else q).map Lo.d).map U.d) S:=by
  rw[show (ls.map Lo.d).map U.d=ls.map (U.d ∘ Lo.d) from List.map_map ..,Vz (g:=none) trivial (U.d ∘ Lo.d) (fun q=>U.d (if q.z=l.z then l else q).d) ls []]
  ·rw[List.nil_append,List.map_map,List.map_map]; rfl
  ·intro q hq
   refine⟨_,rfl,?_⟩
   have f1:∀ (q:Lo) (S:Qa),fldU [Str.ofString "Layout"] (Str.ofString "name") (.d q.d) S=.ok (.d (.str q.z)) S:=fun q S=>U8 _ _ _ _ _
   simp! [Function.comp,f1,eqU_txt]
   by_cases hz:q.z=l.z
   ·simp only[decide_eq_true hz,bind_ok,bind_err,bind_bad,fl_ok,fl_err,fl_bad,seq_nx,seq_rt,seq_err,seq_bk,seq_ct,seq_bad,bodyR_rt,bodyR_nx,bodyR_err,asB_bl,tru_bl,iff_f,iff_t,leU_int,ltU_int,gtU_int,geU_int,subU_int,addU_int,eqU_int,neU_int,tuple_two,mkE_one,len_tup,len_lst,c1_one,c2_two,rd0,rdS,norm_d,dat_d,gFl_none,gRs_none,List.set_cons_zero,List.set_cons_succ,Bool.not_true,Bool.not_false,Bool.false_eq_true,↓reduceIte,if_pos hz]
   ·simp only[decide_eq_false hz,bind_ok,bind_err,bind_bad,fl_ok,fl_err,fl_bad,seq_nx,seq_rt,seq_err,seq_bk,seq_ct,seq_bad,bodyR_rt,bodyR_nx,bodyR_err,asB_bl,tru_bl,iff_f,iff_t,leU_int,ltU_int,gtU_int,geU_int,subU_int,addU_int,eqU_int,neU_int,tuple_two,mkE_one,len_tup,len_lst,c1_one,c2_two,rd0,rdS,norm_d,dat_d,gFl_none,gRs_none,List.set_cons_zero,List.set_cons_succ,Bool.not_true,Bool.not_false,Bool.false_eq_true,↓reduceIte,if_neg hz]
  ·show 0 + ls.length≤sizeLine
   exact sz10 (by omega)
 have hw:Yn [some (U.d (schO ls)),some (U.d l.d),none,none] (List.map (fun x=>x.snd) [(Str.ofString "one",3)])=[some (U.d (schO ls)),some (U.d l.d),none,none]:=rfl
 generalize hms:(ls.map fun q=>if q.z=l.z then l else q)=ms at *
 have hml:ms.length=ls.length:=by rw[← hms,List.length_map]
 have hmk:mkM ((ms.map Lo.d).map U.d) S=.ok (.r S.length) (S++[.lst ((ms.map Lo.d).map U.d)]):=if_pos (by rw[List.length_map,List.length_map]; exact sz10 (by omega))
 have f1:∀ (S:Qa),fldU [Str.ofString "Layout"] (Str.ofString "name") (.d l.d) S=.ok (.d (.str l.z)) S:=fun S=>U8 _ _ _ _ _
 have mt:∀ (r:Qa→Res U) (S:Qa),mthU "Schema" "names" (.d (schO ls)) S r=r S:=fun r S=>by
  have ho:objU (.d (schO ls)) S=some (("Schema" : Str),([("layouts",.tup (ls.map Lo.d))]:List (Str × D)).map fun p=>(p.1,U.d p.2)):=rfl
  unfold mthU
  simp only[ho]
  rw[if_pos ⟨by simp,rfl⟩]
 have nm:∀ S,namesF [.d (schO ls)] S=.ok (.d (.lst ((ls.map Lo.z).map .str))) S:=fun S=>hN ls S ⟨ho,by omega⟩
 have hin:∀ S,inU true (.d (.str l.z)) (.d (.lst ((ls.map Lo.z).map .str))) S=_:=fun S=>Uo (neg:=true) hl.f.z.asc (fun z hz=>by obtain⟨l,hl,rfl⟩:=List.mem_map.mp hz; exact (ho l hl).f.z.asc) S (zs:=ls.map Lo.z)
 have hor:orL ls l=ms++(if l.z∈ls.map Lo.z then [] else [l]):=by unfold orL; rw[hms]
 have fin:∀ (os:List Lo),os=orL ls l→ResG (schV (orL ls l)) S (Jc ((asC (Str.ofString "Schema") (U.d (D.cls (Str.ofString "Schema"))) (frzV [some (U.d (schO ls)),some (U.d l.d),some (.r S.length),none] 2 (S++[.lst ((os.map Lo.d).map U.d)])) fun S_1 =>
   (rdV [some (U.d (schO ls)),some (U.d l.d),some (.r S.length),none] 2 S_1).bind fun u S=>(seqU u S).bind fun us S=>Za (Str.ofString "Schema") (F2 schF) us S).fl [some (U.d (schO ls)),some (U.d l.d),some (.r S.length),none] fun u S=>Fl.rt u S)):=fun os e=>by
  have hfz:frzV [some (U.d (schO ls)),some (U.d l.d),some (.r S.length),none] 2 (S++[.lst ((os.map Lo.d).map U.d)])=S++[.frz (.lst (os.map Lo.d))]:=by
   show frzN S.length _=_
   unfold frzN
   simp only[Jm,Q9,Xu]
  have hno:norm (S++[.frz (.lst (os.map Lo.d))]) (.r S.length)=.d (.lst (os.map Lo.d)):=Zx (Jm _ _)
  have hsq:seqU (.d (.lst (os.map Lo.d))) (S++[.frz (.lst (os.map Lo.d))])=.ok ((os.map Lo.d).map .d) (S++[.frz (.lst (os.map Lo.d))]):=rfl
  simp! [hfz,Zb,hno,hsq]
  obtain⟨g,hg⟩:=mkSchV (ls:=os) ⟨by rw[e]; exact orL_ok ho hl,by rw[e]; have:=orL_len ls l; omega⟩ (S++[.frz (.lst (os.map Lo.d))])
  rw[hg,← e,List.append_assoc]
  cases schV os with
  | ok d=>exact resGg (v:=.ok d)
  | err a b d=>exact resGg (v:=.err a b d)
 simp! [hw,hlc,hmk,f1,mt,nm,hin,inB]
 by_cases hm:l.z∈ls.map Lo.z
 ·simp -implicitDefEqProofs only[decide_eq_true hm,bind_ok,bind_err,bind_bad,fl_ok,fl_err,fl_bad,seq_nx,seq_rt,seq_err,seq_bk,seq_ct,seq_bad,bodyR_rt,bodyR_nx,bodyR_err,asB_bl,tru_bl,iff_f,iff_t,leU_int,ltU_int,gtU_int,geU_int,subU_int,addU_int,eqU_int,neU_int,tuple_two,mkE_one,len_tup,len_lst,c1_one,c2_two,rd0,rdS,norm_d,dat_d,gFl_none,gRs_none,List.set_cons_zero,List.set_cons_succ,Bool.not_true,Bool.not_false,Bool.false_eq_true,↓reduceIte]
  exact fin ms (by rw[hor,if_pos hm,List.append_nil])
 ·have hcel:(S++[Cell.lst ((ms.map Lo.d).map U.d)])[S.length]?=some (.lst ((ms.map Lo.d).map U.d)):=Jm _ _
  have hty:tyU "list" (.r S.length) (S++[.lst ((ms.map Lo.d).map U.d)])=true:=by simp only[tyU,hcel]; rfl
  have hap:appU (.r S.length) [.d l.d] (S++[.lst ((ms.map Lo.d).map U.d)])=.ok (.d .non) (S++[.lst (((ms++[l]).map Lo.d).map U.d)]):=by
   simp only[appU,Zf,Jm,List.length_map]
   rw[if_pos (show ms.length < sizeLine from sz5l (by omega)),Xu,List.map_append,List.map_append]
   rfl
  simp -implicitDefEqProofs only[decide_eq_false hm,bind_ok,bind_err,bind_bad,fl_ok,fl_err,fl_bad,seq_nx,seq_rt,seq_err,seq_bk,seq_ct,seq_bad,bodyR_rt,bodyR_nx,bodyR_err,asB_bl,tru_bl,iff_f,iff_t,leU_int,ltU_int,gtU_int,geU_int,subU_int,addU_int,eqU_int,neU_int,tuple_two,mkE_one,len_tup,len_lst,c1_one,c2_two,rd0,rdS,norm_d,dat_d,gFl_none,gRs_none,List.set_cons_zero,List.set_cons_succ,Bool.not_true,Bool.not_false,Bool.false_eq_true,↓reduceIte,norm_lst hcel,hty,hap]
  exact fin (ms++[l]) (by rw[hor,if_neg hm])
end
end KL
namespace KL
open PySem PySem.Spec PyProof.Rows L2 DL
open He (ga ma)
open TL (tl)
theorem Va {v:Ve} {S g:Qa} {z r:Res U} (hz:z=v.res (S++g)) (h1:∀ e f d,z=.err e [(f,d)] (S++g)→r=.err e [(f,d)] (S++g)) (h2:∀ d,z=.ok (.d d) (S++g)→r=.ok (.d d) (S++g)):ResG v S r:=by
 cases v with
 | ok d=>exact⟨g,h2 d hz⟩
 | err e f d=>exact⟨g,h1 e f d hz⟩
section
variable {P:Program} {w:World} {K:PySem.W.Frag} {mg:Str→Option Value} {base:Heap}
theorem Zo:FnScope ["_law_plains_here", "_law_one", "_law_plain_here"] ["_law_plains_here"] (defScope Yv):=⟨rfl,rfl,rfl,by decide +kernel,rfl,by decide +kernel,by decide +kernel⟩
theorem dk_schema_of (T:Txt P K mg):∃ f,FM P w K mg base 6 "_law_schema_of" ["_law_plains_here"] f∧∀ (ls:List Lay) (S:Qa),((∀ l∈ls,l.Fit)∧ls.length≤7)→f [.d (.lst (ls.map Lay.d))] S=(schV (ls.map Lay.lo)).res S:=by
 obtain⟨makeF,F_law_make,hM⟩:=dk_make (w:=w) (base:=base) T
 obtain⟨fd,FI⟩:=T.I_Schema
 have V_Schema:=(dk_schema (w:=w) (base:=base) T FI)
 refine factM (k:=5) (fun ls:List Lay=>[U.d (.lst (ls.map Lay.d))]) (fun ls=>schV (ls.map Lay.lo)) (fun ls=>(∀ l∈ls,l.Fit)∧ls.length≤7) T.F_law_schema_of Zo (fun _ _ _ _ _ _ us hl=>match us,hl with | [_],_=>rfl) (fun _=>rfl) (fun cdv A outer s H E hA hr=>(Qh (Z8 (i:=1) (own:=[("_law_plain_here",2)]) rfl Zo.nd rfl rfl (sw_true rfl rfl rfl (by decide +kernel)) (Yw (Qe 0 (pv 0))) (blkOk_by (own:=[("_law_plain_here",2)]) (N:=["_law_plains_here", "_law_one", "_law_plain_here"]) (sc:=defScope Yv) (by decide +kernel)) (by decide) (fun _ _ _ _ _=>(Qn (i:=2) Zo.nd rfl (by first | exact Or.inl rfl | exact Or.inr rfl))) (fun _ _ _ _ _=>J8) (fun _ _ _ _ _=>(Qp hA F_law_make (hr.mono (by decide)) takes0 (Qc (Qe 2 (pv 2)) Qg))))
 (Qh (Q5 (Qt od_lt (Qo Jk T.m_len (Qc (Qe 1 (pv 1)) Qg)) Qi (nomark _)) (Ql (Qs (Uy (Qt (Xo hr) (Qo Jk T.m_len (Qc (Qe 1 (pv 1)) Qg)) Qi (nomark _)) (Xg hA ⟨T.mk_Schema,V_Schema,F2.len⟩ (hr.mono (by decide)) (takes_of rfl rfl rfl rfl) (Xd T.g_Schema) (Qc (Qw ixd (Qe 1 (pv 1)) Qi) (Qc (Qw ixd (Qe 1 (pv 1)) Qi) Qg))) (Uy (Jd (Qe 1 (pv 1))) (Xg hA ⟨T.mk_Schema,V_Schema,F2.len⟩ (hr.mono (by decide)) (takes_of rfl rfl rfl rfl) (Xd T.g_Schema) (Qc (Qw ixd (Qe 1 (pv 1)) Qi) Qg)) (pd_makeV0 hA ⟨T.mk_Schema,V_Schema,F2.len⟩ (hr.mono (by decide)) (takes_of rfl rfl rfl rfl) (Xd T.g_Schema)))))) Qq)
 (Qh (Q5 (Qt (Xo hr) (Qo Jk T.m_len (Qc (Qe 1 (pv 1)) Qg)) Qi (nomark _)) (Ql (Qs (Xg hA ⟨T.mk_Schema,V_Schema,F2.len⟩ (hr.mono (by decide)) (takes_of rfl rfl rfl rfl) (Xd T.g_Schema) (Qc (Qw ixd (Qe 1 (pv 1)) Qi) (Qc (Qw ixd (Qe 1 (pv 1)) Qi) (Qc (Qw ixd (Qe 1 (pv 1)) Qi) Qg)))))) Qq)
 (Qh (Q5 (Qt (Xo hr) (Qo Jk T.m_len (Qc (Qe 1 (pv 1)) Qg)) Qi (nomark _)) (Ql (Qs (Xg hA ⟨T.mk_Schema,V_Schema,F2.len⟩ (hr.mono (by decide)) (takes_of rfl rfl rfl rfl) (Xd T.g_Schema) (Qc (Qw ixd (Qe 1 (pv 1)) Qi) (Qc (Qw ixd (Qe 1 (pv 1)) Qi) (Qc (Qw ixd (Qe 1 (pv 1)) Qi) (Qc (Qw ixd (Qe 1 (pv 1)) Qi) Qg))))))) Qq)
 (Qh (Q5 (Qt (Xo hr) (Qo Jk T.m_len (Qc (Qe 1 (pv 1)) Qg)) Qi (nomark _)) (Ql (Qs (Xg hA ⟨T.mk_Schema,V_Schema,F2.len⟩ (hr.mono (by decide)) (takes_of rfl rfl rfl rfl) (Xd T.g_Schema) (Qc (Qw ixd (Qe 1 (pv 1)) Qi) (Qc (Qw ixd (Qe 1 (pv 1)) Qi) (Qc (Qw ixd (Qe 1 (pv 1)) Qi) (Qc (Qw ixd (Qe 1 (pv 1)) Qi) (Qc (Qw ixd (Qe 1 (pv 1)) Qi) Qg)))))))) Qq)
 (Qh (Q5 (Qt (Xo hr) (Qo Jk T.m_len (Qc (Qe 1 (pv 1)) Qg)) Qi (nomark _)) (Ql (Qs (Xg hA ⟨T.mk_Schema,V_Schema,F2.len⟩ (hr.mono (by decide)) (takes_of rfl rfl rfl rfl) (Xd T.g_Schema) (Qc (Qw ixd (Qe 1 (pv 1)) Qi) (Qc (Qw ixd (Qe 1 (pv 1)) Qi) (Qc (Qw ixd (Qe 1 (pv 1)) Qi) (Qc (Qw ixd (Qe 1 (pv 1)) Qi) (Qc (Qw ixd (Qe 1 (pv 1)) Qi) (Qc (Qw ixd (Qe 1 (pv 1)) Qi) Qg))))))))) Qq)
 (Ql (Qs (Xg hA ⟨T.mk_Schema,V_Schema,F2.len⟩ (hr.mono (by decide)) (takes_of rfl rfl rfl rfl) (Xd T.g_Schema) (Qc (Qw ixd (Qe 1 (pv 1)) Qi) (Qc (Qw ixd (Qe 1 (pv 1)) Qi) (Qc (Qw ixd (Qe 1 (pv 1)) Qi) (Qc (Qw ixd (Qe 1 (pv 1)) Qi) (Qc (Qw ixd (Qe 1 (pv 1)) Qi) (Qc (Qw ixd (Qe 1 (pv 1)) Qi) (Qc (Qw ixd (Qe 1 (pv 1)) Qi) Qg))))))))))))))))) (fun ls S ho=>?_)
 rw[show Q3 (["_law_plains_here", "_law_one", "_law_plain_here"]:List Str).length [U.d (.lst (ls.map Lay.d))]=[some (.d (.lst (ls.map Lay.d))),none,none] from rfl]
 obtain⟨hfit,hle⟩:=ho
 have so:Us (ls.map Lay.lo):=⟨fun l hl=>by
  obtain⟨q,hq,rfl⟩:=List.mem_map.mp hl
  exact (hfit q hq).lo,by rw[List.length_map]; omega⟩
 have hlc:lcU none (fun u ρ S=>Res.ok (List.set ρ 2 (some u)) S) (fun x S=>Res.ok true S) (fun ρ S=>((rdV ρ 2 S).bind fun x S=>Res.ok [x] S).bind makeF) [some (.d (.lst (ls.map Lay.d))),none,none] ((ls.map Lay.d).map U.d) [] S=.ok (((ls.map Lay.lo).map Lo.d).map U.d) S:=by
  rw[List.map_map,Vz (g:=none) trivial (U.d ∘ Lay.d) (fun l=>U.d l.lo.d) ls []]
  ·rw[List.nil_append,List.map_map,List.map_map]; rfl
  ·intro l hl
   refine⟨_,rfl,?_⟩
   simp! [Function.comp]
   exact hM l S (hfit l hl)
  ·show 0 + ls.length≤sizeLine
   exact sz10 (by omega)
 have hw:∀ x:Str,Yn [some (U.d (D.lst (List.map Lay.d ls))),none,none] (List.map (fun x=>x.snd) [(x,2)])=[some (U.d (D.lst (List.map Lay.d ls))),none,none]:=fun _=>rfl
 have hmk:mkL (((ls.map Lay.lo).map Lo.d).map U.d) S=.ok (.d (.lst ((ls.map Lay.lo).map Lo.d))) S:=mkL_d (by rw[List.length_map,List.length_map]; omega) S
 simp -implicitDefEqProofs only[bind_ok,bind_err,bind_bad,fl_ok,fl_err,fl_bad,seq_nx,seq_rt,seq_err,seq_bk,seq_ct,seq_bad,bodyR_rt,bodyR_nx,bodyR_err,asB_bl,tru_bl,iff_f,iff_t,leU_int,ltU_int,gtU_int,geU_int,subU_int,addU_int,eqU_int,neU_int,tuple_two,mkE_one,c1_one,c2_two,rd0,rdS,norm_d,dat_d,gFl_none,gRs_none,List.set_cons_zero,List.set_cons_succ,Bool.not_true,Bool.not_false,Bool.false_eq_true,↓reduceIte,Z6,hw,hlc,hmk]
 clear hlc hmk hw
 have hll:(ls.map Lay.lo).length≤7:=by rw[List.length_map]; exact hle
 generalize ls.map Lay.lo=los at *
 have ix:∀ (i:Nat) (l:Lo),los[i]?=some l→ixU (.d (.lst (los.map Lo.d))) (.d (.int (i:Nat))) S=.ok (.d l.d) S:=fun i l h=>(LstU.lst (S:=S)).ix (by rw[List.getElem?_map,h]; rfl)
 obtain⟨gg,mkS⟩:=mkSchV so S
 match los,hll,ix,mkS with
 | [],_,ix,mkS =>
  have ln:∀ S,lenU (.d (.lst (List.map Lo.d []))) S=.ok (.d (.int 0)) S:=fun S=>rfl
  have mk:Za "Schema" (F2 schF) [] S=(schV []).res (S++gg):=mkS
  have tr:truU (.d (.lst (List.map Lo.d []))) S=.ok false S:=rfl
  have d0:decide ((0:Int) < 3)=true:=by decide
  have d2:decide ((0:Int)=2)=false:=by decide
  have d3:decide ((0:Int)=3)=false:=by decide
  have d4:decide ((0:Int)=4)=false:=by decide
  have d5:decide ((0:Int)=5)=false:=by decide
  have d6:decide ((0:Int)=6)=false:=by decide
  refine Va mk (fun e f d h=>?_) (fun d h=>?_)<;>(simp -implicitDefEqProofs only[bind_ok,bind_err,bind_bad,fl_ok,fl_err,fl_bad,seq_nx,seq_rt,seq_err,seq_bk,seq_ct,seq_bad,bodyR_rt,bodyR_nx,bodyR_err,asB_bl,tru_bl,iff_f,iff_t,leU_int,ltU_int,gtU_int,geU_int,subU_int,addU_int,eqU_int,neU_int,tuple_two,mkE_one,c1_one,c2_two,rd0,rdS,norm_d,dat_d,gFl_none,gRs_none,List.set_cons_zero,List.set_cons_succ,Bool.not_true,Bool.not_false,Bool.false_eq_true,↓reduceIte,decide_true,ln,tr,d0,d2,d3,d4,d5,d6,Zb,h])
 | [a],_,ix,mkS =>
  have x0:ixU (.d (.lst (List.map Lo.d [a]))) (.d (.int 0)) S=.ok (.d a.d) S:=ix 0 a rfl
  have ln:∀ S,lenU (.d (.lst (List.map Lo.d [a]))) S=.ok (.d (.int 1)) S:=fun S=>rfl
  have mk:Za "Schema" (F2 schF) [.d a.d] S=(schV [a]).res (S++gg):=mkS
  have tr:truU (.d (.lst (List.map Lo.d [a]))) S=.ok true S:=rfl
  have d0:decide ((1:Int) < 3)=true:=by decide
  have d2:decide ((1:Int)=2)=false:=by decide
  have d3:decide ((1:Int)=3)=false:=by decide
  have d4:decide ((1:Int)=4)=false:=by decide
  have d5:decide ((1:Int)=5)=false:=by decide
  have d6:decide ((1:Int)=6)=false:=by decide
  refine Va mk (fun e f d h=>?_) (fun d h=>?_)<;>(simp -implicitDefEqProofs only[bind_ok,bind_err,bind_bad,fl_ok,fl_err,fl_bad,seq_nx,seq_rt,seq_err,seq_bk,seq_ct,seq_bad,bodyR_rt,bodyR_nx,bodyR_err,asB_bl,tru_bl,iff_f,iff_t,leU_int,ltU_int,gtU_int,geU_int,subU_int,addU_int,eqU_int,neU_int,tuple_two,mkE_one,c1_one,c2_two,rd0,rdS,norm_d,dat_d,gFl_none,gRs_none,List.set_cons_zero,List.set_cons_succ,Bool.not_true,Bool.not_false,Bool.false_eq_true,↓reduceIte,decide_true,ln,tr,d0,d2,d3,d4,d5,d6,Zb,h,x0])
 | [a,b],_,ix,mkS =>
  have x0:ixU (.d (.lst (List.map Lo.d [a,b]))) (.d (.int 0)) S=.ok (.d a.d) S:=ix 0 a rfl
  have x1:ixU (.d (.lst (List.map Lo.d [a,b]))) (.d (.int 1)) S=.ok (.d b.d) S:=ix 1 b rfl
  have ln:∀ S,lenU (.d (.lst (List.map Lo.d [a,b]))) S=.ok (.d (.int 2)) S:=fun S=>rfl
  have mk:Za "Schema" (F2 schF) [.d a.d,.d b.d] S=(schV [a,b]).res (S++gg):=mkS
  have tr:truU (.d (.lst (List.map Lo.d [a,b]))) S=.ok true S:=rfl
  have d0:decide ((2:Int) < 3)=true:=by decide
  have d2:decide ((2:Int)=2)=true:=by decide
  have d3:decide ((2:Int)=3)=false:=by decide
  have d4:decide ((2:Int)=4)=false:=by decide
  have d5:decide ((2:Int)=5)=false:=by decide
  have d6:decide ((2:Int)=6)=false:=by decide
  refine Va mk (fun e f d h=>?_) (fun d h=>?_)<;>(simp -implicitDefEqProofs only[bind_ok,bind_err,bind_bad,fl_ok,fl_err,fl_bad,seq_nx,seq_rt,seq_err,seq_bk,seq_ct,seq_bad,bodyR_rt,bodyR_nx,bodyR_err,asB_bl,tru_bl,iff_f,iff_t,leU_int,ltU_int,gtU_int,geU_int,subU_int,addU_int,eqU_int,neU_int,tuple_two,mkE_one,c1_one,c2_two,rd0,rdS,norm_d,dat_d,gFl_none,gRs_none,List.set_cons_zero,List.set_cons_succ,Bool.not_true,Bool.not_false,Bool.false_eq_true,↓reduceIte,decide_true,ln,tr,d0,d2,d3,d4,d5,d6,Zb,h,x0,x1])
 | [a,b,c],_,ix,mkS =>
  have x0:ixU (.d (.lst (List.map Lo.d [a,b,c]))) (.d (.int 0)) S=.ok (.d a.d) S:=ix 0 a rfl
  have x1:ixU (.d (.lst (List.map Lo.d [a,b,c]))) (.d (.int 1)) S=.ok (.d b.d) S:=ix 1 b rfl
  have x2:ixU (.d (.lst (List.map Lo.d [a,b,c]))) (.d (.int 2)) S=.ok (.d c.d) S:=ix 2 c rfl
  have ln:∀ S,lenU (.d (.lst (List.map Lo.d [a,b,c]))) S=.ok (.d (.int 3)) S:=fun S=>rfl
  have mk:Za "Schema" (F2 schF) [.d a.d,.d b.d,.d c.d] S=(schV [a,b,c]).res (S++gg):=mkS
  have tr:truU (.d (.lst (List.map Lo.d [a,b,c]))) S=.ok true S:=rfl
  have d0:decide ((3:Int) < 3)=false:=by decide
  have d2:decide ((3:Int)=2)=false:=by decide
  have d3:decide ((3:Int)=3)=true:=by decide
  have d4:decide ((3:Int)=4)=false:=by decide
  have d5:decide ((3:Int)=5)=false:=by decide
  have d6:decide ((3:Int)=6)=false:=by decide
  refine Va mk (fun e f d h=>?_) (fun d h=>?_)<;>(simp -implicitDefEqProofs only[bind_ok,bind_err,bind_bad,fl_ok,fl_err,fl_bad,seq_nx,seq_rt,seq_err,seq_bk,seq_ct,seq_bad,bodyR_rt,bodyR_nx,bodyR_err,asB_bl,tru_bl,iff_f,iff_t,leU_int,ltU_int,gtU_int,geU_int,subU_int,addU_int,eqU_int,neU_int,tuple_two,mkE_one,c1_one,c2_two,rd0,rdS,norm_d,dat_d,gFl_none,gRs_none,List.set_cons_zero,List.set_cons_succ,Bool.not_true,Bool.not_false,Bool.false_eq_true,↓reduceIte,decide_true,ln,tr,d0,d2,d3,d4,d5,d6,Zb,h,x0,x1,x2])
 | [a,b,c,d],_,ix,mkS =>
  have x0:ixU (.d (.lst (List.map Lo.d [a,b,c,d]))) (.d (.int 0)) S=.ok (.d a.d) S:=ix 0 a rfl
  have x1:ixU (.d (.lst (List.map Lo.d [a,b,c,d]))) (.d (.int 1)) S=.ok (.d b.d) S:=ix 1 b rfl
  have x2:ixU (.d (.lst (List.map Lo.d [a,b,c,d]))) (.d (.int 2)) S=.ok (.d c.d) S:=ix 2 c rfl
  have x3:ixU (.d (.lst (List.map Lo.d [a,b,c,d]))) (.d (.int 3)) S=.ok (.d d.d) S:=ix 3 d rfl
  have ln:∀ S,lenU (.d (.lst (List.map Lo.d [a,b,c,d]))) S=.ok (.d (.int 4)) S:=fun S=>rfl
  have mk:Za "Schema" (F2 schF) [.d a.d,.d b.d,.d c.d,.d d.d] S=(schV [a,b,c,d]).res (S++gg):=mkS
  have tr:truU (.d (.lst (List.map Lo.d [a,b,c,d]))) S=.ok true S:=rfl
  have d0:decide ((4:Int) < 3)=false:=by decide
  have d2:decide ((4:Int)=2)=false:=by decide
  have d3:decide ((4:Int)=3)=false:=by decide
  have d4:decide ((4:Int)=4)=true:=by decide
  have d5:decide ((4:Int)=5)=false:=by decide
  have d6:decide ((4:Int)=6)=false:=by decide
  refine Va mk (fun e f d h=>?_) (fun d h=>?_)<;>(simp -implicitDefEqProofs only[bind_ok,bind_err,bind_bad,fl_ok,fl_err,fl_bad,seq_nx,seq_rt,seq_err,seq_bk,seq_ct,seq_bad,bodyR_rt,bodyR_nx,bodyR_err,asB_bl,tru_bl,iff_f,iff_t,leU_int,ltU_int,gtU_int,geU_int,subU_int,addU_int,eqU_int,neU_int,tuple_two,mkE_one,c1_one,c2_two,rd0,rdS,norm_d,dat_d,gFl_none,gRs_none,List.set_cons_zero,List.set_cons_succ,Bool.not_true,Bool.not_false,Bool.false_eq_true,↓reduceIte,decide_true,ln,tr,d0,d2,d3,d4,d5,d6,Zb,h,x0,x1,x2,x3])
 | [a,b,c,d,e],_,ix,mkS =>
  have x0:ixU (.d (.lst (List.map Lo.d [a,b,c,d,e]))) (.d (.int 0)) S=.ok (.d a.d) S:=ix 0 a rfl
  have x1:ixU (.d (.lst (List.map Lo.d [a,b,c,d,e]))) (.d (.int 1)) S=.ok (.d b.d) S:=ix 1 b rfl
  have x2:ixU (.d (.lst (List.map Lo.d [a,b,c,d,e]))) (.d (.int 2)) S=.ok (.d c.d) S:=ix 2 c rfl
  have x3:ixU (.d (.lst (List.map Lo.d [a,b,c,d,e]))) (.d (.int 3)) S=.ok (.d d.d) S:=ix 3 d rfl
  have x4:ixU (.d (.lst (List.map Lo.d [a,b,c,d,e]))) (.d (.int 4)) S=.ok (.d e.d) S:=ix 4 e rfl
  have ln:∀ S,lenU (.d (.lst (List.map Lo.d [a,b,c,d,e]))) S=.ok (.d (.int 5)) S:=fun S=>rfl
  have mk:Za "Schema" (F2 schF) [.d a.d,.d b.d,.d c.d,.d d.d,.d e.d] S=(schV [a,b,c,d,e]).res (S++gg):=mkS
  have tr:truU (.d (.lst (List.map Lo.d [a,b,c,d,e]))) S=.ok true S:=rfl
  have d0:decide ((5:Int) < 3)=false:=by decide
  have d2:decide ((5:Int)=2)=false:=by decide
  have d3:decide ((5:Int)=3)=false:=by decide
  have d4:decide ((5:Int)=4)=false:=by decide
  have d5:decide ((5:Int)=5)=true:=by decide
  have d6:decide ((5:Int)=6)=false:=by decide
  refine Va mk (fun e f d h=>?_) (fun d h=>?_)<;>(simp -implicitDefEqProofs only[bind_ok,bind_err,bind_bad,fl_ok,fl_err,fl_bad,seq_nx,seq_rt,seq_err,seq_bk,seq_ct,seq_bad,bodyR_rt,bodyR_nx,bodyR_err,asB_bl,tru_bl,iff_f,iff_t,leU_int,ltU_int,gtU_int,geU_int,subU_int,addU_int,eqU_int,neU_int,tuple_two,mkE_one,c1_one,c2_two,rd0,rdS,norm_d,dat_d,gFl_none,gRs_none,List.set_cons_zero,List.set_cons_succ,Bool.not_true,Bool.not_false,Bool.false_eq_true,↓reduceIte,decide_true,ln,tr,d0,d2,d3,d4,d5,d6,Zb,h,x0,x1,x2,x3,x4])
 | [a,b,c,d,e,f],_,ix,mkS =>
  have x0:ixU (.d (.lst (List.map Lo.d [a,b,c,d,e,f]))) (.d (.int 0)) S=.ok (.d a.d) S:=ix 0 a rfl
  have x1:ixU (.d (.lst (List.map Lo.d [a,b,c,d,e,f]))) (.d (.int 1)) S=.ok (.d b.d) S:=ix 1 b rfl
  have x2:ixU (.d (.lst (List.map Lo.d [a,b,c,d,e,f]))) (.d (.int 2)) S=.ok (.d c.d) S:=ix 2 c rfl
  have x3:ixU (.d (.lst (List.map Lo.d [a,b,c,d,e,f]))) (.d (.int 3)) S=.ok (.d d.d) S:=ix 3 d rfl
  have x4:ixU (.d (.lst (List.map Lo.d [a,b,c,d,e,f]))) (.d (.int 4)) S=.ok (.d e.d) S:=ix 4 e rfl
  have x5:ixU (.d (.lst (List.map Lo.d [a,b,c,d,e,f]))) (.d (.int 5)) S=.ok (.d f.d) S:=ix 5 f rfl
  have ln:∀ S,lenU (.d (.lst (List.map Lo.d [a,b,c,d,e,f]))) S=.ok (.d (.int 6)) S:=fun S=>rfl
  have mk:Za "Schema" (F2 schF) [.d a.d,.d b.d,.d c.d,.d d.d,.d e.d,.d f.d] S=(schV [a,b,c,d,e,f]).res (S++gg):=mkS
  have tr:truU (.d (.lst (List.map Lo.d [a,b,c,d,e,f]))) S=.ok true S:=rfl
  have d0:decide ((6:Int) < 3)=false:=by decide
  have d2:decide ((6:Int)=2)=false:=by decide
  have d3:decide ((6:Int)=3)=false:=by decide
  have d4:decide ((6:Int)=4)=false:=by decide
  have d5:decide ((6:Int)=5)=false:=by decide
  have d6:decide ((6:Int)=6)=true:=by decide
  refine Va mk (fun e f d h=>?_) (fun d h=>?_)<;>(simp -implicitDefEqProofs only[bind_ok,bind_err,bind_bad,fl_ok,fl_err,fl_bad,seq_nx,seq_rt,seq_err,seq_bk,seq_ct,seq_bad,bodyR_rt,bodyR_nx,bodyR_err,asB_bl,tru_bl,iff_f,iff_t,leU_int,ltU_int,gtU_int,geU_int,subU_int,addU_int,eqU_int,neU_int,tuple_two,mkE_one,c1_one,c2_two,rd0,rdS,norm_d,dat_d,gFl_none,gRs_none,List.set_cons_zero,List.set_cons_succ,Bool.not_true,Bool.not_false,Bool.false_eq_true,↓reduceIte,decide_true,ln,tr,d0,d2,d3,d4,d5,d6,Zb,h,x0,x1,x2,x3,x4,x5])
 | [a,b,c,d,e,f,g],_,ix,mkS =>
  have x0:ixU (.d (.lst (List.map Lo.d [a,b,c,d,e,f,g]))) (.d (.int 0)) S=.ok (.d a.d) S:=ix 0 a rfl
  have x1:ixU (.d (.lst (List.map Lo.d [a,b,c,d,e,f,g]))) (.d (.int 1)) S=.ok (.d b.d) S:=ix 1 b rfl
  have x2:ixU (.d (.lst (List.map Lo.d [a,b,c,d,e,f,g]))) (.d (.int 2)) S=.ok (.d c.d) S:=ix 2 c rfl
  have x3:ixU (.d (.lst (List.map Lo.d [a,b,c,d,e,f,g]))) (.d (.int 3)) S=.ok (.d d.d) S:=ix 3 d rfl
  have x4:ixU (.d (.lst (List.map Lo.d [a,b,c,d,e,f,g]))) (.d (.int 4)) S=.ok (.d e.d) S:=ix 4 e rfl
  have x5:ixU (.d (.lst (List.map Lo.d [a,b,c,d,e,f,g]))) (.d (.int 5)) S=.ok (.d f.d) S:=ix 5 f rfl
  have x6:ixU (.d (.lst (List.map Lo.d [a,b,c,d,e,f,g]))) (.d (.int 6)) S=.ok (.d g.d) S:=ix 6 g rfl
  have ln:∀ S,lenU (.d (.lst (List.map Lo.d [a,b,c,d,e,f,g]))) S=.ok (.d (.int 7)) S:=fun S=>rfl
  have mk:Za "Schema" (F2 schF) [.d a.d,.d b.d,.d c.d,.d d.d,.d e.d,.d f.d,.d g.d] S=(schV [a,b,c,d,e,f,g]).res (S++gg):=mkS
  have tr:truU (.d (.lst (List.map Lo.d [a,b,c,d,e,f,g]))) S=.ok true S:=rfl
  have d0:decide ((7:Int) < 3)=false:=by decide
  have d2:decide ((7:Int)=2)=false:=by decide
  have d3:decide ((7:Int)=3)=false:=by decide
  have d4:decide ((7:Int)=4)=false:=by decide
  have d5:decide ((7:Int)=5)=false:=by decide
  have d6:decide ((7:Int)=6)=false:=by decide
  refine Va mk (fun e f d h=>?_) (fun d h=>?_)<;>(simp -implicitDefEqProofs only[bind_ok,bind_err,bind_bad,fl_ok,fl_err,fl_bad,seq_nx,seq_rt,seq_err,seq_bk,seq_ct,seq_bad,bodyR_rt,bodyR_nx,bodyR_err,asB_bl,tru_bl,iff_f,iff_t,leU_int,ltU_int,gtU_int,geU_int,subU_int,addU_int,eqU_int,neU_int,tuple_two,mkE_one,c1_one,c2_two,rd0,rdS,norm_d,dat_d,gFl_none,gRs_none,List.set_cons_zero,List.set_cons_succ,Bool.not_true,Bool.not_false,Bool.false_eq_true,↓reduceIte,decide_true,ln,tr,d0,d2,d3,d4,d5,d6,Zb,h,x0,x1,x2,x3,x4,x5,x6])
 | _ :: _ :: _ :: _ :: _ :: _ :: _ :: _ :: _,h,_,_=>exact absurd h (by simp)
end
end KL
namespace KL
open PySem PySem.Spec PyProof.Rows L2 DL
open He (ga ma)
open TL (tl)
/-- what is told of it -/
def toldV:Ve→D
 | .ok _=>.non
 | .err e _ d=>.tup [.str e,d]
def Known (v:Ve):Prop:=match v with
 | .ok _=>True
 | .err e f _=>(e,f)∈([("Twice", "name"),("TooMany", "limit"),("NoTable", "table"),("BadReference", "index")]:List (Str × Str))
section
variable {P:Program} {w:World} {K:PySem.W.Frag} {mg:Str→Option Value} {base:Heap}
theorem Yt:FnScope ["_law_action", "e"] ["_law_action"] (defScope Ud):=⟨rfl,rfl,rfl,by decide +kernel,rfl,by decide +kernel,by decide +kernel⟩
theorem dk_raised (T:Txt P K mg):∃ cl,(∀ k,Tells P w K mg base (k + 1) "_law_raised" (tellU false errN cl 2))∧∀ (v:Ve) (S:Qa),Known v→Ur (tellU false errN cl 2 (v.res S))=.ok (.d (toldV v)) S:=by
 refine⟨_,fun k=>tells_try (N:=["_law_action", "e"]) (a := "_law_action") false T.F_law_raised Yt (fun _ _ _ _ _ _ us hl=>match us,hl with | [_],_=>rfl) rfl (by first | exact Or.inl rfl | exact Or.inr rfl) rfl (fun cdv A outer s H E hA hr=>(.as (i:=1) Yt.nd rfl rfl ⟨rfl,by decide,Or.inl T.n_Twice.gC⟩ (exm_is T.exm (y := "Twice") (by decide +kernel) (by decide)) (px_two px_str (px_fld (fun c hc=>⟨T.xfc c hc,T.fnd c hc "name" (by decide +kernel)⟩) (fun _ _ _=>pv 1))) (.as (i:=1) Yt.nd rfl rfl ⟨rfl,by decide,Or.inl T.n_TooMany.gC⟩ (exm_is T.exm (y := "TooMany") (by decide +kernel) (by decide)) (px_two px_str (px_fld (fun c hc=>⟨T.xfc c hc,T.fnd c hc "limit" (by decide +kernel)⟩) (fun _ _ _=>pv 1))) (.as (i:=1) Yt.nd rfl rfl ⟨rfl,by decide,Or.inl T.n_NoTable.gC⟩ (exm_is T.exm (y := "NoTable") (by decide +kernel) (by decide)) (px_two px_str (px_fld (fun c hc=>⟨T.xfc c hc,T.fnd c hc "table" (by decide +kernel)⟩) (fun _ _ _=>pv 1))) (.as (i:=1) Yt.nd rfl rfl ⟨rfl,by decide,Or.inl T.n_BadReference.gC⟩ (exm_is T.exm (y := "BadReference") (by decide +kernel) (by decide)) (px_two px_str (px_fld (fun c hc=>⟨T.xfc c hc,T.fnd c hc "index" (by decide +kernel)⟩) (fun _ _ _=>pv 1))) .nil))))),fun v S h=>?_⟩
 cases v with
 | ok d=>rfl
 | err e f d =>
  have h:(e,f)∈([("Twice", "name"),("TooMany", "limit"),("NoTable", "table"),("BadReference", "index")]:List (Str × Str)):=h
  simp only[List.mem_cons,Prod.mk.injEq,List.not_mem_nil,or_false] at h
  have hin:e∈errN:=by rcases h with ⟨rfl,rfl⟩ | ⟨rfl,rfl⟩ | ⟨rfl,rfl⟩ | ⟨rfl,rfl⟩<;>decide +kernel
  have look:∀ (f:Str) (d:D) (S:Qa),optR (List.lookup f [(f,d)]) U.d S=.ok (.d d) S:=fun f d S=>by simp only[lookup_one,optR]
  show Ur (if e∈errN then (match hdlU e [(f,d)] (List.replicate 2 none) S _ with | .rt u S'=>Res.ok u S' | _=>.bad) else .bad)=_
  rw[if_pos hin]
  rcases h with ⟨rfl,rfl⟩ | ⟨rfl,rfl⟩ | ⟨rfl,rfl⟩ | ⟨rfl,rfl⟩
  ·rw[hdl_t (by decide +kernel) (S':=S) (u:=.d (.tup [.str "Twice",d])) (by simp only[look,bind_ok,bind_err,bind_bad,fl_ok,fl_err,fl_bad,seq_nx,seq_rt,seq_err,seq_bk,seq_ct,seq_bad,bodyR_rt,bodyR_nx,bodyR_err,asB_bl,tru_bl,iff_f,iff_t,leU_int,ltU_int,gtU_int,geU_int,subU_int,addU_int,eqU_int,neU_int,tuple_two,mkE_one,len_tup,len_lst,c1_one,c2_two,rd0,rdS,norm_d,dat_d,gFl_none,gRs_none,List.set_cons_zero,List.set_cons_succ,Bool.not_true,Bool.not_false,Bool.false_eq_true,↓reduceIte]; rfl)]; rfl
  ·rw[hdl_f (by decide +kernel),hdl_t (by decide +kernel) (S':=S) (u:=.d (.tup [.str "TooMany",d])) (by simp only[look,bind_ok,bind_err,bind_bad,fl_ok,fl_err,fl_bad,seq_nx,seq_rt,seq_err,seq_bk,seq_ct,seq_bad,bodyR_rt,bodyR_nx,bodyR_err,asB_bl,tru_bl,iff_f,iff_t,leU_int,ltU_int,gtU_int,geU_int,subU_int,addU_int,eqU_int,neU_int,tuple_two,mkE_one,len_tup,len_lst,c1_one,c2_two,rd0,rdS,norm_d,dat_d,gFl_none,gRs_none,List.set_cons_zero,List.set_cons_succ,Bool.not_true,Bool.not_false,Bool.false_eq_true,↓reduceIte]; rfl)]; rfl
  ·rw[hdl_f (by decide +kernel),hdl_f (by decide +kernel),hdl_t (by decide +kernel) (S':=S) (u:=.d (.tup [.str "NoTable",d])) (by simp only[look,bind_ok,bind_err,bind_bad,fl_ok,fl_err,fl_bad,seq_nx,seq_rt,seq_err,seq_bk,seq_ct,seq_bad,bodyR_rt,bodyR_nx,bodyR_err,asB_bl,tru_bl,iff_f,iff_t,leU_int,ltU_int,gtU_int,geU_int,subU_int,addU_int,eqU_int,neU_int,tuple_two,mkE_one,len_tup,len_lst,c1_one,c2_two,rd0,rdS,norm_d,dat_d,gFl_none,gRs_none,List.set_cons_zero,List.set_cons_succ,Bool.not_true,Bool.not_false,Bool.false_eq_true,↓reduceIte]; rfl)]; rfl
  ·rw[hdl_f (by decide +kernel),hdl_f (by decide +kernel),hdl_f (by decide +kernel),hdl_t (by decide +kernel) (S':=S) (u:=.d (.tup [.str "BadReference",d])) (by simp only[look,bind_ok,bind_err,bind_bad,fl_ok,fl_err,fl_bad,seq_nx,seq_rt,seq_err,seq_bk,seq_ct,seq_bad,bodyR_rt,bodyR_nx,bodyR_err,asB_bl,tru_bl,iff_f,iff_t,leU_int,ltU_int,gtU_int,geU_int,subU_int,addU_int,eqU_int,neU_int,tuple_two,mkE_one,len_tup,len_lst,c1_one,c2_two,rd0,rdS,norm_d,dat_d,gFl_none,gRs_none,List.set_cons_zero,List.set_cons_succ,Bool.not_true,Bool.not_false,Bool.false_eq_true,↓reduceIte]; rfl)]; rfl
end
end KL
namespace KL
open PySem PySem.Spec PyProof.Rows L2 DL
open He (ga ma)
open TL (tl)
def dueV (ls:List Lo):D:=match schD ls with
 | none=>.non
 | some (e,_,d)=>.tup [.str e,d]
structure DueOk (ls:List Lay):Prop where
 lo:∀ l∈ls,l.lo.Ok
 le:ls.length≤100
theorem index_str {zs:List Str} {z:Str} (hz:z∈zs) (ha:Asc z) (h:∀ y∈zs,Asc y) (S:Qa):indexU (.d (.lst (zs.map .str))) [.d (.str z)] S=.ok (.d (.int ((zs.idxOf z:Nat):Int))) S:=by
 have e:(zs.map D.str).findIdx? (fun y=>PyData.eqv y.py (D.str z).py)=some (zs.idxOf z):=by
  clear ha h
  induction zs with
  | nil=>cases hz
  | cons a t ih =>
   have ev:PyData.eqv (D.str a).py (D.str z).py=decide (a=z):=by
    have:=any_str [a] z
    simp only[List.map_cons,List.map_nil,List.any_cons,List.any_nil,Bool.or_false,List.mem_singleton] at this
    rw[this,decide_eq_decide]
    exact eq_comm
   rw[List.map_cons,List.findIdx?_cons,ev,List.idxOf_cons]
   by_cases h1:a=z
   ·rw[decide_eq_true h1,if_pos rfl,beq_iff_eq.mpr h1]; rfl
   ·rw[decide_eq_false h1,if_neg (by decide),ih (by
     rcases List.mem_cons.mp hz with h2 | h2
     ·exact absurd h2.symm h1
     ·exact h2),beq_eq_false_iff_ne.mpr h1]
    rfl
 show (if okD (.lst (zs.map .str))=true∧okD (.str z)=true then (match (zs.map D.str).findIdx? (fun y=>PyData.eqv y.py (D.str z).py) with
  | some j=>Res.ok (U.d (.int (j:Nat))) S
  | none=>.bad) else .bad)=_
 rw[if_pos ⟨okD_lst h,okD_str ha⟩,e]
section
variable {P:Program} {w:World} {K:PySem.W.Frag} {mg:Str→Option Value} {base:Heap}
theorem due_told (ls:List Lo):toldV (schV ls)=dueV ls:=by
 unfold schV dueV
 cases schD ls with
 | none=>rfl
 | some p=>rfl
theorem Jt:FnScope ["_law_plains_here", "_law_names", "_law_plain_here", "_law_at", "_law_label", "_law_index", "_law_link_here", "_law_other"] ["_law_plains_here"] (defScope Vc):=⟨rfl,rfl,rfl,by decide +kernel,rfl,by decide +kernel,by decide +kernel⟩
theorem dk_due (T:Txt P K mg):∃ f,FM P w K mg base 1 "_law_due" ["_law_plains_here"] f∧∀ (ls:List Lay) (S:Qa),DueOk ls→f [.d (.lst (ls.map Lay.d))] S=(Ve.ok (dueV (ls.map Lay.lo))).res S:=by
 refine factM (k:=0) (fun ls:List Lay=>[U.d (.lst (ls.map Lay.d))]) (fun ls=>.ok (dueV (ls.map Lay.lo))) DueOk T.F_law_due Jt (fun _ _ _ _ _ _ us hl=>match us,hl with | [_],_=>rfl) (fun _=>rfl) (fun cdv A outer s H E hA hr=>(Qh (Z8 (i:=1) (own:=[("_law_plain_here",2)]) rfl Jt.nd rfl rfl (sw_true rfl rfl rfl (by decide +kernel)) (Yw (Qe 0 (pv 0))) (blkOk_by (own:=[("_law_plain_here",2)]) (N:=["_law_plains_here", "_law_names", "_law_plain_here", "_law_at", "_law_label", "_law_index", "_law_link_here", "_law_other"]) (sc:=defScope Vc) (by decide +kernel)) (by decide) (fun _ _ _ _ _=>(Qn (i:=2) Jt.nd rfl (by first | exact Or.inl rfl | exact Or.inr rfl))) (fun _ _ _ _ _=>J8) (fun _ _ _ _ _=>(Qw ixd (Qe 2 (pv 2)) Qi)))
 (Qh (Jp (passes_of rfl) rfl (Yr T.m_enumerate (Qc (Qe 1 (pv 1)) Qg)) (Y7 (n:=2) rfl (Q4 (fun _ _ _ _ _ h=>h) (Qn (i:=3) Jt.nd rfl (by first | exact Or.inl rfl | exact Or.inr rfl)) (Q4 (fun _ _ _ _ _ h=>h) (Qn (i:=4) Jt.nd rfl (by first | exact Or.inl rfl | exact Or.inr rfl)) Yg))) (Ql (Q5 (Qt (od_in hr) (Qe 4 (pv 4)) (Vl sld (Qe 1 (pv 1)) Yp (Yq (Qe 3 (pv 3)))) (by rfl)) (Ql (Qs (Y6 (Qc Uj (Qc (Qe 4 (pv 4)) Qg))))) Qq)))
 (Qh (Q5 (Qt od_gt (Qo Jk T.m_len (Qc (Qe 0 (pv 0)) Qg)) Qi (nomark _)) (Ql (Qs (Y6 (Qc Uj (Qc Qi Qg))))) Qq)
 (Qh (Jp (passes_of rfl) rfl (Yr T.m_enumerate (Qc (Qe 0 (pv 0)) Qg)) (Y7 (n:=2) rfl (Q4 (fun _ _ _ _ _ h=>h) (Qn (i:=3) Jt.nd rfl (by first | exact Or.inl rfl | exact Or.inr rfl)) (Q4 (fun _ _ _ _ _ h=>h) (Qn (i:=2) Jt.nd rfl (by first | exact Or.inl rfl | exact Or.inr rfl)) Yg))) (Ql (Jp (passes_of rfl) rfl (Yr T.m_enumerate (Qc (Qw ixd (Qe 2 (pv 2)) Qi) Qg)) (Y7 (n:=2) rfl (Q4 (fun _ _ _ _ _ h=>h) (Qn (i:=5) Jt.nd rfl (by first | exact Or.inl rfl | exact Or.inr rfl)) (Q4 (fun _ _ _ _ _ h=>h) (Qn (i:=6) Jt.nd rfl (by first | exact Or.inl rfl | exact Or.inr rfl)) Yg))) (Qh (Q5 (Qt (X6 hr) (Qw ixd (Qe 6 (pv 6)) Qi) (Vl sld (Qe 1 (pv 1)) Yp (Yq (Qe 3 (pv 3)))) (by rfl)) (Ql (Qs (Y6 (Qc Uj (Qc (Qw ixd (Qe 6 (pv 6)) Qi) Qg))))) Qq)
 (Qh (Q6 (i:=7) Jt.nd rfl (by first | exact Or.inl rfl | exact Or.inr rfl) (Qw ixd (Qe 0 (pv 0)) (Uw PySem.F.plainAttrs_list PySem.F.slot_list_index PySem.F.type_list_index (md_index hr) (Qe 1 (pv 1)) (Qc (Qw ixd (Qe 6 (pv 6)) Qi) Qg))))
 (Ql (Q5 (Qt (od_ne hr) (Qo Jk T.m_len (Qc (Qw ixd (Qe 6 (pv 6)) Qi) Qg)) (Qo Jk T.m_len (Qc (Uy (Jd (Qw ixd (Qe 7 (pv 7)) Qi)) (Qw ixd (Qw ixd (Qe 7 (pv 7)) Qi) Qi) (Qw ixd (Qe 7 (pv 7)) Qi)) Qg)) (nomark _)) (Ql (Qs (Y6 (Qc Uj (Qc (Qe 5 (pv 5)) Qg))))) Qq)))))))
 (Ql (Qs pd_non))))))) (fun ls S ho=>?_)
 rw[show Q3 (["_law_plains_here", "_law_names", "_law_plain_here", "_law_at", "_law_label", "_law_index", "_law_link_here", "_law_other"]:List Str).length [U.d (.lst (ls.map Lay.d))]=[some (.d (.lst (ls.map Lay.d))),none,none,none,none,none,none,none] from rfl]
 have hle:=ho.le
 have it:∀ (ds:List D) (S:Qa),Z6 (.d (.lst ds)) S=.ok ⟨ds.map .d,none⟩ S:=fun _ _=>rfl
 have hen:∀ (ds:List D) (S:Qa),enumU (.d (.lst ds)) S=.ok ⟨Jo 0 ds,none⟩ S:=fun ds S=>rfl
 have hent:∀ (ds:List D) (S:Qa),enumU (.d (.tup ds)) S=.ok ⟨Jo 0 ds,none⟩ S:=fun ds S=>rfl
 have x0:∀ (l:Lay) S,ixU (.d l.d) (.d (.int 0)) S=.ok (.d (.str l.z)) S:=fun l S=>rfl
 have x1:∀ (l:Lay) S,ixU (.d l.d) (.d (.int 1)) S=.ok (.d (.tup (l.fs.map .str))) S:=fun l S=>rfl
 have x2:∀ (l:Lay) S,ixU (.d l.d) (.d (.int 2)) S=.ok (.d (.tup (l.us.map Lay.keyD))) S:=fun l S=>rfl
 have x3:∀ (l:Lay) S,ixU (.d l.d) (.d (.int 3)) S=.ok (.d (.tup (l.ls.map Lay.refD))) S:=fun l S=>rfl
 have hmt:∀ (a b:D) (S:Qa),mkT [.d a,.d b] S=.ok (.d (.tup [a,b])) S:=fun a b S=>rfl
 have hnm:∀ ρ:DL.Env,(lcU none (fun u ρ S=>Res.ok (List.set ρ 2 (some u)) S) (fun x S=>Res.ok true S) (fun ρ S=>(rdV ρ 2 S).bind fun x S=>ixU x (U.d (D.int 0)) S) [some (.d (.lst (ls.map Lay.d))),none,none,none,none,none,none,none] ((ls.map Lay.d).map U.d) [] S)=.ok (((ls.map Lay.z).map D.str).map U.d) S:=fun ρ=>by
  rw[List.map_map,Vz (g:=none) trivial (U.d ∘ Lay.d) (fun l=>U.d (.str l.z)) ls []]
  ·rw[List.nil_append,List.map_map,List.map_map]; rfl
  ·intro l _
   exact⟨_,rfl,x0 l S⟩
  ·show 0 + ls.length≤sizeLine; exact sz5 (by omega)
 have hw:Yn [some (U.d (D.lst (List.map Lay.d ls))),none,none,none,none,none,none,none] (List.map (fun x=>x.snd) [((Str.ofString "_law_plain_here" : Str),2)])=[some (U.d (D.lst (List.map Lay.d ls))),none,none,none,none,none,none,none]:=rfl
 generalize hzs:ls.map Lay.z=zs at hnm
 have hzl:zs.length=ls.length:=by rw[← hzs,List.length_map]
 have hasc:∀ z∈zs,Asc z:=fun z hz=>by
  rw[← hzs] at hz
  obtain⟨l,hl,rfl⟩:=List.mem_map.mp hz
  exact (ho.lo l hl).f.z.asc
 have hmk:mkL ((zs.map D.str).map U.d) S=.ok (.d (.lst (zs.map D.str))) S:=mkL_d (by rw[List.length_map]; omega) S
 simp! [it,hw,hnm [],hmk,Uu,hen]
 have sd:schD (ls.map Lay.lo)=match twS zs with
   | some z=>some ("Twice", "name",.str z)
   | none=>if 6 < ls.length then some ("TooMany", "limit",.int 6) else U9 zs ((ls.map Lay.lo).map Lo.kn) 0 (ls.map Lay.lo):=by
  unfold schD
  rw[List.length_map,List.map_map,show (ls.map (Lo.z ∘ Lay.lo))=zs from hzs]
  all_goals rfl
 generalize hkns:(ls.map Lay.lo).map Lo.kn=kns at sd
 have fin:∀ {e f:Str} {d:D} {S':Qa},schD (ls.map Lay.lo)=some (e,f,d)→ResG (.ok (dueV (ls.map Lay.lo))) S' (.ok (.d (.tup [.str e,d])) S'):=fun {e f d S'} h=>by
  unfold dueV
  rw[h]
  exact resG (v:=.ok (.tup [.str e,d]))
 have hslc:∀ (i:Nat) (S1:Qa),i≤zs.length→slU (.d (.lst (zs.map .str))) none (some ((i:Nat):Int)) S1=.ok (.d (.lst ((zs.take i).map .str))) S1:=fun i S1 hi=>by
  have hc:cutL (zs.map D.str) none (some ((i:Nat):Int))=(zs.take i).map .str:=by
   rw[cut_to (by rw[List.length_map]; omega),← List.map_take]
  show Res.ok _ _=_
  rw[hc]
 refine loop (K:=fun f=>ResG _ S (Jc (f.seq _))) (I:=fun us ρ S'=>S'=S∧∃ (pr rest:List Str) (v3 v4:Option U),us=Jo pr.length (rest.map .str)∧pr++rest=zs∧twS zs=twF pr rest∧ρ=[some (.d (.lst (ls.map Lay.d))),some (.d (.lst (zs.map .str))),none,v3,v4,none,none,none]) ?_ ?_ ?_
 ·rintro u us ρ S' ⟨rfl,pr,rest,v3,v4,hus,hpr,htw,rfl⟩
  obtain⟨z,rest,rfl,rfl,rfl⟩ : ∃ l r,rest=l :: r∧u=.d (.tup [.int (pr.length:Nat),.str l])∧us=Jo (pr.length + 1) (r.map .str):=by
   cases rest with
   | nil=>rw[List.map_nil,Yl] at hus; cases hus
   | cons l r =>
    rw[List.map_cons,Qy] at hus
    simp only[List.cons.injEq] at hus
    exact⟨l,r,rfl,hus.1,hus.2⟩
  refine⟨_,_,rfl,?_⟩
  have hlen:pr.length + (rest.length + 1)=zs.length:=by rw[← hpr,List.length_append]; rfl
  have htk:zs.take pr.length=pr:=by rw[← hpr,List.take_left']; rfl
  have hzm:z∈zs:=by rw[← hpr]; simp
  have hsl:=hslc pr.length S' (by omega)
  rw[htk] at hsl
  have hin:=Uo (neg:=false) (hasc z hzm) (fun y hy=>hasc y (by rw[← hpr]; exact List.mem_append_left _ hy)) S' (zs:=pr)
  have stp:twF pr (z :: rest)=if z∈pr then some z else twF (pr++[z]) rest:=rfl
  rw[stp] at htw
  simp! [Uq,hsl,hin,inB]
  by_cases hm:z∈pr
  ·rw[if_pos hm] at htw
   rw[htw] at sd
   simp -implicitDefEqProofs only[decide_eq_true hm,bind_ok,bind_err,bind_bad,fl_ok,fl_err,fl_bad,seq_nx,seq_rt,seq_err,seq_bk,seq_ct,seq_bad,bodyR_rt,bodyR_nx,bodyR_err,asB_bl,tru_bl,iff_f,iff_t,leU_int,ltU_int,gtU_int,geU_int,subU_int,addU_int,eqU_int,neU_int,tuple_two,mkE_one,len_tup,len_lst,c1_one,c2_two,rd0,rdS,norm_d,dat_d,gFl_none,gRs_none,List.set_cons_zero,List.set_cons_succ,Bool.not_true,Bool.not_false,Bool.false_eq_true,↓reduceIte,hmt]
   exact fin sd
  ·rw[if_neg hm] at htw
   simp -implicitDefEqProofs only[decide_eq_false hm,bind_ok,bind_err,bind_bad,fl_ok,fl_err,fl_bad,seq_nx,seq_rt,seq_err,seq_bk,seq_ct,seq_bad,bodyR_rt,bodyR_nx,bodyR_err,asB_bl,tru_bl,iff_f,iff_t,leU_int,ltU_int,gtU_int,geU_int,subU_int,addU_int,eqU_int,neU_int,tuple_two,mkE_one,len_tup,len_lst,c1_one,c2_two,rd0,rdS,norm_d,dat_d,gFl_none,gRs_none,List.set_cons_zero,List.set_cons_succ,Bool.not_true,Bool.not_false,Bool.false_eq_true,↓reduceIte]
   exact⟨trivial,pr++[z],rest,_,_,by rw[List.length_append]; rfl,by rw[List.append_assoc]; exact hpr,htw,rfl⟩
 ·rintro ρ S' ⟨rfl,pr,rest,v3,v4,hus,hpr,htw,rfl⟩
  have hr0:rest=[]:=by
   cases rest with
   | nil=>rfl
   | cons _ _=>rw[List.map_cons,Qy] at hus; cases hus
  subst hr0
  have ht:twS zs=none:=htw
  rw[ht] at sd
  simp! [List.length_map]
  by_cases h6:6 < ls.length
  ·rw[decide_eq_true (show (6:Int) < ((ls.length:Nat):Int) by omega)]
   simp! [hmt]
   refine fin (f := "limit") (sd.trans ?_)
   simp only[h6,↓reduceIte]
  rw[decide_eq_false (show ¬ (6:Int) < ((ls.length:Nat):Int) by omega)]
  simp! [Uu,hen]
  simp only[h6,↓reduceIte] at sd
  refine loop (K:=fun f=>ResG _ S' (Jc (f.seq _))) (I:=fun us ρ S1=>S1=S'∧∃ (i:Nat) (rest:List Lay) (v2 v3 v5 v6 v7:Option U),us=Jo i (rest.map Lay.d)∧(∀ l∈rest,l∈ls)∧i + rest.length=ls.length∧U9 zs kns 0 (ls.map Lay.lo)=U9 zs kns i (rest.map Lay.lo) ∧
   ρ=[some (.d (.lst (ls.map Lay.d))),some (.d (.lst (zs.map .str))),v2,v3,v4,v5,v6,v7]) ?_ ?_ ?_
  ·rintro u us ρ S1 ⟨rfl,i,rest,v2,v3,v5,v6,v7,hus,hsub,hil,hla,rfl⟩
   obtain⟨l,rest,rfl,rfl,rfl⟩ : ∃ l r,rest=l :: r∧u=.d (.tup [.int (i:Nat),l.d])∧us=Jo (i + 1) (r.map Lay.d):=by
    cases rest with
    | nil=>rw[List.map_nil,Yl] at hus; cases hus
    | cons l r =>
     rw[List.map_cons,Qy] at hus
     simp only[List.cons.injEq] at hus
     exact⟨l,r,rfl,hus.1,hus.2⟩
   refine⟨_,_,rfl,?_⟩
   rw[List.length_cons] at hil
   have hl:=ho.lo l (hsub l List.mem_cons_self)
   simp! [x3,Uu,hent]
   generalize hfor:forU none _ _ (Jo 0 (l.ls.map Lay.refD)) _ _=fl
   obtain⟨v5',v6',v7',hfl,hln⟩ | ⟨e,f,d,hfl,hln⟩ : (∃ v5 v6 v7,fl=.nx [some (.d (.lst (ls.map Lay.d))),some (.d (.lst (zs.map .str))),some (.d l.d),some (.d (.int (i:Nat))),v4,v5,v6,v7] S1∧Zd zs kns i 0 l.ls=none)∨(∃ e f d,fl=.rt (.d (.tup [.str e,d])) S1∧Zd zs kns i 0 l.ls=some (e,f,d)):=by
    rw[← hfor]
    refine loop (K:=fun fl=>(∃ v5 v6 v7,fl=.nx [some (.d (.lst (ls.map Lay.d))),some (.d (.lst (zs.map .str))),some (.d l.d),some (.d (.int (i:Nat))),v4,v5,v6,v7] S1∧Zd zs kns i 0 l.ls=none)∨(∃ e f d,fl=.rt (.d (.tup [.str e,d])) S1∧Zd zs kns i 0 l.ls=some (e,f,d)))
     (I:=fun us ρ S2=>S2=S1∧∃ (j:Nat) (rs:List (List Str × Str)) (v5 v6 v7:Option U),us=Jo j (rs.map Lay.refD)∧(∀ q∈rs,q∈l.ls)∧Zd zs kns i 0 l.ls=Zd zs kns i j rs ∧
      ρ=[some (.d (.lst (ls.map Lay.d))),some (.d (.lst (zs.map .str))),some (.d l.d),some (.d (.int (i:Nat))),v4,v5,v6,v7]) ?_ ?_ ?_
    ·rintro u us ρ S2 ⟨rfl,j,rs,v5,v6,v7,hus,hrs,hlk,rfl⟩
     obtain⟨q,rs,rfl,rfl,rfl⟩ : ∃ q r,rs=q :: r∧u=.d (.tup [.int (j:Nat),Lay.refD q])∧us=Jo (j + 1) (r.map Lay.refD):=by
      cases rs with
      | nil=>rw[List.map_nil,Yl] at hus; cases hus
      | cons l r =>
       rw[List.map_cons,Qy] at hus
       simp only[List.cons.injEq] at hus
       exact⟨l,r,rfl,hus.1,hus.2⟩
     refine⟨_,_,rfl,?_⟩
     have hq:=hl.f.r q (hrs q List.mem_cons_self)
     have y0:∀ S,ixU (.d (Lay.refD q)) (.d (.int 0)) S=.ok (.d (.tup (q.1.map .str))) S:=fun S=>rfl
     have y1:∀ S,ixU (.d (Lay.refD q)) (.d (.int 1)) S=.ok (.d (.str q.2)) S:=fun S=>rfl
     have hin:=Uo (neg:=true) hq.2.asc (fun z hz=>hasc z (List.mem_of_mem_take hz)) S2 (zs:=zs.take i)
     rw[V6] at hlk
     simp! [y0,y1,Uq,hslc i S2 (by omega),hin,inB]
     by_cases hm:q.2∈zs.take i
     ·have hmz:q.2∈zs:=List.mem_of_mem_take hm
      have hix0:zs.idxOf q.2 < ls.length:=by rw[← hzl]; exact List.idxOf_lt_length_of_mem hmz
      obtain⟨l2,hl2⟩ : ∃ l2,ls[zs.idxOf q.2]?=some l2:=⟨_,List.getElem?_eq_getElem hix0⟩
      have hix:ixU (.d (.lst (ls.map Lay.d))) (.d (.int ((zs.idxOf q.2:Nat):Int))) S2=.ok (.d l2.d) S2:=(LstU.lst (S:=S2)).ix (by rw[List.getElem?_map,hl2]; rfl)
      have tyl:∀ (ds:List D) S,tyU "list" (.d (.lst ds)) S=true:=fun _ _=>rfl
      have hidx:=index_str hmz hq.2.asc hasc S2
      have hkn:kns.getD (zs.idxOf q.2) 0=l2.lo.kn:=by
       rw[← hkns,List.getD_eq_getElem?_getD,List.map_map,List.getElem?_map,hl2]
       rfl
      obtain⟨k0,hk0,hk1⟩ : ∃ k0:List Str,l2.lo.kn=k0.length∧∀ S,(if (!(l2.us.map Lay.keyD).isEmpty)=true then ixU (.d (.tup (l2.us.map Lay.keyD))) (.d (.int 0)) S else Res.ok (.d (.tup (l2.fs.map .str))) S)=.ok (.d (.tup (k0.map .str))) S:=by
       cases hus:l2.us with
       | nil =>
        refine⟨l2.fs,?_,fun S=>rfl⟩
        show (l2.keys.headD []).length=_
        rw[show l2.keys=[l2.fs] from if_pos hus]
        rfl
       | cons k t =>
        refine⟨k,?_,fun S=>(LstU.tup (S:=S)).ix (i:=0) (d:=Lay.keyD k) rfl⟩
        show (l2.keys.headD []).length=_
        rw[show l2.keys=l2.us from if_neg (by rw[hus]; simp),hus]
        rfl
      have trt:∀ (ds:List D) S,truU (.d (.tup ds)) S=.ok (!ds.isEmpty) S:=fun _ _=>rfl
      rw[if_neg (fun h=>h hm),hkn,hk0] at hlk
      simp -implicitDefEqProofs only[decide_eq_true hm,bind_ok,bind_err,bind_bad,fl_ok,fl_err,fl_bad,seq_nx,seq_rt,seq_err,seq_bk,seq_ct,seq_bad,bodyR_rt,bodyR_nx,bodyR_err,asB_bl,tru_bl,iff_f,iff_t,leU_int,ltU_int,gtU_int,geU_int,subU_int,addU_int,eqU_int,neU_int,tuple_two,mkE_one,len_tup,len_lst,c1_one,c2_two,rd0,rdS,norm_d,dat_d,gFl_none,gRs_none,List.set_cons_zero,List.set_cons_succ,Bool.not_true,Bool.not_false,Bool.false_eq_true,↓reduceIte,tyl,y0,y1,hidx,hix,x1,x2,trt,hk1,List.length_map]
      by_cases hln:q.1.length=k0.length
      ·rw[if_neg (fun h=>h hln)] at hlk
       rw[decide_eq_true (show ((q.1.length:Nat):Int)=((k0.length:Nat):Int) by rw[hln])]
       simp! only[]
       exact⟨trivial,j + 1,rs,_,_,_,rfl,fun p h=>hrs p (List.mem_cons_of_mem _ h),hlk,rfl⟩
      ·rw[if_pos hln] at hlk
       rw[decide_eq_false (show ¬ ((q.1.length:Nat):Int)=((k0.length:Nat):Int) by omega)]
       simp! only[hmt]
       exact .inr ⟨_,_,_,rfl,hlk⟩
     ·rw[if_pos hm] at hlk
      simp only[decide_eq_false hm,bind_ok,bind_err,bind_bad,fl_ok,fl_err,fl_bad,seq_nx,seq_rt,seq_err,seq_bk,seq_ct,seq_bad,bodyR_rt,bodyR_nx,bodyR_err,asB_bl,tru_bl,iff_f,iff_t,leU_int,ltU_int,gtU_int,geU_int,subU_int,addU_int,eqU_int,neU_int,tuple_two,mkE_one,len_tup,len_lst,c1_one,c2_two,rd0,rdS,norm_d,dat_d,gFl_none,gRs_none,List.set_cons_zero,List.set_cons_succ,Bool.not_true,Bool.not_false,Bool.false_eq_true,↓reduceIte,y1,hmt]
      exact .inr ⟨_,_,_,rfl,hlk⟩
    ·rintro ρ S2 ⟨rfl,j,rs,v5,v6,v7,hus,hrs,hlk,rfl⟩
     have hrs0:rs=[]:=by
      cases rs with
      | nil=>rfl
      | cons x t=>rw[List.map_cons,Qy] at hus; cases hus
     subst hrs0
     exact .inl ⟨v5,v6,v7,rfl,hlk⟩
    ·exact⟨rfl,0,l.ls,_,_,_,rfl,fun q h=>h,rfl,rfl⟩
   ·subst hfl
    refine⟨rfl,i + 1,rest,_,_,_,_,_,rfl,fun q hq=>hsub q (List.mem_cons_of_mem _ hq),by omega,?_,rfl⟩
    rw[hla,List.map_cons,Xm,show l.lo.ls=l.ls from rfl,hln]
   ·subst hfl
    refine fin (f:=f) (sd.trans ?_)
    rw[hla,List.map_cons,Xm,show l.lo.ls=l.ls from rfl,hln]
  ·rintro ρ S1 ⟨rfl,i,rest,v2,v3,v5,v6,v7,hus,hsub,hil,hla,rfl⟩
   have hr0:rest=[]:=by
    cases rest with
    | nil=>rfl
    | cons x t=>rw[List.map_cons,Qy] at hus; cases hus
   subst hr0
   have hn:schD (ls.map Lay.lo)=none:=sd.trans hla
   simp! []
   unfold dueV
   rw[hn]
   exact resG (v:=.ok .non)
  ·exact⟨rfl,0,ls,_,_,_,_,_,rfl,fun q h=>h,by omega,rfl,rfl⟩
 ·exact⟨rfl,[],zs,_,_,rfl,rfl,rfl,rfl⟩
end
end KL
namespace KL
open PySem PySem.Spec PyProof.Rows L2 DL
open He (ga ma)
open TL (tl)
def Dr (n:Nat) (S S':Qa):Prop:=∃ A g,S'=A++g∧Drew n S A
theorem Dr.refl {n:Nat} {S:Qa} (b:Bag S n):Dr n S S:=⟨S,[],(List.append_nil S).symm,.refl b⟩
theorem Dr.bag {n:Nat} {S S':Qa} (h:Dr n S S') (b:Bag S n):Bag S' n:=by
 obtain⟨A,g,rfl,d⟩:=h
 exact (d.bag b).app
theorem Dr.of {n:Nat} {S S':Qa} (d:Drew n S S'):Dr n S S':=⟨S',[],(List.append_nil S').symm,d⟩
theorem Dr.app {n:Nat} {S S':Qa} (h:Dr n S S') (g:Qa):Dr n S (S'++g):=by
 obtain⟨A,h,rfl,d⟩:=h
 exact⟨A,h++g,List.append_assoc ..,d⟩
theorem Dr.trans {n:Nat} {S S' S'':Qa} (b:Bag S n) (h:Dr n S S') (h':Dr n S' S''):Dr n S S'':=by
 obtain⟨A,g,rfl,d⟩:=h
 obtain⟨B,k,rfl,e⟩:=h'
 obtain⟨A',rfl,e'⟩:=e.split (d.bag b)
 exact⟨A',g++k,List.append_assoc ..,d.trans e'⟩
theorem Dr.len {n:Nat} {S S':Qa} (h:Dr n S S'):S.length≤S'.length:=by
 obtain⟨A,g,rfl,d⟩:=h
 rw[List.length_append,d.len]
 omega
/-- another cell stays -/
theorem Dr.get {n:Nat} {S S':Qa} (h:Dr n S S') {k:Nat} {c:Cell} (hk:k ≠ n) (e:S[k]?=some c):S'[k]?=some c:=by
 obtain⟨A,g,rfl,d⟩:=h
 have hl:=(List.getElem?_eq_some_iff.mp e).1
 rw[List.getElem?_append_left (by rw[d.len]; exact hl),d.old hk]
 exact e
/-- a cell of one's own changes -/
theorem Dr.put {n:Nat} {S S':Qa} (h:Dr n S S') {k:Nat} (hk:S.length≤k) (c:Cell):Dr n S (S'.set k c):=by
 obtain⟨A,g,rfl,d⟩:=h
 refine⟨A,g.set (k - A.length) c,?_,d⟩
 rw[List.set_append_right _ _ (by rw[d.len]; exact hk)]
theorem Dr.z {n:Nat} {S S':Qa} {po:D→Prop} {y:D} (h:Dr n S S') (hy:po y):Ye n S po (.ok (.d y) S'):=by
 obtain⟨A,g,rfl,d⟩:=h
 exact⟨y,A,g,rfl,d,hy⟩
theorem Dr.pre {n:Nat} {S S1 S' g:Qa} (h:Dr n S1 S') (e:S1=S++g) (hn:S.length≤n):∃ g',S'=S++g':=by
 obtain⟨A,k,rfl,c,_,rfl⟩:=h
 subst e
 exact⟨g.set (n - S.length) c++k,by rw[List.set_append_right _ _ hn,List.append_assoc]⟩
def StepPo (K:Fl→Prop) (I:DL.Env→Qa→Prop) (f:Fl):Prop:=match f with
 | .nx ρ2 S2=>I ρ2 S2
 | .ct ρ2 S2=>I ρ2 S2
 | .bk ρ2 S2=>K (.nx ρ2 S2)
 | f=>K f
theorem loopS {T:U→DL.Env→Qa→Res DL.Env} {B:DL.Env→Qa→Fl} (K:Fl→Prop) (I:List U→DL.Env→Qa→Prop)
  (step:∀ u r ρ S,I (u :: r) ρ S→∃ ρ1 S1,T u ρ S=.ok ρ1 S1∧StepPo K (I r) (B ρ1 S1))
  (done:∀ ρ S,I [] ρ S→K (.nx ρ S)) {us:List U} {ρ:DL.Env} {S:Qa} (h:I us ρ S):K (forU none T B us ρ S):=loop K I (fun u r ρ S h=>by
   obtain⟨ρ1,S1,h1,h2⟩:=step u r ρ S h
   refine⟨ρ1,S1,h1,?_⟩
   unfold StepPo at h2
   generalize B ρ1 S1=f at h2
   cases f<;>exact h2) done h
theorem step_case {Q:Fl→Prop} {f:Fl} {k:DL.Env→Qa→Fl} (I:DL.Env→Qa→Prop) (h:∃ ρ S,f=.nx ρ S∧I ρ S) (h2:∀ ρ S,I ρ S→Q (k ρ S)):Q (f.seq k):=by
 obtain⟨ρ,S,rfl,h⟩:=h
 exact h2 ρ S h
end KL
namespace KL
open PySem PySem.Spec PyProof.Rows L2 DL
open He (ga ma)
open TL (tl)
theorem Dr.set {n i:Nat} {S S':Qa} {c:Cell} (h:Dr n S S') (hi:S.length≤i):Dr n S (S'.set i c):=h.put hi c
theorem Dr.at_ {n i:Nat} {S S':Qa} {c:Cell} (h:Dr n S S') (e:S[i]?=some c) (hi:i ≠ n):S'[i]?=some c:=h.get hi e
theorem cut_any28 {α:Type} (xs:List α) (i:Nat):cutL xs none (some (i:Int))=xs.take i:=by
 unfold cutL
 rw[HT.sIx_none,HT.sIx_nat,Nat.sub_zero,List.drop_zero]
 by_cases h:i≤xs.length
 ·rw[Nat.min_eq_left h]
 ·rw[Nat.min_eq_right (by omega),List.take_length,List.take_of_length_le (by omega)]
/-- a comprehension that draws: each item by its own element -/
theorem lcU_invP {T:U→DL.Env→Qa→Res DL.Env} {El:DL.Env→Qa→Res U} {ρ:DL.Env} (Q:Qa→Prop) (R:U→U→Prop):∀ (us acc:List U) (S:Qa),(∀ u∈us,∀ S,Q S→∃ ρ1 x S1,T u ρ S=.ok ρ1 S∧El ρ1 S=.ok x S1∧Q S1∧R u x)→Q S→acc.length + us.length≤sizeLine →
  ∃ xs S',lcU none T (fun _ S=>.ok true S) El ρ us acc S=.ok (acc++xs) S'∧Q S'∧Paired R us xs
 | [],acc,S,_,q,_=>⟨[],S,by simp [lcU,gRs],q,.nil⟩
 | u :: r,acc,S,h,q,hl=>by
  obtain⟨ρ1,x,S1,h1,h2,q1,hx⟩:=h u List.mem_cons_self S q
  have hl':acc.length + (r.length + 1)≤sizeLine:=hl
  obtain⟨xs,S',e,q',hr⟩:=lcU_invP Q R r (acc++[x]) S1 (fun w hw=>h w (List.mem_cons_of_mem _ hw)) q1 (by rw[List.length_append]; show acc.length + 1 + r.length≤_; omega)
  refine⟨x :: xs,S',?_,q',.cons hx hr⟩
  unfold lcU
  rw[gRs_none,h1,Zg,bind_ok,Zg,bind_ok,if_pos rfl,h2,Zg,bind_ok,if_pos (by omega),e]
  simp
section
variable {P:Program} {w:World} {K:PySem.W.Frag} {mg:Str→Option Value} {base:Heap}
theorem sc_law_link:FnScope ["_law_bag_here", "_law_fields", "_law_names", "_law_many"] ["_law_bag_here", "_law_fields", "_law_names"] (defScope Vq):=⟨rfl,rfl,rfl,by decide +kernel,rfl,by decide +kernel,by decide +kernel⟩
theorem dk_link (T:Txt P K mg):∃ f,FM P w K mg base 3 "_law_link" ["_law_bag_here", "_law_fields", "_law_names"] f∧∀ (n:Nat) (fs names:List Str) (S:Qa),Bag S n→fs ≠ []→fs.Nodup→fs.length≤20→names ≠ []→names.length≤1000→∃ (p:List Str × Str) (S':Qa),f [.r n,.d (.lst (fs.map .str)),.d (.lst (names.map .str))] S=.ok (.d (Lay.refD p)) S'∧Drew n S S'∧Part fs p.1∧p.2∈names:=by
 obtain⟨ofF,F_law_of,hOf⟩:=dk_of (w:=w) (base:=base) T
 obtain⟨pickF,F_law_picked,hP⟩:=dk_picked (w:=w) (base:=base) T
 refine Exists.imp (fun f hf=>⟨hf.1,fun n fs names S b h1 h2 h3 h4 h5=>?_⟩) (Vy (P:=P) (w:=w) (base:=base) (k:=2) (fun us S=>∃ n fs names,us=[.r n,.d (.lst (fs.map .str)),.d (.lst (names.map .str))]∧fs ≠ []∧fs.Nodup∧fs.length≤20∧names ≠ []∧names.length≤1000) (fun us S y=>∀ n (fs names:List Str),us=[.r n,.d (.lst (fs.map .str)),.d (.lst (names.map .str))]→fs.Nodup→∃ p:List Str × Str,y=Lay.refD p∧Part fs p.1∧p.2∈names) T.F_law_link sc_law_link (fun _ _ _ _ _ _ us hl=>match us,hl with | [_,_,_],_=>rfl) (fun cdv A outer s H E hA hr=>(Qh (Q6 (i:=3) sc_law_link.nd rfl (by first | exact Or.inl rfl | exact Or.inr rfl) (Qo (cd_min rfl) T.m_min (Qc (Qo Jk T.m_len (Qc (Qe 1 (pv 1)) Qg)) (Qc (Qp hA F_law_of (hr.mono (by decide)) (takes_of rfl rfl rfl rfl) (Qc (Qe 0 (pv 0)) (Qc (Xb (Qc Qi (Qc Qi (Qc Qi (Qc Qi Qg))))) Qg))) Qg))))
 (Ql (Qs (Y6 (Qc (Q8 Yj T.m_tuple (Qc (Qp hA F_law_picked (hr.mono (by decide)) (takes_of rfl rfl rfl rfl) (Qc (Qe 0 (pv 0)) (Qc (Qe 1 (pv 1)) (Qc (Qe 3 (pv 3)) Qg)))) Qg)) (Qc (Qp hA F_law_of (hr.mono (by decide)) (takes_of rfl rfl rfl rfl) (Qc (Qe 0 (pv 0)) (Qc (Qe 2 (pv 2)) Qg))) Qg))))))) (fun us S hl hb hp=>?_))
 ·obtain⟨y,S',e,dr,hh⟩:=hf.2 [.r n,.d (.lst (fs.map .str)),.d (.lst (names.map .str))] S rfl b ⟨n,fs,names,rfl,h1,h2,h3,h4,h5⟩
  obtain⟨p,rfl,hp⟩:=hh n fs names rfl h2
  exact⟨p,S',e,dr,hp⟩
 obtain⟨n,fs,names,rfl,h1,h2,h3,h4,h5⟩:=hp
 have hb:Bag S n:=hb
 show Ye n S _ _
 rw[show Q3 (["_law_bag_here", "_law_fields", "_law_names", "_law_many"]:List Str).length [U.r n,.d (.lst (fs.map .str)),.d (.lst (names.map .str))]=[some (.r n),some (.d (.lst (fs.map .str))),some (.d (.lst (names.map .str))),none] from rfl]
 have ln:∀ S,lenU (.d (.lst (fs.map .str))) S=.ok (.d (.int (fs.length:Nat))) S:=fun S=>by
  show Res.ok (U.d (.int ((fs.map D.str).length:Nat))) S=_
  rw[List.length_map]
 have mk:∀ S,mkL [.d (.int 1),.d (.int 1),.d (.int 2),.d (.int 3)] S=.ok (.d (.lst [.int 1,.int 1,.int 2,.int 3])) S:=fun _=>rfl
 obtain⟨d,S1,e1,d1,hd⟩:=hOf n (.d (.lst [.int 1,.int 1,.int 2,.int 3])) _ S hb (.of .lst) (fun e=>nomatch e) (by simp) (by show 4≤1000; decide)
 obtain⟨c,rfl,hc0,hc⟩ : ∃ c:Nat,d=.int (c:Nat)∧1≤c∧c≤3:=by
  simp only[List.mem_cons,List.not_mem_nil,or_false] at hd
  rcases hd with rfl | rfl | rfl | rfl
  ·exact⟨1,rfl,by decide,by decide⟩
  ·exact⟨1,rfl,by decide,by decide⟩
  ·exact⟨2,rfl,by decide,by decide⟩
  ·exact⟨3,rfl,by decide,by decide⟩
 have b1:=d1.bag hb
 have hpos:0 < fs.length:=List.length_pos_iff.mpr h1
 obtain⟨m,hm,hm0,hml⟩ : ∃ m:Nat,(∀ S,min2U (.d (.int (fs.length:Nat))) (.d (.int (c:Nat))) S=.ok (.d (.int (m:Nat))) S)∧1≤m∧m≤fs.length:=by
  by_cases h:c < fs.length
  ·refine⟨c,fun S=>?_,hc0,by omega⟩
   show Res.ok (U.d (.int (if (c:Int) < (fs.length:Int) then (c:Int) else (fs.length:Int)))) S=_
   rw[if_pos (by omega)]
  ·refine⟨fs.length,fun S=>?_,by omega,Nat.le_refl _⟩
   show Res.ok (U.d (.int (if (c:Int) < (fs.length:Int) then (c:Int) else (fs.length:Int)))) S=_
   rw[if_neg (by omega)]
 obtain⟨es,S2,e2,d2,hel,rest,hperm⟩:=hP n (.d (.lst (fs.map .str))) _ m S1 b1 .lst (fun e=>nomatch e) (by rw[List.length_map]; exact hml) (by rw[List.length_map]; omega)
 obtain⟨ys,rfl,ynd,ysub⟩:=picked_part hperm h2
 rw[List.length_map] at hel
 have d2':=d1.trans d2
 have b2:=d2'.bag hb
 obtain⟨z,S3,e3,d3,hz⟩:=hOf n (.d (.lst (names.map .str))) _ S2 b2 (.of .lst) (fun e=>nomatch e) (by simpa using h4) (by rw[List.length_map]; exact h5)
 obtain⟨nm,hnm,rfl⟩:=List.mem_map.mp hz
 have tp:∀ S,tupU (.d (.lst (ys.map .str))) S=.ok (.d (Lay.keyD ys)) S:=fun S=>rfl
 have mt:∀ S,mkT [.d (Lay.keyD ys),.d (.str nm)] S=.ok (.d (Lay.refD (ys,nm))) S:=fun S=>rfl
 simp -implicitDefEqProofs only[bind_ok,bind_err,bind_bad,fl_ok,fl_err,fl_bad,seq_nx,seq_rt,seq_err,seq_bk,seq_ct,seq_bad,bodyR_rt,bodyR_nx,bodyR_err,asB_bl,tru_bl,iff_f,iff_t,leU_int,ltU_int,gtU_int,geU_int,subU_int,addU_int,eqU_int,neU_int,tuple_two,mkE_one,c1_one,c2_two,rd0,rdS,norm_d,dat_d,gFl_none,gRs_none,List.set_cons_zero,List.set_cons_succ,Bool.not_true,Bool.not_false,Bool.false_eq_true,↓reduceIte,ln,mk,hb.norm,e1,hm,b1.norm,e2,tp,b2.norm,e3,mt]
 refine drawZ (d2'.trans d3) fun n' fs' names' hu hnd=>?_
 simp only[List.cons.injEq,U.r.injEq,U.d.injEq,D.lst.injEq,and_true] at hu
 obtain⟨_,hu1,hu2⟩:=hu
 obtain rfl:=strs_inj hu1
 obtain rfl:=strs_inj hu2
 exact⟨(ys,nm),rfl,⟨fun e=>by rw[show ys=[] from e] at hel; simp at hel; omega,ynd,ysub⟩,hnm⟩
theorem Ym:FnScope ["_law_bag_here", "_law_label", "_law_names", "_law_fields", "_law_turn", "_law_uniques", "_law_links"] ["_law_bag_here", "_law_label", "_law_names"] (defScope Xn):=⟨rfl,rfl,rfl,by decide +kernel,rfl,by decide +kernel,by decide +kernel⟩
theorem dk_plain (T:Txt P K mg):∃ f,FM P w K mg base 4 "_law_plain" ["_law_bag_here", "_law_label", "_law_names"] f∧∀ (n:Nat) (z:Str) (names:List Str) (S:Qa),Bag S n→NmS z→(∀ y∈names,NmS y)→names ≠ []→names.length≤1000→∃ (l:Lay) (S':Qa),f [.r n,.d (.str z),.d (.lst (names.map .str))] S=.ok (.d l.d) S'∧Drew n S S'∧l.z=z∧l.Ok 3:=by
 obtain⟨takeF,F_law_take,hT⟩:=dk_take (w:=w) (base:=base) T
 obtain⟨ofF,F_law_of,hOf⟩:=dk_of (w:=w) (base:=base) T
 obtain⟨nameF,F_law_name,hNm⟩:=dk_name (w:=w) (base:=base) T
 obtain⟨pickF,F_law_picked,hP⟩:=dk_picked (w:=w) (base:=base) T
 obtain⟨linkF,F_law_link,hLk⟩:=dk_link (w:=w) (base:=base) T
 refine Exists.imp (fun f hf=>⟨hf.1,fun n z names S b h1 h2 h3 h4=>?_⟩) (Vy (P:=P) (w:=w) (base:=base) (k:=3) (fun us S=>∃ n z names,us=[.r n,.d (.str z),.d (.lst (names.map .str))]∧NmS z∧(∀ y∈names,NmS y)∧names ≠ []∧names.length≤1000) (fun us S y=>∀ n z (names:List Str),us=[.r n,.d (.str z),.d (.lst (names.map .str))]→∃ l:Lay,y=l.d∧l.z=z∧l.Ok 3) T.F_law_plain Ym (fun _ _ _ _ _ _ us hl=>match us,hl with | [_,_,_],_=>rfl) (fun cdv A outer s H E hA hr=>(Qh (Q6 (i:=3) Ym.nd rfl (by first | exact Or.inl rfl | exact Or.inr rfl) (Uk Qg))
 (Qh (Jp (passes_of rfl) rfl (Yh T.m_range (Qc (Je Yd Qi (Qp hA F_law_take (hr.mono (by decide)) (takes_of rfl rfl rfl rfl) (Qc (Qe 0 (pv 0)) (Qc Qi Qg)))) Qg)) (Qn (i:=4) Ym.nd rfl (by first | exact Or.inl rfl | exact Or.inr rfl)) (Ql (Y8 (Uw PySem.F.plainAttrs_list PySem.F.slot_list_append PySem.F.type_list_append Yz (Qe 3 (pv 3)) (Qc (Qp hA F_law_name (hr.mono (by decide)) (takes_of rfl rfl rfl rfl) (Qc (Qe 0 (pv 0)) (Qc (Qe 3 (pv 3)) (Qc (Qe 2 (pv 2)) Qg)))) Qg)))))
 (Zw 3 (Qh (Q6 (i:=5) Ym.nd rfl (by first | exact Or.inl rfl | exact Or.inr rfl) (Uk Qg))
 (Qh (Q5 (Qt od_gt (Qp hA F_law_take (hr.mono (by decide)) (takes_of rfl rfl rfl rfl) (Qc (Qe 0 (pv 0)) (Qc Qi Qg))) Qi (nomark _)) (Ql (Y8 (Uw PySem.F.plainAttrs_list PySem.F.slot_list_append PySem.F.type_list_append Yz (Qe 5 (pv 5)) (Qc (Q8 Yj T.m_tuple (Qc (Qp hA F_law_picked (hr.mono (by decide)) (takes_of rfl rfl rfl rfl) (Qc (Qe 0 (pv 0)) (Qc (Qe 3 (pv 3)) (Qc (Je Yd Qi (Qp hA F_law_take (hr.mono (by decide)) (takes_of rfl rfl rfl rfl) (Qc (Qe 0 (pv 0)) (Qc (Qo Jk T.m_len (Qc (Qe 3 (pv 3)) Qg)) Qg)))) Qg)))) Qg)) Qg)))) Qq)
 (Zw 5 (Qh (Z8 (i:=6) (own:=[("_law_turn",4)]) rfl Ym.nd rfl rfl (sw_true rfl rfl rfl (by decide +kernel)) (Yh T.m_range (Qc (Qp hA F_law_of (hr.mono (by decide)) (takes_of rfl rfl rfl rfl) (Qc (Qe 0 (pv 0)) (Qc (Xb (Qc Qi (Qc Qi (Qc Qi (Qc Qi Qg))))) Qg))) Qg)) (blkOk_by (own:=[("_law_turn",4)]) (N:=["_law_bag_here", "_law_label", "_law_names", "_law_fields", "_law_turn", "_law_uniques", "_law_links"]) (sc:=defScope Xn) (by decide +kernel)) (by decide) (fun _ _ _ _ _=>(Qn (i:=4) Ym.nd rfl (by first | exact Or.inl rfl | exact Or.inr rfl))) (fun _ _ _ _ _=>J8) (fun _ _ _ _ _=>(Qp hA F_law_link (hr.mono (by decide)) takes0 (Qc (Qe 0 (pv 0)) (Qc (Qe 3 (pv 3)) (Qc (Qe 2 (pv 2)) Qg))))))
 (Ql (Qs (Y6 (Qc (Qe 1 (pv 1)) (Qc (Q8 Yj T.m_tuple (Qc (Qe 3 (pv 3)) Qg)) (Qc (Q8 Yj T.m_tuple (Qc (Qe 5 (pv 5)) Qg)) (Qc (Q8 Yj T.m_tuple (Qc (Qe 6 (pv 6)) Qg)) Qg))))))))))))))) (fun us S hl hb hp=>?_))
 ·obtain⟨y,S',e,dr,hh⟩:=hf.2 [.r n,.d (.str z),.d (.lst (names.map .str))] S rfl b ⟨n,z,names,rfl,h1,h2,h3,h4⟩
  obtain⟨l,rfl,hl⟩:=hh n z names rfl
  exact⟨l,S',e,dr,hl⟩
 obtain⟨n,z,names,rfl,hz,hno,hn0,hn1⟩:=hp
 have hb:Bag S n:=hb
 refine Ye.mono (po:=fun y=>∃ l:Lay,y=l.d∧l.z=z∧l.Ok 3) ?_ (fun y ⟨l,e,h1,h2⟩ n' z' names' e'=>by
  simp only[List.cons.injEq,U.d.injEq,D.str.injEq,and_true] at e'
  obtain⟨_,rfl,_⟩:=e'
  exact⟨l,e,h1,h2⟩)
 show Ye n S _ _
 rw[show Q3 (["_law_bag_here", "_law_label", "_law_names", "_law_fields", "_law_turn", "_law_uniques", "_law_links"]:List Str).length [U.r n,.d (.str z),.d (.lst (names.map .str))]=[some (.r n),some (.d (.str z)),some (.d (.lst (names.map .str))),none,none,none,none] from rfl]
 have mk0:∀ S,mkM [] S=.ok (.r S.length) (S++[.lst []]):=fun S=>if_pos (by decide)
 have r1:Dr n S (S++[.lst []]):=(Dr.refl hb).app _
 have b1:=r1.bag hb
 have hnS:=hb.lt
 obtain⟨c,S2,e2,d2,hc⟩:=hT n 3 (S++[.lst []]) b1 (by decide) (by decide)
 have e2:takeF [.r n,.d (.int 3)] (S++[.lst []])=_:=e2
 have r2:Dr n S S2:=r1.trans hb (.of d2)
 have aF2:S2[S.length]?=some (.lst []):=(Dr.of d2).at_ (Jm _ _) (by omega)
 have hz1:(1:Int) + ((c:Nat):Int)=((c + 1:Nat):Int):=by omega
 have hrg:∀ (m:Nat) (S:Qa),m≤1000→Xc [.d (.int (m:Int))] S=.ok ⟨Jg 0 m,none⟩ S:=fun m S h=>Zj S (by omega)
 have nF:∀ {S':Qa} {us:List U},S'[S.length]?=some (.lst us)→norm S' (.r S.length)=.r S.length:=fun h=>by simp only[norm,h]
 simp -implicitDefEqProofs only[bind_ok,bind_err,bind_bad,fl_ok,fl_err,fl_bad,seq_nx,seq_rt,seq_err,seq_bk,seq_ct,seq_bad,bodyR_rt,bodyR_nx,bodyR_err,asB_bl,tru_bl,iff_f,iff_t,leU_int,ltU_int,gtU_int,geU_int,subU_int,addU_int,eqU_int,neU_int,tuple_two,mkE_one,c1_one,c2_two,rd0,rdS,norm_d,dat_d,gFl_none,gRs_none,List.set_cons_zero,List.set_cons_succ,Bool.not_true,Bool.not_false,Bool.false_eq_true,↓reduceIte,mk0,b1.norm,e2,hz1,hrg (c + 1) _ (by omega)]
 refine loopS (K:=fun f=>Ye n S _ (Jc (f.seq _))) (I:=fun us ρ S'=>∃ (fs:List Str) (v4:Option U),Dr n S S'∧S'[S.length]?=some (.lst ((fs.map D.str).map .d))∧us.length + fs.length=c + 1∧fs.Nodup∧(∀ y∈fs,NmS y)∧ρ=[some (.r n),some (.d (.str z)),some (.d (.lst (names.map .str))),some (.r S.length),v4,none,none]) ?_ ?_ ?_
 ·rintro u us ρ S3 ⟨fs,v4,r3,aF3,hlen,hnd,hok,rfl⟩
  have hlen:us.length + 1 + fs.length=c + 1:=hlen
  refine⟨_,_,rfl,?_⟩
  have b3:=r3.bag hb
  obtain⟨y,S4,e4,d4,hy,hnew⟩:=hNm n (.r S.length) (.d (.lst (names.map .str))) fs names S3 b3 ⟨.cell aF3,(fun e=>by cases e; omega),hok,by omega⟩ ⟨.lst,(fun e=>nomatch e),hno,hn1⟩
  have aF4:=(Dr.of d4).at_ aF3 (by omega)
  have hap:appU (.r S.length) [.d (.str y)] S4=.ok (.d .non) (S4.set S.length (.lst (((fs++[y]).map D.str).map .d))):=by
   simp only[appU,Zf,aF4,List.length_map]
   rw[if_pos (sz5l (by omega)),List.map_append,List.map_append]
   rfl
  have ty3:tyU "list" (.r S.length) S3=true:=by simp only[tyU,aF3]; rfl
  simp -implicitDefEqProofs only[bind_ok,bind_err,bind_bad,fl_ok,fl_err,fl_bad,seq_nx,seq_rt,seq_err,seq_bk,seq_ct,seq_bad,bodyR_rt,bodyR_nx,bodyR_err,asB_bl,tru_bl,iff_f,iff_t,leU_int,ltU_int,gtU_int,geU_int,subU_int,addU_int,eqU_int,neU_int,tuple_two,mkE_one,c1_one,c2_two,rd0,rdS,norm_d,dat_d,gFl_none,gRs_none,List.set_cons_zero,List.set_cons_succ,Bool.not_true,Bool.not_false,Bool.false_eq_true,↓reduceIte,nF aF3,ty3,b3.norm,e4,hap]
  refine⟨fs++[y],_,(r3.trans hb (.of d4)).set (Nat.le_refl _),List.getElem?_set_self (List.getElem?_eq_some_iff.mp aF4).1,by rw[List.length_append]; show us.length + (fs.length + 1)=c + 1; omega,?_,fun x hx=>?_,rfl⟩
  ·rw[List.nodup_append]
   exact⟨hnd,by simp,fun a ha b hb' e=>hnew (by omega) (by rw[← List.mem_singleton.mp hb',← e]; exact ha)⟩
  ·rcases List.mem_append.mp hx with hx | hx
   ·exact hok x hx
   ·rw[List.mem_singleton.mp hx]; exact hy
 ·rintro ρ S3 ⟨fs,v4,r3,aF3,hlen,hnd,hok,rfl⟩
  have hlen:fs.length=c + 1:=by have:0 + fs.length=c + 1:=hlen; omega
  have hf0:fs ≠ []:=fun e=>by rw[e] at hlen; cases hlen
  have hplt:=(List.getElem?_eq_some_iff.mp aF3).1
  have hfz:frzV [some (.r n),some (.d (.str z)),some (.d (.lst (names.map .str))),some (.r S.length),v4,none,none] 3 S3=S3.set S.length (.frz (.lst (fs.map .str))):=by
   show frzN S.length S3=_
   unfold frzN
   simp only[aF3,Q9]
  have r4:Dr n S (S3.set S.length (.frz (.lst (fs.map .str)))):=r3.set (Nat.le_refl _)
  have aF4:(S3.set S.length (.frz (.lst (fs.map .str))))[S.length]?=some (.frz (.lst (fs.map .str))):=List.getElem?_set_self hplt
  generalize S3.set S.length (.frz (.lst (fs.map .str)))=S4 at *
  have b4:=r4.bag hb
  have nZ:∀ {S':Qa},S'[S.length]?=some (.frz (.lst (fs.map .str)))→norm S' (.r S.length)=.d (.lst (fs.map .str)):=fun h=>Zx h
  have hS4:S.length < S4.length:=(List.getElem?_eq_some_iff.mp aF4).1
  have b4n:=b4.lt
  have r5:Dr n S (S4++[.lst []]):=r4.app _
  have b5:=r5.bag hb
  have aF5:(S4++[Cell.lst []])[S.length]?=some (.frz (.lst (fs.map .str))):=by rw[List.getElem?_append_left hS4]; exact aF4
  obtain⟨k,S6,e6,d6,hk⟩:=hT n 3 (S4++[.lst []]) b5 (by decide) (by decide)
  have e6:takeF [.r n,.d (.int 3)] (S4++[.lst []])=_:=e6
  have r6:Dr n S S6:=r5.trans hb (.of d6)
  have b6:=r6.bag hb
  have aF6:=(Dr.of d6).at_ aF5 (by omega)
  have aU6:S6[S4.length]?=some (.lst []):=(Dr.of d6).at_ (Jm _ _) (by omega)
  have ln:∀ S,lenU (.d (.lst (fs.map .str))) S=.ok (.d (.int (fs.length:Nat))) S:=fun S=>by
   show Res.ok (U.d (.int ((fs.map D.str).length:Nat))) S=_
   rw[List.length_map]
  simp -implicitDefEqProofs only[bind_ok,bind_err,bind_bad,fl_ok,fl_err,fl_bad,seq_nx,seq_rt,seq_err,seq_bk,seq_ct,seq_bad,bodyR_rt,bodyR_nx,bodyR_err,asB_bl,tru_bl,iff_f,iff_t,leU_int,ltU_int,gtU_int,geU_int,subU_int,addU_int,eqU_int,neU_int,tuple_two,mkE_one,c1_one,c2_two,rd0,rdS,norm_d,dat_d,gFl_none,gRs_none,List.set_cons_zero,List.set_cons_succ,Bool.not_true,Bool.not_false,Bool.false_eq_true,↓reduceIte,hfz,mk0,b5.norm,e6]
  refine seq_cut (Z:=Ye n S _) (I:=fun ρ S'=>∃ us:List (List Str),Dr n S S'∧S'[S.length]?=some (.frz (.lst (fs.map .str)))∧S'[S4.length]?=some (.lst ((us.map Lay.keyD).map .d))∧(∀ k∈us,Part fs k)∧us.length≤1∧ρ=[some (.r n),some (.d (.str z)),some (.d (.lst (names.map .str))),some (.r S.length),v4,some (.r S4.length),none]) (.inl ?_) ?_
  ·by_cases hk0:k=0
   ·have dk:decide (((k:Nat):Int) > 0)=false:=decide_eq_false (by omega)
    simp -implicitDefEqProofs only[bind_ok,bind_err,bind_bad,fl_ok,fl_err,fl_bad,seq_nx,seq_rt,seq_err,seq_bk,seq_ct,seq_bad,bodyR_rt,bodyR_nx,bodyR_err,asB_bl,tru_bl,iff_f,iff_t,leU_int,ltU_int,gtU_int,geU_int,subU_int,addU_int,eqU_int,neU_int,tuple_two,mkE_one,c1_one,c2_two,rd0,rdS,norm_d,dat_d,gFl_none,gRs_none,List.set_cons_zero,List.set_cons_succ,Bool.not_true,Bool.not_false,Bool.false_eq_true,↓reduceIte,dk]
    exact⟨_,_,rfl,[],r6,aF6,aU6,(fun k hk=>(List.not_mem_nil hk).elim),by decide,rfl⟩
   ·have dk:decide (((k:Nat):Int) > 0)=true:=decide_eq_true (by omega)
    obtain⟨j,S7,e7,d7,hj⟩:=hT n ((fs.length:Nat):Int) S6 b6 (by omega) (by omega)
    have r7:Dr n S S7:=r6.trans hb (.of d7)
    have b7:=r7.bag hb
    have aF7:=(Dr.of d7).at_ aF6 (by omega)
    have aU7:=(Dr.of d7).at_ aU6 (by omega)
    have hz2:(1:Int) + ((j:Nat):Int)=((j + 1:Nat):Int):=by omega
    obtain⟨es,S8,e8,d8,hel,rest,hperm⟩:=hP n (.d (.lst (fs.map .str))) _ (j + 1) S7 b7 .lst (fun e=>nomatch e) (by rw[List.length_map]; omega) (by rw[List.length_map]; omega)
    obtain⟨ys,rfl,ynd,ysub⟩:=picked_part hperm hnd
    rw[List.length_map] at hel
    have r8:Dr n S S8:=r7.trans hb (.of d8)
    have aF8:=(Dr.of d8).at_ aF7 (by omega)
    have aU8:=(Dr.of d8).at_ aU7 (by omega)
    have tp:∀ S,tupU (.d (.lst (ys.map .str))) S=.ok (.d (Lay.keyD ys)) S:=fun S=>rfl
    have nU6:norm S6 (.r S4.length)=.r S4.length:=by simp only[norm,aU6]
    have tyU6:tyU "list" (.r S4.length) S6=true:=by simp only[tyU,aU6]; rfl
    have hap:appU (.r S4.length) [.d (Lay.keyD ys)] S8=.ok (.d .non) (S8.set S4.length (.lst (([ys].map Lay.keyD).map .d))):=by
     simp only[appU,Zf,aU8,List.length_nil]
     rw[if_pos (sz5l (by omega))]
     rfl
    simp -implicitDefEqProofs only[bind_ok,bind_err,bind_bad,fl_ok,fl_err,fl_bad,seq_nx,seq_rt,seq_err,seq_bk,seq_ct,seq_bad,bodyR_rt,bodyR_nx,bodyR_err,asB_bl,tru_bl,iff_f,iff_t,leU_int,ltU_int,gtU_int,geU_int,subU_int,addU_int,eqU_int,neU_int,tuple_two,mkE_one,c1_one,c2_two,rd0,rdS,norm_d,dat_d,gFl_none,gRs_none,List.set_cons_zero,List.set_cons_succ,Bool.not_true,Bool.not_false,Bool.false_eq_true,↓reduceIte,dk,nU6,tyU6,b6.norm,nZ aF6,ln,e7,hz2,e8,tp,hap]
    refine⟨_,_,rfl,[ys],r8.set (by omega),?_,List.getElem?_set_self (List.getElem?_eq_some_iff.mp aU8).1,fun k hk=>?_,Nat.le_refl _,rfl⟩
    ·rw[List.getElem?_set_ne (by omega)]; exact aF8
    ·rw[List.mem_singleton.mp hk]
     exact⟨(fun e=>by rw[e] at hel; cases hel),ynd,ysub⟩
  ·rintro ρ S9 ⟨us,r9,aF9,aU9,hus,hul,rfl⟩
   have hult:=(List.getElem?_eq_some_iff.mp aU9).1
   have hfz2:frzV [some (.r n),some (.d (.str z)),some (.d (.lst (names.map .str))),some (.r S.length),v4,some (.r S4.length),none] 5 S9=S9.set S4.length (.frz (.lst (us.map Lay.keyD))):=by
    show frzN S4.length S9=_
    unfold frzN
    simp only[aU9,Q9]
   have r10:Dr n S (S9.set S4.length (.frz (.lst (us.map Lay.keyD)))):=r9.set (by omega)
   have aF10:(S9.set S4.length (.frz (.lst (us.map Lay.keyD))))[S.length]?=some (.frz (.lst (fs.map .str))):=by rw[List.getElem?_set_ne (by omega)]; exact aF9
   have aU10:(S9.set S4.length (.frz (.lst (us.map Lay.keyD))))[S4.length]?=some (.frz (.lst (us.map Lay.keyD))):=List.getElem?_set_self hult
   generalize S9.set S4.length (.frz (.lst (us.map Lay.keyD)))=S10 at *
   have b10:=r10.bag hb
   have mkl:∀ S,mkL [.d (.int 0),.d (.int 0),.d (.int 1),.d (.int 2)] S=.ok (.d (.lst [.int 0,.int 0,.int 1,.int 2])) S:=fun _=>rfl
   obtain⟨d,S11,e11,d11,hd⟩:=hOf n (.d (.lst [.int 0,.int 0,.int 1,.int 2])) _ S10 b10 (.of .lst) (fun e=>nomatch e) (by simp) (by show 4≤1000; decide)
   obtain⟨m,rfl,hm⟩ : ∃ m:Nat,d=.int (m:Nat)∧m≤2:=by
    simp only[List.mem_cons,List.not_mem_nil,or_false] at hd
    rcases hd with rfl | rfl | rfl | rfl
    ·exact⟨0,rfl,by decide⟩
    ·exact⟨0,rfl,by decide⟩
    ·exact⟨1,rfl,by decide⟩
    ·exact⟨2,rfl,by decide⟩
   have r11:Dr n S S11:=r10.trans hb (.of d11)
   have b11:=r11.bag hb
   have aF11:=(Dr.of d11).at_ aF10 (by omega)
   have aU11:=(Dr.of d11).at_ aU10 (by omega)
   have hw:Yn [some (.r n),some (.d (.str z)),some (.d (.lst (names.map .str))),some (.r S.length),v4,some (.r S4.length),none] (List.map (fun x=>x.snd) [(Str.ofString "_law_turn",4)])=[some (.r n),some (.d (.str z)),some (.d (.lst (names.map .str))),some (.r S.length),none,some (.r S4.length),none]:=rfl
   obtain⟨xs,S12,e12,⟨r12,aF12,aU12⟩,hxs⟩:=lcU_invP (T:=fun u ρ S=>Res.ok (List.set ρ 4 (some u)) S) (El:=fun ρ S=>((rdV ρ 0 S).bind fun x S=>((rdV ρ 3 S).bind fun x S=>((rdV ρ 2 S).bind fun x S=>Res.ok [x] S).bind fun xs S=>Res.ok (x :: xs) S).bind fun xs S=>Res.ok (x :: xs) S).bind linkF) (ρ:=[some (.r n),some (.d (.str z)),some (.d (.lst (names.map .str))),some (.r S.length),none,some (.r S4.length),none]) (fun S'=>Dr n S S'∧S'[S.length]?=some (.frz (.lst (fs.map .str)))∧S'[S4.length]?=some (.frz (.lst (us.map Lay.keyD)))) (fun _ x=>∃ p:List Str × Str,x=.d (Lay.refD p)∧Part fs p.1∧p.2∈names) (Jg 0 m) [] S11 (fun u hu S' ⟨r',aF',aU'⟩=>by
    have b':=r'.bag hb
    obtain⟨p,S'',e',d',hp1,hp2⟩:=hLk n fs names S' b' hf0 hnd (by omega) hn0 hn1
    refine⟨_,.d (Lay.refD p),S'',rfl,?_,⟨r'.trans hb (.of d'),(Dr.of d').at_ aF' (by omega),(Dr.of d').at_ aU' (by omega)⟩,p,rfl,hp1,hp2⟩
    simp! [b'.norm,nZ aF',e']) ⟨r11,aF11,aU11⟩ (by show 0 + _≤sizeLine; rw[Jg,List.length_map,List.length_range]; exact sz10 (by omega))
   rw[List.nil_append] at e12
   obtain⟨ps,rfl,hps,hpl⟩ : ∃ ps:List (List Str × Str),xs=(ps.map Lay.refD).map U.d∧(∀ p∈ps,Part fs p.1∧p.2∈names)∧ps.length=m:=by
    have:∀ {us xs:List U},Paired (fun (_ x:U)=>∃ p:List Str × Str,x=.d (Lay.refD p)∧Part fs p.1∧p.2∈names) us xs→∃ ps:List (List Str × Str),xs=(ps.map Lay.refD).map U.d∧(∀ p∈ps,Part fs p.1∧p.2∈names)∧ps.length=us.length:=fun {us xs} h=>by
     induction h with
     | nil=>exact⟨[],rfl,(fun k hk=>(List.not_mem_nil hk).elim),rfl⟩
     | cons a t ih =>
      obtain⟨p,rfl,hp⟩:=a
      obtain⟨ps,rfl,h1,h2⟩:=ih
      refine⟨p :: ps,rfl,fun q hq=>?_,by rw[List.length_cons,List.length_cons,h2]⟩
      rcases List.mem_cons.mp hq with rfl | hq
      ·exact hp
      ·exact h1 q hq
    obtain⟨ps,e,h1,h2⟩:=this hxs
    exact⟨ps,e,h1,by rw[h2,Jg,List.length_map,List.length_range]⟩
   have mkr:∀ S,mkL ((ps.map Lay.refD).map U.d) S=.ok (.d (.lst (ps.map Lay.refD))) S:=fun S=>mkL_d (by rw[List.length_map]; omega) S
   have nU12:norm S12 (.r S4.length)=.d (.lst (us.map Lay.keyD)):=Zx aU12
   have tp:∀ (ds:List D) S,tupU (.d (.lst ds)) S=.ok (.d (.tup ds)) S:=fun _ S=>rfl
   have mt:∀ S,mkT [.d (.str z),.d (.tup (fs.map .str)),.d (.tup (us.map Lay.keyD)),.d (.tup (ps.map Lay.refD))] S=.ok (.d (⟨z,fs,us,ps⟩ : Lay).d) S:=fun _=>rfl
   simp -implicitDefEqProofs only[bind_ok,bind_err,bind_bad,fl_ok,fl_err,fl_bad,seq_nx,seq_rt,seq_err,seq_bk,seq_ct,seq_bad,bodyR_rt,bodyR_nx,bodyR_err,asB_bl,tru_bl,iff_f,iff_t,leU_int,ltU_int,gtU_int,geU_int,subU_int,addU_int,eqU_int,neU_int,tuple_two,mkE_one,c1_one,c2_two,rd0,rdS,norm_d,dat_d,gFl_none,gRs_none,List.set_cons_zero,List.set_cons_succ,Bool.not_true,Bool.not_false,Bool.false_eq_true,↓reduceIte,hfz2,mkl,b10.norm,e11,hrg m _ (by omega),hw,e12,mkr,nZ aF12,nU12,tp,mt]
   refine r12.z ⟨⟨z,fs,us,ps⟩,rfl,rfl,hz,hok,hf0,by show fs.length≤3; omega,hnd,hus,?_,Nat.le_trans hul (by decide),fun p hp=>⟨(hps p hp).1,hno _ (hps p hp).2⟩,by show ps.length≤2; omega⟩
   cases us with
   | nil=>exact .nil
   | cons a t =>
    cases t with
    | nil=>exact List.pairwise_singleton _ _
    | cons b t=>exact absurd hul (by simp)
 ·exact⟨[],none,r2,aF2,by rw[Jg,List.length_map,List.length_range]; rfl,.nil,(fun y hy=>(List.not_mem_nil hy).elim),rfl⟩
end
end KL
namespace KL
open PySem PySem.Spec PyProof.Rows L2 DL
open He (ga ma)
open TL (tl)
section
variable {P:Program} {w:World} {K:PySem.W.Frag} {mg:Str→Option Value} {base:Heap}
def abL (z:Str):Lay:=⟨z,["a", "b"],[["b"]],[]⟩
theorem nm_a:NmS ("a" : Str):=by
 have e:tl ("a" : Str)=[97]:=by decide +kernel
 show NameL (tl ("a" : Str))
 rw[e]
 exact⟨by decide,by decide,fun c hc=>by rw[List.mem_singleton.mp hc]; decide⟩
theorem nm_b:NmS ("b" : Str):=by
 have e:tl ("b" : Str)=[98]:=by decide +kernel
 show NameL (tl ("b" : Str))
 rw[e]
 exact⟨by decide,by decide,fun c hc=>by rw[List.mem_singleton.mp hc]; decide⟩
theorem ab_ok {z:Str} (h:NmS z):(abL z).Ok 3:=by
 refine⟨h,fun y hy=>?_,by simp [abL],(show 2≤3 by decide),?_,fun k hk=>?_,List.pairwise_singleton _ _,(show 1≤2 by decide),(fun _ h=>nomatch h),(show 0≤2 by decide)⟩
 ·simp only[abL,List.mem_cons,List.not_mem_nil,or_false] at hy
  rcases hy with rfl | rfl
  ·exact nm_a
  ·exact nm_b
 ·show (["a", "b"]:List Str).Nodup
  decide +kernel
 ·rw[List.mem_singleton.mp hk]
  exact⟨by simp,by simp,fun y hy=>by rw[List.mem_singleton.mp hy]; exact List.mem_cons_of_mem _ List.mem_cons_self⟩
theorem Ji:FnScope ["_law_bag_here", "_law_names", "_law_plains_here", "_law_turn", "_law_at", "_law_label", "_law_kind", "_law_known", "_law_spot"] ["_law_bag_here"] (defScope Ue):=⟨rfl,rfl,rfl,by decide +kernel,rfl,by decide +kernel,by decide +kernel⟩
theorem dk_plains (T:Txt P K mg):∃ f,FM P w K mg base 5 "_law_plains" ["_law_bag_here"] f∧∀ (n:Nat) (S:Qa),Bag S n→∃ (lays:List Lay) (S':Qa),f [.r n] S=.ok (.d (.lst (lays.map Lay.d))) S'∧Drew n S S'∧(∀ l∈lays,l.Ok 3)∧lays.length≤7∧lays ≠ []:=by
 obtain⟨takeF,F_law_take,hT⟩:=dk_take (w:=w) (base:=base) T
 obtain⟨ofF,F_law_of,hOf⟩:=dk_of (w:=w) (base:=base) T
 obtain⟨nameF,F_law_name,hNm⟩:=dk_name (w:=w) (base:=base) T
 obtain⟨Xh,F_law_plain,hPl⟩:=dk_plain (w:=w) (base:=base) T
 refine Exists.imp (fun f hf=>⟨hf.1,fun n S b=>?_⟩) (Vy (P:=P) (w:=w) (base:=base) (k:=4) (fun us S=>∃ n,us=[.r n]) (fun us S y=>∃ lays:List Lay,y=.lst (lays.map Lay.d)∧(∀ l∈lays,l.Ok 3)∧lays.length≤7∧lays ≠ []) T.F_law_plains Ji (fun _ _ _ _ _ _ us hl=>match us,hl with | [_],_=>rfl) (fun cdv A outer s H E hA hr=>(Qh (pds_par (i:=1) (j:=2) rfl Ji.nd rfl rfl (by decide) rfl rfl (Qc (Uk Qg) (Qc (Uk Qg) Qg)) (fun h=>ps_par (by rfl) Ji.nd rfl rfl (by decide) rfl rfl h (by rfl)))
 (Qh (Jp (passes_of rfl) rfl (Yh T.m_range (Qc (Qp hA F_law_of (hr.mono (by decide)) (takes_of rfl rfl rfl rfl) (Qc (Qe 0 (pv 0)) (Qc (Xb (Qc Qi (Qc Qi (Qc Qi (Qc Qi (Qc Qi (Qc Qi Qg))))))) Qg))) Qg)) (Qn (i:=3) Ji.nd rfl (by first | exact Or.inl rfl | exact Or.inr rfl)) (Ql (Y8 (Uw PySem.F.plainAttrs_list PySem.F.slot_list_append PySem.F.type_list_append Yz (Qe 1 (pv 1)) (Qc (Qp hA F_law_name (hr.mono (by decide)) (takes_of rfl rfl rfl rfl) (Qc (Qe 0 (pv 0)) (Qc (Qe 1 (pv 1)) (Qc (Xb Qg) Qg)))) Qg)))))
 (Zw 1 (Qh (Jp (passes_of rfl) rfl (Yr T.m_enumerate (Qc (Qe 1 (pv 1)) Qg)) (Y7 (n:=2) rfl (Q4 (fun _ _ _ _ _ h=>h) (Qn (i:=4) Ji.nd rfl (by first | exact Or.inl rfl | exact Or.inr rfl)) (Q4 (fun _ _ _ _ _ h=>h) (Qn (i:=5) Ji.nd rfl (by first | exact Or.inl rfl | exact Or.inr rfl)) Yg))) (Qh (Q6 (i:=6) Ji.nd rfl (by first | exact Or.inl rfl | exact Or.inr rfl) (Qp hA F_law_take (hr.mono (by decide)) (takes_of rfl rfl rfl rfl) (Qc (Qe 0 (pv 0)) (Qc Qi Qg))))
 (Qh (Q6 (i:=7) Ji.nd rfl (by first | exact Or.inl rfl | exact Or.inr rfl) (Uy (Qt (Xo hr) (Qe 6 (pv 6)) Qi (nomark _)) (Qe 1 (pv 1)) (Uy (Jd (Qe 4 (pv 4))) (Vl sld (Qe 1 (pv 1)) Yp (Yq (Qe 4 (pv 4)))) (Uy (Qt (Xo hr) (Qe 6 (pv 6)) Qi (nomark _)) (Xb (Qc (Qp hA F_law_name (hr.mono (by decide)) (takes_of rfl rfl rfl rfl) (Qc (Qe 0 (pv 0)) (Qc (Qe 1 (pv 1)) (Qc (Xb Qg) Qg)))) Qg)) (Xb Qg)))))
 (Ql (Q5 (Jd (Qe 7 (pv 7))) (Ql (Y8 (Uw PySem.F.plainAttrs_list PySem.F.slot_list_append PySem.F.type_list_append Yz (Qe 2 (pv 2)) (Qc (Qp hA F_law_plain (hr.mono (by decide)) (takes_of rfl rfl rfl rfl) (Qc (Qe 0 (pv 0)) (Qc (Qe 5 (pv 5)) (Qc (Qe 7 (pv 7)) Qg)))) Qg)))) (Ql (Y8 (Uw PySem.F.plainAttrs_list PySem.F.slot_list_append PySem.F.type_list_append Yz (Qe 2 (pv 2)) (Qc (Y6 (Qc (Qe 5 (pv 5)) (Qc (Y6 (Qc Uj (Qc Uj Qg))) (Qc (Y6 (Qc (Y6 (Qc Uj Qg)) Qg)) (Qc (Y6 Qg) Qg))))) Qg)))))))))
 (Qh (Q5 (Qt (Xo hr) (Qp hA F_law_take (hr.mono (by decide)) (takes_of rfl rfl rfl rfl) (Qc (Qe 0 (pv 0)) (Qc Qi Qg))) Qi (nomark _)) (Qh (Q6 (i:=8) Ji.nd rfl (by first | exact Or.inl rfl | exact Or.inr rfl) (Qp hA F_law_take (hr.mono (by decide)) (takes_of rfl rfl rfl rfl) (Qc (Qe 0 (pv 0)) (Qc (Qo Jk T.m_len (Qc (Qe 2 (pv 2)) Qg)) Qg))))
 (Ql (Y8 (Uw PySem.F.plainAttrs_list PySem.F.slot_list_insert PySem.F.type_list_insert md_insert (Qe 2 (pv 2)) (Qc (Qe 8 (pv 8)) (Qc (Qp hA F_law_plain (hr.mono (by decide)) (takes_of rfl rfl rfl rfl) (Qc (Qe 0 (pv 0)) (Qc (Qp hA F_law_of (hr.mono (by decide)) (takes_of rfl rfl rfl rfl) (Qc (Qe 0 (pv 0)) (Qc (Qe 1 (pv 1)) Qg))) (Qc (Vl sld (Qe 1 (pv 1)) Yp (Yq Qi)) Qg)))) Qg)))))) Qq)
 (Zw 2 (Ql (Qs (Vl sld (Qe 2 (pv 2)) Yp (Yq Qi))))))))))) (fun us S hl hb hp=>?_))
 ·obtain⟨y,S',e,dr,lays,rfl,h⟩:=hf.2 [.r n] S rfl b ⟨n,rfl⟩
  exact⟨lays,S',e,dr,h⟩
 obtain⟨n,rfl⟩:=hp
 have hb:Bag S n:=hb
 show Ye n S _ _
 rw[show Q3 (["_law_bag_here", "_law_names", "_law_plains_here", "_law_turn", "_law_at", "_law_label", "_law_kind", "_law_known", "_law_spot"]:List Str).length [U.r n]=[some (.r n),none,none,none,none,none,none,none,none] from rfl]
 have mk0:∀ S,mkM [] S=.ok (.r S.length) (S++[.lst []]):=fun S=>if_pos (by decide)
 have mkl6:∀ S,mkL [.d (.int 1),.d (.int 2),.d (.int 3),.d (.int 4),.d (.int 6),.d (.int 7)] S=.ok (.d (.lst [.int 1,.int 2,.int 3,.int 4,.int 6,.int 7])) S:=fun _=>rfl
 have mkl0:∀ S,mkL [] S=.ok (.d (.lst (([]:List Str).map .str))) S:=fun _=>rfl
 have hrg:∀ (m:Nat) (S:Qa),m≤1000→Xc [.d (.int (m:Int))] S=.ok ⟨Jg 0 m,none⟩ S:=fun m S h=>Zj S (by omega)
 have hnS:=hb.lt
 have r1:Dr n S (S++[.lst []]++[.lst []]):=((Dr.refl hb).app _).app _
 have b1:=r1.bag hb
 have hl1:(S++[Cell.lst []]).length=S.length + 1:=by rw[List.length_append]; rfl
 have a1:(S++[Cell.lst []]++[Cell.lst []])[S.length]?=some (.lst []):=by rw[List.getElem?_append_left (by rw[hl1]; omega)]; exact Jm _ _
 have a2:(S++[Cell.lst []]++[Cell.lst []])[S.length + 1]?=some (.lst []):=by rw[← hl1]; exact Jm _ _
 obtain⟨d,S2,e2,d2,hd⟩:=hOf n (.d (.lst [.int 1,.int 2,.int 3,.int 4,.int 6,.int 7])) _ _ b1 (.of .lst) (fun e=>nomatch e) (by simp) (by show 6≤1000; decide)
 obtain⟨c,rfl,hc0,hc⟩ : ∃ c:Nat,d=.int (c:Nat)∧1≤c∧c≤7:=by
  simp only[List.mem_cons,List.not_mem_nil,or_false] at hd
  rcases hd with rfl | rfl | rfl | rfl | rfl | rfl
  ·exact⟨1,rfl,by decide,by decide⟩
  ·exact⟨2,rfl,by decide,by decide⟩
  ·exact⟨3,rfl,by decide,by decide⟩
  ·exact⟨4,rfl,by decide,by decide⟩
  ·exact⟨6,rfl,by decide,by decide⟩
  ·exact⟨7,rfl,by decide,by decide⟩
 have r2:Dr n S S2:=r1.trans hb (.of d2)
 have aN2:=(Dr.of d2).at_ a1 (by omega)
 have aP2:=(Dr.of d2).at_ a2 (by omega)
 have nF:∀ {S':Qa} {us:List U} {p:Nat},S'[p]?=some (.lst us)→norm S' (.r p)=.r p:=fun h=>by simp only[norm,h]
 have tyl:∀ {S':Qa} {us:List U} {p:Nat},S'[p]?=some (.lst us)→tyU "list" (.r p) S'=true:=fun h=>by simp only[tyU,h]; rfl
 simp -implicitDefEqProofs only[bind_ok,bind_err,bind_bad,fl_ok,fl_err,fl_bad,seq_nx,seq_rt,seq_err,seq_bk,seq_ct,seq_bad,bodyR_rt,bodyR_nx,bodyR_err,asB_bl,tru_bl,iff_f,iff_t,leU_int,ltU_int,gtU_int,geU_int,subU_int,addU_int,eqU_int,neU_int,tuple_two,mkE_one,c1_one,c2_two,rd0,rdS,norm_d,dat_d,gFl_none,gRs_none,List.set_cons_zero,List.set_cons_succ,Bool.not_true,Bool.not_false,Bool.false_eq_true,↓reduceIte,mk0,hl1,mkl6,b1.norm,e2,hrg c _ (by omega)]
 refine loopS (K:=fun f=>Ye n S _ (Jc (f.seq _))) (I:=fun us ρ S'=>∃ (ns:List Str) (v3:Option U),Dr n S S'∧S'[S.length]?=some (.lst ((ns.map D.str).map .d))∧S'[S.length + 1]?=some (.lst [])∧us.length + ns.length=c∧(∀ y∈ns,NmS y)∧ρ=[some (.r n),some (.r S.length),some (.r (S.length + 1)),v3,none,none,none,none,none]) ?_ ?_ ?_
 ·rintro u us ρ S3 ⟨ns,v3,r3,aN3,aP3,hlen,hok,rfl⟩
  have hlen:us.length + 1 + ns.length=c:=hlen
  refine⟨_,_,rfl,?_⟩
  have b3:=r3.bag hb
  obtain⟨y,S4,e4,d4,hy,hnew⟩:=hNm n (.r S.length) (.d (.lst (([]:List Str).map .str))) ns [] S3 b3 ⟨.cell aN3,(fun e=>by cases e; omega),hok,by omega⟩ ⟨.lst,(fun e=>nomatch e),(fun y hy=>(List.not_mem_nil hy).elim),by decide⟩
  have aN4:=(Dr.of d4).at_ aN3 (by omega)
  have aP4:=(Dr.of d4).at_ aP3 (by omega)
  have hap:appU (.r S.length) [.d (.str y)] S4=.ok (.d .non) (S4.set S.length (.lst (((ns++[y]).map D.str).map .d))):=by
   simp only[appU,Zf,aN4,List.length_map]
   rw[if_pos (sz5l (by omega)),List.map_append,List.map_append]
   rfl
  simp -implicitDefEqProofs only[bind_ok,bind_err,bind_bad,fl_ok,fl_err,fl_bad,seq_nx,seq_rt,seq_err,seq_bk,seq_ct,seq_bad,bodyR_rt,bodyR_nx,bodyR_err,asB_bl,tru_bl,iff_f,iff_t,leU_int,ltU_int,gtU_int,geU_int,subU_int,addU_int,eqU_int,neU_int,tuple_two,mkE_one,c1_one,c2_two,rd0,rdS,norm_d,dat_d,gFl_none,gRs_none,List.set_cons_zero,List.set_cons_succ,Bool.not_true,Bool.not_false,Bool.false_eq_true,↓reduceIte,nF aN3,tyl aN3,b3.norm,mkl0,e4,hap]
  refine⟨ns++[y],_,(r3.trans hb (.of d4)).set (Nat.le_refl _),List.getElem?_set_self (List.getElem?_eq_some_iff.mp aN4).1,by rw[List.getElem?_set_ne (by omega)]; exact aP4,by rw[List.length_append]; show us.length + (ns.length + 1)=c; omega,fun x hx=>?_,rfl⟩
  rcases List.mem_append.mp hx with hx | hx
  ·exact hok x hx
  ·rw[List.mem_singleton.mp hx]; exact hy
 ·rintro ρ S3 ⟨ns,v3,r3,aN3,aP3,hlen,hok,rfl⟩
  have hlen:ns.length=c:=by have:0 + ns.length=c:=hlen; omega
  have hn0:ns ≠ []:=fun e=>by rw[e] at hlen; simp at hlen; omega
  have hfz:frzV [some (.r n),some (.r S.length),some (.r (S.length + 1)),v3,none,none,none,none,none] 1 S3=S3.set S.length (.frz (.lst (ns.map .str))):=by
   show frzN S.length S3=_
   unfold frzN
   simp only[aN3,Q9]
  have r4:Dr n S (S3.set S.length (.frz (.lst (ns.map .str)))):=r3.set (Nat.le_refl _)
  have aN4:(S3.set S.length (.frz (.lst (ns.map .str))))[S.length]?=some (.frz (.lst (ns.map .str))):=List.getElem?_set_self (List.getElem?_eq_some_iff.mp aN3).1
  have aP4:(S3.set S.length (.frz (.lst (ns.map .str))))[S.length + 1]?=some (.lst (([]:List Lay).map Lay.d |>.map .d)):=by rw[List.getElem?_set_ne (by omega)]; exact aP3
  generalize S3.set S.length (.frz (.lst (ns.map .str)))=S4 at *
  have b4:=r4.bag hb
  have nZ:∀ {S':Qa},S'[S.length]?=some (.frz (.lst (ns.map .str)))→norm S' (.r S.length)=.d (.lst (ns.map .str)):=fun h=>Zx h
  have hen:∀ S,Uu [.d (.lst (ns.map .str))] S=.ok ⟨Jo 0 (ns.map .str),none⟩ S:=fun S=>rfl
  have hap:∀ {S':Qa} (lays:List Lay) (l:Lay),lays.length≤10→S'[S.length + 1]?=some (.lst ((lays.map Lay.d).map .d))→appU (.r (S.length + 1)) [.d l.d] S'=.ok (.d .non) (S'.set (S.length + 1) (.lst (((lays++[l]).map Lay.d).map .d))):=fun {S'} lays l hl h=>by
   simp only[appU,Zf,h,List.length_map]
   rw[if_pos (sz5l (by omega)),List.map_append,List.map_append]
   rfl
  simp -implicitDefEqProofs only[bind_ok,bind_err,bind_bad,fl_ok,fl_err,fl_bad,seq_nx,seq_rt,seq_err,seq_bk,seq_ct,seq_bad,bodyR_rt,bodyR_nx,bodyR_err,asB_bl,tru_bl,iff_f,iff_t,leU_int,ltU_int,gtU_int,geU_int,subU_int,addU_int,eqU_int,neU_int,tuple_two,mkE_one,c1_one,c2_two,rd0,rdS,norm_d,dat_d,gFl_none,gRs_none,List.set_cons_zero,List.set_cons_succ,Bool.not_true,Bool.not_false,Bool.false_eq_true,↓reduceIte,hfz,nZ aN4,hen]
  refine loopS (K:=fun f=>Ye n S _ (Jc (f.seq _))) (I:=fun us ρ S'=>∃ (i:Nat) (rest:List Str) (lays:List Lay) (v4 v5 v6 v7:Option U),us=Jo i (rest.map .str)∧(∀ y∈rest,y∈ns)∧Dr n S S'∧S'[S.length]?=some (.frz (.lst (ns.map .str)))∧S'[S.length + 1]?=some (.lst ((lays.map Lay.d).map .d))∧(∀ l∈lays,l.Ok 3)∧lays.length=i∧i + rest.length=c∧ρ=[some (.r n),some (.r S.length),some (.r (S.length + 1)),v3,v4,v5,v6,v7,none]) ?_ ?_ ?_
  ·rintro u us ρ S5 ⟨i,rest,lays,v4,v5,v6,v7,hu,hrest,r5,aN5,aP5,hlok,hll,hic,rfl⟩
   cases rest with
   | nil=>cases hu
   | cons z rest =>
    rw[List.map_cons,Qy,List.cons.injEq] at hu
    obtain⟨rfl,rfl⟩:=hu
    refine⟨_,_,rfl,?_⟩
    rw[List.length_cons] at hic
    have hz:=hok z (hrest z List.mem_cons_self)
    have b5:=r5.bag hb
    obtain⟨k,S6,e6,d6,hk⟩:=hT n 9 S5 b5 (by decide) (by decide)
    have e6:takeF [.r n,.d (.int 9)] S5=_:=e6
    have r6:Dr n S S6:=r5.trans hb (.of d6)
    have b6:=r6.bag hb
    have aN6:=(Dr.of d6).at_ aN5 (by omega)
    have aP6:=(Dr.of d6).at_ aP5 (by omega)
    simp -implicitDefEqProofs only[bind_ok,bind_err,bind_bad,fl_ok,fl_err,fl_bad,seq_nx,seq_rt,seq_err,seq_bk,seq_ct,seq_bad,bodyR_rt,bodyR_nx,bodyR_err,asB_bl,tru_bl,iff_f,iff_t,leU_int,ltU_int,gtU_int,geU_int,subU_int,addU_int,eqU_int,neU_int,tuple_two,mkE_one,c1_one,c2_two,rd0,rdS,norm_d,dat_d,gFl_none,gRs_none,List.set_cons_zero,List.set_cons_succ,Bool.not_true,Bool.not_false,Bool.false_eq_true,↓reduceIte,b5.norm,e6]
    refine step_case (Q:=StepPo _ _) (I:=fun ρ S'=>∃ kn:List Str,(∀ y∈kn,NmS y)∧kn.length≤1000∧Dr n S S'∧S'[S.length]?=some (.frz (.lst (ns.map .str)))∧S'[S.length + 1]?=some (.lst ((lays.map Lay.d).map .d))∧ρ=[some (.r n),some (.r S.length),some (.r (S.length + 1)),v3,some (.d (.int (i:Nat))),some (.d (.str z)),some (.d (.int (k:Nat))),some (.d (.lst (kn.map .str))),none]) ?_ ?_
    ·by_cases k0:k=0
     ·have dk:decide (((k:Nat):Int)=0)=true:=decide_eq_true (by omega)
      simp -implicitDefEqProofs only[bind_ok,bind_err,bind_bad,fl_ok,fl_err,fl_bad,seq_nx,seq_rt,seq_err,seq_bk,seq_ct,seq_bad,bodyR_rt,bodyR_nx,bodyR_err,asB_bl,tru_bl,iff_f,iff_t,leU_int,ltU_int,gtU_int,geU_int,subU_int,addU_int,eqU_int,neU_int,tuple_two,mkE_one,c1_one,c2_two,rd0,rdS,norm_d,dat_d,gFl_none,gRs_none,List.set_cons_zero,List.set_cons_succ,Bool.not_true,Bool.not_false,Bool.false_eq_true,↓reduceIte,dk,nZ aN6]
      exact⟨_,_,rfl,ns,hok,by omega,r6,aN6,aP6,rfl⟩
     ·have dk:decide (((k:Nat):Int)=0)=false:=decide_eq_false (by omega)
      have tri:truU (.d (.int ((i:Nat):Int))) S6=.ok (decide (i ≠ 0)) S6:=by
       show Res.ok (!decide (((i:Nat):Int)=0)) S6=_
       congr 1
       rw[← decide_not]
       exact decide_eq_decide.mpr (by omega)
      by_cases i0:i=0
      ·have tri:truU (.d (.int ((i:Nat):Int))) S6=.ok false S6:=by rw[tri,decide_eq_false (by omega)]
       by_cases k1:k=1
       ·have dk1:decide (((k:Nat):Int)=1)=true:=decide_eq_true (by omega)
        obtain⟨y,S7,e7,d7,hy,_⟩:=hNm n (.d (.lst (ns.map .str))) (.d (.lst (([]:List Str).map .str))) ns [] S6 b6 ⟨.lst,(fun e=>nomatch e),hok,by omega⟩ ⟨.lst,(fun e=>nomatch e),(fun y hy=>(List.not_mem_nil hy).elim),by decide⟩
        have mk1:∀ S,mkL [.d (.str y)] S=.ok (.d (.lst (([y]:List Str).map .str))) S:=fun _=>rfl
        simp -implicitDefEqProofs only[bind_ok,bind_err,bind_bad,fl_ok,fl_err,fl_bad,seq_nx,seq_rt,seq_err,seq_bk,seq_ct,seq_bad,bodyR_rt,bodyR_nx,bodyR_err,asB_bl,tru_bl,iff_f,iff_t,leU_int,ltU_int,gtU_int,geU_int,subU_int,addU_int,eqU_int,neU_int,tuple_two,mkE_one,c1_one,c2_two,rd0,rdS,norm_d,dat_d,gFl_none,gRs_none,List.set_cons_zero,List.set_cons_succ,Bool.not_true,Bool.not_false,Bool.false_eq_true,↓reduceIte,dk,tri,dk1,b6.norm,nZ aN6,mkl0,e7,mk1]
        exact⟨_,_,rfl,[y],(fun x hx=>by rw[List.mem_singleton.mp hx]; exact hy),by simp,r6.trans hb (.of d7),(Dr.of d7).at_ aN6 (by omega),(Dr.of d7).at_ aP6 (by omega),rfl⟩
       ·have dk1:decide (((k:Nat):Int)=1)=false:=decide_eq_false (by omega)
        simp -implicitDefEqProofs only[bind_ok,bind_err,bind_bad,fl_ok,fl_err,fl_bad,seq_nx,seq_rt,seq_err,seq_bk,seq_ct,seq_bad,bodyR_rt,bodyR_nx,bodyR_err,asB_bl,tru_bl,iff_f,iff_t,leU_int,ltU_int,gtU_int,geU_int,subU_int,addU_int,eqU_int,neU_int,tuple_two,mkE_one,c1_one,c2_two,rd0,rdS,norm_d,dat_d,gFl_none,gRs_none,List.set_cons_zero,List.set_cons_succ,Bool.not_true,Bool.not_false,Bool.false_eq_true,↓reduceIte,dk,tri,dk1,mkl0]
        exact⟨_,_,rfl,[],(fun x hx=>(List.not_mem_nil hx).elim),by simp,r6,aN6,aP6,rfl⟩
      ·have tri:truU (.d (.int ((i:Nat):Int))) S6=.ok true S6:=by rw[tri,decide_eq_true i0]
       have slk:∀ S,slU (.d (.lst (ns.map .str))) none (some ((i:Nat):Int)) S=.ok (.d (.lst ((ns.take i).map .str))) S:=fun S=>by
        show Res.ok (U.d (.lst (cutL (ns.map D.str) none (some ((i:Nat):Int))))) S=_
        rw[cut_any28,List.map_take]
       simp -implicitDefEqProofs only[bind_ok,bind_err,bind_bad,fl_ok,fl_err,fl_bad,seq_nx,seq_rt,seq_err,seq_bk,seq_ct,seq_bad,bodyR_rt,bodyR_nx,bodyR_err,asB_bl,tru_bl,iff_f,iff_t,leU_int,ltU_int,gtU_int,geU_int,subU_int,addU_int,eqU_int,neU_int,tuple_two,mkE_one,c1_one,c2_two,rd0,rdS,norm_d,dat_d,gFl_none,gRs_none,List.set_cons_zero,List.set_cons_succ,Bool.not_true,Bool.not_false,Bool.false_eq_true,↓reduceIte,dk,tri,nZ aN6,Uq,slk]
       exact⟨_,_,rfl,ns.take i,(fun x hx=>hok x (List.mem_of_mem_take hx)),by rw[List.length_take]; omega,r6,aN6,aP6,rfl⟩
    ·rintro ρ S7 ⟨kn,hkn,hknl,r7,aN7,aP7,rfl⟩
     have b7:=r7.bag hb
     have trk:truU (.d (.lst (kn.map .str))) S7=.ok (!(kn.map D.str).isEmpty) S7:=rfl
     by_cases kn0:kn=[]
     ·have trk:truU (.d (.lst (kn.map .str))) S7=.ok false S7:=by rw[trk,kn0]; rfl
      have mtb:∀ S,mkT [.d (.str (Str.ofString "b"))] S=.ok (.d (.tup [.str "b"])) S:=fun _=>rfl
      have mtab:∀ S,mkT [.d (.str (Str.ofString "a")),.d (.str (Str.ofString "b"))] S=.ok (.d (.tup [.str "a",.str "b"])) S:=fun _=>rfl
      have mtt:∀ S,mkT [.d (.tup [.str "b"])] S=.ok (.d (.tup [.tup [.str "b"]])) S:=fun _=>rfl
      have mt0:∀ S,mkT [] S=.ok (.d (.tup [])) S:=fun _=>rfl
      have mt4:∀ S,mkT [.d (.str z),.d (.tup [.str "a",.str "b"]),.d (.tup [.tup [.str "b"]]),.d (.tup [])] S=.ok (.d (abL z).d) S:=fun _=>rfl
      simp -implicitDefEqProofs only[bind_ok,bind_err,bind_bad,fl_ok,fl_err,fl_bad,seq_nx,seq_rt,seq_err,seq_bk,seq_ct,seq_bad,bodyR_rt,bodyR_nx,bodyR_err,asB_bl,tru_bl,iff_f,iff_t,leU_int,ltU_int,gtU_int,geU_int,subU_int,addU_int,eqU_int,neU_int,tuple_two,mkE_one,c1_one,c2_two,rd0,rdS,norm_d,dat_d,gFl_none,gRs_none,List.set_cons_zero,List.set_cons_succ,Bool.not_true,Bool.not_false,Bool.false_eq_true,↓reduceIte,trk,nF aP7,tyl aP7,mtb,mtab,mtt,mt0,mt4,hap lays (abL z) (by omega) aP7]
      refine⟨i + 1,rest,lays++[abL z],_,_,_,_,rfl,fun y hy=>hrest y (List.mem_cons_of_mem _ hy),r7.set (by omega),by rw[List.getElem?_set_ne (by omega)]; exact aN7,List.getElem?_set_self (List.getElem?_eq_some_iff.mp aP7).1,fun l hl=>?_,by rw[List.length_append,hll]; rfl,by omega,rfl⟩
      rcases List.mem_append.mp hl with hl | hl
      ·exact hlok l hl
      ·rw[List.mem_singleton.mp hl]; exact ab_ok hz
     ·have trk:truU (.d (.lst (kn.map .str))) S7=.ok true S7:=by
       rw[trk]
       cases kn with
       | nil=>exact absurd rfl kn0
       | cons a t=>rfl
      obtain⟨l,S8,e8,d8,hlz,hlo⟩:=hPl n z kn S7 b7 hz hkn kn0 hknl
      have aN8:=(Dr.of d8).at_ aN7 (by omega)
      have aP8:=(Dr.of d8).at_ aP7 (by omega)
      simp -implicitDefEqProofs only[bind_ok,bind_err,bind_bad,fl_ok,fl_err,fl_bad,seq_nx,seq_rt,seq_err,seq_bk,seq_ct,seq_bad,bodyR_rt,bodyR_nx,bodyR_err,asB_bl,tru_bl,iff_f,iff_t,leU_int,ltU_int,gtU_int,geU_int,subU_int,addU_int,eqU_int,neU_int,tuple_two,mkE_one,c1_one,c2_two,rd0,rdS,norm_d,dat_d,gFl_none,gRs_none,List.set_cons_zero,List.set_cons_succ,Bool.not_true,Bool.not_false,Bool.false_eq_true,↓reduceIte,trk,nF aP7,tyl aP7,b7.norm,e8,hap lays l (by omega) aP8]
      refine⟨i + 1,rest,lays++[l],_,_,_,_,rfl,fun y hy=>hrest y (List.mem_cons_of_mem _ hy),(r7.trans hb (.of d8)).set (by omega),by rw[List.getElem?_set_ne (by omega)]; exact aN8,List.getElem?_set_self (List.getElem?_eq_some_iff.mp aP8).1,fun l' hl=>?_,by rw[List.length_append,hll]; rfl,by omega,rfl⟩
      rcases List.mem_append.mp hl with hl | hl
      ·exact hlok l' hl
      ·rw[List.mem_singleton.mp hl]; exact hlo
  ·rintro ρ S5 ⟨i,rest,lays,v4,v5,v6,v7,hu,hrest,r5,aN5,aP5,hlok,hll,hic,rfl⟩
   cases rest with
   | cons z rest=>rw[List.map_cons,Qy] at hu; cases hu
   | nil =>
    have hll:lays.length=c:=by rw[List.length_nil] at hic; omega
    have b5:=r5.bag hb
    obtain⟨k,S6,e6,d6,hk⟩:=hT n 5 S5 b5 (by decide) (by decide)
    have e6:takeF [.r n,.d (.int 5)] S5=_:=e6
    have r6:Dr n S S6:=r5.trans hb (.of d6)
    have b6:=r6.bag hb
    have aN6:=(Dr.of d6).at_ aN5 (by omega)
    have aP6:=(Dr.of d6).at_ aP5 (by omega)
    simp -implicitDefEqProofs only[bind_ok,bind_err,bind_bad,fl_ok,fl_err,fl_bad,seq_nx,seq_rt,seq_err,seq_bk,seq_ct,seq_bad,bodyR_rt,bodyR_nx,bodyR_err,asB_bl,tru_bl,iff_f,iff_t,leU_int,ltU_int,gtU_int,geU_int,subU_int,addU_int,eqU_int,neU_int,tuple_two,mkE_one,c1_one,c2_two,rd0,rdS,norm_d,dat_d,gFl_none,gRs_none,List.set_cons_zero,List.set_cons_succ,Bool.not_true,Bool.not_false,Bool.false_eq_true,↓reduceIte,b5.norm,e6]
    refine seq_cut (Z:=Ye n S _) (I:=fun ρ S'=>∃ (lays:List Lay) (v8:Option U),Dr n S S'∧S'[S.length + 1]?=some (.lst ((lays.map Lay.d).map .d))∧(∀ l∈lays,l.Ok 3)∧lays.length≤8∧lays ≠ []∧ρ=[some (.r n),some (.r S.length),some (.r (S.length + 1)),v3,v4,v5,v6,v7,v8]) (.inl ?_) ?_
    ·by_cases k0:k=0
     ·have dk:decide (((k:Nat):Int)=0)=true:=decide_eq_true (by omega)
      have lnP:lenU (.r (S.length + 1)) S6=.ok (.d (.int (lays.length:Nat))) S6:=by
       have:=(LstU.cell aP6).len
       rw[List.length_map] at this
       exact this
      obtain⟨j,S7,e7,d7,hj⟩:=hT n ((lays.length:Nat):Int) S6 b6 (by omega) (by omega)
      have r7:Dr n S S7:=r6.trans hb (.of d7)
      have b7:=r7.bag hb
      have aN7:=(Dr.of d7).at_ aN6 (by omega)
      have aP7:=(Dr.of d7).at_ aP6 (by omega)
      obtain⟨x,S8,e8,d8,hx⟩:=hOf n (.d (.lst (ns.map .str))) _ S7 b7 (.of .lst) (fun e=>nomatch e) (by simpa using hn0) (by rw[List.length_map]; omega)
      obtain⟨z,hzn,rfl⟩:=List.mem_map.mp hx
      have r8:Dr n S S8:=r7.trans hb (.of d8)
      have b8:=r8.bag hb
      have aN8:=(Dr.of d8).at_ aN7 (by omega)
      have aP8:=(Dr.of d8).at_ aP7 (by omega)
      have slk:∀ S,slU (.d (.lst (ns.map .str))) none (some 1) S=.ok (.d (.lst ((ns.take 1).map .str))) S:=fun S=>by
       show Res.ok (U.d (.lst (cutL (ns.map D.str) none (some ((1:Nat):Int))))) S=_
       rw[cut_any28,List.map_take]
      obtain⟨l,S9,e9,d9,hlz,hlo⟩:=hPl n z (ns.take 1) S8 b8 (hok z hzn) (fun y hy=>hok y (List.mem_of_mem_take hy)) (by cases ns with | nil=>exact absurd rfl hn0 | cons a t=>simp) (by rw[List.length_take]; omega)
      have aP9:=(Dr.of d9).at_ aP8 (by omega)
      have as1:∀ S,asI (.d (.int 1)) S=.ok (some 1) S:=fun _=>rfl
      have hin:insU (.r (S.length + 1)) [.d (.int (j:Nat)),.d l.d] S9=.ok (.d .non) (S9.set (S.length + 1) (.lst (((lays.take j++[l]++lays.drop j).map Lay.d).map .d))):=by
       have hc:Zf (.r (S.length + 1)) S9=some (S.length + 1,(lays.map Lay.d).map .d):=by unfold Zf; simp only[aP9]
       unfold insU
       rw[hc]
       simp only
       have h1:((lays.map Lay.d).map U.d).length < sizeLine∧(0:Int)≤(j:Int)∧((j:Nat):Int) < 2 ^ 63:=⟨by rw[List.length_map,List.length_map]; exact sz5l (by omega),by omega,by omega⟩
       rw[if_pos h1]
       simp only[Int.toNat_natCast,List.map_append,List.map_take,List.map_drop,List.map_cons,List.map_nil]
      simp -implicitDefEqProofs only[bind_ok,bind_err,bind_bad,fl_ok,fl_err,fl_bad,seq_nx,seq_rt,seq_err,seq_bk,seq_ct,seq_bad,bodyR_rt,bodyR_nx,bodyR_err,asB_bl,tru_bl,iff_f,iff_t,leU_int,ltU_int,gtU_int,geU_int,subU_int,addU_int,eqU_int,neU_int,tuple_two,mkE_one,c1_one,c2_two,rd0,rdS,norm_d,dat_d,gFl_none,gRs_none,List.set_cons_zero,List.set_cons_succ,Bool.not_true,Bool.not_false,Bool.false_eq_true,↓reduceIte,dk,nF aP6,lnP,b6.norm,e7,nF aP7,tyl aP7,b7.norm,nZ aN7,e8,nZ aN8,as1,slk,e9,hin]
      refine⟨_,_,rfl,lays.take j++[l]++lays.drop j,_,(r8.trans hb (.of d9)).set (by omega),List.getElem?_set_self (List.getElem?_eq_some_iff.mp aP9).1,fun l' hl=>?_,by rw[List.length_append,List.length_append,List.length_take,List.length_drop]; show min j lays.length + 1 + (lays.length - j)≤8; omega,by simp,rfl⟩
      rcases List.mem_append.mp hl with hl | hl
      ·rcases List.mem_append.mp hl with hl | hl
       ·exact hlok l' (List.mem_of_mem_take hl)
       ·rw[List.mem_singleton.mp hl]; exact hlo
      ·exact hlok l' (List.mem_of_mem_drop hl)
     ·have dk:decide (((k:Nat):Int)=0)=false:=decide_eq_false (by omega)
      simp -implicitDefEqProofs only[bind_ok,bind_err,bind_bad,fl_ok,fl_err,fl_bad,seq_nx,seq_rt,seq_err,seq_bk,seq_ct,seq_bad,bodyR_rt,bodyR_nx,bodyR_err,asB_bl,tru_bl,iff_f,iff_t,leU_int,ltU_int,gtU_int,geU_int,subU_int,addU_int,eqU_int,neU_int,tuple_two,mkE_one,c1_one,c2_two,rd0,rdS,norm_d,dat_d,gFl_none,gRs_none,List.set_cons_zero,List.set_cons_succ,Bool.not_true,Bool.not_false,Bool.false_eq_true,↓reduceIte,dk]
      exact⟨_,_,rfl,lays,_,r6,aP6,hlok,by omega,(fun e=>by rw[e] at hll; simp at hll; omega),rfl⟩
    ·rintro ρ S7 ⟨lays,v8,r7,aP7,hlok,hl8,hl0,rfl⟩
     have hfz2:frzV [some (.r n),some (.r S.length),some (.r (S.length + 1)),v3,v4,v5,v6,v7,v8] 2 S7=S7.set (S.length + 1) (.frz (.lst (lays.map Lay.d))):=by
      show frzN (S.length + 1) S7=_
      unfold frzN
      simp only[aP7,Q9]
     have aP8:(S7.set (S.length + 1) (.frz (.lst (lays.map Lay.d))))[S.length + 1]?=some (.frz (.lst (lays.map Lay.d))):=List.getElem?_set_self (List.getElem?_eq_some_iff.mp aP7).1
     have nP:norm (S7.set (S.length + 1) (.frz (.lst (lays.map Lay.d)))) (.r (S.length + 1))=.d (.lst (lays.map Lay.d)):=Zx aP8
     have as7:∀ S,asI (.d (.int 7)) S=.ok (some 7) S:=fun _=>rfl
     have slk:∀ S,slU (.d (.lst (lays.map Lay.d))) none (some 7) S=.ok (.d (.lst ((lays.take 7).map Lay.d))) S:=fun S=>by
      show Res.ok (U.d (.lst (cutL (lays.map Lay.d) none (some ((7:Nat):Int))))) S=_
      rw[cut_any28,List.map_take]
     simp -implicitDefEqProofs only[bind_ok,bind_err,bind_bad,fl_ok,fl_err,fl_bad,seq_nx,seq_rt,seq_err,seq_bk,seq_ct,seq_bad,bodyR_rt,bodyR_nx,bodyR_err,asB_bl,tru_bl,iff_f,iff_t,leU_int,ltU_int,gtU_int,geU_int,subU_int,addU_int,eqU_int,neU_int,tuple_two,mkE_one,c1_one,c2_two,rd0,rdS,norm_d,dat_d,gFl_none,gRs_none,List.set_cons_zero,List.set_cons_succ,Bool.not_true,Bool.not_false,Bool.false_eq_true,↓reduceIte,hfz2,nP,as7,slk]
     exact (r7.set (by omega)).z ⟨lays.take 7,rfl,fun l hl=>hlok l (List.mem_of_mem_take hl),by rw[List.length_take]; omega,by cases lays with | nil=>exact absurd rfl hl0 | cons a t=>simp⟩
  ·exact⟨0,ns,[],none,none,none,none,rfl,(fun y hy=>hy),r4,aN4,aP4,(fun l hl=>(List.not_mem_nil hl).elim),rfl,by omega,rfl⟩
 ·exact⟨[],none,r2,aN2,aP2,by rw[Jg,List.length_map,List.length_range]; rfl,(fun y hy=>(List.not_mem_nil hy).elim),rfl⟩
end
end KL
namespace KL
open PySem PySem.Spec PyProof.Rows L2 DL
open He (ga ma)
open TL (tl)
theorem Lay.Ok.upN {m k:Nat} {l:Lay} (h:l.Ok m) (hk:m≤k):l.Ok k:=⟨h.z,h.f,h.f0,Nat.le_trans h.fm hk,h.fd,h.u,h.ud,h.um,h.r,h.rm⟩
theorem known_link (names:List Str) (kl:List Nat) (at_:Nat):∀ (ls:List (List Str × Str)) (i:Nat) {e f:Str} {d:D},(∀ p∈ls,NmS p.2)→i + ls.length≤900→Zd names kl at_ i ls=some (e,f,d)→((e,f)=(("NoTable", "table"):Str × Str)∧∃ z,NmS z∧d=.str z)∨((e,f)=(("BadReference", "index"):Str × Str)∧∃ j:Nat,j < 1000∧d=.int (j:Nat))
 | [],_,_,_,_,_,_,h=>nomatch h
 | p :: r,i,e,f,d,hn,hl,h=>by
  rw[V6] at h
  rw[List.length_cons] at hl
  split at h
  ·cases h; exact .inl ⟨rfl,_,hn p List.mem_cons_self,rfl⟩
  ·split at h
   ·cases h; exact .inr ⟨rfl,i,by omega,rfl⟩
   ·exact known_link names kl at_ r (i + 1) (fun q hq=>hn q (List.mem_cons_of_mem _ hq)) (by omega) h
theorem known_lays (names:List Str) (kl:List Nat):∀ (ls:List Lo) (i:Nat) {e f:Str} {d:D},(∀ l∈ls,l.Ok)→U9 names kl i ls=some (e,f,d)→((e,f)=(("NoTable", "table"):Str × Str)∧∃ z,NmS z∧d=.str z)∨((e,f)=(("BadReference", "index"):Str × Str)∧∃ j:Nat,j < 1000∧d=.int (j:Nat))
 | [],_,_,_,_,_,h=>nomatch h
 | l :: r,i,e,f,d,ho,h=>by
  rw[Xm] at h
  have hl:=ho l List.mem_cons_self
  cases hk:Zd names kl i 0 l.ls with
  | none =>
   rw[hk] at h
   exact known_lays names kl r (i + 1) (fun q hq=>ho q (List.mem_cons_of_mem _ hq)) h
  | some q =>
   rw[hk] at h
   obtain rfl:=Option.some.inj h
   exact known_link names kl i l.ls 0 (fun p hp=>(hl.f.r p hp).2) (by have:=hl.f.rm; omega) hk
theorem tw_mem:∀ {r pre:List Str} {z:Str},twF pre r=some z→z∈r
 | [],_,_,h=>nomatch h
 | x :: r,pre,z,h=>by
  rw[tw_cons] at h
  split at h
  ·cases h; exact List.mem_cons_self
  ·exact List.mem_cons_of_mem _ (tw_mem h)
theorem known_sch {ls:List Lo} (h:∀ l∈ls,l.Ok) {e f:Str} {d:D} (hs:schD ls=some (e,f,d)):(((e,f)=(("Twice", "name"):Str × Str)∧∃ z,NmS z∧d=.str z)∨((e,f)=(("TooMany", "limit"):Str × Str)∧d=.int 6))∨(((e,f)=(("NoTable", "table"):Str × Str)∧∃ z,NmS z∧d=.str z)∨((e,f)=(("BadReference", "index"):Str × Str)∧∃ j:Nat,j < 1000∧d=.int (j:Nat))):=by
 unfold schD at hs
 cases ht:twS (ls.map Lo.z) with
 | some z =>
  rw[ht] at hs
  cases hs
  obtain⟨l,hl,rfl⟩:=List.mem_map.mp (tw_mem ht)
  exact .inl (.inl ⟨rfl,_,(h l hl).f.z,rfl⟩)
 | none =>
  rw[ht] at hs
  simp only at hs
  split at hs
  ·cases hs; exact .inl (.inr ⟨rfl,rfl⟩)
  ·exact .inr (known_lays _ _ ls 0 h hs)
theorem known_v {ls:List Lo} (h:∀ l∈ls,l.Ok):Known (schV ls):=by
 unfold schV
 cases hs:schD ls with
 | none=>exact trivial
 | some p =>
  obtain⟨e,f,d⟩:=p
  show (e,f)∈_
  rcases known_sch h hs with (⟨e1,_⟩ | ⟨e1,_⟩) | ⟨e1,_⟩ | ⟨e1,_⟩<;>rw[e1]<;>simp
theorem pair_gd {e:Str} {d:D} (he:Asc e) (hl:e.length≤20) (hd:WD 202 0 d):GD (.tup [.str e,d]):=by
 refine WD.gd (b:=(202 + 2) * 2 + 3) (p:=1) (wd_tup (b:=202) (p:=0) (m:=2) (fun d hd=>?_) (Nat.le_refl _) (by decide)) (by decide) (by decide)
 simp only[List.mem_cons,List.not_mem_nil,or_false] at hd
 rcases hd with rfl | rfl
 ·exact⟨X7.mpr ⟨he,by omega⟩,by show 10 * e.length + 2≤202; omega,Nat.zero_le _⟩
 ·assumption
theorem due_gd {ls:List Lo} (h:∀ l∈ls,l.Ok):GD (dueV ls):=by
 unfold dueV
 have wn:∀ j:Nat,j < 1000→WD 202 0 (.int (j:Nat)):=fun j hj=>⟨by
  show decide ((j:Int).natAbs < 10 ^ 100)=true
  exact decide_eq_true (Nat.lt_of_lt_of_le (show j < 1000 from hj) (by decide)),(by decide:101≤202),Nat.zero_le _⟩
 cases hs:schD ls with
 | none=>exact WD.gd (b:=4) (p:=0) ⟨rfl,Nat.le_refl _,Nat.le_refl _⟩ (by decide) (by decide)
 | some p =>
  obtain⟨e,f,d⟩:=p
  rcases known_sch h hs with (⟨e1,z,hz,rfl⟩ | ⟨e1,rfl⟩) | ⟨e1,z,hz,rfl⟩ | ⟨e1,j,hj,rfl⟩<;>cases e1
  ·exact pair_gd (by unfold Asc; decide +kernel) (by decide +kernel) ((wd_nm hz).mono (by decide) (by decide))
  ·exact pair_gd (by unfold Asc; decide +kernel) (by decide +kernel) (wn 6 (by decide))
  ·exact pair_gd (by unfold Asc; decide +kernel) (by decide +kernel) ((wd_nm hz).mono (by decide) (by decide))
  ·exact pair_gd (by unfold Asc; decide +kernel) (by decide +kernel) (wn j hj)
theorem ne_self {x:D} (h:GD x) (S:Qa):neU (.d x) (.d x) S=.ok (.d (.bl false)) S:=by
 have ho:=h.ok
 show (if okD x=true∧okD x=true then Res.ok (U.d (.bl (!PyData.eqv x.py x.py))) S else .bad)=_
 rw[if_pos ⟨ho,ho⟩,h.gd.refl]
 rfl
section
variable {P:Program} {w:World} {K:PySem.W.Frag} {mg:Str→Option Value} {base:Heap}
theorem Zq:FnScope ["_law_script", "_law_at", "_law_bag_here", "_law_turn", "_law_plains_here", "_law_due_here", "_law_names", "_law_plain_here", "_law_new", "_law_changed", "_law_schema"] ["_law_script"] (defScope s_law):=⟨rfl,rfl,rfl,by decide +kernel,rfl,by decide +kernel,by decide +kernel⟩
theorem dk_law (T:Txt P K mg) (TB:∀ p∈tabsK K ["law"],LamX.TabB base mg p.1 p.2.1):FM P w K mg base 15 "law" ["_law_script"] (F1 (lawFT (tabsK K ["law"]))):=by
 obtain⟨c0,Pt,tb⟩:=tabs_at T.tabs (x := "law") List.mem_cons_self
 have et:=tabs1 tb
 rw[et] at TB
 rw[et]
 have TB_law:LamX.TabB base mg c0 Pt:=TB _ List.mem_cons_self
 obtain⟨bagF,F_law_bag,hB⟩:=dk_bag (w:=w) (base:=base) T
 obtain⟨ofF,F_law_of,hOf⟩:=dk_of (w:=w) (base:=base) T
 obtain⟨nameF,F_law_name,hNm⟩:=dk_name (w:=w) (base:=base) T
 obtain⟨Xh,F_law_plain,hPl⟩:=dk_plain (w:=w) (base:=base) T
 obtain⟨plainsF,F_law_plains,hPs⟩:=dk_plains (w:=w) (base:=base) T
 obtain⟨makeF,F_law_make,hM⟩:=dk_make (w:=w) (base:=base) T
 obtain⟨schemaF,F_law_schema_of,hSc⟩:=dk_schema_of (w:=w) (base:=base) T
 obtain⟨dueF,F_law_due,hDu⟩:=dk_due (w:=w) (base:=base) T
 obtain⟨cl,L_law_raised,hTl⟩:=dk_raised (w:=w) (base:=base) T
 obtain⟨orF,B_Schema,hOr⟩:=dk_or (w:=w) (base:=base) T
 obtain⟨seqF,E_Schema,hE1,hE2⟩:=dk_seq (w:=w) (base:=base) T
 refine okM_T tb T.F_law Zq (fun _ _ _ _ _ _ us hl=>match us,hl with | [_],_=>rfl) F1.len (fun cdv A outer s H E hcode hA hr=>(Qh (Jp (passes_of rfl) rfl (Yh T.m_range (Qc (Qo (cd_max rfl) T.m_max (Qc Qi (Qc (Qo (cd_min rfl) T.m_min (Qc Qi (Qc (Qo Jk T.m_len (Qc (Qe 0 (pv 0)) Qg)) Qg))) Qg))) Qg)) (Qn (i:=1) Zq.nd rfl (by first | exact Or.inl rfl | exact Or.inr rfl)) (Qh (Q6 (i:=2) Zq.nd rfl (by first | exact Or.inl rfl | exact Or.inr rfl) (Qp hA F_law_bag (hr.mono (by decide)) (takes_of rfl rfl rfl rfl) (Qc (Qe 0 (pv 0)) (Qc (Qe 1 (pv 1)) Qg))))
 (Ql (Jp (passes_of rfl) rfl (Yh T.m_range (Qc Qi Qg)) (Qn (i:=3) Zq.nd rfl (by first | exact Or.inl rfl | exact Or.inr rfl)) (Qh (Q6 (i:=4) Zq.nd rfl (by first | exact Or.inl rfl | exact Or.inr rfl) (Qp hA F_law_plains (hr.mono (by decide)) (takes_of rfl rfl rfl rfl) (Qc (Qe 2 (pv 2)) Qg)))
 (Qh (Q6 (i:=5) Zq.nd rfl (by first | exact Or.inl rfl | exact Or.inr rfl) (Qp hA F_law_due (hr.mono (by decide)) (takes_of rfl rfl rfl rfl) (Qc (Qe 4 (pv 4)) Qg)))
 (Qh (Q5 (Qt (od_ne hr) (pd_lamQ (n:=0) (q:=lamQ "law") hA (L_law_raised _) hr TB_law hcode (by show (("law" : Str) ++ ".<locals>.") ++ "<lambda>" = lamQ "law"; decide +kernel) (LamX.lamS_by (by show LamX.lamSB (defScope s_law) _=true; decide +kernel)) (by rfl) (by exact fun _ _ _ _ _=>rfl) (by exact fun A outer s H E f c1 hA hr=>(Qp hA F_law_schema_of (hr.mono (by decide)) (takes_of rfl rfl rfl rfl) (Qc (Qe 4 (pv 4)) Qg)))) (Qe 5 (pv 5)) (nomark _)) (Ql (Qs pd_bl)) Qq)
 (Ql (Q5 (Qt od_is (Qe 5 (pv 5)) pd_non (nomark _)) (Qh (Z8 (i:=6) (own:=[("_law_plain_here",7)]) rfl Zq.nd rfl rfl (sw_true rfl rfl rfl (by decide +kernel)) (Yw (Qe 4 (pv 4))) (blkOk_by (own:=[("_law_plain_here",7)]) (N:=["_law_script", "_law_at", "_law_bag_here", "_law_turn", "_law_plains_here", "_law_due_here", "_law_names", "_law_plain_here", "_law_new", "_law_changed", "_law_schema"]) (sc:=defScope s_law) (by decide +kernel)) (by decide) (fun _ _ _ _ _=>(Qn (i:=7) Zq.nd rfl (by first | exact Or.inl rfl | exact Or.inr rfl))) (fun _ _ _ _ _=>J8) (fun _ _ _ _ _=>(Qw ixd (Qe 7 (pv 7)) Qi)))
 (Qh (Q6 (i:=8) Zq.nd rfl (by first | exact Or.inl rfl | exact Or.inr rfl) (Qp hA F_law_plain (hr.mono (by decide)) (takes_of rfl rfl rfl rfl) (Qc (Qe 2 (pv 2)) (Qc (Qp hA F_law_of (hr.mono (by decide)) (takes_of rfl rfl rfl rfl) (Qc (Qe 2 (pv 2)) (Qc (Je Yd (Qe 6 (pv 6)) (Xb (Qc (Qp hA F_law_name (hr.mono (by decide)) (takes_of rfl rfl rfl rfl) (Qc (Qe 2 (pv 2)) (Qc (Qe 6 (pv 6)) (Qc (Xb Qg) Qg)))) Qg))) Qg))) (Qc (Qe 6 (pv 6)) Qg)))))
 (Qh (Z8 (i:=9) (own:=[("_law_plain_here",7)]) rfl Zq.nd rfl rfl (sw_true rfl rfl rfl (by decide +kernel)) (Yw (Qe 4 (pv 4))) (blkOk_by (own:=[("_law_plain_here",7)]) (N:=["_law_script", "_law_at", "_law_bag_here", "_law_turn", "_law_plains_here", "_law_due_here", "_law_names", "_law_plain_here", "_law_new", "_law_changed", "_law_schema"]) (sc:=defScope s_law) (by decide +kernel)) (by decide) (fun _ _ _ _ _=>(Qn (i:=7) Zq.nd rfl (by first | exact Or.inl rfl | exact Or.inr rfl))) (fun _ _ _ _ _=>J8) (fun _ _ _ _ _=>(Uy (Qt (od_eqAny hA T.eq_Schema E_Schema (hr.mono (by decide))) (Qw ixd (Qe 7 (pv 7)) Qi) (Qw ixd (Qe 8 (pv 8)) Qi) (nomark _)) (Qe 8 (pv 8)) (Qe 7 (pv 7)))))
 (Qh (Q5 (Qt (X6 hr) (Qw ixd (Qe 8 (pv 8)) Qi) (Qe 6 (pv 6)) (by rfl)) (Ql (Q6 (i:=9) Zq.nd rfl (by first | exact Or.inl rfl | exact Or.inr rfl) (Je Yd (Qe 4 (pv 4)) (Xb (Qc (Qe 8 (pv 8)) Qg))))) Qq)
 (Qh (Q6 (i:=10) Zq.nd rfl (by first | exact Or.inl rfl | exact Or.inr rfl) (Qp hA F_law_schema_of (hr.mono (by decide)) (takes_of rfl rfl rfl rfl) (Qc (Qe 4 (pv 4)) Qg)))
 (Qh (Q5 (Qt (od_ne hr) (pd_lamQ (n:=0) (q:=lamQ "law") hA (L_law_raised _) hr TB_law hcode (by show (("law" : Str) ++ ".<locals>.") ++ "<lambda>" = lamQ "law"; decide +kernel) (LamX.lamS_by (by show LamX.lamSB (defScope s_law) _=true; decide +kernel)) (by rfl) (by exact fun _ _ _ _ _=>rfl) (by exact fun A outer s H E f c1 hA hr=>(pd_bin (c := "Schema") (c2 := "Layout") hA T.or_Schema B_Schema (hr.mono (by decide)) (takes_of rfl rfl rfl rfl) (Qe 10 (pv 10)) (Qp hA F_law_make (hr.mono (by decide)) (takes_of rfl rfl rfl rfl) (Qc (Qe 8 (pv 8)) Qg))))) (Qp hA F_law_due (hr.mono (by decide)) (takes_of rfl rfl rfl rfl) (Qc (Qe 9 (pv 9)) Qg)) (nomark _)) (Ql (Qs pd_bl)) Qq)
 (Ql (Q5 (Y5 (Qt (od_eqAny hA T.eq_Schema E_Schema (hr.mono (by decide))) (Qe 10 (pv 10)) (Qp hA F_law_schema_of (hr.mono (by decide)) (takes_of rfl rfl rfl rfl) (Qc (Qe 4 (pv 4)) Qg)) (nomark _))) (Ql (Qs pd_bl)) Qq)))))))) Qq)))))))))
 (Ql (Qs pd_bl)))) (fun us S hl=>?_)
 match us,hl with
 | [u],_ =>
  show Qx S (lawFT _ u S) _
  unfold lawFT
  split
  ·rename_i ds _
   refine Z7 fun ⟨hS,is,hi⟩=>?_
   subst hi
   have aT:S[0]?=some (.tab Pt (lamQ "law")):=by rw[hS]; rfl
   have hSl:0 < S.length:=(List.getElem?_eq_some_iff.mp aT).1
   clear hS
   rw[show Q3 (["_law_script", "_law_at", "_law_bag_here", "_law_turn", "_law_plains_here", "_law_due_here", "_law_names", "_law_plain_here", "_law_new", "_law_changed", "_law_schema"]:List Str).length [U.d (.lst (is.map .int))]=[some (.d (.lst (is.map .int))),none,none,none,none,none,none,none,none,none,none] from rfl]
   have tru:∀ (b:Bool) S,truU (.d (.bl b)) S=.ok b S:=fun b S=>rfl
   have hmin:∀ S,min2U (.d (.int 4)) (.d (.int ((is.length:Nat):Int))) S=.ok (.d (.int (if ((is.length:Nat):Int) < 4 then ((is.length:Nat):Int) else 4))) S:=fun S=>rfl
   obtain⟨m,hm,hm4⟩ : ∃ m:Nat,(if (if ((is.length:Nat):Int) < 4 then ((is.length:Nat):Int) else 4) > 1 then (if ((is.length:Nat):Int) < 4 then ((is.length:Nat):Int) else 4) else 1)=(m:Int)∧m≤4:=by
    by_cases h:((is.length:Nat):Int) < 4
    ·rw[if_pos h]
     by_cases h':((is.length:Nat):Int) > 1
     ·exact⟨is.length,if_pos h',by omega⟩
     ·exact⟨1,if_neg h',by decide⟩
    ·exact⟨4,by rw[if_neg h]; rfl,by decide⟩
   have hmax:∀ S,max2U (.d (.int 1)) (.d (.int (if ((is.length:Nat):Int) < 4 then ((is.length:Nat):Int) else 4))) S=.ok (.d (.int (m:Int))) S:=fun S=>by
    show Res.ok (U.d (.int _)) S=_
    rw[hm]
   have hrg:∀ (m:Nat) (S:Qa),m≤1000→Xc [.d (.int (m:Int))] S=.ok ⟨Jg 0 m,none⟩ S:=fun m S h=>Zj S (by omega)
   have lnI:∀ S,c1 lenU [.d (.lst (is.map .int))] S=.ok (.d (.int ((is.length:Nat):Int))) S:=fun S=>by
    show Res.ok (U.d (.int ((is.map D.int).length:Nat))) S=_
    rw[List.length_map]
   have itl:∀ (ds:List D) S,Z6 (.d (.lst ds)) S=.ok ⟨ds.map .d,none⟩ S:=fun _ _=>rfl
   simp -implicitDefEqProofs only[bind_ok,bind_err,bind_bad,fl_ok,fl_err,fl_bad,seq_nx,seq_rt,seq_err,seq_bk,seq_ct,seq_bad,bodyR_rt,bodyR_nx,bodyR_err,asB_bl,tru_bl,iff_f,iff_t,leU_int,ltU_int,gtU_int,geU_int,subU_int,addU_int,eqU_int,neU_int,tuple_two,mkE_one,c1_one,c2_two,rd0,rdS,norm_d,dat_d,gFl_none,gRs_none,List.set_cons_zero,List.set_cons_succ,Bool.not_true,Bool.not_false,Bool.false_eq_true,↓reduceIte,lnI,hmin,hmax,hrg m _ (by omega)]
   refine loopS (K:=fun f=>Qx S _ (Jc (f.seq _))) (I:=fun us ρ S'=>∃ (g:Qa) (i:Nat) (v1 v2 v3 v4 v5 v6 v7 v8 v9 v10:Option U),S'=S++g∧us=(List.range' i (m - i)).map (fun j=>U.d (.int (0 + (j:Nat))))∧i≤m ∧
    ρ=[some (.d (.lst (is.map .int))),v1,v2,v3,v4,v5,v6,v7,v8,v9,v10]) ?_ ?_ ?_
   ·rintro t us ρ S' ⟨g,i,v1,v2,v3,v4,v5,v6,v7,v8,v9,v10,rfl,hus,him,rfl⟩
    have hi':i < m:=by
     rcases Nat.lt_or_ge i m with h | h
     ·exact h
     ·rw[show m - i=0 by omega] at hus; cases hus
    rw[show m - i=(m - (i + 1)) + 1 by omega,List.range'_succ,List.map_cons] at hus
    simp only[List.cons.injEq] at hus
    obtain⟨rfl,rfl⟩:=hus
    refine⟨_,_,rfl,?_⟩
    obtain⟨c,e1,hc⟩:=hB is i (S++g) (by omega)
    have hz:(0:Int) + ((i:Nat):Int)=((i:Nat):Int):=by omega
    have bag1:Bag (S++g++[c]) (S++g).length:=⟨c,Jm _ _,hc⟩
    have hle:S.length≤(S++g).length:=by rw[List.length_append]; omega
    have hpre:S++g++[c]=S++(g++[c]):=List.append_assoc ..
    have aT1:(S++g++[c])[0]?=some (.tab Pt (lamQ "law")):=by rw[hpre,List.getElem?_append_left hSl]; exact aT
    generalize hn:(S++g).length=n at *
    generalize hS1:S++g++[c]=S1 at *
    have hnlt:=bag1.lt
    have rg6:∀ S,Xc [.d (.int 6)] S=.ok ⟨Jg 0 6,none⟩ S:=fun S=>Zj S (by decide)
    simp -implicitDefEqProofs only[bind_ok,bind_err,bind_bad,fl_ok,fl_err,fl_bad,seq_nx,seq_rt,seq_err,seq_bk,seq_ct,seq_bad,bodyR_rt,bodyR_nx,bodyR_err,asB_bl,tru_bl,iff_f,iff_t,leU_int,ltU_int,gtU_int,geU_int,subU_int,addU_int,eqU_int,neU_int,tuple_two,mkE_one,c1_one,c2_two,rd0,rdS,norm_d,dat_d,gFl_none,gRs_none,List.set_cons_zero,List.set_cons_succ,Bool.not_true,Bool.not_false,Bool.false_eq_true,↓reduceIte,hz,e1,rg6]
    refine loopS (K:=fun f=>StepPo _ _ f) (I:=fun us ρ S'=>Dr n S1 S'∧∃ (v3 v4 v5 v6 v7 v8 v9 v10:Option U),ρ=[some (.d (.lst (is.map .int))),some (.d (.int ((i:Nat):Int))),some (.r n),v3,v4,v5,v6,v7,v8,v9,v10]) ?_ ?_ ?_
    ·rintro u us ρ S2 ⟨q2,v3,v4,v5,v6,v7,v8,v9,v10,rfl⟩
     refine⟨_,_,rfl,?_⟩
     have b2:=q2.bag bag1
     obtain⟨lays,S3,e3,d3,hok,hl7,hl0⟩:=hPs n S2 b2
     have q3:Dr n S1 S3:=q2.trans bag1 (.of d3)
     have b3:=q3.bag bag1
     have aT3:S3[0]?=some (.tab Pt (lamQ "law")):=q3.get (by omega) aT1
     have hfit:∀ l∈lays,l.Fit:=fun l hl=>((hok l hl).upN (show 3≤5 by decide)).fit
     have hlo:∀ l∈lays.map Lay.lo,l.Ok:=fun l hl=>by
      obtain⟨q,hq,rfl⟩:=List.mem_map.mp hl
      exact (hfit q hq).lo
     have e4:∀ S,dueF [.d (.lst (lays.map Lay.d))] S=.ok (.d (dueV (lays.map Lay.lo))) S:=fun S=>hDu lays S ⟨fun l hl=>hlo _ (List.mem_map.mpr ⟨l,hl,rfl⟩),by omega⟩
     have e5:∀ S,schemaF [.d (.lst (lays.map Lay.d))] S=(schV (lays.map Lay.lo)).res S:=fun S=>hSc lays S ⟨hfit,hl7⟩
     have tl1:∀ S,Ur (tellU false errN cl 2 ((schV (lays.map Lay.lo)).res S))=.ok (.d (dueV (lays.map Lay.lo))) S:=fun S=>by rw[hTl _ S (known_v hlo),due_told]
     have gd1:=due_gd hlo
     simp -implicitDefEqProofs only[bind_ok,bind_err,bind_bad,fl_ok,fl_err,fl_bad,seq_nx,seq_rt,seq_err,seq_bk,seq_ct,seq_bad,bodyR_rt,bodyR_nx,bodyR_err,asB_bl,tru_bl,iff_f,iff_t,leU_int,ltU_int,gtU_int,geU_int,subU_int,addU_int,eqU_int,neU_int,tuple_two,mkE_one,c1_one,c2_two,rd0,rdS,norm_d,dat_d,gFl_none,gRs_none,List.set_cons_zero,List.set_cons_succ,Bool.not_true,Bool.not_false,Bool.false_eq_true,↓reduceIte,b2.norm,e3,e4,e5,tabU_at aT3 rfl,tl1,ne_self gd1]
     cases hsd:schD (lays.map Lay.lo) with
     | some p =>
      obtain⟨e,f,d⟩:=p
      have hd:dueV (lays.map Lay.lo)=.tup [.str e,d]:=by unfold dueV; rw[hsd]
      have isn:∀ S,isU false (.d (.tup [.str e,d])) (.d .non) S=.ok (.d (.bl false)) S:=fun _=>rfl
      rw[hd]
      simp -implicitDefEqProofs only[bind_ok,bind_err,bind_bad,fl_ok,fl_err,fl_bad,seq_nx,seq_rt,seq_err,seq_bk,seq_ct,seq_bad,bodyR_rt,bodyR_nx,bodyR_err,asB_bl,tru_bl,iff_f,iff_t,leU_int,ltU_int,gtU_int,geU_int,subU_int,addU_int,eqU_int,neU_int,tuple_two,mkE_one,c1_one,c2_two,rd0,rdS,norm_d,dat_d,gFl_none,gRs_none,List.set_cons_zero,List.set_cons_succ,Bool.not_true,Bool.not_false,Bool.false_eq_true,↓reduceIte,isn]
      exact⟨q3,_,_,_,_,_,_,_,_,rfl⟩
     | none =>
      have hd:dueV (lays.map Lay.lo)=.non:=by unfold dueV; rw[hsd]
      have hv:schV (lays.map Lay.lo)=.ok (schO (lays.map Lay.lo)):=by unfold schV; rw[hsd]
      have isn:∀ S,isU false (.d .non) (.d .non) S=.ok (.d (.bl true)) S:=fun _=>rfl
      rw[hd]
      have e6:∀ S,schemaF [.d (.lst (lays.map Lay.d))] S=.ok (.d (schO (lays.map Lay.lo))) S:=fun S=>by rw[e5,hv]; rfl
      have x0:∀ (l:Lay) S,ixU (.d l.d) (.d (.int 0)) S=.ok (.d (.str l.z)) S:=fun _ _=>rfl
      have w7:∀ v6 v7 v8 v9 v10,Yn [some (.d (.lst (is.map .int))),some (.d (.int ((i:Nat):Int))),some (.r n),some u,some (.d (.lst (lays.map Lay.d))),some (.d .non),v6,v7,v8,v9,v10] (List.map (fun x=>x.snd) [(Str.ofString "_law_plain_here",7)])=[some (.d (.lst (is.map .int))),some (.d (.int ((i:Nat):Int))),some (.r n),some u,some (.d (.lst (lays.map Lay.d))),some (.d .non),v6,none,v8,v9,v10]:=fun _ _ _ _ _=>rfl
      have lc1:∀ v6 v8 v9 v10 S,lcU none (fun u ρ S=>Res.ok (List.set ρ 7 (some u)) S) (fun x S=>Res.ok true S) (fun ρ S=>(rdV ρ 7 S).bind fun x S=>ixU x (U.d (D.int 0)) S) [some (.d (.lst (is.map .int))),some (.d (.int ((i:Nat):Int))),some (.r n),some u,some (.d (.lst (lays.map Lay.d))),some (.d .non),v6,none,v8,v9,v10] ((lays.map Lay.d).map U.d) [] S=.ok (((lays.map Lay.z).map D.str).map U.d) S:=fun v6 v8 v9 v10 S=>by
       rw[show (lays.map Lay.d).map U.d=lays.map (U.d ∘ Lay.d) from List.map_map ..,Vz (g:=none) trivial (U.d ∘ Lay.d) (fun l=>U.d (.str l.z)) lays []]
       ·rw[List.nil_append,List.map_map,List.map_map]; rfl
       ·intro l hl
        exact⟨_,rfl,rfl⟩
       ·show 0 + lays.length≤sizeLine
        exact sz10 (by omega)
      have mkn:∀ S,mkL (((lays.map Lay.z).map D.str).map U.d) S=.ok (.d (.lst ((lays.map Lay.z).map .str))) S:=fun S=>mkL_d (by rw[List.length_map,List.length_map]; omega) S
      have nmo:∀ z∈lays.map Lay.z,NmS z:=fun z hz=>by
       obtain⟨l,hl,rfl⟩:=List.mem_map.mp hz
       exact (hok l hl).z
      have nml:(lays.map Lay.z).length≤7:=by rw[List.length_map]; exact hl7
      have nm0:lays.map Lay.z ≠ []:=fun e=>hl0 (List.map_eq_nil_iff.mp e)
      obtain⟨y,S4,e7,d4,hy,_⟩:=hNm n (.d (.lst ((lays.map Lay.z).map .str))) (.d (.lst (([]:List Str).map .str))) (lays.map Lay.z) [] S3 b3 ⟨.lst,(fun h=>nomatch h),nmo,by omega⟩ ⟨.lst,(fun h=>nomatch h),(fun y hy=>(List.not_mem_nil hy).elim),by decide⟩
      have q4:Dr n S1 S4:=q3.trans bag1 (.of d4)
      have b4:=q4.bag bag1
      have mkl0:∀ S,mkL [] S=.ok (.d (.lst (([]:List Str).map .str))) S:=fun _=>rfl
      have mky:∀ S,mkL [.d (.str y)] S=.ok (.d (.lst (([y]:List Str).map .str))) S:=fun _=>rfl
      have ad1:∀ S,addU (.d (.lst ((lays.map Lay.z).map .str))) (.d (.lst (([y]:List Str).map .str))) S=.ok (.d (.lst ((lays.map Lay.z++[y]).map .str))) S:=fun S=>by
       rw[addU_lst (by rw[List.length_map]; show (lays.map Lay.z).length + 1≤1000; omega),← List.map_append]
      obtain⟨zd,S5,e8,d5,hzd⟩:=hOf n (.d (.lst ((lays.map Lay.z++[y]).map .str))) _ S4 b4 (.of .lst) (fun h=>nomatch h) (by simp) (by rw[List.length_map,List.length_append]; show (lays.map Lay.z).length + 1≤1000; omega)
      obtain⟨z,hz2,rfl⟩:=List.mem_map.mp hzd
      have hzn:NmS z:=by
       rcases List.mem_append.mp hz2 with h | h
       ·exact nmo z h
       ·rw[List.mem_singleton.mp h]; exact hy
      have q5:Dr n S1 S5:=q4.trans bag1 (.of d5)
      have b5:=q5.bag bag1
      obtain⟨nl,S6,e9,d6,hnz,hno⟩:=hPl n z (lays.map Lay.z) S5 b5 hzn nmo nm0 (by omega)
      have q6:Dr n S1 S6:=q5.trans bag1 (.of d6)
      have b6:=q6.bag bag1
      have aT6:S6[0]?=some (.tab Pt (lamQ "law")):=q6.get (by omega) aT1
      have hnf:nl.Fit:=(hno.upN (show 3≤5 by decide)).fit
      have lc2:∀ v6 v8 v9 v10 S,v8=some (.d nl.d)→lcU none (fun u ρ S=>Res.ok (List.set ρ 7 (some u)) S) (fun x S=>Res.ok true S) (fun ρ S=>(((rdV ρ 7 S).bind fun x S=>ixU x (U.d (D.int 0)) S).bind fun x S=>((rdV ρ 8 S).bind fun x S=>ixU x (U.d (D.int 0)) S).bind fun y S=>(eqAny (Str.ofString "Schema") seqF x y S).bind asB).bind fun k S=>if k=true then rdV ρ 8 S else rdV ρ 7 S) [some (.d (.lst (is.map .int))),some (.d (.int ((i:Nat):Int))),some (.r n),some u,some (.d (.lst (lays.map Lay.d))),some (.d .non),v6,none,v8,v9,v10] ((lays.map Lay.d).map U.d) [] S=.ok (((lays.map fun l=>if l.z=nl.z then nl else l).map Lay.d).map U.d) S:=fun v6 v8 v9 v10 S h8=>by
       subst h8
       rw[show (lays.map Lay.d).map U.d=lays.map (U.d ∘ Lay.d) from List.map_map ..,Vz (g:=none) trivial (U.d ∘ Lay.d) (fun l=>U.d (if l.z=nl.z then nl else l).d) lays []]
       ·rw[List.nil_append,List.map_map,List.map_map]; rfl
       ·intro l hl
        refine⟨_,rfl,?_⟩
        have hq:eqAny (Str.ofString "Schema") seqF (.d (.str l.z)) (.d (.str nl.z)) S=.ok (.d (.bl (decide (l.z=nl.z)))) S:=eqU_txt _ _ _
        by_cases hzz:l.z=nl.z
        ·rw[decide_eq_true hzz] at hq
         simp! [Function.comp,x0,hq,if_pos hzz]
        ·rw[decide_eq_false hzz] at hq
         simp! [Function.comp,x0,hq,if_neg hzz]
       ·show 0 + lays.length≤sizeLine
        exact sz10 (by omega)
      generalize hch:(lays.map fun l=>if l.z=nl.z then nl else l)=chg at lc2
      have hcl:chg.length≤7:=by rw[← hch,List.length_map]; exact hl7
      have hcf:∀ l∈chg,l.Fit:=fun l hl=>by
       rw[← hch] at hl
       obtain⟨q,hq,rfl⟩:=List.mem_map.mp hl
       split
       ·exact hnf
       ·exact hfit q hq
      have mkc:∀ S,mkL ((chg.map Lay.d).map U.d) S=.ok (.d (.lst (chg.map Lay.d))) S:=fun S=>mkL_d (by rw[List.length_map]; omega) S
      have hin:∀ S,inU true (.d (.str nl.z)) (.d (.lst ((lays.map Lay.z).map .str))) S=.ok (.d (.bl (inB true (decide (nl.z∈lays.map Lay.z))))) S:=fun S=>Uo (neg:=true) hno.z.asc (fun z hz=>(nmo z hz).asc) S
      simp -implicitDefEqProofs only[bind_ok,bind_err,bind_bad,fl_ok,fl_err,fl_bad,seq_nx,seq_rt,seq_err,seq_bk,seq_ct,seq_bad,bodyR_rt,bodyR_nx,bodyR_err,asB_bl,tru_bl,iff_f,iff_t,leU_int,ltU_int,gtU_int,geU_int,subU_int,addU_int,eqU_int,neU_int,tuple_two,mkE_one,c1_one,c2_two,rd0,rdS,norm_d,dat_d,gFl_none,gRs_none,List.set_cons_zero,List.set_cons_succ,Bool.not_true,Bool.not_false,Bool.false_eq_true,↓reduceIte,isn,itl,w7,lc1,mkn,b3.norm,mkl0,e7,mky,ad1,b4.norm,e8,b5.norm,e9,lc2,mkc,x0,hin]
      -- which layouts are behind the change
      have zz:(lays.map Lay.lo).map Lo.z=lays.map Lay.z:=by rw[List.map_map]; rfl
      have hcm:chg.map Lay.lo=(lays.map Lay.lo).map fun q=>if q.z=nl.lo.z then nl.lo else q:=by
       rw[← hch,List.map_map,List.map_map]
       refine List.map_congr_left fun l hl=>?_
       show (if l.z=nl.z then nl else l).lo=if l.z=nl.z then nl.lo else l.lo
       split<;>rfl
      refine step_case (Q:=StepPo _ _) (I:=fun ρ S'=>S'=S6∧∃ ch:List Lay,(∀ l∈ch,l.Fit)∧ch.length≤8∧ch.map Lay.lo=orL (lays.map Lay.lo) nl.lo∧ρ=[some (.d (.lst (is.map .int))),some (.d (.int ((i:Nat):Int))),some (.r n),some u,some (.d (.lst (lays.map Lay.d))),some (.d .non),some (.d (.lst ((lays.map Lay.z).map .str))),v7,some (.d nl.d),some (.d (.lst (ch.map Lay.d))),v10]) ?_ ?_
      ·by_cases hm:nl.z∈lays.map Lay.z
       ·have hb1:inB true (decide (nl.z∈lays.map Lay.z))=false:=by rw[decide_eq_true hm]; rfl
        rw[hb1]
        simp -implicitDefEqProofs only[bind_ok,bind_err,bind_bad,fl_ok,fl_err,fl_bad,seq_nx,seq_rt,seq_err,seq_bk,seq_ct,seq_bad,bodyR_rt,bodyR_nx,bodyR_err,asB_bl,tru_bl,iff_f,iff_t,leU_int,ltU_int,gtU_int,geU_int,subU_int,addU_int,eqU_int,neU_int,tuple_two,mkE_one,c1_one,c2_two,rd0,rdS,norm_d,dat_d,gFl_none,gRs_none,List.set_cons_zero,List.set_cons_succ,Bool.not_true,Bool.not_false,Bool.false_eq_true,↓reduceIte]
        refine⟨_,_,rfl,rfl,chg,hcf,by omega,?_,rfl⟩
        unfold orL
        rw[zz,if_pos (show nl.lo.z∈lays.map Lay.z from hm),List.append_nil,hcm]
       ·have hb1:inB true (decide (nl.z∈lays.map Lay.z))=true:=by rw[decide_eq_false hm]; rfl
        have mk1:∀ S,mkL [.d nl.d] S=.ok (.d (.lst [nl.d])) S:=fun _=>rfl
        have ad2:∀ S,addU (.d (.lst (lays.map Lay.d))) (.d (.lst [nl.d])) S=.ok (.d (.lst ((lays++[nl]).map Lay.d))) S:=fun S=>by
         rw[addU_lst (by rw[List.length_map]; show lays.length + 1≤1000; omega),List.map_append]
         rfl
        rw[hb1]
        simp -implicitDefEqProofs only[bind_ok,bind_err,bind_bad,fl_ok,fl_err,fl_bad,seq_nx,seq_rt,seq_err,seq_bk,seq_ct,seq_bad,bodyR_rt,bodyR_nx,bodyR_err,asB_bl,tru_bl,iff_f,iff_t,leU_int,ltU_int,gtU_int,geU_int,subU_int,addU_int,eqU_int,neU_int,tuple_two,mkE_one,c1_one,c2_two,rd0,rdS,norm_d,dat_d,gFl_none,gRs_none,List.set_cons_zero,List.set_cons_succ,Bool.not_true,Bool.not_false,Bool.false_eq_true,↓reduceIte,mk1,ad2]
        refine⟨_,_,rfl,rfl,lays++[nl],fun l hl=>?_,by rw[List.length_append]; show lays.length + 1≤8; omega,?_,rfl⟩
        ·rcases List.mem_append.mp hl with hl | hl
         ·exact hfit l hl
         ·rw[List.mem_singleton.mp hl]; exact hnf
        ·unfold orL
         rw[zz,if_neg (show ¬ nl.lo.z∈lays.map Lay.z from hm),List.map_append]
         congr 1
         rw[List.map_congr_left (g:=id) fun q hq=>by
          obtain⟨l,hl,rfl⟩:=List.mem_map.mp hq
          exact (if_neg fun e=>hm (List.mem_map.mpr ⟨l,hl,e⟩):(if l.lo.z=nl.lo.z then nl.lo else l.lo)=l.lo)]
         exact (List.map_id _).symm
      ·rintro ρ S7 ⟨rfl,ch,hchf,hchl,hcho,rfl⟩
       have hchk:∀ l∈ch.map Lay.lo,l.Ok:=fun l hl=>by
        obtain⟨q,hq,rfl⟩:=List.mem_map.mp hl
        exact (hchf q hq).lo
       have e10:∀ S,dueF [.d (.lst (ch.map Lay.d))] S=.ok (.d (dueV (ch.map Lay.lo))) S:=fun S=>hDu ch S ⟨fun l hl=>(hchf l hl).lo,by omega⟩
       have em:∀ S,makeF [.d nl.d] S=.ok (.d nl.lo.d) S:=fun S=>hM nl S hnf
       have eor:∀ S,binU (Str.ofString "Schema") (Str.ofString "Layout") orF (.d (schO (lays.map Lay.lo))) (.d nl.lo.d) S=(schV (ch.map Lay.lo)).res S:=fun S=>by
        rw[hcho]
        exact hOr (lays.map Lay.lo,nl.lo) S ⟨hlo,hnf.lo,by rw[List.length_map]; omega⟩
       have tl2:∀ S,Ur (tellU false errN cl 2 ((schV (ch.map Lay.lo)).res S))=.ok (.d (dueV (ch.map Lay.lo))) S:=fun S=>by rw[hTl _ S (known_v hchk),due_told]
       have gd2:=due_gd hchk
       have eqSch:∀ S,eqAny (Str.ofString "Schema") seqF (.d (schO (lays.map Lay.lo))) (.d (schO (lays.map Lay.lo))) S=.ok (.d (.bl true)) S:=fun S=>by
        show noErr (eqOwnU _ _ _ _ S)=_
        have e:=hE1 (lays.map Lay.lo) (lays.map Lay.lo) S hlo hlo
        rw[eqLos_refl hlo] at e
        unfold eqOwnU
        show noErr (if ("Schema" : Str) = "Schema" then _ else _)=_
        rw[if_pos rfl]
        show noErr (seqF [.d (schO (lays.map Lay.lo)),.d (schO (lays.map Lay.lo))] S)=_
        rw[e]
        rfl
       simp -implicitDefEqProofs only[bind_ok,bind_err,bind_bad,fl_ok,fl_err,fl_bad,seq_nx,seq_rt,seq_err,seq_bk,seq_ct,seq_bad,bodyR_rt,bodyR_nx,bodyR_err,asB_bl,tru_bl,iff_f,iff_t,leU_int,ltU_int,gtU_int,geU_int,subU_int,addU_int,eqU_int,neU_int,tuple_two,mkE_one,c1_one,c2_two,rd0,rdS,norm_d,dat_d,gFl_none,gRs_none,List.set_cons_zero,List.set_cons_succ,Bool.not_true,Bool.not_false,Bool.false_eq_true,↓reduceIte,e6,em,eor,tabU_at aT6 rfl,tl2,e10,ne_self gd2,eqSch,Bool.not_true]
       exact⟨q6,_,_,_,_,_,_,_,_,rfl⟩
    ·rintro ρ S2 ⟨q2,v3,v4,v5,v6,v7,v8,v9,v10,rfl⟩
     obtain⟨g',hg'⟩:=q2.pre hpre hle
     exact⟨g',i + 1,_,_,_,_,_,_,_,_,_,_,hg',rfl,by omega,rfl⟩
    ·exact⟨.refl bag1,v3,v4,v5,v6,v7,v8,v9,v10,rfl⟩
   ·rintro ρ S' ⟨g,i,v1,v2,v3,v4,v5,v6,v7,v8,v9,v10,rfl,hus,him,rfl⟩
    simp! only[]
    exact .ok g (Shr.refl S) trivial
   ·exact⟨[],0,none,none,none,none,none,none,none,none,none,none,(List.append_nil S).symm,by rw[Jg,List.range_eq_range']; rfl,Nat.zero_le _,rfl⟩
  ·exact .bad _
end
end KL
set_option maxHeartbeats 0
namespace KL
open PySem PySem.Spec PyProof.Rows L2
open He (ga ma)
theorem Vj:WH.FlOk ["name"]:=⟨.inr (.inl ⟨_,rfl⟩),rfl,rfl,rfl,by decide +kernel,by decide +kernel,fun q0 qs hq _ _ _ _ _ _ _ _ _ _ _ us hu=>match qs,hq,us,hu with | [_],_,[_],_=>rfl⟩
theorem Ze:WH.FlOk ["index"]:=⟨.inr (.inl ⟨_,rfl⟩),rfl,rfl,rfl,by decide +kernel,by decide +kernel,fun q0 qs hq _ _ _ _ _ _ _ _ _ _ _ us hu=>match qs,hq,us,hu with | [_],_,[_],_=>rfl⟩
theorem fl_table:WH.FlOk ["table"]:=⟨.inr (.inl ⟨_,rfl⟩),rfl,rfl,rfl,by decide +kernel,by decide +kernel,fun q0 qs hq _ _ _ _ _ _ _ _ _ _ _ us hu=>match qs,hq,us,hu with | [_],_,[_],_=>rfl⟩
theorem fl_limit:WH.FlOk ["limit"]:=⟨.inr (.inl ⟨_,rfl⟩),rfl,rfl,rfl,by decide +kernel,by decide +kernel,fun q0 qs hq _ _ _ _ _ _ _ _ _ _ _ us hu=>match qs,hq,us,hu with | [_],_,[_],_=>rfl⟩
theorem V7:WH.StOk ["name"] (inClass (top 3) 0):=⟨by kernel_rfl,by kernel_rfl,by kernel_rfl,by kernel_rfl,WH.a0 (inClass (top 3) 0),WH.aqs (inClass (top 3) 0),by kernel_rfl,by kernel_rfl⟩
theorem st_Twice:WH.StOk ["name"] (inClass (top 4) 0):=⟨by kernel_rfl,by kernel_rfl,by kernel_rfl,by kernel_rfl,WH.a0 (inClass (top 4) 0),WH.aqs (inClass (top 4) 0),by kernel_rfl,by kernel_rfl⟩
theorem st_BadKey:WH.StOk ["index"] (inClass (top 5) 0):=⟨by kernel_rfl,by kernel_rfl,by kernel_rfl,by kernel_rfl,WH.a0 (inClass (top 5) 0),WH.aqs (inClass (top 5) 0),by kernel_rfl,by kernel_rfl⟩
theorem Z5:WH.StOk ["index"] (inClass (top 6) 0):=⟨by kernel_rfl,by kernel_rfl,by kernel_rfl,by kernel_rfl,WH.a0 (inClass (top 6) 0),WH.aqs (inClass (top 6) 0),by kernel_rfl,by kernel_rfl⟩
theorem V8:WH.StOk ["table"] (inClass (top 7) 0):=⟨by kernel_rfl,by kernel_rfl,by kernel_rfl,by kernel_rfl,WH.a0 (inClass (top 7) 0),WH.aqs (inClass (top 7) 0),by kernel_rfl,by kernel_rfl⟩
theorem V9:WH.StOk ["limit"] (inClass (top 8) 0):=⟨by kernel_rfl,by kernel_rfl,by kernel_rfl,by kernel_rfl,WH.a0 (inClass (top 8) 0),WH.aqs (inClass (top 8) 0),by kernel_rfl,by kernel_rfl⟩
theorem Ge:WH.StOk ["index"] (inClass (top 9) 0):=⟨by kernel_rfl,by kernel_rfl,by kernel_rfl,by kernel_rfl,WH.a0 (inClass (top 9) 0),WH.aqs (inClass (top 9) 0),by kernel_rfl,by kernel_rfl⟩
theorem txt_of {K:PySem.W.Frag} {h:Heap} {mg:Str→Option Value} (X:K.In h) (G:h.Ns mainGlobals mg) (cM:WH.SaysM R.prog fa fn er su sm K):Txt R.prog K mg :=
 let cS:=cM.s
 let c:=cS.n
 ⟨WH.free_ok X G (c.fact 0),
  WH.free_ok X G (c.fact 1),
  WH.free_ok X G (c.fact 2),
  WH.free_ok X G (c.fact 3),
  WH.free_ok X G (c.fact 4),
  WH.free_ok X G (c.fact 5),
  WH.free_ok X G (c.fact 6),
  WH.free_ok X G (c.fact 7),
  WH.free_ok X G (c.fact 8),
  WH.free_ok X G (c.fact 9),
  WH.free_ok X G (c.fact 10),
  WH.free_ok X G (c.fact 11),
  WH.free_ok X G (c.fact 12),
  WH.free_ok X G (c.fact 13),
  WH.free_ok X G (c.fact 14),
  (by obtain⟨t,e⟩:=He.str_ok X G (c.fact 15); exact⟨_,e,⟨t,rfl⟩⟩),
  (by obtain⟨t,e⟩:=He.int_ok X G (c.fact 16); exact⟨_,e,⟨t,rfl⟩⟩),
  (by obtain⟨t,e⟩:=He.int_ok X G (c.fact 17); exact⟨_,e,⟨t,rfl⟩⟩),
  (by obtain⟨t,e⟩:=He.int_ok X G (c.fact 18); exact⟨_,e,⟨t,rfl⟩⟩),
  (by obtain⟨t,e⟩:=He.int_ok X G (c.fact 19); exact⟨_,e,⟨t,rfl⟩⟩),
  WH.glo_ok X G (c.fact 20),
  WH.glo_ok X G (c.fact 21),
  WH.glo_ok X G (c.fact 22),
  (let h:=c.err 0; WH.ErN.txt2 X G h V7 Vj),
  (let h:=c.err 1; WH.ErN.txt2 X G h st_Twice Vj),
  (let h:=c.err 2; WH.ErN.txt2 X G h st_BadKey Ze),
  (let h:=c.err 3; WH.ErN.txt2 X G h Z5 Ze),
  (let h:=c.err 4; WH.ErN.txt2 X G h V8 fl_table),
  (let h:=c.err 5; WH.ErN.txt2 X G h V9 fl_limit),
  (let h:=c.err 6; WH.ErN.txt2 X G h Ge Ze),
  WH.one_of (let h:=c.err 0; WH.ErN.txt2 X G h V7 Vj) (by decide),
  WH.one_of (let h:=c.err 1; WH.ErN.txt2 X G h st_Twice Vj) (by decide),
  WH.one_of (let h:=c.err 2; WH.ErN.txt2 X G h st_BadKey Ze) (by decide),
  WH.one_of (let h:=c.err 3; WH.ErN.txt2 X G h Z5 Ze) (by decide),
  WH.one_of (let h:=c.err 4; WH.ErN.txt2 X G h V8 fl_table) (by decide),
  WH.one_of (let h:=c.err 5; WH.ErN.txt2 X G h V9 fl_limit) (by decide),
  WH.one_of (let h:=c.err 6; WH.ErN.txt2 X G h Ge Ze) (by decide),
  WH.exm_ok (c.fact 23),
  WH.exmW_ok (c.fact 23),
  (fun x hx=>by simp only[errN,List.mem_cons,List.not_mem_nil,or_false] at hx; rcases hx with rfl | rfl | rfl | rfl | rfl | rfl | rfl<;>first | exact (let h:=c.err 0; WH.ErN.txt2 X G h V7 Vj).xf | exact (let h:=c.err 1; WH.ErN.txt2 X G h st_Twice Vj).xf | exact (let h:=c.err 2; WH.ErN.txt2 X G h st_BadKey Ze).xf | exact (let h:=c.err 3; WH.ErN.txt2 X G h Z5 Ze).xf | exact (let h:=c.err 4; WH.ErN.txt2 X G h V8 fl_table).xf | exact (let h:=c.err 5; WH.ErN.txt2 X G h V9 fl_limit).xf | exact (let h:=c.err 6; WH.ErN.txt2 X G h Ge Ze).xf),
  WH.fnd_ok (c.fact 24),
  He.cls_ok (c.fact 25),
  He.mkr_ok (c.fact 26),
  He.noat_ok (c.fact 27),
  He.noat_ok (c.fact 28),
  He.noat_ok (c.fact 29),
  He.noat_ok (c.fact 30),
  He.noat_ok (c.fact 31),
  (c.def_ 0),
  He.meth_ok (c.fact 32),
  (by obtain⟨fd,h⟩:=c.def_ 1; exact⟨fd,He5.fun_of h⟩),
  WH.eq_ok (c.fact 33) (He.meth_ok (c.fact 32)),
  WH.isi_ok (c.fact 34) (He.cls_ok (c.fact 25)),
  He.cls_ok (c.fact 35),
  He.mkr_ok (c.fact 36),
  He.noat_ok (c.fact 37),
  (c.def_ 2),
  He.meth_ok (c.fact 38),
  (by obtain⟨fd,h⟩:=c.def_ 3; exact⟨fd,He5.fun_of h⟩),
  He.meth_ok (c.fact 39),
  (by obtain⟨fd,h⟩:=c.def_ 4; exact⟨fd,He5.fun_of h⟩),
  He.meth_ok (c.fact 40),
  (by obtain⟨fd,h⟩:=c.def_ 5; exact⟨fd,He5.fun_of h⟩),
  WH.eq_ok (c.fact 41) (He.meth_ok (c.fact 40)),
  WH.isi_ok (c.fact 42) (He.cls_ok (c.fact 35)),
  WH.bin_ok (c.fact 43) (He.meth_ok (c.fact 39)),
  (by obtain⟨fd,h⟩:=c.def_ 6; exact⟨fd,He5.fun_of h,WH.glo_ok X G (c.fact 44)⟩),
  (by obtain⟨fd,h⟩:=c.def_ 7; exact⟨fd,He5.fun_of h,WH.glo_ok X G (c.fact 45)⟩),
  (by obtain⟨fd,h⟩:=c.def_ 8; exact⟨fd,He5.fun_of h,WH.glo_ok X G (c.fact 46)⟩),
  (by obtain⟨fd,h⟩:=c.def_ 9; exact⟨fd,He5.fun_of h,WH.glo_ok X G (c.fact 47)⟩),
  (by obtain⟨fd,h⟩:=c.def_ 10; exact⟨fd,He5.fun_of h,WH.glo_ok X G (c.fact 48)⟩),
  (by obtain⟨fd,h⟩:=c.def_ 11; exact⟨fd,He5.fun_of h,WH.glo_ok X G (c.fact 49)⟩),
  (by obtain⟨fd,h⟩:=c.def_ 12; exact⟨fd,He5.fun_of h,WH.glo_ok X G (c.fact 50)⟩),
  (by obtain⟨fd,h⟩:=c.def_ 13; exact⟨fd,He5.fun_of h,WH.glo_ok X G (c.fact 51)⟩),
  (by obtain⟨fd,h⟩:=c.def_ 14; exact⟨fd,He5.fun_of h,WH.glo_ok X G (c.fact 52)⟩),
  (by obtain⟨fd,h⟩:=c.def_ 15; exact⟨fd,He5.fun_of h,WH.glo_ok X G (c.fact 53)⟩),
  (by obtain⟨fd,h⟩:=c.def_ 16; exact⟨fd,He5.fun_of h,WH.glo_ok X G (c.fact 54)⟩),
  (by obtain⟨fd,h⟩:=c.def_ 17; exact⟨fd,He5.fun_of h,WH.glo_ok X G (c.fact 55)⟩),
  (by obtain⟨fd,h⟩:=c.def_ 18; exact⟨fd,He5.fun_of h,WH.glo_ok X G (c.fact 56)⟩),
  (by obtain⟨fd,h⟩:=c.def_ 19; exact⟨fd,He5.fun_of h,WH.glo_ok X G (c.fact 57)⟩),
  (by obtain⟨fd,h⟩:=c.def_ 20; exact⟨fd,He5.fun_of h,WH.glo_ok X G (c.fact 58)⟩),
  (by obtain⟨fd,h⟩:=c.def_ 21; exact⟨fd,He5.fun_of h,WH.glo_ok X G (c.fact 59)⟩),
  (by obtain⟨fd,h⟩:=c.def_ 22; exact⟨fd,He5.fun_of h,WH.glo_ok X G (c.fact 60)⟩),
  (by obtain⟨fd,h⟩:=c.def_ 23; exact⟨fd,He5.fun_of h,WH.glo_ok X G (c.fact 61)⟩),
  (by obtain⟨fd,h⟩:=c.def_ 24; exact⟨fd,He5.fun_of h,WH.glo_ok X G (c.fact 62)⟩),
  (by obtain⟨fd,h⟩:=c.def_ 25; exact⟨fd,He5.fun_of h,WH.glo_ok X G (c.fact 63)⟩),
  (by obtain⟨fd,h⟩:=c.def_ 26; exact⟨fd,He5.fun_of h,WH.glo_ok X G (c.fact 64)⟩),
  (c.fact 65)⟩
end KL
set_option maxHeartbeats 4000000
open PySem PySem.W PySem.Calls PyProof.Rows
theorem PySem.Challenge.cw_whichmatch_k06_schemas_refused_holds : PySem.Challenge.rw_whichmatch_k06_schemas_refused.Holds := by
 w_on; o_law
 refine HandSHeadRun.head_any (r:=OpenLaw.row PySem.Challenge.rw_whichmatch_k06_schemas_refused) (q:=view (OpenLaw.row PySem.Challenge.rw_whichmatch_k06_schemas_refused).prog [40]) (H:=KL.hk) (ob:=KL.ob) (M:=100000) (loose:=KL.loose) (d:=HandSHeadRun.topDef (OpenLaw.row PySem.Challenge.rw_whichmatch_k06_schemas_refused).prog 40) (kwd:=[]) KL.ob_eq
  (by kernel_rfl) (fun s=>by kernel_rfl) KL.run (by kernel_rfl) (by kernel_rfl) (by kernel_rfl) (by rfl) (by first | assumption | decide +kernel) (by decide +kernel) ⟨rfl,rfl,rfl,rfl,rfl,by decide +kernel⟩ ?hw ?hc
 case hw=>w_witness2
 case hc =>
  refine DL.walkDT (l:=PySem.Challenge.rw_whichmatch_k06_schemas_refused) (n:=63) (k:=15) (x := "_law_script") ["law"] rfl (by decide) (by kernel_rfl) ⟨rfl,by decide,by decide⟩ (by kernel_rfl) ?hx ?F
  case hx =>
   intro x hx
   simp only[List.mem_cons,List.not_mem_nil,or_false] at hx
   subst hx; exact Option.isSome_iff_exists.mp (by kernel_rfl)
  intro w mg h Y G
  obtain⟨K,KX,c⟩:=Y
  exact⟨K,KX,(KL.txt_of KX G c).tabs,fun base tbs=>KL.dk_law (KL.txt_of KX G c) tbs⟩
