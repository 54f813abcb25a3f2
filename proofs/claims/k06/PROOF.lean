import PyProof.Rows.All
import Wide.All
import OpenK.AllK
import Wide.FinOn
import HandS.ClsMeth
import HandS.Codes
import HandS.Comp
import HandS.Conv
import HandS.Deep
import HandS.Defaults
import HandS.Dict
import HandS.DictComp
import HandS.Exc
import HandS.ExcCtx
import HandS.ExcField
import HandS.ExcInit
import HandS.ExcIs
import HandS.ExcOwn
import HandS.ExcSuper
import HandS.FStr
import HandS.Finally
import HandS.Flow
import HandS.GenList
import HandS.Head0
import HandS.Head1
import HandS.Head2
import HandS.HeadEnd
import HandS.HeadHook1
import HandS.HeadHook2
import HandS.HotCalls
import HandS.IsInst
import HandS.Iter
import HandS.IterVal
import HandS.List
import HandS.More
import HandS.NestedK
import HandS.OwnIter
import HandS.Property
import HandS.RaiseFrom
import HandS.SetFor
import HandS.Star
import HandS.StrMore
import HandS.Strs
import HandS.Style
import HandS.Text
import HandS.TryOnly
import HandS.TupAny
import HandS.TupMul
import HandS.Wide
import HandS.Words
import HandS.WordsExc
import KE.GoesEnumKw
import KE.GoesMore
import KE.KDictDisplayH
import KE.KDictKeyed
import KE.KExcIs
import KE.KExcSuper
import KE.KOpsOwn
import KE.KRevSl
import KE.KTryMore
import KE.KUnpackStar
import KE.KWithOwn
import KE.KeyNested
import KE.KxField
import KE.RegKSuper
import Open.SpecLaws
import OpenK.KDescr
import OpenK.KMeth
import OpenK.KOps
import PyProof.Conv_bool
import PyProof.DictKinds
import PyProof.FString3
import PyProof.ForAppend
import PyProof.Rows.CallKwBuiltin
import PyProof.Rows.MatchSeqLen
import PyProof.Rows.Range3
import PyProof.Rows.TupIter
import PyProof.StrBlock2
import PySem.Challenge.RW_strikeloops_k06_runs_of_charts
set_option Elab.async false
set_option linter.all false
set_option maxRecDepth 100000
set_option maxHeartbeats 1000000
set_option autoImplicit true
open Bool renaming and_eq_true->dV,and_eq_true_iff->lU,and_true->pZ,eq_false_iff->Bu,false_ne_true->LQ,or_eq_true->U9,and_self->Vh,not_eq_true'->Vj,true->aj,false->ak
open Classical renaming choose_spec->fq,choose->U_
open Int renaming le_refl->BC,eq_ofNat_of_zero_le->BD,emod_nonneg->EO,toNat_natCast->ER,toNat_of_nonneg->ES,emod_lt_of_pos->Vt,natCast_add->Vu
open L2 renaming defScope->aU,defBody->cI,defArgs->cZ,upd_same->ez,inClass->fN,upd_ne->gF,passes_of->lT,Vals->n_,FnOk->pT,Env0->wb,cxOf->A7,Meth->A9,ne_of_none->Ei,pe_glob->Ej,pa_cons->Em,tyV_is->Er,FnScope->Lr,mem_pinsAt->LD,allBare_setGen->LH,blkOk_by->LJ,ld_glob->Ur,relO_put->Uy,pe_bltn->UO
open List renaming getElem?_eq_some_iff->bP,length_map->cf,length_cons->cq,getElem?_map->cC,mem_cons->cJ,getElem?_append_left->cK,getElem?_set_ne->c5,map_cons->c6,range->dh,mem_of_getElem?->di,mem_cons_self->dk,length_append->dw,mem_cons_of_mem->dy,getElem?_set_self->dU,mem_map->eR,replicate->fQ,append_nil->fR,mem_append->iM,lookup->kd,getElem?_eq_getElem->ke,map->kg,length_set->lV,mem_append_right->mU,map_map->mW,length_take->mY,not_mem_nil->mZ,eq_nil_of_length_eq_zero->oz,length_drop->oA,length_nil->oB,mem_singleton->pW,getElem?_append_right->pY,set_getElem_self->tQ,mem_iff_getElem?->wz,length->wA,cons->Bg,nodup_cons->Bh,drop_drop->Bj,replicate_succ->Bm,flatten_cons->Bo,ext_getElem?->Bq,nil_append->Bw,map_append->BA,mem_range->BE,all_eq_true->Ey,nodup_append->EA,getElem?_set->EC,set_set->EH,take_length->EL,flatMap_cons->EM,take_add_one->EN,cons_append->LL,getElem_inj->LM,size_toArray->LP,mem_filterMap->LR,drop_eq_getElem_cons->LU,attach_map_subtype_val->LW,map_take->LX,append_assoc->LY,mem_append_left->LZ,flatMap_append->L4,mem_of_mem_take->L5,mem_or_eq_of_mem_set->L6,zip_nil_left->UW,map_congr_left->UX,any_cons->UY,zip_cons_cons->UZ,all_cons->U3,getElem?_eq_none->U5,length_singleton->Va,drop_zero->Vc,length_replicate->Vd,eq_of_mem_replicate->Ve,drop->Vf,map_set->Vk,getElem?_concat_length->Vl,take_of_length_le->Vp,mem_map_of_mem->Vq,flatMap_map->Vr,all->Vs,getElem?_eq_none_iff->Vv
open List.Pairwise renaming imp_of_mem->akp
open Nat renaming zero_le->aF,le_refl->bC,le_trans->b_,lt_of_lt_of_le->cu,ble->cy,le_of_ble_eq_true->gJ,le_of_lt->mT,ne_of_lt->tO,lt_irrefl->tP,le_succ->Bl,mul_le_mul->Bp,ble_eq->Bt,pos_of_ne_zero->BB,succ_le_succ->EI,mod_lt->EK,lt_succ_self->LN,max_le->LV,ne_of_gt->U6,exists_eq_add_of_le->Vb,add_comm->Vg,beq->Vi,strongRecOn->Vm,min_eq_left->Vn,min_eq_right->Vo
open Option renaming isSome->iN,some->kb,isNone->kT,map_eq_some_iff->mV,map_some->tR,bind->EJ,some->ah,none->ai
open PyProof.Rows renaming callWith_builtin1->ai6,callWith_type1->ai7,envOfC->iK,AllBare->Ew,subscriptTail->Up
open PySem renaming Spec->bY,Fin->fh,dunder->pX,Str->Ez,Addr->aq,Value->az,Shared->aK,Expr->aN,Stmt->bh,Heap->bj,starEach->bo,PyData->bF,wpAny->bL,Program->bO,World->bS,Around->bV,wpAny_bind->c4,backTo->c_,compareOp->eA,mainGlobals->eP,wpAny_mono->eQ,NestedKey->gE,sizeLine->kR,Scope->mR,binaryOp->og,standAt->oh,FuncData->oi,cLine->om,bindArgs->oq,dunderR->ot,Frame->ou,foldedSetIterable->tG,backToKw->tH,keywordEach->tI,wpAny_pure->tJ,codeAny_mono->wc,attributeBase->wd,callWith->we,Model->wg,Result->wo,Arguments->A1,excClassObj->A2,sizeLine_eq->A4,wpAny_truthy_bool->A5,swapsWith->A6,wpAny_call->A8,Keyword->A_,compEnvC->Ba,GenState->Bb,recursionLimit->Bd,codeAny->Be,Code->Bf,builtinsNs->Eg,cStatics->Eh,CmpOp->Ek,wpAny_Call_Name_kw->En,assignEach->Eo,wpAny_holding->Ep,PassesOwn->Lq,getMethod->Ls,wpAt_of_wpAny->Lu,wpAny_execs_nil->Lv,BindsTo->Lw,isSeqSlot->Lx,pyNext->Ly,Wakes->Lz,wpAny_throw->LB,FuncBody->Uk,setItem->Us,wpAny_standAt->Ut,ks_wpAt_execs_cons->Uw,plainObj_wpAny_Assign_Attribute->Ux,Pattern->UC,splitAtGen->UD,yieldOut->UE,theTreesLotGoes->UH,letOwnedTupleGo->UI,cellsFrom->UK,wpAny_loadName_local->ait,ks_codeAny_call_defAt->aiv,wpAny_newObj_type->aiP,firstArgMember->aiQ
open PySem.ESX renaming ldL->EF
open PySem.HandSPX renaming refsVE->ajw
open PySem.W renaming Frag->aT,findIn->bI,subIn->cb,mg_of->dW,kitOne->fg,fnOf->gG,typeIn->gI,codeIn->hV,keepIn->iL,isFn->kc,mroIn->kS,fnIn->mS,mg_none_of->m5,nsIn->pU,hasDictIn->pV,recIn->wq,ks_superIn->wt,noSeq->wu,exmOne->Br,specialIn->Ex,callWith_K->EB,selfFirst->EG,ksFn->LK,Hook->UP,takesIn->UQ,plainOver->UR,takerIn->US,isClsIn->UT,SharedT->UU,methodCall_KW->U0,InstAt->U1,ksp_setItem->U4,findIn->dI,ksEnv->dS,subIn->oo,Frag->tK,typeIn->tL,clsIn->tM,nsIn->wm,ksFn->Bc,hasDictIn->Es,mroIn->Et,ks_superIn->Eu,kdv_tup->Uz
open PySem.W.OpenLaw renaming row->ai2
open _root_ renaming Option->au,Bool->aw,Unit->ax,Empty->aE,if_pos->aG,cond->aL,if_neg->aR,absurd->br,cond_false->bB,cond_true->bG,decide_eq_true->bJ,of_decide_eq_true->dF,String->dG,Array->dH,decide_eq_false->fP,congrArg->gb,if_true->lS,or_false->tN,beq_eq_false_iff_ne->A3,if_false->Um,beq_iff_eq->Uq,outParam->UL,decide_eq_false_iff_not->UM,decide_eq_true_iff->UN,instDecidableEqList->aiV
section
namespace WL
namespace Hd
open PySem PySem.Spec L2
open PyProof.Rows hiding St
section
abbrev Wf:=aT->aw
inductive At where
 |glo (x:Str)
 |met (x m:Str)
 |W5 (x m:Str)
 |xg (x m:Str)
 |cm (x m:Str)
def W6(K:aT) (A:aq):aq:=match wq K A "property" with
 |some (.ref g :: _)=>g
 |_=>0
def Ga(K:aT) (A:aq):aq:=match wq K A "property" with
 |some (_ :: .ref g :: _)=>g
 |_=>0
def W7(K:aT) (C:aq) (m:Str):aq:=match W.findCls K (.ref C) (.type "type") m with
 |some (.get _ (.ref r) _ _)=>(match wq K r "classmethod" with
  |some (.ref a :: _)=>a
  |_=>0)
 |_=>0
def At.ad(K:aT):At->aq
 | .glo x=>He.ga K x
 | .met x m=>He.ma K (He.ga K x) m
 | .W5 x m=>W6 K (He.ma K (He.ga K x) m)
 | .xg x m=>Ga K (He.ma K (He.ga K x) m)
 | .cm x m=>W7 K (He.ga K x) m
abbrev FnV:Type:=au (Str×Str×A1×Uk×mR×aq×List Str×aq)
def oP(K:aT) (p:At):FnV:=match K.lookup (p.ad K) with
 |some ⟨_,_,.func fd,_⟩=>ah (fd.name,fd.qualname,fd.params,fd.body,fd.scope,fd.globals,fd.closure.map (·.1),fd.builtins)
 |_=>ai
structure bD where
 at_:At
 name:Str
 qual:Str
 params:A1
 body:List bh
 scope:mR
 B6:aw:=ak
def bD.val(d:bD):FnV:=ah (d.name,d.qual,d.params,FuncBody.stmts d.body,d.scope,eP,(match d.B6 with|true=>["__class__"]|false=>[]),Eg)
def isNone:az->aw
 | .none=>aj
 |_=>ak
theorem MY:∀{v:az},isNone v=aj->v = .none:=λ{v} h=>by cases v <;> first|rfl|cases h
def c8(d:bD):Wf:=λK=>match K.lookup (d.at_.ad K) with
 |some ⟨_,_,.func fd,_⟩=>hV K fd.code d.qual && isNone fd.defaults
 |_=>ak
theorem W8{K:aT}{d:bD}(hi:d.B6=ak) (e:oP K d.at_=d.val) (c:c8 d K=aj):∃oc od kV doc pm an aO ct b9,K.lookup (d.at_.ad K)=ah ⟨oc,od,.func (gG d.name d.qual d.params d.body d.scope .none kV doc pm an aO ct),b9⟩/\hV K aO d.qual=aj:=by
 unfold c8 at c;unfold oP bD.val at e;rw[hi]at e
 cases q:K.lookup (d.at_.ad K) with
 |none=>rw[q]at c;cases c
 |some o=>
  obtain⟨oc,od,dt,b9⟩:=o;rw[q]at c e
  cases dt with
  |func fd=>
   obtain⟨n1,n2,n3,n4,n5,n6,n7,n8,n9,Gb,Ge,xi,uA,Gf,Gg⟩:=fd;have e2:(ah (n1,n2,n3,n4,n5,n6,n7.map (·.1),Gg):au (Str×Str×A1×Uk×mR×aq×List Str×aq))=ah (d.name,d.qual,d.params,FuncBody.stmts d.body,d.scope,eP,[],Eg):=e;simp only[kb.injEq,Prod.mk.injEq,List.map_eq_nil_iff]at e2;obtain⟨h1,h2,h3,h4,h5,h6,h7,h8⟩:=e2;subst h1 h2 h3 h4 h5 h6 h7 h8;obtain⟨k1,k2⟩:=lU.mp (show(hV K uA d.qual && isNone n8)=aj from c);have:=MY k2;subst this;exact⟨oc,od,n9,Gb,Ge,xi,uA,Gf,b9,rfl,k1⟩
  |_=>cases c
def W9:List az:=[.type "ValueError",.type "Exception",.type "BaseException",.type "object"]
def MZ:List (au az)->aw
 |[_,_,_,_,ah (.builtin n),_]=>decide (n = "ValueError.__new__")
 |_=>ak
theorem W_:∀{l:List (au az)},MZ l=aj->∃a b c d e,l=[a,b,c,d,ah (.builtin "ValueError.__new__"),e]
 |[a,b,c,d,ah (.builtin n),e],h=>⟨a,b,c,d,e,by rw[dF (show decide (n = "ValueError.__new__")=aj from h)]⟩
def rG(x l:Str):Wf:=λK=>match K.lookup (He.ga K x) with
 |some ⟨.type t,_,.cls cd,sl⟩=>decide (t = "type") && (decide (cd.mro = .ref (He.ga K x) :: .ref (He.ga K l) :: W9) && (cd.hasDict && (!cd.hasDel && MZ sl.toList)))
 |_=>ak
theorem wK{K:aT}{x l:Str}(h:rG x l K=aj):∃nm q N bs sn sub ab col dd k0 k1 k2 k3 k5,K.lookup (He.ga K x)=ah (A2 nm q (He.ga K x) N bs (.ref (He.ga K l) :: [.type "ValueError",.type "Exception",.type "BaseException",.type "object"]) aj sn sub ab col dd k0 k1 k2 k3 k5 "ValueError.__new__"):=by
 unfold rG at h
 cases q:K.lookup (He.ga K x) with
 |none=>rw[q]at h;cases h
 |some o=>
  obtain⟨oc,od,dt,sl⟩:=o;rw[q]at h
  cases oc with
  |type t=>
   cases dt with
   |cls cd=>
    obtain⟨nm,bs,mro,ns,qn,akK,sn,sub,ab,col,del⟩:=cd;dsimp only at h;obtain⟨a1,h1⟩:=lU.mp h;obtain⟨a2,h2⟩:=lU.mp h1;obtain⟨a3,h3⟩:=lU.mp h2;obtain⟨a4,h4⟩:=lU.mp h3;have a1:=dF a1;have a2:=dF a2;have a4:del=ak:=by simpa using a4
    subst a1 a2 a3 a4;obtain⟨sl⟩:=sl;dsimp only at h;obtain⟨s0,s1,s2,s3,s5,hs⟩:=W_ h4;have hs:sl=[s0,s1,s2,s3,ah (.builtin "ValueError.__new__"),s5]:=hs
    subst hs;exact⟨nm,qn,ns,bs,sn,sub,ab,col,od,s0,s1,s2,s3,s5,rfl⟩
   |_=>cases h
  |_=>cases dt <;> cases h
def rH(d:bD) (x file:Str):Wf:=λK=>match K.lookup (d.at_.ad K) with
 |some ⟨_,_,.func fd,_⟩=>(match fd.code,fd.closure with
  | .ref aX,[(_,cc)]=>isNone fd.defaults && (hV K (.ref aX) d.qual && ((match K.lookup aX with
   |some ⟨_,_,.fields vs,_⟩=>(match (vs[2]? : au az) with
    |some (Value.str f _)=>file == f
    |_=>ak)
   |_=>ak) && (match K.lookup cc with
   |some ⟨_,_,.cell (ah (.ref A)),_⟩=>decide (A=He.ga K x)
   |_=>ak)))
  |_,_=>ak)
 |_=>ak
theorem Xa{K:aT}{aX:aq}{file:Str}(h:(match K.lookup aX with
   |some ⟨_,_,.fields vs,_⟩=>(match (vs[2]? : au az) with
    |some (Value.str f _)=>file == f
    |_=>ak)
   |_=>ak)=aj):∃dY dZ vs d_ f tf,K.lookup aX=ah ⟨dY,dZ,.fields vs,d_⟩/\vs[2]? = ah (.str f tf)/\(file == f)=aj:=by
 split at h
 ·rename_i dY dZ vs d_ q
  split at h
  ·rename_i f tf e
   exact⟨dY,dZ,vs,d_,f,tf,q,e,h⟩
  ·cases h
 ·cases h
theorem Xb{K:aT}{cc B:aq}(h:(match K.lookup cc with
   |some ⟨_,_,.cell (ah (.ref A)),_⟩=>decide (A=B)
   |_=>ak)=aj):∃cl ee eg,K.lookup cc=ah ⟨cl,ee,.cell (ah (.ref B)),eg⟩:=by
 split at h
 ·rename_i cl ee A eg q
  have:=dF h;subst this;exact⟨cl,ee,eg,q⟩
 ·cases h
theorem wL{K:aT}{d:bD}{x file:Str}(hi:d.B6=aj) (e:oP K d.at_=d.val) (c:rH d x file K=aj):∃oc od kV doc pm an aX ct cc b9 dY dZ vs d_ f tf cl ee eg,
  K.lookup (d.at_.ad K)=ah ⟨oc,od,.func (LK d.name d.qual d.params d.body d.scope .none kV doc pm an (.ref aX) ct cc),b9⟩/\hV K (.ref aX) d.qual=aj/\K.lookup aX=ah ⟨dY,dZ,.fields vs,d_⟩/\vs[2]? = ah (.str f tf)/\(file == f)=aj/\K.lookup cc=ah ⟨cl,ee,.cell (ah (.ref (He.ga K x))),eg⟩:=by
 unfold rH at c;unfold oP bD.val at e;rw[hi]at e
 cases q:K.lookup (d.at_.ad K) with
 |none=>rw[q]at c;cases c
 |some o=>
  obtain⟨oc,od,dt,b9⟩:=o;rw[q]at c e
  cases dt with
  |func fd=>
   obtain⟨n1,n2,n3,n4,n5,n6,n7,n8,n9,Gb,Ge,xi,uA,Gf,Gg⟩:=fd;have e2:(ah (n1,n2,n3,n4,n5,n6,n7.map (·.1),Gg):au (Str×Str×A1×Uk×mR×aq×List Str×aq))=ah (d.name,d.qual,d.params,FuncBody.stmts d.body,d.scope,eP,[("__class__" : Str)],Eg):=e
   simp only[kb.injEq,Prod.mk.injEq]at e2;obtain⟨h1,h2,h3,h4,h5,h6,h7,h8⟩:=e2
   cases n7 with
   |nil=>cases h7
   |cons z n7=>
    cases n7 with
    |cons=>simp at h7
    |nil=>
     obtain⟨zn,cc⟩:=z;have h7:zn = "__class__":=by simpa using h7
     cases uA with
     |ref aX=>
      subst h1 h2 h3 h4 h5 h6 h7 h8
      have c:(isNone n8 && (hV K (.ref aX) d.qual && ((match K.lookup aX with
   |some ⟨_,_,.fields vs,_⟩=>(match (vs[2]? : au az) with
    |some (Value.str f _)=>file == f
    |_=>ak)
   |_=>ak) && (match K.lookup cc with
   |some ⟨_,_,.cell (ah (.ref A)),_⟩=>decide (A=He.ga K x)
   |_=>ak))))=aj:=c
      obtain⟨k1,c⟩:=lU.mp c;obtain⟨k2,c⟩:=lU.mp c;obtain⟨k3,k4⟩:=lU.mp c;have:=MY k1;subst this;obtain⟨dY,dZ,vs,d_,f,tf,a1,a2,a3⟩:=Xa k3;obtain⟨cl,ee,eg,a4⟩:=Xb k4;exact⟨oc,od,n9,Gb,Ge,xi,aX,Gf,cc,b9,dY,dZ,vs,d_,f,tf,cl,ee,eg,rfl,k2,a1,a2,a3,a4⟩
     |_=>cases c
  |_=>cases c
def BW(x z:Str):Wf:=λK=>match pU K eP x with
 |some (ah (.str y _))=>decide (y=z)
 |_=>ak
theorem Mm{K:aT}{x z:Str}(h:BW x z K=aj):∃t,pU K eP x=ah (ah (.str z t)):=by
 unfold BW at h
 split at h
 ·rename_i y t e
  rw[<- dF h];exact⟨t,e⟩
 ·cases h
def FR(x:Str) (i:Int):Wf:=λK=>match pU K eP x with
 |some (ah (.int j _))=>decide (j=i)
 |_=>ak
theorem Vz{K:aT}{x:Str}{i:Int}(h:FR x i K=aj):∃t,pU K eP x=ah (ah (.int i t)):=by
 unfold FR at h
 split at h
 ·rename_i y t e
  rw[<- dF h];exact⟨t,e⟩
 ·cases h
def FT(x m:Str) (i:Int):Wf:=λK=>match bI K (.ref (He.ga K x)) m with
 |some (ah (.int j t))=>decide (j=i) && decide (Ex K (.int j t) "__get__" = ah ai)
 |_=>ak
theorem VA{K:aT}{x m:Str}{i:Int}(h:FT x m i K=aj):∃t,bI K (.ref (He.ga K x)) m=ah (ah (.int i t))/\Ex K (.int i t) "__get__" = ah ai:=by
 unfold FT at h
 split at h
 ·rename_i j t e
  obtain⟨a,b⟩:=lU.mp h;have:=dF a;subst this;exact⟨t,e,dF b⟩
 ·cases h
def FU(x m:Str):Wf:=λK=>match wq K (He.ma K (He.ga K x) m) "property" with
 |some (_ :: .ref _ :: _)=>aj
 |_=>ak
theorem VB{K:aT}{x m:Str}(h:FU x m K=aj):∃g r,wq K (He.ma K (He.ga K x) m) "property" = ah (g :: .ref ((At.xg x m).ad K) :: r):=by
 unfold FU at h
 split at h
 ·rename_i g0 g r e
  refine⟨g0,r,?_⟩;show _=ah (g0 :: .ref (Ga K (He.ma K (He.ga K x) m)) :: r);unfold Ga;rw[e]
 ·cases h
def eT(x m:Str):Wf:=λK=>decide (bI K (.ref (He.ga K x)) m=ah ai)
def iY(x m:Str):Wf:=λK=>decide (bI K (.ref (He.ga K x)) m=ah (ah (.ref (He.ma K (He.ga K x) m))))
def dQ(x:Str):Wf:=λK=>decide (pU K eP x=ah (ah (.ref (He.ga K x))))
def k7(x:Str):Wf:=λK=>decide (pU K eP x=ah ai)
def uB(x:Str):Wf:=λK=>decide (bI K (.ref (He.ga K x)) "__setattr__" = ah (ah (.builtin "object.__setattr__")))
def ej(x:Str):Wf:=λK=>iL K (.ref (He.ga K x))
def rN(x m:Str):Wf:=λK=>iL K (.ref (He.ma K (He.ga K x) m))
def rO(x m:Str):Wf:=λK=>kc K (.ref (He.ma K (He.ga K x) m))
def uC(x:Str):Wf:=λK=>decide (cb K (.ref (He.ga K x)) (.type "BaseException")=ah aj)
def Xc:au Obj->aw
 |some ⟨_,_,.func _,_⟩=>aj
 |some ⟨_,_,.cls ..,_⟩=>aj
 |some ⟨_,_,.dict ..,_⟩=>aj
 |some ⟨_,_,.fields ..,_⟩=>aj
 |some ⟨_,_,.cell ..,_⟩=>aj
 |_=>ak
def Xd(g:aq->au Obj) (n:Nat):List aq:=(dh n).filter λa=>Xc (g a)
abbrev rP:Type:=aw×List FnV
def M0(fs:List Wf) (fn:List bD) (K:aT):rP:=(fs.all λf=>f K,fn.map λd=>oP K d.at_)
def M3(fn:List bD):rP:=(aj,fn.map bD.val)
def lZ(fs:List Wf) (fn:List bD) (K:aT):Prop:=M0 fs fn K=M3 fn
def FI(n:Nat) (fs:List Wf) (fn:List bD) (g:aq->au Obj):rP:=M0 fs fn (He.frG g (Xd g n))
def MC(n:Nat) (fs:List Wf) (fn:List bD):UP where
 α:=rP
 obs:=λs=>FI n fs fn s.heap.get?
 val:=λ_=>M3 fn
 says:=λ_ h=>∃K:aT,K.In h/\lZ fs fn K
 of:=λ_ _ e=>⟨_,He.frG_in,e⟩
 keeps:=λ_ _ _ ⟨K,hK,c⟩ k=>⟨K,W.Frag.In.keeps hK k,c⟩
theorem Vy{n:Nat}{fs:List Wf}{fn:List bD}{g:aq->au Obj}{s:aK}(h:∀a,g a=s.heap.get? a):FI n fs fn g=(MC n fs fn).obs s:=by
 have e:g=s.heap.get?:=funext h;rw[e] <;> rfl
section
variable{fs:List Wf}{fn:List bD}{K:aT}
theorem lZ.b{f:Wf}(c:lZ fs fn K) (i:Nat) (h:fs[i]? = ah f:=by rfl):f K=aj:=
 Ey.mp (show(fs.all λf=>f K)=aj from gb (λz:rP=>z.1) c) f (di h)
theorem lZ.d(c:lZ fs fn K) (i:Nat) {d:bD}(h:fn[i]? = ah d:=by rfl):oP K d.at_=d.val:=by
 have e:fn.map (λd=>oP K d.at_)=fn.map bD.val:=gb (λz:rP=>z.2) c;have e2:(fn.map λd=>oP K d.at_)[i]? = (fn.map bD.val)[i]?:=by rw[e]
 rw[cC,cC,h]at e2;exact kb.inj e2
theorem lZ.t{p:aT->Prop} [dp:∀K,Decidable (p K)] (c:lZ fs fn K) (i:Nat) (h:fs[i]? = ah (λK=>decide (p K)):=by rfl):p K:=dF (c.b i h)
theorem lZ.df(c:lZ fs fn K) (d:bD) (j i:Nat) (hd:fn[j]? = ah d:=by rfl) (hb:fs[i]? = ah (c8 d):=by rfl) (hi:d.B6=ak:=by rfl):∃oc od kV doc pm an aO ct b9,K.lookup (d.at_.ad K)=ah ⟨oc,od,.func (gG d.name d.qual d.params d.body d.scope .none kV doc pm an aO ct),b9⟩/\hV K aO d.qual=aj:=W8 hi (c.d j hd) (c.b i hb)
end
end
end Hd
end WL
end
section
set_option maxHeartbeats 0
namespace WL
namespace dq
open PySem PySem.Spec L2
open PyProof.Rows hiding St
abbrev nc(i:Nat):bh:=PySem.Challenge.pw_strikeloops_k06_runs_of_charts.main.body.getD i (.Pass ⟨0,0,0,0⟩)
abbrev xj:=PySem.Challenge.pw_strikeloops_k06_runs_of_charts.main.file
def gX(n:Str) (i:Nat):Hd.bD:=⟨.glo n,n,n,cZ (nc i),cI (nc i),aU (nc i),ak⟩
def mX(c n q:Str) (i j:Nat) (b:aw):Hd.bD:=⟨.met c n,n,q,cZ (fN (nc i) j),cI (fN (nc i) j),aU (fN (nc i) j),b⟩
def d0:Hd.bD:=gX "_law_draw" 19
def d1:Hd.bD:=gX "_law_rows" 22
def d2:Hd.bD:=gX "_law_word" 20
def d3:Hd.bD:=gX "_law_words" 21
def d4:Hd.bD:=mX "BadOutcome" "__init__" "BadOutcome.__init__" 4 0 aj
def d5:Hd.bD:=gX "is_name" 12
def d6:Hd.bD:=mX "BadName" "__init__" "BadName.__init__" 3 0 aj
def d7:Hd.bD:=gX "check_name" 13
def d8:Hd.bD:=mX "Chart" "__init__" "Chart.__init__" 15 1 ak
def d9:Hd.bD:=mX "TooLarge" "__init__" "TooLarge.__init__" 7 0 aj
def Gh:Hd.bD:=mX "Chart" "__setitem__" "Chart.__setitem__" 15 8 ak
def Gi:Hd.bD:=gX "_law_partial" 23
def Gj:Hd.bD:=gX "_law_order" 24
def Gk:Hd.bD:=mX "NoNode" "__init__" "NoNode.__init__" 5 0 aj
def Gm:Hd.bD:=⟨.xg "Chart" "start", "start", "Chart.start",(cZ (fN (nc 15) 3)),(cI (fN (nc 15) 3)),(aU (fN (nc 15) 3)),ak⟩
def Gn:Hd.bD:=mX "Chart" "start_at" "Chart.start_at" 15 4 ak
def Gp:Hd.bD:=gX "_law_walked" 27
def Gq:Hd.bD:=gX "check_row" 14
def Gr:Hd.bD:=mX "NoEdge" "__init__" "NoEdge.__init__" 6 0 aj
def Gs:Hd.bD:=mX "Chart" "__getitem__" "Chart.__getitem__" 15 7 ak
def Gu:Hd.bD:=mX "Chart" "__call__" "Chart.__call__" 15 16 ak
def Gv:Hd.bD:=gX "_law_called" 25
def Gw:Hd.bD:=mX "Chart" "begin" "Chart.begin" 15 5 ak
def Gx:Hd.bD:=mX "Chart" "step" "Chart.step" 15 6 ak
def Gy:Hd.bD:=gX "trace" 17
def Gz:Hd.bD:=gX "_law_traced" 26
def GA:Hd.bD:=gX "_law_fits" 28
def GB:Hd.bD:=gX "law" 29
def GF:List Hd.bD:=[d0,d1,d2,d3,d4,d5,d6,d7,d8,d9,Gh,Gi,Gj,Gk,Gm,Gn,Gp,Gq,Gr,Gs,Gu,Gv,Gw,Gx,Gy,Gz,GA,GB]
def rQ:List Hd.Wf:=[
 Hd.FR "MOST_OUTCOMES" 4,
 Hd.BW "FIRST" "abcdefghijklmnopqrstuvwxyz",
 Hd.BW "OTHERS" "abcdefghijklmnopqrstuvwxyz0123456789",
 Hd.FT "Chart" "MOST" 16,
 Hd.FU "Chart" "start",
 Hd.c8 d0,
 Hd.c8 d1,
 Hd.c8 d2,
 Hd.c8 d3,
 Hd.rG "BadOutcome" "LoopError",
 Hd.rH d4 "BadOutcome" xj,
 Hd.c8 d5,
 Hd.rG "BadName" "LoopError",
 Hd.rH d6 "BadName" xj,
 Hd.c8 d7,
 Hd.c8 d8,
 Hd.rG "TooLarge" "LoopError",
 Hd.rH d9 "TooLarge" xj,
 Hd.c8 Gh,
 Hd.c8 Gi,
 Hd.c8 Gj,
 Hd.rG "NoNode" "LoopError",
 Hd.rH Gk "NoNode" xj,
 Hd.c8 Gm,
 Hd.c8 Gn,
 Hd.c8 Gp,
 Hd.c8 Gq,
 Hd.rG "NoEdge" "LoopError",
 Hd.rH Gr "NoEdge" xj,
 Hd.c8 Gs,
 Hd.c8 Gu,
 Hd.c8 Gv,
 Hd.c8 Gw,
 Hd.c8 Gx,
 Hd.c8 Gy,
 Hd.c8 Gz,
 Hd.c8 GA,
 Hd.c8 GB,
 Hd.dQ "_law_draw",
 Hd.dQ "_law_rows",
 Hd.dQ "_law_word",
 Hd.dQ "_law_words",
 Hd.dQ "LoopError",
 Hd.dQ "BadOutcome",
 Hd.dQ "is_name",
 Hd.dQ "BadName",
 Hd.dQ "check_name",
 Hd.dQ "Chart",
 Hd.dQ "TooLarge",
 Hd.dQ "_law_partial",
 Hd.dQ "_law_order",
 Hd.dQ "NoNode",
 Hd.dQ "_law_walked",
 Hd.dQ "check_row",
 Hd.dQ "NoEdge",
 Hd.dQ "_law_called",
 Hd.dQ "trace",
 Hd.dQ "_law_traced",
 Hd.dQ "_law_fits",
 Hd.dQ "law",
 Hd.iY "BadOutcome" "__init__",
 Hd.iY "BadName" "__init__",
 Hd.iY "Chart" "__init__",
 Hd.iY "TooLarge" "__init__",
 Hd.iY "Chart" "__setitem__",
 Hd.iY "NoNode" "__init__",
 Hd.iY "Chart" "start",
 Hd.iY "Chart" "start_at",
 Hd.iY "NoEdge" "__init__",
 Hd.iY "Chart" "__getitem__",
 Hd.iY "Chart" "__call__",
 Hd.iY "Chart" "begin",
 Hd.iY "Chart" "step",
 Hd.ej "_law_draw",
 Hd.ej "_law_rows",
 Hd.ej "_law_word",
 Hd.ej "_law_words",
 Hd.ej "is_name",
 Hd.ej "check_name",
 Hd.rN "Chart" "__init__",
 Hd.rN "Chart" "__setitem__",
 Hd.ej "_law_partial",
 Hd.ej "_law_order",
 λK=>iL K (.ref ((Hd.At.xg "Chart" "start").ad K)),
 Hd.rN "Chart" "start_at",
 Hd.ej "_law_walked",
 Hd.ej "check_row",
 Hd.rN "Chart" "__getitem__",
 Hd.rN "Chart" "__call__",
 Hd.ej "_law_called",
 Hd.rN "Chart" "begin",
 Hd.rN "Chart" "step",
 Hd.ej "trace",
 Hd.ej "_law_traced",
 Hd.ej "_law_fits",
 Hd.ej "law",
 Hd.k7 "list",
 Hd.k7 "len",
 Hd.k7 "abs",
 Hd.k7 "int",
 Hd.k7 "min",
 Hd.k7 "range",
 Hd.uB "BadOutcome",
 λK=>decide (bI K (.ref (He.ga K "BadOutcome")) "__getattribute__" = ah (ah (.builtin "BaseException.__getattribute__"))),
 Hd.eT "BadOutcome" "__getattr__",
 Hd.eT "BadOutcome" "outcome",
 λK=>decide (gI K (.ref (He.ma K (He.ga K "BadOutcome") "__init__"))=ah (.type "function")),
 Hd.ej "BadOutcome",
 Hd.uC "BadOutcome",
 λK=>decide (cb K (.ref (He.ga K "BadOutcome")) (.type "ValueError")=ah aj),
 λK=>decide (gI K (.ref (He.ga K "BadOutcome"))=ah (.type "type")),
 λK=>pV K (He.ga K "BadOutcome"),
 λK=>decide (kS K (He.ga K "BadOutcome") (.ref (He.ga K "BadOutcome"))=ah aj),
 λK=>decide (wt K (He.ga K "BadOutcome") (He.ga K "BadOutcome") "__init__" = ah (ah (.builtin "ValueError.__init__"))),
 λK=>decide (pU K Eh "thirdparty.any" = ah ai),
 Hd.k7 "super",
 λK=>decide (cb K (.ref (He.ga K "BadOutcome")) (.ref (He.ga K "LoopError"))=ah aj),
 Hd.uC "LoopError",
 λK=>pV K (He.ga K "LoopError"),
 λK=>decide (gI K (.ref (He.ga K "LoopError"))=ah (.type "type")),
 λK=>decide (bI K (.ref (He.ga K "BadOutcome")) "__class__" = ah (ah (.builtin "object.__class__"))),
 λK=>decide (Ex K (.builtin "object.__class__") "__get__" = ah (ah (.builtin "getset_descriptor.__get__"))),
 λK=>decide (UQ K (.builtin "object.__class__")=ah aj),
 λK=>decide (kS K (He.ga K "BadOutcome") (.type "object")=ah aj),
 Hd.k7 "all",
 Hd.uB "BadName",
 λK=>decide (bI K (.ref (He.ga K "BadName")) "__getattribute__" = ah (ah (.builtin "BaseException.__getattribute__"))),
 Hd.eT "BadName" "__getattr__",
 Hd.eT "BadName" "name",
 λK=>decide (gI K (.ref (He.ma K (He.ga K "BadName") "__init__"))=ah (.type "function")),
 Hd.ej "BadName",
 Hd.uC "BadName",
 λK=>decide (cb K (.ref (He.ga K "BadName")) (.type "ValueError")=ah aj),
 λK=>decide (gI K (.ref (He.ga K "BadName"))=ah (.type "type")),
 λK=>pV K (He.ga K "BadName"),
 λK=>decide (kS K (He.ga K "BadName") (.ref (He.ga K "BadName"))=ah aj),
 λK=>decide (wt K (He.ga K "BadName") (He.ga K "BadName") "__init__" = ah (ah (.builtin "ValueError.__init__"))),
 λK=>decide (cb K (.ref (He.ga K "BadName")) (.ref (He.ga K "LoopError"))=ah aj),
 λK=>decide (bI K (.ref (He.ga K "BadName")) "__class__" = ah (ah (.builtin "object.__class__"))),
 λK=>decide (kS K (He.ga K "BadName") (.type "object")=ah aj),
 λK=>W.makesIn K (He.ga K "Chart"),
 Hd.rO "Chart" "__init__",
 Hd.ej "Chart",
 Hd.eT "Chart" "most",
 Hd.eT "Chart" "node",
 Hd.eT "Chart" "outcome",
 Hd.eT "Chart" "name",
 Hd.eT "Chart" "_edges",
 Hd.eT "Chart" "_nodes",
 Hd.eT "Chart" "_start",
 Hd.eT "Chart" "outcomes",
 λK=>W.plainGet K (He.ga K "Chart") Str.empty,
 λK=>pV K (He.ga K "Chart"),
 λK=>UR K (He.ga K "Chart"),
 Hd.uB "Chart",
 Hd.uB "TooLarge",
 λK=>decide (bI K (.ref (He.ga K "TooLarge")) "__getattribute__" = ah (ah (.builtin "BaseException.__getattribute__"))),
 Hd.eT "TooLarge" "__getattr__",
 Hd.eT "TooLarge" "most",
 λK=>decide (gI K (.ref (He.ma K (He.ga K "TooLarge") "__init__"))=ah (.type "function")),
 Hd.ej "TooLarge",
 Hd.uC "TooLarge",
 λK=>decide (cb K (.ref (He.ga K "TooLarge")) (.type "ValueError")=ah aj),
 λK=>decide (gI K (.ref (He.ga K "TooLarge"))=ah (.type "type")),
 λK=>pV K (He.ga K "TooLarge"),
 λK=>decide (kS K (He.ga K "TooLarge") (.ref (He.ga K "TooLarge"))=ah aj),
 λK=>decide (wt K (He.ga K "TooLarge") (He.ga K "TooLarge") "__init__" = ah (ah (.builtin "ValueError.__init__"))),
 λK=>decide (cb K (.ref (He.ga K "TooLarge")) (.ref (He.ga K "LoopError"))=ah aj),
 λK=>decide (bI K (.ref (He.ga K "TooLarge")) "__class__" = ah (ah (.builtin "object.__class__"))),
 λK=>decide (kS K (He.ga K "TooLarge") (.type "object")=ah aj),
 Hd.rO "Chart" "__setitem__",
 λK=>mS K (He.ma K (He.ga K "Chart") "__setitem__"),
 λK=>wu K (He.ga K "Chart"),
 Hd.uB "NoNode",
 λK=>decide (bI K (.ref (He.ga K "NoNode")) "__getattribute__" = ah (ah (.builtin "BaseException.__getattribute__"))),
 Hd.eT "NoNode" "__getattr__",
 Hd.eT "NoNode" "node",
 λK=>decide (gI K (.ref (He.ma K (He.ga K "NoNode") "__init__"))=ah (.type "function")),
 Hd.ej "NoNode",
 Hd.uC "NoNode",
 λK=>decide (cb K (.ref (He.ga K "NoNode")) (.type "ValueError")=ah aj),
 λK=>decide (gI K (.ref (He.ga K "NoNode"))=ah (.type "type")),
 λK=>pV K (He.ga K "NoNode"),
 λK=>decide (kS K (He.ga K "NoNode") (.ref (He.ga K "NoNode"))=ah aj),
 λK=>decide (wt K (He.ga K "NoNode") (He.ga K "NoNode") "__init__" = ah (ah (.builtin "ValueError.__init__"))),
 λK=>decide (cb K (.ref (He.ga K "NoNode")) (.ref (He.ga K "LoopError"))=ah aj),
 λK=>decide (bI K (.ref (He.ga K "NoNode")) "__class__" = ah (ah (.builtin "object.__class__"))),
 λK=>decide (kS K (He.ga K "NoNode") (.type "object")=ah aj),
 λK=>decide (US K (He.ga K "Chart") "start" = ah (ah (.ref (He.ma K (He.ga K "Chart") "start")))),
 λK=>decide (gI K (.ref (He.ma K (He.ga K "Chart") "start"))=ah (.type "property")),
 Hd.rO "Chart" "start_at",
 Hd.uB "NoEdge",
 λK=>decide (bI K (.ref (He.ga K "NoEdge")) "__getattribute__" = ah (ah (.builtin "BaseException.__getattribute__"))),
 Hd.eT "NoEdge" "__getattr__",
 Hd.eT "NoEdge" "node",
 Hd.eT "NoEdge" "outcome",
 λK=>decide (gI K (.ref (He.ma K (He.ga K "NoEdge") "__init__"))=ah (.type "function")),
 Hd.ej "NoEdge",
 Hd.uC "NoEdge",
 λK=>decide (cb K (.ref (He.ga K "NoEdge")) (.type "ValueError")=ah aj),
 λK=>decide (gI K (.ref (He.ga K "NoEdge"))=ah (.type "type")),
 λK=>pV K (He.ga K "NoEdge"),
 λK=>decide (kS K (He.ga K "NoEdge") (.ref (He.ga K "NoEdge"))=ah aj),
 λK=>decide (wt K (He.ga K "NoEdge") (He.ga K "NoEdge") "__init__" = ah (ah (.builtin "ValueError.__init__"))),
 λK=>decide (cb K (.ref (He.ga K "NoEdge")) (.ref (He.ga K "LoopError"))=ah aj),
 λK=>decide (bI K (.ref (He.ga K "NoEdge")) "__class__" = ah (ah (.builtin "object.__class__"))),
 λK=>decide (kS K (He.ga K "NoEdge") (.type "object")=ah aj),
 Hd.rO "Chart" "__getitem__",
 λK=>mS K (He.ma K (He.ga K "Chart") "__getitem__"),
 Hd.rO "Chart" "__call__",
 λK=>mS K (He.ma K (He.ga K "Chart") "__call__"),
 Hd.k7 "tuple",
 Hd.k7 "isinstance",
 Hd.k7 "bool",
 λK=>UT K (He.ga K "BadOutcome"),
 λK=>decide (cb K (.ref (He.ga K "TooLarge")) (.ref (He.ga K "BadOutcome"))=ah ak),
 λK=>decide (cb K (.ref (He.ga K "NoEdge")) (.ref (He.ga K "BadOutcome"))=ah ak),
 λK=>decide (cb K (.ref (He.ga K "NoNode")) (.ref (He.ga K "BadOutcome"))=ah ak),
 λK=>decide (cb K (.ref (He.ga K "BadName")) (.ref (He.ga K "BadOutcome"))=ah ak),
 λK=>UT K (He.ga K "NoEdge"),
 λK=>decide (cb K (.ref (He.ga K "TooLarge")) (.ref (He.ga K "NoEdge"))=ah ak),
 λK=>decide (cb K (.ref (He.ga K "NoNode")) (.ref (He.ga K "NoEdge"))=ah ak),
 λK=>decide (cb K (.ref (He.ga K "BadOutcome")) (.ref (He.ga K "NoEdge"))=ah ak),
 λK=>decide (cb K (.ref (He.ga K "BadName")) (.ref (He.ga K "NoEdge"))=ah ak),
 Hd.rO "Chart" "begin",
 Hd.rO "Chart" "step",
 λK=>decide (cb K (.ref (He.ga K "Chart")) (.type "StopIteration")=ah ak),
 λK=>decide (cb K (.ref (He.ga K "BadName")) (.type "StopIteration")=ah ak),
 λK=>decide (cb K (.ref (He.ga K "BadOutcome")) (.type "StopIteration")=ah ak),
 λK=>decide (cb K (.ref (He.ga K "NoNode")) (.type "StopIteration")=ah ak),
 λK=>decide (cb K (.ref (He.ga K "NoEdge")) (.type "StopIteration")=ah ak),
 λK=>decide (cb K (.ref (He.ga K "TooLarge")) (.type "StopIteration")=ah ak),
 λK=>decide ((He.ga K "TooLarge") ≠ (He.ga K "BadOutcome")),
 λK=>decide ((He.ga K "NoEdge") ≠ (He.ga K "BadOutcome")),
 λK=>decide ((He.ga K "NoNode") ≠ (He.ga K "BadOutcome")),
 λK=>decide ((He.ga K "BadName") ≠ (He.ga K "BadOutcome")),
 λK=>decide ((He.ga K "TooLarge") ≠ (He.ga K "NoEdge")),
 λK=>decide ((He.ga K "NoNode") ≠ (He.ga K "NoEdge")),
 λK=>decide ((He.ga K "BadOutcome") ≠ (He.ga K "NoEdge")),
 λK=>decide ((He.ga K "BadName") ≠ (He.ga K "NoEdge"))]
def n0:List Ez:=["_wall", "__name__", "LoopError", "BadName", "BadOutcome", "NoNode", "NoEdge", "TooLarge", "MOST_OUTCOMES", "FIRST", "OTHERS", "is_name", "check_name", "check_row", "Chart", "trace", "_law_draw", "_law_word", "_law_words", "_law_rows", "_law_partial", "_law_order", "_law_called", "_law_traced", "_law_walked", "_law_fits"]
def M4:List Ez:=n0
abbrev HR:PySem.W.OpenRow:=ai2 PySem.Challenge.rw_strikeloops_k06_runs_of_charts
abbrev hq:bO:=W.view HR.prog [29]
abbrev hk:UP:=Hd.MC 1000 rQ GF
def rR(s:UU):Hd.rP:=Hd.FI 1000 rQ GF (HandSHeadRun.getT s)
theorem Xe(s:UU):rR s=hk.obs s.abs:=Hd.Vy (HandSHeadRun.getT_eq s)
theorem Xf(w:bS):HandSHeadRun.RunEq HR hq hk rR 8000 M4 w:=by
 intro os
 kernel_rfl
end dq
end WL
end
section
namespace WL
open PySem PySem.Spec
open L2 hiding Takes XE CX PMk MkP ps_raise ps_try_as ps_try_many passAt passes_call takes_of HdsOk mk_of
open L2N (Takes XE CX PMk MkP ps_raise ps_try_as ps_try_many passAt passes_call takes_of HdsOk mk_of)
open PyProof.Rows hiding St
section
inductive W where
 |non|bl (b:aw)|int (i:Int)|str (x:Str)|tup (ws:List W)|ref (l:Nat)|ty (n:dG)|dA|eH (ns:List Int)
 |obj (c:Nat) (fs:List Nat) (ws:List W)
 |fz (ws:List W)
 |eI (ks:List (List Key)) (ws:List W)
inductive GO where
 |lst (ws:List W)
 |dK (aS:List (Key×W))
 |dT (aS:List (List Key×W))
 |ins (c:Nat) (fs:List (Nat×W))
 |gone
 |dN (aS:List (gE×W))
abbrev G:=List GO
inductive Out (α:Type) where
 |ok (a:α) (g:G)
 |ex (c:Nat) (fs:List (Nat×W)) (g:G)
 |bad
def Out.bind{α β:Type}(r:Out α) (k:α->G->Out β):Out β:=match r with
 | .ok a g=>k a g
 | .ex c fs g=>.ex c fs g
 | .bad=>.bad
abbrev Sg:=List (au W)
abbrev ED:=Sg->G->Out W
abbrev TD:=Sg->G->Out aw
abbrev AD:=Sg->G->Out (List W)
inductive Fl where
 |nx (σ:Sg) (g:G)
 |rt (w:W) (g:G)
 |bk (σ:Sg) (g:G)
 |ct (σ:Sg) (g:G)
 |ex (c:Nat) (fs:List (Nat×W)) (σ:Sg) (g:G)
 |bad
abbrev SD:=Sg->G->Fl
structure k8 where
 a:aq
 slot:Nat
 dd:aq
 c:Nat
 fs:List (Nat×W)
structure Tab where
 K:aT
 cls:Nat->au aq
 fns:List Str
 nd:fns.Nodup
 GG:au k8:=ai
 GH:au (Nat×(aq->NdefX.NF)):=ai
 GJ:List NdefX.NTab:=[]
 k9:gE->Int:=λ_=>0
class jJ (T:Tab):Prop where
 no:T.GG=ai
class j2 (T:Tab):Prop where
 no:T.GH=ai
class GL (T:Tab):Prop where
 no:T.GJ=[]
class Sl (T:Tab) (i:Nat):Prop where
 ne:∀q,T.GH=ah q->i ≠ q.1
instance {T:Tab} [n:j2 T] {i:Nat}:Sl T i:=⟨λq e=>by rw[n.no]at e;cases e⟩
variable{T:Tab}
def B7(T:Tab) (H:Hp) (a:aq) (ns:List Int):Prop:=(∃o,H a=ah (.frz o (.lst (ns.map V.int)))) \/
 ∃(o:Obj) (du:dH az) (n:Nat),T.K.lookup a=ah o/\o.cls = .type "list" /\ o.dict=ai/\o.data = .seq du n/\du.size<=kR/\n_ (ns.map V.int) du.toList
theorem B7.seq{H:Hp}{a:aq}{ns:List Int}(h:B7 T H a ns):SqL T.K H a (ns.map V.int):=h.elim (λ⟨o,e⟩=>.inl (.inr ⟨o,e⟩)) .inr
structure ng(T:Tab) (C:aq):Prop where
 cl:Cls T.K C
 na:∀n∈T.fns,NoAttr T.K C n
def rS(T:Tab):List Nat->List V->List (Str×V)->Prop
 |[],[],c9=>∀m,m ∉ T.fns->c9.lookup m=ai
 |f :: fs,v :: vs,c9=>(∃n,T.fns[f]? = ah n/\c9.lookup n=ah v)/\rS T fs vs c9
 |_,_,_=>False
mutual
def RW(T:Tab) (ρ:List aq) (H:Hp):W->V->Prop
 | .non,v=>v = .non
 | .bl b,v=>v = .bl b
 | .int i,v=>v = .int i
 | .str x,v=>v = .str x
 | .tup ws,v=>∃a vs,v = .ref a/\H a=ah (.tup vs)/\aD T ρ H ws vs
 | .ref l,v=>∃a,ρ[l]? = ah a/\v = .ref a
 | .ty n,v=>v = .ty n
 | .dA,_=>True
 | .eH ns,v=>∃a,v = .ref a/\B7 T H a ns
 | .obj c fs ws,v=>∃a C dx c9 vs,v = .ref a/\dx∈ρ/\T.cls c=ah C/\ng T C/\H a=ah (.ins C dx c9)/\rS T fs vs c9/\aD T ρ H ws vs
 | .fz ws,v=>∃a o vs,v = .ref a/\H a=ah (.frz o (.lst vs))/\aD T ρ H ws vs
 | .eI ks ws,v=>∃a o vs,v = .ref a/\H a=ah (.frz o (.dT vs))/\vs.map (·.1)=ks/\ks.Nodup/\aD T ρ H ws (vs.map (·.2))
def aD(T:Tab) (ρ:List aq) (H:Hp):List W->List V->Prop
 |[],vs=>vs=[]
 |w :: ws,vs=>∃v r,vs=v :: r/\RW T ρ H w v/\aD T ρ H ws r
end
def RF(T:Tab) (ρ:List aq) (H:Hp):List (Nat×W)->List (Str×V)->Prop
 |[],vs=>vs=[]
 |(f,w) :: ws,vs=>∃n v r,vs=(n,v) :: r/\T.fns[f]? = ah n/\RW T ρ H w v/\RF T ρ H ws r
def cM(T:Tab) (ρ:List aq) (H:Hp):Sg->St->Prop
 |[],σ=>σ=[]
 |none :: ws,σ=>∃v r,σ=v :: r/\cM T ρ H ws r
 |some w :: ws,σ=>∃v r,σ=ah v :: r/\RW T ρ H w v/\cM T ρ H ws r
def ky(T:Tab) (H:Hp) (σ:St):Prop:=∀q,T.GH=ah q->∃f c,σ[q.1]? = ah (ah (.ref f))/\H f=ah (NdefX.FnO f (q.2 c))/\H (q.2 c).c=ah (LamX.CodeO (q.2 c).c (q.2 c).qual)
def oQ(T:Tab) (ρ:List aq) (H:Hp) (σ:St):Prop:=(∀p,T.GG=ah p->σ[p.slot]? = ah (ah (.ref p.a))/\∃vs,H p.dd=ah (.xd vs)/\RF T ρ H p.fs vs)/\ky T H σ
def RS(T:Tab) (ρ:List aq) (H:Hp) (ws:Sg) (σ:St):Prop:=cM T ρ H ws σ/\oQ T ρ H σ
structure GrowW(ρ:List aq) (H:Hp) (ρ':List aq) (H':Hp):Prop where
 pre:∀(l:Nat) (a:aq),ρ[l]? = ah a->ρ'[l]? = ah a
 tup:∀(a:aq) (vs:List V),H a=ah (.tup vs)->H' a=ah (.tup vs)
 frz:∀(a:aq) (o:Obj) (u:HO),H a=ah (.frz o u)->H' a=ah (.frz o u)
 xd:∀(a:aq) (vs:List (Str×V)),H a=ah (.xd vs)->H' a=ah (.xd vs)
 ins:∀(a C dx:aq) (vs:List (Str×V)),dx∈ρ->H a=ah (.ins C dx vs)->H' a=ah (.ins C dx vs)
 B9:∀(f:aq) (F:NdefX.NF),H f=ah (NdefX.FnO f F)->H' f=ah (NdefX.FnO f F)
 B_:∀(c:aq) (q:Str),H c=ah (LamX.CodeO c q)->H' c=ah (LamX.CodeO c q)
structure qj(ρ:List aq) (H:Hp) (ρ':List aq) (H':Hp):Prop extends GrowW ρ H ρ' H' where
 un:∀(b y:aq) (o:HO),b ∉ ρ->H b=ah (.own y)->H y=ah o->b ∉ ρ'/\H' b=ah (.own y)/\∃o',H' y=ah o'
theorem GrowW.mem{ρ H ρ' H'}(gr:GrowW ρ H ρ' H') {a:aq}(h:a∈ρ):a∈ρ':=by
 obtain⟨l,hl⟩:=wz.mp h;exact di (gr.pre l a hl)
theorem qj.refl{ρ H}:qj ρ H ρ H:=⟨⟨λ_ _ h=>h,λ_ _ h=>h,λ_ _ _ h=>h,λ_ _ h=>h,λ_ _ _ _ _ h=>h,λ_ _ h=>h,λ_ _ h=>h⟩,λ_ _ o h e z=>⟨h,e,o,z⟩⟩
theorem GrowW.trans{ρ H ρ1 H1 ρ2 H2}(a:GrowW ρ H ρ1 H1) (b:GrowW ρ1 H1 ρ2 H2):GrowW ρ H ρ2 H2:=
 ⟨λl x h=>b.pre l x (a.pre l x h),λl x h=>b.tup l x (a.tup l x h),λl o x h=>b.frz l o x (a.frz l o x h),λl x h=>b.xd l x (a.xd l x h),λx C dx vs h e=>b.ins x C dx vs (a.mem h) (a.ins x C dx vs h e),λf F h=>b.B9 f F (a.B9 f F h),λc q h=>b.B_ c q (a.B_ c q h)⟩
theorem qj.trans{ρ H ρ1 H1 ρ2 H2}(a:qj ρ H ρ1 H1) (b:qj ρ1 H1 ρ2 H2):qj ρ H ρ2 H2:=
 ⟨a.toGrowW.trans b.toGrowW,λx y o h e z=>let ⟨h1,e1,o1,z1⟩:=a.un x y o h e z;b.un x y o1 h1 e1 z1⟩
mutual
theorem RW.fU{ρ H ρ' H'}(gr:GrowW ρ H ρ' H'):∀(w:W) (v:V),RW T ρ H w v->RW T ρ' H' w v
 | .non,_,h=>by simpa only[RW] using h
 | .bl _,_,h=>by simpa only[RW] using h
 | .int _,_,h=>by simpa only[RW] using h
 | .str _,_,h=>by simpa only[RW] using h
 | .tup ws,_,h=>by
  simp only[RW]at h ⊢;obtain⟨a,vs,e,t,r⟩:=h;exact⟨a,vs,e,gr.tup _ _ t,aD.fU gr ws vs r⟩
 | .ref l,_,h=>by
  simp only[RW]at h ⊢;obtain⟨a,e,q⟩:=h;exact⟨a,gr.pre _ _ e,q⟩
 | .ty _,_,h=>by simpa only[RW] using h
 | .dA,_,_=>by simp only[RW]
 | .eH ns,_,h=>by
  simp only[RW]at h ⊢;obtain⟨a,e,q⟩:=h;exact⟨a,e,q.elim (λ⟨o,z⟩=>.inl ⟨o,gr.frz _ _ _ z⟩) .inr⟩
 | .obj c fs ws,_,h=>by
  simp only[RW]at h ⊢;obtain⟨a,C,dx,c9,vs,e,n,hc,cw,hH,nm,r⟩:=h;exact⟨a,C,dx,c9,vs,e,gr.mem n,hc,cw,gr.ins a C dx c9 n hH,nm,aD.fU gr ws vs r⟩
 | .fz ws,_,h=>by
  simp only[RW]at h ⊢;obtain⟨a,o,vs,e,t,r⟩:=h;exact⟨a,o,vs,e,gr.frz _ _ _ t,aD.fU gr ws vs r⟩
 | .eI ks ws,_,h=>by
  simp only[RW]at h ⊢;obtain⟨a,o,vs,e,t,k,n,r⟩:=h;exact⟨a,o,vs,e,gr.frz _ _ _ t,k,n,aD.fU gr ws _ r⟩
theorem aD.fU{ρ H ρ' H'}(gr:GrowW ρ H ρ' H'):∀(ws:List W) (vs:List V),aD T ρ H ws vs->aD T ρ' H' ws vs
 |[],_,h=>by simpa only[aD] using h
 |w :: ws,_,h=>by
  simp only[aD]at h ⊢;obtain⟨v,r,e,a,b⟩:=h;exact⟨v,r,e,RW.fU gr w v a,aD.fU gr ws r b⟩
end
theorem RW.mono{ρ H ρ' H'}(gr:qj ρ H ρ' H') (w:W) (v:V) (h:RW T ρ H w v):RW T ρ' H' w v:=RW.fU gr.toGrowW w v h
theorem aD.mono{ρ H ρ' H'}(gr:qj ρ H ρ' H') (ws:List W) (vs:List V) (h:aD T ρ H ws vs):aD T ρ' H' ws vs:=aD.fU gr.toGrowW ws vs h
theorem RF.fU{ρ H ρ' H'}(gr:GrowW ρ H ρ' H'):∀(ws:List (Nat×W)) (vs:List (Str×V)),RF T ρ H ws vs->RF T ρ' H' ws vs
 |[],_,h=>h
 |(f,w) :: ws,_,h=>by
  obtain⟨n,v,r,e,z,a,b⟩:=h;exact⟨n,v,r,e,z,RW.fU gr w v a,RF.fU gr ws r b⟩
theorem RF.mono{ρ H ρ' H'}(gr:qj ρ H ρ' H') (ws:List (Nat×W)) (vs:List (Str×V)) (h:RF T ρ H ws vs):RF T ρ' H' ws vs:=RF.fU gr.toGrowW ws vs h
theorem cM.mono{ρ H ρ' H'}(gr:qj ρ H ρ' H'):∀(ws:Sg) (σ:St),cM T ρ H ws σ->cM T ρ' H' ws σ
 |[],_,h=>h
 |none :: ws,_,h=>by
  obtain⟨v,r,e,b⟩:=h;exact⟨v,r,e,cM.mono gr ws r b⟩
 |some w :: ws,_,h=>by
  obtain⟨v,r,e,a,b⟩:=h;exact⟨v,r,e,RW.mono gr w v a,cM.mono gr ws r b⟩
theorem ky.mono{ρ H ρ' H' σ}(gr:qj ρ H ρ' H') (h:ky T H σ):ky T H' σ:=λq e=>let ⟨f,c,a,b,d⟩:=h q e; ⟨f,c,a,gr.B9 f _ b,gr.B_ _ _ d⟩
theorem ky.no [n:j2 T] {H σ}:ky T H σ:=λq e=>by rw[n.no]at e;cases e
theorem ky.set [n:Sl T i] {H σ v}(h:ky T H σ):ky T H (σ.set i v):=λq e=>let ⟨f,c,a,b,d⟩:=h q e; ⟨f,c,(c5 (n.ne q e)).trans a,b,d⟩
theorem oQ.mono{ρ H ρ' H' σ}(gr:qj ρ H ρ' H') (h:oQ T ρ H σ):oQ T ρ' H' σ:=⟨λp e=>by
 obtain⟨a,vs,b,c⟩:=h.1 p e;exact⟨a,vs,gr.xd _ _ b,c.mono gr _ _⟩,h.2.mono gr⟩
theorem RS.mono{ρ H ρ' H'}(gr:qj ρ H ρ' H') (ws:Sg) (σ:St) (h:RS T ρ H ws σ):RS T ρ' H' ws σ:=⟨h.1.mono gr _ _,h.2.mono gr⟩
theorem oQ.nf [n:jJ T] {ρ H σ}(h:ky T H σ):oQ T ρ H σ:=⟨λp e=>(by rw[n.no]at e;cases e),h⟩
theorem oQ.no [n:jJ T] [j2 T] {ρ H σ}:oQ T ρ H σ:=.nf .no
theorem aD.length{ρ H}:∀{ws:List W}{vs:List V},aD T ρ H ws vs->ws.length=vs.length
 |[],_,h=>by simp only[aD]at h;subst h;rfl
 |w :: ws,_,h=>by
  simp only[aD]at h;obtain⟨v,r,rfl,_,b⟩:=h;simp only[cq,aD.length b]
theorem aD.get{ρ H}:∀{ws:List W}{vs:List V}{i:Nat}{w:W},aD T ρ H ws vs->ws[i]? = ah w->∃v,vs[i]? = ah v/\RW T ρ H w v
 |[],_,_,_,_,e=>by simp at e
 |w :: ws,_,0,_,h,e=>by
  simp only[aD]at h;obtain⟨v,r,rfl,a,_⟩:=h;simp at e;subst e;exact⟨v,rfl,a⟩
 |w :: ws,_,i+1,x,h,e=>by
  simp only[aD]at h;obtain⟨v,r,rfl,_,b⟩:=h;obtain⟨v',e',q⟩:=aD.get (i:=i) (w:=x) b (by simpa using e);exact⟨v',by simpa using e',q⟩
theorem aD.append{ρ H}:∀{ws ys:List W}{vs us:List V},aD T ρ H ws vs->aD T ρ H ys us->aD T ρ H (ws++ys) (vs++us)
 |[],_,_,_,h,k=>by simp only[aD]at h;subst h;exact k
 |w :: ws,_,_,_,h,k=>by
  simp only[aD,LL]at h ⊢;obtain⟨v,r,rfl,a,b⟩:=h;exact⟨v,r++_,rfl,a,aD.append b k⟩
theorem aD.nil{ρ H}:aD T ρ H [] []:=by simp only[aD]
theorem aD.cons{ρ H w v ws vs}(a:RW T ρ H w v) (b:aD T ρ H ws vs):aD T ρ H (w :: ws) (v :: vs):=by simp only[aD];exact⟨v,vs,rfl,a,b⟩
theorem aD.one{ρ H w vs}(h:aD T ρ H [w] vs):∃v,vs=[v]/\RW T ρ H w v:=by
 simp only[aD]at h;obtain⟨v,r,rfl,a,rfl⟩:=h;exact⟨v,rfl,a⟩
theorem cM.length{ρ H}:∀{ws:Sg}{σ:St},cM T ρ H ws σ->ws.length=σ.length
 |[],_,h=>by have h:_=[]:=h;subst h;rfl
 |none :: ws,_,h=>by
  obtain⟨v,r,rfl,b⟩:=h;simp only[cq,cM.length b]
 |some w :: ws,_,h=>by
  obtain⟨v,r,rfl,a,b⟩:=h;simp only[cq,cM.length b]
theorem cM.get{ρ H}:∀{ws:Sg}{σ:St}{i:Nat}{w:W},cM T ρ H ws σ->ws[i]? = ah (ah w)->∃v,σ[i]? = ah (ah v)/\RW T ρ H w v
 |[],_,_,_,_,e=>by simp at e
 |none :: ws,_,0,_,h,e=>by simp at e
 |some w :: ws,_,0,_,h,e=>by
  obtain⟨v,r,rfl,a,_⟩:=h;simp at e;subst e;exact⟨v,rfl,a⟩
 |none :: ws,_,i+1,x,h,e=>by
  obtain⟨v,r,rfl,b⟩:=h;obtain⟨v',e',q⟩:=cM.get (i:=i) (w:=x) b (by simpa using e);exact⟨v',by simpa using e',q⟩
 |some w :: ws,_,i+1,x,h,e=>by
  obtain⟨v,r,rfl,_,b⟩:=h;obtain⟨v',e',q⟩:=cM.get (i:=i) (w:=x) b (by simpa using e);exact⟨v',by simpa using e',q⟩
theorem cM.set{ρ H w v}(a:RW T ρ H w v):∀{ws:Sg}{σ:St}(i:Nat),cM T ρ H ws σ->cM T ρ H (ws.set i (ah w)) (σ.set i (ah v))
 |[],_,_,h=>by have h:_=[]:=h;subst h;exact rfl
 |none :: ws,_,0,h=>by
  obtain⟨u,r,rfl,b⟩:=h;exact⟨v,r,rfl,a,b⟩
 |some _ :: ws,_,0,h=>by
  obtain⟨u,r,rfl,_,b⟩:=h;exact⟨v,r,rfl,a,b⟩
 |none :: ws,_,i+1,h=>by
  obtain⟨u,r,rfl,b⟩:=h;exact⟨u,r.set i (ah v),rfl,cM.set a i b⟩
 |some _ :: ws,_,i+1,h=>by
  obtain⟨u,r,rfl,q,b⟩:=h;exact⟨u,r.set i (ah v),rfl,q,cM.set a i b⟩
theorem cM.unset{ρ H v}:∀{ws:Sg}{σ:St}(i:Nat),cM T ρ H ws σ->cM T ρ H (ws.set i ai) (σ.set i v)
 |[],_,_,h=>by have h:_=[]:=h;subst h;exact rfl
 |none :: ws,_,0,h=>by
  obtain⟨u,r,rfl,b⟩:=h;exact⟨v,r,rfl,b⟩
 |some _ :: ws,_,0,h=>by
  obtain⟨u,r,rfl,_,b⟩:=h;exact⟨v,r,rfl,b⟩
 |none :: ws,_,i+1,h=>by
  obtain⟨u,r,rfl,b⟩:=h;exact⟨u,r.set i v,rfl,cM.unset i b⟩
 |some _ :: ws,_,i+1,h=>by
  obtain⟨u,r,rfl,q,b⟩:=h;exact⟨u,r.set i v,rfl,q,cM.unset i b⟩
theorem RS.length{ρ H}{ws:Sg}{σ:St}(h:RS T ρ H ws σ):ws.length=σ.length:=h.1.length
theorem RS.get{ρ H}{ws:Sg}{σ:St}{i:Nat}{w:W}(h:RS T ρ H ws σ) (e:ws[i]? = ah (ah w)):∃v,σ[i]? = ah (ah v)/\RW T ρ H w v:=h.1.get e
theorem RS.set [jJ T] {ρ H w v}(a:RW T ρ H w v) {ws:Sg}{σ:St}(i:Nat) [Sl T i] (h:RS T ρ H ws σ):RS T ρ H (ws.set i (ah w)) (σ.set i (ah v)):=⟨h.1.set a i,.nf h.2.2.set⟩
theorem RS.unset [jJ T] {ρ H v}{ws:Sg}{σ:St}(i:Nat) [Sl T i] (h:RS T ρ H ws σ):RS T ρ H (ws.set i ai) (σ.set i v):=⟨h.1.unset i,.nf h.2.2.set⟩
theorem M5{f k:Nat}{n:Str}(h:T.fns[f]? = ah n) (h':T.fns[k]? = ah n):f=k:=by
 obtain⟨a,b⟩:=bP.mp h;obtain⟨c,d⟩:=bP.mp h';exact(LM T.nd).mp (b.trans d.symm)
def ZV(f:Nat):List (Nat×W)->au W
 |[]=>ai
 |(k,x) :: r=>if k=f then ah x else ZV f r
def Jy(f:Nat) (v:W):List (Nat×W)->List (Nat×W)
 |[]=>[(f,v)]
 |(k,x) :: r=>if k=f then (k,v) :: r else (k,x) :: Jy f v r
theorem RF.lookup{ρ H}:∀{fs:List (Nat×W)}{vs:List (Str×V)}{f:Nat}{n:Str}{w:W},RF T ρ H fs vs->T.fns[f]? = ah n->ZV f fs=ah w->∃v,vs.lookup n=ah v/\RW T ρ H w v
 |[],_,_,_,_,h,_,e=>by cases e
 |(k,x) :: fs,_,f,n,w,h,hn,e=>by
  obtain⟨m,v,r,rfl,z,a,b⟩:=h;simp only[ZV]at e
  split at e
  ·rename_i hk
   subst hk;cases e;rw[hn]at z;cases z;exact⟨v,by simp[kd],a⟩
  ·rename_i hk
   have ne:(n == m)=ak:=by
    rw[A3];exact λq=>hk (M5 z (q ▸ hn))
   obtain⟨v',e',q⟩:=RF.lookup b hn e;exact⟨v',by simp only[kd,ne];exact e',q⟩
theorem RF.absent{ρ H}{m:Str}:∀{fs:List (Nat×W)}{vs:List (Str×V)},RF T ρ H fs vs->m ∉ T.fns->vs.lookup m=ai
 |[],_,h,_=>by have h:_=[]:=h;subst h;rfl
 |(k,x) :: fs,_,h,hm=>by
  obtain⟨n,v,r,rfl,z,a,b⟩:=h
  have ne:(m == n)=ak:=by
   rw[A3];exact λq=>hm (q ▸ di z)
  simp only[kd,ne];exact RF.absent b hm
theorem RF.length{ρ H}:∀{fs:List (Nat×W)}{vs:List (Str×V)},RF T ρ H fs vs->fs.length=vs.length
 |[],_,h=>by have h:_=[]:=h;subst h;rfl
 |(k,w) :: fs,_,h=>by
  obtain⟨n,v,r,rfl,z,a,b⟩:=h;simp only[cq,RF.length b]
theorem RF.put{ρ H f n w v}(a:RW T ρ H w v) (hn:T.fns[f]? = ah n):∀{fs:List (Nat×W)}{vs:List (Str×V)},RF T ρ H fs vs->RF T ρ H (Jy f w fs) (putF n v vs)
 |[],_,h=>by
  have h:_=[]:=h;subst h;exact⟨n,v,[],rfl,hn,a,rfl⟩
 |(k,x) :: fs,_,h=>by
  obtain⟨m,u,r,rfl,z,q,b⟩:=h;show RF T ρ H (if k=f then (k,w) :: fs else (k,x) :: Jy f w fs) (if m=n then (m,v) :: r else (m,u) :: putF n v r)
  by_cases e:k=f
  ·subst e
   rw[hn]at z;cases z;rw[aG rfl,aG rfl];exact⟨_,v,r,rfl,hn,a,b⟩
  ·rw[aR e,aR (λ(q:m=n)=>e (M5 z (q ▸ hn)))]
   exact⟨m,u,_,rfl,z,q,RF.put a hn b⟩

def RD{κ:Type}(T:Tab) (ρ:List aq) (H:Hp):List (κ×W)->List (κ×V)->Prop
 |[],vs=>vs=[]
 |(k,w) :: ws,vs=>∃v r,vs=(k,v) :: r/\RW T ρ H w v/\RD T ρ H ws r
theorem RD.fU{κ:Type}{ρ H ρ' H'}(gr:GrowW ρ H ρ' H'):∀(ws:List (κ×W)) (vs:List (κ×V)),RD T ρ H ws vs->RD T ρ' H' ws vs
 |[],_,h=>h
 |(f,w) :: ws,_,h=>by
  obtain⟨v,r,e,a,b⟩:=h;exact⟨v,r,e,RW.fU gr w v a,RD.fU gr ws r b⟩
theorem RD.mono{κ:Type}{ρ H ρ' H'}(gr:qj ρ H ρ' H') (ws:List (κ×W)) (vs:List (κ×V)) (h:RD T ρ H ws vs):RD T ρ' H' ws vs:=RD.fU gr.toGrowW ws vs h
theorem RD.length{κ:Type}{ρ H}:∀{fs:List (κ×W)}{vs:List (κ×V)},RD T ρ H fs vs->fs.length=vs.length
 |[],_,h=>by have h:_=[]:=h;subst h;rfl
 |(k,w) :: fs,_,h=>by
  obtain⟨v,r,rfl,a,b⟩:=h;simp only[cq,RD.length b]
theorem RD.ws{κ:Type}{ρ H}:∀{ws:List (κ×W)}{vs:List (κ×V)},RD T ρ H ws vs->aD T ρ H (ws.map (·.2)) (vs.map (·.2))
 |[],_,h=>by have h:_=[]:=h;subst h;exact aD.nil
 |(k,w) :: fs,_,h=>by
  obtain⟨v,r,rfl,a,b⟩:=h;exact aD.cons a (RD.ws b)
theorem M6{κ:Type}{ρ H}:∀{ks:List κ}{ws:List W}{vs:List (κ×V)},vs.map (·.1)=ks->aD T ρ H ws (vs.map (·.2))->RD T ρ H (ks.zip ws) vs
 |[],ws,[],_,_=>by simp only[UW];exact(rfl:([]:List (κ×V))=[])
 |k :: ks,w :: ws,(k',v) :: vs,h,r=>by
  simp only[c6,Bg.injEq]at h;simp only[c6,aD]at r;obtain⟨v',r',e,a,b⟩:=r;cases e;obtain⟨rfl,h⟩:=h;exact⟨v,vs,rfl,a,M6 h b⟩
 |[],_,_ :: _,h,_=>by cases h
 |_ :: _,_,[],h,_=>by cases h
 |_ :: _,[],_ :: _,_,r=>by simp only[c6,aD]at r;cases r
section
variable{κ:Type} [DecidableEq κ]
def k_(k:κ):List (κ×W)->au W
 |[]=>ai
 |(j,x) :: r=>if j=k then ah x else k_ k r
def Ji(k:κ) (w:W):List (κ×W)->List (κ×W)
 |[]=>[(k,w)]
 |(j,x) :: r=>if j=k then (j,w) :: r else (j,x) :: Ji k w r
theorem RD.val{ρ H}{k:κ}:∀{ws:List (κ×W)}{vs:List (κ×V)},RD T ρ H ws vs->(∀w,k_ k ws=ah w->∃v,valV vs k=ah v/\RW T ρ H w v)/\(k_ k ws=ai->valV vs k=ai)
 |[],_,h=>by
  have h:_=[]:=h;subst h;exact⟨λw e=>(by cases e),λ_=>rfl⟩
 |(j,x) :: r,_,h=>by
  obtain⟨v,r',rfl,a,b⟩:=h
  by_cases e:j=k
  ·subst e
   rw[valV_pos (p:=(j,v)) rfl];simp only[k_,lS];exact⟨λw e=>by cases e;exact⟨v,rfl,a⟩,λe=>by cases e⟩
  ·rw[valV_neg (p:=(j,v)) e]
   simp only[k_,aR e];exact RD.val b
theorem Xg{j k:κ}{u v:V}{r:List (κ×V)}(nd:(((j,u) :: r).map (·.1)).Nodup):putK ((j,u) :: r) k v=if j=k then (j,v) :: r else (j,u) :: putK r k v:=by
 have hj:∀q∈r,q.1 ≠ j:=λq hq e=>(Bh.mp nd).1 (eR.mpr ⟨q,hq,e⟩);unfold putK
 by_cases e:j=k
 ·subst e
  have hr:(r.map λkv=>if kv.1=j then (kv.1,v) else kv)=r:=by
   conv=>rhs;rw[<- List.map_id r]
   exact UX λq hq=>aR (hj q hq)
  simp[hr]
 ·simp only[UY,e,decide_false,Bool.false_or,Um,c6,LL]
  split <;> rfl
theorem RD.keys{ρ H}:∀{ws:List (κ×W)}{vs:List (κ×V)},RD T ρ H ws vs->vs.map (·.1)=ws.map (·.1)
 |[],_,h=>by have h:_=[]:=h;subst h;rfl
 |(j,x) :: r,_,h=>by
  obtain⟨v,r',rfl,a,b⟩:=h;simp only[c6,RD.keys b]
theorem M7{k:κ}{w:W}{j:κ}:∀{ws:List (κ×W)},j∈(Ji k w ws).map (·.1)↔j=k\/j∈ws.map (·.1)
 |[]=>by simp[Ji]
 |(i,x) :: r=>by
  simp only[Ji]
  split
  ·rename_i e
   subst e;simp
  ·simp only[c6,cJ,M7 (ws:=r)]
   constructor
   ·rintro(h|h|h)
    ·exact .inr (.inl h)
    ·exact .inl h
    ·exact .inr (.inr h)
   ·rintro(h|h|h)
    ·exact .inr (.inl h)
    ·exact .inl h
    ·exact .inr (.inr h)
theorem GN{k:κ}{w:W}:∀{ws:List (κ×W)},(ws.map (·.1)).Nodup->((Ji k w ws).map (·.1)).Nodup
 |[],_=>by simp[Ji]
 |(i,x) :: r,h=>by
  have h':=Bh.mp h;simp only[Ji]
  split
  ·exact h
  ·rename_i e
   refine Bh.mpr ⟨λhm=>?_,GN h'.2⟩;rcases M7.mp hm with q|q
   ·exact e q
   ·exact h'.1 q
theorem RD.put{ρ H}{k:κ}{w:W}{v:V}(q:RW T ρ H w v):∀{ws:List (κ×W)}{vs:List (κ×V)},RD T ρ H ws vs->(ws.map (·.1)).Nodup->RD T ρ H (Ji k w ws) (putK vs k v)
 |[],_,h,_=>by
  have h:_=[]:=h;subst h;exact⟨v,[],rfl,q,rfl⟩
 |(j,x) :: r,_,h,nd=>by
  have hk:=RD.keys h;obtain⟨u,r',rfl,a,b⟩:=h;rw[Xg (by rw[hk];exact nd)];simp only[Ji]
  by_cases e:j=k
  ·rw[aG e,aG e]
   exact⟨v,r',rfl,q,b⟩
  ·rw[aR e,aR e]
   exact⟨u,_,rfl,a,RD.put q b (Bh.mp nd).2⟩
end
mutual
def kW:gE->W
 | .none=>.non
 | .num i=>.int i
 | .text x=>.str x
 | .tup ks=>.tup (M8 ks)
def M8:List gE->List W
 |[]=>[]
 |k :: ks=>kW k :: M8 ks
end
def Xh(k9:gE->Int) (x:gE×aq×az):DictEntry:=⟨k9 x.1,.ref x.2.1,x.2.2⟩
def Xi(k9:gE->Int) (a:aq) (xs:List (gE×aq×az)) (h:bj):Prop:=
 xs.length<=kR/\(a == sysModules)=ak/\∃o es ep,h.get? a=ah o/\o.ExactDict/\o.data = .dict es ep/\es.toList=xs.map (Xh k9)
abbrev Xj(T:Tab) (ρ:List aq) (H:Hp):List (gE×V)->List (gE×aq×az)->Prop:=Paired λp q=>p.1=q.1/\(RW T ρ H (kW p.1) (.ref q.2.1)/\p.1.depth<=8)/\RelV p.2 q.2.2
def RO(T:Tab) (ρ:List aq) (H:Hp):GO->aq->Prop
 | .lst ws,a=>∃vs,H a=ah (.lst vs)/\aD T ρ H ws vs
 | .dK aS,a=>∃vs,H a=ah (.dK vs)/\RD T ρ H aS vs/\(aS.map (·.1)).Nodup
 | .dT aS,a=>∃vs,H a=ah (.dT vs)/\RD T ρ H aS vs/\(aS.map (·.1)).Nodup
 | .ins c fs,a=>∃C dx vs,T.cls c=ah C/\ng T C/\H a=ah (.ins C dx vs)/\RF T ρ H fs vs/\dx ∉ ρ/\H dx=ah (.own a)
 | .gone,a=>∃o,H a=ah o
 | .dN aS,a=>∃xs vs,H a=ah (.ext (Xi T.k9 a xs))/\RD T ρ H aS vs/\(aS.map (·.1)).Nodup/\Xj T ρ H vs xs
structure RG(T:Tab) (ρ:List aq) (H:Hp) (g:G):Prop where
 nd:ρ.Nodup
 len:ρ.length=g.length
 obj:∀(l:Nat) (o:GO) (a:aq),g[l]? = ah o->ρ[l]? = ah a->RO T ρ H o a
 tb:NdefX.TabsN T.GJ H
def rT:au HO->Prop
 |some (.tup _)=>False
 |some (.frz _ _)=>False
 |some (.xd _)=>False
 |some (.own _)=>False
 |some (.tbl _)=>False
 |some (.ext P)=>(∀f F,(.ext P:HO) ≠ NdefX.FnO f F)/\∀c q,(.ext P:HO) ≠ LamX.CodeO c q
 |some _=>True
 |none=>False
def ig:au HO->Prop
 |some (.tup _)=>False
 |some (.frz _ _)=>False
 |some (.xd _)=>False
 |some (.own _)=>False
 |some (.ins _ _ _)=>False
 |some (.tbl _)=>False
 |some (.ext P)=>(∀f F,(.ext P:HO) ≠ NdefX.FnO f F)/\∀c q,(.ext P:HO) ≠ LamX.CodeO c q
 |some _=>True
 |none=>False
theorem ig.i{x:au HO}(h:ig x):rT x:=by
 cases x with
 |none=>exact h
 |some o=>cases o <;> first|exact h|trivial
theorem RO.there{ρ H o a}(h:RO T ρ H o a):∃x,H a=ah x:=by
 cases o with
 |lst ws=>obtain⟨vs,e,_⟩:=h;exact⟨_,e⟩
 |dK aS=>obtain⟨vs,e,_⟩:=h;exact⟨_,e⟩
 |dT aS=>obtain⟨vs,e,_⟩:=h;exact⟨_,e⟩
 |ins c fs=>obtain⟨C,dx,vs,_,_,e,_⟩:=h;exact⟨_,e⟩
 |gone=>exact h
 |dN aS=>obtain⟨xs,vs,e,_⟩:=h;exact⟨_,e⟩
theorem RO.mono{ρ H ρ' H' o a}(gr:qj ρ H ρ' H') (k:∀x,H a=ah x->H' a=ah x) (h:RO T ρ H o a):RO T ρ' H' o a:=by
 cases o with
 |lst ws=>obtain⟨vs,e,q⟩:=h;exact⟨vs,k _ e,q.mono gr _ _⟩
 |dK aS=>obtain⟨vs,e,q,n⟩:=h;exact⟨vs,k _ e,q.mono gr _ _,n⟩
 |dT aS=>obtain⟨vs,e,q,n⟩:=h;exact⟨vs,k _ e,q.mono gr _ _,n⟩
 |ins c fs=>obtain⟨C,dx,vs,c,p,e,q,n,eo⟩:=h;exact⟨C,dx,vs,c,p,k _ e,q.mono gr _ _,(gr.un dx a _ n eo e).1,(gr.un dx a _ n eo e).2.1⟩
 |gone=>obtain⟨x,e⟩:=h;exact⟨x,k _ e⟩
 |dN aS=>obtain⟨xs,vs,e,q,n,r⟩:=h;exact⟨xs,vs,k _ e,q.mono gr _ _,n,Paired.mapP r λp q z=>⟨z.1,⟨RW.mono gr _ _ z.2.1.1,z.2.1.2⟩,z.2.2⟩⟩
theorem Xk{H:Hp}{a p:aq}{o u:HO}(e:H a=ah u):∃u',upd H p o a=ah u':=by
 by_cases h:a=p
 ·subst h;exact⟨o,ez⟩
 ·exact⟨u,by rw[gF h];exact e⟩
theorem M9{L:List NdefX.NTab}{H:Hp}{p:aq}{o:HO}(hp:H p=ai) (t:NdefX.TabsN L H):NdefX.TabsN L (upd H p o):=t.ext λa x e=>by rw[gF (Ei e hp)];exact e
theorem Xl{L:List NdefX.NTab}{H:Hp}{p:aq}{o:HO}(hp:rT (H p)) (t:NdefX.TabsN L H):NdefX.TabsN L (upd H p o):=λq hq=>by
 obtain⟨ps,h1,h2,h3⟩:=t q hq;have k:∀a x,H a=ah x -> ¬ rT (ah x)->upd H p o a=ah x:=λa x e n=>by rw[gF (λz=>n (by rw[<- e,z];exact hp))];exact e
 exact⟨ps,k _ _ h1 λz=>z,h2,λpos cv hc=>let ⟨c,e1,e2⟩:=h3 pos cv hc; ⟨c,e1,k _ _ e2 λz=>z.2 c _ rfl⟩⟩
theorem jK{ρ:List aq}{H:Hp}{p:aq}{o:HO}(hp:H p=ai):qj ρ H ρ (upd H p o):=by
 have k:∀a x,H a=ah x->upd H p o a=ah x:=λa x e=>by rw[gF (Ei e hp)];exact e
 exact⟨⟨λ_ _ h=>h,λa vs h=>k _ _ h,λa o u h=>k _ _ h,λa vs h=>k _ _ h,λa C dx vs _ e=>k _ _ e,λf F e=>k _ _ e,λc q e=>k _ _ e⟩,λb y o n e z=>⟨n,k _ _ e,_,k _ _ z⟩⟩
theorem M_{ρ:List aq}{H:Hp}{p:aq}{o:HO}(hm:∀C dx vs,H p=ah (.ins C dx vs)->dx ∉ ρ) (hp:rT (H p)):qj ρ H ρ (upd H p o):=by
 have k:∀a x,H a=ah x -> ¬ rT (ah x)->upd H p o a=ah x:=λa x e n=>by rw[gF (λz=>n (by rw[<- e,z];exact hp))];exact e
 exact⟨⟨λ_ _ h=>h,λa vs h=>k _ _ h λz=>z,λa o u h=>k _ _ h λz=>z,λa vs h=>k _ _ h λz=>z,λa C dx vs n e=>by rw[gF (λz=>hm C dx vs (by rw[<- z];exact e) n)];exact e,λf F e=>k _ _ e λz=>z.1 f F rfl,λc q e=>k _ _ e λz=>z.2 c q rfl⟩,λb y o n e z=>⟨n,k _ _ e λz=>z,Xk z⟩⟩
theorem qI{ρ:List aq}{H:Hp}{p:aq}{o:HO}(hp:ig (H p)):qj ρ H ρ (upd H p o):=M_ (λC dx vs e=>by rw[e]at hp;exact hp.elim) hp.i
theorem RG.at{ρ H g}(R:RG T ρ H g) {l:Nat}{o:GO}(h:g[l]? = ah o):∃a,ρ[l]? = ah a/\RO T ρ H o a:=by
 have hl:l<ρ.length:=by
  rw[R.len];exact(bP.mp h).1
 exact⟨ρ[l],ke hl,R.obj l o _ h (ke hl)⟩
theorem RG.there{ρ H g}(R:RG T ρ H g) {l:Nat}{a:aq}(h:ρ[l]? = ah a):∃o,g[l]? = ah o/\RO T ρ H o a:=by
 have hl:l<g.length:=by
  rw[<- R.len];exact(bP.mp h).1
 exact⟨g[l],ke hl,R.obj l _ a (ke hl) h⟩
theorem RG.extra{ρ H g p}{o:HO}(R:RG T ρ H g) (hp:H p=ai):RG T ρ (upd H p o) g:=
 ⟨R.nd,R.len,λl u a h1 h2=>(R.obj l u a h1 h2).mono (jK hp) λx e=>by rw[gF (Ei e hp)];exact e,M9 hp R.tb⟩
theorem jP{ρ:List aq}{H:Hp}{p:aq}{o:HO}(hp:H p=ai):qj ρ H (ρ++[p]) (upd H p o):=by
 have g:=jK (ρ:=ρ) (o:=o) hp;refine⟨⟨λl a h=>by rw[cK (bP.mp h).1];exact h,g.tup,g.frz,g.xd,λa C dx vs n e=>?_,g.B9,g.B_⟩,λb y o n e z=>⟨λz=>(iM.mp z).elim n λq=>Ei e hp (pW.mp q),(g.un b y o n e z).2⟩⟩
 by_cases h:a=p
 ·subst h;rw[hp]at e;cases e
 ·rw[gF h];exact e
theorem RG.new{ρ H g p}{o:HO}{u:GO}(R:RG T ρ H g) (hp:H p=ai) (h:RO T (ρ++[p]) (upd H p o) u p):RG T (ρ++[p]) (upd H p o) (g++[u]):=by
 have np:p ∉ ρ:=λhm=>by
  obtain⟨l,hl⟩:=wz.mp hm;obtain⟨w,_,r⟩:=R.there hl;obtain⟨z,e⟩:=r.there;rw[hp]at e;cases e
 have gr:qj ρ H (ρ++[p]) (upd H p o):=jP hp;refine⟨?_,by simp[R.len],λl w a h1 h2=>?_,M9 hp R.tb⟩
 ·rw[EA]
  exact⟨R.nd,by simp,λa ha b hb e=>np (by rw[pW]at hb;rw[<- hb,<- e];exact ha)⟩
 ·by_cases hl:l<g.length
  ·rw[cK hl]at h1
   rw[cK (by rw[R.len];exact hl)]at h2;exact(R.obj l w a h1 h2).mono gr λx e=>by rw[gF (Ei e hp)];exact e
  ·have Xm:=(bP.mp h1).1
   simp at Xm;have e:l=g.length:=by omega
   subst e;simp at h1;rw[<- R.len]at h2;simp at h2;subst h1 h2;exact h
theorem RG.Mu{ρ H g}{l:Nat}{a:aq}{o:HO}{u:GO}(R:RG T ρ H g) (mt:rT (H a)) (gr:qj ρ H ρ (upd H a o)) (hl:ρ[l]? = ah a) (h:RO T ρ (upd H a o) u a):RG T ρ (upd H a o) (g.set l u):=by
 obtain⟨w,hw,r⟩:=R.there hl;have Xn:=(bP.mp hw).1;refine⟨R.nd,by simp[R.len],λk z b h1 h2=>?_,Xl mt R.tb⟩
 by_cases e:k=l
 ·subst e
  rw[dU Xn]at h1;rw[hl]at h2
  cases h1;cases h2
  exact h
 ·rw[c5 (λq=>e q.symm)]at h1
  have ne:b ≠ a:=λq=>by
   subst q;obtain⟨k1,k2⟩:=bP.mp h2;obtain⟨l1,l2⟩:=bP.mp hl;exact e ((LM R.nd).mp (k2.trans l2.symm))
  exact(R.obj k z b h1 h2).mono gr λx q=>by rw[gF ne];exact q
theorem RG.write{ρ H g}{l:Nat}{a:aq}{o:HO}{u:GO}(R:RG T ρ H g) (hl:ρ[l]? = ah a) (h:RO T ρ (upd H a o) u a) (mt:ig (H a):=by assumption):RG T ρ (upd H a o) (g.set l u):=R.Mu mt.i (qI mt) hl h
theorem RG.made{ρ H g x dx C c}(R:RG T ρ H g) (hx:H x=ai) (hd:H dx=ai) (ne:dx ≠ x) (hc:T.cls c=ah C) (cw:ng T C):RG T (ρ++[x]) (upd (upd H dx (.own x)) x (.ins C dx [])) (g++[.ins c []]):=by
 have rV:upd H dx (.own x) x=ai:=by rw[gF ne.symm];exact hx
 refine(R.extra hd).new (u:=.ins c []) rV ⟨C,dx,[],hc,cw,ez,rfl,λz=>?_,by rw[gF ne];exact ez⟩;rcases iM.mp z with z|z
 ·obtain⟨l,hl⟩:=wz.mp z
  obtain⟨_,_,r⟩:=R.there hl;obtain⟨_,e⟩:=r.there;rw[hd]at e;cases e
 ·exact ne (pW.mp z)
end
section
variable{T:Tab}
def zP{α β:Type}(rel:List aq->Hp->α->β->Prop) (T:Tab) (Wx:WX) (σ:St) (ρ:List aq) (H:Hp) (Q:β->Hp->Prop):Out α->Prop
 | .ok a g=>∀ρ' H' b,qj ρ H ρ' H'->RG T ρ' H' g->rel ρ' H' a b->Q b H'
 | .ex c fs g=>∀ρ' H' C d vs,qj ρ H ρ' H'->RG T ρ' H' g->T.cls c=ah C->H' d=ah (.xd vs)->RF T ρ' H' fs vs->Wx (.ref C) (ah d) σ H'
 | .bad=>False
abbrev RB:List aq->Hp->aw->aw->Prop:=λ_ _ a b=>a=b
abbrev bf(T:Tab):List aq->Hp->W->V->Prop:=λρ H=>RW T ρ H
abbrev Ca(T:Tab):List aq->Hp->List W->List V->Prop:=λρ H=>aD T ρ H
abbrev xk(T:Tab):List aq->Hp->Sg->St->Prop:=λρ H=>RS T ρ H
def LE(T:Tab) (Wx:WX) (m:ED):TE:=λσ H Q=>∃ρ σw g,RS T ρ H σw σ/\RG T ρ H g/\zP (bf T) T Wx σ ρ H Q (m σw g)
def LT(T:Tab) (Wx:WX) (m:TD):TT:=λσ H Q=>∃ρ σw g,RS T ρ H σw σ/\RG T ρ H g/\zP RB T Wx σ ρ H Q (m σw g)
def LA(T:Tab) (Wx:WX) (m:AD):TA:=λσ H Q=>∃ρ σw g,RS T ρ H σw σ/\RG T ρ H g/\zP (Ca T) T Wx σ ρ H Q (m σw g)
theorem zP.base{α β:Type}{rel:List aq->Hp->α->β->Prop}{Wx σ ρ H ρ1 H1}{Q:β->Hp->Prop}{r:Out α}(gr:qj ρ H ρ1 H1) (h:zP rel T Wx σ ρ H Q r):zP rel T Wx σ ρ1 H1 Q r:=by
 cases r with
 |ok a g=>exact λρ' H' b g2=>h ρ' H' b (gr.trans g2)
 |ex c fs g=>exact λρ' H' C d vs g2=>h ρ' H' C d vs (gr.trans g2)
 |bad=>exact h.elim
theorem zP.bind{α β α' β':Type}{rel:List aq->Hp->α->β->Prop}{rel':List aq->Hp->α'->β'->Prop}{Wx σ ρ H}{Q:β->Hp->Prop}{Q':β'->Hp->Prop}{r:Out α'}{k:α'->G->Out α}
  (h:zP rel T Wx σ ρ H Q (r.bind k)) (hk:∀a g ρ' H' b,qj ρ H ρ' H'->RG T ρ' H' g->rel' ρ' H' a b->zP rel T Wx σ ρ' H' Q (k a g)->Q' b H'):zP rel' T Wx σ ρ H Q' r:=by
 cases r with
 |ok a g=>exact λρ' H' b gr R q=>hk a g ρ' H' b gr R q (zP.base (r:=k a g) gr h)
 |ex c fs g=>exact h
 |bad=>exact h.elim
theorem _root_.L2.PE.imp{X:Cx}{e:aN}{t t':TE}(h:PE X e t) (k:∀σ H Q,t' σ H Q->t σ H Q):PE X e t':=⟨λpins s σ H Q I q=>h.run pins s σ H Q I (k σ H Q q)⟩
theorem _root_.L2.PT.imp{X:Cx}{e:aN}{t t':TT}(h:PT X e t) (k:∀σ H Q,t' σ H Q->t σ H Q):PT X e t':=⟨λpins s σ H Q I q=>h.run pins s σ H Q I (k σ H Q q)⟩
theorem _root_.L2.PW.imp{X:Cx}{e:aN}{t t':TT}(h:PW X e t) (k:∀σ H Q,t' σ H Q->t σ H Q):PW X e t':=⟨λwh pins s σ H Q I q=>h.run wh pins s σ H Q I (k σ H Q q)⟩
theorem _root_.L2.PA.imp{X:Cx}{e:List aN}{t t':TA}(h:PA X e t) (k:∀σ H Q,t' σ H Q->t σ H Q):PA X e t':=⟨λpos pins s σ H Q I q=>h.run pos pins s σ H Q I (k σ H Q q)⟩
theorem _root_.L2.PS.imp{X:Cx}{e:bh}{t t':TS}(h:PS X e t) (k:∀D σ H,t' D σ H->t D σ H):PS X e t':=⟨λpins s σ H D I q=>h.run pins s σ H D I (k D σ H q)⟩
theorem _root_.L2.PSs.imp{X:Cx}{e:List bh}{t t':TS}(h:PSs X e t) (k:∀D σ H,t' D σ H->t D σ H):PSs X e t':=⟨λpins s σ H D I q=>h.run pins s σ H D I (k D σ H q)⟩
theorem _root_.L2.PG.imp{X:Cx}{e:aN}{t t':TG}(h:PG X e t) (k:∀v σ H Q,t' v σ H Q->t v σ H Q):PG X e t':=⟨λpins s σ H v u Q I r q=>h.run pins s σ H v u Q I r (k v σ H Q q)⟩

def zf(i:Nat):ED:=λσ g=>match σ[i]? with
 |some (ah w)=>.ok w g
 |_=>.bad
def eC(w:W):ED:=λ_ g=>.ok w g
section
variable{X:Cx}{Wx:WX}
theorem Xo{i:Nat}{e:aN}(h:PE X e (tVar i)):PE X e (LE T Wx (zf i)):=h.imp λσ H Q q=>by
 obtain⟨ρ,σw,g,hs,hg,q⟩:=q;unfold zf at q
 split at q
 ·rename_i w e
  obtain⟨v,ev,r⟩:=hs.get e;exact⟨v,ev,q ρ H v .refl hg r⟩
 ·exact q.elim
theorem za(i:Nat) {x:Str}{pos:Pos}(hN:X.N[i]? = ah x:=by rfl) (hv:Vis X.env.scope x:=by first|exact Or.inl rfl|exact Or.inr (Or.inl rfl)|exact Or.inr (Or.inr rfl)) (hd:(x == ("__debug__" : Str))=ak:=by decide)
  (gj:(x == ("__classdict__" : Str))=ak:=by decide):PE X (.Name x pos) (LE T Wx (zf i)):=Xo (pe_var hN hv hd gj)
theorem xl{w:W}{v:V}{e:aN}(h:PE X e (tC v)) (r:∀ρ H,RW T ρ H w v):PE X e (LE T Wx (eC w)):=h.imp λσ H Q q=>by
 obtain⟨ρ,σw,g,hs,hg,q⟩:=q;exact q ρ H v .refl hg (r ρ H)
theorem zq{i:Int}{j pos}:PE X (.Constant (.int i) j pos) (LE T Wx (eC (.int i))):=xl pe_int λ_ _=>by simp only[RW]
theorem xm{b:aw}{j pos}:PE X (.Constant (.bool b) j pos) (LE T Wx (eC (.bl b))):=xl pe_bl λ_ _=>by simp only[RW]
theorem Zf{x:Str}{j pos}:PE X (.Constant (.str x) j pos) (LE T Wx (eC (.str x))):=xl pe_str λ_ _=>by simp only[RW]
theorem QX{j pos}:PE X (.Constant .none j pos) (LE T Wx (eC .non)):=xl pe_non λ_ _=>by simp only[RW]
theorem Na{x:Str}{w:W}{v:V}{u:az}{pos:Pos}(hm:X.mg x=ah u) (r:RelV v u) (eJ:∀ρ H,RW T ρ H w v) (hg:Gl X x:=by rfl) (hd:(x == ("__debug__" : Str))=ak:=by decide):PE X (.Name x pos) (LE T Wx (eC w)):=
 xl (Ej hg hm r hd) eJ

abbrev F1:=W->G->Out W
abbrev F2:=W->W->G->Out W
abbrev FN:=List W->G->Out W
def bR(X:Cx) (T:Tab) (Wx:WX) (op:az->az->Sem az) (f:F2):Prop:=
 ∀(pins:List (aq×Obj)) (s:aK) (σ:St) (H:Hp) (ρ:List aq) (g:G) (x y:W) (vx vy:V) (v u:az) (Q:VK),Inv X pins σ H s->RG T ρ H g->RW T ρ H x vx->RW T ρ H y vy->RelV vx v->RelV vy u ->
  zP (bf T) T Wx σ ρ H Q (f x y g)->bL (model X.prog X.w) X.A (op v u) (EP X pins σ Q) X.xe s
def CallO(X:Cx) (T:Tab) (Wx:WX) (fv:az) (f:FN):Prop:=
 ∀(pins:List (aq×Obj)) (s:aK) (σ:St) (H:Hp) (ρ:List aq) (g:G) (xs:List W) (vs:List V) (us:List az) (Q:VK),Inv X pins σ H s->RG T ρ H g->aD T ρ H xs vs->n_ vs us ->
  zP (bf T) T Wx σ ρ H Q (f xs g)->bL (model X.prog X.w) X.A (call fv us) (EP X pins σ Q) X.xe s
def zw(f:F2) (a b:ED):ED:=λσ g=>(a σ g).bind λx g=>(b σ g).bind λy g=>f x y g
def zv:AD:=λ_ g=>.ok [] g
def ze(a:ED) (r:AD):AD:=λσ g=>(a σ g).bind λx g=>(r σ g).bind λxs g=>.ok (x :: xs) g
def aQ(f:FN) (a:AD):ED:=λσ g=>(a σ g).bind λxs g=>f xs g
theorem bR.of{op:az->az->Sem az}{r:R2}{f:F2}(h:OpR X op r) (hL:∀σ ρ H g x y vx vy (Q:VK),RG T ρ H g->RW T ρ H x vx->RW T ρ H y vy->zP (bf T) T Wx σ ρ H Q (f x y g)->r vx vy H Q):bR X T Wx op f:=
 λpins s σ H ρ g x y vx vy v u Q I R rx ry r1 r2 e=>h pins s σ H vx vy v u Q I r1 r2 (hL σ ρ H g x y vx vy Q R rx ry e)
theorem CallO.of{fv:az}{r:List V->Hp->VK->Prop}{f:FN}(h:CallR X fv r) (hL:∀σ ρ H g xs vs (Q:VK),RG T ρ H g->aD T ρ H xs vs->zP (bf T) T Wx σ ρ H Q (f xs g)->r vs H Q):CallO X T Wx fv f:=
 λpins s σ H ρ g xs vs us Q I R rx r1 e=>h pins s σ H vs us Q I r1 (hL σ ρ H g xs vs Q R rx e)
theorem Cb{a b:aN}{ma mb:ED}{f:F2}{op:az->az->Sem az}(ho:bR X T Wx op f) (ha:PE X a (LE T Wx ma)) (hb:PE X b (LE T Wx mb)) {pins:List (aq×Obj)}{s:aK}{σ:St}{H:Hp}{Q:VK}(I:Inv X pins σ H s)
  (h:LE T Wx (zw f ma mb) σ H Q):bL (model X.prog X.w) X.A (eval a X.env) (λv s₁=>bL (model X.prog X.w) X.A (eval b X.env) (λu s₂=>bL (model X.prog X.w) X.A (op v u) (EP X pins σ Q) X.xe s₂) X.xe s₁) X.xe s:=by
 obtain⟨ρ,σw,g,hs,hg,he⟩:=h
 refine thn (ha.run pins s σ H _ I ⟨ρ,σw,g,hs,hg,zP.bind (Q':=λvx H1=>∃ρ1 x g1,RS T ρ1 H1 σw σ/\RG T ρ1 H1 g1/\RW T ρ1 H1 x vx/\zP (bf T) T Wx σ ρ1 H1 Q ((mb σw g1).bind λy g=>f x y g)) he λx g1 ρ1 H1 vx bt R1 rx ay=>
  ⟨ρ1,x,g1,hs.mono bt _ _,R1,rx,ay⟩⟩) λv s1 ⟨vx,H1,I1,r1,ρ1,x,g1,eK,R1,rx,ay⟩=>?_
 refine thn (hb.run pins s1 σ H1 _ I1 ⟨ρ1,σw,g1,eK,R1,zP.bind (Q':=λvy H2=>∃ρ2 y g2,RG T ρ2 H2 g2/\RW T ρ2 H2 x vx/\RW T ρ2 H2 y vy/\zP (bf T) T Wx σ ρ2 H2 Q (f x y g2)) ay λy g2 ρ2 H2 vy bE R2 ry bg=>
  ⟨ρ2,y,g2,R2,rx.mono bE _ _,ry,bg⟩⟩) λu s2 ⟨vy,H2,I2,r2,ρ2,y,g2,R2,kz,ry,bg⟩=>?_
 exact ho pins s2 σ H2 ρ2 g2 x y vx vy v u Q I2 R2 kz ry r1 r2 bg
theorem GP{es:List aN}{pos:Pos}{m:AD}{f:FN}{fv:az}(ho:CallO X T Wx fv f) (ha:PA X es (LA T Wx m)) {pins:List (aq×Obj)}{s:aK}{σ:St}{H:Hp}{Q:VK}(I:Inv X pins σ H s)
  (h:LE T Wx (aQ f m) σ H Q):bL (model X.prog X.w) X.A (spliced (c_ pos (bo es X.env))) (λus s₁=>X.K.In s₁.heap/\bL (model X.prog X.w) X.A (call fv us) (EP X pins σ Q) X.xe s₁) X.xe s:=by
 obtain⟨ρ,σw,g,hs,hg,he⟩:=h
 refine thn (ha.run pos pins s σ H _ I ⟨ρ,σw,g,hs,hg,zP.bind (Q':=λvs H1=>∃ρ1 xs g1,RG T ρ1 H1 g1/\aD T ρ1 H1 xs vs/\zP (bf T) T Wx σ ρ1 H1 Q (f xs g1)) he λx g1 ρ1 H1 vx bt R1 rx ay=>
  ⟨ρ1,x,g1,R1,rx,ay⟩⟩) λus s1 ⟨vs,H1,I1,r1,ρ1,xs,g1,R1,rx,ay⟩=>⟨I1.kIn,?_⟩
 exact ho pins s1 σ H1 ρ1 g1 xs vs us Q I1 R1 rx r1 ay
variable{a b e:aN}{es:List aN}{ma mb mc:ED}{pos p:Pos}
theorem qK{op:Operator}{f:F2}(ho:bR X T Wx (og op) f) (ha:PE X a (LE T Wx ma)) (hb:PE X b (LE T Wx mb)):PE X (.BinOp a op b pos) (LE T Wx (zw f ma mb)):=
 ⟨λpins s σ H Q I h=>wpAny_BinOp (Cb ho ha hb I h)⟩
theorem zev{op:Ek}{f:F2}(ho:bR X T Wx (eA op) f) (ha:PE X a (LE T Wx ma)) (hb:PE X b (LE T Wx mb)) (hm:behindInMarks op b=ak:=by first|exact nomark _|rfl):PE X (.Compare a [op] [b] pos) (LE T Wx (zw f ma mb)):=
 ⟨λpins s σ H Q I h=>wpAny_Compare1 (Cb ho ha hb I h) hm⟩
def GU(X:Cx) (T:Tab) (Wx:WX) (f:F2):Prop:=∀(value slice:aN),PlainIx slice->(∀x i,subscripted slice aj (.ref x) i=runValue (.builtin "lifetime.subscript" ⟨[.ref x,i],[]⟩))->bR X T Wx (λv u=>Up value slice v u) f
theorem zM{f:F2}(ho:GU X T Wx f) (ha:PE X a (LE T Wx ma)) (hb:PE X b (LE T Wx mb)) (hs:PlainIx b:=by exact λ_ _=>rfl) (ht:∀x i,subscripted b aj (.ref x) i=runValue (.builtin "lifetime.subscript" ⟨[.ref x,i],[]⟩):=by(intro _ _;with_unfolding_all rfl)) :
  PE X (.Subscript a b pos) (LE T Wx (zw f ma mb)):=⟨λpins s σ H Q I h=>Subscript_ (Cb (ho a b hs ht) ha hb I h)⟩
theorem zk:PA X [] (LA T Wx zv):=pa_nil.imp λσ H Q q=>by
 obtain⟨ρ,σw,g,hs,hg,he⟩:=q;exact he ρ H [] .refl hg aD.nil
theorem zb{mr:AD}(ha:PE X e (LE T Wx ma)) (hr:PA X es (LA T Wx mr)) (hs:bo (e :: es) X.env=(ak,eval e X.env) :: bo es X.env:=by rfl):PA X (e :: es) (LA T Wx (ze ma mr)):=
 (Em ha hr hs).imp λσ H Q h=>by
  obtain⟨ρ,σw,g,hs,hg,he⟩:=h;refine⟨ρ,σw,g,hs,hg,zP.bind he λx g1 ρ1 H1 vx bt R1 rx ay=>?_⟩;refine⟨ρ1,σw,g1,hs.mono bt _ _,R1,zP.bind ay λy g2 ρ2 H2 vy bE R2 ry bg=>?_⟩;exact bg ρ2 H2 _ .refl R2 (.cons (rx.mono bE _ _) ry)
theorem qO{x:Str}{id:dG}{f:FN}{m:AD}(hc:CallO X T Wx (.builtin id) f) (hm:X.mg x=ai) (hv:bootBuiltins x=ah (.builtin id)) (ha:PA X (e :: es) (LA T Wx m)) (hg:Gl X x:=by rfl)
  (hn:x ≠ "__name__":=by decide) (cW:(x == ("__debug__" : Str))=ak:=by decide) (he:bo (e :: es) X.env=(ak,eval e X.env) :: bo es X.env:=by rfl) (dc:(c_ pos (bo es X.env)).any (·.1)=ak:=by rfl) :
  PE X (.Call (.Name x p) (e :: es) [] pos) (LE T Wx (aQ f m)):=⟨λpins s σ H Q I h=>En (ld_blt I hg hm hv (ai6 (eQ (GP hc ha I h) (λ_ _ z=>z.2) λ_ _ z=>z) he dc) hn cW)⟩
theorem Zb{x:Str}{id:dG}{f:FN}{m:AD}(hc:CallO X T Wx (.type id) f) (hm:X.mg x=ai) (hv:bootBuiltins x=ah (.type id)) (ha:PA X (e :: es) (LA T Wx m)) (hg:Gl X x:=by rfl)
  (hn:x ≠ "__name__":=by decide) (cW:(x == ("__debug__" : Str))=ak:=by decide) (he:bo (e :: es) X.env=(ak,eval e X.env) :: bo es X.env:=by rfl) (dc:(c_ pos (bo es X.env)).any (·.1)=ak:=by rfl) :
  PE X (.Call (.Name x p) (e :: es) [] pos) (LE T Wx (aQ f m)):=⟨λpins s σ H Q I h=>En (ld_blt I hg hm hv (ai7 (eQ (GP hc ha I h) (λ_ _ z=>z.2) λ_ _ z=>z) he dc) hn cW)⟩
def fits(n:Nat):aw:=decide (n<=1000000)
theorem xo{n:Nat}(h:fits n=aj):n<=kR:=by
 have:=dF h;rw[A4];omega
def Jz(a:AD):ED:=λσ g=>(a σ g).bind λxs g=>if fits xs.length then .ok (.tup xs) g else .bad
def jA(a:AD):ED:=λσ g=>(a σ g).bind λxs g=>if fits xs.length then .ok (.ref g.length) (g++[.lst xs]) else .bad
theorem QI{ρ H g p ws vs}(R:RG T ρ H g) (hp:H p=ai) (r:aD T ρ H ws vs):RG T (ρ++[p]) (upd H p (.lst vs)) (g++[.lst ws]):=R.new hp ⟨vs,ez,r.mono (jP hp) _ _⟩
theorem Qn{ρ:List aq}{H H':Hp}{g:G}{p:aq}(R:RG T ρ H g):RW T (ρ++[p]) H' (.ref g.length) (.ref p):=by
 simp only[RW];exact⟨p,by rw[<- R.len];simp,rfl⟩
theorem GV{ρ H p ws vs}(hp:H p=ai) (r:aD T ρ H ws vs):RW T ρ (upd H p (.tup vs)) (.tup ws) (.ref p):=by
 simp only[RW];exact⟨p,vs,rfl,ez,r.mono (jK hp) _ _⟩
theorem ZO{m:AD}{x1}(h:PA X es (LA T Wx m)):PE X (.Tuple es x1 pos) (LE T Wx (Jz m)):=(pe_tup h).imp λσ H Q h=>by
 obtain⟨ρ,σw,g,hs,hg,he⟩:=h;refine⟨ρ,σw,g,hs,hg,zP.bind he λxs g1 ρ1 H1 vs bt R1 rx ay=>?_⟩
 split at ay
 ·rename_i hf
  refine⟨by rw[<- rx.length];exact xo hf,λp hp=>?_⟩;exact ay ρ1 _ _ (jK hp) (R1.extra hp) (GV hp rx)
 ·exact ay.elim
theorem qk{m:AD}(h:PA X es (LA T Wx m)):PE X (.List es pos) (LE T Wx (jA m)):=(pe_lst h).imp λσ H Q h=>by
 obtain⟨ρ,σw,g,hs,hg,he⟩:=h;refine⟨ρ,σw,g,hs,hg,zP.bind he λxs g1 ρ1 H1 vs bt R1 rx ay=>?_⟩
 split at ay
 ·rename_i hf
  refine⟨by rw[<- rx.length];exact xo hf,λp hp=>?_⟩;exact ay _ _ _ (jP hp) (QI R1 hp rx) (Qn R1)
 ·exact ay.elim
def qW(a:ED):TD:=λσ g=>(a σ g).bind λx g=>match x with
 | .bl b=>.ok b g
 |_=>.bad
def iZ(a:TD):TD:=λσ g=>(a σ g).bind λb g=>.ok (!b) g
def kA(a b:TD):TD:=λσ g=>(a σ g).bind λx g=>if x then b σ g else .ok ak g
def tOr(a b:TD):TD:=λσ g=>(a σ g).bind λx g=>if x then .ok aj g else b σ g
def l9(c:TD) (a b:ED):ED:=λσ g=>(c σ g).bind λx g=>if x then a σ g else b σ g
theorem Nb{ma:ED}{σ H}{Q:aw->Hp->Prop}(h:LT T Wx (qW ma) σ H Q):LE T Wx ma σ H λx H1=>∃k,x = .bl k/\Q k H1:=by
 obtain⟨ρ,σw,g,hs,hg,he⟩:=h;refine⟨ρ,σw,g,hs,hg,zP.bind he λx g1 ρ1 H1 vx bt R1 rx ay=>?_⟩
 cases x with
 |bl b=>simp only[bf,RW]at rx;exact⟨b,rx,ay ρ1 H1 b .refl R1 rfl⟩
 |_=>exact ay.elim
theorem qg{op:Ek}{f:F2}(ho:bR X T Wx (eA op) f) (ha:PE X a (LE T Wx ma)) (hb:PE X b (LE T Wx mb)) (hm:behindInMarks op b=ak:=by first|exact nomark _|rfl):PT X (.Compare a [op] [b] pos) (LT T Wx (qW (zw f ma mb))):=by
 refine⟨λpins s σ H Q I h=>?_⟩;refine wpAny_isTrue_Compare1 (thn (Cb ho ha hb I (Nb h)) λv s1 h1=>thn h1 λu s2 h2=>thn h2 λc s3 ⟨x,H1,I1,r1,q1⟩=>?_) hm;obtain⟨d,rfl,q⟩:=q1;cases r1;exact A5 ⟨H1,I1,q⟩
def oR(g:G):W->au aw
 | .non=>ah ak
 | .bl b=>ah b
 | .int i=>ah (i != 0)
 | .str y=>if fits y.length then ah ((y.length:Int) != 0) else ai
 | .tup ws=>ah (!ws.isEmpty)
 | .fz ws=>ah (!ws.isEmpty)
 | .ref l=>match g[l]? with
  |some (.lst ws)=>ah (!ws.isEmpty)
  |_=>ai
 |_=>ai
def i3(a:ED):TD:=λσ g=>(a σ g).bind λx g=>match oR g x with
 |some b=>.ok b g
 |none=>.bad
theorem aD.isEmpty{ρ H ws vs}(r:aD T ρ H ws vs):ws.isEmpty=vs.isEmpty:=by
 have:=r.length
 cases ws <;> cases vs <;> simp_all
theorem Xp{ρ H g x v k}(R:RG T ρ H g) (r:RW T ρ H x v) (e:oR g x=ah k):TruV T.K v H k:=by
 cases x with
 |non=>simp only[RW]at r;subst r;cases e;rfl
 |bl b=>simp only[RW]at r;subst r;cases e;rfl
 |int i=>simp only[RW]at r;subst r;cases e;rfl
 |str y=>
  simp only[RW]at r;subst r;simp only[oR]at e
  split at e
  ·rename_i hf
   cases e;exact⟨xo hf,rfl⟩
  ·cases e
 |tup ws=>
  simp only[RW]at r;obtain⟨a,vs,rfl,ha,rr⟩:=r;cases e;exact .inr (.inl ⟨vs,SqT.of ha,by rw[rr.isEmpty]⟩)
 |ref l=>
  simp only[RW]at r;obtain⟨a,ha,rfl⟩:=r;obtain⟨o,ho,ro⟩:=R.there ha;simp only[oR,ho]at e
  cases o with
  |lst ws=>
   cases e;obtain⟨vs,hv,rr⟩:=ro
   exact .inl ⟨vs,SqL.of hv,by rw[rr.isEmpty]⟩
  |_=>cases e
 |fz ws=>
  simp only[RW]at r;obtain⟨a,o,vs,rfl,ha,rr⟩:=r;cases e;exact .inl ⟨vs,.inl (.inr ⟨o,ha⟩),by rw[rr.isEmpty]⟩
 |_=>cases e
theorem JI(hK:X.K=T.K) (h:PE X e (LE T Wx ma)) (he:∀whole,isTrue e X.env whole=(do let v <- whole;oh e.pos;holding [v] (truthy v)):=by intro _;rfl):PT X e (LT T Wx (i3 ma)):=
 (pt_truth h he).imp λσ H Q h=>by
  obtain⟨ρ,σw,g,hs,hg,he⟩:=h;refine⟨ρ,σw,g,hs,hg,zP.bind he λx g1 ρ1 H1 vx bt R1 rx ay=>?_⟩
  cases hx:oR g1 x with
  |none=>rw[hx]at ay;exact ay.elim
  |some k=>
   rw[hx]at ay;exact⟨k,by rw[hK];exact Xp R1 rx hx,ay ρ1 H1 k .refl R1 rfl⟩
variable{tA tB:TD}{rest:List aN}
theorem JJ(h:PT X a (LT T Wx tA)):PT X (.UnaryOp .Not a pos) (LT T Wx (iZ tA)):=(pt_not h).imp λσ H Q h=>by
 obtain⟨ρ,σw,g,hs,hg,he⟩:=h;refine⟨ρ,σw,g,hs,hg,zP.bind he λx g1 ρ1 H1 vx bt R1 rx ay=>?_⟩;subst rx;exact ay ρ1 H1 _ .refl R1 rfl
theorem Cc(h:PT X a (LT T Wx tA)):PW X (.BoolOp .And [a] pos) (LT T Wx tA):=pw_and1 h
theorem GW(h:PT X a (LT T Wx tA)):PW X (.BoolOp .Or [a] pos) (LT T Wx tA):=pw_or1 h
theorem uD(ha:PT X a (LT T Wx tA)) (hb:PW X (.BoolOp .And (b :: rest) pos) (LT T Wx tB)):PW X (.BoolOp .And (a :: b :: rest) pos) (LT T Wx (kA tA tB)):=(pw_and ha hb).imp λσ H Q h=>by
 obtain⟨ρ,σw,g,hs,hg,he⟩:=h;refine⟨ρ,σw,g,hs,hg,zP.bind he λx g1 ρ1 H1 vx bt R1 rx ay=>?_⟩;subst rx
 cases x with
 |true=>exact⟨ρ1,σw,g1,hs.mono bt _ _,R1,ay⟩
 |false=>exact ay ρ1 H1 _ .refl R1 rfl
theorem rW(ha:PT X a (LT T Wx tA)) (hb:PW X (.BoolOp .Or (b :: rest) pos) (LT T Wx tB)):PW X (.BoolOp .Or (a :: b :: rest) pos) (LT T Wx (tOr tA tB)):=(pw_or ha hb).imp λσ H Q h=>by
 obtain⟨ρ,σw,g,hs,hg,he⟩:=h;refine⟨ρ,σw,g,hs,hg,zP.bind he λx g1 ρ1 H1 vx bt R1 rx ay=>?_⟩;subst rx
 cases x with
 |false=>exact⟨ρ1,σw,g1,hs.mono bt _ _,R1,ay⟩
 |true=>exact ay ρ1 H1 _ .refl R1 rfl
theorem Xq{c:aN}{t:TD}{σ H Q}(h:LE T Wx (l9 t ma mb) σ H Q):LT T Wx t σ H λb H1=>if b=aj then LE T Wx ma σ H1 Q else LE T Wx mb σ H1 Q:=by
 obtain⟨ρ,σw,g,hs,hg,he⟩:=h;refine⟨ρ,σw,g,hs,hg,zP.bind he λx g1 ρ1 H1 vx bt R1 rx ay=>?_⟩;subst rx
 cases x with
 |true=>exact⟨ρ1,σw,g1,hs.mono bt _ _,R1,ay⟩
 |false=>exact⟨ρ1,σw,g1,hs.mono bt _ _,R1,ay⟩
theorem Nc{c:aN}(hc:PT X c (LT T Wx tA)) (ha:PE X a (LE T Wx ma)) (hb:PE X b (LE T Wx mb)):PE X (.IfExp c a b pos) (LE T Wx (l9 tA ma mb)):=(pe_ifExp hc ha hb).imp λ_ _ _ h=>Xq (c:=c) h
def uE(a b:ED):ED:=λσ g=>(a σ g).bind λx g=>match x with
 | .bl aj=>b σ g
 | .bl ak=>.ok (.bl ak) g
 |_=>.bad
theorem Xr{op}(h:PE X a (LE T Wx ma)):PE X (.BoolOp op [a] pos) (LE T Wx ma):=pe_one h
theorem Nd(ha:PE X a (LE T Wx ma)) (hb:PE X (.BoolOp .And (b :: rest) pos) (LE T Wx mb)):PE X (.BoolOp .And (a :: b :: rest) pos) (LE T Wx (uE ma mb)):=(pe_and ha hb).imp λσ H Q h=>by
 obtain⟨ρ,σw,g,hs,hg,he⟩:=h;refine⟨ρ,σw,g,hs,hg,zP.bind he λx g1 ρ1 H1 vx bt R1 rx ay=>?_⟩
 cases x with
 |bl c=>
  simp only[bf,RW]at rx;refine⟨c,rx,?_⟩
  cases c with
  |true=>exact⟨ρ1,σw,g1,hs.mono bt _ _,R1,ay⟩
  |false=>exact ay ρ1 H1 _ .refl R1 (by simp only[bf,RW])
 |_=>exact ay.elim
end
end
section
variable{T:Tab}
mutual
def W.beq:W->W->aw
 | .non,.non=>aj
 | .bl a,.bl b=>a == b
 | .int a,.int b=>a == b
 | .str a,.str b=>decide (a=b)
 | .tup a,.tup b=>W.dJ a b
 | .ref a,.ref b=>a == b
 | .ty a,.ty b=>a == b
 | .dA,.dA=>aj
 | .eH a,.eH b=>a == b
 | .obj c fs ws,.obj d gs us=>c == d && (fs == gs && W.dJ ws us)
 | .fz a,.fz b=>W.dJ a b
 | .eI ks a,.eI js b=>decide (ks=js) && W.dJ a b
 |_,_=>ak
def W.dJ:List W->List W->aw
 |[],[]=>aj
 |a :: r,b :: s=>W.beq a b && W.dJ r s
 |_,_=>ak
end
mutual
theorem W.beq_self:∀a:W,W.beq a a=aj
 | .non=>by simp[W.beq]
 | .bl a=>by simp[W.beq]
 | .int a=>by simp[W.beq]
 | .str a=>by simp[W.beq]
 | .tup a=>by simp[W.beq,W.wJ a]
 | .ref a=>by simp[W.beq]
 | .ty a=>by simp[W.beq]
 | .dA=>by simp[W.beq]
 | .eH a=>by simp[W.beq]
 | .obj c fs ws=>by simp[W.beq,W.wJ ws]
 | .fz a=>by simp[W.beq,W.wJ a]
 | .eI ks a=>by simp[W.beq,W.wJ a]
theorem W.wJ:∀a:List W,W.dJ a a=aj
 |[]=>by simp[W.dJ]
 |a :: r=>by simp[W.dJ,W.beq_self a,W.wJ r]
end
mutual
theorem W.eq_of_beq:∀(a b:W),W.beq a b=aj->a=b
 | .non,b,h=>by cases b <;> simp_all [W.beq]
 | .bl a,b,h=>by cases b <;> simp_all [W.beq]
 | .int a,b,h=>by cases b <;> simp_all [W.beq]
 | .str a,b,h=>by cases b <;> simp_all [W.beq]
 | .tup a,b,h=>by
  cases b <;> first|(simp[W.beq]at h;done)|skip
  rename_i c
  simp only[W.beq]at h;rw[W.wI a c h]
 | .ref a,b,h=>by cases b <;> simp_all [W.beq]
 | .ty a,b,h=>by cases b <;> simp_all [W.beq]
 | .dA,b,h=>by cases b <;> simp_all [W.beq]
 | .eH a,b,h=>by cases b <;> simp_all [W.beq]
 | .obj c fs ws,b,h=>by
  cases b <;> first|(simp[W.beq]at h;done)|skip
  rename_i d gs us
  simp only[W.beq,dV,Uq]at h;obtain⟨h1,h2,h3⟩:=h;rw[W.wI ws us h3,h1,h2]
 | .fz a,b,h=>by
  cases b <;> first|(simp[W.beq]at h;done)|skip
  rename_i c
  simp only[W.beq]at h;rw[W.wI a c h]
 | .eI ks a,b,h=>by
  cases b <;> first|(simp[W.beq]at h;done)|skip
  rename_i js c
  simp only[W.beq,dV,decide_eq_true_eq]at h;rw[W.wI a c h.2,h.1]
theorem W.wI:∀(a b:List W),W.dJ a b=aj->a=b
 |[],b,h=>by cases b <;> simp_all [W.dJ]
 |a :: r,b,h=>by
  cases b with
  |nil=>simp[W.dJ]at h
  |cons c s=>
   simp only[W.dJ,dV]at h;rw[W.eq_of_beq a c h.1,W.wI r s h.2]
end
instance:DecidableEq W:=λa b=>if h:W.beq a b=aj then isTrue (W.eq_of_beq a b h) else isFalse λe=>h (e ▸ W.beq_self a)
instance:DecidableEq GO:=λa b=>match a,b with
 | .lst x,.lst y=>if h:x=y then isTrue (h ▸ rfl) else isFalse λe=>h (by cases e;rfl)
 | .dK x,.dK y=>if h:x=y then isTrue (h ▸ rfl) else isFalse λe=>h (by cases e;rfl)
 | .dT x,.dT y=>if h:x=y then isTrue (h ▸ rfl) else isFalse λe=>h (by cases e;rfl)
 | .dN x,.dN y=>if h:x=y then isTrue (h ▸ rfl) else isFalse λe=>h (by cases e;rfl)
 | .ins c x,.ins d y=>if h:c=d/\x=y then isTrue (by obtain⟨rfl,rfl⟩:=h;rfl) else isFalse λe=>h (by cases e;exact⟨rfl,rfl⟩)
 | .gone,.gone=>isTrue rfl
 | .lst _,.dK _=>isFalse λe=>by cases e
 | .lst _,.dT _=>isFalse λe=>by cases e
 | .lst _,.ins _ _=>isFalse λe=>by cases e
 | .lst _,.gone =>isFalse λe=>by cases e
 | .lst _,.dN _=>isFalse λe=>by cases e
 | .dK _,.lst _=>isFalse λe=>by cases e
 | .dK _,.dT _=>isFalse λe=>by cases e
 | .dK _,.ins _ _=>isFalse λe=>by cases e
 | .dK _,.gone =>isFalse λe=>by cases e
 | .dK _,.dN _=>isFalse λe=>by cases e
 | .dT _,.lst _=>isFalse λe=>by cases e
 | .dT _,.dK _=>isFalse λe=>by cases e
 | .dT _,.ins _ _=>isFalse λe=>by cases e
 | .dT _,.gone =>isFalse λe=>by cases e
 | .dT _,.dN _=>isFalse λe=>by cases e
 | .ins _ _,.lst _=>isFalse λe=>by cases e
 | .ins _ _,.dK _=>isFalse λe=>by cases e
 | .ins _ _,.dT _=>isFalse λe=>by cases e
 | .ins _ _,.gone =>isFalse λe=>by cases e
 | .ins _ _,.dN _=>isFalse λe=>by cases e
 | .gone ,.lst _=>isFalse λe=>by cases e
 | .gone ,.dK _=>isFalse λe=>by cases e
 | .gone ,.dT _=>isFalse λe=>by cases e
 | .gone ,.ins _ _=>isFalse λe=>by cases e
 | .gone ,.dN _=>isFalse λe=>by cases e
 | .dN _,.lst _=>isFalse λe=>by cases e
 | .dN _,.dK _=>isFalse λe=>by cases e
 | .dN _,.dT _=>isFalse λe=>by cases e
 | .dN _,.ins _ _=>isFalse λe=>by cases e
 | .dN _,.gone =>isFalse λe=>by cases e

def qZ(T:Tab) (Wx:WX) (D:Ends) (ρ:List aq) (H:Hp):Fl->Prop
 | .nx σw g=>∀ρ' H' σ,qj ρ H ρ' H'->RG T ρ' H' g->RS T ρ' H' σw σ->D.nx σ H'
 | .rt w g=>∀ρ' H' v,qj ρ H ρ' H'->RG T ρ' H' g->RW T ρ' H' w v->D.rt v H'
 | .bk σw g=>∀ρ' H' σ,qj ρ H ρ' H'->RG T ρ' H' g->RS T ρ' H' σw σ->D.bk σ H'
 | .ct σw g=>∀ρ' H' σ,qj ρ H ρ' H'->RG T ρ' H' g->RS T ρ' H' σw σ->D.ct σ H'
 | .ex c fs σw g=>∀ρ' H' σ C d vs,qj ρ H ρ' H'->RG T ρ' H' g->RS T ρ' H' σw σ->T.cls c=ah C->H' d=ah (.xd vs)->RF T ρ' H' fs vs->Wx (.ref C) (ah d) σ H'
 | .bad=>False
def LS(T:Tab) (Wx:WX) (m:SD):TS:=λD σ H=>∃ρ σw g,RS T ρ H σw σ/\RG T ρ H g/\qZ T Wx D ρ H (m σw g)
theorem qZ.base{Wx D ρ H ρ1 H1}{r:Fl}(gr:qj ρ H ρ1 H1) (h:qZ T Wx D ρ H r):qZ T Wx D ρ1 H1 r:=by
 cases r with
 |nx σ g=>exact λρ' H' σ g2=>h ρ' H' σ (gr.trans g2)
 |rt w g=>exact λρ' H' v g2=>h ρ' H' v (gr.trans g2)
 |bk σ g=>exact λρ' H' σ g2=>h ρ' H' σ (gr.trans g2)
 |ct σ g=>exact λρ' H' σ g2=>h ρ' H' σ (gr.trans g2)
 |ex c fs σ g=>exact λρ' H' σ C d vs g2=>h ρ' H' σ C d vs (gr.trans g2)
 |bad=>exact h.elim
theorem qZ.to{Wx D D' ρ H}{r:Fl}(h:qZ T Wx D ρ H r) (n:∀σw g,r = .nx σw g->∀ρ' H' σ,qj ρ H ρ' H'->RG T ρ' H' g->RS T ρ' H' σw σ->D.nx σ H'->D'.nx σ H') (e:D'.rt=D.rt) (b:D'.bk=D.bk) (c:D'.ct=D.ct):qZ T Wx D' ρ H r:=by
 cases r with
 |nx σ g=>exact λρ' H' σ g2 R r=>n _ _ rfl ρ' H' σ g2 R r (h ρ' H' σ g2 R r)
 |rt w g=>exact λρ' H' v g2 R r=>by rw[e];exact h ρ' H' v g2 R r
 |bk σ g=>exact λρ' H' σ g2 R r=>by rw[b];exact h ρ' H' σ g2 R r
 |ct σ g=>exact λρ' H' σ g2 R r=>by rw[c];exact h ρ' H' σ g2 R r
 |ex c fs σ g=>exact h
 |bad=>exact h.elim
def Out.fl{α:Type}(r:Out α) (σ:Sg) (k:α->G->Fl):Fl:=match r with
 | .ok a g=>k a g
 | .ex c fs g=>.ex c fs σ g
 | .bad=>.bad
theorem qZ.fB{α β:Type}{rel:List aq->Hp->α->β->Prop}{Wx D ρ H}{σw:Sg}{σ:St}{Q':β->Hp->Prop}{r:Out α}{k:α->G->Fl}(hs:RS T ρ H σw σ)
  (h:qZ T Wx D ρ H (r.fl σw k)) (hk:∀a g ρ' H' b,qj ρ H ρ' H'->RG T ρ' H' g->rel ρ' H' a b->qZ T Wx D ρ' H' (k a g)->Q' b H'):zP rel T Wx σ ρ H Q' r:=by
 cases r with
 |ok a g=>exact λρ' H' b gr R q=>hk a g ρ' H' b gr R q (qZ.base (r:=k a g) gr h)
 |ex c fs g=>exact λρ' H' C d vs gr R hc hd hf=>h ρ' H' σ C d vs gr R (hs.mono gr _ _) hc hd hf
 |bad=>exact h.elim
def qy:SD:=λσ g=>.nx σ g
def zB(a b:SD):SD:=λσ g=>match a σ g with
 | .nx σ g=>b σ g
 |r=>r
def ZC(a:ED):SD:=λσ g=>(a σ g).fl σ λ_ g=>.nx σ g
def Zm(a:ED):SD:=λσ g=>(a σ g).fl σ λw g=>.rt w g
def oS:SD:=λ_ g=>.rt .non g
def bH(c:TD) (a b:SD):SD:=λσ g=>(c σ g).fl σ λx g=>if x then a σ g else b σ g
section
variable{X:Cx}{Wx:WX}{st:bh}{rest:List bh}{a b:SD}{e:aN}{ma:ED}{pos:Pos}
theorem qc:PSs X [] (LS T Wx qy):=pss_nil.imp λD σ H h=>by
 obtain⟨ρ,σw,g,hs,hg,he⟩:=h;exact he ρ H σ .refl hg hs
theorem Xs{D σ H}(h:LS T Wx (zB a b) D σ H):tSeq (LS T Wx a) (LS T Wx b) D σ H:=by
 obtain⟨ρ,σw,g,hs,hg,he⟩:=h;refine⟨ρ,σw,g,hs,hg,?_⟩;unfold zB at he
 split at he
 ·rename_i σ1 g1 e
  rw[e];exact λρ' H' σ' gr R r=>⟨ρ',σ1,g1,r,R,qZ.base gr he⟩
 ·rename_i r hn
  exact he.to (λσw g e=>br e (hn σw g)) rfl rfl rfl
theorem zj(h1:PS X st (LS T Wx a)) (h2:PSs X rest (LS T Wx b)):PSs X (st :: rest) (LS T Wx (zB a b)):=(pss_cons h1 h2).imp λ_ _ _ h=>Xs h
theorem zz(h1:PS X st (LS T Wx a)):PSs X [st] (LS T Wx a):=pss_one h1
theorem Zg(h:PE X e (LE T Wx ma)) (hs:A6 e ai pos.line X.env=pure ak:=by rfl):PS X (.Expr e pos) (LS T Wx (ZC ma)):=(ps_expr h hs).imp λD σ H h=>by
 obtain⟨ρ,σw,g,hs,hg,he⟩:=h;exact⟨ρ,σw,g,hs,hg,qZ.fB hs he λx g1 ρ1 H1 vx gr R rx ay=>ay ρ1 H1 σ .refl R (hs.mono gr _ _)⟩
theorem qM(h:PE X e (LE T Wx ma)):PS X (.Return (ah e) pos) (LS T Wx (Zm ma)):=(ps_ret h).imp λD σ H h=>by
 obtain⟨ρ,σw,g,hs,hg,he⟩:=h;exact⟨ρ,σw,g,hs,hg,qZ.fB hs he λx g1 ρ1 H1 vx gr R rx ay=>ay ρ1 H1 vx .refl R rx⟩
theorem Xt:PS X (.Return ai pos) (LS T Wx oS):=ps_retN.imp λD σ H h=>by
 obtain⟨ρ,σw,g,hs,hg,he⟩:=h;exact he ρ H .non .refl hg (by simp only[RW])
theorem Xu{c:TD}{D σ H}(h:LS T Wx (bH c a b) D σ H):tIfS (LT T Wx c) (LS T Wx a) (LS T Wx b) D σ H:=by
 obtain⟨ρ,σw,g,hs,hg,he⟩:=h;refine⟨ρ,σw,g,hs,hg,qZ.fB hs he λx g1 ρ1 H1 vx gr R rx ay=>?_⟩;subst rx
 cases x with
 |true=>exact⟨ρ1,σw,g1,hs.mono gr _ _,R,ay⟩
 |false=>exact⟨ρ1,σw,g1,hs.mono gr _ _,R,ay⟩
theorem jg{c:aN}{x y:List bh}{tc:TD}(hc:PT X c (LT T Wx tc)) (ha:PSs X x (LS T Wx a)) (hb:PSs X y (LS T Wx b)):PS X (.If c x y pos) (LS T Wx (bH tc a b)):=(ps_if hc ha hb).imp λ_ _ _ h=>Xu h

abbrev GD:=W->Sg->G->Out Sg
abbrev i5:=List W->Sg->G->Out Sg
def LG(T:Tab) (Wx:WX) (m:GD):TG:=λv σ H Q=>∃ρ w σw g,RW T ρ H w v/\RS T ρ H σw σ/\RG T ρ H g/\zP (xk T) T Wx σ ρ H Q (m w σw g)
def Cd(T:Tab) (Wx:WX) (m:i5):TGs:=λvs σ H Q=>∃ρ ws σw g,aD T ρ H ws vs/\RS T ρ H σw σ/\RG T ρ H g/\zP (xk T) T Wx σ ρ H Q (m ws σw g)
def aM(i:Nat):GD:=λw σ g=>.ok (σ.set i (ah w)) g
def J1:i5:=λws σ g=>match ws with
 |[]=>.ok σ g
 |_=>.bad
def jE(a:GD) (r:i5):i5:=λws σ g=>match ws with
 |[]=>.bad
 |w :: ws=>match a w σ g with
  | .ok σ g=>match r ws σ g with
   | .ok σ g=>.ok σ g
   |_=>.bad
  |_=>.bad
def QY(n:Nat) (t:i5):GD:=λw σ g=>match w with
 | .tup ws=>if ws.length=n then t ws σ g else .bad
 |_=>.bad
theorem jk [jJ T] {i:Nat} [Sl T i] {x:Str}(hN:X.N.Nodup) (hi:X.N[i]? = ah x:=by rfl) (hx:Loc X.env.scope x:=by first|exact Or.inl rfl|exact Or.inr rfl) (hf:X.fn x=aj\/X.env.scope.names.lookup x=ah .local:=by first|exact .inl rfl|exact .inr rfl|assumption) :
  PG X (.Name x pos) (LG T Wx (aM i)):=(pg_name hN hi hx hf).imp λv σ H Q h=>by
 obtain⟨ρ,w,σw,g,hw,hs,hg,he⟩:=h;exact he ρ H _ .refl hg (hs.set hw i)
theorem xq:PGs X [] (Cd T Wx J1):=⟨λpins s σ H vs us Q I r h=>pgs_nil.run pins s σ H vs us Q I r (by
 obtain⟨ρ,ws,σw,g,hw,hs,hg,he⟩:=h
 cases ws with
 |nil=>simp only[aD]at hw;subst hw;exact⟨rfl,he ρ H σ .refl hg hs⟩
 |cons _ _=>exact he.elim)⟩
theorem ZH{es:List aN}{m:GD}{ms:i5}(h1:PG X e (LG T Wx m)) (h2:PGs X es (Cd T Wx ms))
  (hs:(Eo (e :: es) X.env).map (·.2)=assign e X.env :: (Eo es X.env).map (·.2):=by rfl):PGs X (e :: es) (Cd T Wx (jE m ms)):=⟨λpins s σ H vs us Q I r h=>(pgs_cons h1 h2 hs).run pins s σ H vs us Q I r (by
 obtain⟨ρ,ws,σw,g,hw,hs,hg,he⟩:=h
 cases ws with
 |nil=>exact he.elim
 |cons w ws=>
  simp only[aD]at hw;obtain⟨v,vr,rfl,oT,rX⟩:=hw;refine⟨v,vr,rfl,ρ,w,σw,g,oT,hs,hg,?_⟩;simp only[jE]at he
  cases h1:m w σw g with
  |ok σ1 g1=>
   rw[h1]at he;intro ρ1 H1 σ' gr R rs;refine⟨ρ1,ws,σ1,g1,rX.mono gr _ _,rs,R,?_⟩;dsimp only at he
   cases h2:ms ws σ1 g1 with
   |ok σ2 g2=>rw[h2]at he;exact zP.base (r:=Out.ok σ2 g2) gr he
   |ex _ _ _=>rw[h2]at he;exact he.elim
   |bad=>rw[h2]at he;exact he.elim
  |ex _ _ _=>rw[h1]at he;exact he.elim
  |bad=>rw[h1]at he;exact he.elim)⟩
theorem xr{es:List aN}{k:Nat}{ms:i5}{n:Nat}(hK:X.K=T.K) (hc:X.calm=aj) (h:PGs X es (Cd T Wx ms))
  (hn:(Eo es X.env).length=n:=by rfl) (dB:(Eo es X.env).findIdx? (·.1)=ai:=by rfl):PG X (.Tuple es k pos) (LG T Wx (QY n ms)):=(pg_tup hc h hn dB).imp λv σ H Q h=>by
 obtain⟨ρ,w,σw,g,hw,hs,hg,he⟩:=h
 cases w with
 |tup ws=>
  simp only[RW]at hw;obtain⟨a,vs,rfl,ha,hr⟩:=hw;simp only[QY]at he
  split at he
  ·rename_i hl
   exact⟨a,vs,rfl,SqT.of ha,by rw[<- hr.length];exact hl,ρ,ws,σw,g,hr,hs,hg,he⟩
  ·exact he.elim
 |_=>exact he.elim
def zX(a:ED) (t:GD):SD:=λσ g=>(a σ g).fl σ λw g=>(t w σ g).fl σ λσ g=>.nx σ g
theorem Xv{t:GD}{D σ H}(h:LS T Wx (zX ma t) D σ H):tAsg (LE T Wx ma) (LG T Wx t) D σ H:=by
 obtain⟨ρ,σw,g,hs,hg,he⟩:=h;refine⟨ρ,σw,g,hs,hg,qZ.fB hs he λx g1 ρ1 H1 vx gr R rx ay=>?_⟩;refine⟨ρ1,x,σw,g1,rx,hs.mono gr _ _,R,qZ.fB (hs.mono gr _ _) ay λσ2 g2 ρ2 H2 σ' bE R2 rs bg=>?_⟩;exact bg ρ2 H2 σ' .refl R2 rs
theorem ZW{tg:aN}{t:GD}(he:PE X e (LE T Wx ma)) (hg:PG X tg (LG T Wx t)) (hs:swapsWithSole [tg] e pos.line X.env=pure ak:=by rfl) (hw:swappedStores [tg] e X.env=pure ai:=by rfl)
  (h1:(Eo [tg] X.env).map (·.2)=[assign tg X.env]:=by rfl):PS X (.Assign [tg] e pos) (LS T Wx (zX ma t)):=(ps_asg he hg hs hw h1).imp λ_ _ _ h=>Xv h
theorem zU [jJ T] (i:Nat) [Sl T i] {x:Str}{pos':Pos}(hN:X.N.Nodup) (he:PE X e (LE T Wx ma)) (hs:A6 e (ah (.Name x pos')) pos.line X.env=pure ak:=by rfl) (hi:X.N[i]? = ah x:=by rfl) (hx:Loc X.env.scope x:=by first|exact Or.inl rfl|exact Or.inr rfl)
  (hf:X.fn x=aj\/X.env.scope.names.lookup x=ah .local:=by first|exact .inl rfl|exact .inr rfl|assumption) :
  PS X (.Assign [.Name x pos'] e pos) (LS T Wx (zX ma (aM i))):=(ps_set hN hi hx he hs hf).imp λD σ H h=>by
 obtain⟨ρ,σw,g,hs,hg,he⟩:=h;refine⟨ρ,σw,g,hs,hg,qZ.fB hs he λx g1 ρ1 H1 vx gr R rx ay=>?_⟩;exact ay ρ1 H1 _ .refl R ((hs.mono gr _ _).set rx i)
def xt(i j:Nat) (a:AD):SD:=λσ g=>(a σ g).fl σ λws g=>match ws with
 |[v,w]=>.nx ((σ.set i (ah v)).set j (ah w)) g
 |_=>.bad
theorem Xw [jJ T] (i j:Nat) [Sl T i] [Sl T j] {x y:Str}{a b:aN}{m:AD}{px py pt:Pos}{kt k2 GZ}(hc:X.calm=aj) (hN:X.N.Nodup) (ha:PA X [a,b] (LA T Wx m)) (hi:X.N[i]? = ah x:=by rfl) (hj:X.N[j]? = ah y:=by rfl) (oU:i ≠ j:=by decide)
  (hx:X.env.scope.names.lookup x=ah .local:=by rfl) (hy:X.env.scope.names.lookup y=ah .local:=by rfl)
  (hw:swappedStores [.Tuple [.Name x px,.Name y py] kt pt] (.Tuple [a,b] k2 GZ) X.env=pure (ah [x,y]):=by rfl)
  (hs:swapsWithSole [.Tuple [.Name x px,.Name y py] kt pt] (.Tuple [a,b] k2 GZ) pos.line X.env=pure ak:=by rfl) :
  PS X (.Assign [.Tuple [.Name x px,.Name y py] kt pt] (.Tuple [a,b] k2 GZ) pos) (LS T Wx (xt i j m)):=(ps_par hc hN hi hj oU hx hy ha hw hs).imp λD σ H h=>by
 obtain⟨ρ,σw,g,hs,hg,he⟩:=h;refine⟨ρ,σw,g,hs,hg,qZ.fB hs he λx g1 ρ1 H1 vx gr R rx ay=>?_⟩
 match x,rx,ay with
 |[v,w],rx,ay=>
  simp only[Ca,aD]at rx;obtain⟨v1,_,rfl,r1,w1,_,rfl,r2,rfl⟩:=rx;exact⟨v1,w1,rfl,ay ρ1 H1 _ .refl R (((hs.mono gr _ _).set r1 i).set r2 j)⟩
 |[],_,ay=>exact ay.elim
 |[_],_,ay=>exact ay.elim
 |_ :: _ :: _ :: _,_,ay=>exact ay.elim

def QJ(c:TD) (body:SD):Nat->SD
 |0=>λ_ _=>.bad
 |n+1=>λσ g=>(c σ g).fl σ λb g=>if b then (match body σ g with
   | .nx σ g=>QJ c body n σ g
   | .ct σ g=>QJ c body n σ g
   | .bk σ g=>.nx σ g
   |r=>r) else .nx σ g
def oV:Nat:=100000
def Ce(c:TD) (body:SD):SD:=λσ g=>QJ c body oV σ g
theorem Xx{c:TD}{body:SD}{D σ H}(h:LS T Wx (Ce c body) D σ H):tWhile (LT T Wx c) (LS T Wx body) D σ H:=by
 obtain⟨ρ,σw,g,hs,hg,he⟩:=h;refine⟨λm σ H=>∃ρ σw g,RS T ρ H σw σ/\RG T ρ H g/\qZ T Wx D ρ H (QJ c body m σw g),⟨oV,ρ,σw,g,hs,hg,he⟩,?_⟩
 rintro m σ H ⟨ρ,σw,g,hs,hg,he⟩
 cases m with
 |zero=>exact he.elim
 |succ n=>
  refine⟨ρ,σw,g,hs,hg,qZ.fB hs he λx g1 ρ1 H1 vx gr R rx ay=>?_⟩;subst rx
  cases x with
  |false=>exact ay ρ1 H1 σ .refl R (hs.mono gr _ _)
  |true=>
   refine⟨λσ H=>∃ρ σw g,RS T ρ H σw σ/\RG T ρ H g/\qZ T Wx D ρ H (QJ c body n σw g),λσ' H' h=>⟨n,LN n,h⟩,ρ1,σw,g1,hs.mono gr _ _,R,?_⟩;simp only[lS]at ay
   cases hb:body σw g1 with
   |nx σ2 g2=>rw[hb]at ay;exact λρ' H' σ' nh R' r'=>⟨ρ',σ2,g2,r',R',qZ.base nh ay⟩
   |ct σ2 g2=>rw[hb]at ay;exact λρ' H' σ' nh R' r'=>⟨ρ',σ2,g2,r',R',qZ.base nh ay⟩
   |bk σ2 g2=>rw[hb]at ay;exact ay
   |rt w g2=>rw[hb]at ay;exact ay
   |ex c fs σ2 g2=>rw[hb]at ay;exact ay
   |bad=>rw[hb]at ay;exact ay.elim
theorem Xy{c:aN}{x:List bh}{tc:TD}{body:SD}(hp:Lq (model X.prog X.w) X.A X.env X.xe) (hc:PT X c (LT T Wx tc)) (hb:PSs X x (LS T Wx body)):PS X (.While c x [] pos) (LS T Wx (Ce tc body)):=
 (ps_while hp hc hb).imp λ_ _ _ h=>Xx h

inductive Nf where
 |lst (l:Nat)
 |enum (l:Nat) (us:List W)
 |zip (l:Nat) (us:List W) (k:Nat) (ys:List W)
instance:Coe Nat Nf:=⟨.lst⟩
structure ZS where
 ws:List W
 at_:au Nf
def ZI(J:ZS) (g:G):aw:=match J.at_ with
 |none=>aj
 |some (.lst l)=>decide (g[l]? = ah (.lst J.ws))
 |some (.enum l us)=>decide (g[l]? = ah (.lst us))
 |some (.zip l us k ys)=>decide (g[l]? = ah (.lst us)) && decide (g[k]? = ah (.lst ys))
structure ni(T:Tab) (ρ0:List aq) (H0:Hp) (L:ZS) (J:It):Prop where
 stop:∀ρ H g i,qj ρ0 H0 ρ H->RG T ρ H g->ZI L g=aj->L.ws.length<=i->J.stop i H
 go:∀ρ H g i w,qj ρ0 H0 ρ H->RG T ρ H g->ZI L g=aj->L.ws[i]? = ah w->J.go i H
 yld:∀ρ H g i w x H',qj ρ0 H0 ρ H->RG T ρ H g->ZI L g=aj->L.ws[i]? = ah w->J.yld i H x H'->∃ρ',qj ρ H ρ' H'/\RG T ρ' H' g/\RW T ρ' H' w x
abbrev ID:=Sg->G->Out ZS
def LI(T:Tab) (Wx:WX) (m:ID):TI:=λσ H R=>∃ρ σw g,RS T ρ H σw σ/\RG T ρ H g/\zP (λρ H (a:ZS) (b:It)=>ni T ρ H a b) T Wx σ ρ H R (m σw g)
theorem _root_.L2.PI.imp{X:Cx}{tg e:aN}{t t':TI}(h:PI X tg e t) (k:∀σ H Q,t' σ H Q->t σ H Q):PI X tg e t':=⟨λpins s σ H Q I q=>h.run pins s σ H Q I (k σ H Q q)⟩
def Jj(g:G):W->au ZS
 | .tup ws=>ah ⟨ws,ai⟩
 | .fz ws=>ah ⟨ws,ai⟩
 | .ref l=>match g[l]? with
  |some (.lst ws)=>ah ⟨ws,ah l⟩
  |_=>ai
 |_=>ai
def ij(a:ED):ID:=λσ g=>(a σ g).bind λw g=>match Jj g w with
 |some L=>.ok L g
 |none=>.bad
theorem Xz{ρ0:List aq}{H0:Hp}{l:Nat}{a:aq}{ws:List W}(h:ρ0[l]? = ah a):ni T ρ0 H0 ⟨ws,ah l⟩ (Itl T.K a):=by
 have get:∀{ρ H g},qj ρ0 H0 ρ H->RG T ρ H g->ZI ⟨ws,ah l⟩ g=aj->∃vs,H a=ah (.lst vs)/\aD T ρ H ws vs:=λ{ρ H g} gr R s=>by
  have s:=dF s;exact R.obj l _ a s (gr.pre _ _ h)
 refine⟨λρ H g i gr R s hi=>?_,λρ H g i w gr R s hi=>?_,λρ H g i w x H' gr R s hi y=>?_⟩
 ·obtain⟨vs,hv,r⟩:=get gr R s
  exact⟨vs,SqL.of hv,by rw[<- r.length];exact hi⟩
 ·obtain⟨vs,hv,r⟩:=get gr R s
  obtain⟨v,e,q⟩:=r.get hi;exact⟨vs,v,SqL.of hv,e⟩
 ·obtain⟨vs,hv,r⟩:=get gr R s
  obtain⟨v,e,q⟩:=r.get hi;obtain⟨rfl,y⟩:=y;have y:=y vs (SqL.of hv);rw[e]at y;cases y;exact⟨ρ,.refl,R,q⟩
theorem XA{ρ0 H0 a ws vs}(h:H0 a=ah (.tup vs)) (r:aD T ρ0 H0 ws vs):ni T ρ0 H0 ⟨ws,ai⟩ (Itt T.K a):=by
 refine⟨λρ H g i gr R s hi=>?_,λρ H g i w gr R s hi=>?_,λρ H g i w x H' gr R s hi y=>?_⟩
 ·exact⟨vs,SqT.of (gr.tup _ _ h),by rw[<- r.length];exact hi⟩
 ·obtain⟨v,e,q⟩:=r.get hi
  exact⟨vs,v,SqT.of (gr.tup _ _ h),e⟩
 ·obtain⟨v,e,q⟩:=r.get hi
  obtain⟨rfl,y⟩:=y;have y:=y vs (SqT.of (gr.tup _ _ h));rw[e]at y;cases y;exact⟨ρ,.refl,R,q.mono gr _ _⟩
theorem XB{ρ0:List aq}{H0:Hp}{a:aq}{o:Obj}{ws:List W}{vs:List V}(h:H0 a=ah (.frz o (.lst vs))) (r:aD T ρ0 H0 ws vs):ni T ρ0 H0 ⟨ws,ai⟩ (Itl T.K a):=by
 have sq:∀{ρ H},qj ρ0 H0 ρ H->SqL T.K H a vs:=λgr=>.inl (.inr ⟨o,gr.frz _ _ _ h⟩);refine⟨λρ H g i gr R s hi=>?_,λρ H g i w gr R s hi=>?_,λρ H g i w x H' gr R s hi y=>?_⟩
 ·exact⟨vs,sq gr,by rw[<- r.length];exact hi⟩
 ·obtain⟨v,e,q⟩:=r.get hi
  exact⟨vs,v,sq gr,e⟩
 ·obtain⟨v,e,q⟩:=r.get hi
  obtain⟨rfl,y⟩:=y;have y:=y vs (sq gr);rw[e]at y;cases y;exact⟨ρ,.refl,R,q.mono gr _ _⟩
theorem XC{ρ0 H0 lo n}:ni T ρ0 H0 ⟨(dh n).map λ(i:Nat)=>W.int (lo+i),ai⟩ (Itr lo n):=by
 refine⟨λρ H g i gr R s hi=>?_,λρ H g i w gr R s hi=>?_,λρ H g i w x H' gr R s hi y=>?_⟩
 ·simp at hi
  exact hi
 ·have:=(bP.mp hi).1
  simp at this;exact this
 ·obtain⟨rfl,rfl⟩:=y
  obtain⟨h1,h2⟩:=bP.mp hi;simp at h2;subst h2;exact⟨ρ,.refl,R,by simp only[RW]⟩
def XD(K:aT) (tl:TE):TI:=λσ H R=>tl σ H λx H1=>∃a,x = .ref a/\(((∃xs,SqL K H1 a xs)/\R (Itl K a) H1)\/((∃xs,SqT K H1 a xs)/\R (Itt K a) H1))
theorem Ng{tg l:aN}{tl:TE}(hl:PE X l tl):PI X tg l (XD X.K tl):=by
 refine⟨λpins s σ H R I h=>?_⟩;refine thn (hl.run pins s σ H _ I h) λv s1 ⟨x,H1,I1,r1,q1⟩=>?_;obtain⟨a,e,q⟩:=q1;subst e;cases r1;rcases q with⟨⟨xs,hq⟩,q⟩|⟨⟨xs,hq⟩,q⟩
 ·obtain⟨du,rv,p,hz⟩:=I1.list hq
  refine wpAny_pyIter_list p.isList ?_;refine⟨s1.heap.objs.size,[s1.heap.objs.size],_,_,H1,rfl,I1.kept (t':=s1.toks) λb o e=>Heap.get?_push_of_some _ e,turn_list a _,⟨_,Heap.get?_push_size _ rfl,rfl,rfl⟩,λb hb=>?_,q⟩;have e:b=s1.heap.objs.size:=by simpa using hb
  subst e;exact I1.fpOk (bC _) (I1.hok.fresh (bC _))
 ·obtain⟨du,rv,p,hz⟩:=I1.tuple hq
  refine wpAny_pyIter_tuple (show s1.heap.IsTuple a du.toArray from p) ?_;refine⟨s1.heap.objs.size,[s1.heap.objs.size],_,_,H1,rfl,I1.kept (t':=s1.toks) λb o e=>Heap.get?_push_of_some _ e,turn_tuple a _,⟨_,Heap.get?_push_size _ rfl,rfl,rfl⟩,λb hb=>?_,q⟩;have e:b=s1.heap.objs.size:=by simpa using hb
  subst e;exact I1.fpOk (bC _) (I1.hok.fresh (bC _))
theorem xu{tg:aN}(hK:X.K=T.K) (h:PE X e (LE T Wx ma)):PI X tg e (LI T Wx (ij ma)):=(Ng h).imp λσ H R h=>by
 obtain⟨ρ,σw,g,hs,hg,he⟩:=h;refine⟨ρ,σw,g,hs,hg,zP.bind he λx g1 ρ1 H1 vx bt R1 rx ay=>?_⟩;rw[hK]
 cases x with
 |tup ws=>
  simp only[bf,RW]at rx;obtain⟨a,vs,rfl,ha,hr⟩:=rx;exact⟨a,rfl,.inr ⟨⟨vs,SqT.of ha⟩,ay ρ1 H1 _ .refl R1 (XA ha hr)⟩⟩
 |ref l=>
  simp only[bf,RW]at rx;obtain⟨a,ha,rfl⟩:=rx;obtain⟨o,ho,ro⟩:=R1.there ha;simp only[Jj,ho]at ay
  cases o with
  |lst ws=>
   obtain⟨vs,hv,hr⟩:=ro;exact⟨a,rfl,.inl ⟨⟨vs,SqL.of hv⟩,ay ρ1 H1 _ .refl R1 (Xz ha)⟩⟩
  |_=>exact ay.elim
 |fz ws=>
  simp only[bf,RW]at rx;obtain⟨a,o,vs,rfl,ha,hr⟩:=rx;exact⟨a,rfl,.inl ⟨⟨vs,.inl (.inr ⟨o,ha⟩)⟩,ay ρ1 H1 _ .refl R1 (XB ha hr)⟩⟩
 |_=>exact ay.elim
def Cf(lo hi:Int):ZS:=⟨(dh (hi - lo).toNat).map λ(i:Nat)=>W.int (lo+i),ai⟩
def ZX(i:Int):aw:=decide (-(2 ^ 62)<=i/\i<2 ^ 62)
def jS(a:AD):ID:=λσ g=>(a σ g).bind λws g=>match ws with
 |[.int n]=>if ZX n then .ok (Cf 0 n) g else .bad
 |_=>.bad
theorem Zv{tg a:aN}{m:AD}{p:Pos}(hm:X.mg "range" = ai) (ha:PA X [a] (LA T Wx m)) (hg:Gl X "range":=by rfl) (hs:bo [a] X.env=[(ak,eval a X.env)]:=by rfl):PI X tg (.Call (.Name "range" p) [a] [] pos) (LI T Wx (jS m)):=
 (pi_range1 hg hm ha hs).imp λσ H R h=>by
  obtain⟨ρ,σw,g,hs,hg,he⟩:=h;refine⟨ρ,σw,g,hs,hg,zP.bind he λx g1 ρ1 H1 vx bt R1 rx ay=>?_⟩
  match x,rx,ay with
  |[.int n],rx,ay=>
   simp only[Ca,aD,RW]at rx;obtain⟨v1,_,rfl,rfl,rfl⟩:=rx;dsimp only at ay
   split at ay
   ·rename_i hn
    have hn:=dF hn;have q:=ay ρ1 H1 (Itr 0 (n - 0).toNat) .refl R1 XC;rw[Int.sub_zero]at q;exact⟨n,rfl,hn.1,hn.2,q⟩
   ·exact ay.elim
  |[],_,ay=>exact ay.elim
  |[.non],_,ay|[.bl _],_,ay|[.str _],_,ay|[.tup _],_,ay|[.ref _],_,ay|[.ty _],_,ay|[.dA],_,ay|[.eH _],_,ay|[.fz _],_,ay|[.eI _ _],_,ay=>exact ay.elim
  |_ :: _ :: _,_,ay=>exact(by(simp at ay;exact ay):False).elim
def Zn(J:ZS) (tg:GD) (body:SD):List W->SD
 |[],σ,g=>if ZI J g then .nx σ g else .bad
 |w :: ws,σ,g=>if ZI J g then (tg w σ g).fl σ λσ g=>(match body σ g with
   | .nx σ g=>Zn J tg body ws σ g
   | .ct σ g=>Zn J tg body ws σ g
   | .bk σ g=>.nx σ g
   |r=>r) else .bad
def fX(i:ID) (tg:GD) (body:SD):SD:=λσ g=>(i σ g).fl σ λJ g=>Zn J tg body J.ws σ g
theorem XF{i:ID}{tg:GD}{body:SD}{D σ H}(h:LS T Wx (fX i tg body) D σ H):tFor (LI T Wx i) (LG T Wx tg) (LS T Wx body) D σ H:=by
 obtain⟨ρ0,σw0,g0,uF,G3,G4⟩:=h;refine⟨ρ0,σw0,g0,uF,G3,qZ.fB uF G4 λJ g1 ρ1 H1 Jt bt R1 rel ay=>?_⟩;refine⟨λi m σ H=>∃ρ σw g,qj ρ1 H1 ρ H/\RS T ρ H σw σ/\RG T ρ H g/\m=(J.ws.drop i).length/\qZ T Wx D ρ H (Zn J tg body (J.ws.drop i) σw g),⟨_,ρ1,σw0,g1,.refl,uF.mono bt _ _,R1,rfl,by simpa using ay⟩,?_⟩
 rintro i m σ H ⟨ρ,σw,g,gr,hs,hg,rfl,he⟩
 cases hd:J.ws.drop i with
 |nil=>
  rw[hd]at he;simp only[Zn]at he
  split at he
  ·rename_i dB
   exact .inl ⟨rel.stop ρ H g i gr hg dB (by simpa using hd),he ρ H σ .refl hg hs⟩
  ·exact he.elim
 |cons w ws=>
  rw[hd]at he;simp only[Zn]at he
  split at he
  ·rename_i dB
   have hw:J.ws[i]? = ah w:=by
    have:(J.ws.drop i)[0]? = ah w:=by rw[hd];rfl
    simpa using this
   have eu:J.ws.drop (i+1)=ws:=by
    have:(J.ws.drop i).drop 1=ws:=by rw[hd];rfl
    rw[Bj]at this;exact this
   refine .inr ⟨rel.go ρ H g i w gr hg dB hw,λσ H=>∃ρ σw g,qj ρ1 H1 ρ H/\RS T ρ H σw σ/\RG T ρ H g/\qZ T Wx D ρ H (Zn J tg body ws σw g),λσ' H' ⟨ρ,σw,g,a,b,c,d⟩=>?_,λx H' y=>?_⟩
   ·exact⟨ws.length,by simp,ρ,σw,g,a,b,c,by rw[eu],by rw[eu];exact d⟩
   ·obtain⟨ρ2,bE,R2,G5⟩:=rel.yld ρ H g i w x H' gr hg dB hw y
    have bg:=qZ.base bE he;have cR:=hs.mono bE _ _;refine⟨ρ2,w,σw,g,G5,cR,R2,qZ.fB cR bg λσ3 g3 ρ3 H3 σ' eL R3 Cg bu=>?_⟩;refine⟨ρ3,σ3,g3,Cg,R3,?_⟩;have grow:∀{ρ' H'},qj ρ3 H3 ρ' H'->qj ρ1 H1 ρ' H':=λq=>((gr.trans bE).trans eL).trans q
    cases hb:body σ3 g3 with
    |nx σ4 g4=>rw[hb]at bu;exact λρ' H' σ' nh R' r'=>⟨ρ',σ4,g4,grow nh,r',R',qZ.base nh bu⟩
    |ct σ4 g4=>rw[hb]at bu;exact λρ' H' σ' nh R' r'=>⟨ρ',σ4,g4,grow nh,r',R',qZ.base nh bu⟩
    |bk σ4 g4=>rw[hb]at bu;exact bu
    |rt w g4=>rw[hb]at bu;exact bu
    |ex c fs σ4 g4=>rw[hb]at bu;exact bu
    |bad=>rw[hb]at bu;exact bu.elim
  ·exact he.elim
theorem Jr{iter tg:aN}{x:List bh}{i:ID}{t:GD}{body:SD}(hp:Lq (model X.prog X.w) X.A X.env X.xe) (hc:X.calm=aj) (hi:PI X tg iter (LI T Wx i)) (hg:PG X tg (LG T Wx t)) (hb:PSs X x (LS T Wx body))
  (hs:∀x,tG iter X.env x=pure x:=by intro _;rfl):PS X (.For tg iter x [] pos) (LS T Wx (fX i t body)):=(ps_for hp hc hi hg hb hs).imp λ_ _ _ h=>XF h
end
end
end WL
end
section
namespace WL
open PySem PySem.Spec
open L2 hiding Takes XE CX PMk MkP ps_raise ps_try_as ps_try_many passAt passes_call takes_of HdsOk mk_of
open L2N (Takes XE CX PMk MkP ps_raise ps_try_as ps_try_many passAt passes_call takes_of HdsOk mk_of)
open PyProof.Rows hiding St
variable{T:Tab}
def LF(T:Tab) (n:Nat) (m:FN):Sp:=λvs H Q E=>∃ρ ws g,RG T ρ H g/\aD T ρ H ws vs/\ws.length=n/\zP (bf T) T (λcls d _ H=>E cls d H) [] ρ H Q (m ws g)
def Zo(n:Nat) (ws:List W):Sg:=ws.map ah++fQ (n - ws.length) ai
def Fl.out:Fl->Out W
 | .nx _ g=>.ok .non g
 | .rt w g=>.ok w g
 | .ex c fs _ g=>.ex c fs g
 |_=>.bad
def fnW(n:Nat) (body:SD):FN:=λws g=>(body (Zo n ws) g).out
theorem XG{ρ H}{N:List Str}:∀{ws:List W}{vs:List V},aD T ρ H ws vs->cM T ρ H (Zo N.length ws) (L2.start N vs):=by
 intro ws vs h;have hl:=h.length;unfold Zo L2.start;rw[hl]
 generalize N.length - vs.length=k
 have rep:∀k:Nat,cM T ρ H (fQ k ai) (fQ k ai):=λk=>by
  induction k with
  |zero=>exact rfl
  |succ k ih=>exact⟨ai,_,rfl,ih⟩
 clear hl
 induction ws generalizing vs with
 |nil=>simp only[aD]at h;subst h;exact rep k
 |cons w ws ih=>
  simp only[aD]at h;obtain⟨v,r,rfl,a,b⟩:=h;exact⟨v,_,rfl,a,ih b⟩
theorem G6 [jJ T] [j2 T] {ρ H}{N:List Str}{ws:List W}{vs:List V}(h:aD T ρ H ws vs):RS T ρ H (Zo N.length ws) (L2.start N vs):=⟨XG h,.no⟩
theorem zP.conv{α β:Type}{rel:List aq->Hp->α->β->Prop}{Wx Nh:WX}{σ σ' ρ H}{Q:β->Hp->Prop}{r:Out α}(h:zP rel T Wx σ ρ H Q r) (e:∀c d H,Wx c d σ H->Nh c d σ' H):zP rel T Nh σ' ρ H Q r:=by
 cases r with
 |ok a g=>exact h
 |ex c fs g=>exact λρ' H' C d vs a b c e1 e2=>e _ _ _ (h ρ' H' C d vs a b c e1 e2)
 |bad=>exact h
theorem LF.len{n m}:∀vs H Q E,LF T n m vs H Q E->vs.length=n:=λvs H Q E ⟨ρ,ws,g,R,r,e,_⟩=>by rw[<- e,r.length]
theorem xv{X:Cx}:L2N.Takes X (λ_ _ _ _=>False):=λu s' ⟨a,B,sI,pins,σ,H,cls,d,e,I,nb,up,sky,na,os,ag,w⟩=>w.elim
section
variable{P:bO}{w:bS}{K:aT}{mg:Str->au az}{base:bj}
theorem Ni{x qual:Str}{st:bh}{f:aq}{fd:oi}{N ps:List Str}{k:Nat}{sp:Sp}(F:Fun K x qual st f fd) (S:Lr N ps (aU st)) (len:∀vs H Q E,sp vs H Q E->vs.length=ps.length)
  (rq:∀(aO:az) (A:bV) (outer:List Env) (s:aK) (H:Hp) (vs:List V) (Q:VK) (E:XK),Room k (A.deeper (iK qual (aU st) s.heap.objs.size f aO))->sp vs H Q E ->
   ∃t,PSs (A7 (L2N.CX P w) P w K mg base N qual (aU st) f aO A outer s H E) (cI st) t/\t { nx:=λ_ H'=>Q .non H',rt:=Q } (L2.start N vs) H):pT P w K mg base (L2N.CX P w) (k+1) f fd ps sp:=by
 obtain⟨oc,od,kV,doc,pm,an,aO,ct,b9,rfl,lk,gj⟩:=F.ex;exact fn_of lk gj S len λA outer s H vs Q E hr gn=>rq aO A outer s H vs Q E hr gn
structure bK(P:bO) (w:bS) (K:aT) (mg:Str->au az) (base:bj) (T:Tab) (k:Nat) (f:aq) (n:Nat) (m:FN):Prop where
 ok:∃fd ps,pT P w K mg base (L2N.CX P w) k f fd ps (LF T n m)/\Binds K fd ps []/\ps.length=n
 kp:iL K (.ref f)=aj
theorem XH [jJ T] [j2 T] {x qual:Str}{st:bh}{f:aq}{fd:oi}{N ps:List Str}{k n:Nat}{body:SD}(F:Fun K x qual st f fd) (S:Lr N ps (aU st)) (hn:ps.length=n) (hb:Binds K fd ps [])
  (rq:∀(aO:az) (A:bV) (outer:List Env) (s:aK) (H:Hp) (E:XK),Room k (A.deeper (iK qual (aU st) s.heap.objs.size f aO)) ->
   PSs (A7 (L2N.CX P w) P w K mg base N qual (aU st) f aO A outer s H E) (cI st) (LS T (λcls d _ H=>E cls d H) body)):bK P w K mg base T (k+1) f n (fnW N.length body):=by
 refine⟨⟨fd,ps,?_,hb,hn⟩,F.kp⟩;refine Ni F S (λvs H Q E h=>by rw[hn];exact LF.len _ _ _ _ h) λaO A outer s H vs Q E hr h=>⟨_,rq aO A outer s H E hr,?_⟩
 obtain⟨ρ,ws,g,R,r,e,he⟩:=h;refine⟨ρ,Zo N.length ws,g,G6 r,R,?_⟩;unfold fnW at he
 cases hb:body (Zo N.length ws) g with
 |nx σ g=>rw[hb]at he;exact λρ' H' σ' gr R' r'=>he ρ' H' .non gr R' (by simp only[bf,RW])
 |rt w g=>rw[hb]at he;exact he
 |bk σ g=>rw[hb]at he;exact he.elim
 |ct σ g=>rw[hb]at he;exact he.elim
 |ex c fs σ g=>rw[hb]at he;exact λρ' H' σ' C d vs gr R' r'=>he ρ' H' C d vs gr R'
 |bad=>rw[hb]at he;exact he.elim
end
section
variable{X:Cx}{Wx:WX}{k n:Nat}{f C:aq}{m:FN}{e o:aN}{es:List aN}{ma mo:ED}{cF:AD}{pos p:Pos}
theorem Room.le{j k:Nat}{A:bV}(r:Room k A) (h:j<=k:=by decide):Room j A:=r.mono h
def zW(n:Nat) (m:FN):FN:=λws g=>if ws.length=n then m ws g else .bad
theorem xw{A:bV}{pins:List (aq×Obj)}{σ:St}{H:Hp}{s:aK}{Q:VK}{us:List az}{vs:List V}{ρ:List aq}{g:G}{ws:List W}(F:bK X.prog X.w X.K X.mg X.base T k f n m) (hr:Room k A) (hf:wb X.prog X.w X.K X.mg X.base A X.stack s H) (tk:Takes X Wx)
  (I:Inv X pins σ H s) (R:RG T ρ H g) (eJ:aD T ρ H ws vs) (rv:n_ vs us) (h:zP (bf T) T Wx σ ρ H Q (zW n m ws g)):bL (model X.prog X.w) A (call (.ref f) us) (EP X pins σ Q) X.xe s:=by
 obtain⟨fd,ps,F,hb,hn⟩:=F.ok;unfold zW at h
 split at h
 ·rename_i eu
  have hl:us.length=ps.length:=by rw[<- rv.length,<- eJ.length,eu,hn]
  have b:=hb s us I.kIn (by rw[fR];exact hl);rw[fR]at b;refine A8 (wc (F.run A X.stack s H ⟨us,[]⟩ us vs Q (WE Wx σ) hr hf b rv ⟨ρ,ws,g,R,eJ,eu,h.conv λc d H q=>q⟩) λr s' hq=>?_)
  cases r with
  |error e=>exact passAt tk σ pins H s e s' I hq
  |ok fl=>
   cases fl with
   |ret u=>exact I.after hq
   |next=>exact False.elim hq
   |brk=>exact False.elim hq
   |cont=>exact False.elim hq
 ·exact h.elim
theorem qA(F:bK X.prog X.w X.K X.mg X.base T k f n m) (hr:Room k X.A) (tk:Takes X Wx):CallO X T Wx (.ref f) (zW n m):=
 λpins s σ H ρ g xs vs us Q I R rx r1 e=>xw F hr I.env0 tk I R rx r1 e
theorem qs{x:Str}{f:aq}{F:FN}(ho:CallO X T Wx (.ref f) F) (hk:iL X.K (.ref f)=aj) (hm:X.mg x=ah (.ref f)) (ha:PA X (e :: es) (LA T Wx cF)) (hg:Gl X x:=by rfl)
  (cW:(x == ("__debug__" : Str))=ak:=by decide) (he:bo (e :: es) X.env=(ak,eval e X.env) :: bo es X.env:=by rfl) (dc:(c_ pos (bo es X.env)).any (·.1)=ak:=by rfl) :
  PE X (.Call (.Name x p) (e :: es) [] pos) (LE T Wx (aQ F cF)):=⟨λpins s σ H Q I h=>by
 refine En (Ur I hg hm ?_ cW);exact EB (h₀:=X.base) I.ok.mod.kin hk (GP ho ha I h) he dc⟩
def oW(c:Nat) (m:FN):FN:=λws g=>match m (.ref g.length :: ws) (g++[.ins c []]) with
 | .ok .non g'=>.ok (.ref g.length) g'
 | .ok _ _=>.bad
 | .ex c fs g=>.ex c fs g
 | .bad=>.bad
theorem XI{c:Nat}(M:Mk X.K C f) (hK:X.K=T.K) (hc:T.cls c=ah C) (cw:ng T C) (F:bK X.prog X.w X.K X.mg X.base T k f (n+1) m) (hr:Room (k+1) X.A) (tk:Takes X Wx):CallO X T Wx (.ref C) (zW n (oW c m)):=by
 intro pins s σ H ρ g ws vs us Q I R eJ rv h;obtain⟨fd,ps,F,hb,hn⟩:=F.ok;unfold zW at h
 split at h
 ·rename_i eu
  have hq:∀x dx,H x=ai->H dx=ai->dx ≠ x->LF T (n+1) m (.ref x :: vs) (upd (upd H dx (.own x)) x (.ins C dx [])) (λv H2=>v = .non/\Q (.ref x) H2) (WE Wx σ):=by
   intro x dx hx Ci ne;have rV:upd H dx (.own x) x=ai:=by rw[gF ne.symm];exact hx
   have gr:qj ρ H (ρ++[x]) (upd (upd H dx (.own x)) x (.ins C dx [])):=(jK Ci).trans (jP rV);refine⟨ρ++[x],.ref g.length :: ws,g++[.ins c []],R.made hx Ci ne hc cw,.cons (Qn R) (eJ.mono gr _ _),by simp[eu],?_⟩;unfold oW at h
   cases hm:m (.ref g.length :: ws) (g++[.ins c []]) with
   |ok a g'=>
    rw[hm]at h
    cases a with
    |non=>
     intro ρ' H' b bE R2 rb;simp only[bf,RW]at rb;refine⟨rb,h ρ' H' _ (gr.trans bE) R2 ?_⟩;simp only[bf,RW];exact⟨x,bE.pre _ _ (by rw[<- R.len];simp),rfl⟩
    |_=>exact h.elim
   |ex c fs g'=>
    rw[hm]at h;exact λρ' H' C' d G7 bE R2=>h ρ' H' C' d G7 (gr.trans bE) R2
   |bad=>rw[hm]at h;exact h.elim
  have oX:=hq (s.heap.objs.size+1) s.heap.objs.size (I.hok.fresh (Bl _)) (I.hok.fresh (bC _)) (tO (LN _));have I2:=Inv.made (C:=C) I;have r2:n_ (V.ref (s.heap.objs.size+1) :: vs) (Value.ref (s.heap.objs.size+1) :: us):=.cons rfl rv
  have hl:(Value.ref (s.heap.objs.size+1) :: us).length=ps.length:=by
   have e:=r2.length;rw[F.len _ _ _ _ oX]at e;exact e.symm
  have b:=hb _ (Value.ref (s.heap.objs.size+1) :: us) I2.kIn (by rw[fR];exact hl);rw[fR]at b
  refine A8 (make_map (f:=f) I.kIn M.makes M.init (beq_iff_eq.mp M.fn) (wc (F.run _ X.stack _ _ ⟨Value.ref (s.heap.objs.size+1) :: us,[]⟩ (Value.ref (s.heap.objs.size+1) :: us) _ _ (WE Wx σ) (hr.make C us [])
   (I2.env0.make C us []) b r2 oX) λr s' xx=>?_))
  cases r with
  |error e=>exact passAt tk σ pins _ _ e s' I2 xx
  |ok fl=>
   cases fl with
   |ret u=>
    obtain⟨v,H',I3,rv,ev,q3⟩:=I2.after xx;subst ev;exact⟨rv,⟨V.ref (s.heap.objs.size+1),H',I3,rfl,q3⟩⟩
   |next=>exact False.elim xx
   |brk=>exact False.elim xx
   |cont=>exact False.elim xx
 ·exact h.elim
def oY(g:G):W->au (Nat×Nat×List (Nat×W))
 | .ref l=>match g[l]? with
  |some (.ins c fs)=>ah (l,c,fs)
  |_=>ai
 |_=>ai
theorem Nj{ρ H g x vx l c fs}(R:RG T ρ H g) (rx:RW T ρ H x vx) (h:oY g x=ah (l,c,fs)):∃a C dx vs,x = .ref l/\ρ[l]? = ah a/\vx = .ref a/\T.cls c=ah C/\ng T C/\H a=ah (.ins C dx vs)/\RF T ρ H fs vs/\g[l]? = ah (.ins c fs)/\dx ∉ ρ/\H dx=ah (.own a):=by
 cases x with
 |ref l'=>
  simp only[RW]at rx;obtain⟨a,ha,rfl⟩:=rx;obtain⟨u,hu,ro⟩:=R.there ha;simp only[oY,hu]at h
  cases u with
  |ins c' gM=>
   cases h;obtain⟨C,dx,vs,h1,h2,h3,h4,h5,h6⟩:=ro
   exact⟨a,C,dx,vs,rfl,ha,rfl,h1,h2,h3,h4,hu,h5,h6⟩
  |_=>cases h
 |_=>cases h
def qP(g:G):W->au (Nat×Nat×List (Nat×W))
 | .ref l=>match g[l]? with
  |some (.ins c fs)=>ah (l,c,fs)
  |_=>ai
 | .obj c fs ws=>ah (0,c,fs.zip ws)
 |_=>ai
structure G8(T:Tab) (ρ:List aq) (H:Hp) (fs:List (Nat×W)) (vs:List (Str×V)):Prop where
 lookup:∀{f:Nat}{n:Str}{w:W},T.fns[f]? = ah n->ZV f fs=ah w->∃v,vs.lookup n=ah v/\RW T ρ H w v
 absent:∀{m:Str},m ∉ T.fns->vs.lookup m=ai
theorem RF.l{ρ H fs vs}(h:RF T ρ H fs vs):G8 T ρ H fs vs:=⟨λa b=>h.lookup a b,λa=>h.absent a⟩
theorem rS.rf{ρ H}:∀{fs:List Nat}{ws:List W}{vs:List V}{c9:List (Str×V)},rS T fs vs c9->aD T ρ H ws vs->G8 T ρ H (fs.zip ws) c9
 |[],ws,[],c9,h,r=>⟨λ_ e=>(by simp only[UW,ZV]at e;cases e),λm=>h _ m⟩
 |f :: fs,[],v :: vs,c9,h,r=>by simp only[aD]at r;cases r
 |f :: fs,w :: ws,v :: vs,c9,h,r=>by
  obtain⟨⟨n,e,hl⟩,h⟩:=h;simp only[aD]at r;obtain⟨v',r',e',a,b⟩:=r;cases e';have ih:=rS.rf h b;refine⟨λ{g m w'} h1 h2=>?_,ih.absent⟩;simp only[UZ,ZV]at h2
  split at h2
  ·rename_i hk
   subst hk;cases h2;rw[e]at h1;cases h1;exact⟨v,hl,a⟩
  ·exact ih.lookup h1 h2
 |[],_,_ :: _,_,h,_=>h.elim
 |_ :: _,_,[],_,h,_=>h.elim
theorem Qs{ρ H g x vx l c fs}(R:RG T ρ H g) (rx:RW T ρ H x vx) (h:qP g x=ah (l,c,fs)):∃a C dx vs,vx = .ref a/\T.cls c=ah C/\ng T C/\H a=ah (.ins C dx vs)/\G8 T ρ H fs vs:=by
 cases x with
 |ref l'=>
  obtain⟨a,C,dx,vs,_,_,h1,h2,h3,h4,h5,_⟩:=Nj R rx (show oY g (.ref l')=_ from h);exact⟨a,C,dx,vs,h1,h2,h3,h4,h5.l⟩
 |obj c' gM ws=>
  simp only[RW]at rx;obtain⟨a,C,dx,c9,vs,rfl,_,hc,cw,hH,nm,r⟩:=rx;cases h;exact⟨a,C,dx,c9,rfl,hc,cw,hH,nm.rf r⟩
 |_=>cases h
def fY(i:Nat) (a:ED):ED:=λσ g=>(a σ g).bind λx g=>match qP g x with
 |some (_,_,fs)=>match ZV i fs with
  |some w=>.ok w g
  |none=>.bad
 |none=>.bad
theorem QZ(i:Nat) {nm:Str}(hK:X.K=T.K) (hn:T.fns[i]? = ah nm) (he:PE X e (LE T Wx ma)) (hb:wd e nm X.env (eval e X.env)=eval e X.env:=by rfl):PE X (.Attribute e nm pos) (LE T Wx (fY i ma)):=
 (pe_fld he hb).imp λσ H Q h=>by
  obtain⟨ρ,σw,g,hs,hg,he⟩:=h;refine⟨ρ,σw,g,hs,hg,zP.bind he λx g1 ρ1 H1 vx bt R1 rx ay=>?_⟩
  cases hx:qP g1 x with
  |none=>rw[hx]at ay;exact ay.elim
  |some q=>
   obtain⟨l,c,fs⟩:=q;rw[hx]at ay;dsimp only at ay;obtain⟨a,C,dx,vs,rfl,hc,cw,hH,rf⟩:=Qs R1 rx hx
   cases hw:ZV i fs with
   |none=>rw[hw]at ay;exact ay.elim
   |some w=>
    rw[hw]at ay;obtain⟨v,hv,rv⟩:=rf.lookup hn hw;rw[hK];exact⟨a,C,dx,vs,v,rfl,hH,cw.cl,cw.na nm (di hn),hv,ay ρ1 H1 v .refl R1 rv⟩
def l_(i:Nat) (o:ED) (v:ED):SD:=λσ g=>(v σ g).fl σ λy g=>(o σ g).fl σ λx g=>match oY g x with
 |some (l,c,fs)=>if fs.length<100 then .nx σ (g.set l (.ins c (Jy i y fs))) else .bad
 |none=>.bad
theorem uG(i:Nat) {nm:Str}{mv:ED}{v:aN}{pos':Pos}(hK:X.K=T.K) (hn:T.fns[i]? = ah nm) (ho:PE X o (LE T Wx mo)) (hv:PE X v (LE T Wx mv)) (hs:A6 v (ah (.Attribute o nm pos')) pos.line X.env=pure ak:=by rfl) :
  PS X (.Assign [.Attribute o nm pos'] v pos) (LS T Wx (l_ i mo mv)):=(ps_fld ho hv hs).imp λD σ H h=>by
 obtain⟨ρ,σw,g,hs,hg,he⟩:=h;refine⟨ρ,σw,g,hs,hg,qZ.fB hs he λy g1 ρ1 H1 vy bt R1 ry ay=>?_⟩;refine⟨ρ1,σw,g1,hs.mono bt _ _,R1,qZ.fB (hs.mono bt _ _) ay λx g2 ρ2 H2 vx bE R2 rx bg=>?_⟩
 cases hx:oY g2 x with
 |none=>rw[hx]at bg;exact bg.elim
 |some q=>
  obtain⟨l,c,fs⟩:=q;rw[hx]at bg;dsimp only at bg;obtain⟨a,C,dx,vs,rfl,ha,rfl,hc,cw,hH,rf,hg,xy,XJ⟩:=Nj R2 rx hx
  split at bg
  ·rename_i hlen
   rw[hK];have mt:rT (H2 a):=by rw[hH];trivial
   have eL:qj ρ2 H2 ρ2 (upd H2 a (.ins C dx (putF nm vy vs))):=M_ (λC' dx' G7 e=>by rw[hH]at e;cases e;exact xy) mt;refine⟨a,C,dx,vs,rfl,hH,cw.cl,cw.na nm (di hn),by rw[<- rf.length];omega,?_⟩;refine bg ρ2 _ σ eL (R2.Mu (by rw[hH];trivial) eL ha ⟨C,dx,_,hc,cw,ez,((rf.mono eL _ _).put ((ry.mono bE _ _).mono eL _ _) hn),xy,(eL.un dx a _ xy XJ hH).2.1⟩) ?_;exact hs.mono ((bt.trans bE).trans eL) _ _
  ·exact bg.elim
def xA(cs:List (Nat×W)) (a:ED):ED:=λσ g=>(a σ g).bind λx g=>match qP g x with
 |some (_,c,_)=>match ZV c cs with
  |some w=>.ok w g
  |none=>.bad
 |none=>.bad
theorem Nk{cs:List (Nat×W)}{nm:Str}(hK:X.K=T.K) (hn:nm ∉ T.fns) (hc:∀c C w,ZV c cs=ah w->T.cls c=ah C->∃v u,Con T.K C nm v u/\∀ρ H,RW T ρ H w v) (he:PE X e (LE T Wx ma)) (hb:wd e nm X.env (eval e X.env)=eval e X.env:=by rfl) :
  PE X (.Attribute e nm pos) (LE T Wx (xA cs ma)):=
 (pe_con he hb).imp λσ H Q h=>by
  obtain⟨ρ,σw,g,hs,hg,he⟩:=h;refine⟨ρ,σw,g,hs,hg,zP.bind he λx g1 ρ1 H1 vx bt R1 rx ay=>?_⟩
  cases hx:qP g1 x with
  |none=>rw[hx]at ay;exact ay.elim
  |some q=>
   obtain⟨l,c,fs⟩:=q;rw[hx]at ay;dsimp only at ay;obtain⟨a,C,dx,vs,rfl,h1,cw,hH,rf⟩:=Qs R1 rx hx
   cases hw:ZV c cs with
   |none=>rw[hw]at ay;exact ay.elim
   |some w=>
    rw[hw]at ay;obtain⟨v,u,k,r⟩:=hc c C w hw h1;rw[hK];exact⟨a,C,dx,vs,v,u,rfl,hH,cw.cl,k,rf.absent hn,ay ρ1 H1 v .refl R1 (r ρ1 H1)⟩
abbrev qf:=List (Nat×FN)
def getD(c:Nat):qf->au FN
 |[]=>ai
 |(k,x) :: r=>if k=c then ah x else getD c r
def Js(X:Cx) (T:Tab) (Wx:WX) (nm:Str) (d:qf):Prop:=∀c F C,getD c d=ah F->T.cls c=ah C->∃f,A9 X.K C nm f/\CallO X T Wx (.ref f) F
theorem Js.nil{nm}:Js X T Wx nm []:=λc F C h=>by cases h
theorem Js.cons{nm c F f}{d:qf}(h:∀C,T.cls c=ah C->A9 X.K C nm f/\CallO X T Wx (.ref f) F) (r:Js X T Wx nm d):Js X T Wx nm ((c,F) :: d):=λc' F' C hg hc=>by
 simp only[getD]at hg
 split at hg
 ·rename_i e
  subst e;cases hg;exact⟨f,h C hc⟩
 ·exact r c' F' C hg hc
def Qf(d:qf) (o:ED) (a:AD):ED:=λσ g=>(o σ g).bind λx g=>match qP g x with
 |some (_,c,_)=>match getD c d with
  |some F=>(a σ g).bind λws g=>F (x :: ws) g
  |none=>.bad
 |none=>.bad
theorem G9{pl:Sem aw}{nm:Str}{d:qf}{apos:Pos}(hK:X.K=T.K) (hn:nm ∉ T.fns) (hd:Js X T Wx nm d) (ho:PE X o (LE T Wx mo)) (ha:PA X (e :: es) (LA T Wx cF))
  (dB:bo (e :: es) X.env=(ak,eval e X.env) :: bo es X.env:=by rfl) (dc:(c_ pos (bo es X.env)).any (·.1)=ak:=by rfl)
  (ht:eval (.Call (.Attribute o nm apos) (e :: es) [] pos) X.env=(do
   let ov <- eval o X.env
   oh apos.atName
   let (f,first) <- holding [ov] (Ls ov nm pl)
   we pos f first (c_ pos (bo (e :: es) X.env)) (tH pos (tI [] X.env))):=by rfl) :
  PE X (.Call (.Attribute o nm apos) (e :: es) [] pos) (LE T Wx (Qf d mo cF)):=⟨λpins s σ H Q I h=>by
 obtain⟨ρ,σw,g,hs,hg,he⟩:=h
 refine U0 (pl:=pl) (thn (ho.run pins s σ H _ I ⟨ρ,σw,g,hs,hg,zP.bind (Q':=λvx H1=>∃ρ1 x g1,RS T ρ1 H1 σw σ/\RG T ρ1 H1 g1/\RW T ρ1 H1 x vx/\zP (bf T) T Wx σ ρ1 H1 Q (match qP g1 x with
  |some (_,c,_)=>match getD c d with
   |some F=>(cF σw g1).bind λws g=>F (x :: ws) g
   |none=>.bad
  |none=>.bad)) he λx g1 ρ1 H1 vx bt R1 rx ay=>⟨ρ1,x,g1,hs.mono bt _ _,R1,rx,ay⟩⟩) λu s1 ⟨vx,H1,I1,r1,ρ1,x,g1,eK,R1,rx,ay⟩=>?_) ht
 cases hx:qP g1 x with
 |none=>rw[hx]at ay;exact ay.elim
 |some q=>
  obtain⟨l,c,fs⟩:=q;rw[hx]at ay;dsimp only at ay;obtain⟨a,C,dx,vs,rfl,h1,cw,hH,rf⟩:=Qs R1 rx hx;obtain rfl:u=Value.ref a:=r1
  cases hF:getD c d with
  |none=>rw[hF]at ay;exact ay.elim
  |some F=>
   rw[hF]at ay;obtain⟨f,hm,FJ⟩:=hd c F C hF h1;refine getmeth_ok I1 hH (by rw[hK];exact cw.cl) hm (rf.absent hn) ?_
   refine EB (first:=[.ref a]) (h₀:=X.base) I.ok.mod.kin hm.kp (thn (ha.run pos pins s1 σ H1 _ I1 ⟨ρ1,σw,g1,eK,R1,zP.bind (Q':=λvs H2=>∃ρ2 xs g2,RG T ρ2 H2 g2/\RW T ρ2 H2 x (.ref a)/\aD T ρ2 H2 xs vs/\zP (bf T) T Wx σ ρ2 H2 Q (F (x :: xs) g2)) ay
    λxs g2 ρ2 H2 vs bE R2 gN bg=>⟨ρ2,xs,g2,R2,rx.mono bE _ _,gN,bg⟩⟩) λus s2 ⟨vs,H2,I2,r2,ρ2,xs,g2,R2,kz,gN,bg⟩=>⟨I2.kIn,?_⟩) dB dc
   exact FJ pins s2 σ H2 ρ2 g2 (x :: xs) (.ref a :: vs) (.ref a :: us) Q I2 R2 (.cons kz gN) (.cons rfl r2) bg⟩
theorem XM{pl:Sem aw}{nm:Str}{d:qf}{apos:Pos}(hK:X.K=T.K) (hn:nm ∉ T.fns) (hd:Js X T Wx nm d) (ho:PE X o (LE T Wx mo))
  (ht:eval (.Call (.Attribute o nm apos) [] [] pos) X.env=(do
   let ov <- eval o X.env
   oh apos.atName
   let (f,first) <- holding [ov] (Ls ov nm pl)
   we pos f first (c_ pos (bo [] X.env)) (tH pos (tI [] X.env))):=by rfl) :
  PE X (.Call (.Attribute o nm apos) [] [] pos) (LE T Wx (Qf d mo zv)):=⟨λpins s σ H Q I h=>by
 obtain⟨ρ,σw,g,hs,hg,he⟩:=h
 refine U0 (pl:=pl) (thn (ho.run pins s σ H _ I ⟨ρ,σw,g,hs,hg,zP.bind (Q':=λvx H1=>∃ρ1 x g1,RG T ρ1 H1 g1/\RW T ρ1 H1 x vx/\zP (bf T) T Wx σ ρ1 H1 Q (match qP g1 x with
  |some (_,c,_)=>match getD c d with
   |some F=>(zv σw g1).bind λws g=>F (x :: ws) g
   |none=>.bad
  |none=>.bad)) he λx g1 ρ1 H1 vx bt R1 rx ay=>⟨ρ1,x,g1,R1,rx,ay⟩⟩) λu s1 ⟨vx,H1,I1,r1,ρ1,x,g1,R1,rx,ay⟩=>?_) ht
 cases hx:qP g1 x with
 |none=>rw[hx]at ay;exact ay.elim
 |some q=>
  obtain⟨l,c,fs⟩:=q;rw[hx]at ay;dsimp only at ay;obtain⟨a,C,dx,vs,rfl,h1,cw,hH,rf⟩:=Qs R1 rx hx;obtain rfl:u=Value.ref a:=r1
  cases hF:getD c d with
  |none=>rw[hF]at ay;exact ay.elim
  |some F=>
   rw[hF]at ay;obtain⟨f,hm,FJ⟩:=hd c F C hF h1;refine getmeth_ok I1 hH (by rw[hK];exact cw.cl) hm (rf.absent hn) ?_;refine W.callWith_K0 (first:=[.ref a]) I1.kIn hm.kp ?_;exact FJ pins s1 σ H1 ρ1 g1 [x] [.ref a] [.ref a] Q I1 R1 (.cons rx .nil) (.cons rfl .nil) ay⟩
end
end WL
end
section
namespace WL
open PySem PySem.Spec
open L2 hiding Takes XE CX PMk MkP ps_raise ps_try_as ps_try_many passAt passes_call takes_of HdsOk mk_of
open L2N (Takes XE CX PMk MkP ps_raise ps_try_as ps_try_many passAt passes_call takes_of HdsOk mk_of)
open PyProof.Rows hiding St
section
variable{T:Tab}
section
variable{X:Cx}{Wx:WX}
theorem jD{α β:Type}{rel:List aq->Hp->α->β->Prop}{Wx:WX}{σ ρ H a b g}{Q:β->Hp->Prop}(R:RG T ρ H g) (r:rel ρ H a b) (h:zP rel T Wx σ ρ H Q (.ok a g)):Q b H:=h ρ H b .refl R r
theorem jb{ρ H i v}(h:RW T ρ H (.int i) v):v = .int i:=by simpa only[RW] using h
theorem ZP{ρ H i v}(h:RW T ρ H (.str i) v):v = .str i:=by simpa only[RW] using h
theorem J2{ρ H i v}(h:RW T ρ H (.bl i) v):v = .bl i:=by simpa only[RW] using h
theorem uH{ρ H v}(h:RW T ρ H .non v):v = .non:=by simpa only[RW] using h
theorem ik{ρ H i}:RW T ρ H (.int i) (.int i):=by simp only[RW]
theorem rws{ρ H i}:RW T ρ H (.str i) (.str i):=by simp only[RW]
theorem eM{ρ H i}:RW T ρ H (.bl i) (.bl i):=by simp only[RW]
theorem XN{ρ H}:RW T ρ H .non .non:=by simp only[RW]
def oZ(f:Int->Int->W):F2:=λx y g=>match x,y with
 | .int i,.int j=>.ok (f i j) g
 |_,_=>.bad
theorem XO{f:Int->Int->W}{x y g Wx σ ρ H Q}(h:zP (bf T) T Wx σ ρ H Q (oZ f x y g)):∃i j,x = .int i/\y = .int j/\zP (bf T) T Wx σ ρ H Q (.ok (f i j) g):=by
 unfold oZ at h
 split at h
 ·exact⟨_,_,rfl,rfl,h⟩
 ·exact h.elim
theorem xB{op:az->az->Sem az}{k:Int->Int->V}{f:Int->Int->W}(h:OpR X op (rI0 k)) (hf:∀i j ρ H,RW T ρ H (f i j) (k i j)):bR X T Wx op (oZ f):=bR.of h λσ ρ H g x y vx vy Q R rx ry e=>by
 obtain⟨i,j,rfl,rfl,e⟩:=XO e;exact⟨i,j,jb rx,jb ry,jD R (hf i j ρ H) e⟩
def Cj:F2:=oZ λi j=>.int (i - j)
theorem Nl:bR X T Wx (og .Sub) Cj:=xB op_sub λ_ _ _ _=>ik
def nj:F2:=oZ λi j=>.bl (decide (i<j))
def md:F2:=oZ λi j=>.bl (decide (i<=j))
def rY:F2:=oZ λi j=>.bl (decide (j<i))
def o3:F2:=oZ λi j=>.bl (decide (j<=i))
theorem uI:bR X T Wx (eA .Lt) nj:=xB op_lt λ_ _ _ _=>eM
theorem rZ:bR X T Wx (eA .LtE) md:=xB op_le λ_ _ _ _=>eM
theorem Ck:bR X T Wx (eA .Gt) rY:=xB op_gt λ_ _ _ _=>eM
theorem xC:bR X T Wx (eA .GtE) o3:=xB op_ge λ_ _ _ _=>eM
def lg:F2:=λx y g=>match x,y with
 | .int i,.int j=>if 0<j/\j<2 ^ 100 then .ok (.int (i / j)) g else .bad
 |_,_=>.bad
def il:F2:=λx y g=>match x,y with
 | .int i,.int j=>if 0<j then .ok (.int (i % j)) g else .bad
 |_,_=>.bad
def nq:F2:=λx y g=>match x,y with
 | .int i,.int j=>if 0<=j/\j<=1000/\i.natAbs<2 ^ 64 then .ok (.int (i ^ j.toNat)) g else .bad
 |_,_=>.bad
theorem xD:bR X T Wx (og .FloorDiv) lg:=bR.of op_fdivW λσ ρ H g x y vx vy Q R rx ry e=>by
 unfold lg at e
 split at e
 ·rename_i i j
  split at e
  ·rename_i hj
   exact⟨i,j,jb rx,jb ry,wide_div (b:=100) hj.1 (by omega) (by decide) (by decide),jD R ik e⟩
  ·exact e.elim
 ·exact e.elim
theorem uJ:bR X T Wx (og .Mod) il:=bR.of op_mod λσ ρ H g x y vx vy Q R rx ry e=>by
 unfold il at e
 split at e
 ·rename_i i j
  split at e
  ·rename_i hj
   exact⟨i,j,jb rx,jb ry,hj,jD R ik e⟩
  ·exact e.elim
 ·exact e.elim
theorem G_:bR X T Wx (og .Pow) nq:=bR.of op_pow λσ ρ H g x y vx vy Q R rx ry e=>by
 unfold nq at e
 split at e
 ·rename_i i j
  split at e
  ·rename_i hj
   exact⟨i,j,jb rx,jb ry,⟨hj.1,by omega,hj.2.2⟩,jD R ik e⟩
  ·exact e.elim
 ·exact e.elim
theorem o4{ρ H a}{g:G}{l:Nat}{ws:List W}(R:RG T ρ H g) (h:g[l]? = ah (.lst ws)) (ha:ρ[l]? = ah a):∃vs,H a=ah (.lst vs)/\aD T ρ H ws vs:=R.obj l _ a h ha
theorem Qi{ρ H l v}(h:RW T ρ H (.ref l) v):∃a,ρ[l]? = ah a/\v = .ref a:=by simpa only[RW] using h
theorem JK{ρ H ws v}(h:RW T ρ H (.tup ws) v):∃a vs,v = .ref a/\H a=ah (.tup vs)/\aD T ρ H ws vs:=by simpa only[RW] using h
theorem nr{ρ H ws v}(h:RW T ρ H (.fz ws) v):∃a o vs,v = .ref a/\H a=ah (.frz o (.lst vs))/\aD T ρ H ws vs:=by simpa only[RW] using h
theorem Ha{ρ H ks ws v}(h:RW T ρ H (.eI ks ws) v):∃a o vs,v = .ref a/\H a=ah (.frz o (.dT vs))/\vs.map (·.1)=ks/\ks.Nodup/\aD T ρ H ws (vs.map (·.2)):=by simpa only[RW] using h
theorem Hb{ρ H ws a vs}(h:H a=ah (.tup vs)) (r:aD T ρ H ws vs):RW T ρ H (.tup ws) (.ref a):=by simp only[RW];exact⟨a,vs,rfl,h,r⟩
def ql(g:G):W->au (List W)
 | .ref l=>match g[l]? with
  |some (.lst ws)=>ah ws
  |_=>ai
 |_=>ai
theorem Zw{ρ H g x v ws}(R:RG T ρ H g) (r:RW T ρ H x v) (h:ql g x=ah ws):∃l a vs,x = .ref l/\g[l]? = ah (.lst ws)/\ρ[l]? = ah a/\v = .ref a/\H a=ah (.lst vs)/\aD T ρ H ws vs:=by
 cases x with
 |ref l=>
  obtain⟨a,ha,rfl⟩:=Qi r;simp only[ql]at h
  split at h
  ·rename_i xE e
   cases h;obtain⟨vs,hv,rr⟩:=o4 R e ha
   exact⟨l,a,vs,rfl,e,ha,rfl,hv,rr⟩
  ·cases h
 |_=>cases h
def Q0(g:G):W->au (List W)
 | .tup ws=>ah ws
 | .eH ns=>ah (ns.map .int)
 | .fz ws=>ah ws
 |x=>ql g x
theorem Nn{ρ H}:∀ns:List Int,aD T ρ H (ns.map .int) (ns.map V.int)
 |[]=>aD.nil
 |n :: ns=>.cons ik (Nn ns)
theorem Hc{ρ H g x v ws}(R:RG T ρ H g) (r:RW T ρ H x v) (h:Q0 g x=ah ws):∃a vs,v = .ref a/\(SqL T.K H a vs\/SqT T.K H a vs)/\aD T ρ H ws vs:=by
 have lst:ql g x=ah ws->∃a vs,v = .ref a/\(SqL T.K H a vs\/SqT T.K H a vs)/\aD T ρ H ws vs:=λh=>by
  obtain⟨l,a,vs,rfl,_,_,rfl,e,q⟩:=Zw R r h;exact⟨a,vs,rfl,.inl (SqL.of e),q⟩
 cases x with
 |tup ts=>
  cases h;obtain⟨a,vs,rfl,e,q⟩:=JK r
  exact⟨a,vs,rfl,.inr (SqT.of e),q⟩
 |eH ns=>
  cases h;simp only[RW]at r
  obtain⟨a,rfl,e⟩:=r;exact⟨a,_,rfl,.inl e.seq,Nn ns⟩
 |fz ws=>
  cases h;obtain⟨a,o,vs,rfl,e,q⟩:=nr r
  exact⟨a,vs,rfl,.inl (.inl (.inr ⟨o,e⟩)),q⟩
 |_=>exact lst h
def XQ(K:aT):R2:=λx y H Q=>∃l b xs zs,x = .ref l/\y = .ref b/\SqL K H l xs/\SqL K H b zs/\xs.length+zs.length<=kR/\∀p,H p=ai->Q (.ref p) (upd H p (.lst (xs++zs)))
theorem Np:OpR X (og .Add) (XQ X.K):=by
 intro pins s σ H x y v u Q I rx ry h;obtain⟨l,b,xs,zs,rfl,rfl,hH,hB,hz,q⟩:=h;cases rx;cases ry;obtain⟨du,r,⟨⟨cls,dd,data,sl⟩,n,ho,hc,_,hd⟩,hl⟩:=I.list hH;obtain⟨FV,r2,⟨⟨akM,XR,data2,XS⟩,n2,Nq,Cm,_,hd2⟩,Cn⟩:=I.list hB;simp only at hc hd Cm hd2;subst hc hd Cm hd2;have e1:=r.length;have e2:=r2.length;have ea:du.toArray++FV.toArray=(du++FV).toArray:=by simp
 refine concat_meets ⟨_,ho,rfl⟩ ⟨_,Nq,rfl⟩ noFill_list_add seq_list_add PySem.F.slot_list_add PySem.F.entry_list_add (PySem.F.args_list_add_2 _ _) (list_addW l b du.toArray FV.toArray n n2 dd XR sl XS (by rw[LP,LP];omega)) ⟨ho,Nq,?_⟩;rw[ea];exact⟨.ref _,_,I.lnew (t':=s.toks) (r.append r2) (by rw[dw];omega),rfl,q _ I.fresh⟩
def ZD:F2:=λx y g=>match x,y with
 | .int i,.int j=>.ok (.int (i+j)) g
 | .str a,.str b=>if fits a.length && fits b.length then .ok (.str (a++b)) g else .bad
 | .tup a,.tup b=>if fits a.length && fits b.length then .ok (.tup (a++b)) g else .bad
 | .ref l,.ref k=>match ql g (.ref l),ql g (.ref k) with
  |some a,ah b=>if fits a.length && fits b.length then .ok (.ref g.length) (g++[.lst (a++b)]) else .bad
  |_,_=>.bad
 | .fz a,.ref k=>match ql g (.ref k) with
  |some b=>if fits a.length && fits b.length then .ok (.ref g.length) (g++[.lst (a++b)]) else .bad
  |_=>.bad
 |_,_=>.bad
theorem xF{m n:Nat}(h:(fits m && fits n)=aj):m+n<=kR:=by
 rw[dV]at h;have h1:=dF h.1;have h2:=dF h.2;rw[A4];omega
theorem Zh(hK:X.K=T.K):bR X T Wx (og .Add) ZD:=bR.of (((op_add (X:=X)).or op_add_str).or (op_catA.or Np)) λσ ρ H g x y vx vy Q R rx ry e=>by
 unfold ZD at e
 split at e
 ·exact .inl (.inl ⟨_,_,jb rx,jb ry,jD R ik e⟩)
 ·split at e
  ·rename_i hf
   exact .inl (.inr ⟨_,_,ZP rx,ZP ry,xF hf,jD R rws e⟩)
  ·exact e.elim
 ·rename_i a b
  split at e
  ·rename_i hf
   obtain⟨p,vs,rfl,hp,r1⟩:=JK rx;obtain⟨q,us,rfl,hq,r2⟩:=JK ry;refine .inr (.inl ⟨p,q,vs,us,rfl,rfl,by rw[hK];exact SqT.of hp,by rw[hK];exact SqT.of hq,by rw[<- r1.length,<- r2.length];exact xF hf,λz=>?_,λ_ z=>?_,λ_ _ t ht=>?_⟩)
   ·subst z
    have:a=[]:=oz r1.length;subst this;exact jD R (Hb hq r2) e
   ·subst z
    have:b=[]:=oz r2.length;subst this;rw[fR]at e;exact jD R (Hb hp r1) e
   ·exact e ρ _ _ (jK ht) (R.extra ht) (GV ht (r1.append r2))
  ·exact e.elim
 ·split at e
  ·rename_i a b h1 h2
   split at e
   ·rename_i hf
    obtain⟨_,p,vs,_,_,_,rfl,hp,r1⟩:=Zw R rx h1;obtain⟨_,q,us,_,_,_,rfl,hq,r2⟩:=Zw R ry h2;exact .inr (.inr ⟨p,q,vs,us,rfl,rfl,by rw[hK];exact SqL.of hp,by rw[hK];exact SqL.of hq,by rw[<- r1.length,<- r2.length];exact xF hf,λt ht=>e _ _ _ (jP ht) (QI R ht (r1.append r2)) (Qn R)⟩)
   ·exact e.elim
  ·exact e.elim
 ·split at e
  ·rename_i b h2
   split at e
   ·rename_i hf
    obtain⟨p,o,vs,rfl,hp,r1⟩:=nr rx;obtain⟨_,q,us,_,_,_,rfl,hq,r2⟩:=Zw R ry h2;exact .inr (.inr ⟨p,q,vs,us,rfl,rfl,.inl (.inr ⟨o,hp⟩),by rw[hK];exact SqL.of hq,by rw[<- r1.length,<- r2.length];exact xF hf,λt ht=>e _ _ _ (jP ht) (QI R ht (r1.append r2)) (Qn R)⟩)
   ·exact e.elim
  ·exact e.elim
 ·exact e.elim
def gq:F2:=λx y g=>match x,y with
 | .int i,.int j=>if (-(2 ^ 64)<i/\i<2 ^ 64)\/(-(2 ^ 64)<j/\j<2 ^ 64) then .ok (.int (i * j)) g else .bad
 | .ref l,.int k=>match ql g (.ref l) with
  |some a=>if 0<=k/\k<1000/\a.length<1000 then .ok (.ref g.length) (g++[.lst (fQ k.toNat a).flatten]) else .bad
  |_=>.bad
 |_,_=>.bad
theorem Nr{ρ H ws vs}(r:aD T ρ H ws vs):∀k:Nat,aD T ρ H (fQ k ws).flatten (fQ k vs).flatten
 |0=>aD.nil
 |k+1=>by
  rw[Bm,Bm,Bo,Bo];exact r.append (Nr r k)
theorem Co:bR X T Wx (og .Mult) gq:=bR.of ((op_mul (X:=X)).or op_rep) λσ ρ H g x y vx vy Q R rx ry e=>by
 unfold gq at e
 split at e
 ·split at e
  ·rename_i hc
   exact .inl ⟨_,_,jb rx,jb ry,hc,jD R ik e⟩
  ·exact e.elim
 ·rename_i l k
  split at e
  ·rename_i a h1
   split at e
   ·rename_i hf
    obtain⟨_,p,vs,_,_,_,rfl,hp,r1⟩:=Zw R rx h1;refine .inr ⟨p,k,vs,rfl,jb ry,hp,by omega,by omega,?_,λt ht=>e _ _ _ (jP ht) (QI R ht (Nr r1 _)) (Qn R)⟩;rw[<- r1.length,A4];have h1:a.length<=1000:=by omega
    have h2:k.toNat<=1000:=by omega
    exact b_ (Bp h1 h2) (by decide)
   ·exact e.elim
  ·exact e.elim
 ·exact e.elim
mutual
def j3(rf:Nat->au bF):W->au bF
 | .non=>ah .none
 | .bl b=>ah (.bool b)
 | .int i=>ah (.int i)
 | .str s=>ah (.str s)
 | .tup ws=>(toDgs rf ws).map .tuple
 | .ref l=>rf l
 | .fz ws=>(toDgs rf ws).map .list
 |_=>ai
def toDgs(rf:Nat->au bF):List W->au (List bF)
 |[]=>ah []
 |w :: ws=>match j3 rf w,toDgs rf ws with
  |some d,ah ds=>ah (d :: ds)
  |_,_=>ai
end
def aW(g:G):Nat->Nat->au bF
 |0,_=>ai
 |n+1,l=>match g[l]? with
  |some (.lst ws)=>(toDgs (aW g n) ws).map .list
  |_=>ai
def toD(g:G):W->au bF:=j3 (aW g 4)
mutual
theorem Nt{ρ H}{rf:Nat->au bF}(hr:∀l d a,rf l=ah d->ρ[l]? = ah a->Dp T.K H (.ref a) d):∀(w:W) (d:bF) (v:V),j3 rf w=ah d->RW T ρ H w v->Dp T.K H v d
 | .non,d,v,h,r=>by cases h;rw[uH r];exact .non
 | .bl b,d,v,h,r=>by cases h;rw[J2 r];exact .bl b
 | .int i,d,v,h,r=>by cases h;rw[jb r];exact .int i
 | .str x,d,v,h,r=>by cases h;rw[ZP r];exact .str x
 | .tup ws,d,v,h,r=>by
  obtain⟨a,vs,rfl,e,q⟩:=JK r;simp only[j3]at h
  cases hd:toDgs rf ws with
  |none=>rw[hd]at h;cases h
  |some ds=>rw[hd]at h;cases h;exact .tup (SqT.of e) (toDgs_ok hr ws ds vs hd q)
 | .ref l,d,v,h,r=>by
  obtain⟨a,ha,rfl⟩:=Qi r;exact hr l d a h ha
 | .ty _,d,v,h,r=>by cases h
 | .dA,d,v,h,r=>by cases h
 | .eH _,d,v,h,r=>by cases h
 | .eI _ _,d,v,h,r=>by cases h
 | .fz ws,d,v,h,r=>by
  obtain⟨a,o,vs,rfl,e,q⟩:=nr r;simp only[j3]at h
  cases hd:toDgs rf ws with
  |none=>rw[hd]at h;cases h
  |some ds=>rw[hd]at h;cases h;exact .lst (.inl (.inr ⟨o,e⟩)) (toDgs_ok hr ws ds vs hd q)
theorem toDgs_ok{ρ H}{rf:Nat->au bF}(hr:∀l d a,rf l=ah d->ρ[l]? = ah a->Dp T.K H (.ref a) d):∀(ws:List W) (ds:List bF) (vs:List V),toDgs rf ws=ah ds->aD T ρ H ws vs->DpAll T.K H vs ds
 |[],ds,vs,h,r=>by cases h;simp only[aD]at r;subst r;exact .nil
 |w :: ws,ds,vs,h,r=>by
  simp only[aD]at r;obtain⟨v,q,rfl,r1,r2⟩:=r;simp only[toDgs]at h
  split at h
  ·rename_i d XT h1 h2
   cases h;exact .cons (Nt hr w d v h1 r1) (toDgs_ok hr ws XT q h2 r2)
  ·cases h
end
theorem Nu{ρ H g}(R:RG T ρ H g):∀(n l:Nat) (d:bF) (a:aq),aW g n l=ah d->ρ[l]? = ah a->Dp T.K H (.ref a) d
 |0,_,_,_,h,_=>by cases h
 |n+1,l,d,a,h,ha=>by
  simp only[aW]at h
  split at h
  ·rename_i ws e
   obtain⟨vs,hv,r⟩:=o4 R e ha
   cases hd:toDgs (aW g n) ws with
   |none=>rw[hd]at h;cases h
   |some ds=>rw[hd]at h;cases h;exact .lst (SqL.of hv) (toDgs_ok (Nu R n) ws ds vs hd r)
  ·cases h
theorem uK{ρ H g x v d}(R:RG T ρ H g) (h:toD g x=ah d) (r:RW T ρ H x v):Dp T.K H v d:=Nt (Nu R 4) x d v h r
def fC:F2:=λx y g=>match toD g x,toD g y with
 |some d,ah e=>if SeqAt.shaped d && SeqAt.shaped e then .ok (.bl (PyData.eqv d e)) g else .bad
 |_,_=>.bad
def gQ:F2:=λx y g=>match toD g x,toD g y with
 |some d,ah e=>if SeqAt.shaped d && SeqAt.shaped e then .ok (.bl (!PyData.eqv d e)) g else .bad
 |_,_=>.bad
theorem r8(hK:X.K=T.K) (hu:X.A.units+64<om):bR X T Wx (eA .Eq) fC:=bR.of (op_eqD hu) λσ ρ H g x y vx vy Q R rx ry e=>by
 unfold fC at e
 split at e
 ·rename_i d1 d2 h1 h2
  split at e
  ·rename_i hs
   rw[dV]at hs;rw[hK];exact⟨d1,d2,uK R h1 rx,uK R h2 ry,hs.1,hs.2,jD R eM e⟩
  ·exact e.elim
 ·exact e.elim
theorem o5(hK:X.K=T.K) (hu:X.A.units+64<om):bR X T Wx (eA .NotEq) gQ:=bR.of (op_neD hu) λσ ρ H g x y vx vy Q R rx ry e=>by
 unfold gQ at e
 split at e
 ·rename_i d1 d2 h1 h2
  split at e
  ·rename_i hs
   rw[dV]at hs;rw[hK];exact⟨d1,d2,uK R h1 rx,uK R h2 ry,hs.1,hs.2,jD R eM e⟩
  ·exact e.elim
 ·exact e.elim
def Q1:F2:=λx y g=>match y with
 | .non=>match x with
  | .dA=>.bad
  | .non=>.ok (.bl aj) g
  |_=>.ok (.bl ak) g
 | .bl b=>match x with
  | .bl a=>.ok (.bl (decide (a=b))) g
  |_=>.bad
 |_=>.bad
def mf:F2:=λx y g=>match Q1 x y g with
 | .ok (.bl b) g=>.ok (.bl (!b)) g
 |_=>.bad
theorem Nv{ρ H x v}(r:RW T ρ H x v) (h:x ≠ .dA):decide (v = .non)=decide (x = .non):=by
 cases x with
 |non=>rw[uH r];simp
 |bl b=>rw[J2 r];simp
 |int i=>rw[jb r];simp
 |str x=>rw[ZP r];simp
 |tup ws=>obtain⟨a,vs,rfl,_⟩:=JK r;simp
 |ref l=>obtain⟨a,_,rfl⟩:=Qi r;simp
 |ty n=>simp only[RW]at r;subst r;simp
 |dA=>exact br rfl h
 |eH ns=>simp only[RW]at r;obtain⟨a,rfl,_⟩:=r;simp
 |obj c fs ws=>simp only[RW]at r;obtain⟨a,_,_,_,_,rfl,_⟩:=r;simp
 |fz ws=>obtain⟨a,_,_,rfl,_⟩:=nr r;simp
 |eI ks ws=>obtain⟨a,_,_,rfl,_⟩:=Ha r;simp
theorem Nw{x y g Wx σ ρ H Q}(h:zP (bf T) T Wx σ ρ H Q (Q1 x y g)):(y = .non/\x ≠ .dA/\zP (bf T) T Wx σ ρ H Q (.ok (.bl (decide (x = .non))) g))\/∃a b,x = .bl a/\y = .bl b/\zP (bf T) T Wx σ ρ H Q (.ok (.bl (decide (a=b))) g):=by
 unfold Q1 at h
 split at h
 ·split at h
  ·exact h.elim
  ·exact .inl ⟨rfl,by simp,h⟩
  ·rename_i h1 h2
   exact .inl ⟨rfl,h1,by rw[fP h2];exact h⟩
 ·split at h
  ·exact .inr ⟨_,_,rfl,rfl,h⟩
  ·exact h.elim
 ·exact h.elim
theorem Hf:bR X T Wx (eA .Is) Q1:=bR.of ((op_isN (X:=X)).or op_isBl) λσ ρ H g x y vx vy Q R rx ry e=>by
 rcases Nw e with⟨rfl,hx,e⟩|⟨a,b,rfl,rfl,e⟩
 ·exact .inl ⟨uH ry,jD R (by rw[<- Nv rx hx];exact eM) e⟩
 ·exact .inr ⟨a,b,J2 rx,J2 ry,jD R eM e⟩
theorem xG:bR X T Wx (eA .IsNot) mf:=bR.of ((op_notN (X:=X)).or op_notBl) λσ ρ H g x y vx vy Q R rx ry e=>by
 have key:∀b g',Q1 x y g = .ok (.bl b) g'->zP (bf T) T Wx σ ρ H (λv H'=>Q (.bl (!b)) H') (Q1 x y g):=λb g' e'=>by
  unfold mf at e;rw[e']at e;rw[e'];exact λρ' H' v gr R' r=>e ρ' H' _ gr R' eM
 unfold mf at e
 split at e
 ·rename_i b g' e'
  rcases Nw (key b g' e') with⟨rfl,hx,e2⟩|⟨a,c,rfl,rfl,e2⟩
  ·have hb:b=decide (x = .non):=by
    unfold Q1 at e'
    split at e' <;> (try cases e') <;> simp_all
    split at e' <;> simp_all
   refine .inl ⟨uH ry,?_⟩;rw[Nv rx hx,<- hb];exact e2 ρ H (.bl (decide (x = .non))) .refl R eM
  ·have hb:b=decide (a=c):=by
    simp only[Q1]at e';cases e';rfl
   refine .inr ⟨a,c,J2 rx,J2 ry,?_⟩;rw[<- hb];exact e2 ρ H (.bl (decide (a=c))) .refl R eM
 ·exact e.elim
end
end
section
variable{T:Tab}
section
variable{X:Cx}{Wx:WX}
def uL:W->au Key
 | .int i=>ah (.inl i)
 | .str s=>ah (.inr s)
 |_=>ai
def Cq:List W->au (List Key)
 |[]=>ah []
 |w :: ws=>match uL w,Cq ws with
  |some k,ah ks=>ah (k :: ks)
  |_,_=>ai
def r9:W->au (List Key)
 | .tup ws=>Cq ws
 |_=>ai
theorem Hg{ρ H x v k}(h:uL x=ah k) (r:RW T ρ H x v):v=kV k:=by
 cases x with
 |int i=>cases h;exact jb r
 |str s=>cases h;exact ZP r
 |_=>cases h
theorem Nx{ρ H}:∀{ws:List W}{vs:List V}{ks:List Key},Cq ws=ah ks->aD T ρ H ws vs->vs=ks.map kV
 |[],vs,ks,h,r=>by cases h;simp only[aD]at r;subst r;rfl
 |w :: ws,vs,ks,h,r=>by
  simp only[aD]at r;obtain⟨v,q,rfl,r1,r2⟩:=r;simp only[Cq]at h
  split at h
  ·rename_i k ks' h1 h2
   cases h;rw[Hg h1 r1,Nx h2 r2]
   rfl
  ·cases h
theorem Hh{ρ H x v ks}(h:r9 x=ah ks) (r:RW T ρ H x v):∃b,v = .ref b/\H b=ah (.tup (ks.map kV)):=by
 cases x with
 |tup ws=>
  obtain⟨a,vs,rfl,e,q⟩:=JK r;exact⟨a,rfl,by rw[e,Nx h q]⟩
 |_=>cases h
def Zx(g:G) (x y:W):au (au W):=match x with
 | .ref l=>match g[l]? with
  |some (.dK aS)=>(uL y).map λk=>k_ k aS
  |some (.dT aS)=>(r9 y).map λk=>k_ k aS
  |_=>ai
 | .eI ks ws=>(r9 y).map λk=>k_ k (ks.zip ws)
 |_=>ai
theorem Ny{ρ H g x y vx vy o}(R:RG T ρ H g) (rx:RW T ρ H x vx) (ry:RW T ρ H y vy) (h:Zx g x y=ah o):∃a ov,vx = .ref a/\DGet H a vy ov/\(∀w,o=ah w->∃v,ov=ah v/\RW T ρ H w v)/\(o=ai->ov=ai):=by
 cases x with
 |ref l=>
  obtain⟨a,ha,rfl⟩:=Qi rx;simp only[Zx]at h
  split at h
  ·rename_i aS e
   obtain⟨vs,hv,rd,nd⟩:=R.obj l _ a e ha
   cases hk:uL y with
   |none=>rw[hk]at h;cases h
   |some k=>
    rw[hk]at h;cases h;rw[Hg hk ry];exact⟨a,_,rfl,DGet.k hv,rd.val.1,rd.val.2⟩
  ·rename_i aS e
   obtain⟨vs,hv,rd,nd⟩:=R.obj l _ a e ha
   cases hk:r9 y with
   |none=>rw[hk]at h;cases h
   |some k=>
    rw[hk]at h;cases h;obtain⟨b,rfl,eb⟩:=Hh hk ry;exact⟨a,_,rfl,DGet.t hv eb,rd.val.1,rd.val.2⟩
  ·cases h
 |eI ks ws=>
  obtain⟨a,od,vs,rfl,hv,fD,nd,rr⟩:=Ha rx;simp only[Zx]at h
  cases hk:r9 y with
  |none=>rw[hk]at h;cases h
  |some k=>
   rw[hk]at h;cases h;obtain⟨b,rfl,eb⟩:=Hh hk ry;have rd:=M6 fD rr;exact⟨a,_,rfl,.inr ⟨vs,k,b,.inr ⟨od,hv⟩,rfl,eb,rfl⟩,rd.val.1,rd.val.2⟩
 |_=>cases h
def Q2(X:Cx) (T:Tab) (nm:Str) (d:qf):Prop:=∀c F C,getD c d=ah F->T.cls c=ah C->∃f k n m,F=zW n m/\bK X.prog X.w X.K X.mg X.base T k f n m/\Room (k+1) X.A /\
 bI X.K (.ref C) nm=ah (ah (.ref f))/\kc X.K (.ref f)=aj/\mS X.K f=aj/\wu X.K C=aj
theorem Q2.nil{nm}:Q2 X T nm []:=λc F C h=>by cases h
theorem Q2.cons{nm c f k n m}{d:qf}(F:bK X.prog X.w X.K X.mg X.base T k f n m) (hr:Room (k+1) X.A) (h:∀C,T.cls c=ah C->bI X.K (.ref C) nm=ah (ah (.ref f))/\kc X.K (.ref f)=aj/\mS X.K f=aj/\wu X.K C=aj)
  (r:Q2 X T nm d):Q2 X T nm ((c,zW n m) :: d):=λc' F' C hg hc=>by
 simp only[getD]at hg
 split at hg
 ·rename_i e
  subst e;cases hg;exact⟨f,k,n,m,rfl,F,hr,h C hc⟩
 ·exact r c' F' C hg hc
theorem uM{pins s σ H a C dx vs}(I:Inv X pins σ H s) (hH:H a=ah (.ins C dx vs)):∃od,U1 s.heap a (W.instObj C dx) C (ah od):=by
 obtain⟨mA,O,_⟩:=ins_get I.hok hH;obtain⟨od,i,_⟩:=O.look;exact⟨od,i⟩
def gu(d:qf) (g:G) (x:W):au FN:=match qP g x with
 |some (_,c,_)=>getD c d
 |none=>ai
theorem Cr{nm d ρ H g x vx F}(hd:Q2 X T nm d) (R:RG T ρ H g) (rx:RW T ρ H x vx) (h:gu d g x=ah F):∃a C dx vs f k n m,vx = .ref a/\H a=ah (.ins C dx vs)/\F=zW n m/\bK X.prog X.w X.K X.mg X.base T k f n m/\Room (k+1) X.A /\
 bI X.K (.ref C) nm=ah (ah (.ref f))/\kc X.K (.ref f)=aj/\mS X.K f=aj/\wu X.K C=aj:=by
 unfold gu at h
 cases hx:qP g x with
 |none=>rw[hx]at h;cases h
 |some q=>
  obtain⟨l,c,fs⟩:=q;rw[hx]at h;obtain⟨a,C,dx,vs,rfl,hc,cw,hH,rf⟩:=Qs R rx hx;obtain⟨f,k,n,m,e1,e2,e3,e4⟩:=hd c F C h hc;exact⟨a,C,dx,vs,f,k,n,m,rfl,hH,e1,e2,e3,e4⟩
def Qg(ws:List W) (y:W) (g:G):Out W:=match y with
 | .int i=>match atI ws i with
  |some w=>.ok w g
  |none=>.bad
 |_=>.bad
theorem Hj{ρ H ws vs i w}(r:aD T ρ H ws vs) (h:atI ws i=ah w):∃v,atI vs i=ah v/\RW T ρ H w v:=by
 unfold atI at h ⊢;rw[<- r.length]
 cases hj:ixN ws.length i with
 |none=>rw[hj]at h;cases h
 |some j=>
  rw[hj]at h;exact r.get h
theorem Hk{ws y g Wx σ ρ H Q}(h:zP (bf T) T Wx σ ρ H Q (Qg ws y g)):∃i w,y = .int i/\atI ws i=ah w/\zP (bf T) T Wx σ ρ H Q (.ok w g):=by
 unfold Qg at h
 split at h
 ·split at h
  ·rename_i i w e
   exact⟨_,_,rfl,e,h⟩
  ·exact h.elim
 ·exact h.elim
def zS(d:qf):F2:=λx y g=>match x with
 | .tup ws=>Qg ws y g
 | .fz ws=>Qg ws y g
 | .str z=>match y with
  | .int i=>if fits z.length then match atI z.cps.toList i with
   |some c=>.ok (.str ⟨#[c]⟩) g
   |none=>.bad else .bad
  |_=>.bad
 |x=>match ql g x with
  |some ws=>Qg ws y g
  |none=>match Zx g x y with
   |some (ah w)=>.ok w g
   |some ai=>.bad
   |none=>match gu d g x with
    |some F=>F [x,y] g
    |none=>.bad
theorem qQ{d:qf}(hK:X.K=T.K) (hu:X.A.units+1<om) (tk:Takes X Wx) (hd:Q2 X T "__getitem__" d):GU X T Wx (zS d):=by
 intro value slice hs ht pins s σ H ρ g x y vx vy v u Q I R rx ry r1 r2 e
 have lst:ql g x ≠ ai->zP (bf T) T Wx σ ρ H Q (match ql g x with|some ws=>Qg ws y g|none=>.bad)->bL (model X.prog X.w) X.A (Up value slice v u) (EP X pins σ Q) X.xe s:=λhn e=>by
  cases hl:ql g x with
  |none=>exact br hl hn
  |some ws=>
   rw[hl]at e;obtain⟨i,w,ey,ha,e2⟩:=Hk e;obtain⟨l,a,vs,rfl,_,_,rfl,hH,rr⟩:=Zw R rx hl;obtain⟨z,hz,rz⟩:=Hj rr ha;exact ix_list value slice pins s σ H _ _ v u Q I r1 r2 ⟨a,vs,i,z,rfl,jb (by rw[<- ey];exact ry),by rw[hK];exact SqL.of hH,hz,jD R rz e2⟩ (hs v u)
 have rest:zP (bf T) T Wx σ ρ H Q (match ql g x with
  |some ws=>Qg ws y g
  |none=>match Zx g x y with
   |some (ah w)=>.ok w g
   |some ai=>.bad
   |none=>match gu d g x with
    |some F=>F [x,y] g
    |none=>.bad)->bL (model X.prog X.w) X.A (Up value slice v u) (EP X pins σ Q) X.xe s:=λe=>by
  cases hl:ql g x with
  |some ws=>exact lst (by rw[hl];simp) (by rw[hl]at e ⊢;exact e)
  |none=>
   rw[hl]at e;dsimp only at e
   cases hg:Zx g x y with
   |some o=>
    rw[hg]at e
    cases o with
    |none=>exact e.elim
    |some w=>
     obtain⟨a,ov,rfl,dg,h1,_⟩:=Ny R rx ry hg;obtain⟨z,rfl,rz⟩:=h1 w rfl;obtain rfl:v=Value.ref a:=r1;exact tail_any (dict_typeIs I dg) PySem.F.slot_dict_getitem.lookup (d_getItem hu I dg r2 λw' s3 I3 eJ=>⟨z,H,I3,eJ,jD R rz e⟩) (hs _ u)
   |none=>
    rw[hg]at e;dsimp only at e
    cases ho:gu d g x with
    |none=>rw[ho]at e;exact e.elim
    |some F=>
     rw[ho]at e;obtain⟨a,C,dx,vs,f,k,n,m,rfl,hH,rfl,F,hr,h1,h2,h3,h4⟩:=Cr hd R rx ho;obtain rfl:v=Value.ref a:=r1;obtain⟨od,J⟩:=uM I hH;obtain⟨mm,fr⟩:=I.fr;exact W.sub_K fr I.ok.mod.kin J h1 h3 h2 (xw (A:=X.A.in1) (us:=[.ref a,u]) (vs:=[.ref a,vy]) F hr.in1 I.env0.in1 tk I R (.cons rx (.cons ry .nil)) (.cons rfl (.cons r2 .nil)) e) (ht a u)
 cases x with
 |tup ws=>
  obtain⟨i,w,rfl,ha,e⟩:=Hk e;obtain⟨a,vs,rfl,hH,rr⟩:=JK rx;obtain⟨z,hz,rz⟩:=Hj rr ha;exact ix_tup value slice pins s σ H _ _ v u Q I r1 r2 ⟨a,vs,i,z,rfl,jb ry,by rw[hK];exact SqT.of hH,hz,jD R rz e⟩ (hs v u)
 |fz ws=>
  obtain⟨i,w,rfl,ha,e⟩:=Hk e;obtain⟨a,o,vs,rfl,hH,rr⟩:=nr rx;obtain⟨z,hz,rz⟩:=Hj rr ha;exact ix_list value slice pins s σ H _ _ v u Q I r1 r2 ⟨a,vs,i,z,rfl,jb ry,.inl (.inr ⟨o,hH⟩),hz,jD R rz e⟩ (hs v u)
 |str z=>
  simp only[zS]at e
  split at e
  ·rename_i i
   split at e
   ·rename_i hf
    split at e
    ·rename_i c hc
     exact ix_str value slice pins s σ H _ _ v u Q I r1 r2 ⟨z,i,c,ZP rx,jb ry,xo hf,hc,jD R rws e⟩ (hs v u)
    ·exact e.elim
   ·exact e.elim
  ·exact e.elim
 |ref l=>exact rest e
 |_=>exact rest e
def toV:W->V
 | .bl b=>.bl b
 | .int i=>.int i
 | .str s=>.str s
 |_=>.non
def nt:W->aw
 | .non=>aj
 | .bl _=>aj
 | .int _=>aj
 | .str _=>aj
 |_=>ak
theorem Nz{ρ H x v}(h:nt x=aj) (r:RW T ρ H x v):v=toV x/\flatV v=aj:=by
 cases x with
 |non=>rw[uH r];exact⟨rfl,rfl⟩
 |bl b=>rw[J2 r];exact⟨rfl,rfl⟩
 |int i=>rw[jb r];exact⟨rfl,rfl⟩
 |str s=>rw[ZP r];exact⟨rfl,rfl⟩
 |_=>cases h
theorem NA{ρ H}:∀{ws:List W}{vs:List V},ws.all nt=aj->aD T ρ H ws vs->vs=ws.map toV/\vs.all flatV=aj
 |[],vs,_,r=>by simp only[aD]at r;subst r;exact⟨rfl,rfl⟩
 |w :: ws,vs,h,r=>by
  simp only[aD]at r;obtain⟨v,q,rfl,r1,r2⟩:=r;rw[U3,dV]at h;obtain⟨e1,e2⟩:=Nz h.1 r1;obtain⟨e3,e4⟩:=NA h.2 r2;rw[U3,e2,e4,e3,e1];exact⟨rfl,rfl⟩
def r_(x:W) (ws:List W):aw:=ws.any λy=>eqV (toV y) (toV x)
def nu(d:qf):F2:=λx y g=>match y with
 | .str t=>match x with
  | .str s=>.ok (.bl (!(Builtin.Str.occurrences t s 0 t.length 1).isEmpty)) g
  |_=>.bad
 |y=>match Q0 g y with
  |some ws=>if nt x && ws.all nt then .ok (.bl (r_ x ws)) g else match toD g x,toD g y with
   |some a,ah (.list ds)=>if SeqAt.shaped a && SeqAt.shaped (.list ds) then .ok (.bl (ds.any λz=>PyData.eqv z a)) g else .bad
   |_,_=>.bad
  |none=>match Zx g y x with
   |some o=>.ok (.bl o.isSome) g
   |none=>match gu d g y with
    |some F=>match F [y,x] g with
     | .ok (.bl b) g=>.ok (.bl b) g
     | .ex c fs g=>.ex c fs g
     |_=>.bad
    |none=>.bad
def Cs(neg:aw) (r:Out W):Out W:=match r with
 | .ok (.bl b) g=>.ok (.bl (b != neg)) g
 | .ok _ _=>.bad
 | .ex c fs g=>.ex c fs g
 | .bad=>.bad
theorem XU{neg Wx σ ρ H Q}{r:Out W}(h:zP (bf T) T Wx σ ρ H Q (Cs neg r)):zP (bf T) T Wx σ ρ H (λv H'=>∃b,v = .bl b/\Q (.bl (b != neg)) H') r:=by
 cases r with
 |ok a g=>
  cases a with
  |bl b=>exact λρ' H' v gr R r=>⟨b,J2 r,h ρ' H' _ gr R eM⟩
  |_=>exact h.elim
 |ex c fs g=>exact h
 |bad=>exact h
theorem NB(neg:aw) {d:qf}(hK:X.K=T.K) (hu:X.A.units+65<om) (tk:Takes X Wx) (hd:Q2 X T "__contains__" d):bR X T Wx (eA (if neg then .NotIn else .In)) (λx y g=>Cs neg (nu d x y g)):=by
 intro pins s σ H ρ g x y vx vy v u Q I R rx ry r1 r2 e0;have e:=XU e0;have fin:∀b b':aw,(∀Q':VK,zP (bf T) T Wx σ ρ H Q' (.ok (.bl b) g)->Q' (.bl b) H):=λb _ Q' e=>jD R eM e
 have rest:zP (bf T) T Wx σ ρ H (λv H'=>∃b,v = .bl b/\Q (.bl (b != neg)) H') (match Q0 g y with
  |some ws=>if nt x && ws.all nt then .ok (.bl (r_ x ws)) g else match toD g x,toD g y with
   |some a,ah (.list ds)=>if SeqAt.shaped a && SeqAt.shaped (.list ds) then .ok (.bl (ds.any λz=>PyData.eqv z a)) g else .bad
   |_,_=>.bad
  |none=>match Zx g y x with
   |some o=>.ok (.bl o.isSome) g
   |none=>match gu d g y with
    |some F=>match F [y,x] g with
     | .ok (.bl b) g=>.ok (.bl b) g
     | .ex c fs g=>.ex c fs g
     |_=>.bad
    |none=>.bad)->bL (model X.prog X.w) X.A (eA (if neg then .NotIn else .In) v u) (EP X pins σ Q) X.xe s:=λe=>by
  cases hs:Q0 g y with
  |some ws=>
   rw[hs]at e;dsimp only at e;obtain⟨a,vs,rfl,hq,rr⟩:=Hc R ry hs
   split at e
   ·rename_i hf
    rw[dV]at hf;obtain⟨e1,e2⟩:=Nz hf.1 rx;obtain⟨e3,e4⟩:=NA hf.2 rr
    have ei:inV vx vs=r_ x ws:=by
     rw[e1,e3];unfold inV r_;rw[List.any_map];rfl
    obtain⟨b,hb,q⟩:=jD R eM e;cases hb
    cases neg with
    |false=>exact op_in_seq pins s σ H _ _ v u Q I r1 r2 ⟨a,vs,rfl,by rw[hK];exact hq,e2,e4,by rw[ei];simpa using q⟩
    |true=>exact op_notIn_seq pins s σ H _ _ v u Q I r1 r2 ⟨a,vs,rfl,by rw[hK];exact hq,e2,e4,by rw[ei];simpa using q⟩
   ·split at e
    ·rename_i d1 ds h1 h2
     split at e
     ·rename_i k9
      rw[dV]at k9;have D1:=uK R h1 rx;have D2:=uK R h2 ry;obtain⟨b,hb,q⟩:=jD R eM e;cases hb
      cases neg with
      |false=>exact op_inD hu pins s σ H _ _ v u Q I r1 r2 ⟨d1,ds,by rw[hK];exact D1,by rw[hK];exact D2,k9.1,k9.2,by simpa using q⟩
      |true=>exact op_notInD hu pins s σ H _ _ v u Q I r1 r2 ⟨d1,ds,by rw[hK];exact D1,by rw[hK];exact D2,k9.1,k9.2,by simpa using q⟩
     ·exact e.elim
    ·exact e.elim
  |none=>
   rw[hs]at e;dsimp only at e
   cases hg:Zx g y x with
   |some o=>
    rw[hg]at e;obtain⟨a,ov,rfl,dg,h1,h2⟩:=Ny R ry rx hg;obtain rfl:u=Value.ref a:=r2
    have eo:ov.isSome=o.isSome:=by
     cases o with
     |none=>rw[h2 rfl];rfl
     |some w=>obtain⟨z,rfl,_⟩:=h1 w rfl;rfl
    obtain⟨b,hb,q⟩:=jD R eM e;cases hb
    cases neg with
    |false=>exact d_in (by omega) I dg r1 λs3 I3=>⟨.bl ov.isSome,H,I3,rfl,by rw[eo];simpa using q⟩
    |true=>exact d_notIn (by omega) I dg r1 λs3 I3=>⟨.bl (!ov.isSome),H,I3,rfl,by rw[eo];simpa using q⟩
   |none=>
    rw[hg]at e;dsimp only at e
    cases ho:gu d g y with
    |none=>rw[ho]at e;exact e.elim
    |some F=>
     rw[ho]at e;obtain⟨a,C,dx,vs,f,k,n,m,rfl,hH,rfl,F,hr,h1,h2,h3,h4⟩:=Cr hd R ry ho;obtain rfl:u=Value.ref a:=r2;obtain⟨od,J⟩:=uM I hH;obtain⟨mm,fr⟩:=I.fr
     have e':zP (bf T) T Wx σ ρ H (λv H'=>∃b,v = .bl b/\Q (.bl (b != neg)) H') (zW n m [y,x] g):=by
      dsimp only at e
      cases hm:zW n m [y,x] g with
      |ok a g'=>
       rw[hm]at e
       cases a with
       |bl b=>exact e
       |_=>exact e.elim
      |ex c fs g'=>rw[hm]at e;exact e
      |bad=>rw[hm]at e;exact e.elim
     have run:=xw (A:=X.A) (us:=[.ref a,v]) (vs:=[.ref a,vx]) F (hr.mono (by omega)) I.env0 tk I R (.cons ry (.cons rx .nil)) (.cons rfl (.cons r1 .nil)) e'
     cases neg with
     |false=>
      refine W.in_K fr I.ok.mod.kin J h1 h2 (thn run λr s1 ⟨z,H1,I1,rz,b,hb,q⟩=>?_);subst hb;cases rz;exact A5 ⟨.bl b,H1,I1,rfl,by simpa using q⟩
     |true=>
      refine W.notIn_K fr I.ok.mod.kin J h1 h2 (thn run λr s1 ⟨z,H1,I1,rz,b,hb,q⟩=>?_);subst hb;cases rz;exact A5 ⟨.bl (!b),H1,I1,rfl,by simpa using q⟩
 cases y with
 |str t=>
  simp only[nu]at e
  split at e
  ·obtain⟨b,hb,q⟩:=jD R eM e
   cases hb
   cases neg with
   |false=>exact op_in_str pins s σ H _ _ v u Q I r1 r2 ⟨_,t,ZP rx,ZP ry,by simpa using q⟩
   |true=>exact op_notin_str pins s σ H _ _ v u Q I r1 r2 ⟨_,t,ZP rx,ZP ry,by simpa using q⟩
  ·exact e.elim
 |_=>exact rest e
def uN(d:qf):F2:=λx y g=>Cs ak (nu d x y g)
def ZY(d:qf):F2:=λx y g=>Cs aj (nu d x y g)
theorem NC{d:qf}(hK:X.K=T.K) (hu:X.A.units+65<om) (tk:Takes X Wx) (hd:Q2 X T "__contains__" d):bR X T Wx (eA .In) (uN d):=NB ak hK hu tk hd
theorem JL{d:qf}(hK:X.K=T.K) (hu:X.A.units+65<om) (tk:Takes X Wx) (hd:Q2 X T "__contains__" d):bR X T Wx (eA .NotIn) (ZY d):=NB aj hK hu tk hd
def QA(f f':F2) (a b c:ED):ED:=λσ g=>(a σ g).bind λx g=>(b σ g).bind λy g=>(f x y g).bind λz g=>match z with
 | .bl aj=>(c σ g).bind λw g=>f' y w g
 | .bl ak=>.ok (.bl ak) g
 |_=>.bad
theorem ND{op mj:Ek}{f f':F2}{a b c:aN}{ma mb mc:ED}(ho:bR X T Wx (eA op) f) (lh:bR X T Wx (eA mj) f') (ha:PE X a (LE T Wx ma)) (hb:PE X b (LE T Wx mb)) (hc:PE X c (LE T Wx mc)) {pins:List (aq×Obj)}{s:aK}{σ:St}{H:Hp}{Q:VK}(I:Inv X pins σ H s)
  (h:LE T Wx (QA f f' ma mb mc) σ H Q):bL (model X.prog X.w) X.A (eval a X.env) (λv s₁=>bL (model X.prog X.w) X.A (eval b X.env) (λu s₂=>bL (model X.prog X.w) X.A (eA op v u) (λd s3=>∃k:aw,d = .bool k /\
   if k then bL (model X.prog X.w) X.A (eval c X.env) (λw' s4=>bL (model X.prog X.w) X.A (eA mj u w') (EP X pins σ Q) X.xe s4) X.xe s3 else EP X pins σ Q (.bool ak) s3) X.xe s₂) X.xe s₁) X.xe s:=by
 obtain⟨ρ,σw,g,hs,hg,he⟩:=h
 refine thn (ha.run pins s σ H _ I ⟨ρ,σw,g,hs,hg,zP.bind (Q':=λvx H1=>∃ρ1 x g1,RS T ρ1 H1 σw σ/\RG T ρ1 H1 g1/\RW T ρ1 H1 x vx/\zP (bf T) T Wx σ ρ1 H1 Q ((mb σw g1).bind λy g=>(f x y g).bind λz g=>match z with
  | .bl aj=>(mc σw g).bind λw g=>f' y w g
  | .bl ak=>.ok (.bl ak) g
  |_=>.bad)) he λx g1 ρ1 H1 vx bt R1 rx ay=>⟨ρ1,x,g1,hs.mono bt _ _,R1,rx,ay⟩⟩) λv s1 ⟨vx,H1,I1,r1,ρ1,x,g1,eK,R1,rx,ay⟩=>?_
 refine thn (hb.run pins s1 σ H1 _ I1 ⟨ρ1,σw,g1,eK,R1,zP.bind (Q':=λvy H2=>∃ρ2 y g2,RS T ρ2 H2 σw σ/\RG T ρ2 H2 g2/\RW T ρ2 H2 x vx/\RW T ρ2 H2 y vy/\zP (bf T) T Wx σ ρ2 H2 Q ((f x y g2).bind λz g=>match z with
  | .bl aj=>(mc σw g).bind λw g=>f' y w g
  | .bl ak=>.ok (.bl ak) g
  |_=>.bad)) ay λy g2 ρ2 H2 vy bE R2 ry bg=>⟨ρ2,y,g2,eK.mono bE _ _,R2,rx.mono bE _ _,ry,bg⟩⟩) λu s2 ⟨vy,H2,I2,r2,ρ2,y,g2,cR,R2,kz,ry,bg⟩=>?_
 refine thn (ho pins s2 σ H2 ρ2 g2 x y vx vy v u _ I2 R2 kz ry r1 r2 (zP.bind (Q':=λvz H3=>∃k,vz = .bl k/\∃ρ3 g3,RS T ρ3 H3 σw σ/\RG T ρ3 H3 g3/\RW T ρ3 H3 y vy/\zP (bf T) T Wx σ ρ3 H3 Q (if k then (mc σw g3).bind λw g=>f' y w g else .ok (.bl ak) g3)) bg
  λz g3 ρ3 H3 vz eL R3 rz bu=>?_)) λd s3 ⟨vz,H3,I3,r3,k,hk,ρ3,g3,xH,R3,XW,bu⟩=>?_
 ·cases z with
  |bl k=>
   refine⟨k,J2 rz,ρ3,g3,cR.mono eL _ _,R3,ry.mono eL _ _,?_⟩
   cases k with
   |true=>exact bu
   |false=>exact bu
  |_=>exact bu.elim
 ·subst hk
  cases r3;refine⟨k,rfl,?_⟩
  cases k with
  |false=>exact⟨.bl ak,H3,I3,rfl,jD R3 eM bu⟩
  |true=>
   simp only[lS]at bu ⊢
   refine thn (hc.run pins s3 σ H3 _ I3 ⟨ρ3,σw,g3,xH,R3,zP.bind (Q':=λvw H4=>∃ρ4 w g4,RG T ρ4 H4 g4/\RW T ρ4 H4 y vy/\RW T ρ4 H4 w vw/\zP (bf T) T Wx σ ρ4 H4 Q (f' y w g4)) bu λw g4 ρ4 H4 vw xI R4 uO Hl=>⟨ρ4,w,g4,R4,XW.mono xI _ _,uO,Hl⟩⟩)
    λw' s4 ⟨vw,H4,I4,r4,ρ4,w,g4,R4,XX,uO,Hl⟩=>?_
   exact lh pins s4 σ H4 ρ4 g4 y w vy vw u w' Q I4 R4 XX uO r2 r4 Hl
variable{a b c:aN}{ma mb mc:ED}{pos:Pos}
theorem XY{op mj:Ek}{f f':F2}(ho:bR X T Wx (eA op) f) (lh:bR X T Wx (eA mj) f') (ha:PE X a (LE T Wx ma)) (hb:PE X b (LE T Wx mb)) (hc:PE X c (LE T Wx mc))
  (hm:lastMarks [op,mj] [b,c]=ak:=by with_unfolding_all rfl):PE X (.Compare a [op,mj] [b,c] pos) (LE T Wx (QA f f' ma mb mc)):=by
 refine⟨λpins s σ H Q I h=>?_⟩;refine Compare_chain (thn (ND ho lh ha hb hc I h) λv s1 h1=>chain_link (thn h1 λu s2 h2=>thn h2 λd s3 ⟨k,e,q⟩=>?_)) hm;subst e;refine A5 ?_
 cases k with
 |false=>exact ite_ff q
 |true=>exact ite_tt (chain_last (by simpa using q))
theorem Ct{op mj:Ek}{f f':F2}(ho:bR X T Wx (eA op) f) (lh:bR X T Wx (eA mj) f') (ha:PE X a (LE T Wx ma)) (hb:PE X b (LE T Wx mb)) (hc:PE X c (LE T Wx mc))
  (hm:lastMarks [op,mj] [b,c]=ak:=by with_unfolding_all rfl):PT X (.Compare a [op,mj] [b,c] pos) (LT T Wx (qW (QA f f' ma mb mc))):=by
 refine⟨λpins s σ H Q I h=>?_⟩;have h:=Nb h;refine isTrue_chain (thn (ND ho lh ha hb hc I h) λv s1 h1=>test_link (thn h1 λu s2 h2=>thn h2 λd s3 ⟨k,e,q⟩=>?_)) hm;subst e;refine A5 ?_
 cases k with
 |false=>
  obtain⟨z,H3,I3,r3,k',e',q'⟩:=q;subst e';cases r3;exact ite_ff ⟨H3,I3,q'⟩
 |true=>
  simp only[lS]at q;refine ite_tt (test_last (thn q λw' s4 h4=>thn h4 λd' s5 ⟨z2,H5,I5,r5,k2,e2,q5⟩=>?_));subst e2;cases r5;exact A5 ⟨H5,I5,q5⟩
end
end
section
variable{T:Tab}
section
variable{X:Cx}{Wx:WX}
def xJ(m:au ED):Sg->G->Out (au Int):=match m with
 |none=>λ_ g=>.ok ai g
 |some e=>λσ g=>(e σ g).bind λw g=>match w with
  | .int i=>.ok (ah i) g
  |_=>.bad
def LO(T:Tab) (Wx:WX) (m:au ED):TO:=λσ H Q=>∃ρ σw g,RS T ρ H σw σ/\RG T ρ H g/\zP (λ_ _ (a b:au Int)=>a=b) T Wx σ ρ H Q (xJ m σw g)
theorem JM:PO X ai (LO T Wx ai):=⟨λpins s σ H Q I h=>po_none.run pins s σ H Q I (by
 obtain⟨ρ,σw,g,hs,hg,he⟩:=h;exact he ρ H ai .refl hg rfl)⟩
theorem JN{e:aN}{m:ED}(h:PE X e (LE T Wx m)):PO X (ah e) (LO T Wx (ah m)):=⟨λpins s σ H Q I hw=>(po_some h).run pins s σ H Q I (by
 obtain⟨ρ,σw,g,hs,hg,he⟩:=hw;refine⟨ρ,σw,g,hs,hg,zP.bind he λx g1 ρ1 H1 vx bt R1 rx ay=>?_⟩
 cases x with
 |int i=>exact⟨i,jb rx,ay ρ1 H1 _ .refl R1 rfl⟩
 |_=>exact ay.elim)⟩
def kB(ws:List W) (lo hi:au Int):List W:=(ws.drop (HT.sIx ws.length 0 lo)).take (HT.sIx ws.length ws.length hi - HT.sIx ws.length 0 lo)
theorem NG{ρ H}:∀{ws:List W}{vs:List V}(n:Nat),aD T ρ H ws vs->aD T ρ H (ws.drop n) (vs.drop n)
 |_,_,0,r=>by simpa using r
 |[],_,n+1,r=>by simp only[aD]at r;subst r;simpa using aD.nil
 |w :: ws,_,n+1,r=>by
  simp only[aD]at r;obtain⟨v,q,rfl,_,r2⟩:=r;simpa using NG n r2
theorem NH{ρ H}:∀{ws:List W}{vs:List V}(n:Nat),aD T ρ H ws vs->aD T ρ H (ws.take n) (vs.take n)
 |_,_,0,r=>by simpa using aD.nil
 |[],_,n+1,r=>by simp only[aD]at r;subst r;simpa using aD.nil
 |w :: ws,_,n+1,r=>by
  simp only[aD]at r;obtain⟨v,q,rfl,r1,r2⟩:=r;simpa using aD.cons r1 (NH n r2)
theorem Hm{ρ H ws vs lo hi}(r:aD T ρ H ws vs):aD T ρ H (kB ws lo hi) (cutV vs lo hi):=by
 unfold kB cutV;rw[<- r.length];exact NH _ (NG _ r)
def uP(x:W) (lo hi:au Int) (g:G):Out W:=match x with
 | .tup ws=>.ok (.tup (kB ws lo hi)) g
 | .fz ws=>.ok (.ref g.length) (g++[.lst (kB ws lo hi)])
 |x=>match ql g x with
  |some ws=>.ok (.ref g.length) (g++[.lst (kB ws lo hi)])
  |none=>.bad
def Q3(a:ED) (lo hi:au ED):ED:=λσ g=>(a σ g).bind λx g=>(xJ lo σ g).bind λl g=>(xJ hi σ g).bind λu g=>uP x l u g
theorem XZ{xs:List W}{lo hi:au Int}(h:HT.sIx xs.length 0 lo=0/\HT.sIx xs.length xs.length hi=xs.length):kB xs lo hi=xs:=by
 unfold kB;rw[h.1,h.2];simp
theorem X0{ρ H g x vx lo hi Wx σ Q}(R:RG T ρ H g) (rx:RW T ρ H x vx) (e:zP (bf T) T Wx σ ρ H Q (uP x lo hi g)):rSlL T.K vx lo hi H Q\/rSlA T.K vx lo hi H Q:=by
 have lst:zP (bf T) T Wx σ ρ H Q (match ql g x with|some ws=>.ok (.ref g.length) (g++[.lst (kB ws lo hi)])|none=>.bad)->rSlL T.K vx lo hi H Q:=λe=>by
  cases hl:ql g x with
  |none=>rw[hl]at e;exact e.elim
  |some ws=>
   rw[hl]at e;obtain⟨l,a,vs,e1,_,_,rfl,hH,rr⟩:=Zw R rx hl;exact⟨a,vs,rfl,SqL.of hH,λp hp=>e _ _ _ (jP hp) (QI R hp (Hm rr)) (Qn R)⟩
 cases x with
 |tup ws=>
  obtain⟨a,vs,rfl,hH,rr⟩:=JK rx;refine .inr ⟨a,vs,rfl,SqT.of hH,λh=>?_,λh p hp=>?_⟩
  ·have e:zP (bf T) T Wx σ ρ H Q (.ok (.tup (kB ws lo hi)) g):=e
   rw[XZ (by rw[rr.length];exact h)]at e;exact jD R (Hb hH rr) e
  ·exact e ρ _ _ (jK hp) (R.extra hp) (GV hp (Hm rr))
 |fz ws=>
  obtain⟨a,o,vs,rfl,hH,rr⟩:=nr rx;have e:zP (bf T) T Wx σ ρ H Q (.ok (.ref g.length) (g++[.lst (kB ws lo hi)])):=e;exact .inl ⟨a,vs,rfl,.inl (.inr ⟨o,hH⟩),λp hp=>e _ _ _ (jP hp) (QI R hp (Hm rr)) (Qn R)⟩
 |_=>exact .inl (lst e)
theorem Q4{a:aN}{lo hi:au aN}{ma:ED}{ml mh:au ED}{p2 pos:Pos}(hK:X.K=T.K) (ha:PE X a (LE T Wx ma)) (hl:PO X lo (LO T Wx ml)) (hh:PO X hi (LO T Wx mh)):PE X (.Subscript a (.Slice lo hi ai p2) pos) (LE T Wx (Q3 ma ml mh)):=
 (pe_slice (SlR.or sl_list sl_tupA) ha hl hh).imp λσ H Q h=>by
  obtain⟨ρ,σw,g,hs,hg,he⟩:=h;refine⟨ρ,σw,g,hs,hg,zP.bind he λx g1 ρ1 H1 vx bt R1 rx ay=>?_⟩;refine⟨ρ1,σw,g1,hs.mono bt _ _,R1,zP.bind ay λl g2 ρ2 H2 vl bE R2 rl bg=>?_⟩;refine⟨ρ2,σw,g2,hs.mono (bt.trans bE) _ _,R2,zP.bind bg λu g3 ρ3 H3 vu eL R3 ru bu=>?_⟩;subst rl ru;rw[hK];exact X0 R3 (rx.mono (bE.trans eL) _ _) bu
def NI(X:Cx) (T:Tab) (Wx:WX) (f:W->W->W->G->Out ax):Prop:=
 ∀(pins:List (aq×Obj)) (s:aK) (σ:St) (H:Hp) (ρ:List aq) (g:G) (o i w:W) (vo vi v:V) (ov iv u:az) (Q:Hp->Prop),Inv X pins σ H s->RG T ρ H g->RW T ρ H o vo->RW T ρ H i vi->RW T ρ H w v->RelV vo ov->RelV vi iv->RelV v u ->
  zP (λ_ _ _ _=>True) T Wx σ ρ H (λ(_:ax) H'=>Q H') (f o i w g)->bL (model X.prog X.w) X.A (Us ov iv u) (λ_ s'=>∃H',Inv X pins σ H' s'/\Q H') X.xe s
def Q5(f:W->W->W->G->Out ax) (o i:ED):GD:=λw σ g=>(o σ g).bind λx g=>(i σ g).bind λy g=>(f x y w g).bind λ_ g=>.ok σ g
theorem JO{f:W->W->W->G->Out ax}{o i:aN}{mo mi:ED}{pos:Pos}(hf:NI X T Wx f) (ho:PE X o (LE T Wx mo)) (hi:PE X i (LE T Wx mi))
  (ha:∀v,assign (.Subscript o i pos) X.env v=(do
   let ov <- holding [v] (eval o X.env)
   let iv <- holding [v,ov] (eval i X.env)
   oh pos
   holding [v,ov,iv] (Us ov iv v)
   release [v,ov,iv] []):=by intro _;rfl):PG X (.Subscript o i pos) (LG T Wx (Q5 f mo mi)):=by
 refine⟨λpins s σ H v u Q I r h=>?_⟩;obtain⟨ρ,w,σw,g,hw,hs,hg,he⟩:=h;rw[ha]
 refine c4 (Ep (thn (ho.run pins s σ H _ I ⟨ρ,σw,g,hs,hg,zP.bind (Q':=λvx H1=>∃ρ1 x g1,RS T ρ1 H1 σw σ/\RG T ρ1 H1 g1/\RW T ρ1 H1 w v/\RW T ρ1 H1 x vx/\zP (xk T) T Wx σ ρ1 H1 Q ((mi σw g1).bind λy g=>(f x y w g).bind λ_ g=>.ok σw g)) he
  λx g1 ρ1 H1 vx bt R1 rx ay=>⟨ρ1,x,g1,hs.mono bt _ _,R1,hw.mono bt _ _,rx,ay⟩⟩) λov s1 ⟨vx,H1,I1,r1,ρ1,x,g1,eK,R1,oT,rx,ay⟩=>?_))
 refine c4 (Ep (thn (hi.run pins s1 σ H1 _ I1 ⟨ρ1,σw,g1,eK,R1,zP.bind (Q':=λvy H2=>∃ρ2 y g2,RS T ρ2 H2 σw σ/\RG T ρ2 H2 g2/\RW T ρ2 H2 w v/\RW T ρ2 H2 x vx/\RW T ρ2 H2 y vy/\zP (xk T) T Wx σ ρ2 H2 Q ((f x y w g2).bind λ_ g=>.ok σw g)) ay
  λy g2 ρ2 H2 vy bE R2 ry bg=>⟨ρ2,y,g2,eK.mono bE _ _,R2,oT.mono bE _ _,rx.mono bE _ _,ry,bg⟩⟩) λiv s2 ⟨vy,H2,I2,r2,ρ2,y,g2,cR,R2,rX,kz,ry,bg⟩=>?_))
 refine c4 (Ut (c4 (Ep (thn (hf pins s2 σ H2 ρ2 g2 x y w vx vy v ov iv u (λH'=>Q σ H') I2 R2 kz ry rX r1 r2 r (zP.bind bg λ_ g3 ρ3 H3 _ eL R3 _ bu=>bu ρ3 H3 σ .refl R3 (cR.mono eL _ _))) λ_ s3 ⟨H3,I3,q3⟩=>?_))));exact wpAny_release ⟨σ,H3,I3,q3⟩
def QB(d:qf):W->W->W->G->Out ax:=λx y w g=>match x with
 | .ref l=>match g[l]? with
  |some (.lst ws)=>match y with
   | .int i=>match ixN ws.length i with
    |some j=>.ok () (g.set l (.lst (ws.set j w)))
    |none=>.bad
   |_=>.bad
  |some (.dK aS)=>match uL y with
   |some k=>if fits aS.length then .ok () (g.set l (.dK (Ji k w aS))) else .bad
   |none=>.bad
  |some (.dT aS)=>match r9 y with
   |some k=>if fits aS.length then .ok () (g.set l (.dT (Ji k w aS))) else .bad
   |none=>.bad
  |_=>match gu d g (.ref l) with
   |some F=>match F [.ref l,y,w] g with
    | .ok _ g=>.ok () g
    | .ex c fs g=>.ex c fs g
    | .bad=>.bad
   |none=>.bad
 | .obj c fs us=>match gu d g (.obj c fs us) with
  |some F=>match F [.obj c fs us,y,w] g with
   | .ok _ g=>.ok () g
   | .ex c fs g=>.ex c fs g
   | .bad=>.bad
  |none=>.bad
 |_=>.bad
theorem xK{n:Nat}(h:fits n=aj):n<kR:=by
 have:=dF h;rw[A4];omega
theorem NJ{ρ H w v}(q:RW T ρ H w v):∀{ws:List W}{vs:List V}(n:Nat),aD T ρ H ws vs->aD T ρ H (ws.set n w) (vs.set n v)
 |[],_,_,r=>by simp only[aD]at r;subst r;simpa using aD.nil
 |a :: ws,_,0,r=>by
  simp only[aD]at r;obtain⟨b,t,rfl,_,r2⟩:=r;exact .cons q r2
 |a :: ws,_,n+1,r=>by
  simp only[aD]at r;obtain⟨b,t,rfl,r1,r2⟩:=r;exact .cons r1 (NJ q n r2)
theorem nv{d:qf}(hu:X.A.units+1<om) (tk:Takes X Wx) (hd:Q2 X T "__setitem__" d):NI X T Wx (QB d):=by
 intro pins s σ H ρ g o i w vo vi v ov iv u Q I R ro ri eJ r1 r2 r3 e
 cases o with
 |ref l=>
  obtain⟨a,ha,rfl⟩:=Qi ro;obtain rfl:ov=Value.ref a:=r1;obtain⟨ob,rR,FW⟩:=R.there ha;simp only[QB,rR]at e
  cases ob with
  |lst ws=>
   dsimp only at e;obtain⟨vs,hH,rr⟩:=FW
   split at e
   ·rename_i k
    split at e
    ·rename_i j hj
     have mt:ig (H a):=by rw[hH];trivial
     refine set_list pins s σ H (.ref a) vi v _ iv u Q I rfl r2 r3 ⟨a,vs,k,j,rfl,jb ri,hH,by rw[<- rr.length];exact hj,?_⟩;exact e ρ _ () (qI mt) (R.write ha ⟨_,ez,NJ (eJ.mono (qI mt) _ _) j (rr.mono (qI mt) _ _)⟩) trivial
    ·exact e.elim
   ·exact e.elim
  |dK aS=>
   dsimp only at e;obtain⟨vs,hH,rd,nd⟩:=FW;have mt:ig (H a):=by rw[hH];trivial
   split at e
   ·rename_i k hk
    split at e
    ·rename_i hf
     rw[Hg hk ri]at r2;refine d_setItem hu I (DPut.k hH (by rw[<- rd.length];exact xK hf)) r2 r3 λs' I'=>⟨_,I',?_⟩
     exact e ρ _ () (qI mt) (R.write ha ⟨_,ez,RD.put (eJ.mono (qI mt) _ _) (rd.mono (qI mt) _ _) nd,GN nd⟩) trivial
    ·exact e.elim
   ·exact e.elim
  |dT aS=>
   dsimp only at e;obtain⟨vs,hH,rd,nd⟩:=FW;have mt:ig (H a):=by rw[hH];trivial
   split at e
   ·rename_i k hk
    split at e
    ·rename_i hf
     obtain⟨b,rfl,eb⟩:=Hh hk ri;refine d_setItem hu I (DPut.t hH eb (by rw[<- rd.length];exact xK hf)) r2 r3 λs' I'=>⟨_,I',?_⟩
     exact e ρ _ () (qI mt) (R.write ha ⟨_,ez,RD.put (eJ.mono (qI mt) _ _) (rd.mono (qI mt) _ _) nd,GN nd⟩) trivial
    ·exact e.elim
   ·exact e.elim
  |ins c fs=>
   dsimp only at e
   cases ho:gu d g (.ref l) with
   |none=>rw[ho]at e;exact e.elim
   |some F=>
    rw[ho]at e;obtain⟨a',C,dx,vs,f,k,n,m,ea,hH,rfl,F,hr,h1,h2,h3,h4⟩:=Cr hd R ro ho;cases ea;obtain⟨od,J⟩:=uM I hH;obtain⟨mm,fr⟩:=I.fr
    have e':zP (bf T) T Wx σ ρ H (λ_ H'=>Q H') (zW n m [.ref l,i,w] g):=by
     dsimp only at e
     cases hm:zW n m [.ref l,i,w] g with
     |ok a g'=>rw[hm]at e;exact λρ' H' v gr R _=>e ρ' H' () gr R trivial
     |ex c fs g'=>rw[hm]at e;exact e
     |bad=>rw[hm]at e;exact e.elim
    refine U4 fr I.ok.mod.kin J h4 h1 h2 (thn (xw (A:=X.A) (us:=[.ref a,iv,u]) (vs:=[.ref a,vi,v]) F (hr.mono (by omega)) I.env0 tk I R (.cons ro (.cons ri (.cons eJ .nil))) (.cons rfl (.cons r2 (.cons r3 .nil))) e') λr s1 ⟨z,H1,I1,rz,q⟩=>?_);exact⟨H1,I1,q⟩
  |gone=>
   simp only[gu,qP,rR]at e;exact e.elim
  |dN aS=>
   simp only[gu,qP,rR]at e;exact e.elim
 |obj c0 Cu Hn=>
  have NK:=ro;simp only[RW]at NK;obtain⟨a,_,_,_,_,rfl,_⟩:=NK;obtain rfl:ov=Value.ref a:=r1;simp only[QB]at e
  exact(by
   cases ho:gu d g (.obj c0 Cu Hn) with
   |none=>rw[ho]at e;exact e.elim
   |some F=>
    rw[ho]at e;obtain⟨a',C,dx,vs,f,k,n,m,ea,hH,rfl,F,hr,h1,h2,h3,h4⟩:=Cr hd R ro ho;cases ea;obtain⟨od,J⟩:=uM I hH;obtain⟨mm,fr⟩:=I.fr
    have e':zP (bf T) T Wx σ ρ H (λ_ H'=>Q H') (zW n m [.obj c0 Cu Hn,i,w] g):=by
     dsimp only at e
     cases hm:zW n m [.obj c0 Cu Hn,i,w] g with
     |ok a g'=>rw[hm]at e;exact λρ' H' v gr R _=>e ρ' H' () gr R trivial
     |ex c fs g'=>rw[hm]at e;exact e
     |bad=>rw[hm]at e;exact e.elim
    refine U4 fr I.ok.mod.kin J h4 h1 h2 (thn (xw (A:=X.A) (us:=[.ref a,iv,u]) (vs:=[.ref a,vi,v]) F (hr.mono (by omega)) I.env0 tk I R (.cons ro (.cons ri (.cons eJ .nil))) (.cons rfl (.cons r2 (.cons r3 .nil))) e') λr s1 ⟨z,H1,I1,rz,q⟩=>?_);exact⟨H1,I1,q⟩:bL (model X.prog X.w) X.A (Us (.ref a) iv u) (λ_ s'=>∃H',Inv X pins σ H' s'/\Q H') X.xe s)
 |_=>exact e.elim
def QK:FN:=λws g=>match ws with
 |[.str s]=>if fits s.length then .ok (.int s.length) g else .bad
 |[x]=>match Q0 g x with
  |some xs=>.ok (.int xs.length) g
  |none=>.bad
 |_=>.bad
theorem sb{ρ H x vs}(h:aD T ρ H [x] vs):∃v,vs=[v]/\RW T ρ H x v:=h.one
theorem X3{ρ H x y vs}(h:aD T ρ H [x,y] vs):∃v u,vs=[v,u]/\RW T ρ H x v/\RW T ρ H y u:=by
 simp only[aD]at h;obtain⟨v,_,rfl,a,u,_,rfl,b,rfl⟩:=h;exact⟨v,u,rfl,a,b⟩
theorem Qt(hK:X.K=T.K):CallO X T Wx (.builtin "len") QK:=CallO.of ((call_len (X:=X))) λσ ρ H g xs vs Q R rx e=>by
 unfold QK at e
 split at e
 ·rename_i s
  obtain⟨v,rfl,r⟩:=sb rx
  cases ZP r
  split at e
  ·rename_i hf
   exact⟨_,_,rfl,⟨xo hf,rfl⟩,jD R ik e⟩
  ·exact e.elim
 ·rename_i x hx
  obtain⟨v,rfl,r⟩:=sb rx
  cases hs:Q0 g x with
  |none=>rw[hs]at e;exact e.elim
  |some ws=>
   rw[hs]at e;obtain⟨a,us,rfl,hq,rr⟩:=Hc R r hs;refine⟨.ref a,us.length,rfl,?_,by rw[<- rr.length];exact jD R ik e⟩;rw[hK];exact hq.elim (λh=>.inl ⟨us,h,rfl⟩) λh=>.inr ⟨us,h,rfl⟩
 ·exact e.elim
def Cw:FN:=λws g=>match ws with
 |[.int i]=>.ok (.int (if i<0 then -i else i)) g
 |_=>.bad
theorem X4:CallO X T Wx (.builtin "abs") Cw:=CallO.of call_abs λσ ρ H g xs vs Q R rx e=>by
 unfold Cw at e
 split at e
 ·obtain⟨v,rfl,r⟩:=sb rx
  cases jb r
  exact⟨_,rfl,jD R ik e⟩
 ·exact e.elim
def mn:FN:=λws g=>match ws with
 |[.int i]=>.ok (.int i) g
 |_=>.bad
theorem uQ:CallO X T Wx (.type "int") mn:=CallO.of call_int1 λσ ρ H g xs vs Q R rx e=>by
 unfold mn at e
 split at e
 ·obtain⟨v,rfl,r⟩:=sb rx
  cases jb r
  exact .inl ⟨_,rfl,jD R ik e⟩
 ·exact e.elim
def Cy:FN:=λws g=>match ws with
 |[.int i,.int j]=>.ok (.int (if j<i then j else i)) g
 |_=>.bad
theorem X5(hc:X.calm=aj):CallO X T Wx (.builtin "min") Cy:=CallO.of (call_min2 hc) λσ ρ H g xs vs Q R rx e=>by
 unfold Cy at e
 split at e
 ·obtain⟨v,u,rfl,r1,r2⟩:=X3 rx
  cases jb r1
  cases jb r2
  exact⟨_,_,rfl,jD R ik e⟩
 ·exact e.elim
def JA:FN:=λws g=>match ws with
 |[x]=>match Q0 g x with
  |some xs=>.ok (.ref g.length) (g++[.lst xs])
  |none=>.bad
 |_=>.bad
theorem Cz(hK:X.K=T.K):CallO X T Wx (.type "list") JA:=CallO.of call_list_of λσ ρ H g xs vs Q R rx e=>by
 unfold JA at e
 split at e
 ·rename_i x
  obtain⟨v,rfl,r⟩:=sb rx
  cases hs:Q0 g x with
  |none=>rw[hs]at e;exact e.elim
  |some ws=>
   rw[hs]at e;obtain⟨a,us,rfl,hq,rr⟩:=Hc R r hs;rw[hK];exact⟨a,us,rfl,hq,λl hl=>e _ _ _ (jP hl) (QI R hl rr) (Qn R)⟩
 ·exact e.elim
def o6:List W->au (List aw)
 |[]=>ah []
 | .bl b :: r=>(o6 r).map (b :: ·)
 |_=>ai
theorem NL{ρ H}:∀{ws:List W}{vs:List V}{bs:List aw},o6 ws=ah bs->aD T ρ H ws vs->vs=bs.map V.bl
 |[],vs,bs,h,r=>by cases h;simp only[aD]at r;subst r;rfl
 |w :: ws,vs,bs,h,r=>by
  simp only[aD]at r;obtain⟨v,q,rfl,r1,r2⟩:=r
  cases w with
  |bl b=>
   simp only[o6]at h
   cases hb:o6 ws with
   |none=>rw[hb]at h;cases h
   |some bs'=>rw[hb]at h;cases h;rw[J2 r1,NL hb r2];rfl
  |_=>cases h
def xM(f:List aw->W):FN:=λws g=>match ws with
 |[x]=>match ql g x with
  |some xs=>match o6 xs with
   |some bs=>.ok (f bs) g
   |none=>.bad
  |none=>.bad
 |_=>.bad
theorem X6{f ρ H g xs vs Wx σ Q}(R:RG T ρ H g) (rx:aD T ρ H xs vs) (e:zP (bf T) T Wx σ ρ H Q (xM f xs g)):∃a bs,vs=[V.ref a]/\H a=ah (.lst (bs.map V.bl))/\zP (bf T) T Wx σ ρ H Q (.ok (f bs) g):=by
 unfold xM at e
 split at e
 ·rename_i x
  obtain⟨v,rfl,r⟩:=sb rx
  cases hs:ql g x with
  |none=>rw[hs]at e;exact e.elim
  |some ws=>
   rw[hs]at e;obtain⟨l,a,us,_,_,_,rfl,hH,rr⟩:=Zw R r hs;dsimp only at e
   cases hb:o6 ws with
   |none=>rw[hb]at e;exact e.elim
   |some bs=>rw[hb]at e;rw[NL hb rr]at hH;exact⟨a,bs,rfl,hH,e⟩
 ·exact e.elim
def CA:FN:=xM λbs=>.bl (bs.all id)
theorem X7(hK:X.K=T.K) (hc:X.calm=aj):CallO X T Wx (.builtin "all") CA:=CallO.of (cr_all hc) λσ ρ H g xs vs Q R rx e=>by
 obtain⟨a,bs,rfl,hH,e⟩:=X6 R rx e;exact⟨a,bs,rfl,SqL.of hH,jD R eM e⟩
end
end
section
variable{T:Tab}
section
variable{X:Cx}{Wx:WX}
abbrev FM:=W->List W->G->Out W
def xN(X:Cx) (T:Tab) (Wx:WX) (id:dG) (f:FM):Prop:=
 ∀(pins:List (aq×Obj)) (s:aK) (σ:St) (H:Hp) (ρ:List aq) (g:G) (x:W) (xs:List W) (vx:V) (vs:List V) (v:az) (us:List az) (Q:VK),Inv X pins σ H s->RG T ρ H g->RW T ρ H x vx->aD T ρ H xs vs->RelV vx v->n_ vs us ->
  zP (bf T) T Wx σ ρ H Q (f x xs g)->bL (model X.prog X.w) X.A (call (.builtin id) (v :: us)) (EP X pins σ Q) X.xe s
theorem xN.of{id:dG}{r:V->List V->Hp->VK->Prop}{f:FM}(h:MtR X id r) (hL:∀σ ρ H g x xs vx vs (Q:VK),RG T ρ H g->RW T ρ H x vx->aD T ρ H xs vs->zP (bf T) T Wx σ ρ H Q (f x xs g)->r vx vs H Q):xN X T Wx id f:=
 λpins s σ H ρ g x xs vx vs v us Q I R rx gN r1 r2 e=>h pins s σ H vx vs v us Q I r1 r2 (hL σ ρ H g x xs vx vs Q R rx gN e)
def lj(ty:dG) (g:G) (x:W):aw:=match x with
 | .str _=>ty == "str"
 | .fz _=>ty == "list"
 | .eI _ _=>ty == "dict"
 | .ref l=>match g[l]? with
  |some (.lst _)=>ty == "list"
  |some (.dK _)=>ty == "dict"
  |some (.dT _)=>ty == "dict"
  |_=>ak
 |_=>ak
theorem X8{pins:List (aq×Obj)}{σ:St}{s:aK}{ty ρ H g x v}{u:az}(hK:X.K=T.K) (I:Inv X pins σ H s) (R:RG T ρ H g) (r:RW T ρ H x v) (h:lj ty g x=aj) (q:RelV v u):s.TypeIs u ty/\∀a,u = .ref a->∃ob,s.heap.get? a=ah ob/\ob.dict=ai:=by
 cases x with
 |str s=>cases ZP r;exact Er I q (by rw[hK];exact beq_iff_eq.mp h)
 |ref l=>
  obtain⟨a,ha,rfl⟩:=Qi r;simp only[lj]at h
  split at h
  ·rename_i ws e
   obtain⟨vs,hH,_⟩:=o4 R e ha;exact Er I q (by rw[hK];exact .inl ⟨beq_iff_eq.mp h,vs,SqL.of hH⟩)
  ·rename_i ws e
   obtain⟨vs,hH,_⟩:=R.obj l _ a e ha;exact Er I q (by rw[hK];exact .inr (.inr (.inl ⟨beq_iff_eq.mp h,.inl ⟨vs,hH⟩⟩)))
  ·rename_i ws e
   obtain⟨vs,hH,_⟩:=R.obj l _ a e ha;exact Er I q (by rw[hK];exact .inr (.inr (.inl ⟨beq_iff_eq.mp h,.inr ⟨vs,hH⟩⟩)))
  ·cases h
 |fz ws=>
  obtain⟨a,o,vs,rfl,e,_⟩:=nr r;exact Er I q (by rw[hK];exact .inl ⟨beq_iff_eq.mp h,vs,.inl (.inr ⟨o,e⟩)⟩)
 |eI ks ws=>
  obtain⟨a,o,vs,rfl,e,_⟩:=Ha r;obtain⟨_,ho,hx,_⟩:=I.frzT e
  cases(show u=Value.ref a from q)
  cases beq_iff_eq.mp h
  exact⟨⟨o,ho,hx.1⟩,λb e=>by cases e;exact⟨o,ho,hx.2.1⟩⟩
 |_=>cases h
def gR(ty:dG) (f:FM) (o:ED) (a:AD):ED:=λσ g=>(o σ g).bind λx g=>if lj ty g x then (a σ g).bind λws g=>f x ws g else .bad
variable{o e:aN}{es:List aN}{mo:ED}{cF:AD}{name:Str}{apos ku:Pos}{ty id:dG}{f:FM}
theorem X9(hK:X.K=T.K) (pa:PlainAttrs ty) (slot:Slot ty name id) (X_:typeOf (.builtin id)=pure (.type "method_descriptor")) (hm:xN X T Wx id f) (ho:PE X o (LE T Wx mo)) (ha:PA X (e :: es) (LA T Wx cF))
  (wR:wd o name X.env (eval o X.env)=eval o X.env:=by rfl)
  (w5:((c_ ku (bo (e :: es) X.env)).all (λx=>!x.1) && (tH ku (tI [] X.env)).all (λx=>x.1.isSome)
   && decide ((e :: es).length+([]:List A_).length+(if ([]:List A_).isEmpty then 0 else 1)<30))=aj:=by rfl)
  (wU:(apos.endLine == ku.line)=aj:=by rfl) (hs:bo (e :: es) X.env=(ak,eval e X.env) :: bo es X.env:=by rfl) (FA:(c_ ku (bo es X.env)).any (·.1)=ak:=by rfl) :
  PE X (.Call (.Attribute o name apos) (e :: es) [] ku) (LE T Wx (gR ty f mo cF)):=by
 refine⟨λpins s σ H Q I h=>?_⟩;obtain⟨ρ,σw,g,mq,hg,he⟩:=h
 refine wpAny_Call_method wR w5 wU pa slot X_ (thn (ho.run pins s σ H _ I ⟨ρ,σw,g,mq,hg,zP.bind (Q':=λvx H1=>∃ρ1 x g1,RS T ρ1 H1 σw σ/\RG T ρ1 H1 g1/\RW T ρ1 H1 x vx/\lj ty g1 x=aj/\zP (bf T) T Wx σ ρ1 H1 Q ((cF σw g1).bind λws g=>f x ws g)) he
  λx g1 ρ1 H1 vx bt R1 rx ay=>?_⟩) λv s1 ⟨vx,H1,I1,r1,ρ1,x,g1,eK,R1,rx,VL,ay⟩=>?_)
 ·split at ay
  ·rename_i hc
   exact⟨ρ1,x,g1,mq.mono bt _ _,R1,rx,hc,ay⟩
  ·exact ay.elim
 ·obtain⟨h1,h2⟩:=X8 hK I1 R1 rx VL r1
  refine⟨h1,h2,?_⟩;refine Calls.callWith_builtin (by rw[hs];exact FA) ?_;rw[hs];have cR:=hs;refine Calls.evalArgs_plain ?_;have run:=ha.run ku pins s1 σ H1 _ I1 ⟨ρ1,σw,g1,eK,R1,zP.bind (Q':=λvs H2=>∃ρ2 xs g2,RG T ρ2 H2 g2/\RW T ρ2 H2 x vx/\aD T ρ2 H2 xs vs/\zP (bf T) T Wx σ ρ2 H2 Q (f x xs g2)) ay λxs g2 ρ2 H2 vs bE R2 gN bg=>⟨ρ2,xs,g2,R2,rx.mono bE _ _,gN,bg⟩⟩;rw[hs]at run;exact thn run λus s2 ⟨vs,H2,I2,r2,ρ2,xs,g2,R2,kz,gN,bg⟩=>hm pins s2 σ H2 ρ2 g2 x xs vx vs v us Q I2 R2 kz gN r1 r2 bg
def jd:FM:=λx ws g=>match x,ws with
 | .ref l,[y]=>match g[l]? with
  |some (.lst xs)=>if fits xs.length then .ok .non (g.set l (.lst (xs++[y]))) else .bad
  |_=>.bad
 |_,_=>.bad
theorem Ya:xN X T Wx "list.append" jd:=xN.of (show MtR X _ _ from mt_append) λσ ρ H g x xs vx vs Q R rx gN e=>by
 unfold jd at e
 split at e
 ·rename_i l y
  obtain⟨a,ha,rfl⟩:=Qi rx;obtain⟨v,rfl,ry⟩:=sb gN
  split at e
  ·rename_i ws hg
   split at e
   ·rename_i hf
    obtain⟨us,hH,rr⟩:=o4 R hg ha;have mt:ig (H a):=by rw[hH];trivial
    have gr:qj ρ H ρ (upd H a (.lst (us++[v]))):=qI mt;refine⟨a,us,v,rfl,rfl,hH,by rw[<- rr.length];exact xK hf,e ρ _ _ gr (R.write ha ⟨_,ez,?_⟩) XN⟩;exact(rr.mono gr _ _).append (.cons (ry.mono gr _ _) aD.nil)
   ·exact e.elim
  ·exact e.elim
 ·exact e.elim
end
end
section
variable{T:Tab} [jJ T] [j2 T]
abbrev W0:WX:=λ_ _ _ _=>False
def Jk(σ:Sg):List Nat->Sg
 |[]=>σ
 |v :: vs=>(Jk σ vs).set v ai
theorem NO{ρ H σw σ}(r:RS T ρ H σw σ):∀vs:List Nat,RS T ρ H (Jk σw vs) (wipe σ vs)
 |[]=>r
 |v :: vs=>RS.unset v (NO r vs)
theorem xO(σ:St):∀(vs:List Nat) (i:Nat),(wipe σ vs)[i]? = if i∈vs/\i<σ.length then ah ai else σ[i]?
 |[],i=>by simp[wipe]
 |v :: vs,i=>by
  unfold wipe;rw[EC,wipe_length,xO σ vs i]
  by_cases h:v=i
  ·subst h
   by_cases hl:v<σ.length
   ·simp[hl]
   ·simp[hl]
  ·have h' : ¬ i=v:=λq=>h q.symm
   simp[h,h']
theorem Yb{σ:St}{i:Nat}{x:au V}{vs:List Nat}(hi:i∈vs):wipe (σ.set i x) vs=wipe σ vs:=by
 apply Bq
 intro j;rw[xO,xO,lV]
 by_cases h:j∈vs/\j<σ.length
 ·rw[aG h,aG h]
 ·rw[aR h,aR h,EC]
  by_cases e:i=j
  ·subst e
   by_cases hl:i<σ.length
   ·exact br ⟨hi,hl⟩ h
   ·rw[aG rfl,aR hl]
    exact(U5 (Nat.le_of_not_lt hl)).symm
  ·rw[aR e]
theorem Yc(σ:St) (vs:List Nat):wipe (wipe σ vs) vs=wipe σ vs:=by
 apply Bq
 intro j;rw[xO,xO,wipe_length]
 by_cases h:j∈vs/\j<σ.length
 ·rw[aG h,aG h]
 ·rw[aR h]
section
variable{X:Cx}{Wx:WX}{pos:Pos}{e:aN}
def LC(T:Tab) (own:List Nat) (m:GD):TG:=λv σ H Q=>∃ρ w σw g,RW T ρ H w v/\RS T ρ H σw σ/\RG T ρ H g/\zP (λρ H (a:Sg) (b:St)=>RS T ρ H a b/\wipe b own=wipe σ own) T W0 σ ρ H Q (m w σw g)
theorem CB{own:List Nat}(i:Nat) {x:Str}(hN:X.N.Nodup) (ho:i∈own:=by decide) (hi:X.N[i]? = ah x:=by rfl) (hx:Loc X.env.scope x:=by first|exact Or.inl rfl|exact Or.inr rfl) (hf:X.fn x=aj\/X.env.scope.names.lookup x=ah .local:=by first|exact .inl rfl|exact .inr rfl|assumption) :
  PG X (.Name x pos) (LC T own (aM i)):=(pg_name hN hi hx hf).imp λv σ H Q h=>by
 obtain⟨ρ,w,σw,g,hw,hs,hg,he⟩:=h;exact he ρ H _ .refl hg ⟨hs.set hw i,Yb ho⟩
def CC(T:Tab) (m:TD):TT:=LT T W0 m
def ny:TD:=λ_ g=>.ok aj g
theorem CD:PTs X [] (CC T ny):=⟨λpins s σ H Q I h=>pts_nil.run pins s σ H Q I (by
 obtain⟨ρ,σw,g,hs,hg,he⟩:=h;exact he ρ H aj .refl hg rfl)⟩
def uR(L:Nat) (y:W) (g:G):au G:=match g[L]? with
 |some (.lst acc)=>if fits acc.length then ah (g.set L (.lst (acc++[y]))) else ai
 |_=>ai
def iq(J:ZS) (tg:GD) (tt:TD) (te:ED) (own:List Nat) (σ:Sg) (L:Nat):List W->G->Out ax
 |[],g=>if ZI J g then .ok () g else .bad
 |w :: ws,g=>if ZI J g then match tg w (Jk σ own) g with
  | .ok σ2 g2=>match tt σ2 g2 with
   | .ok aj g3=>match te σ2 g3 with
    | .ok y g4=>match uR L y g4 with
     |some g5=>iq J tg tt te own σ L ws g5
     |none=>.bad
    |_=>.bad
   | .ok ak g3=>iq J tg tt te own σ L ws g3
   |_=>.bad
  |_=>.bad else .bad
def o7(i:ID) (tg:GD) (tt:TD) (te:ED) (own:List Nat):ED:=λσ g=>(i σ g).bind λJ g1=>match iq J tg tt te own σ g1.length J.ws (g1++[.lst []]) with
 | .ok _ g2=>.ok (.ref g1.length) g2
 |_=>.bad
def ll(T:Tab) (ρ:List aq) (H:Hp) (Q:Hp->Prop):Out ax->Prop
 | .ok _ g=>∀ρ' H',qj ρ H ρ' H'->RG T ρ' H' g->Q H'
 |_=>False
theorem ll.base{ρ H ρ1 H1 Q}{r:Out ax}(gr:qj ρ H ρ1 H1) (h:ll T ρ H Q r):ll T ρ1 H1 Q r:=by
 cases r with
 |ok a g=>exact λρ' H' g2=>h ρ' H' (gr.trans g2)
 |_=>exact h
theorem Yd{ρ H g g' L D y v}(R:RG T ρ H g) (hD:ρ[L]? = ah D) (ry:RW T ρ H y v) (h:uR L y g=ah g'):∃acc,H D=ah (.lst acc)/\acc.length<kR/\qj ρ H ρ (upd H D (.lst (acc++[v])))/\RG T ρ (upd H D (.lst (acc++[v]))) g':=by
 unfold uR at h
 split at h
 ·rename_i ws e
  split at h
  ·rename_i hf
   cases h;obtain⟨vs,hH,r⟩:=o4 R e hD
   have mt:ig (H D):=by rw[hH];trivial
   have gr:qj ρ H ρ (upd H D (.lst (vs++[v]))):=qI mt;exact⟨vs,hH,by rw[<- r.length];exact xK hf,gr,R.write hD ⟨_,ez,(r.mono gr _ _).append (.cons (ry.mono gr _ _) aD.nil)⟩⟩
  ·cases h
 ·cases h
theorem NP{i:ID}{tg:GD}{tt:TD}{te:ED}{own:List Nat}{σ H Q}(h:LE T Wx (o7 i tg tt te own) σ H Q):tLc (LI T Wx i) (LC T own tg) (CC T tt) (LE T W0 te) own σ H Q:=by
 obtain⟨ρ0,σw,g0,uF,G3,G4⟩:=h;refine⟨ρ0,σw,g0,uF,G3,zP.bind G4 λJ g1 ρ1 H1 Jt bt R1 rel ay=>?_⟩;intro D hD
 have bg:ll T (ρ1++[D]) (upd H1 D (.lst [])) (λH'=>Q (.ref D) H') (iq J tg tt te own σw g1.length J.ws (g1++[.lst []])):=by
  cases hr:iq J tg tt te own σw g1.length J.ws (g1++[.lst []]) with
  |ok a g2=>
   rw[hr]at ay;intro ρ' H' gr R;refine ay ρ' H' (.ref D) ((jP hD).trans gr) R ?_;simp only[bf,RW];exact⟨D,gr.pre _ _ (by rw[<- R1.len];simp),rfl⟩
  |_=>rw[hr]at ay;exact ay.elim
 refine⟨λi m H=>∃ρ g,qj (ρ1++[D]) (upd H1 D (.lst [])) ρ H/\RG T ρ H g/\m=(J.ws.drop i).length/\ll T ρ H (λH'=>Q (.ref D) H') (iq J tg tt te own σw g1.length (J.ws.drop i) g),
  ⟨_,ρ1++[D],g1++[.lst []],.refl,QI R1 hD aD.nil,rfl,by simpa using bg⟩,?_⟩
 rintro i m H ⟨ρ,g,gr,hg,rfl,he⟩
 have CF:=(jP (o:=.lst []) hD).trans gr;have hs:RS T ρ H σw σ:=uF.mono (bt.trans CF) _ _;have hL:ρ[g1.length]? = ah D:=gr.pre _ _ (by rw[<- R1.len];simp)
 cases hd:J.ws.drop i with
 |nil=>
  rw[hd]at he;simp only[iq]at he
  split at he
  ·rename_i dB
   exact .inl ⟨rel.stop ρ H g i CF hg dB (by simpa using hd),he ρ H .refl hg⟩
  ·exact he.elim
 |cons w ws=>
  rw[hd]at he;simp only[iq]at he
  split at he
  ·rename_i dB
   have hw:J.ws[i]? = ah w:=by
    have:(J.ws.drop i)[0]? = ah w:=by rw[hd];rfl
    simpa using this
   have eu:J.ws.drop (i+1)=ws:=by
    have:(J.ws.drop i).drop 1=ws:=by rw[hd];rfl
    rw[Bj]at this;exact this
   refine .inr ⟨rel.go ρ H g i w CF hg dB hw,λH=>∃ρ g,qj (ρ1++[D]) (upd H1 D (.lst [])) ρ H/\RG T ρ H g/\ll T ρ H (λH'=>Q (.ref D) H') (iq J tg tt te own σw g1.length ws g),λH' ⟨ρ,g,a,b,c⟩=>?_,λx H' y=>?_⟩
   ·exact⟨ws.length,by simp,ρ,g,a,b,by rw[eu],by rw[eu];exact c⟩
   ·obtain⟨ρ2,bE,R2,G5⟩:=rel.yld ρ H g i w x H' CF hg dB hw y
    have cR:=NO (hs.mono bE _ _) own;refine⟨ρ2,w,Jk σw own,g,G5,cR,R2,?_⟩;have he:=ll.base bE he;have go2:=gr.trans bE
    cases Ho:tg w (Jk σw own) g with
    |ok σ2 g2=>
     rw[Ho]at he;dsimp only at he;intro ρ3 H3 σ3 eL R3 ⟨Cg,Ye⟩;refine⟨by rw[Ye,Yc],ρ3,σ2,g2,Cg,R3,?_⟩;have he:=ll.base eL he;have Yf:=go2.trans eL
     cases Hq:tt σ2 g2 with
     |ok b g3=>
      rw[Hq]at he;intro ρ4 H4 b' xI R4 eb;subst eb;have he:=ll.base xI he;have NQ:=Yf.trans xI
      cases b with
      |false=>rw[aR LQ];exact⟨ρ4,g3,NQ,R4,he⟩
      |true=>
       rw[aG rfl];dsimp only at he;refine⟨ρ4,σ2,g3,Cg.mono xI _ _,R4,?_⟩
       cases Hr:te σ2 g3 with
       |ok z g4=>
        rw[Hr]at he;intro ρ5 H5 v sd R5 rz;have he:=ll.base sd he;have NR:=NQ.trans sd;dsimp only at he
        split at he
        ·rename_i g5 ha
         obtain⟨acc,h1,h2,lq,R6⟩:=Yd R5 (NR.pre g1.length D (show(ρ1++[D])[g1.length]? = ah D by rw[<- R1.len];simp)) rz ha;exact⟨acc,h1,h2,ρ5,g5,NR.trans lq,R6,ll.base lq he⟩
        ·exact he.elim
       |ex c fs g4=>rw[Hr]at he;exact he.elim
       |bad=>rw[Hr]at he;exact he.elim
     |ex c fs g3=>rw[Hq]at he;exact he.elim
     |bad=>rw[Hq]at he;exact he.elim
    |ex c fs g2=>rw[Ho]at he;exact he.elim
    |bad=>rw[Ho]at he;exact he.elim
  ·exact he.elim
theorem Hs{elt tg iter:aN}{ifs:List aN}{scope:mR}{own:List (Str×Nat)}{i:ID}{g:GD}{tt:TD}{te:ED}(hc:X.calm=aj) (hN:X.N.Nodup) (hi:PI X tg iter (LI T Wx i)) (ok:BlkOk X.N X.env.scope scope own)
  (hg:∀(s:aK) (H:Hp) (C:aq) (cl:List (Str×aq)) (fp:List aq),PG (X.blk s H scope (Ba scope cl C X.env) fp) tg (LC T (own.map (·.2)) g)) (ht:∀(s:aK) (H:Hp) (C:aq) (cl:List (Str×aq)) (fp:List aq),PTs (X.blk s H scope (Ba scope cl C X.env) fp) ifs (CC T tt))
  (he:∀(s:aK) (H:Hp) (C:aq) (cl:List (Str×aq)) (fp:List aq),PE (X.blk s H scope (Ba scope cl C X.env) fp) elt (LE T W0 te)) (hs:∀x,tG iter X.env x=pure x:=by intro _;rfl) :
  PE X (.ListComp elt [⟨tg,iter,ifs,0⟩] scope pos) (LE T Wx (o7 i g tt te (own.map (·.2)))):=(pe_lc hc hN hi ok hg ht he hs).imp λ_ _ _ h=>NP h
theorem Yg(j:Nat) {y:Str}{py:Pos}{MP:Pos}{elt tg iter:aN}{ifs:List aN}{scope:mR}{own:List (Str×Nat)}{i:ID}{g:GD}{tt:TD}{te:ED}(hc:X.calm=aj) (hN:X.N.Nodup) (hi:PI X tg iter (LI T Wx i)) (ok:BlkOk X.N X.env.scope scope own)
  (hg:∀(s:aK) (H:Hp) (C:aq) (cl:List (Str×aq)) (fp:List aq),PG (X.blk s H scope (Ba scope cl C X.env) fp) tg (LC T (own.map (·.2)) g)) (ht:∀(s:aK) (H:Hp) (C:aq) (cl:List (Str×aq)) (fp:List aq),PTs (X.blk s H scope (Ba scope cl C X.env) fp) ifs (CC T tt))
  (he:∀(s:aK) (H:Hp) (C:aq) (cl:List (Str×aq)) (fp:List aq),PE (X.blk s H scope (Ba scope cl C X.env) fp) elt (LE T W0 te)) (hs:∀x,tG iter X.env x=pure x:=by intro _;rfl)
  (hy:X.N[j]? = ah y:=by rfl) (Yh:X.env.scope.names.lookup y=ah .local:=by rfl)
  (xP:A6 (.ListComp elt [⟨tg,iter,ifs,0⟩] scope pos) (ah (.Name y py)) MP.line X.env=pure aj:=by exact sw_true rfl rfl rfl (by decide +kernel)) :
  PS X (.Assign [.Name y py] (.ListComp elt [⟨tg,iter,ifs,0⟩] scope pos) MP) (LS T Wx (zX (o7 i g tt te (own.map (·.2))) (aM j))):=
 (ps_setLc hc hN hy Yh xP hi ok hg ht he hs).imp λD σ H h=>by
  obtain⟨ρ,σw,g,hs,hg,h⟩:=h;refine NP ⟨ρ,σw,g,hs,hg,qZ.fB hs h λx g1 ρ1 H1 vx gr R rx ay=>?_⟩;exact ay ρ1 H1 _ .refl R ((hs.mono gr _ _).set rx j)
end
end
section
variable{T:Tab}
section
open PySem.W PySem.Calls PySem.HandSPX
variable{prog:bO}{w:bS}{M:wg}{A:bV}{E:az->aK->Prop}{h:bj}{g:dH Bb}{d:Drawn}{t:Nat}{os:OsState}
variable{nm q:Str}{C N:aq}{bs bm bmB:List az}{VM:aw}{sn:List Str}{sub:List az}{ab:aw}{col:au aw}{dd:au aq}{k0 k1 k2 k3 k5:au az}
abbrev CG(x:aq):Obj:=kxs_mw "ValueError.__init__" x
theorem Yi{u e t0:aq}{rest:List az}{Q:az->aK->Prop}
  (hC:h.get? C=ah (A2 nm q C N bs bm VM sn sub ab col dd k0 k1 k2 k3 k5 "ValueError.__new__")) (he:h.get? e=ah (excO C t0)) (hu:h.get? u=ah (CG e)) (akL:rest.length<=kR)
  (hq:∀h' t1,(∀b o,b ≠ e->h.get? b=ah o->h'.get? b=ah o)->h'.get? e=ah (excO C t1)->Q .none ⟨h',g,d,t,os⟩) :
  bL (model prog w) A (call (.ref u) rest) Q E ⟨h,g,d,t,os⟩:=by
 refine A8 (codeAny_of_tree ?_);show bL _ A.in1 (callAny (.ref u) ⟨rest,[]⟩) _ _ _;simp only[callAny];refine c4 (wpAny_load hu ?_);simp only[kxs_mw,show(Value.type "method-wrapper" == Value.type "method" ||Value.type "method-wrapper" == Value.type "builtin_function_or_method" ||Value.type "method-wrapper" == Value.type "method-wrapper")=aj by decide,lS]
 refine W.KFB.if_so (by decide) ?_;refine c4 (PySem.ESX.check_bound F.excBase_ValueError hC he rfl ?_);refine c4 (tJ (tJ ?_));refine⟨Code.quiet_builtin _ (by decide +kernel),codeAny_builtin F.excBase_ValueError.initEntry ?_⟩;rw[Around.under_plainId F.excBase_ValueError.init.plain _]
 wp_walk
 refine hq _ h.objs.size (λb o hb ho=>?_) ?_
 ·rw[Heap.get?_update_other _ _ (Ne.symm hb)]
  exact Heap.get?_push_of_some _ ho
 ·rw[Heap.get?_update_self _ (Heap.get?_push_of_some _ he) rfl]
  rfl
structure ir(K:tK) (mg:Str->au az) (C fI:aq) (x:Str) (fs:List Str):Prop where
 gC:mg x=ah (.ref C)
 cls:∃nm q N bs bm sn sub ab col dd k0 k1 k2 k3 k5,K.lookup C=ah (A2 nm q C N bs bm aj sn sub ab col dd k0 k1 k2 k3 k5 "ValueError.__new__")/\refsVE bm=aj
 sa:dI K (.ref C) "__setattr__" = ah (ah (.builtin "object.__setattr__"))
 ga:dI K (.ref C) "__getattribute__" = ah (ah (.builtin "BaseException.__getattribute__"))
 gg:dI K (.ref C) "__getattr__" = ah ai
 CH:∀n∈fs,dI K (.ref C) n=ah ai
 iC:dI K (.ref C) "__init__" = ah (ah (.ref fI))
 tC:tL K (.ref fI)=ah (.type "function")
 kC:keepIn K (.ref C)=aj
 exC:oo K (.ref C) (.type "BaseException")=ah aj
 se:oo K (.ref C) (.type "ValueError")=ah aj
 tyC:tL K (.ref C)=ah (.type "type")
 hdC:Es K C=aj
 sf:Et K C (.ref C)=ah aj
 sup:Eu K C C "__init__" = ah (ah (.builtin "ValueError.__init__"))
 sh:wm K Eh "thirdparty.any" = ah ai
 sg:mg "super" = ai
abbrev o8(q0 q1 q2 q3 q4 q5:Pos) (j:Nat) (msg:Str):bh:=.Expr (.Call (.Attribute (.Call (.Name "super" q0) [] [] q1) "__init__" q2) [.Constant (.str msg) j q3] [] q4) q5
abbrev mw(f:Str) (q1 q2 q3 q4:Pos):bh:=.Assign [.Attribute (.Name "self" q1) f q2] (.Name f q3) q4
structure si(prog:bO) (K:tK) (fI C:aq) (ps:List Str) (body:List bh):Prop where
 fn:∃(qual:Str) (args:A1) (scope:mR) (oc:az) (od:au aq) (kV doc pm:az) (an:au aq) (aX:aq) (ct:az) (b9:dH (au az)) (cc:aq) (dY cl:az) (dZ ee:au aq) (vs:dH az) (d_ eg:dH (au az)) (file:Str) (tf:Tok) (ar:Arg),
  K.lookup fI=ah ⟨oc,od,.func (Bc "__init__" qual args body scope .none kV doc pm an (.ref aX) ct cc),b9⟩/\codeIn K (.ref aX) qual=aj/\K.lookup aX=ah ⟨dY,dZ,.fields vs,d_⟩/\vs[2]? = ah (.str file tf)/\((prog.main.file:Str) == file)=aj /\
   K.lookup cc=ah ⟨cl,ee,.cell (ah (.ref C)),eg⟩/\(args.posonlyargs++args.args).head? = ah ar/\ar.arg = "self" /\ scope.names.lookup ("super" : Str)=ah .globalImplicit/\scope.names.lookup ("__class__" : Str)=ah .free /\
   (∀x∈scope.names,x.2 ≠ .cell)/\scope.isCoroutine=ak/\scope.isGenerator=ak/\scope.kind = .function/\(∀p∈ps,scope.names.lookup p=ah .local) /\
   (∀us:List az,us.length=ps.length->oq (Bc "__init__" qual args body scope .none kV doc pm an (.ref aX) ct cc) ⟨us,[]⟩=pure (ps.zip us))
 top:(prog.main.scope.names.lookup ("super" : Str)).isSome=ak
structure sj(h:bj) (mg:Str->au az):Prop where
 g:h.Ns eP mg
 b:∃mb,h.Ns Eg mb/\mb "super" = ah (.type "super")
structure Ht(h h':bj) (x C dx t1:aq) (mA:Str->au az):Prop where
 keep:∀b o,b ≠ x->h.get? b=ah o->h'.get? b=ah o
 obj:h'.get? x=ah { cls:=.ref C,dict:=ah dx,data:=.fields #[.ref t1,.none,.none,.none,.bool ak,.none] }
 FY:h.objs.size<=dx
 kD:dx ≠ x
 ns:h'.Ns1 dx mA
theorem Yj{K:tK}{C D:aq}{name:Str}{r:au (au az)}{cd:ClassData}(hc:tM K C=ah cd) (h:Eu K C D name=r):alongIn K name ((cd.mro.dropWhile (· != .ref D)).drop 1)=r:=by
 unfold Eu at h;rw[hc]at h;exact h
abbrev o9(q0 q1 q2 q3 q4:Pos) (j:Nat) (msg:Str) (env:Env) (pl:Sem aw):Prop:=eval (.Call (.Attribute (.Call (.Name "super" q0) [] [] q1) "__init__" q2) [.Constant (.str msg) j q3] [] q4) env=(do
 let ov <- wd (.Call (.Name "super" q0) [] [] q1) "__init__" env (eval (.Call (.Name "super" q0) [] [] q1) env)
 oh q2.atName
 let (f,first) <- holding [ov] (Ls ov "__init__" pl)
 we q4 f first (c_ q4 (bo [.Constant (.str msg) j q3] env)) [])
theorem Yk{K:tK}{mg:Str->au az}{C fI L x t0 aX cc:aq}{qx xn:Str}{fs:List Str}{scope:mR}{fd:oi}{ar:Arg}{body:List bh}{oc dY cl:az}{od dZ ee:au aq}{b9 d_ eg:dH (au az)}{vs:dH az}{file:Str}{tf:Tok}{m:Str->au az}
  {q0 q1 q2 q3 q4 q5:Pos}{j:Nat}{msg:Str}{s:aK}{Q:Flow->aK->Prop}{pl:Sem aw}(eU:o9 q0 q1 q2 q3 q4 j msg (dS qx scope L fI (.ref aX) cc) pl)
  (TT:ir K mg C fI xn fs) (X:K.In s.heap) (ns:sj s.heap mg) (hf:K.lookup fI=ah ⟨oc,od,.func fd,b9⟩) (hp:(fd.params.posonlyargs++fd.params.args).head? = ah ar) (iU:ar.arg = "self")
  (rB:K.lookup aX=ah ⟨dY,dZ,.fields vs,d_⟩) (so:vs[2]? = ah (.str file tf)) (iV:((prog.main.file:Str) == file)=aj) (rC:K.lookup cc=ah ⟨cl,ee,.cell (ah (.ref C)),eg⟩)
  (fD:scope.names.lookup ("super" : Str)=ah .globalImplicit) (iu:scope.names.lookup ("__class__" : Str)=ah .free) (CI:scope.names.lookup ("self" : Str)=ah .local) (hk:scope.kind = .function) (m9:(prog.main.scope.names.lookup ("super" : Str)).isSome=ak)
  (hn:s.heap.Ns L m) (hv:m "self" = ah (.ref x)) (hx:s.heap.get? x=ah (excO C t0)) (o_:L ≠ x)
  (hq:∀h' tk t1,(∀b o,b ≠ x->s.heap.get? b=ah o->h'.get? b=ah o)->h'.get? x=ah (excO C t1)->Q .next { s with heap:=h',toks:=tk }) :
  _root_.PySem.wpAt (model prog w) A (.func body (dS qx scope L fI (.ref aX) cc)) (exec (o8 q0 q1 q2 q3 q4 q5 j msg) (dS qx scope L fI (.ref aX) cc)) Q E s:=by
 obtain⟨nm,q,N,bs,bm,sn,sub,ab,col,dd,k0,k1,k2,k3,k5,hC,pd⟩:=TT.cls;have gv:tM K C=ah { name:=nm,bases:=bs,mro:=.ref C :: bm,ns:=N,qualname:=q,hasDict:=aj,slotNames:=sn,subclasses:=sub,abstract:=ab,collection:=col,hasDel:=ak }:=by unfold tM;rw[hC] <;> rfl
 obtain⟨mb,hb,Yl⟩:=ns.b;refine ks_wpAt_Expr_any (ks_wpAt_MethodCall ?_ eU) (by show interactive (dS qx scope L fI (.ref aX) cc)=ak;simp[interactive,hk]) rfl;refine ks_wpAt_super_base (env:=dS qx scope L fI (.ref aX) cc) fD iu (by decide) rfl (X _ _ hf) rfl hp rfl (X _ _ rB) rfl so iV m9 ?_;refine ks_loadName_global hk fD (loadGlobal_builtin (env:=dS qx scope L fI (.ref aX) cc) ns.g TT.sg hb Yl ⟨rfl,?_⟩);refine wpAny_loadName_free hk iu rfl ⟨_,X _ _ rC,rfl⟩ ?_;rw[iU];refine ait hk CI hn hv ?_;refine ks_wpAny_isType_cls (X _ _ hC) rfl ⟨rfl,?_⟩;refine ks_wpAny_call_super (X _ _ hC) rfl hx rfl (λc e=>by cases e) (looks_mroIn X TT.sf) (λh1 e1 Hu=>?_);have X1:K.In h1:=X.keeps Hu;have NS:=Hu _ _ hx
 have Ym:x ≠ C:=λz=>by
  subst z;have:=X _ _ hC;rw[hx]at this;cases this
 have J:InstAt h1 x (excO C t0) C ai:=⟨NS,rfl,rfl,trivial⟩
 refine kxs_getMethod kxs_ValueError e1 (looks_opaque X1 TT.sh) (l₀:=.ref C :: bm) ?_ rfl X1 (Yj gv TT.sup) (J.type.andThen (looks_subIn X1 TT.se)) Ym (by decide) ?_
 ·exact λA Q E s k q=>c4 ((looks_clsIn X1 gv) A _ E s k (tJ q))
 have NT:(h1.push (CG x)).get? h1.objs.size=ah (CG x):=Heap.get?_push_at rfl rfl;show bL _ _ (we q4 (.ref h1.objs.size) [] (c_ q4 (bo [.Constant (.str msg) j q3] (dS qx scope L fI (.ref aX) cc))) []) _ _ _;refine kxs_callWith (i := "ValueError.__init__") (x:=x) rfl ?_
 refine evalArgs_plain ?_;refine Calls.spliced_cons ?_;show bL _ _ (eval (.Constant (.str msg) j q3) (dS qx scope L fI (.ref aX) cc)) _ _ _;refine Calls.Constant_str ?_;refine Calls.spliced_nil ?_;refine⟨NT,?_⟩;have Hv:∀b o,h1.get? b=ah o->(h1.push (CG x)).get? b=ah o:=λb o e=>Heap.get?_push_of_some _ e;refine Yi (e:=x) (t0:=t0) (Hv _ _ (X1 _ _ hC)) (Hv _ _ NS) NT (by show 1<=kR;rw[A4];decide) λh' t1 k e=>?_;exact hq h' _ t1 (λb o hb hs=>k b o hb (Hv _ _ (Hu _ _ hs))) e
end
end
section
variable{T:Tab}
section
open PySem.W PySem.Calls PySem.HandSPX
variable{prog:bO}{w:bS}{A:bV}{R:wo->aK->Prop}{s:aK}{K:tK}{mg:Str->au az}{C fI x t0:aq}{xn f1 f2:Str}{v1 v2:az}{msg:Str}{j:Nat}{q0 q1 q2 q3 q4 q5 a1 a2 a3 a4 b1 b2 b3 b4:Pos}
theorem Jl{h h':bj}{L:aq}{m:Str->au az}(n:h.Ns L m) (k:∀o,h.get? L=ah o->h'.get? L=ah o):h'.Ns L m:=by
 obtain⟨o,es,ep,ho,r⟩:=n;exact⟨o,es,ep,k o ho,r⟩
theorem NU{h h':bj}{x:aq}(X:K.In h) (hx:K.lookup x=ai) (k:∀b o,b ≠ x->h.get? b=ah o->h'.get? b=ah o):K.In h':=λa o e=>
 k a o (λz=>by rw[z,hx]at e;cases e) (X a o e)
theorem NV{qx:Str}{scope:mR}{L aX cc:aq}{fd:oi}{ar:Arg}{body rest:List bh}{oc dY cl:az}{od dZ ee:au aq}{b9 d_ eg:dH (au az)}{vs:dH az}{file:Str}{tf:Tok}{m:Str->au az}{Q:Flow->aK->Prop}{fs:List Str}{pl:Sem aw}
  (eU:o9 q0 q1 q2 q3 q4 j msg (dS qx scope L fI (.ref aX) cc) pl)
  (TT:ir K mg C fI xn fs) (h1:f1∈fs) (X:K.In s.heap) (ns:sj s.heap mg) (hf:K.lookup fI=ah ⟨oc,od,.func fd,b9⟩) (hp:(fd.params.posonlyargs++fd.params.args).head? = ah ar) (iU:ar.arg = "self")
  (rB:K.lookup aX=ah ⟨dY,dZ,.fields vs,d_⟩) (so:vs[2]? = ah (.str file tf)) (iV:((prog.main.file:Str) == file)=aj) (rC:K.lookup cc=ah ⟨cl,ee,.cell (ah (.ref C)),eg⟩)
  (fD:scope.names.lookup ("super" : Str)=ah .globalImplicit) (iu:scope.names.lookup ("__class__" : Str)=ah .free) (CI:scope.names.lookup ("self" : Str)=ah .local) (Yn:scope.names.lookup f1=ah .local) (Yo:(f1 == ("__debug__" : Str))=ak)
  (hk:scope.kind = .function) (m9:(prog.main.scope.names.lookup ("super" : Str)).isSome=ak)
  (hn:s.heap.Ns L m) (hv:m "self" = ah (.ref x)) (Yp:m f1=ah v1) (hx:s.heap.get? x=ah (excO C t0)) (iw:K.lookup x=ai) (o_:L ≠ x)
  (hq:∀h' tk dx t1,K.In h'->(∀b o,b ≠ x->s.heap.get? b=ah o->h'.get? b=ah o)->L<dx->dx ≠ x->h'.get? x=ah { cls:=.ref C,dict:=ah dx,data:=.fields #[.ref t1,.none,.none,.none,.bool ak,.none] }->h'.Ns1 dx (λy=>if y=f1 then ah v1 else ai) ->
   _root_.PySem.wpAt (model prog w) A (.func body (dS qx scope L fI (.ref aX) cc)) (execs rest (dS qx scope L fI (.ref aX) cc)) Q E { s with heap:=h',toks:=tk }) :
  _root_.PySem.wpAt (model prog w) A (.func body (dS qx scope L fI (.ref aX) cc)) (execs (o8 q0 q1 q2 q3 q4 q5 j msg :: mw f1 a1 a2 a3 a4 :: rest) (dS qx scope L fI (.ref aX) cc)) Q E s:=by
 obtain⟨nm,q,N,bs,bm,sn,sub,ab,col,dd,k0,k1,k2,k3,k5,hC,pd⟩:=TT.cls;have gv:tM K C=ah { name:=nm,bases:=bs,mro:=.ref C :: bm,ns:=N,qualname:=q,hasDict:=aj,slotNames:=sn,subclasses:=sub,abstract:=ab,collection:=col,hasDel:=ak }:=by unfold tM;rw[hC] <;> rfl
 refine Uw (Yk (pl:=pl) eU TT X ns hf hp iU rB so iV rC fD iu CI hk m9 hn hv hx o_ λh' tk t1 kk e1=>?_);have X₂:K.In h':=NU X iw kk;have kE:h'.Ns L m:=Jl hn λo z=>kk _ o o_ z;refine Uw (Lu (Ux ?_));refine EF (env:=dS qx scope L fI (.ref aX) cc) kE Yp ?_ hk Yn Yo;refine EF (env:=dS qx scope L fI (.ref aX) cc) kE hv ?_ hk CI (by decide);refine set_plain X₂ (ox:=excO C t1) (od:=ai) ⟨e1,rfl,rfl,trivial⟩ TT.sa ?_;refine exc_osa X₂ e1 gv (show refsVE (.ref C :: bm)=aj from pd) rfl (TT.CH f1 h1) (λh₃ tk₃ dx k₃ dn kD hx₃ hn₃=>?_);have big:L<dx:=cu kE.lt dn;exact hq h₃ tk₃ dx t1 (NU X₂ iw k₃) (λb o hb e=>k₃ b o hb (kk b o hb e)) big kD hx₃ hn₃
theorem Yq{fs:List Str}(TT:ir K mg C fI xn fs) (h1:f1∈fs) (FF:si prog K fI C ["self",f1] [o8 q0 q1 q2 q3 q4 q5 j msg,mw f1 a1 a2 a3 a4]) (fZ:f1 ≠ "self") (cW:(f1 == ("__debug__" : Str))=ak)
  (eU:∀qx scope L aX cc,scope.names.lookup ("super" : Str)=ah NameKind.globalImplicit->∃pl,o9 q0 q1 q2 q3 q4 j msg (dS qx scope L fI (.ref aX) cc) pl)
  (X:K.In s.heap) (iX:s.heap.NoLimit) (ns:sj s.heap mg) (hx:s.heap.get? x=ah (excO C t0)) (iw:K.lookup x=ai) (kY:A.depth<Bd)
  (hq:∀h' tk dx t1,Ht s.heap h' x C dx t1 (λy=>if y=f1 then ah v1 else ai)->R (.ok (.ret .none)) { s with heap:=h',toks:=tk }) :
  Be (model prog w) A (.call (.ref fI) ⟨[.ref x,v1],[]⟩) R s:=by
 obtain⟨qual,args,scope,oc,od,kV,doc,pm,an,aX,ct,b9,cc,dY,cl,dZ,ee,vs,d_,eg,file,tf,ar,hf,gj,rB,so,iV,rC,hp,iU,fD,iu,mx,eV,ib,hk,fA,m8⟩:=FF.fn;obtain⟨pl,eU⟩:=eU qual scope s.heap.objs.size aX cc fD;refine aiv (binds:=[("self",.ref x),(f1,v1)]) kY (X _ _ hf) rfl iX (codeRec_of X gj) rfl (BindsTo.of_eq (m8 [.ref x,v1] rfl)) mx (λy hy=>?_) (λh₁ kG hk₁=>?_) eV ib hk
 ·rcases cJ.mp hy with rfl|hy
  ·exact fA _ (by simp)
  ·rw[pW]at hy
   subst hy;exact fA _ (by simp)
 have o_:s.heap.objs.size ≠ x:=U6 (Heap.lt_size hx);have X₁:K.In h₁:=X.keeps hk₁;have hx₁:=hk₁ _ _ hx
 have ms:(λy=>kd y ([("self",.ref x),(f1,v1)]:List (Str×az)).reverse) "self" = ah (.ref x):=by
  have e:(("self" : Str) == f1)=ak:=by rw[A3];exact λz=>fZ z.symm
  simp[kd,e]
 have m1:(λy=>kd y ([("self",.ref x),(f1,v1)]:List (Str×az)).reverse) f1=ah v1:=by simp[kd]
 refine NV (pl:=pl) eU TT h1 X₁ ?_ hf hp iU rB so iV rC fD iu (fA _ (by simp)) (fA _ (by simp)) cW hk FF.top kG ms m1 hx₁ iw o_ λh' tk dx t1 X2 kk big kD xQ kE=>?_
 ·obtain⟨mb,sr,sx⟩:=ns.b
  exact⟨Jl ns.g λo z=>hk₁ _ o z,mb,Jl sr λo z=>hk₁ _ o z,sx⟩
 refine Lu (Lv ?_);exact hq h' tk dx t1 ⟨λb o hb e=>kk b o hb (hk₁ b o e),xQ,mT big,kD,kE⟩
theorem Yr{fs:List Str}(TT:ir K mg C fI xn fs) (h1:f1∈fs) (h2:f2∈fs) (FF:si prog K fI C ["self",f1,f2] [o8 q0 q1 q2 q3 q4 q5 j msg,mw f1 a1 a2 a3 a4,mw f2 b1 b2 b3 b4]) (fZ:f1 ≠ "self") (w6:f2 ≠ "self") (xR:f1 ≠ f2) (cW:(f1 == ("__debug__" : Str))=ak) (w_:(f2 == ("__debug__" : Str))=ak)
  (eU:∀qx scope L aX cc,scope.names.lookup ("super" : Str)=ah NameKind.globalImplicit->∃pl,o9 q0 q1 q2 q3 q4 j msg (dS qx scope L fI (.ref aX) cc) pl)
  (X:K.In s.heap) (iX:s.heap.NoLimit) (ns:sj s.heap mg) (hx:s.heap.get? x=ah (excO C t0)) (iw:K.lookup x=ai) (kY:A.depth<Bd)
  (hq:∀h' tk dx t1,Ht s.heap h' x C dx t1 (λy=>if y=f2 then ah v2 else if y=f1 then ah v1 else ai)->R (.ok (.ret .none)) { s with heap:=h',toks:=tk }) :
  Be (model prog w) A (.call (.ref fI) ⟨[.ref x,v1,v2],[]⟩) R s:=by
 obtain⟨qual,args,scope,oc,od,kV,doc,pm,an,aX,ct,b9,cc,dY,cl,dZ,ee,vs,d_,eg,file,tf,ar,hf,gj,rB,so,iV,rC,hp,iU,fD,iu,mx,eV,ib,hk,fA,m8⟩:=FF.fn;obtain⟨pl,eU⟩:=eU qual scope s.heap.objs.size aX cc fD;refine aiv (binds:=[("self",.ref x),(f1,v1),(f2,v2)]) kY (X _ _ hf) rfl iX (codeRec_of X gj) rfl (BindsTo.of_eq (m8 [.ref x,v1,v2] rfl)) mx (λy hy=>?_) (λh₁ kG hk₁=>?_) eV ib hk
 ·rcases cJ.mp hy with rfl|hy
  ·exact fA _ (by simp)
  ·rcases cJ.mp hy with rfl|hy
   ·exact fA _ (by simp)
   ·rw[pW]at hy
    subst hy;exact fA _ (by simp)
 have o_:s.heap.objs.size ≠ x:=U6 (Heap.lt_size hx);have X₁:K.In h₁:=X.keeps hk₁;have hx₁:=hk₁ _ _ hx
 have ms:(λy=>kd y ([("self",.ref x),(f1,v1),(f2,v2)]:List (Str×az)).reverse) "self" = ah (.ref x):=by
  have e:(("self" : Str) == f1)=ak:=by rw[A3];exact λz=>fZ z.symm
  have e2:(("self" : Str) == f2)=ak:=by rw[A3];exact λz=>w6 z.symm
  simp[kd,e,e2]
 have m1:(λy=>kd y ([("self",.ref x),(f1,v1),(f2,v2)]:List (Str×az)).reverse) f1=ah v1:=by
  have e:(f1 == f2)=ak:=by rw[A3];exact xR
  simp[kd,e]
 have m2:(λy=>kd y ([("self",.ref x),(f1,v1),(f2,v2)]:List (Str×az)).reverse) f2=ah v2:=by simp[kd]
 refine NV (pl:=pl) eU TT h1 X₁ ?_ hf hp iU rB so iV rC fD iu (fA _ (by simp)) (fA _ (by simp)) cW hk FF.top kG ms m1 hx₁ iw o_ λh' tk dx t1 X2 kk big kD xQ kE=>?_
 ·obtain⟨mb,sr,sx⟩:=ns.b
  exact⟨Jl ns.g λo z=>hk₁ _ o z,mb,Jl sr λo z=>hk₁ _ o z,sx⟩
 obtain⟨nm,q,N,bs,bm,sn,sub,ab,col,dd,k0,k1,k2,k3,k5,hC,pd⟩:=TT.cls;have gv:tM K C=ah { name:=nm,bases:=bs,mro:=.ref C :: bm,ns:=N,qualname:=q,hasDict:=aj,slotNames:=sn,subclasses:=sub,abstract:=ab,collection:=col,hasDel:=ak }:=by unfold tM;rw[hC] <;> rfl
 have hLd:s.heap.objs.size ≠ dx:=tO big;have CJ:=Jl kG λo z=>kk _ o o_ z;refine Uw (Lu (Ux ?_));refine EF (env:=dS qual scope s.heap.objs.size fI (.ref aX) cc) CJ m2 ?_ hk (fA _ (by simp)) w_;refine EF (env:=dS qual scope s.heap.objs.size fI (.ref aX) cc) CJ ms ?_ hk (fA _ (by simp)) (by decide)
 have hw:Within (λy=>if y=f1 then ah v1 else ai) [f1]:=λy hy=>by
  by_cases e:y=f1
  ·subst e;simp
  ·simp[e]at hy
 obtain⟨oD,_,_,Ys,_,_⟩:=kE.count hw;refine set_plain X2 (ox:={ cls:=.ref C,dict:=ah dx,data:=.fields #[.ref t1,.none,.none,.none,.bool ak,.none] }) (od:=ah oD) ⟨xQ,rfl,rfl,Ys⟩ TT.sa ?_;refine PySem.OEX.osa_old X2 xQ kE hw (by show 1<=1000;decide) gv (show refsVE (.ref C :: bm)=aj from pd) rfl (TT.CH f2 h2) (λh₄ tk₄ k₄ hn₄=>?_);refine Lu (Lv ?_);have old:∀b o,s.heap.get? b=ah o->b ≠ dx:=λb o e=>tO (Nat.lt_trans (Heap.lt_size e) big);exact hq h₄ tk₄ dx t1 ⟨λb o hb e=>k₄ b o (old b o e) (kk b o hb (hk₁ b o e)),k₄ _ _ kD.symm xQ,mT big,kD,hn₄⟩
end
end
end WL
end
section
namespace WL
open PySem PySem.Spec
open L2 hiding Takes XE CX PMk MkP ps_raise ps_try_as ps_try_many passAt passes_call takes_of HdsOk mk_of
open L2N (Takes XE CX PMk MkP ps_raise ps_try_as ps_try_many passAt passes_call takes_of HdsOk mk_of)
open PyProof.Rows hiding St
variable{T:Tab}
section
open PySem.W PySem.Calls PySem.HandSPX
def sy(prog:bO) (w:bS) (K:tK) (mg:Str->au az) (C fI:aq) (fl:List Str):Prop:=∀(vs:List V) (us:List az),n_ vs us->us.length=fl.length ->
 ∃mA:Str->au az,(∀f,RelO (((fl.zip vs).reverse).lookup f) (mA f))/\∀(A:bV) (R:wo->aK->Prop) (s:aK) (x t0:aq),K.In s.heap->s.heap.NoLimit->sj s.heap mg->s.heap.get? x=ah (excO C t0)->K.lookup x=ai->A.depth<Bd ->
  (∀h' tk dx t1,Ht s.heap h' x C dx t1 mA->R (.ok (.ret .none)) { s with heap:=h',toks:=tk })->Be (model prog w) A (.call (.ref fI) ⟨.ref x :: us,[]⟩) R s
variable{prog:bO}{w:bS}{K:tK}{mg:Str->au az}{C fI:aq}{xn f1 f2:Str}{msg:Str}{j:Nat}{q0 q1 q2 q3 q4 q5 a1 a2 a3 a4 b1 b2 b3 b4:Pos}{fs:List Str}
theorem Yt(TT:ir K mg C fI xn fs) (h1:f1∈fs) (FF:si prog K fI C ["self",f1] [o8 q0 q1 q2 q3 q4 q5 j msg,mw f1 a1 a2 a3 a4]) (fZ:f1 ≠ "self") (cW:(f1 == ("__debug__" : Str))=ak)
  (eU:∀qx scope L aX cc,scope.names.lookup ("super" : Str)=ah NameKind.globalImplicit->∃pl,o9 q0 q1 q2 q3 q4 j msg (dS qx scope L fI (.ref aX) cc) pl):sy prog w K mg C fI [f1]:=by
 intro vs us r hl
 match us,hl,r with
 |[v1],_,.cons r1 .nil=>
  exact⟨λy=>if y=f1 then ah v1 else ai,Uy (fs:=[]) r1 λg=>True.intro,λA R s x t0 X iX ns hx iw kY hq=>Yq TT h1 FF fZ cW eU X iX ns hx iw kY hq⟩
theorem Yu(TT:ir K mg C fI xn fs) (h1:f1∈fs) (h2:f2∈fs) (FF:si prog K fI C ["self",f1,f2] [o8 q0 q1 q2 q3 q4 q5 j msg,mw f1 a1 a2 a3 a4,mw f2 b1 b2 b3 b4]) (fZ:f1 ≠ "self") (w6:f2 ≠ "self") (xR:f1 ≠ f2) (cW:(f1 == ("__debug__" : Str))=ak) (w_:(f2 == ("__debug__" : Str))=ak)
  (eU:∀qx scope L aX cc,scope.names.lookup ("super" : Str)=ah NameKind.globalImplicit->∃pl,o9 q0 q1 q2 q3 q4 j msg (dS qx scope L fI (.ref aX) cc) pl):sy prog w K mg C fI [f1,f2]:=by
 intro vs us r hl
 match us,hl,r with
 |[v1,v2],_,.cons r1 (.cons r2 .nil)=>
  exact⟨λy=>if y=f2 then ah v2 else if y=f1 then ah v1 else ai,Uy r2 (Uy (fs:=[]) r1 λg=>True.intro),λA R s x t0 X iX ns hx iw kY hq=>Yr TT h1 h2 FF fZ w6 xR cW w_ eU X iX ns hx iw kY hq⟩
structure Yv(h h':bj) (e C d:aq) (mA:Str->au az):Prop where
 keep:∀b o,h.get? b=ah o->h'.get? b=ah o
 new:h.objs.size<=e
 obj:∃oe vs,h'.get? e=ah oe/\oe.cls = .ref C/\oe.dict=ah d/\oe.data = .fields vs/\vs[1]? = ah .none/\4<vs.size/\vs[2]? = ah .none
 FY:h.objs.size<=d
 kD:d ≠ e
 ns:h'.Ns1 d mA
theorem Yw{fl:List Str}{vs:List V}{us:List az}{A:bV}{R:wo->aK->Prop}{s:aK}(T:ir K mg C fI xn fs) (ip:sy prog w K mg C fI fl) (rv:n_ vs us) (hl:us.length=fl.length) (hz:us.length<=kR) (X:K.In s.heap) (iX:s.heap.NoLimit) (ns:sj s.heap mg) (kY:A.depth+1<Bd) :
  ∃mA:Str->au az,(∀f,RelO (((fl.zip vs).reverse).lookup f) (mA f))/\((∀h' tk e d,Yv s.heap h' e C d mA->R (.ok (.ret (.ref e))) { s with heap:=h',toks:=tk })->Be (model prog w) A (.call (.ref C) ⟨us,[]⟩) R s):=by
 obtain⟨mA,hr,VG⟩:=ip vs us rv hl;refine⟨mA,hr,λhq=>?_⟩;obtain⟨nm,q,N,bs,bm,sn,sub,ab,col,dd,k0,k1,k2,k3,k5,hC,pd⟩:=T.cls;obtain⟨hp,g,dr,tk,os⟩:=s;have k:∀b o,hp.get? b=ah o->((hp.push (Uz us)).push (excO C hp.objs.size)).get? b=ah o:=λb o e=>Heap.get?_push_of_some _ (Heap.get?_push_of_some _ e);have FZ:((hp.push (Uz us)).push (excO C hp.objs.size)).get? (hp.objs.size+1)=ah (excO C hp.objs.size):=by heap_get
 have iw:K.lookup (hp.objs.size+1)=ai:=by
  cases e:K.lookup (hp.objs.size+1) with
  |none=>rfl
  |some o=>
   have z:hp.get? (hp.objs.size+1)=ah o:=X _ _ e;exact br (Nat.lt_of_succ_lt (Heap.lt_size z)) (tP _)
 refine call_own F.excBase_ValueError (λX=>refsVE_contains X bm pd) (X _ _ hC) (looks_findIn X T.iC) (λself=>bind_fn X self T.tC) hz ?_;obtain⟨mb,sr,sx⟩:=ns.b;refine VG _ _ ⟨(hp.push (Uz us)).push (excO C hp.objs.size),g,dr,tk,os⟩ (hp.objs.size+1) hp.objs.size (X.keeps k) (iX.keeps k) ⟨Jl ns.g λo z=>k _ o z,mb,Jl sr λo z=>k _ o z,sx⟩ FZ iw ?_ λh' xS dx t1 ⟨k',hx,dn,kD,kG⟩=>?_
 ·show A.depth+1<Bd
  exact kY
 ·have old:∀b o,hp.get? b=ah o->h'.get? b=ah o:=λb o e=>k' b o (tO (Nat.lt_succ_of_lt (Heap.lt_size e))) (k b o e)
  have z:hp.objs.size+1+1<=dx:=by
   first
    |(simpa only[Heap.size_push] using dn)
    |exact dn
    |(have q:=dn;rw[Heap.size_push,Heap.size_push]at q;exact q)
  exact⟨rfl,hq h' xS (hp.objs.size+1) dx ⟨old,Bl _,⟨_,_,hx,rfl,rfl,rfl,rfl,by show 4<6;decide,rfl⟩,b_ (b_ (Bl _) (Bl _)) z,kD,kG⟩⟩
end
section
variable{X:Cx}{C fI:aq}{Wx:WX}
theorem Yx{pins:List (aq×Obj)}{σ:St}{H:Hp}{s:aK}(I:Inv X pins σ H s) (sg:X.mg "super" = ai):sj s.heap X.mg:=by
 obtain⟨mb,h1,h2⟩:=I.mod.blt;exact⟨I.mod.glob.keeps I.bk,mb,h1.keeps I.bk,(h2 "super" (by decide)).trans PyProof.Rows.Boot.«super»⟩
def NW(C:aq) (fl:List Str) (ta:TA):St->Hp->XK->Prop:=λσ H Q=>ta σ H λvs H1=>vs.length=fl.length/\∀d,H1 d=ai->Q (.ref C) (ah d) (upd H1 d (.xd (fl.zip vs).reverse))
def NX(u:az) (s':aK):Prop:=∀(a:aq) (oe:Obj) (vs:dH az),u = .ref a->s'.heap.get? a=ah oe->oe.data = .fields vs->4<vs.size
def Yy(X:Cx) (e:aN) (t:St->Hp->XK->Prop):Prop:=
 ∀(pins:List (aq×Obj)) (s:aK) (σ:St) (H:Hp) (Q:XK),Inv X pins σ H s->t σ H Q->bL (model X.prog X.w) X.A (eval e X.env) (λu s'=>MkP X pins σ Q u s'/\NX u s') X.xe s
theorem Yz{e:aN}{es:List aN}{ta:TA}{p pos:Pos}{k:Nat}{xn:Str}{fs fl:List Str}(T:ir X.K X.mg C fI xn fs) (ip:sy X.prog X.w X.K X.mg C fI fl) (CK:fl.length<=100) (hr:Room (k+1) X.A) (ha:PA X (e :: es) ta) (hg:Gl X xn:=by rfl)
  (cW:(xn == ("__debug__" : Str))=ak:=by decide) (he:bo (e :: es) X.env=(ak,eval e X.env) :: bo es X.env:=by rfl) (dc:(c_ pos (bo es X.env)).any (·.1)=ak:=by rfl) :
  Yy X (.Call (.Name xn p) (e :: es) [] pos) (NW C fl ta):=by
 intro pins s σ H Q I h;refine En (Ur I hg T.gC ?_ cW);refine EB (h₀:=X.base) I.ok.mod.kin T.kC (thn (ha.run pos pins s σ H _ I h) λus s1 hh=>?_) he dc;obtain⟨vs,H1,I1,r1,ev,q1⟩:=hh;refine⟨I1.kIn,?_⟩;have iX:=I1.nolimit;have ns:=Yx I1 T.sg;have hl:us.length=fl.length:=by rw[<- r1.length,ev]
 obtain⟨hp,g,dr,tk,os⟩:=s1;show bL _ _ (call (.ref C) us) _ _ _;obtain⟨mA,VN,mk⟩:=Yw (A:=X.A) (R:=λr s'=>∃u,r = .ok (.ret u)/\MkP X pins σ Q u s'/\NX u s') T ip r1 hl (by rw[hl,A4];omega) I1.kIn iX ns (by have:=hr.dp;omega);refine A8 (wc (mk λh' xS e d M=>⟨_,rfl,?_⟩) λr s' ⟨u,er,z⟩=>by subst er;exact z);obtain⟨oe,fv,CL,hc,hd,xa,h1,h5,YA⟩:=M.obj;have kG:=M.ns;obtain⟨G',g1,g2⟩:=restrict h' λb=>decide (b ≠ e);have gk:∀b,b ≠ e->G'.get? b=h'.get? b:=λb hb=>g1 b (bJ hb);have ge:G'.get? e=ai:=g2 e (by simp);have old:∀b o,hp.get? b=ah o->G'.get? b=ah o:=λb o q=>(gk b (tO (cu (Heap.lt_size q) M.new))).trans (M.keep b o q)
 have ob:ObjOk X.prog X.w (upd H1 d (.xd (fl.zip vs).reverse)) G' d (.xd (fl.zip vs).reverse):=
  ⟨_,kG.at (λo q=>(gk d M.kD).trans q),VN⟩
 have J:Inv X pins σ (upd H1 d (.xd (fl.zip vs).reverse)) ⟨G',g,dr,xS,os⟩:=I1.laid (t':=xS) old M.FY ob;refine⟨⟨e,oe,fv,⟨G',g,dr,xS,os⟩,_,.ref C,ah d,rfl,J,λb o q=>?_,ge,CL,⟨hc,hd,λvs e=>by rw[xa]at e;cases e;exact YA⟩,xa,h1,?_,rfl,I1.bare,raises_own T.exC T.tyC,q1 d (I1.hok.fresh M.FY)⟩,λa oa va ea ha NY=>?_⟩
 rotate_left 2
 ·cases ea
  have ha:h'.get? e=ah oa:=ha;rw[CL]at ha;cases ha;rw[xa]at NY;cases NY;exact h5
 ·by_cases hb:b=e
  ·have q':G'.get? b=ah o:=q
   rw[hb,ge]at q';cases q'
  ·exact(gk b hb).symm.trans q
 ·rw[gF (Ne.symm M.kD)]
  exact I1.hok.fresh M.new
theorem YB{e:aN}{es:List aN}{ta:TA}{p pos:Pos}{k:Nat}{xn:Str}{fs fl:List Str}(T:ir X.K X.mg C fI xn fs) (ip:sy X.prog X.w X.K X.mg C fI fl) (CK:fl.length<=100) (hr:Room (k+1) X.A) (ha:PA X (e :: es) ta) (hg:Gl X xn:=by rfl)
  (cW:(xn == ("__debug__" : Str))=ak:=by decide) (he:bo (e :: es) X.env=(ak,eval e X.env) :: bo es X.env:=by rfl) (dc:(c_ pos (bo es X.env)).any (·.1)=ak:=by rfl) :
  PMk X (.Call (.Name xn p) (e :: es) [] pos) (NW C fl ta):=λpins s σ H Q I h=>thn (Yz T ip CK hr ha hg cW he dc pins s σ H Q I h) λ_ _ x=>x.1
def ZZ(c:Nat) (dM:List Nat) (a:AD):SD:=λσ g=>(a σ g).fl σ λws g=>if ws.length=dM.length then .ex c (dM.zip ws).reverse σ g else .bad
theorem NZ{ρ H f n w v}(hn:T.fns[f]? = ah n) (r:RW T ρ H w v):∀{fs:List (Nat×W)}{vs:List (Str×V)},RF T ρ H fs vs->RF T ρ H (fs++[(f,w)]) (vs++[(n,v)])
 |[],_,h=>by
  have h:_=[]:=h;subst h;exact⟨n,v,[],rfl,hn,r,rfl⟩
 |(k,x) :: fs,_,h=>by
  obtain⟨m,u,s,rfl,z,q,b⟩:=h;exact⟨m,u,_,rfl,z,q,NZ hn r b⟩
theorem N0{ρ H}:∀{dM:List Nat}{fl:List Str}{ws:List W}{vs:List V},dM.map (λi=>T.fns[i]?)=fl.map ah->aD T ρ H ws vs->RF T ρ H (dM.zip ws).reverse (fl.zip vs).reverse
 |[],fl,ws,vs,h,r=>by
  have:fl=[]:=by simpa using h.symm
  subst this;exact rfl
 |f :: dM,[],ws,vs,h,r=>by simp at h
 |f :: dM,n :: fl,[],vs,h,r=>by
  have r:vs=[]:=by simpa only[aD] using r
  subst r;exact rfl
 |f :: dM,n :: fl,w :: ws,vs,h,r=>by
  simp only[aD]at r;obtain⟨v,s,rfl,a,b⟩:=r;simp only[c6,Bg.injEq]at h;simp only[UZ,List.reverse_cons];exact NZ h.1 a (N0 h.2 b)
theorem Z0{e:aN}{es:List aN}{cF:AD}{p pos VO:Pos}{k c:Nat}{xn:Str}{fs fl:List Str}{dM:List Nat}(VH:X.calm=aj) (TT:ir X.K X.mg C fI xn fs) (ip:sy X.prog X.w X.K X.mg C fI fl) (hc:T.cls c=ah C) (MQ:dM.map (λi=>T.fns[i]?)=fl.map ah)
  (CK:fl.length<=100) (hr:Room (k+1) X.A) (tk:Takes X Wx) (ha:PA X (e :: es) (LA T Wx cF)) (hg:Gl X xn:=by rfl)
  (cW:(xn == ("__debug__" : Str))=ak:=by decide) (he:bo (e :: es) X.env=(ak,eval e X.env) :: bo es X.env:=by rfl) (dc:(c_ pos (bo es X.env)).any (·.1)=ak:=by rfl) :
  PS X (.Raise (ah (.Call (.Name xn p) (e :: es) [] pos)) ai VO) (LS T Wx (ZZ c dM cF)):=(ps_raise VH tk (YB TT ip CK hr ha hg cW he dc)).imp λD σ H h=>by
 obtain⟨ρ,σw,g,hs,hg,he⟩:=h;refine⟨ρ,σw,g,hs,hg,qZ.fB hs he λws g1 ρ1 H1 vs bt R1 rx ay=>?_⟩;have hlen:dM.length=fl.length:=by simpa using gb wA MQ
 split at ay
 ·rename_i hl
  refine⟨by rw[<- rx.length,hl,hlen],λd hd=>?_⟩;have bE:qj ρ1 H1 ρ1 (upd H1 d (.xd (fl.zip vs).reverse)):=jK hd;exact ay ρ1 _ σ C d _ bE (R1.extra hd) (hs.mono (bt.trans bE) _ _) hc ez ((N0 MQ rx).mono bE _ _)
 ·exact ay.elim
end
end WL
end
section
namespace WL
open PySem PySem.Spec
open L2 hiding Takes XE CX PMk MkP ps_raise ps_try_as ps_try_many passAt passes_call takes_of HdsOk mk_of
open L2N (Takes XE CX PMk MkP ps_raise ps_try_as ps_try_many passAt passes_call takes_of HdsOk mk_of)
open PyProof.Rows hiding St
section
variable{T:Tab}
def Tab.at(T:Tab) (e:k8):Tab:={ T with GG:=ah e }
theorem CM{e:k8}{C:aq}:ng (T.at e) C↔ng T C:=⟨λh=>⟨h.cl,h.na⟩,λh=>⟨h.cl,h.na⟩⟩
theorem CN{e:k8}:∀{fs:List Nat}{vs:List V}{c9:List (Str×V)},rS (T.at e) fs vs c9↔rS T fs vs c9
 |[],[],_=>Iff.rfl
 |f :: fs,v :: vs,c9=>⟨λ⟨a,c⟩=>⟨a,CN.mp c⟩,λ⟨a,c⟩=>⟨a,CN.mpr c⟩⟩
 |[],_ :: _,_=>Iff.rfl
 |_ :: _,[],_=>Iff.rfl
mutual
theorem lr{e:k8}{ρ H}:∀(w:W) (v:V),RW (T.at e) ρ H w v↔RW T ρ H w v
 | .non,v=>by simp only[RW]
 | .bl b,v=>by simp only[RW]
 | .int i,v=>by simp only[RW]
 | .str x,v=>by simp only[RW]
 | .tup ws,v=>by
  simp only[RW];exact⟨λ⟨a,vs,h1,h2,h3⟩=>⟨a,vs,h1,h2,(ki ws vs).mp h3⟩,λ⟨a,vs,h1,h2,h3⟩=>⟨a,vs,h1,h2,(ki ws vs).mpr h3⟩⟩
 | .ref l,v=>by simp only[RW]
 | .ty n,v=>by simp only[RW]
 | .dA,v=>by simp only[RW]
 | .eH ns,v=>by simp only[RW];rfl
 | .fz ws,v=>by
  simp only[RW];exact⟨λ⟨a,o,vs,h1,h2,h3⟩=>⟨a,o,vs,h1,h2,(ki ws vs).mp h3⟩,λ⟨a,o,vs,h1,h2,h3⟩=>⟨a,o,vs,h1,h2,(ki ws vs).mpr h3⟩⟩
 | .eI ks ws,v=>by
  simp only[RW];exact⟨λ⟨a,o,vs,h1,h2,h3,h4,h5⟩=>⟨a,o,vs,h1,h2,h3,h4,(ki ws _).mp h5⟩,λ⟨a,o,vs,h1,h2,h3,h4,h5⟩=>⟨a,o,vs,h1,h2,h3,h4,(ki ws _).mpr h5⟩⟩
 | .obj c fs ws,v=>by
  simp only[RW];exact⟨λ⟨a,C,dx,c9,vs,h1,h2,h3,h4,h5,h6,h7⟩=>⟨a,C,dx,c9,vs,h1,h2,h3,CM.mp h4,h5,CN.mp h6,(ki ws vs).mp h7⟩,λ⟨a,C,dx,c9,vs,h1,h2,h3,h4,h5,h6,h7⟩=>⟨a,C,dx,c9,vs,h1,h2,h3,CM.mpr h4,h5,CN.mpr h6,(ki ws vs).mpr h7⟩⟩
theorem ki{e:k8}{ρ H}:∀(ws:List W) (vs:List V),aD (T.at e) ρ H ws vs↔aD T ρ H ws vs
 |[],vs=>by simp only[aD]
 |w :: ws,vs=>by
  simp only[aD];exact⟨λ⟨v,r,h1,h2,h3⟩=>⟨v,r,h1,(lr w v).mp h2,(ki ws r).mp h3⟩,λ⟨v,r,h1,h2,h3⟩=>⟨v,r,h1,(lr w v).mpr h2,(ki ws r).mpr h3⟩⟩
end
theorem xT{e:k8}{ρ H}:∀(ws:List (Nat×W)) (vs:List (Str×V)),RF (T.at e) ρ H ws vs↔RF T ρ H ws vs
 |[],vs=>Iff.rfl
 |(f,w) :: ws,vs=>
  ⟨λ⟨n,v,r,h0,h1,h2,h3⟩=>⟨n,v,r,h0,h1,(lr w v).mp h2,(xT ws r).mp h3⟩,λ⟨n,v,r,h0,h1,h2,h3⟩=>⟨n,v,r,h0,h1,(lr w v).mpr h2,(xT ws r).mpr h3⟩⟩
theorem pj{κ:Type}{e:k8}{ρ H}:∀(ws:List (κ×W)) (vs:List (κ×V)),RD (T.at e) ρ H ws vs↔RD T ρ H ws vs
 |[],vs=>Iff.rfl
 |(f,w) :: ws,vs=>
  ⟨λ⟨v,r,h0,h2,h3⟩=>⟨v,r,h0,(lr w v).mp h2,(pj ws r).mp h3⟩,λ⟨v,r,h0,h2,h3⟩=>⟨v,r,h0,(lr w v).mpr h2,(pj ws r).mpr h3⟩⟩
theorem uS{e:k8}{ρ H}:∀(ws:Sg) (vs:St),cM (T.at e) ρ H ws vs↔cM T ρ H ws vs
 |[],vs=>Iff.rfl
 |none :: ws,vs=>⟨λ⟨v,r,h0,h3⟩=>⟨v,r,h0,(uS ws r).mp h3⟩,λ⟨v,r,h0,h3⟩=>⟨v,r,h0,(uS ws r).mpr h3⟩⟩
 |some w :: ws,vs=>⟨λ⟨v,r,h0,h2,h3⟩=>⟨v,r,h0,(lr w v).mp h2,(uS ws r).mp h3⟩,λ⟨v,r,h0,h2,h3⟩=>⟨v,r,h0,(lr w v).mpr h2,(uS ws r).mpr h3⟩⟩
theorem N2{e:k8}{ρ H o a}:RO (T.at e) ρ H o a↔RO T ρ H o a:=by
 cases o with
 |lst ws=>exact⟨λ⟨v,h,r⟩=>⟨v,h,(ki _ _).mp r⟩,λ⟨v,h,r⟩=>⟨v,h,(ki _ _).mpr r⟩⟩
 |dK ws=>exact⟨λ⟨v,h,r,n⟩=>⟨v,h,(pj _ _).mp r,n⟩,λ⟨v,h,r,n⟩=>⟨v,h,(pj _ _).mpr r,n⟩⟩
 |dT ws=>exact⟨λ⟨v,h,r,n⟩=>⟨v,h,(pj _ _).mp r,n⟩,λ⟨v,h,r,n⟩=>⟨v,h,(pj _ _).mpr r,n⟩⟩
 |ins c fs=>exact⟨λ⟨C,dx,vs,h1,h2,h3,r,n⟩=>⟨C,dx,vs,h1,CM.mp h2,h3,(xT _ _).mp r,n⟩,λ⟨C,dx,vs,h1,h2,h3,r,n⟩=>⟨C,dx,vs,h1,CM.mpr h2,h3,(xT _ _).mpr r,n⟩⟩
 |gone=>exact Iff.rfl
 |dN ws=>exact⟨λ⟨xs,v,h,r,n,q⟩=>⟨xs,v,h,(pj _ _).mp r,n,Paired.mapP q λ_ _ z=>⟨z.1,⟨(lr _ _).mp z.2.1.1,z.2.1.2⟩,z.2.2⟩⟩,λ⟨xs,v,h,r,n,q⟩=>⟨xs,v,h,(pj _ _).mpr r,n,Paired.mapP q λ_ _ z=>⟨z.1,⟨(lr _ _).mpr z.2.1.1,z.2.1.2⟩,z.2.2⟩⟩⟩
theorem xU{e:k8}{ρ H g}:RG (T.at e) ρ H g↔RG T ρ H g:=⟨λh=>⟨h.nd,h.len,λl o a h1 h2=>N2.mp (h.obj l o a h1 h2),h.tb⟩,λh=>⟨h.nd,h.len,λl o a h1 h2=>N2.mpr (h.obj l o a h1 h2),h.tb⟩⟩
def fE(c:Nat):List (Nat×aw)->au aw
 |[]=>ai
 |(k,b) :: r=>if k=c then ah b else fE c r
def Hw(i:Nat):Fl->Fl
 | .nx σ g=>.nx (σ.set i ai) g
 | .bk σ g=>.bk (σ.set i ai) g
 | .ct σ g=>.ct (σ.set i ai) g
 | .rt w g=>.rt w g
 |_=>.bad
def mz(fF:List (Nat×aw)) (i:Nat) (body:SD) (suite:Nat->List (Nat×W)->SD):SD:=λσ g=>match body σ g with
 | .ex c fs σ' g'=>match fE c fF with
  |some aj=>if i<σ'.length then Hw i (suite c fs (σ'.set i (ah .dA)) g') else .bad
  |some ak=>.ex c fs σ' g'
  |none=>.bad
 |r=>r
abbrev xV:WX:=λ_ _ _ _=>False
def N3(T:Tab) (i:Nat) (suite:Nat->List (Nat×W)->SD):aq->az->au aq->TS:=λa cls d D σ H=>∃C dd c fs,cls = .ref C/\d=ah dd/\T.cls c=ah C/\LS (T.at ⟨a,i,dd,c,fs⟩) xV (suite c fs) D σ H
theorem YC{T:Tab} [jJ T] {Wx:WX}{D:Ends}{ρ H ex i} [Sl T i] {r:Fl}(h:qZ T Wx D ρ H (Hw i r)) :
  qZ (T.at ex) xV { nx:=λσ' H'=>D.nx (σ'.set i ai) H',rt:=D.rt,bk:=λσ' H'=>D.bk (σ'.set i ai) H',ct:=λσ' H'=>D.ct (σ'.set i ai) H' } ρ H r:=by
 have un:∀{ρ' H' σw σ},RS (T.at ex) ρ' H' σw σ->RS T ρ' H' (σw.set i ai) (σ.set i ai):=λh=>⟨((uS _ _).mp h.1).unset i,.nf (ky.set (T:=T) h.2.2)⟩
 cases r with
 |nx σ g=>exact λρ' H' σ2 gr R r=>h ρ' H' _ gr (xU.mp R) (un r)
 |rt w g=>exact λρ' H' v gr R r=>h ρ' H' v gr (xU.mp R) ((lr _ _).mp r)
 |bk σ g=>exact λρ' H' σ2 gr R r=>h ρ' H' _ gr (xU.mp R) (un r)
 |ct σ g=>exact λρ' H' σ2 gr R r=>h ρ' H' _ gr (xU.mp R) (un r)
 |ex c fs σ g=>exact h.elim
 |bad=>exact h.elim
theorem YD{α:Type}{l:List α}{i:Nat}{x:α}(h:i<l.length):(l.set i x)[i]? = ah x:=by simp[h]
section
variable{X:Cx}{Wx:WX}{x n:Str}{c0:az}{i:Nat}{body suite:List bh}{b₀:bh}{np pos pos':Pos}{mb:SD}{ms:Nat->List (Nat×W)->SD}{fF:List (Nat×aw)}
theorem YE [jJ T] [Sl T i] {K:aT}{D σ H}(F5:∀c b C,fE c fF=ah b->T.cls c=ah C->Br K (.ref C) c0=ah b) (h:LS T Wx (mz fF i mb ms) D σ H):LS T (wAs K c0 i (N3 T i ms) Wx D) mb D σ H:=by
 obtain⟨ρ,σw,g,hs,hg,he⟩:=h;refine⟨ρ,σw,g,hs,hg,?_⟩;unfold mz at he
 cases hb:mb σw g with
 |ex c fs σ' g'=>
  rw[hb]at he;dsimp only at he;intro ρ' H' σ2 C d vs gr R rs hc hd hf
  cases hg:fE c fF with
  |none=>rw[hg]at he;exact he.elim
  |some b=>
   rw[hg]at he;refine⟨b,F5 c b C hg hc,λYF a na=>?_,λYG=>?_⟩
   ·subst YF
    dsimp only at he
    split at he
    ·rename_i hi
     refine⟨C,d,c,fs,rfl,rfl,hc,ρ',_,g',⟨(uS _ _).mpr (rs.1.set (w:=.dA) (v:=.ref a) (by simp only[RW]) i),λp hp=>?_,ky.set (T:=T) rs.2.2⟩,xU.mpr R,YC (qZ.base gr he)⟩;cases hp;exact⟨YD (by rw[<- rs.length];exact hi),vs,hd,(xT _ _).mpr hf⟩
    ·exact he.elim
   ·subst YG
    exact he ρ' H' σ2 C d vs gr R rs hc hd hf
 |nx σ g=>rw[hb]at he;exact he
 |rt w g=>rw[hb]at he;exact he
 |bk σ g=>rw[hb]at he;exact he
 |ct σ g=>rw[hb]at he;exact he
 |bad=>rw[hb]at he;exact he.elim
theorem N4 [jJ T] (i:Nat) [Sl T i] (F5:∀c b C,fE c fF=ah b->T.cls c=ah C->Br X.K (.ref C) c0=ah b) (hN:X.N.Nodup) (hc:Names X x c0) (tk:Takes X Wx)
  (hb:∀(W:WX) (pn:List (aq×Obj)) (xe:az->aK->Prop),Takes (X.tr pn xe) W->Lq (model X.prog X.w) X.A X.env xe->PSs (X.tr pn xe) body (LS T W mb))
  (YH:∀(a:aq) (oe:Obj) (C dd:aq) (c:Nat) (fs:List (Nat×W)) (pn:List (aq×Obj)),Zc (.ref C) (ah dd) oe->(∃vs,oe.data = .fields vs)->T.cls c=ah C->PSs (X.suite a ((a,oe) :: pn)) (b₀ :: suite) (LS (T.at ⟨a,i,dd,c,fs⟩) xV (ms c fs)))
  (hs:X.stack=X.env :: X.outer:=by rfl) (hf:X.env.frame=ah X.env.locals:=by rfl) (hi:X.N[i]? = ah n:=by rfl) (N5:X.env.kindOf n=ah .local:=by rfl) :
  PS X (.Try body [.ExceptHandler (ah (.Name x np)) (ah n) (b₀ :: suite) pos'] [] [] pos) (LS T Wx (mz fF i mb ms)):=by
 refine(ps_try_as (tb:=λW=>LS T W mb) (ts:=N3 T i ms) (Wout:=Wx) hs hf hN hi N5 hc tk hb λa oe cls d pn hz YI=>?_).imp λD σ H h=>YE F5 h;refine⟨λpins s σ H D I h=>?_⟩;obtain⟨C,dd,c,fs,rfl,rfl,Hx,h⟩:=h;exact(YH a oe C dd c fs pn hz.zc YI Hx).run pins s σ H D I h
variable{a C dd:aq}{oe:Obj}{pn:List (aq×Obj)}{c:Nat}{fs:List (Nat×W)}
def lz(c:Nat) (ok:List Nat) (f:Nat) (fs:List (Nat×W)):ED:=λσ g=>if ok.contains c then (match ZV f fs with
 |some w=>.ok w g
 |none=>.bad) else .bad
def kH(K:aT) (T:Tab) (nm:Str) (ok:List Nat):Prop:=∀c C,ok.contains c=aj->T.cls c=ah C->bI K (.ref C) nm=ah ai/\XfC K C
theorem kH.nil{K nm}:kH K T nm []:=λc C h=>by simp at h
theorem kH.cons{K nm c ok}(h:∀C,T.cls c=ah C->bI K (.ref C) nm=ah ai/\XfC K C) (r:kH K T nm ok):kH K T nm (c :: ok):=λc' C hc e=>by
 by_cases q:c'=c
 ·subst q;exact h C e
 ·exact r c' C (by simpa [q] using hc) e
theorem uT{ok:List Nat}{f:Nat}{nm:Str}{ep:Pos}(hok:kH X.K T nm ok) (gv:T.cls c=ah C) (hn:T.fns[f]? = ah nm) (hz:Zc (.ref C) (ah dd) oe) (hf:∃vs,oe.data = .fields vs)
  (hi:(X.suite a ((a,oe) :: pn)).N[i]? = ah n:=by rfl) (hv:Vis (X.suite a ((a,oe) :: pn)).env.scope n:=by first|exact Or.inl rfl|exact Or.inr (Or.inl rfl)|exact Or.inr (Or.inr rfl)) (hd:(n == ("__debug__" : Str))=ak:=by decide) (gj:(n == ("__classdict__" : Str))=ak:=by decide)
  (hb:wd (.Name n ep) nm X.env (eval (.Name n ep) X.env)=eval (.Name n ep) X.env:=by rfl) :
  PE (X.suite a ((a,oe) :: pn)) (.Attribute (.Name n ep) nm pos) (LE (T.at ⟨a,i,dd,c,fs⟩) xV (lz c ok f fs)):=by
 cases hc:ok.contains c with
 |false=>
  refine⟨λpins s σ H Q I h=>?_⟩;obtain⟨ρ,σw,g,hs,hg,he⟩:=h;unfold lz at he;rw[hc]at he;exact he.elim
 |true=>
  obtain⟨YJ,xc⟩:=hok c C hc gv
  exact(pe_xf xc YJ hz hf (pe_var hi hv hd gj) hb).imp λσ H Q h=>by
   obtain⟨ρ,σw,g,hs,hg,he⟩:=h;obtain⟨e1,vs,e2,rf⟩:=hs.2.1 _ rfl;refine⟨.ref a,e1,rfl,rfl,dd,vs,?_⟩;unfold lz at he;rw[hc,aG rfl]at he
   cases hw:ZV f fs with
   |none=>rw[hw]at he;exact he.elim
   |some w=>
    rw[hw]at he;obtain⟨v,hv,rv⟩:=rf.lookup (n:=nm) hn hw;exact⟨v,rfl,e2,hv,he ρ H v .refl hg rv⟩
def YK(K:aT) (C a dd:aq):List V->Hp->VK->Prop:=λxs H Q=>∃(c:V) (cv:az) (b:aw) (vs:List (Str×V)),xs=[.ref a,c]/\(∀u,RelV c u->u=cv)/\fg K (.ref C) cv=ah b/\H dd=ah (.xd vs)/\Q (.bl b) H
theorem YL(E:ExcC X.K C) (hz:Zc (.ref C) (ah dd) oe) (hf:∃vs,oe.data = .fields vs):CallR (X.suite a ((a,oe) :: pn)) (.builtin "isinstance") (YK X.K C a dd):=by
 intro pins s σ H xs us Q I r h;obtain⟨c,cv,b,vs,rfl,Hy,e,ed,q⟩:=h
 cases r with
 |cons rx rr=>
  cases rr with
  |cons rt rr=>
   cases rr;cases rx
   have ec:=Hy _ rt;subst ec;obtain⟨FZ,_⟩:=I.pin (a,oe) (iM.mpr (.inl dk));obtain⟨sA,hv⟩:=hf;have hx:ObjOk X.prog X.w H s.heap dd (.xd vs):=I.hok dd _ ed;obtain⟨mA,kG,hr⟩:=hx;obtain⟨od,ho,hl⟩:=lookIn_ns kG;have J:U1 s.heap a oe C (ah od):=⟨FZ,hz.1,by unfold W.notCls;rw[hv] <;> rfl,by rw[hz.2];exact ho⟩
   have gv:(W.clsIn X.K C).isSome=aj:=by
    obtain⟨cd,hc,_⟩:=W.any_some E.hd;rw[hc];rfl
   exact W.kia_one (W.kitx_exc gv E.hg E.hk E.hs E.ha E.hn E.ht E.hm) I.kIn J e (λz=>nomatch z) λtk=>⟨.bl b,H,I.kept (t':=tk) λ_ _ z=>z,rfl,q⟩
def nz(c:Nat) (tab:List (Nat×aw)):ED:=λσ g=>match fE c tab with
 |some b=>.ok (.bl b) g
 |none=>.bad
def mB(K:aT) (T:Tab) (cv:az) (tab:List (Nat×aw)):Prop:=∀c b C,fE c tab=ah b->T.cls c=ah C->ExcC K C/\fg K (.ref C) cv=ah b
theorem mB.nil{K cv}:mB K T cv []:=λc b C h=>by cases h
theorem mB.cons{K cv c b tab}(h:∀C,T.cls c=ah C->ExcC K C/\fg K (.ref C) cv=ah b) (r:mB K T cv tab):mB K T cv ((c,b) :: tab):=λc' b' C hg hc=>by
 simp only[fE]at hg
 split at hg
 ·rename_i e
  subst e;cases hg;exact h C hc
 ·exact r c' b' C hg hc
def sC(K:aT) (T:Tab) (c0:az) (fF:List (Nat×aw)):Prop:=∀c b C,fE c fF=ah b->T.cls c=ah C->Br K (.ref C) c0=ah b
theorem sC.nil{K cv}:sC K T cv []:=λc b C h=>by cases h
theorem sC.cons{K cv c b tab}(h:∀C,T.cls c=ah C->Br K (.ref C) cv=ah b) (r:sC K T cv tab):sC K T cv ((c,b) :: tab):=λc' b' C hg hc=>by
 simp only[fE]at hg
 split at hg
 ·rename_i e
  subst e;cases hg;exact h C hc
 ·exact r c' b' C hg hc
theorem CO{tab:List (Nat×aw)}{ep ip:Pos}{ce:aN}{vc:V}{cv:az}(gv:PE (X.suite a ((a,oe) :: pn)) ce (tC vc)) (Hy:∀u,RelV vc u->u=cv) (hk:mB X.K T cv tab) (Hx:T.cls c=ah C) (hm:X.mg "isinstance" = ai)
  (hz:Zc (.ref C) (ah dd) oe) (hf:∃vs,oe.data = .fields vs)
  (hg:Gl X "isinstance":=by rfl)
  (hi:(X.suite a ((a,oe) :: pn)).N[i]? = ah n:=by rfl) (hv:Vis (X.suite a ((a,oe) :: pn)).env.scope n:=by first|exact Or.inl rfl|exact Or.inr (Or.inl rfl)|exact Or.inr (Or.inr rfl)) (hd:(n == ("__debug__" : Str))=ak:=by decide) (gj:(n == ("__classdict__" : Str))=ak:=by decide)
  (he:bo [.Name n ep,ce] X.env=(ak,eval (.Name n ep) X.env) :: bo [ce] X.env:=by rfl) (bg:bo [ce] X.env=(ak,eval ce X.env) :: bo [] X.env:=by rfl) (dc:(c_ pos (bo [ce] X.env)).any (·.1)=ak:=by rfl) :
  PE (X.suite a ((a,oe) :: pn)) (.Call (.Name "isinstance" ip) [.Name n ep,ce] [] pos) (LE (T.at ⟨a,i,dd,c,fs⟩) xV (nz c tab)):=by
 cases hw:fE c tab with
 |none=>
  refine⟨λpins s σ H Q I h=>?_⟩;obtain⟨ρ,σw,g,hs,hg,he⟩:=h;unfold nz at he;rw[hw]at he;exact he.elim
 |some b=>
  obtain⟨E,YM⟩:=hk c b C hw Hx
  exact(pe_callB (X:=X.suite a ((a,oe) :: pn)) (YL E hz hf) hg hm PyProof.Rows.Boot.«isinstance» (Em (pe_var hi hv hd gj) (Em gv pa_nil bg) he) (by decide) (by decide) he dc).imp λσ H Q h=>by
   obtain⟨ρ,σw,g,hs,hg,he⟩:=h;obtain⟨e1,vs,e2,rf⟩:=hs.2.1 _ rfl;unfold nz at he;rw[hw]at he;exact⟨.ref a,e1,vc,cv,b,vs,rfl,Hy,YM,e2,he ρ H (.bl b) .refl hg (by simp only[bf,RW])⟩
end
end
section
variable{T:Tab} [jJ T] [j2 T]
section
variable{X:Cx}{Wx:WX}{pos:Pos}{e:aN}
def Hz:ED:=λ_ g=>.ok (.ref g.length) (g++[.dT []])
theorem YN:PE X (.Dict [] [] pos) (LE T Wx Hz):=pe_dnewT.imp λσ H Q h=>by
 obtain⟨ρ,σw,g,hs,hg,he⟩:=h;exact λp hp=>he _ _ _ (jP hp) (hg.new (u:=.dT []) hp ⟨[],ez,rfl,by simp⟩) (Qn hg)
end
end
section
variable{T:Tab}
structure N6(K:aT) (C fI:aq) (F:Str):Prop where
 it:bI K (.ref C) "__iter__" = ah (ah (.ref fI))
 itF:kc K (.ref fI)=aj
 fn:∃(qual:Str) (args:A1) (scope:mR) (oc:az) (od:au aq) (kV doc pm aO ct:az) (an:au aq) (b9:dH (au az)) (p1 p2 p3 p4 p5:Pos),
  K.lookup fI=ah ⟨oc,od,.func (gG "__iter__" qual args [.Return (ah (.Call (.Name "iter" p1) [.Attribute (.Name "self" p2) F p3] [] p4)) p5] scope .none kV doc pm an aO ct),b9⟩/\hV K aO qual=aj /\
   scope.names.lookup ("self" : Str)=ah .local/\scope.names.lookup ("iter" : Str)=ah .globalImplicit/\scope.isCoroutine=ak/\scope.isGenerator=ak/\scope.kind = .function /\
   (∀(s:aK) (v:az),Lw s (gG "__iter__" qual args [.Return (ah (.Call (.Name "iter" p1) [.Attribute (.Name "self" p2) F p3] [] p4)) p5] scope .none kV doc pm an aO ct) ⟨[v],[]⟩ [("self",v)])
section
variable{X:Cx}{Wx:WX}{pins:List (aq×Obj)}{σ:St}{H:Hp}{s:aK}{a C dx b fI:aq}{fs:List (Str×V)}{xs:List V}{F:Str}{A:bV}{E:az->aK->Prop}
def HA(c:Nat):List (Nat×Nat)->au Nat
 |[]=>ai
 |(k,b) :: r=>if k=c then ah b else HA c r
def HB(X:Cx) (T:Tab) (tab:List (Nat×Nat)):Prop:=X.mg "iter" = ai/\∀c f C,HA c tab=ah f->T.cls c=ah C->∃F fI,T.fns[f]? = ah F/\N6 X.K C fI F
theorem HB.cons{c f:Nat}{F:Str}{fI:aq}{tab:List (Nat×Nat)}(hf:T.fns[f]? = ah F) (h:∀C,T.cls c=ah C->N6 X.K C fI F) (r:HB X T tab):HB X T ((c,f) :: tab):=⟨r.1,λc' f' C hg hc=>by
 simp only[HA]at hg
 split at hg
 ·rename_i e
  subst e;cases hg;exact⟨F,fI,hf,h C hc⟩
 ·exact r.2 c' f' C hg hc⟩
end
end
section
variable{T:Tab}
section
variable{X:Cx}{Wx:WX}{pins:List (aq×Obj)}{σ:St}{H:Hp}{s:aK}{a C dx b fI:aq}{fs:List (Str×V)}{xs:List V}{F:Str}{A:bV}{E:az->aK->Prop}
def xW(X:Cx) (T:Tab) (nm:Str) (d:qf):Prop:=∀c F C,getD c d=ah F->T.cls c=ah C->∃f k n m,F=zW n m/\bK X.prog X.w X.K X.mg X.base T k f n m/\Room (k+6) X.A /\
 bI X.K (.ref C) nm=ah (ah (.ref f))/\kc X.K (.ref f)=aj/\mS X.K f=aj
theorem xW.nil{nm}:xW X T nm []:=λc F C h=>by cases h
theorem xW.cons{nm c f k n m}{d:qf}(F:bK X.prog X.w X.K X.mg X.base T k f n m) (hr:Room (k+6) X.A) (h:∀C,T.cls c=ah C->bI X.K (.ref C) nm=ah (ah (.ref f))/\kc X.K (.ref f)=aj/\mS X.K f=aj)
  (r:xW X T nm d):xW X T nm ((c,zW n m) :: d):=λc' F' C hg hc=>by
 simp only[getD]at hg
 split at hg
 ·rename_i e
  subst e;cases hg;exact⟨f,k,n,m,rfl,F,hr,h C hc⟩
 ·exact r c' F' C hg hc
end
end
section
variable{T:Tab}
section
variable{X:Cx}{Wx:WX}{pins:List (aq×Obj)}{σ:St}{H:Hp}{s:aK}{a C dx b fI:aq}{fs:List (Str×V)}{xs:List V}{F:Str}{A:bV}{E:az->aK->Prop}{e o:aN}{es:List aN}{ma mo mv:ED}{cF:AD}{pos p:Pos}
def xX(g:G):W->au dG
 | .non=>ah "NoneType"
 | .bl _=>ah "bool"
 | .int _=>ah "int"
 | .str _=>ah "str"
 | .tup _=>ah "tuple"
 | .fz _=>ah "list"
 | .ref l=>match g[l]? with
  |some (.lst _)=>ah "list"
  |some (.dK _)=>ah "dict"
  |some (.dT _)=>ah "dict"
  |_=>ai
 |_=>ai
structure JB where
 bi:List (dG×aw)
 own:List (Nat×aw)
def getT(n:dG):List (dG×aw)->au aw
 |[]=>ai
 |(k,b) :: r=>if k=n then ah b else getT n r
def xY(t:JB) (g:G) (x:W):au aw:=match qP g x with
 |some (_,c,_)=>fE c t.own
 |none=>match xX g x with
  |some n=>getT n t.bi
  |none=>ai
def uU(t:JB) (a:ED):ED:=λσ g=>(a σ g).bind λx g=>match xY t g x with
 |some b=>.ok (.bl b) g
 |none=>.bad
structure YO(K:aT) (C:aq):Prop where
 ha:bI K (.ref C) "__class__" = ah (ah (.builtin "object.__class__"))
 hn:Ex K (.builtin "object.__class__") "__get__" = ah (ah (.builtin "getset_descriptor.__get__"))
 ht:UQ K (.builtin "object.__class__")=ah aj
 hm:kS K C (.type "object")=ah aj
def N7(X:Cx) (T:Tab) (t:JB) (cv:az):Prop:=(∀n b,getT n t.bi=ah b->fg X.K (.type n) cv=ah b)/\∀c b C,fE c t.own=ah b->T.cls c=ah C->YO X.K C/\fg X.K (.ref C) cv=ah b
theorem YQ{ρ g x vx n}(hK:X.K=T.K) (R:RG T ρ H g) (rx:RW T ρ H x vx) (h:xX g x=ah n):TyX X.K H vx (.type n):=by
 cases x with
 |non=>cases uH rx;cases h;exact .base .non
 |bl b=>cases J2 rx;cases h;exact .base (.bl b)
 |int i=>cases jb rx;cases h;exact .base (.int i)
 |str x=>cases ZP rx;cases h;exact .base (.str x)
 |tup ws=>obtain⟨a,vs,rfl,ha,hr⟩:=JK rx;cases h;exact .base (.tup ha)
 |fz ws=>obtain⟨a,o,vs,rfl,ha,hr⟩:=nr rx;cases h;exact .base (.frz ha)
 |ref l=>
  obtain⟨a,ha,rfl⟩:=Qi rx;obtain⟨o,ho,ro⟩:=R.there ha;simp only[xX,ho]at h
  cases o with
  |lst ws=>obtain⟨vs,hv,hr⟩:=ro;cases h;exact .base (.lst hv)
  |dK ws=>obtain⟨vs,hv,hr⟩:=ro;cases h;exact .base (.dK hv)
  |dT ws=>obtain⟨vs,hv,hr⟩:=ro;cases h;exact .base (.dT hv)
  |ins c fs=>cases h
  |gone=>cases h
  |dN ws=>cases h
 |_=>cases h
theorem HC{t:JB}{ip:Pos}{ce:aN}{vc:V}{cv:az}(hK:X.K=T.K) (hk:ClsV vc cv) (ok:N7 X T t cv) (hm:X.mg "isinstance" = ai) (he:PE X e (LE T Wx ma)) (gv:PE X ce (tC vc)) (hg:Gl X "isinstance":=by rfl)
  (hs:bo [e,ce] X.env=(ak,eval e X.env) :: bo [ce] X.env:=by rfl) (cR:bo [ce] X.env=(ak,eval ce X.env) :: bo [] X.env:=by rfl) (dc:(c_ pos (bo [ce] X.env)).any (·.1)=ak:=by rfl) :
  PE X (.Call (.Name "isinstance" ip) [e,ce] [] pos) (LE T Wx (uU t ma)):=
 (pe_callB call_isi hg hm PyProof.Rows.Boot.«isinstance» (Em he (Em gv pa_nil cR) hs) (by decide) (by decide) hs dc).imp λσ H Q h=>by
  obtain⟨ρ,σw,g,hs,hg,he⟩:=h;refine⟨ρ,σw,g,hs,hg,zP.bind he λx g1 ρ1 H1 vx bt R1 rx ay=>?_⟩
  cases hx:xY t g1 x with
  |none=>rw[hx]at ay;exact ay.elim
  |some bb=>
   rw[hx]at ay;have q:Q (.bl bb) H1:=ay ρ1 H1 (.bl bb) .refl R1 eM;unfold xY at hx
   cases hi:qP g1 x with
   |some q'=>
    obtain⟨l,c,fs⟩:=q';rw[hi]at hx;obtain⟨a,C,dx,vs,rfl,hc,cw,hH,rf⟩:=Qs R1 rx hi;obtain⟨i,k⟩:=ok.2 c bb C hx hc;exact⟨.ref a,vc,_,cv,bb,rfl,hk,.base (.ins hH (by rw[hK];exact cw.cl) i.ha i.hn i.ht i.hm),k,q⟩
   |none=>
    rw[hi]at hx;dsimp only at hx
    cases hn:xX g1 x with
    |none=>rw[hn]at hx;cases hx
    |some n=>
     rw[hn]at hx;exact⟨vx,vc,_,cv,bb,rfl,hk,YQ hK R1 rx hn,ok.1 n bb hx,q⟩
def xZ(X:Cx) (T:Tab) (nm:Str) (d:qf):Prop:=∀c F C,getD c d=ah F->T.cls c=ah C->∃p f k n m,F=zW n m/\bK X.prog X.w X.K X.mg X.base T k f n m/\Room (k+1) X.A/\PropOf X.K C nm p f
theorem xZ.nil{nm}:xZ X T nm []:=λc F C h=>by cases h
theorem xZ.cons{nm c p f k n m}{d:qf}(F:bK X.prog X.w X.K X.mg X.base T k f n m) (hr:Room (k+1) X.A) (h:∀C,T.cls c=ah C->PropOf X.K C nm p f) (r:xZ X T nm d):xZ X T nm ((c,zW n m) :: d):=λc' F' C hg hc=>by
 simp only[getD]at hg
 split at hg
 ·rename_i e
  subst e;cases hg;exact⟨p,f,k,n,m,rfl,F,hr,h C hc⟩
 ·exact r c' F' C hg hc
def x_(d:qf) (o v:ED):SD:=λσ g=>(v σ g).fl σ λy g=>(o σ g).fl σ λx g=>match qP g x with
 |some (_,c,_)=>match getD c d with
  |some F=>(F [x,y] g).fl σ λ_ g=>.nx σ g
  |none=>.bad
 |none=>.bad
structure HD(K:aT) (C:aq) (nm:Str) (p f:aq):Prop where
 sa:bI K (.ref C) "__setattr__" = ah (ah (.builtin "object.__setattr__"))
 po:UR K C=aj
 tk:US K C nm=ah (ah (.ref p))
 ty:gI K (.ref p)=ah (.type "property")
 rc:∃a rest,wq K p "property" = ah (a :: .ref f :: rest)
def sD(X:Cx) (T:Tab) (nm:Str) (d:qf):Prop:=∀c F C,getD c d=ah F->T.cls c=ah C->∃p f k n m,F=zW n m/\bK X.prog X.w X.K X.mg X.base T k f n m/\Room (k+2) X.A/\HD X.K C nm p f
theorem sD.nil{nm}:sD X T nm []:=λc F C h=>by cases h
theorem sD.cons{nm c p f k n m}{d:qf}(F:bK X.prog X.w X.K X.mg X.base T k f n m) (hr:Room (k+2) X.A) (h:∀C,T.cls c=ah C->HD X.K C nm p f) (r:sD X T nm d):sD X T nm ((c,zW n m) :: d):=λc' F' C hg hc=>by
 simp only[getD]at hg
 split at hg
 ·rename_i e
  subst e;cases hg;exact⟨p,f,k,n,m,rfl,F,hr,h C hc⟩
 ·exact r c' F' C hg hc
theorem N8{A':bV}{k n:Nat}{f:aq}{m:FN}{Q:VK}{us:List az}{vs:List V}{ρ:List aq}{g:G}{ws:List W}(FF:bK X.prog X.w X.K X.mg X.base T k f n m) (hr:Room k A') (hf:wb X.prog X.w X.K X.mg X.base A' X.stack s H) (tk:Takes X Wx)
  (I:Inv X pins σ H s) (R:RG T ρ H g) (eJ:aD T ρ H ws vs) (rv:n_ vs us) (h:zP (bf T) T Wx σ ρ H Q (zW n m ws g)) :
  Be (model X.prog X.w) A' (.call (.ref f) ⟨us,[]⟩) (λr s'=>match r with| .ok (.ret u)=>EP X pins σ Q u s' | .ok _=>False| .error e=>X.xe e s') s:=by
 obtain⟨fd,ps,F,hb,hn⟩:=FF.ok;unfold zW at h
 split at h
 ·rename_i eu
  have hl:us.length=ps.length:=by rw[<- rv.length,<- eJ.length,eu,hn]
  have b:=hb s us I.kIn (by rw[fR];exact hl);rw[fR]at b;refine wc (F.run A' X.stack s H ⟨us,[]⟩ us vs Q (WE Wx σ) hr hf b rv ⟨ρ,ws,g,R,eJ,eu,h.conv λc d H q=>q⟩) λr s' hq=>?_
  cases r with
  |error e=>exact passAt tk σ pins H s e s' I hq
  |ok fl=>
   cases fl with
   |ret u=>exact I.after hq
   |next=>exact False.elim hq
   |brk=>exact False.elim hq
   |cont=>exact False.elim hq
 ·exact h.elim
theorem qZ.out{Wx:WX}{D:Ends}{ρ H}{σw:Sg}{σ:St}{r:Out W}(hs:RS T ρ H σw σ) (h:qZ T Wx D ρ H (r.fl σw λ_ g=>.nx σw g)):zP (bf T) T Wx σ ρ H (λ_ H'=>D.nx σ H') r:=
 qZ.fB hs h λa g ρ' H' b gr R rr he=>he ρ' H' σ .refl R (hs.mono gr _ _)
theorem YR{nm:Str}{d:qf}{v:aN}{pos':Pos}(hK:X.K=T.K) (tk:Takes X Wx) (hd:sD X T nm d) (ho:PE X o (LE T Wx mo)) (hv:PE X v (LE T Wx mv)) (xP:A6 v (ah (.Attribute o nm pos')) pos.line X.env=pure ak:=by rfl) :
  PS X (.Assign [.Attribute o nm pos'] v pos) (LS T Wx (x_ d mo mv)):=by
 refine⟨λpins s σ H D I h=>?_⟩;obtain⟨ρ,σw,g,hs,hg,he⟩:=h
 refine Ux (thn (hv.run pins s σ H _ I ⟨ρ,σw,g,hs,hg,qZ.fB (Q':=λvy H1=>∃ρ1 y g1,RS T ρ1 H1 σw σ/\RG T ρ1 H1 g1/\RW T ρ1 H1 y vy/\qZ T Wx D ρ1 H1 ((mo σw g1).fl σw λx g=>match qP g x with
  |some (_,c,_)=>match getD c d with
   |some F=>(F [x,y] g).fl σw λ_ g=>.nx σw g
   |none=>.bad
  |none=>.bad)) hs he λy g1 ρ1 H1 vy bt R1 ry ay=>⟨ρ1,y,g1,hs.mono bt _ _,R1,ry,ay⟩⟩) λuy s1 ⟨vy,H1,I1,YS,ρ1,y,g1,eK,R1,ry,ay⟩=>?_) xP
 refine thn (ho.run pins s1 σ H1 _ I1 ⟨ρ1,σw,g1,eK,R1,qZ.fB (Q':=λvx H2=>∃ρ2 x g2,RS T ρ2 H2 σw σ/\RG T ρ2 H2 g2/\RW T ρ2 H2 x vx/\RW T ρ2 H2 y vy/\qZ T Wx D ρ2 H2 (match qP g2 x with
  |some (_,c,_)=>match getD c d with
   |some F=>(F [x,y] g2).fl σw λ_ g=>.nx σw g
   |none=>.bad
  |none=>.bad)) eK ay λx g2 ρ2 H2 vx bE R2 rx bg=>⟨ρ2,x,g2,eK.mono bE _ _,R2,rx,ry.mono bE _ _,bg⟩⟩) λux s2 ⟨vx,H2,I2,YT,ρ2,x,g2,cR,R2,rx,YU,bg⟩=>?_
 cases hx:qP g2 x with
 |none=>rw[hx]at bg;exact bg.elim
 |some q=>
  obtain⟨l,c,fs⟩:=q;rw[hx]at bg;dsimp only at bg;obtain⟨a,C,dx,vs,rfl,h1,cw,hH,rf⟩:=Qs R2 rx hx;obtain rfl:ux=Value.ref a:=YT
  cases hF:getD c d with
  |none=>rw[hF]at bg;exact bg.elim
  |some F=>
   rw[hF]at bg;dsimp only at bg;obtain⟨p,f,k,n,m,rfl,FF,hr,st⟩:=hd c F C hF h1;obtain⟨od,J⟩:=uM I2 hH;obtain⟨mm,fr⟩:=I2.fr;obtain⟨aa,rest,YV⟩:=st.rc;have ev:wb X.prog X.w X.K X.mg X.base X.A.in1.in1 X.stack { s2 with toks:=s2.toks+1 } H2:=(I2.tok (s2.toks+1)).env0.in1.in1;have run:=N8 (A':=X.A.in1.in1) (us:=[.ref a,uy]) (vs:=[.ref a,vy]) (Q:=λ_ H'=>D.nx σ H') FF hr.in1.in1 ev tk (I2.tok (s2.toks+1)) R2 (.cons rx (.cons YU .nil)) (.cons rfl (.cons YS .nil)) (qZ.out cR bg);refine W.set_prop fr I2.ok.mod.kin J st.sa st.po st.tk st.ty YV (wc run λr s' hq=>?_);rcases r with e|(v|_|_|_)
   ·exact hq
   ·exact hq.elim
   ·exact hq.elim
   ·exact hq.elim
   ·obtain⟨z,H3,I3,rz,q⟩:=hq
    exact⟨σ,H3,I3,q⟩
end
end
section
variable{T:Tab}
section
variable{X:Cx}{Wx:WX}{pos:Pos}
theorem bA{p:aq->Prop}{c:Nat}{A:aq}(hc:T.cls c=ah A) (h:p A):∀C,T.cls c=ah C->p C:=λC e=>by rw[hc]at e;cases e;exact h
theorem YW{x:Str}{i:Int}(hm:∃t,X.mg x=ah (.int i t)) (hg:Gl X x:=by rfl) (hd:(x == ("__debug__" : Str))=ak:=by decide):PE X (.Name x pos) (LE T Wx (eC (.int i))):=by
 obtain⟨t,hm⟩:=hm;exact Na (v:=.int i) hm ⟨t,rfl⟩ (λ_ _=>ik) hg hd
theorem N9{x y:Str}(hm:∃t,X.mg x=ah (.str y t)) (hg:Gl X x:=by rfl) (hd:(x == ("__debug__" : Str))=ak:=by decide):PE X (.Name x pos) (LE T Wx (eC (.str y))):=by
 obtain⟨t,hm⟩:=hm;exact Na (v:=.str y) hm ⟨t,rfl⟩ (λ_ _=>rws) hg hd
end
theorem _root_.L2.Room.u1{k:Nat}{A:bV}(r:Room k A):A.units+1<om:=by have:=r.un;omega
theorem _root_.L2.Room.gS{k:Nat}{A:bV}(r:Room k A):A.units+64<om:=by have:=r.un;omega
theorem _root_.L2.Room.nA{k:Nat}{A:bV}(r:Room k A):A.units+65<om:=by have:=r.un;omega
theorem N_{p:dG->aw->Prop}:∀{l:List (dG×aw)},(∀q∈l,p q.1 q.2)->∀n b,getT n l=ah b->p n b
 |[],_,n,b,h=>by cases h
 |(k,c) :: r,ha,n,b,h=>by
  simp only[getT]at h
  split at h
  ·rename_i e
   subst e;cases h;exact ha (k,c) dk
  ·exact N_ (λq hq=>ha q (dy _ hq)) n b h
theorem HE{X:Cx}{t:JB}{B:dG}(ho:t.own=[]) (h:(t.bi.all λq=>decide (kitB q.1 B=ah q.2))=aj):N7 X T t (.type B):=⟨λn b e=>kit_ty (N_ (p:=λn b=>kitB n B=ah b) (λq hq=>dF (Ey.mp h q hq)) n b e),λc b C e=>by rw[ho]at e;cases e⟩
def Z6(K:aT) (x qual:Str) (st:bh) (f:aq) (ps:List Str):Prop:=∃fd,Fun K x qual st f fd/\Binds K fd ps []
theorem ya{K:aT}{x qual:Str}{st:bh}{f:aq}{ps:List Str}{oc:az}{od an:au aq}{b9:dH (au az)}{kV doc pm aO ct:az}(l:K.lookup f=ah ⟨oc,od,.func (gG x qual (cZ st) (cI st) (aU st) .none kV doc pm an aO ct),b9⟩)
  (c:hV K aO qual=aj) (k:iL K (.ref f)=aj) (hb:∀(kV doc pm:az) (an:au aq) (aO ct:az) (us:List az),us.length=ps.length->oq (gG x qual (cZ st) (cI st) (aU st) .none kV doc pm an aO ct) ⟨us,[]⟩=pure (ps.zip us)):Z6 K x qual st f ps:=
 ⟨_,fun_mk l c k,(fun_mk l c k).binds hb⟩
structure sE(P:bO) (w:bS) (K:aT) (mg:Str->au az) (C L:aq) (x:Str) (fl:List Str):Prop where
 t:∃fI,ir K mg C fI x fl/\sy P w K mg C fI fl
 em:Br K (.ref C) (.ref L)=ah aj
 xc:XfC K C
 ec:ExcC K C
theorem pk{K:aT}{C D:aq}{b:aw}(ne:C ≠ D) (hc:(W.clsIn K D).isSome=aj) (ht:gI K (.ref D)=ah (.type "type")) (hs:cb K (.ref C) (.ref D)=ah b):fg K (.ref C) (.ref D)=ah b:=by
 unfold fg;rw[aR (by simpa using ne)];unfold W.kitCls;simp[hc,ht,hs]
theorem Oa{prog:bO}{K:aT}{fI C aX cc:aq}{ps:List Str}{st:bh}{qual file:Str}{oc kV doc pm ct dY cl:az}{od an dZ ee:au aq}{b9 d_ eg:dH (au az)}{vs:dH az}{tf:Tok}{ar:Arg}
  (l1:K.lookup fI=ah ⟨oc,od,.func (LK "__init__" qual (cZ st) (cI st) (aU st) .none kV doc pm an (.ref aX) ct cc),b9⟩) (c1:hV K (.ref aX) qual=aj) (lc:K.lookup aX=ah ⟨dY,dZ,.fields vs,d_⟩) (v2:vs[2]? = ah (.str file tf))
  (iV:((prog.main.file:Str) == file)=aj) (yb:K.lookup cc=ah ⟨cl,ee,.cell (ah (.ref C)),eg⟩) (hp:((cZ st).posonlyargs++(cZ st).args).head? = ah ar) (iU:ar.arg = "self") (fD:(aU st).names.lookup ("super" : Str)=ah .globalImplicit)
  (iu:(aU st).names.lookup ("__class__" : Str)=ah .free) (mx:∀x∈(aU st).names,x.2 ≠ .cell) (eV:(aU st).isCoroutine=ak) (ib:(aU st).isGenerator=ak) (hk:(aU st).kind = .function) (fA:∀p∈ps,(aU st).names.lookup p=ah .local)
  (m8:∀us:List az,us.length=ps.length->oq (LK "__init__" qual (cZ st) (cI st) (aU st) .none kV doc pm an (.ref aX) ct cc) ⟨us,[]⟩=pure (ps.zip us)) (m9:(prog.main.scope.names.lookup ("super" : Str)).isSome=ak):si prog K fI C ps (cI st):=
 ⟨⟨qual,cZ st,aU st,oc,od,kV,doc,pm,an,aX,ct,b9,cc,dY,cl,dZ,ee,vs,d_,eg,file,tf,ar,l1,c1,lc,v2,iV,yb,hp,iU,fD,iu,mx,eV,ib,hk,fA,m8⟩,m9⟩
theorem Ob{K:aT}{mg:Str->au az}{C fI N:aq}{x nm q:Str}{fl:List Str}{bs bm sub:List az}{sn:List Str}{ab:aw}{col:au aw}{dd:au aq}{k0 k1 k2 k3 k5:au az}
  (gC:mg x=ah (.ref C)) (xL:K.lookup C=ah (A2 nm q C N bs bm aj sn sub ab col dd k0 k1 k2 k3 k5 "ValueError.__new__")) (pd:ajw bm=aj) (sa:bI K (.ref C) "__setattr__" = ah (ah (.builtin "object.__setattr__")))
  (ga:bI K (.ref C) "__getattribute__" = ah (ah (.builtin "BaseException.__getattribute__"))) (gg:bI K (.ref C) "__getattr__" = ah ai) (CH:∀n∈fl,bI K (.ref C) n=ah ai) (iC:bI K (.ref C) "__init__" = ah (ah (.ref fI))) (tC:gI K (.ref fI)=ah (.type "function"))
  (kC:iL K (.ref C)=aj) (exC:cb K (.ref C) (.type "BaseException")=ah aj) (se:cb K (.ref C) (.type "ValueError")=ah aj) (tyC:gI K (.ref C)=ah (.type "type")) (hdC:pV K C=aj) (sf:kS K C (.ref C)=ah aj)
  (sup:wt K C C "__init__" = ah (ah (.builtin "ValueError.__init__"))) (sh:pU K Eh "thirdparty.any" = ah ai) (sg:mg "super" = ai):ir K mg C fI x fl:=
 ⟨gC,⟨nm,q,N,bs,bm,sn,sub,ab,col,dd,k0,k1,k2,k3,k5,xL,pd⟩,sa,ga,gg,CH,iC,tC,kC,exC,se,tyC,hdC,sf,sup,sh,sg⟩
theorem HF{α:Type}{p:α->Prop}:∀n∈([]:List α),p n:=λ_ h=>nomatch h
theorem jo{α:Type}{p:α->Prop}{a:α}{l:List α}(h:p a) (r:∀n∈l,p n):∀n∈a :: l,p n:=λn hn=>by
 rcases cJ.mp hn with e|e
 ·rw[e];exact h
 ·exact r n e
def Oc(K:aT) (H:Hp) (a:aq) (ns:List Int):Prop:=(∃o,H a=ah (.frz o (.lst (ns.map V.int)))) \/
 ∃(o:Obj) (du:dH az) (n:Nat),K.lookup a=ah o/\o.cls = .type "list" /\ o.dict=ai/\o.data = .seq du n/\du.size<=kR/\n_ (ns.map V.int) du.toList
def HG(n:Nat) (K:aT):Sp:=λvs H Q _=>∃a ns,vs=[V.ref a]/\ns.length<=n/\Oc K H a ns/\∀H',Q (.bl aj) H'
theorem YX{K:aT}{H:Hp}{a:aq}{ns:List Int}(hO:Only H) (h:SqL K H a (ns.map V.int)):Oc K H a ns:=by
 rcases h with(h|⟨o,h⟩)|⟨o,du,n,h1,h2,h3,h4,h5,h6⟩
 ·rcases hO a with e|⟨o,xs,e⟩
  ·rw[e]at h;cases h
  ·rw[e]at h;cases h
 ·exact .inl ⟨o,h⟩
 ·exact .inr ⟨o,du,n,h1,h2,h3,h4,h5,h6⟩
theorem YY{T:Tab}{H:Hp}(t:NdefX.TabsN T.GJ H):RG T [] H []:=⟨by simp,rfl,λl o a h=>by simp at h,t⟩
theorem YZ{T:Tab} [n:GL T] {H:Hp}:RG T [] H []:=YY λp hp=>by rw[n.no]at hp;cases hp
theorem Y0{P:bO}{w:bS}{K:aT}{mg:Str->au az}{base:bj}{T:Tab} [GL T] {k f n:Nat}{fd:oi}{ps:List Str}{m:FN}(hK:T.K=K) (F:pT P w K mg base (L2N.CX P w) k f fd ps (LF T 1 m)) (hm:∀ns:List Int,ns.length<=n->∃g,m [.eH ns] [] = .ok (.bl aj) g) :
  pT P w K mg base (L2N.CX P w) k f fd ps (HG n K):=F.imp λvs H Q E h=>by
 obtain⟨a,ns,rfl,hl,hs,hq⟩:=h;obtain⟨g,e⟩:=hm ns hl;refine⟨[],[.eH ns],[],YZ,.cons ?_ .nil,rfl,?_⟩
 ·simp only[RW]
  exact⟨a,rfl,by unfold B7;rw[hK];exact hs⟩
 ·rw[e]
  intro ρ' H' b gr R r
  cases J2 r
  exact hq H'
end
section
variable{T:Tab}
section
variable{X:Cx}{Wx:WX}{pos:Pos}{e o:aN}{es:List aN}{ma mo:ED}{cF:AD}
def pq(s:Str):List W:=s.cps.toList.map λc=>.str ⟨#[c]⟩
def CP(a:ED):ID:=λσ g=>(a σ g).bind λx g=>match x with
 | .str s=>.ok ⟨pq s,ai⟩ g
 |_=>.bad
theorem Y1{ρ0 H0}{s:Str}:ni T ρ0 H0 ⟨pq s,ai⟩ (Its s):=by
 refine⟨λρ H g i gr R st hi=>?_,λρ H g i w gr R st hi=>?_,λρ H g i w x H' gr R st hi y=>?_⟩
 ·show s.cps.size<=i
  simpa [pq] using hi
 ·have:=(bP.mp hi).1
  show i<s.cps.size;simpa [pq] using this
 ·obtain⟨rfl,c,hc,rfl⟩:=y
  have:w = .str ⟨#[c]⟩:=by
   have uV:((s.cps.toList)[i]?).map (λc=>W.str ⟨#[c]⟩)=ah w:=by simpa [pq] using hi
   rw[Array.getElem?_toList,hc]at uV;exact(kb.inj uV).symm
  subst this;exact⟨ρ,.refl,R,rws⟩
theorem Y2{tg:aN}(h:PE X e (LE T Wx ma)):PI X tg e (LI T Wx (CP ma)):=(pi_str h).imp λσ H R h=>by
 obtain⟨ρ,σw,g,hs,hg,he⟩:=h;refine⟨ρ,σw,g,hs,hg,zP.bind he λx g1 ρ1 H1 vx bt R1 rx ay=>?_⟩
 cases x with
 |str s=>cases ZP rx;exact⟨s,rfl,ay ρ1 H1 _ .refl R1 Y1⟩
 |_=>exact ay.elim
def sF(K:aT) (T:Tab) (nm:Str) (cs:List (Nat×W)):Prop:=∀c C w,ZV c cs=ah w->T.cls c=ah C->∃v u,Con K C nm v u/\∀ρ H,RW T ρ H w v
theorem sF.nil{K nm}:sF K T nm []:=λc C w h=>by cases h
theorem sF.MD{K nm}{c:Nat}{i:Int}{cs:List (Nat×W)}(h:∀C,T.cls c=ah C->∃t,Con K C nm (.int i) (.int i t)) (r:sF K T nm cs):sF K T nm ((c,.int i) :: cs):=λc' C w hg hc=>by
 simp only[ZV]at hg
 split at hg
 ·rename_i e
  subst e;cases hg;obtain⟨t,k⟩:=h C hc;exact⟨_,_,k,λ_ _=>ik⟩
 ·exact r c' C w hg hc
abbrev HH(K:aT) (C f:aq):Prop:=StX.CallO K C f
def yc:W->aw
 | .ref _=>aj
 | .obj _ _ _=>aj
 |_=>ak
def yd(d:qf) (a:AD) (σ:Sg) (x:W) (g:G):Out W:=(a σ g).bind λws g=>match qP g x with
 |some (_,c,_)=>match getD c d with
  |some F=>F (x :: ws) g
  |none=>.bad
 |none=>.bad
def HI(d:qf) (o:ED) (a:AD):ED:=λσ g=>(o σ g).bind λx g=>match yc x with
 |true=>yd d a σ x g
 |false=>.bad
def sG(X:Cx) (T:Tab) (d:qf):Prop:=∀c F C,getD c d=ah F->T.cls c=ah C->∃f k n m,F=zW n m/\bK X.prog X.w X.K X.mg X.base T k f n m/\Room k X.A/\HH X.K C f
theorem sG.nil:sG X T []:=λc F C h=>by cases h
theorem sG.cons{c f k n m}{d:qf}(F:bK X.prog X.w X.K X.mg X.base T k f n m) (hr:Room k X.A) (h:∀C,T.cls c=ah C->HH X.K C f) (r:sG X T d):sG X T ((c,zW n m) :: d):=λc' F' C hg hc=>by
 simp only[getD]at hg
 split at hg
 ·rename_i e
  subst e;cases hg;exact⟨f,k,n,m,rfl,F,hr,h C hc⟩
 ·exact r c' F' C hg hc
theorem Y3{d:qf}(hK:X.K=T.K) (tk:Takes X Wx) (hd:sG X T d) (ho:PE X o (LE T Wx mo)) (ha:PA X (e :: es) (LA T Wx cF))
  (ht:eval (.Call o (e :: es) [] pos) X.env=(do we pos (<- eval o X.env) [] (c_ pos (bo (e :: es) X.env)) (tH pos (tI [] X.env))):=by rfl)
  (dB:bo (e :: es) X.env=(ak,eval e X.env) :: bo es X.env:=by rfl) (dc:(c_ pos (bo es X.env)).any (·.1)=ak:=by rfl):PE X (.Call o (e :: es) [] pos) (LE T Wx (HI d mo cF)):=by
 refine⟨λpins s σ H Q I h=>?_⟩;obtain⟨ρ,σw,g,hs,hg,hh⟩:=h
 refine Call_ (thn (ho.run pins s σ H _ I ⟨ρ,σw,g,hs,hg,zP.bind (Q':=λvx H1=>∃ρ1 x g1,RS T ρ1 H1 σw σ/\RG T ρ1 H1 g1/\RW T ρ1 H1 x vx/\yc x=aj/\zP (bf T) T Wx σ ρ1 H1 Q (yd d cF σw x g1)) hh λx g1 ρ1 H1 vx bt R1 rx ay=>⟨ρ1,x,g1,hs.mono bt _ _,R1,rx,by
  cases hi:yc x with
  |true=>rfl
  |false=>rw[hi]at ay;exact ay.elim,by
  cases hi:yc x with
  |true=>rw[hi]at ay;exact ay
  |false=>rw[hi]at ay;exact ay.elim⟩⟩) λu s1 ⟨vx,H1,I1,r1,ρ1,x,g1,eK,R1,rx,Y4,ay⟩=>?_) ht
 have core:∀(x:W) (a:aq),u=Value.ref a->RW T ρ1 H1 x (.ref a)->zP (bf T) T Wx σ ρ1 H1 Q (yd d cF σw x g1)->bL (model X.prog X.w) X.A (we pos u [] (c_ pos (bo (e :: es) X.env)) (tH pos (tI [] X.env))) (EP X pins σ Q) X.xe s1:=by
  intro x a hu rx he;subst hu
  have fin:=zP.bind (rel':=Ca T) (Q':=λvs H2=>∃ρ2 xs g2,RG T ρ2 H2 g2/\RW T ρ2 H2 x (.ref a)/\aD T ρ2 H2 xs vs/\zP (bf T) T Wx σ ρ2 H2 Q (match qP g2 x with
   |some (_,c,_)=>match getD c d with
    |some F=>F (x :: xs) g2
    |none=>.bad
   |none=>.bad)) he λxs g2 ρ2 H2 vs bE R2 gN bg=>⟨ρ2,xs,g2,R2,rx.mono bE _ _,gN,bg⟩
  have args:=ha.run pos pins s1 σ H1 _ I1 ⟨ρ1,σw,g1,eK,R1,fin⟩;refine StX.callO_with (thn args λus s2 ⟨vs,H2,I2,r2,ρ2,xs,g2,R2,kz,gN,bg⟩=>?_) dB dc
  cases hx:qP g2 x with
  |none=>rw[hx]at bg;exact bg.elim
  |some q=>
   obtain⟨l',c,fs⟩:=q;rw[hx]at bg;dsimp only at bg;obtain⟨a',C,dx,G7,e2,h1,cw,hH,rf⟩:=Qs R2 kz hx;cases e2
   cases hF:getD c d with
   |none=>rw[hF]at bg;exact bg.elim
   |some F=>
    rw[hF]at bg;dsimp only at bg;obtain⟨f,k,n,m,rfl,FF,hr,cc⟩:=hd c F C hF h1;obtain⟨od,J⟩:=uM I2 hH;refine⟨⟨C,_,_,J,rfl⟩,?_⟩;show bL _ _ (call (.ref a) us) _ _ _;have run:=N8 (A':=X.A) (us:=.ref a :: us) (vs:=.ref a :: vs) FF hr I2.env0 tk I2 R2 (.cons kz gN) (.cons rfl r2) bg;refine A8 (W.kco_code I2.kIn J rfl cc.at_ cc.fn cc.fi (wc run λr s' hq=>?_));rcases r with e|(v|_|_|_)
    ·exact hq
    ·exact hq.elim
    ·exact hq.elim
    ·exact hq.elim
    ·exact hq
 cases x with
 |ref l=>
  obtain⟨a,_,rfl⟩:=Qi rx;exact core _ a r1 rx ay
 |obj c fs us=>
  have Od:=rx;simp only[RW]at Od;obtain⟨a,_,_,_,_,rfl,_⟩:=Od;exact core _ a r1 rx ay
 |_=>cases Y4
end
end
end WL
end
section
namespace WL
open PySem PySem.Spec
open L2 hiding Takes XE CX PMk MkP ps_raise ps_try_as ps_try_many passAt passes_call takes_of HdsOk mk_of
open L2N (Takes XE CX PMk MkP ps_raise ps_try_as ps_try_many passAt passes_call takes_of HdsOk mk_of)
open PyProof.Rows hiding St
variable{T:Tab}
section
variable{P:bO}{w:bS}{K:aT}{mg:Str->au az}{base:bj}
theorem Y5 [jJ T] [j2 T] {x qual:Str}{st:bh}{f:aq}{fd:oi}{N ps:List Str}{k n:Nat}{body:SD}(F:Fun K x qual st f fd) (S:Lr N ps (aU st)) (hn:ps.length=n)
  (rq:∀(aO:az) (A:bV) (outer:List Env) (s:aK) (H:Hp) (E:XK),Room k (A.deeper (iK qual (aU st) s.heap.objs.size f aO)) ->
   PSs (A7 (L2N.CX P w) P w K mg base N qual (aU st) f aO A outer s H E) (cI st) (LS T (λcls d _ H=>E cls d H) body)):pT P w K mg base (L2N.CX P w) (k+1) f fd ps (LF T n (fnW N.length body)):=by
 refine Ni F S (λvs H Q E h=>by rw[hn];exact LF.len _ _ _ _ h) λaO A outer s H vs Q E hr h=>⟨_,rq aO A outer s H E hr,?_⟩
 obtain⟨ρ,ws,g,R,r,e,he⟩:=h;refine⟨ρ,Zo N.length ws,g,G6 r,R,?_⟩;unfold fnW at he
 cases hb:body (Zo N.length ws) g with
 |nx σ g=>rw[hb]at he;exact λρ' H' σ' gr R' r'=>he ρ' H' .non gr R' (by simp only[bf,RW])
 |rt w g=>rw[hb]at he;exact he
 |bk σ g=>rw[hb]at he;exact he.elim
 |ct σ g=>rw[hb]at he;exact he.elim
 |ex c fs σ g=>rw[hb]at he;exact λρ' H' σ' C d vs gr R' r'=>he ρ' H' C d vs gr R'
 |bad=>rw[hb]at he;exact he.elim
end
section
open PySem.W
variable{P:bO}{w:bS}{K:tK}{mg:Str->au az}{h:bj}{C L fI N aX cc:aq}{x f1 f2 nm q qual file:Str}{bs sub:List az}{sn:List Str}{ab:aw}{col:au aw}{dd:au aq}{k0 k1 k2 k3 k5:au az}{oc kV doc pm ct dY cl:az}{od an dZ ee:au aq}{b9 d_ eg:dH (au az)}{vs:dH az}{tf:Tok}{ar:Arg}{st:bh}
 {q0 q1 q2 q3 q4 q5 a1 a2 a3 a4 b1 b2 b3 b4:Pos}{j:Nat}{msg:Str}
theorem CQ(X:K.In h) (G:h.Ns eP mg) (aC:wm K eP x=ah (ah (.ref C))) (xL:K.lookup C=ah (A2 nm q C N bs (.ref L :: [.type "ValueError",.type "Exception",.type "BaseException",.type "object"]) aj sn sub ab col dd k0 k1 k2 k3 k5 "ValueError.__new__"))
  (sa:dI K (.ref C) "__setattr__" = ah (ah (.builtin "object.__setattr__"))) (ga:dI K (.ref C) "__getattribute__" = ah (ah (.builtin "BaseException.__getattribute__"))) (gg:dI K (.ref C) "__getattr__" = ah ai) (n1:dI K (.ref C) f1=ah ai)
  (iC:dI K (.ref C) "__init__" = ah (ah (.ref fI))) (tC:tL K (.ref fI)=ah (.type "function")) (kC:keepIn K (.ref C)=aj) (exC:oo K (.ref C) (.type "BaseException")=ah aj) (se:oo K (.ref C) (.type "ValueError")=ah aj) (tyC:tL K (.ref C)=ah (.type "type"))
  (hdC:Es K C=aj) (sf:Et K C (.ref C)=ah aj) (sup:Eu K C C "__init__" = ah (ah (.builtin "ValueError.__init__"))) (sh:wm K Eh "thirdparty.any" = ah ai) (sg:wm K eP "super" = ah ai)
  (l1:K.lookup fI=ah ⟨oc,od,.func (Bc "__init__" qual (cZ st) (cI st) (aU st) .none kV doc pm an (.ref aX) ct cc),b9⟩) (c1:codeIn K (.ref aX) qual=aj) (lc:K.lookup aX=ah ⟨dY,dZ,.fields vs,d_⟩) (v2:vs[2]? = ah (.str file tf))
  (yb:K.lookup cc=ah ⟨cl,ee,.cell (ah (.ref C)),eg⟩) (sL:oo K (.ref C) (.ref L)=ah aj) (HJ:oo K (.ref L) (.type "BaseException")=ah aj) (CS:Es K L=aj) (HK:tL K (.ref L)=ah (.type "type"))
  (ha:dI K (.ref C) "__class__" = ah (ah (.builtin "object.__class__"))) (hn:specialIn K (.builtin "object.__class__") "__get__" = ah (ah (.builtin "getset_descriptor.__get__"))) (ht:takesIn K (.builtin "object.__class__")=ah aj) (hm:Et K C (.type "object")=ah aj)
  (hb:cI st=[o8 q0 q1 q2 q3 q4 q5 j msg,mw f1 a1 a2 a3 a4]) (iV:((P.main.file:Str) == file)=aj) (hp:((cZ st).posonlyargs++(cZ st).args).head? = ah ar) (iU:ar.arg = "self") (fD:(aU st).names.lookup ("super" : Str)=ah .globalImplicit)
  (iu:(aU st).names.lookup ("__class__" : Str)=ah .free) (mx:∀x∈(aU st).names,x.2 ≠ .cell) (eV:(aU st).isCoroutine=ak) (ib:(aU st).isGenerator=ak) (hk:(aU st).kind = .function) (fA:∀p∈(["self",f1]:List Str),(aU st).names.lookup p=ah .local)
  (m8:∀us:List az,us.length=(["self",f1]:List Str).length->oq (Bc "__init__" qual (cZ st) (cI st) (aU st) .none kV doc pm an (.ref aX) ct cc) ⟨us,[]⟩=pure ((["self",f1]:List Str).zip us)) (m9:(P.main.scope.names.lookup ("super" : Str)).isSome=ak)
  (fZ:f1 ≠ "self") (cW:(f1 == ("__debug__" : Str))=ak) (eU:∀qx scope L aX cc,scope.names.lookup ("super" : Str)=ah NameKind.globalImplicit->∃pl,o9 q0 q1 q2 q3 q4 j msg (dS qx scope L fI (.ref aX) cc) pl):sE P w K mg C L x [f1]:=by
 have TT:ir K mg C fI x [f1]:=Ob (mg_of X G aC) xL rfl sa ga gg (jo n1 HF) iC tC kC exC se tyC hdC sf sup sh (mg_none_of X G sg);have FF:si P K fI C ["self",f1] (cI st):=Oa l1 c1 lc v2 iV yb hp iU fD iu mx eV ib hk fA m8 m9
 rw[hb]at FF;exact⟨⟨fI,TT,Yt TT (by simp) FF fZ cW eU⟩,exm_ref HJ CS HK sL,⟨ga,gg,exC,hdC⟩,⟨ga,gg,exC,hdC,ha,hn,ht,hm⟩⟩
theorem Y6(X:K.In h) (G:h.Ns eP mg) (aC:wm K eP x=ah (ah (.ref C))) (xL:K.lookup C=ah (A2 nm q C N bs (.ref L :: [.type "ValueError",.type "Exception",.type "BaseException",.type "object"]) aj sn sub ab col dd k0 k1 k2 k3 k5 "ValueError.__new__"))
  (sa:dI K (.ref C) "__setattr__" = ah (ah (.builtin "object.__setattr__"))) (ga:dI K (.ref C) "__getattribute__" = ah (ah (.builtin "BaseException.__getattribute__"))) (gg:dI K (.ref C) "__getattr__" = ah ai) (n1:dI K (.ref C) f1=ah ai) (n2:dI K (.ref C) f2=ah ai)
  (iC:dI K (.ref C) "__init__" = ah (ah (.ref fI))) (tC:tL K (.ref fI)=ah (.type "function")) (kC:keepIn K (.ref C)=aj) (exC:oo K (.ref C) (.type "BaseException")=ah aj) (se:oo K (.ref C) (.type "ValueError")=ah aj) (tyC:tL K (.ref C)=ah (.type "type"))
  (hdC:Es K C=aj) (sf:Et K C (.ref C)=ah aj) (sup:Eu K C C "__init__" = ah (ah (.builtin "ValueError.__init__"))) (sh:wm K Eh "thirdparty.any" = ah ai) (sg:wm K eP "super" = ah ai)
  (l1:K.lookup fI=ah ⟨oc,od,.func (Bc "__init__" qual (cZ st) (cI st) (aU st) .none kV doc pm an (.ref aX) ct cc),b9⟩) (c1:codeIn K (.ref aX) qual=aj) (lc:K.lookup aX=ah ⟨dY,dZ,.fields vs,d_⟩) (v2:vs[2]? = ah (.str file tf))
  (yb:K.lookup cc=ah ⟨cl,ee,.cell (ah (.ref C)),eg⟩) (sL:oo K (.ref C) (.ref L)=ah aj) (HJ:oo K (.ref L) (.type "BaseException")=ah aj) (CS:Es K L=aj) (HK:tL K (.ref L)=ah (.type "type"))
  (ha:dI K (.ref C) "__class__" = ah (ah (.builtin "object.__class__"))) (hn:specialIn K (.builtin "object.__class__") "__get__" = ah (ah (.builtin "getset_descriptor.__get__"))) (ht:takesIn K (.builtin "object.__class__")=ah aj) (hm:Et K C (.type "object")=ah aj)
  (hb:cI st=[o8 q0 q1 q2 q3 q4 q5 j msg,mw f1 a1 a2 a3 a4,mw f2 b1 b2 b3 b4]) (iV:((P.main.file:Str) == file)=aj) (hp:((cZ st).posonlyargs++(cZ st).args).head? = ah ar) (iU:ar.arg = "self") (fD:(aU st).names.lookup ("super" : Str)=ah .globalImplicit)
  (iu:(aU st).names.lookup ("__class__" : Str)=ah .free) (mx:∀x∈(aU st).names,x.2 ≠ .cell) (eV:(aU st).isCoroutine=ak) (ib:(aU st).isGenerator=ak) (hk:(aU st).kind = .function) (fA:∀p∈(["self",f1,f2]:List Str),(aU st).names.lookup p=ah .local)
  (m8:∀us:List az,us.length=(["self",f1,f2]:List Str).length->oq (Bc "__init__" qual (cZ st) (cI st) (aU st) .none kV doc pm an (.ref aX) ct cc) ⟨us,[]⟩=pure ((["self",f1,f2]:List Str).zip us)) (m9:(P.main.scope.names.lookup ("super" : Str)).isSome=ak)
  (fZ:f1 ≠ "self") (w6:f2 ≠ "self") (xR:f1 ≠ f2) (cW:(f1 == ("__debug__" : Str))=ak) (w_:(f2 == ("__debug__" : Str))=ak) (eU:∀qx scope L aX cc,scope.names.lookup ("super" : Str)=ah NameKind.globalImplicit->∃pl,o9 q0 q1 q2 q3 q4 j msg (dS qx scope L fI (.ref aX) cc) pl):sE P w K mg C L x [f1,f2]:=by
 have TT:ir K mg C fI x [f1,f2]:=Ob (mg_of X G aC) xL rfl sa ga gg (jo n1 (jo n2 HF)) iC tC kC exC se tyC hdC sf sup sh (mg_none_of X G sg);have FF:si P K fI C ["self",f1,f2] (cI st):=Oa l1 c1 lc v2 iV yb hp iU fD iu mx eV ib hk fA m8 m9
 rw[hb]at FF;exact⟨⟨fI,TT,Yu TT (by simp) (by simp) FF fZ w6 xR cW w_ eU⟩,exm_ref HJ CS HK sL,⟨ga,gg,exC,hdC⟩,⟨ga,gg,exC,hdC,ha,hn,ht,hm⟩⟩
end
theorem Oe{K:aT}{v:az}:fg K v v=ah aj:=by
 unfold fg;simp
end WL
end
section
namespace WL
open PySem PySem.Spec PySem.W
open L2 hiding Takes XE CX PMk MkP ps_raise ps_try_as ps_try_many passAt passes_call takes_of HdsOk mk_of
open L2N (Takes XE CX PMk MkP ps_raise ps_try_as ps_try_many passAt passes_call takes_of HdsOk mk_of)
open PyProof.Rows hiding St
open Builtin Builtin.Str Builtin.Int
abbrev Y7:Str:=⟨#[60,56]⟩
theorem Of:Float.parseFormatSpec Y7.cps.toList "str" 60 = .ok ⟨32,60,ai,ak,ak,ah 8,ai,ai,ai⟩:=by rfl
end WL
end
section
namespace WL
open PySem PySem.Spec PySem.W
open L2 hiding Takes XE CX PMk MkP ps_raise ps_try_as ps_try_many passAt passes_call takes_of HdsOk mk_of
open L2N (Takes XE CX PMk MkP ps_raise ps_try_as ps_try_many passAt passes_call takes_of HdsOk mk_of)
open PyProof.Rows hiding St
variable{T:Tab}{X:Cx}{Wx:WX}{pos:Pos}{e a b:aN}{ma mb:ED}{rest:List aN}
end WL
end
section
set_option maxHeartbeats 2000000
namespace WL
open PySem PySem.Spec
open L2 hiding Takes XE CX PMk MkP ps_raise ps_try_as ps_try_many passAt passes_call takes_of HdsOk mk_of
open L2N (Takes XE CX PMk MkP ps_raise ps_try_as ps_try_many passAt passes_call takes_of HdsOk mk_of)
open PyProof.Rows hiding St
section
section
variable{kx vx t0 i0 t1 i1:aN}{akN akO:List aN}{scope:mR}{pos:Pos}{it acc:az}{D:aq}{env:Env}
variable{prog:bO}{w:bS}{A:bV}{R:wo->aK->Prop}{s:aK}
end
end
section
section
variable{X:Cx}
end
end
end WL
end
section
namespace WL
open PySem PySem.Spec
open L2 hiding Takes XE CX PMk MkP ps_raise ps_try_as ps_try_many passAt passes_call takes_of HdsOk mk_of
open L2N (Takes XE CX PMk MkP ps_raise ps_try_as ps_try_many passAt passes_call takes_of HdsOk mk_of)
open PyProof.Rows hiding St
section
variable{T:Tab} [jJ T] [j2 T]
section
variable{X:Cx}{Wx:WX}{pos:Pos}{e:aN}
end
end
section
variable{T:Tab} [jJ T] [j2 T]
section
variable{X:Cx}{Wx:WX}{pos:Pos}
end
end
section
variable{T:Tab} [jJ T] [j2 T]
section
variable{X:Cx}{Wx:WX}{pos:Pos}
omit [j2 T] in
end
end
section
variable{T:Tab} [jJ T] [j2 T] {X:Cx}{Wx:WX}
end
section
variable{T:Tab} [jJ T] [j2 T]
section
variable{X:Cx}{Wx:WX}{pos:Pos}
end
end
section
variable{T:Tab} [jJ T] [j2 T]
section
variable{X:Cx}{Wx:WX}{pos:Pos}
end
end
section
variable{T:Tab} [jJ T] [j2 T]
section
variable{X:Cx}{Wx:WX}{pos:Pos}
end
end
section
variable{T:Tab}{X:Cx}{Wx:WX}{pos:Pos}{a:aN}{ma:ED}
end
section
variable{T:Tab} [jJ T] [j2 T] {X:Cx}{Wx:WX}
end
end WL
end
section
namespace WL
open PySem PySem.Spec
open L2 hiding Takes XE CX PMk MkP ps_raise ps_try_as ps_try_many passAt passes_call takes_of HdsOk mk_of
open L2N (Takes XE CX PMk MkP ps_raise ps_try_as ps_try_many passAt passes_call takes_of HdsOk mk_of)
open PyProof.Rows hiding St
variable{T:Tab}
section
variable{X:Cx}{Wx:WX}{pos:Pos}{tg:aN}{iter:aN}{body orelse:List bh}{i:ID}{t:GD}{b uW:SD}
end
section
variable{X:Cx}{pos:Pos}{body:List bh}{b:SD}
end
section
variable{X:Cx}{Wx:WX}{o:aN}{f:Str}{pos:Pos}{to:TE}{mo:ED}
end
end WL
end
section
namespace WL
open PySem PySem.Spec
open L2 hiding Takes XE CX PMk MkP ps_raise ps_try_as ps_try_many passAt passes_call takes_of HdsOk mk_of
open L2N (Takes XE CX PMk MkP ps_raise ps_try_as ps_try_many passAt passes_call takes_of HdsOk mk_of)
open PyProof.Rows hiding St
section
variable{T:Tab}{X:Cx}{Wx:WX}
end
end WL
end
section
namespace WL
open PySem PySem.Spec
open L2 hiding Takes XE CX PMk MkP ps_raise ps_try_as ps_try_many passAt passes_call takes_of HdsOk mk_of
open L2N (Takes XE CX PMk MkP ps_raise ps_try_as ps_try_many passAt passes_call takes_of HdsOk mk_of)
open PyProof.Rows hiding St
variable{T:Tab}
section
variable{P:bO}{w:bS}{K:aT}{mg:Str->au az}{base:bj}
end
section
variable{X:Cx}{Wx:WX}{k:Nat}{f C:aq}{m:FN}{e:aN}{ma:ED}{pos p sp_:Pos}
end
end WL
end
section
namespace WL
open PySem PySem.Spec
open L2 hiding Takes XE CX PMk MkP ps_raise ps_try_as ps_try_many passAt passes_call takes_of HdsOk mk_of
open L2N (Takes XE CX PMk MkP ps_raise ps_try_as ps_try_many passAt passes_call takes_of HdsOk mk_of)
open PyProof.Rows hiding St
section
variable{T:Tab}{X:Cx}{Wx:WX}
def yf(X:Cx) (T:Tab) (nm:Str) (d:qf):Prop:=∀c F C,getD c d=ah F->T.cls c=ah C->∃f k n m,F=zW n m/\bK X.prog X.w X.K X.mg X.base T k f n m/\Room (k+6) X.A /\
 bI X.K (.ref C) nm=ah (ah (.ref f))/\kc X.K (.ref f)=aj/\EG X.K C=aj
theorem yf.nil{nm}:yf X T nm []:=λc F C h=>by cases h
theorem yf.cons{nm c f k n m}{d:qf}(F:bK X.prog X.w X.K X.mg X.base T k f n m) (hr:Room (k+6) X.A) (h:∀C,T.cls c=ah C->bI X.K (.ref C) nm=ah (ah (.ref f))/\kc X.K (.ref f)=aj/\EG X.K C=aj)
  (r:yf X T nm d):yf X T nm ((c,zW n m) :: d):=λc' F' C hg hc=>by
 simp only[getD]at hg
 split at hg
 ·rename_i e
  subst e;cases hg;exact⟨f,k,n,m,rfl,F,hr,h C hc⟩
 ·exact r c' F' C hg hc
end
section
section
variable{T:Tab}{X:Cx}{Wx:WX}
end
end
end WL
end
section
namespace WL
open PySem PySem.Spec
open L2 hiding Takes XE CX PMk MkP ps_raise ps_try_as ps_try_many passAt passes_call takes_of HdsOk mk_of
open L2N (Takes XE CX PMk MkP ps_raise ps_try_as ps_try_many passAt passes_call takes_of HdsOk mk_of)
open PyProof.Rows hiding St
variable{T:Tab}
section
variable{X:Cx}{Wx:WX}{pins:List (aq×Obj)}{σ:St}{H:Hp}{s:aK}{a C dx b fI:aq}{fs:List (Str×V)}{xs:List V}{F:Str}{A:bV}{E:az->aK->Prop}
end
section
variable{X:Cx}{Wx:WX}
end
end WL
end
section
namespace WL
open PySem PySem.Spec
open L2 hiding Takes XE CX PMk MkP ps_raise ps_try_as ps_try_many passAt passes_call takes_of HdsOk mk_of
open L2N (Takes XE CX PMk MkP ps_raise ps_try_as ps_try_many passAt passes_call takes_of HdsOk mk_of)
open PyProof.Rows hiding St
variable{T:Tab}{X:Cx}{Wx:WX}
end WL
end
section
namespace WL
open PySem PySem.Spec
open L2 hiding Takes XE CX PMk MkP ps_raise ps_try_as ps_try_many passAt passes_call takes_of HdsOk mk_of
open L2N (Takes XE CX PMk MkP ps_raise ps_try_as ps_try_many passAt passes_call takes_of HdsOk mk_of)
open PyProof.Rows hiding St
variable{T:Tab}
section
variable{X:Cx}{Wx:WX}
end
section
variable{X:Cx}{Wx:WX}{a C dd:aq}{oe:Obj}{c i:Nat}{fs:List (Nat×W)}{n:Str}{pos:Pos}
end
end WL
end
section
namespace WL
open PySem PySem.Spec L2H
open L2 hiding Takes XE CX PMk MkP ps_raise ps_try_as ps_try_many passAt passes_call takes_of HdsOk mk_of
open L2N (Takes XE CX PMk MkP ps_raise ps_try_as ps_try_many passAt passes_call takes_of HdsOk mk_of)
open PyProof.Rows hiding St
variable{T:Tab}
section
variable{P:bO}{w:bS}{K:aT}{mg:Str->au az}{base:bj}
end
section
variable{X:Cx}{k:Nat}{f:aq}{x n:Str}{q ep pos:Pos}{m:Nat->List (Nat×W)->FN}{a C dd:aq}{oe:Obj}{pn:List (aq×Obj)}{c i:Nat}{fs:List (Nat×W)}
end
section
variable{X:Cx}{Wx:WX}{e:aN}{ma:ED}{pos:Pos}
end
end WL
end
section
namespace WL
open PySem PySem.Spec
open L2 hiding Takes XE CX PMk MkP ps_raise ps_try_as ps_try_many passAt passes_call takes_of HdsOk mk_of
open L2N (Takes XE CX PMk MkP ps_raise ps_try_as ps_try_many passAt passes_call takes_of HdsOk mk_of)
open PyProof.Rows hiding St
section
variable{T:Tab}
section
variable{X:Cx}{Wx:WX}
end
end
section
variable{T:Tab}
section
variable{X:Cx}{Wx:WX}{k n:Nat}{f C:aq}{m:FN}{e o:aN}{es:List aN}{ma mo:ED}{cF:AD}{pos p:Pos}
end
end
section
variable{T:Tab}
mutual
def iy:W->au gE
 | .non=>ah .none
 | .int i=>ah (.num i)
 | .str x=>ah (.text x)
 | .tup ws=>match kZ ws with
  |some ks=>ah (.tup ks)
  |none=>ai
 |_=>ai
def kZ:List W->au (List gE)
 |[]=>ah []
 |w :: ws=>match iy w,kZ ws with
  |some k,ah ks=>ah (k :: ks)
  |_,_=>ai
end
def i6:W->au gE
 | .tup ws=>match kZ ws with
  |some ks=>if (NestedKey.tup ks).depth<=8 then ah (.tup ks) else ai
  |none=>ai
 |_=>ai
section
variable{X:Cx}{Wx:WX}
end
end
section
section
open PySem.W PySem.Calls
variable{prog:bO}{w:bS}{M:wg}{A:bV}{E:az->aK->Prop}{s:aK}{K:aT}{x y C D L f:aq}{h₀:bj}{m:Str->au az}{ox oy:Obj}{od od':au Obj}{nm:dG}
def Y8(K:aT) (D:aq) (nm:dG):aw->Prop
 |true=>∃g rc,selfFirst K D=aj/\((dI K (.ref D) (pX nm)=ah (ah (.ref g))/\dI K (.ref D) (ot nm)=ah rc/\(rc=ai\/∃g:aq,rc=ah (.ref g))))
 |false=>∃cd,tM K D=ah cd/\cd.mro=[.ref D,.type "object"]/\dI K (.ref D) (pX nm)=ah ai/\dI K (.ref D) (ot nm)=ah ai/\dI K (.type "object") (pX nm)=ah ai/\dI K (.type "object") (ot nm)=ah ai
end
end
section
variable{T:Tab}{X:Cx}{Wx:WX}
def Og(X:Cx) (T:Tab) (nm:dG) (c c':Nat):Prop:=∀C C',T.cls c=ah C->T.cls c'=ah C'->C ≠ C'/\∃rc right,bI X.K (.ref C) (ot nm)=ah rc/\(rc=ai\/∃g:aq,rc=ah (.ref g))/\Y8 X.K C' nm right/\cb X.K (.ref C') (.ref C)=ah ak
def Oh(X:Cx) (T:Tab) (nm:dG) (c:Nat):Prop:=∀C,T.cls c=ah C->∃rc fo ro,bI X.K (.ref C) (ot nm)=ah rc/\(rc=ai\/∃g:aq,rc=ah (.ref g))/\bI X.K (.type "str") (pX nm)=ah fo/\bI X.K (.type "str") (ot nm)=ah ro/\cb X.K (.type "str") (.ref C)=ah ak
def yg(X:Cx) (T:Tab) (nm:dG) (d:qf):Prop:=∀c F C,getD c d=ah F->T.cls c=ah C->∃f g k n m fo ro,F=zW n m/\bK X.prog X.w X.K X.mg X.base T k f n m/\Room (k+6) X.A /\
 bI X.K (.ref C) (pX nm)=ah (ah (.ref g))/\bI X.K (.ref C) (ot nm)=ah (ah (.ref f))/\kc X.K (.ref f)=aj/\EG X.K C=aj /\
 bI X.K (.type "str") (pX nm)=ah fo/\bI X.K (.type "str") (ot nm)=ah ro/\((fo.isSome && !Lx fo)||(ro.isSome && !Lx ro))=ak
theorem yg.nil{nm}:yg X T nm []:=λc F C h=>by cases h
theorem yg.cons{nm c f g k n m fo ro}{d:qf}(F:bK X.prog X.w X.K X.mg X.base T k f n m) (hr:Room (k+6) X.A)
  (h:∀C,T.cls c=ah C->bI X.K (.ref C) (pX nm)=ah (ah (.ref g))/\bI X.K (.ref C) (ot nm)=ah (ah (.ref f))/\kc X.K (.ref f)=aj/\EG X.K C=aj /\
   bI X.K (.type "str") (pX nm)=ah fo/\bI X.K (.type "str") (ot nm)=ah ro/\((fo.isSome && !Lx fo)||(ro.isSome && !Lx ro))=ak)
  (r:yg X T nm d):yg X T nm ((c,zW n m) :: d):=λc' F' C hg hc=>by
 simp only[getD]at hg
 split at hg
 ·rename_i e
  subst e;cases hg;exact⟨f,g,k,n,m,fo,ro,rfl,F,hr,h C hc⟩
 ·exact r c' F' C hg hc
def uX(X:Cx) (T:Tab) (nm:dG):List (Nat×Nat)->Prop
 |[]=>True
 |(a,b) :: r=>Og X T nm a b/\uX X T nm r
def uY(X:Cx) (T:Tab) (nm:dG):List Nat->Prop
 |[]=>True
 |a :: r=>Oh X T nm a/\uY X T nm r
theorem uX.nil{nm}:uX X T nm []:=True.intro
theorem uX.cons{nm a b r}(h:Og X T nm a b) (t:uX X T nm r):uX X T nm ((a,b) :: r):=⟨h,t⟩
theorem uY.nil{nm}:uY X T nm []:=True.intro
theorem uY.cons{nm a r}(h:Oh X T nm a) (t:uY X T nm r):uY X T nm (a :: r):=⟨h,t⟩
end
end WL
end
section
set_option maxHeartbeats 4000000
namespace WL
open PySem PySem.Spec
open L2 hiding Takes XE CX PMk MkP ps_raise ps_try_as ps_try_many passAt passes_call takes_of HdsOk mk_of
open L2N (Takes XE CX PMk MkP ps_raise ps_try_as ps_try_many passAt passes_call takes_of HdsOk mk_of)
open PyProof.Rows hiding St
section
variable{T:Tab}{X:Cx}{Wx:WX}
end
end WL
end
section
namespace WL
open PySem PySem.Spec
open L2 hiding Takes XE CX PMk MkP ps_raise ps_try_as ps_try_many passAt passes_call takes_of HdsOk mk_of
open L2N (Takes XE CX PMk MkP ps_raise ps_try_as ps_try_many passAt passes_call takes_of HdsOk mk_of)
open PyProof.Rows hiding St
section
variable{P:bO}{w:bS}{K:aT}{mg:Str->au az}{base:bj}{T:Tab}
end
section
variable{T:Tab}{X:Cx}{Wx:WX}
end
section
variable{T:Tab} [jJ T] [j2 T]
section
variable{X:Cx}{Wx:WX}{pos:Pos}{e:aN}
end
end
section
section
variable{X:Cx}
end
variable{T:Tab} [jJ T] [j2 T]
section
variable{X:Cx}{Wx:WX}{pos:Pos}{e:aN}
end
end
section
variable{T:Tab} [jJ T] [j2 T] {X:Cx}{Wx:WX}
inductive yi (X:Cx):List UC->List Nat->Prop
 |nil:yi X [] []
 |cons {x:Str}{i:Nat}{p:Pos}{ps:List UC}{is:List Nat}:X.N[i]? = ah x->X.env.scope.names.lookup x=ah .local->yi X ps is->yi X (.MatchAs ai (ah x) p :: ps) (i :: is)
theorem yi.len{ps:List UC}{is:List Nat}(h:yi X ps is):ps.length=is.length:=by
 induction h with
 |nil=>rfl
 |cons _ _ _ ih=>rw[cq,cq,ih]
end
section
variable{T:Tab} [jJ T] [j2 T] {X:Cx}{Wx:WX}
section
variable{prog:bO}{w:bS}{A:bV}{E:az->aK->Prop}{s:aK}
end
end
section
variable{T:Tab} [jJ T] [j2 T] {X:Cx}{Wx:WX}
end
section
variable{T:Tab} [jJ T] [j2 T] {X:Cx}{Wx:WX}
end
section
variable{T:Tab} [jJ T] [j2 T] {X:Cx}{Wx:WX}
end
section
variable{T:Tab} [jJ T] {X:Cx}{Wx:WX}
structure HL(P:bO) (w:bS) (K:aT) (mg:Str->au az) (base:bj) (T:Tab) (k:Nat) (f:aq) (n0:Nat) (ks:List Str) (n:Nat) (m:FN):Prop where
 ok:∃fd ps,pT P w K mg base (L2N.CX P w) k f fd ps (LF T n m)/\KBn K fd ps n0 ks (λus ws=>us++ws) (λvs zs=>vs++zs)/\n0+ks.length=n
 kp:iL K (.ref f)=aj
theorem HL.le{P:bO}{w:bS}{K:aT}{mg:Str->au az}{base:bj}{T:Tab}{k:Nat}{f:aq}{n0 n:Nat}{ks:List Str}{m:FN}(h:HL P w K mg base T k f n0 ks n m):HL P w K mg base T k f n0 ks n m:=h
end
section
variable{T:Tab} [jJ T] [j2 T]
section
variable{X:Cx}{Wx:WX}{pos:Pos}{e:aN}
end
end
section
variable{T:Tab} [jJ T] [j2 T]
section
variable{X:Cx}{Wx:WX}
end
end
section
section
variable{X:Cx}
end
variable{T:Tab} [jJ T] [j2 T]
section
variable{X:Cx}{Wx:WX}{pos:Pos}{e:aN}
end
end
section
section
variable{prog:bO}{w:bS}{A:bV}{E:az->aK->Prop}{s:aK}
end
variable{T:Tab} [jJ T] [j2 T]
section
variable{X:Cx}{Wx:WX}{pos:Pos}
end
end
section
variable{T:Tab} [jJ T] [j2 T]
section
variable{X:Cx}{Wx:WX}{pos:Pos}
end
end
section
section
variable{prog:bO}{w:bS}{A:bV}{E:az->aK->Prop}{s:aK}{es:dH DictEntry}{ep:Nat}
end
variable{T:Tab} [jJ T] [j2 T]
section
variable{X:Cx}{Wx:WX}
end
end
section
section
variable{X:Cx}
end
variable{X:Cx}{T:Tab}{Wx:WX}
end
section
section
variable{X:Cx}{pins:List (aq×Obj)}{σ:St}{H:Hp}{s:aK}
end
variable{T:Tab}{X:Cx}{Wx:WX}
end
section
variable{T:Tab}
end
end WL
end
section
namespace WL
namespace Hd
open PySem PySem.Spec
open L2 hiding Takes XE CX PMk MkP ps_raise ps_try_as ps_try_many passAt passes_call takes_of HdsOk mk_of
open L2N (Takes XE CX PMk MkP ps_raise ps_try_as ps_try_many passAt passes_call takes_of HdsOk mk_of)
open PyProof.Rows hiding St
theorem Vx{l:PySem.W.OpenLaw}{n k:Nat}{q:bO}{loose:List Str}{XP:(Str->au az)->bj->Prop}{YP:bS->bj->Prop}{d:DefRec}{x:Str}(hn:l.most=ah n) (kE:n<=kR) (Y9:d.params.defaults=[]) (hr:Room k callerA)
  (F:∀(w:bS) (mg:Str->au az) (fa:aq) (h:bj),YP w h->h.Ns eP mg->mg d.name=ah (.ref fa) ->
   ∃(K:aT) (fd:oi),K.In h/\(∀(s:aK) (u:az),Lw s fd ⟨[u],[]⟩ [(x,u)])/\∀base:bj,K.In base->base.Ns eP mg->pT l.prog w K mg base (L2N.CX l.prog w) k fa fd [x] (HG n K)) :
  PySem.W.WalkO q loose XP YP l.row.toRowW d [] (λf vs=>PySem.call f vs):=by
 refine Att.attach_call hn Y9 λw s₀ s₁ mg mb fa o pm cd doc a vs ns G Y ho hd gj HM VP hints hlen hg=>?_;obtain⟨K,fd,KX,hb,hF⟩:=F w mg fa _ Y G.T.g HM
 exact law_call KX G.T.g G.T.b G.T.builtins G.T.nolimit hg VP hints (b_ hlen kE) hr hF hb (λH hO hS=>⟨a,ns,rfl,hlen,YX hO hS,λ_=>rfl⟩) λH e s' h=>by
  obtain⟨_,_,_,_,_,_,_,_,_,_,_,_,z⟩:=h;exact z
end Hd
end WL
end
section
namespace WL
open PySem PySem.Spec
open L2 hiding Takes XE CX PMk MkP ps_raise ps_try_as ps_try_many passAt passes_call takes_of HdsOk mk_of
open L2N (Takes XE CX PMk MkP ps_raise ps_try_as ps_try_many passAt passes_call takes_of HdsOk mk_of)
open PyProof.Rows hiding St
section
variable{T:Tab}
section
variable{X:Cx}{Wx:WX}{pos:Pos}{ctx:aN}{body:List bh}{mc:ED}{b:SD}{d1 d2:qf}
end
end
section
section
variable{X:Cx}{x1 x2 x3:Str}{c1 c2 c3:az}{body suite:List bh}{b₀:bh}{p1 p2 p3 tp pos pos':Pos}{kk:Nat}{tb:WX->TS}{ts:aq->az->au aq->TS}{Wout:WX}
end
variable{T:Tab}
def yj(K:aT) (T:Tab) (cs:List az) (ok:List Nat):Prop:=∀c C,ok.contains c=aj->T.cls c=ah C->W.exmAny K (.ref C) cs=ah aj
theorem yj.nil{K cs}:yj K T cs []:=λc C h=>by simp at h
theorem yj.cons{K cs c ok}(h:∀C,T.cls c=ah C->W.exmAny K (.ref C) cs=ah aj) (r:yj K T cs ok):yj K T cs (c :: ok):=λc' C hc e=>by
 by_cases q:c'=c
 ·subst q;exact h C e
 ·exact r c' C (by simpa [q] using hc) e
section
variable{X:Cx}{Wx:WX}{x1 x2 x3:Str}{c1 c2 c3:az}{body suite:List bh}{b₀:bh}{p1 p2 p3 tp pos pos':Pos}{kk:Nat}{mb ms:SD}{ok:List Nat}
end
end
section
variable{T:Tab}
section
variable{X:Cx}{Wx:WX}{o:aN}{mo:ED}
def yk(X:Cx) (T:Tab) (nm:Str) (d:qf):Prop:=∀c F C,getD c d=ah F->T.cls c=ah C->∃f k n m,F=zW n m/\bK X.prog X.w X.K X.mg X.base T k f n m/\Room k X.A/\BMeth X.K C nm f
theorem yk.nil{nm}:yk X T nm []:=λc F C h=>by cases h
theorem yk.cons{nm c f k n m}{d:qf}(F:bK X.prog X.w X.K X.mg X.base T k f n m) (hr:Room k X.A) (h:∀C,T.cls c=ah C->BMeth X.K C nm f)
  (r:yk X T nm d):yk X T nm ((c,zW n m) :: d):=λc' F' C hg hc=>by
 simp only[getD]at hg
 split at hg
 ·rename_i e
  subst e;cases hg;exact⟨f,k,n,m,rfl,F,hr,h C hc⟩
 ·exact r c' F' C hg hc
end
end
end WL
end
section
namespace WL
open PySem PySem.Spec
open L2 hiding Takes XE CX PMk MkP ps_raise ps_try_as ps_try_many passAt passes_call takes_of HdsOk mk_of
open L2N (Takes XE CX PMk MkP ps_raise ps_try_as ps_try_many passAt passes_call takes_of HdsOk mk_of)
open PyProof.Rows hiding St
variable{T:Tab}
section
variable{X:Cx}{pos:Pos}{body:List bh}{f₀:bh}{fs:List bh}{tb:WX->TS}{tf tfs:TS}{Wout:WX}
end
section
variable{X:Cx}{Wx:WX}{pos:Pos}{body:List bh}{b f:SD}{f₀:bh}{fs:List bh}
end
end WL
end
section
namespace WL
open PySem PySem.Spec
open L2 hiding Takes XE CX PMk MkP ps_raise ps_try_as ps_try_many passAt passes_call takes_of HdsOk mk_of
open L2N (Takes XE CX PMk MkP ps_raise ps_try_as ps_try_many passAt passes_call takes_of HdsOk mk_of)
open PyProof.Rows hiding St
open HotX
section
variable{prog:bO}{w:bS}{A:bV}{E:az->aK->Prop}{s:aK}
theorem HotAt.keep{x1:aq}{h h':bj}(c:HotAt A x1 h) (k:∀b o,h.get? b=ah o->(∀a,b=x1->a=b->True)->h'.get? b=ah o):HotAt A x1 h':=by
 obtain⟨hh,o,vs,e,d,z⟩:=c;exact⟨hh,o,vs,k _ _ e (λ_ _ _=>True.intro),d,z⟩
end
section
variable{T:Tab}{X:Cx}{Wx:WX}{pos:Pos}
end
end WL
end
section
namespace WL
open PySem PySem.Spec
open L2 hiding Takes XE CX PMk MkP ps_raise ps_try_as ps_try_many passAt passes_call takes_of HdsOk mk_of
open L2N (Takes XE CX PMk MkP ps_raise ps_try_as ps_try_many passAt passes_call takes_of HdsOk mk_of)
open PyProof.Rows hiding St
variable{T:Tab}{X:Cx}{Wx:WX}
end WL
end
section
namespace WL
open PySem PySem.Spec
open L2 hiding Takes XE CX PMk MkP ps_raise ps_try_as ps_try_many passAt passes_call takes_of HdsOk mk_of
open L2N (Takes XE CX PMk MkP ps_raise ps_try_as ps_try_many passAt passes_call takes_of HdsOk mk_of)
open PyProof.Rows hiding St
variable{T:Tab}
section
variable{P:bO}{w:bS}{K:aT}{mg:Str->au az}{base:bj}
theorem jl [jJ T] [j2 T] {x qual:Str}{st:bh}{f:aq}{N ps:List Str}{k n:Nat}{body:SD}(h:∃fd,Fun K x qual st f fd/\Binds K fd ps [])
  (rq:∀(aO:az) (A:bV) (outer:List Env) (s:aK) (H:Hp) (E:XK),Room k (A.deeper (iK qual (aU st) s.heap.objs.size f aO))->Takes (A7 (L2N.CX P w) P w K mg base N qual (aU st) f aO A outer s H E) (λcls d _ H=>E cls d H)->N.Nodup ->
   PSs (A7 (L2N.CX P w) P w K mg base N qual (aU st) f aO A outer s H E) (cI st) (LS T (λcls d _ H=>E cls d H) body))
  (S:Lr N ps (aU st):=by exact⟨rfl,rfl,rfl,by decide +kernel,rfl,by decide +kernel,by decide +kernel⟩) (hn:ps.length=n:=by rfl):bK P w K mg base T (k+1) f n (fnW N.length body):=by
 obtain⟨fd,F,hb⟩:=h;exact XH F S hn hb λaO A outer s H E hr=>rq aO A outer s H E hr (takes_of rfl rfl rfl rfl) S.nd
end
section
variable{X:Cx}{Wx:WX}{j k n c:Nat}{f C:aq}{m:FN}{e o:aN}{es:List aN}{ma mo:ED}{cF:AD}{pos p:Pos}
theorem Qu{x:Str}(F:bK X.prog X.w X.K X.mg X.base T k f n m) (hr:Room j X.A) (tk:Takes X Wx) (hm:X.mg x=ah (.ref f)) (ha:PA X (e :: es) (LA T Wx cF)) (hk:k<=j:=by decide) (hg:Gl X x:=by rfl)
  (cW:(x == ("__debug__" : Str))=ak:=by decide) (he:bo (e :: es) X.env=(ak,eval e X.env) :: bo es X.env:=by rfl) (dc:(c_ pos (bo es X.env)).any (·.1)=ak:=by rfl) :
  PE X (.Call (.Name x p) (e :: es) [] pos) (LE T Wx (aQ (zW n m) cF)):=qs (qA F (hr.mono hk) tk) F.kp hm ha hg cW he dc
theorem Y_{pl:Sem aw}{nm:Str}{apos:Pos}(M:A9 X.K C nm f) (F:bK X.prog X.w X.K X.mg X.base T k f n m) (hr:Room j X.A) (tk:Takes X Wx) (ho:PE X o (LE T Wx mo)) (ha:PA X (e :: es) (LA T Wx cF)) (hk:k<=j:=by decide) (hK:X.K=T.K:=by rfl) (hn:nm ∉ T.fns:=by(show _ ∉ rJ;decide +kernel)) (hc:T.cls c=ah C:=by rfl)
  (dB:bo (e :: es) X.env=(ak,eval e X.env) :: bo es X.env:=by rfl) (dc:(c_ pos (bo es X.env)).any (·.1)=ak:=by rfl)
  (ht:eval (.Call (.Attribute o nm apos) (e :: es) [] pos) X.env=(do
   let ov <- eval o X.env
   oh apos.atName
   let (f,first) <- holding [ov] (Ls ov nm pl)
   we pos f first (c_ pos (bo (e :: es) X.env)) (tH pos (tI [] X.env))):=by rfl) :
  PE X (.Call (.Attribute o nm apos) (e :: es) [] pos) (LE T Wx (Qf [(c,zW n m)] mo cF)):=G9 hK hn (.cons (bA hc ⟨M,qA F (hr.mono hk) tk⟩) .nil) ho ha dB dc ht
theorem pw{apos ku:Pos}(ho:PE X o (LE T Wx mo)) (ha:PA X (e :: es) (LA T Wx cF)) (hK:X.K=T.K:=by rfl)
  (wR:wd o "append" X.env (eval o X.env)=eval o X.env:=by rfl)
  (w5:((c_ ku (bo (e :: es) X.env)).all (λx=>!x.1) && (tH ku (tI [] X.env)).all (λx=>x.1.isSome)
   && decide ((e :: es).length+([]:List A_).length+(if ([]:List A_).isEmpty then 0 else 1)<30))=aj:=by rfl)
  (wU:(apos.endLine == ku.line)=aj:=by rfl) (hs:bo (e :: es) X.env=(ak,eval e X.env) :: bo es X.env:=by rfl) (FA:(c_ ku (bo es X.env)).any (·.1)=ak:=by rfl) :
  PE X (.Call (.Attribute o "append" apos) (e :: es) [] ku) (LE T Wx (gR "list" jd mo cF)):=X9 hK PySem.F.plainAttrs_list PySem.F.slot_list_append PySem.F.type_list_append Ya ho ha wR w5 wU hs FA
theorem qN(hr:Room j X.A) (tk:Takes X Wx) (hK:X.K=T.K:=by rfl):GU X T Wx (zS []):=qQ hK hr.u1 tk .nil
end
theorem uZ{K:aT}{x qual:Str}{st:bh}{f:aq}{ps:List Str}{oc:az}{od an:au aq}{b9:dH (au az)}{kV doc pm aO ct:az}(l:K.lookup f=ah ⟨oc,od,.func (gG x qual (cZ st) (cI st) (aU st) .none kV doc pm an aO ct),b9⟩)
  (c:hV K aO qual=aj) (k:iL K (.ref f)=aj) (hb:∀(kV doc pm:az) (an:au aq) (aO ct:az) (us:List az),us.length=ps.length->oq (gG x qual (cZ st) (cI st) (aU st) .none kV doc pm an aO ct) ⟨us,[]⟩=pure (ps.zip us):=by exact λ_ _ _ _ _ _ us hl=>match us,hl with|[_],_=>rfl):Z6 K x qual st f ps:=ya l c k hb
theorem mC{K:aT}{x qual:Str}{st:bh}{f:aq}{ps:List Str}{oc:az}{od an:au aq}{b9:dH (au az)}{kV doc pm aO ct:az}(l:K.lookup f=ah ⟨oc,od,.func (gG x qual (cZ st) (cI st) (aU st) .none kV doc pm an aO ct),b9⟩)
  (c:hV K aO qual=aj) (k:iL K (.ref f)=aj) (hb:∀(kV doc pm:az) (an:au aq) (aO ct:az) (us:List az),us.length=ps.length->oq (gG x qual (cZ st) (cI st) (aU st) .none kV doc pm an aO ct) ⟨us,[]⟩=pure (ps.zip us):=by exact λ_ _ _ _ _ _ us hl=>match us,hl with|[_,_],_=>rfl):Z6 K x qual st f ps:=ya l c k hb
theorem yl{K:aT}{x qual:Str}{st:bh}{f:aq}{ps:List Str}{oc:az}{od an:au aq}{b9:dH (au az)}{kV doc pm aO ct:az}(l:K.lookup f=ah ⟨oc,od,.func (gG x qual (cZ st) (cI st) (aU st) .none kV doc pm an aO ct),b9⟩)
  (c:hV K aO qual=aj) (k:iL K (.ref f)=aj) (hb:∀(kV doc pm:az) (an:au aq) (aO ct:az) (us:List az),us.length=ps.length->oq (gG x qual (cZ st) (cI st) (aU st) .none kV doc pm an aO ct) ⟨us,[]⟩=pure (ps.zip us):=by exact λ_ _ _ _ _ _ us hl=>match us,hl with|[_,_,_],_=>rfl):Z6 K x qual st f ps:=ya l c k hb
theorem Z_{K:aT}{x qual:Str}{st:bh}{f:aq}{ps:List Str}{oc:az}{od an:au aq}{b9:dH (au az)}{kV doc pm aO ct:az}(l:K.lookup f=ah ⟨oc,od,.func (gG x qual (cZ st) (cI st) (aU st) .none kV doc pm an aO ct),b9⟩)
  (c:hV K aO qual=aj) (k:iL K (.ref f)=aj) (hb:∀(kV doc pm:az) (an:au aq) (aO ct:az) (us:List az),us.length=ps.length->oq (gG x qual (cZ st) (cI st) (aU st) .none kV doc pm an aO ct) ⟨us,[]⟩=pure (ps.zip us):=by exact λ_ _ _ _ _ _ us hl=>match us,hl with|[_,_,_,_,_],_=>rfl):Z6 K x qual st f ps:=ya l c k hb
theorem zp2{K:aT}{x qual:Str}{st:bh}{f:aq}{ps:List Str}{oc:az}{od an:au aq}{b9:dH (au az)}{kV doc pm aO ct:az}(l:K.lookup f=ah ⟨oc,od,.func (gG x qual (cZ st) (cI st) (aU st) .none kV doc pm an aO ct),b9⟩)
  (c:hV K aO qual=aj) (k:iL K (.ref f)=aj) (hb:∀(kV doc pm:az) (an:au aq) (aO ct:az) (us:List az),us.length=ps.length->oq (gG x qual (cZ st) (cI st) (aU st) .none kV doc pm an aO ct) ⟨us,[]⟩=pure (ps.zip us):=by exact λ_ _ _ _ _ _ us hl=>match us,hl with|[_,_,_,_,_,_,_],_=>rfl):Z6 K x qual st f ps:=ya l c k hb
end WL
end
section
namespace WL
open PySem PySem.Spec
open L2 hiding Takes XE CX PMk MkP ps_raise ps_try_as ps_try_many passAt passes_call takes_of HdsOk mk_of
open L2N (Takes XE CX PMk MkP ps_raise ps_try_as ps_try_many passAt passes_call takes_of HdsOk mk_of)
open PyProof.Rows hiding St
section
variable{T:Tab}{X:Cx}{Wx:WX}
end
section
variable{T:Tab} [jJ T] [j2 T] {X:Cx}{Wx:WX}
end
section
variable{T:Tab} [jJ T] [j2 T] {X:Cx}{Wx:WX}
end
section
variable{T:Tab} [jJ T] [j2 T] {X:Cx}{Wx:WX}
end
section
variable{T:Tab} [jJ T] [j2 T] {X:Cx}{Wx:WX}
end
section
variable{T:Tab} [jJ T] [j2 T]
end
section
variable{T:Tab}
variable{X:Cx}{Wx:WX}
end
section
variable{T:Tab}
def i7(x:W) (g:G):Out W:=match x with
 | .ref l=>match g[l]? with
  |some (.lst ws)=>.ok (.fz ws) (g.set l .gone)
  |some (.dT aS)=>.ok (.eI (aS.map (·.1)) (aS.map (·.2))) (g.set l .gone)
  |_=>.bad
 | .fz ws=>.ok (.fz ws) g
 | .eI ks ws=>.ok (.eI ks ws) g
 |_=>.bad
def gx(m:ED):ED:=λσ g=>(m σ g).bind i7
section
variable{X:Cx}{Wx:WX}{e:aN}{m:ED}
theorem pz(he:PE X e (LE T Wx m)):PE X e (LE T Wx (gx m)):=⟨λpins s σ H Q I h=>by
 obtain⟨ρ,σw,g,hs,hg,hm⟩:=h;refine thn (he.run pins s σ H (λv H1=>∃ρ1 x g1,RG T ρ1 H1 g1/\RW T ρ1 H1 x v/\zP (bf T) T Wx σ ρ1 H1 Q (i7 x g1)) I ⟨ρ,σw,g,hs,hg,zP.bind hm λx g1 ρ1 H1 vx bt R1 rx ay=>⟨ρ1,x,g1,R1,rx,ay⟩⟩) λu s1 ⟨v,H1,I1,r1,ρ1,x,g1,R1,rx,ay⟩=>?_;unfold i7 at ay
 split at ay
 ·rename_i l
  split at ay
  ·rename_i ws hl
   obtain⟨a,ha,rfl⟩:=Qi rx;obtain⟨vs,hv,rr⟩:=o4 R1 hl ha;obtain⟨od,I2⟩:=I1.lock hv trivial;have mt:ig (H1 a):=by rw[hv];trivial
   have gr:qj ρ1 H1 ρ1 (upd H1 a (.frz od (.lst vs))):=qI mt;have R2:RG T ρ1 (upd H1 a (.frz od (.lst vs))) (g1.set l .gone):=R1.write ha ⟨_,ez⟩ mt;exact⟨.ref a,_,I2,r1,ay ρ1 _ _ gr R2 (by simp only[bf,RW];exact⟨a,od,vs,rfl,ez,aD.mono gr ws vs rr⟩)⟩
  ·rename_i aS hl
   obtain⟨a,ha,rfl⟩:=Qi rx;obtain⟨vs,hv,rd,nd⟩:=R1.obj l _ a hl ha;obtain⟨od,I2⟩:=I1.lock hv trivial;have mt:ig (H1 a):=by rw[hv];trivial
   have gr:qj ρ1 H1 ρ1 (upd H1 a (.frz od (.dT vs))):=qI mt;have R2:RG T ρ1 (upd H1 a (.frz od (.dT vs))) (g1.set l .gone):=R1.write ha ⟨_,ez⟩ mt;exact⟨.ref a,_,I2,r1,ay ρ1 _ _ gr R2 (by simp only[bf,RW];exact⟨a,od,vs,rfl,ez,rd.keys,nd,aD.mono gr _ _ rd.ws⟩)⟩
  ·exact ay.elim
 ·exact⟨v,H1,I1,r1,jD R1 rx ay⟩
 ·exact⟨v,H1,I1,r1,jD R1 rx ay⟩
 ·exact ay.elim⟩
end
end
section
variable{T:Tab} [jJ T] [j2 T]
section
variable{X:Cx}{Wx:WX}{pos:Pos}
end
end
section
variable{T:Tab} [jJ T] [j2 T]
section
variable{X:Cx}{Wx:WX}{st:bh}{m:ED}{i:Nat}
theorem zkr{ρ H H'}{σw:Sg}{σ:St}{w w':W}(h:RS T ρ H (σw.set i (ah w)) σ) (gr:qj ρ H ρ H') (k:∀v,RW T ρ H w v->RW T ρ H' w' v):RS T ρ H' (σw.set i (ah w')) σ:=by
 by_cases hi:i<σw.length
 ·obtain⟨v,hv,rv⟩:=h.get (i:=i) (w:=w) (dU hi)
  have h2:=(h.mono gr _ _).set (k v rv) i;rw[EH]at h2
  have e:σ.set i (ah v)=σ:=by
   apply Bq
   intro j
   by_cases hj:j=i
   ·subst hj
    rw[dU (bP.mp hv).1,hv]
   ·rw[c5 (Ne.symm hj)]
  rw[e]at h2;exact h2
 ·have e:∀x:au W,σw.set i x=σw:=λx=>List.set_eq_of_length_le (by omega)
  rw[e]at h ⊢;exact h.mono gr _ _
theorem Oi(h:PS X st (LS T Wx (zX m (aM i)))):PS X st (LS T Wx (zX (gx m) (aM i))):=by
 refine⟨λpins s σ H D I hq=>?_⟩;obtain⟨ρ,σw,g,hs,hg,he⟩:=hq;have key:=h.run pins s σ H { D with nx:=λσ' H'=>D.nx σ' H'\/∃a u,H' a=ah u/\Mut (ah u)/\∀od,D.nx σ' (upd H' a (.frz od u)) } I ⟨ρ,σw,g,hs,hg,?_⟩
 ·refine eQ key (λf s1 q=>?_) λ_ _ z=>z
  cases f with
  |next=>
   obtain⟨σ1,H1,I1,q|⟨a,u,e,mu,q⟩⟩:=q
   ·exact⟨σ1,H1,I1,q⟩
   ·obtain⟨od,I2⟩:=I1.lock e mu
    exact⟨σ1,_,I2,q od⟩
  |brk=>exact q
  |cont=>exact q
  |ret u=>exact q
 ·unfold zX gx at he
  unfold zX
  cases hm:m σw g with
  |bad=>rw[hm]at he;exact he.elim
  |ex c fs g1=>rw[hm]at he;exact he
  |ok x g1=>
   rw[hm]at he;dsimp only[Out.bind,Out.fl,aM]at he ⊢
   have sk:∀(l:Nat) (o:GO) (w':W) ,g1[l]? = ah o->x = .ref l->i7 x g1 = .ok w' (g1.set l .gone)->(∀ρ' H' a,ρ'[l]? = ah a->RG T ρ' H' g1->∃u,H' a=ah u/\Mut (ah u)/\ig (ah u)/\∀od,qj ρ' H' ρ' (upd H' a (.frz od u))->RW T ρ' (upd H' a (.frz od u)) w' (.ref a)) ->
     qZ T Wx { D with nx:=λσ' H'=>D.nx σ' H'\/∃a u,H' a=ah u/\Mut (ah u)/\∀od,D.nx σ' (upd H' a (.frz od u)) } ρ H (Fl.nx (σw.set i (ah x)) g1):=λl o w' hl hx hf hk=>by
    subst hx;rw[hf]at he;dsimp only at he;intro ρ' H' σ' gr R r;obtain⟨a,ha,ro⟩:=R.at hl;obtain⟨u,hu,mu,mt,hk⟩:=hk ρ' H' a ha R;refine .inr ⟨a,u,hu,mu,λod=>?_⟩;have Oj:ig (H' a):=by rw[hu];exact mt
    have bE:qj ρ' H' ρ' (upd H' a (.frz od u)):=qI Oj;refine he ρ' _ σ' (gr.trans bE) (R.write ha ⟨_,ez⟩ Oj) (zkr r bE λv rv=>?_);obtain⟨b,hb,rfl⟩:=Qi rv;rw[ha]at hb;cases hb;exact hk od bE
   have same:i7 x g1 = .ok x g1->qZ T Wx { D with nx:=λσ' H'=>D.nx σ' H'\/∃a u,H' a=ah u/\Mut (ah u)/\∀od,D.nx σ' (upd H' a (.frz od u)) } ρ H (Fl.nx (σw.set i (ah x)) g1):=λhf=>by
    rw[hf]at he;exact λρ' H' σ' gr R r=>.inl (he ρ' H' σ' gr R r)
   cases x with
   |ref l=>
    cases hl:g1[l]? with
    |none=>rw[show i7 (.ref l) g1 = .bad by simp only[i7,hl]]at he;exact he.elim
    |some o=>
     cases o with
     |lst ws=>
      refine sk l _ (.fz ws) hl rfl (by simp only[i7,hl]) λρ' H' a ha R=>?_;obtain⟨vs,hv,rr⟩:=o4 R hl ha;exact⟨_,hv,trivial,trivial,λod bE=>by simp only[RW];exact⟨a,od,vs,rfl,ez,aD.mono bE ws vs rr⟩⟩
     |dT aS=>
      refine sk l _ (.eI (aS.map (·.1)) (aS.map (·.2))) hl rfl (by simp only[i7,hl]) λρ' H' a ha R=>?_;obtain⟨vs,hv,rd,nd⟩:=R.obj l _ a hl ha;exact⟨_,hv,trivial,trivial,λod bE=>by simp only[RW];exact⟨a,od,vs,rfl,ez,rd.keys,nd,aD.mono bE _ _ rd.ws⟩⟩
     |_=>rw[show i7 (.ref l) g1 = .bad by simp only[i7,hl]]at he;exact he.elim
   |fz ws=>exact same rfl
   |eI ks ws=>exact same rfl
   |_=>exact he.elim
end
end
end WL
end
section
namespace WL
open PySem PySem.Spec
open PyProof.Rows hiding St
open L2 (lstObj)
def aY(M:wg) (A:bV) (Φ:End->aK->Prop) (c:Bf) (t:Sem fh) (fs:List ou) (s:aK):Prop:=
 ∀Γ p,Γ.code=c->Γ.Woken A->∃e s',Runs M Γ p t fs s e s'/\e.quiet=aj/\Φ e s'
section
variable{M:wg}{A:bV}{Φ:End->aK->Prop}{c:Bf}{fs:List ou}{s:aK}
theorem aY.imp{t}{Ψ:End->aK->Prop}(h:aY M A Φ c t fs s) (k:∀e s,Φ e s->Ψ e s):aY M A Ψ c t fs s:=λΓ p a b=>by
 obtain⟨e,s',r,q,z⟩:=h Γ p a b;exact⟨e,s',r,q,k _ _ z⟩
theorem ZN{α:Type}{m:Sem α}{K:α->Sem fh}{J:az->Sem fh}{gd lv}
  (h:bL M (A.over c fs) m (λa s'=>aY M A Φ c (K a) fs s') (λx s'=>aY M A Φ c (J x) fs s') s):aY M A Φ c (m.wrap K J gd lv) fs s:=by
 rintro Γ p rfl w
 obtain⟨e,s',r,q⟩:=runs_wrap_of_wp (Φ:=λe s'=>e.quiet=aj/\Φ e s') K J gd lv m (h (Γ.over fs) p (w.over fs)) (λ_ p' _ z=>z Γ p' rfl w) (λ_ p' _ z=>z Γ p' rfl w);exact⟨e,s',r,q⟩
theorem ym{p':Pos}{k:ax->Sem fh}(h:aY M A Φ c (k ()) fs s):aY M A Φ c (.at p' k) fs s:=
 ZN (m:=oh p') (K:=k) (J:=.raise) (gd:=id) (lv:=id) (Ut h)
theorem zks{l:List az}{k:ax->Sem fh}(h:aY M A Φ c (k ()) fs s):aY M A Φ c (.point l k) fs s:=
 ZN (m:=point) (K:=k) (J:=.raise) (gd:=id) (lv:=λ_=>l) (wpAny_point h)
theorem zmE{c':Bf}{h g l}{k:wo->Sem fh}(hc:∀p,aY M A Φ c' (M.den c') (.ret k h g l c p [] :: fs) s):aY M A Φ c (.call c' h g l k) fs s:=by
 rintro Γ p rfl w
 obtain⟨e,s',r,q⟩:=hc p (Γ.goto c') p rfl (w.goto c');exact⟨e,s',runs_call_seg r,q⟩
theorem HP{k h g l c₁ p₁ kp}(r:wo) (hk:aY M A Φ c₁ (k r) fs s):aY M A Φ c (leafOf r) (.ret k h g l c₁ p₁ kp :: fs) s:=by
 rintro Γ p rfl w
 obtain⟨e,s',x,q⟩:=hk (Γ.goto c₁) p₁ rfl (w.goto c₁);exact⟨e,s',x.pop r,q⟩
theorem Ol{c':Bf}(hq:c'.quiet=aj) (hc:aY M A Φ c' (M.den c') fs s):aY M A Φ c (.pure (.again c')) fs s:=by
 rintro Γ p rfl w
 obtain⟨e,s',r,q⟩:=hc (Γ.goto c') p rfl (w.goto c');exact⟨e,s',Runs.head (c₁:=c') (λ_ _ x=>.again hq x) r,q⟩
theorem HQ(r:wo) (h:Φ (.ret r) s):aY M A Φ c (leafOf r) [] s:=λ_ _ _ _=>⟨.ret r,s,Runs.leaf r,rfl,h⟩
theorem zoA{v g l}{k:Resume->Sem fh}(rQ:UD fs=ai) (hg:g=ak) (HS:fs.any Frame.guarded=ak) (h:∀p,Φ (.susp v g l k c p fs) s):aY M A Φ c (.yield v g l k) fs s:=by
 rintro Γ p rfl _
 exact⟨_,s,Runs.yield' fs rQ,by simp[End.quiet,hg,HS],h p⟩
variable{env:Env}{K:Flow->Sem fh}{J:az->Sem fh}{gd:aw->aw}{lv:List az->List az}
theorem yn{st:bh}{rest:List bh}(h:aY M A Φ c ((exec st env).wrap (λf=>match f with| .next=>(execs rest env).wrap K J gd lv|f=>K f) J gd lv) fs s):aY M A Φ c ((execs (st :: rest) env).wrap K J gd lv) fs s:=by
 rw[execs_cons_wrap];exact h
theorem zkt{e:aN}{yp pos:Pos}(rQ:UD fs=ai) (Om:gd ak=ak) (HS:fs.any Frame.guarded=ak)
  (h:bL M (A.over c fs) (eval e env) (λv s'=>∀l k p,(∀Ψ s2,aY M A Ψ c (K .next) fs s2->aY M A Ψ c (k (.send .none)) fs s2)->Φ (.susp v ak l k c p fs) s') (λx s'=>aY M A Φ c (J x) fs s') s)
  (eV:env.scope.isCoroutine=ak:=by rfl) (hi:interactive env=ak:=by rfl):aY M A Φ c ((exec (.Expr (.Yield (ah e) yp) pos) env).wrap K J gd lv) fs s:=by
 rw[exec_Expr env _ pos hi rfl];have hy:UE env=yieldValue:=funext λv=>by unfold UE;rw[eV];rfl
 show aY M A Φ c (.at pos λ_=>((eval e env >>= λv=>(oh yp >>= λ_=>UE env v)) >>= λx=>dropValue (.Yield (ah e) yp) pos x).wrap K J gd lv) fs s;rw[hy];refine ym ?_;rw[Sem.bind_eq_wrap',Sem.bind_eq_wrap',Sem.wrap_wrap,Sem.wrap_wrap];refine ZN (eQ h (λv s' z=>?_) λ_ _ z=>z)
 exact ym (zoA rQ Om HS λp=>by
  show Φ (.susp v (gd ak) _ _ c p fs) s';rw[Om];exact z _ _ p λΨ s2 q=>q)
theorem zoB{tg iter:aN}{body orelse:List bh}{pos:Pos}
  (h:bL M (A.over c fs) (eval iter env) (λx s1=>bL M (A.over c fs) (pyIter x) (λit s2=>∀p,aY M A Φ (.forLoop tg it body orelse env) (M.den (.forLoop tg it body orelse env))
   (.ret (λr=>((match r with| .ok f=>(.pure f:Sem Flow)| .error e=>.raise e).onRaise (L2.cameBack env)).wrap K J gd lv) ai (gd ak) (lv []) c p [] :: fs) s2) (λx s'=>aY M A Φ c (J x) fs s') s1) (λx s'=>aY M A Φ c (J x) fs s') s)
  (hs:∀x,tG iter env x=pure x:=by intro _;rfl):aY M A Φ c ((exec (.For tg iter body orelse pos) env).wrap K J gd lv) fs s:=by
 rw[exec_For];refine ym ?_;show aY M A Φ c ((eval iter env >>= λx=>(tG iter env x >>= λx=>(oh iter.pos >>= λ_=>(holding [x] (pyIter x) >>= λit=>runOwn (.forLoop tg it body orelse env) env)))).wrap K J gd lv) fs s;rw[Sem.bind_eq_wrap',Sem.wrap_wrap];refine ZN (eQ h (λx s1 h1=>?_) λ_ _ z=>z);rw[hs x];refine ym ?_;show aY M A Φ c ((holding [x] (pyIter x) >>= λit=>runOwn (.forLoop tg it body orelse env) env).wrap K J gd lv) fs s1;rw[Sem.bind_eq_wrap',Sem.wrap_wrap];refine ZN (Ep (eQ h1 (λit s2 h2=>?_) λ_ _ z=>z));exact zmE h2
end
section
variable{prog:bO}{w:bS}{A:bV}{Φ:End->aK->Prop}{fs:List ou}{s:aK}{env:Env}
def Q6(env:Env) (x:az):Sem fh:=(do noteFrame x env;UH x:Sem ax).wrap (λ_=>.raise x) .raise id id
theorem zmF{tg:aN}{it:az}{body:List bh}
  (h:bL (model prog w) (A.over (.forLoop tg it body [] env) fs) (Ly it) (λr s1=>match r with
   |none=>aY (model prog w) A Φ (.block [] env) ((model prog w).den (.block [] env)) fs s1
   |some v=>bL (model prog w) (A.over (.forLoop tg it body [] env) fs) (UI tg it v) (λ_ s2=>
     bL (model prog w) (A.over (.forLoop tg it body [] env) fs) (assign tg env v) (λ_ s3=>
      aY (model prog w) A Φ (.forLoop tg it body [] env) ((execs body env).wrap (λf=>match f with
       | .next| .cont=>.pure (.again (.forLoop tg it body [] env))
       | .brk=>.pure (.done .next)
       | .ret v=>.pure (.done (.ret v))) (Q6 env) id id) fs s3)
      (λx s'=>aY (model prog w) A Φ (.forLoop tg it body [] env) (Q6 env x) fs s') s2) (λx s'=>aY (model prog w) A Φ (.forLoop tg it body [] env) (Q6 env x) fs s') s1)
   (λx s'=>aY (model prog w) A Φ (.forLoop tg it body [] env) (Q6 env x) fs s') s) :
  aY (model prog w) A Φ (.forLoop tg it body [] env) ((model prog w).den (.forLoop tg it body [] env)) fs s:=by
 show aY _ A Φ _ ((forTurn tg it body [] env).onRaise (λx=>do noteFrame x env;UH x)) fs s
 have lx:∀x,((do noteFrame x env;UH x:Sem ax).bind λ_=>(.raise x:Sem fh))=Q6 env x:=λx=>by
  unfold Q6;rw[Sem.bind_eq_wrap]
 rw[Sem.onRaise_eq_wrap,Sem.wrap_congr _ _ _ (λ_=>rfl) lx];unfold forTurn;refine ym ?_;show aY _ A Φ _ ((((Ly it).onRaise (λ_=>oh { tg.pos with line:=0 })) >>= _).wrap _ _ _ _) fs s;rw[Sem.bind_eq_wrap',Sem.wrap_wrap];refine ZN (wpAny_onRaise (eQ h (λr s1 h1=>?_) λ_ _ z=>Ut z))
 cases r with
 |none=>exact Ol rfl h1
 |some v=>
  show aY _ A Φ _ ((UI tg it v >>= λ_=>(assign tg env v >>= λ_=>(execs body env >>= _))).wrap _ _ _ _) fs s1;rw[Sem.bind_eq_wrap',Sem.wrap_wrap];refine ZN (eQ h1 (λ_ s2 h2=>?_) λ_ _ z=>z);rw[Sem.bind_eq_wrap',Sem.wrap_wrap];refine ZN (eQ h2 (λ_ s3 h3=>?_) λ_ _ z=>z);rw[Sem.bind_eq_wrap',Sem.wrap_wrap]
  have e:=Sem.wrap_congr (execs body env) (K:=λa=>Sem.wrap Sem.pure (Q6 env) id id (match a with
    | .next| .cont=>again (.forLoop tg it body [] env)
    | .brk=>pure (.done .next)
    | .ret v=>pure (.done (.ret v)))) (K':=λf=>match f with
    | .next| .cont=>.pure (.again (.forLoop tg it body [] env))
    | .brk=>.pure (.done .next)
    | .ret v=>.pure (.done (.ret v))) (H:=λe=>Sem.wrap Sem.pure (Q6 env) id id (Sem.raise e)) (H':=Q6 env) id id (λf=>by cases f <;> rfl) (λ_=>rfl)
  exact e ▸ h3
theorem zku(h:aY (model prog w) A Φ (.block [] env) (.pure (.done .next)) fs s):aY (model prog w) A Φ (.block [] env) ((model prog w).den (.block [] env)) fs s:=h
end
end WL
end
section
namespace WL
open PySem PySem.Spec
open PyProof.Rows hiding St
def sH(M:wg) (A:bV) (Φ:End->aK->Prop):Bb->aK->Prop
 | .fresh c,s=>aY M A Φ c (M.den c) [] s
 | .suspended k _ c _ fs _,s=>aY M A Φ c (k (.send .none)) fs s
 |_,_=>False
theorem sH.imp{M A}{Φ Ψ:End->aK->Prop}{gs s}(h:sH M A Φ gs s) (k:∀e s,Φ e s->Ψ e s):sH M A Ψ gs s:=by
 cases gs with
 |fresh c=>exact aY.imp h k
 |suspended=>exact aY.imp h k
 |running=>exact h
 |finished=>exact h
theorem zkv{M:wg}{A:bV}{Φ:End->aK->Prop}{s:aK}{gs:Bb}{g:Nat}{l:List az}{α:Type}{k:GenResult->Sem α}{Q:α->aK->Prop}{E:az->aK->Prop}(hg:s.gens[g]? = ah gs)
  (go:sH M A Φ gs (s.setGen g .running)) (h:∀e s1,Φ e s1->e.genState.bare=aj->bL M A (k e.result) Q E (s1.setGen g e.genState)):bL M A (.resume g (.send .none) l k) Q E s:=by
 intro Γ p hΓ;rw[Sem.wp_resume]
 have out:∀{c p0 t fs e s1},Runs M (Γ.wake c p) p0 t fs (s.setGen g .running) e s1->e.quiet=aj->Φ e s1->Lz M Γ p g (.send .none) s e.result (s1.setGen g e.genState) ->
   ∃res s',Lz M Γ p g (.send .none) s res s'/\Sem.wp M Γ (k res) (λa _ s'=>Q a s') (λe _ s'=>E e s') p s':=λr q z wk=>⟨_,_,wk,h _ _ z (End.bare_of_quiet q) Γ p hΓ⟩
 cases gs with
 |fresh c=>
  obtain⟨e,s1,r,q,z⟩:=go (Γ.wake c p) p rfl (hΓ.wake c p);exact out r q z (by unfold Lz;rw[hg];exact⟨e,s1,r,q,rfl,rfl⟩)
 |suspended k0 l0 c0 p0 Cu cl=>
  obtain⟨e,s1,r,q,z⟩:=go (Γ.wake c0 p) p0 rfl (hΓ.wake c0 p);exact out r q z (by unfold Lz;rw[hg];exact⟨e,s1,r,q,rfl,rfl⟩)
 |running=>exact go.elim
 |finished=>exact go.elim
section
variable{P:bO}{w:bS}{A:bV}{E:az->aK->Prop}{s:aK}{Q:au az->aK->Prop}{a:aq}{g:Nat}{gs:Bb}{Φ:End->aK->Prop}
theorem zc8(hh:A.handled=ai) (hl:s.heap.NoLimit) (kY:A.depth<Bd) (hg:s.heap.IsGen a g) (CT:s.gens[g]? = ah gs) (go:sH (model P w) A.in1 Φ gs (s.setGen g .running))
  (hy:∀v b l k c p fs s1,Φ (.susp v b l k c p fs) s1->(End.susp v b l k c p fs).genState.bare=aj->Q (ah v) (s1.setGen g (End.susp v b l k c p fs).genState))
  (hr:∀f s1,Φ (.ret (.ok f)) s1->(f = .ret .none\/f = .next)/\∀h',(∀b o,s1.heap.get? b=ah o->h'.get? b=ah o)->Q ai { s1.setGen g .finished with heap:=h' })
  (he:∀e s1,Φ (.ret (.error e)) s1->s1.heap.IsGen a g/\L2.NotStop (model P w) e s1.heap/\E e (s1.setGen g .finished)):bL (model P w) A (Ly (.ref a)) Q E s:=by
 have ty:=hg.typeIs (s:=s);unfold Ly
 have wake:bL (model P w) A.in1 (Builtin.Generator.genWake (.ref a) (.send .none)) (λf s'=>match f with
   | .done (.ret v)=>Q (ah v) s'
   |_=>False) (λe s'=>(∃o:Obj,e = .ref o.slots.size/\False)\/(L2.NotStop (model P w) e s'.heap/\E e s') \/
    ∃x ox,e = .ref x/\s'.heap.get? x=ah ox/\ox.cls = .type "StopIteration" /\ Q ai s') s:=by
  unfold Builtin.Generator.genWake;refine c4 (Ep (wpAny_genNumber hg (c4 (wpAny_genState CT ?_))))
  rcases(show(∃c,gs = .fresh c)\/∃k l c p fs cl,gs = .suspended k l c p fs cl from by
   cases gs with
   |running=>exact go.elim
   |finished=>exact go.elim
   |fresh c=>exact .inl ⟨_,rfl⟩
   |suspended=>exact .inr ⟨_,_,_,_,_,_,rfl⟩) with⟨_,rfl⟩|⟨_,_,_,_,_,_,rfl⟩
  all_goals
   refine c4 (wpAny_roomToWake hl kY ?_);show bL _ A.in1 (.resume g (.send .none) [] _) _ _ s;refine zkv (Φ:=Φ) CT go λe s1 z bz=>?_
   cases e with
   |susp v b l k c p fs=>exact tJ (hy v b l k c p fs s1 z bz)
   |ret r=>
    cases r with
    |ok f=>
     obtain⟨hf,q⟩:=hr f s1 z;have er:End.result (.ret (.ok f)) = .returned .none:=by rcases hf with y|y <;> (rw[y];rfl)
     simp only[er];show bL _ A.in1 (newExc (.type "StopIteration") [] >>= _) _ _ _
     refine c4 ?_;unfold newExc newTuple;refine c4 (aiP (c4 (m:=aiQ _ _) (wpAny_of_eq (a:=Value.none) (by first|rfl|(simp only[aiQ];rfl)) (aiP ?_ (by size_fits)))) (by size_fits));simp only[raiseNew];refine c4 (c4 (wpAny_handled ?_))
     first|rw[show A.in1.handled=ai from hh]|rw[hh]
     exact LB (.inr (.inr ⟨_,_,rfl,Heap.get?_push_size _ rfl,rfl,q _ λb o y=>Heap.get?_push_of_some _ (Heap.get?_push_of_some _ y)⟩))
    |error e=>
     obtain⟨⟨o,nm,qn,ho,hc,hd,HU⟩,ns,q⟩:=he e s1 z;show bL _ A.in1 (Builtin.Generator.genLeft (.ref a) e) _ _ _;unfold Builtin.Generator.genLeft Builtin.Generator.madeByALambda;refine c4 (c4 (wpAny_load (o:=o) ho (tJ (c4 (ns _ _ _ _ rfl ?_)))));rw[Bool.and_false,aR LQ];unfold Builtin.Generator.genEscaped
     have t:bL (model P w) A.in1 (throw e:Sem fh) (λf s'=>match f with
       | .done (.ret v)=>Q (ah v) s'
       |_=>False) (λe s'=>(∃o:Obj,e = .ref o.slots.size/\False)\/(L2.NotStop (model P w) e s'.heap/\E e s') \/
        ∃x ox,e = .ref x/\s'.heap.get? x=ah ox/\ox.cls = .type "StopIteration" /\ Q ai s') (s1.setGen g .finished):=LB (.inr (.inl ⟨ns,q⟩))
     first
      |refine c4 (ns _ _ _ _ rfl ?_)
      |refine c4 (tJ (c4 (ns _ _ _ _ rfl ?_)))
     rw[aG (show(!ak)=aj from rfl)]
     first
      |exact t
      |exact c4 (LB (.inr (.inl ⟨ns,q⟩)))
 refine c4 (wpAny_attempt (wpAny_callSpecial?_slot (name:=Str.ofString "__next__") ty slot_gen_next (wpAny_call_entry slot_gen_next ty entry_gen_next ?_ (args_gen_next _))))
 refine eQ wake (λf s' z=>?_) λe s' z=>?_
 ·cases f with
  |done f=>
   cases f with
   |ret v=>exact⟨v,rfl,tJ z⟩
   |_=>exact z.elim
  |_=>exact z.elim
 ·rcases z with⟨_,_,z⟩|⟨ns,q⟩|⟨x,ox,rfl,hx,hc,q⟩
  ·exact z.elim
  ·refine c4 (ns _ _ _ _ rfl ?_)
   rw[aR LQ];exact LB q
  ·exact c4 (wpAny_isInstance (T := "StopIteration") (b:=aj) ⟨ox,hx,hc⟩ isSubtype_stop (tJ q))
end
end WL
end
section
namespace WL
open PySem PySem.Spec
open L2 hiding Takes XE CX PMk MkP ps_raise ps_try_as ps_try_many passAt passes_call takes_of HdsOk mk_of
open L2N (Takes XE CX PMk MkP ps_raise ps_try_as ps_try_many passAt passes_call takes_of HdsOk mk_of)
open PyProof.Rows hiding St
section
def Ju(n:Nat) (h:bj):bj:={ h with objs:=h.objs.extract 0 n }
theorem zmG{α:Type}(l:dH α) (n b:Nat):(l.extract 0 n)[b]? = if b<n then l[b]? else ai:=by
 rw[Array.getElem?_extract]
 by_cases q:b<n
 ·rw[aG q]
  by_cases z:b<l.size
  ·rw[aG (by omega),Nat.zero_add]
  ·rw[aR (by omega),Array.getElem?_eq_none (by omega)]
 ·rw[aR q,aR (by omega)]
theorem Oo{n:Nat}{h:bj}{b:aq}:(Ju n h).get? b=if b<n then h.get? b else ai:=by
 unfold Ju Heap.get?;dsimp only;rw[zmG]
 by_cases q:b<n
 ·rw[aG q,aG q]
 ·rw[aR q,aR q]
theorem zmH{n:Nat}{h:bj}{b:aq}{o:Obj}(e:(Ju n h).get? b=ah o):b<n/\h.get? b=ah o:=by
 rw[Oo]at e
 split at e
 ·exact⟨by assumption,e⟩
 ·cases e
theorem JP{n:Nat}{h:bj}{b:aq}{o:Obj}(q:b<n) (e:h.get? b=ah o):(Ju n h).get? b=ah o:=by rw[Oo,aG q];exact e
theorem Oq{n:Nat}{h:bj}:(Ju n h).objs.size<=n:=by
 show(h.objs.extract 0 n).size<=n;simp;omega
theorem Ot{n:Nat}{h:bj}(q:n<=h.objs.size):(Ju n h).objs.size=n:=by
 show(h.objs.extract 0 n).size=n;simp;omega
def yo(n:Nat) (h:bj):List aq:=(dh h.objs.size).filter (n <= ·)
theorem Ou{n:Nat}{h:bj}{b:aq}:b∈yo n h↔b<h.objs.size/\n<=b:=by simp[yo]
theorem CU{n:Nat}{h:bj}{b:aq}{o:Obj}(e:h.get? b=ah o) (d:b ∉ yo n h):b<n:=Nat.lt_of_not_le λq=>d (Ou.mpr ⟨Heap.lt_size e,q⟩)
theorem zkw{n:Nat}{fs:List aq}{H H':Hp}{h h':bj}(u:Un fs [] H H' (Ju n h) h'):Un fs (yo n h) H H' h h' where
 keep:=λb o e a c d=>u.keep b o (JP (CU e d) e) a c (by simp)
 slot:=λb o e a c d=>u.slot b o (JP (CU e d) e) a c (by simp)
 free:=λb o e a d=>u.free b o (JP (CU e d) e) a (by simp)
 there:=λb o e d=>u.there b o (JP (CU e d) e) (by simp)
 tups:=u.tups
 frzs:=u.frzs
 tbls:=u.tbls
theorem HV{X:Cx}{pins:List (aq×Obj)}{σ:L2.St}{H H':Hp}{s s':aK}{n:Nat}(I:Inv X pins σ H s) (hL:X.env.locals<n) (hc:∀x c,X.env.cells.lookup x=ah c->c<n) (hp:∀p∈X.pn++pins,p.1<n)
  (os:s'.os=s.os) (hb:Ew s'.gens) (u:Un (frs X.stack) [] H H' (Ju n s.heap) s'.heap) (hok:HOk X.prog X.w H' s'.heap):Inv X pins σ H' s':=
 I.call' (ch:=yo n s.heap) os (zkw u) hok hb λb hm=>by
  have q:=(Ou.mp hm).2;refine⟨.inr (b_ (b_ I.ok.above (mT hL)) q),λz=>?_,λx c e z=>?_,λp hh z=>?_⟩
  ·rw[z]at q;exact br (cu hL q) (tP _)
  ·have:=hc x c e
   rw[z]at this;exact br (cu this q) (tP _)
  ·have:=hp p hh
   rw[z]at this;exact br (cu this q) (tP _)
def cS(P:bO) (w:bS) (K:aT) (mg:Str->au az) (base:bj) (N:List Str) (env:Env) (A:bV) (outer:List Env) (s:aK) (H:Hp) (E:XK):Cx where
 prog:=P
 w:=w
 K:=K
 mg:=mg
 base:=base
 A:=A
 N:=N
 s_0:={ s with heap:=Ju env.locals s.heap }
 H_0:=H
 env:=env
 outer:=outer
 stack:=env :: outer
 ex:=[]
 fn:=λ_=>aj
 calm:=aj
 pn:=[]
 xe:=λe s'=>bL (model P w) A (leaving env e) (λ_ s''=>L2N.CX P w outer H { s with heap:=Ju env.locals s.heap } E e s'') (λ_ _=>False) s'
theorem ziO{P:bO}{w:bS}{K:aT}{mg:Str->au az}{base:bj}{N:List Str}{env:Env}{A:bV}{outer:List Env}{s:aK}{H:Hp}{E:XK}(hf:env.frame=ah env.locals) :
  L2N.Takes (cS P w K mg base N env A outer s H E) (λcls d _ H=>E cls d H):=takes_of rfl hf rfl rfl
structure pA(base:bj) (env:Env) (outer:List Env):Prop where
 kind:env.scope.kind = .function
 glob:env.globals=eP
 blt:env.builtins=Eg
 cells:env.cells=[]
 nk:∀x,¬(env.kindOf x=ah .cell\/env.kindOf x=ah .free)
 fr:env.frame=ah env.locals
 bsz:base.objs.size<=env.locals
 old:∀b∈frs outer,b<env.locals
def pB(N:List Str) (env:Env) (h:bj) (σ:L2.St):Prop:=∃m,h.Ns env.locals m/\∀(i:Nat) (x:Str) (v:V),N[i]? = ah x->σ[i]? = ah (ah v)->Vis env.scope x->∃u,RelV v u/\m x=ah u
theorem pB.at{N:List Str}{env:Env}{h h':bj}{σ:L2.St}(g:pB N env h σ) (k:∀o,h.get? env.locals=ah o->h'.get? env.locals=ah o):pB N env h' σ:=let ⟨m,a,b⟩:=g; ⟨m,a.at' k,b⟩
theorem Ov{base h:bj}{n:Nat}:∀{l:List Env},h.FunFrames base l->(∀b∈frs l,b<n)->(Ju n h).FunFrames base l
 |[],_,_=>True.intro
 |e :: l,⟨a,⟨L,o,hf,hn,ho,hd⟩,r⟩,q=>⟨a,⟨L,o,hf,hn,JP (q L (LR.mpr ⟨e,dk,hf⟩)) ho,hd⟩,Ov r λb hb=>q b (by
  obtain⟨x,hx,z⟩:=LR.mp hb;exact LR.mpr ⟨x,dy _ hx,z⟩)⟩
section
variable{P:bO}{w:bS}{K:aT}{mg:Str->au az}{base:bj}{N:List Str}{env:Env}{A Aw:bV}{outer:List Env}{s s1:aK}{H H1:Hp}{E:XK}{σ:L2.St}{pins:List (aq×Obj)}
theorem pA.VD(st:pA base env outer) {x:Str}(h:Vis env.scope x):env.kindOf x=ah .local:=by
 rcases h with h|h|h
 ·exact h
 ·exact br (.inl h) (st.nk x)
 ·exact br (.inr h) (st.nk x)
theorem Ow(st:pA base env outer) (e0:wb P w K mg base Aw outer s H) (hA:A.frames=ah (env :: outer)) (hh:A.handled=ai) (fr:pB N env s.heap σ) (nL:H env.locals=ai) (hlen:σ.length=N.length):Inv (cS P w K mg base N env A outer s H E) [] σ H s where
 ok:=
  { mod:=e0.mod,kind:=st.kind,glob:=st.glob,blt:=st.blt,above:=Oq,hd:=λ_=>hh,frames:=hA,stk:=.inr ⟨rfl,st.fr⟩,frf:=e0.frf
   ,inj:=λx y c e=>(by have e:env.cells.lookup x=ah c:=e;rw[st.cells]at e;exact(nomatch e))
   ,has:=λx e=>br e (st.nk x)
   ,cab:=λx c _ e=>(by have e:env.cells.lookup x=ah c:=e;rw[st.cells]at e;exact(nomatch e))
   ,exf:=λb hb=>(nomatch hb)
   ,exfs:=λb hb=>(nomatch hb)
   ,noex:=λb o _ hb=>(nomatch hb)
   ,bs:=λb o e=>⟨JP (cu (Heap.lt_size e) st.bsz) (e0.bs b o e).1,(e0.bs b o e).2⟩
   ,bsz:=(by obtain⟨m,hn,_⟩:=fr;show base.objs.size<=(Ju env.locals s.heap).objs.size;rw[Ot (mT hn.lt)];exact st.bsz)
   ,funs:=Ov e0.funs st.old }
 os:=rfl
 bare:=e0.bare
 base:=Un.kept λb o e=>(zmH e).2
 loc:=by
  obtain⟨m,hn,hv⟩:=fr;exact⟨m,hn,λi x v a b c=>let ⟨u,r,q⟩:=hv i x v a b c; ⟨u,r,.inl ⟨st.VD c,q⟩⟩⟩
 cell:=λx c e=>by
  have e:env.cells.lookup x=ah c:=e;rw[st.cells]at e;cases e
 free:=nL
 freeC:=λx c e=>by
  have e:env.cells.lookup x=ah c:=e;rw[st.cells]at e;cases e
 pin:=λp hp=>nomatch hp
 hok:=e0.hok
 len:=hlen
theorem zoC(st:pA base env outer) (I:Inv (cS P w K mg base N env A outer s H E) pins σ H1 s1):pB N env s1.heap σ:=by
 obtain⟨m,hn,hv⟩:=I.loc;refine⟨m,hn,λi x v a b c=>?_⟩;obtain⟨u,r,q⟩:=hv i x v a b c;rcases q with⟨_,q⟩|⟨q,_⟩
 ·exact⟨u,r,q⟩
 ·exact br q (st.nk x)
end
end
section
variable{T:Tab}
inductive iz where
 |fresh (ws:List W)
 |at(J:ZS) (i:Nat) (σ:Sg)
structure cN where
 n:Nat
 m1:SD
 mi:ID
 tg:GD
 m2:SD
 my:ED
 m4:SD
def cN.turn(p:cN) (J:ZS) (i:Nat) (σ:Sg) (g:G):Out (au (W×iz)):=
 if ZI J g then match J.ws[i]? with
  |none=>.ok ai g
  |some w=>(p.tg w σ g).bind λσ g=>match p.m2 σ g with
   | .nx σ g=>(p.my σ g).bind λv g=>.ok (ah (v,.at J (i+1) σ)) g
   | .ex c fs _ g=>.ex c fs g
   |_=>.bad
 else .bad
def cN.next(p:cN):iz->G->Out (au (W×iz))
 | .fresh ws,g=>match p.m1 (Zo p.n ws) g with
  | .nx σ g=>(p.mi σ g).bind λJ g=>p.turn J 0 σ g
  | .ex c fs _ g=>.ex c fs g
  |_=>.bad
 | .at J i σ,g=>match p.m4 σ g with
  | .nx σ g=>p.turn J i σ g
  | .ct σ g=>p.turn J i σ g
  | .rt .non g=>.ok ai g
  | .ex c fs _ g=>.ex c fs g
  |_=>.bad
structure yr(P:bO) (w:bS) (outer:List Env) (L:aq) (s:aK) (ρ:List aq) (H:Hp) (s1:aK) (ρ1:List aq) (H1:Hp):Prop where
 os:s1.os=s.os
 bare:Ew s1.gens
 un:Un (frs outer) [] H H1 (Ju L s.heap) s1.heap
 hok:HOk P w H1 s1.heap
 gr:qj ρ H ρ1 H1
def Ox(h:bj) (H:Hp) (L:aq) (fp:List aq):Prop:=∀b∈fp,(∃o,h.get? b=ah o/\∀v,o.data ≠ .cell v)/\H b=ai/\L<=b
def mD(P:bO) (w:bS) (T:Tab) (outer:List Env) (L:aq) (s:aK) (ρ:List aq) (H:Hp) (E:XK) (Sl:Bb->iz->List aq->bj->List aq->Hp->Prop) (Φ:End->aK->Prop):Out (au (W×iz))->Prop
 | .ok ai g=>∀s1 ρ1 H1,yr P w outer L s ρ H s1 ρ1 H1->RG T ρ1 H1 g->Φ (.ret (.ok (.ret .none))) s1
 | .ok (ah (v,st)) g=>∀u b l k c p fs s1 x ρ1 H1 fp,yr P w outer L s ρ H s1 ρ1 H1->RG T ρ1 H1 g->RW T ρ1 H1 v x->RelV x u->Ox s1.heap H1 L fp->Sl (End.susp u b l k c p fs).genState st fp s1.heap ρ1 H1->Φ (.susp u b l k c p fs) s1
 | .ex c fs g=>∀ρ1 H1 C d vs,qj ρ H ρ1 H1->RG T ρ1 H1 g->T.cls c=ah C->H1 d=ah (.xd vs)->RF T ρ1 H1 fs vs->E (.ref C) (ah d) H1
 | .bad=>False
def ZE(P:bO) (w:bS) (K:aT) (mg:Str->au az) (base:bj) (T:Tab) (A:bV) (outer:List Env) (L:aq) (p:cN):Nat->Bb->iz->List aq->bj->List aq->Hp->Prop
 |0,_,_,_,_,_,_=>True
 |k+1,gs,st,fp,h0,ρ0,H0=>∀(s:aK) (ρ:List aq) (H:Hp) (g:G) (E:XK) (Φ:End->aK->Prop),wb P w K mg base A outer s H->(∀b∈fp,∀o,h0.get? b=ah o->s.heap.get? b=ah o)->(∀b∈fp,H b=ai)->qj ρ0 H0 ρ H->RG T ρ H g ->
   (∀x s1,L2N.CX P w outer H { s with heap:=Ju L s.heap } E x s1->Φ (.ret (.error x)) s1)->mD P w T outer L s ρ H E (ZE P w K mg base T A outer L p k) Φ (p.next st g)->sH (model P w) A Φ gs s
def DD(T:Tab) (ρ:List aq) (H:Hp) (r:Fl):Ends where
 nx:=λσ' H'=>∃ρ' σw g,r = .nx σw g/\qj ρ H ρ' H'/\RG T ρ' H' g/\RS T ρ' H' σw σ'
 rt:=λv H'=>∃ρ' x g,r = .rt x g/\qj ρ H ρ' H'/\RG T ρ' H' g/\RW T ρ' H' x v
 bk:=λσ' H'=>∃ρ' σw g,r = .bk σw g/\qj ρ H ρ' H'/\RG T ρ' H' g/\RS T ρ' H' σw σ'
 ct:=λσ' H'=>∃ρ' σw g,r = .ct σw g/\qj ρ H ρ' H'/\RG T ρ' H' g/\RS T ρ' H' σw σ'
theorem HW{Wx:WX}{ρ:List aq}{H:Hp}{r:Fl}(hb:r ≠ .bad) (hx:∀c fs σ g,r = .ex c fs σ g->∀ρ' H' σ' C d vs,qj ρ H ρ' H'->RG T ρ' H' g->T.cls c=ah C->H' d=ah (.xd vs)->RF T ρ' H' fs vs->Wx (.ref C) (ah d) σ' H'):qZ T Wx (DD T ρ H r) ρ H r:=by
 cases r with
 |nx σw g=>exact λρ' H' σ' a b c=>⟨ρ',σw,g,rfl,a,b,c⟩
 |rt x g=>exact λρ' H' v a b c=>⟨ρ',x,g,rfl,a,b,c⟩
 |bk σw g=>exact λρ' H' σ' a b c=>⟨ρ',σw,g,rfl,a,b,c⟩
 |ct σw g=>exact λρ' H' σ' a b c=>⟨ρ',σw,g,rfl,a,b,c⟩
 |ex c fs σ g=>exact λρ' H' σ' C d vs a b _ e f k=>hx c fs σ g rfl ρ' H' σ' C d vs a b e f k
 |bad=>exact hb rfl
def QQ{α β:Type}(rel:List aq->Hp->α->β->Prop) (T:Tab) (ρ:List aq) (H:Hp) (r:Out α):β->Hp->Prop:=λb H'=>∃ρ' a g,r = .ok a g/\qj ρ H ρ' H'/\RG T ρ' H' g/\rel ρ' H' a b
theorem HX{α β:Type}{rel:List aq->Hp->α->β->Prop}{Wx:WX}{σ:L2.St}{ρ:List aq}{H:Hp}{r:Out α}(hb:r ≠ .bad) (hx:∀c fs g,r = .ex c fs g->∀ρ' H' C d vs,qj ρ H ρ' H'->RG T ρ' H' g->T.cls c=ah C->H' d=ah (.xd vs)->RF T ρ' H' fs vs->Wx (.ref C) (ah d) σ H'):zP rel T Wx σ ρ H (QQ rel T ρ H r) r:=by
 cases r with
 |ok a g=>exact λρ' H' b x y z=>⟨ρ',a,g,rfl,x,y,z⟩
 |ex c fs g=>exact λρ' H' C d vs x y z u v=>hx c fs g rfl ρ' H' C d vs x y z u v
 |bad=>exact hb rfl
section
variable{P:bO}{w:bS}{K:aT}{mg:Str->au az}{base:bj}{N:List Str}{env:Env}{A:bV}{outer:List Env}
theorem HY{X:Cx}{st:bh}{t:TS}{c:Bf}{fs:List ou}{Φ:End->aK->Prop}{F:Flow->Sem fh}{J:az->Sem fh}{gd lv}{pins:List (aq×Obj)}{σ:L2.St}{H:Hp}{s:aK}{D:Ends}(h:PS X st t) (ho:A.over c fs=X.A) (I:Inv X pins σ H s) (ht:t D σ H)
  (k:∀f s',SP X pins D f s'->aY (model X.prog X.w) A Φ c (F f) fs s') (kx:∀x s',X.xe x s'->aY (model X.prog X.w) A Φ c (J x) fs s'):aY (model X.prog X.w) A Φ c ((exec st X.env).wrap F J gd lv) fs s:=
 ZN (by rw[ho];exact eQ (h.run pins s σ H D I ht) k kx)
structure yt(P:bO) (w:bS) (K:aT) (mg:Str->au az) (base:bj) (N:List Str) (env:Env) (A:bV) (outer:List Env) (fs:List ou):Prop where
 over:∀tg it body,A.over (.forLoop tg it body [] env) fs=A.deeper env
 split:UD fs=ai
 guard:fs.any Frame.guarded=ak
 nx:∀{Φ:End->aK->Prop}{c s},Φ (.ret (.ok (.ret .none))) s->aY (model P w) A Φ c (.pure (.done .next)) fs s
 rt:∀{Φ:End->aK->Prop}{c s},Φ (.ret (.ok (.ret .none))) s->aY (model P w) A Φ c (.pure (.done (.ret .none))) fs s
 ex:∀{Φ:End->aK->Prop}{c s0 H E x s},cameBackBy (model P w) (A.deeper env) env (cS P w K mg base N env (A.deeper env) outer s0 H E).xe x s->(∀x s2,L2N.CX P w outer H { s0 with heap:=Ju env.locals s0.heap } E x s2->Φ (.ret (.error x)) s2) ->
  aY (model P w) A Φ c (.raise x) fs s
structure CV(T:Tab) (X:Cx) (Wx:WX) (p:cN) (tg:aN) (s2 s4:bh) (ye:aN):Prop where
 tg:PG X tg (LG T Wx p.tg)
 m2:PS X s2 (LS T Wx p.m2)
 my:PE X ye (LE T Wx p.my)
 m4:PS X s4 (LS T Wx p.m4)
abbrev WG(E:XK):WX:=λcls d _ H=>E cls d H
variable{fs:List ou}{Φ:End->aK->Prop}{s0:aK}{ρ0:List aq}{H0:Hp}{E:XK}
theorem Oy(F:yt P w K mg base N env A outer fs) {tg:aN}{it:az}{body:List bh}{x:az}{s:aK}(hx:(cS P w K mg base N env (A.deeper env) outer s0 H0 E).xe x s)
  (hΦ:∀x s1,L2N.CX P w outer H0 { s0 with heap:=Ju env.locals s0.heap } E x s1->Φ (.ret (.error x)) s1):aY (model P w) A Φ (.forLoop tg it body [] env) (Q6 env x) fs s:=by
 unfold Q6;refine ZN ?_;rw[F.over];exact c4 (eQ (lT (X:=cS P w K mg base N env (A.deeper env) outer s0 H0 E) rfl x s hx) (λ_ s1 z=>wpAny_theTreesLotGoes (F.ex z hΦ)) λy s1 z=>F.ex z hΦ)
theorem Inv.after{pins:List (aq×Obj)}{σ:L2.St}{H:Hp}{ρ:List aq}{s:aK}(I:Inv (cS P w K mg base N env A outer s0 H0 E) pins σ H s) (gr:qj ρ0 H0 ρ H):yr P w outer env.locals s0 ρ0 H0 s ρ H:=
 ⟨I.os,I.bare,I.base,I.hok,gr⟩
end
end
section
variable{T:Tab}
abbrev QG(s2 s4:bh) (ye:aN) (yp yq:Pos):List bh:=[s2,.Expr (.Yield (ah ye) yp) yq,s4]
def Oz(tg:aN) (it:az) (body:List bh) (env:Env):Flow->Sem fh:=λf=>match f with
 | .next| .cont=>.pure (.again (.forLoop tg it body [] env))
 | .brk=>.pure (.done .next)
 | .ret v=>.pure (.done (.ret v))
section
variable{P:bO}{w:bS}{K:aT}{mg:Str->au az}{base:bj}{N:List Str}{env:Env}{A:bV}{outer:List Env}{p:cN}{tg:aN}{s2 s4:bh}{ye:aN}{yp yq:Pos}{fs:List ou}
def OA(P:bO) (w:bS) (K:aT) (mg:Str->au az) (base:bj) (T:Tab) (N:List Str) (env:Env) (A:bV) (outer:List Env) (p:cN) (tg:aN) (s2 s4:bh) (ye:aN) (yp yq:Pos) (fs:List ou) (k:Nat):Prop:=
 ∀(it:aq) (fp:List aq) (tn:Nat->bj->Prop) (Jt:It) (J:ZS) (i:Nat) (σw:Sg) (σ:L2.St) (ρi:List aq) (Hi:Hp) (ρ:List aq) (H:Hp) (h:bj) (kk:Resume->Sem fh) (l:List az) (pp:Pos) (cl:aw),
  (∀Ψ z,aY (model P w) A Ψ (.forLoop tg (.ref it) (QG s2 s4 ye yp yq) [] env) ((execs [s4] env).wrap (Oz tg (.ref it) (QG s2 s4 ye yp yq) env) (Q6 env) id id) fs z->aY (model P w) A Ψ (.forLoop tg (.ref it) (QG s2 s4 ye yp yq) [] env) (kk (.send .none)) fs z) ->
  Turn P w K tg Jt fp it tn->tn i h->(∀b∈fp,b ≠ env.locals/\env.locals<=b)->ni T ρi Hi J Jt->qj ρi Hi ρ H->pB N env h σ->σ.length=N.length->RS T ρ H σw σ ->
   ZE P w K mg base T A outer env.locals p k (.suspended kk l (.forLoop tg (.ref it) (QG s2 s4 ye yp yq) [] env) pp fs cl) (.at J i σw) (env.locals :: fp) h ρ H
theorem OC{k:Nat}(F:yt P w K mg base N env A outer fs) (B:∀s0 H0 E,CV T (cS P w K mg base N env (A.deeper env) outer s0 H0 E) (WG E) p tg s2 s4 ye) (st:pA base env outer) (eV:env.scope.isCoroutine=ak) (hint:interactive env=ak)
  (S:OA P w K mg base T N env A outer p tg s2 s4 ye yp yq fs k) {Φ:End->aK->Prop}{s0:aK}{ρ0:List aq}{H0:Hp}{E:XK}{it:aq}{fp:List aq}{tn:Nat->bj->Prop}{Jt:It}{J:ZS}{i:Nat}{σw:Sg}{σ:L2.St}{ρi:List aq}{Hi:Hp}{ρ:List aq}{H:Hp}{g:G}{s:aK}
  (I:Inv (cS P w K mg base N env (A.deeper env) outer s0 H0 E) [] σ H s) (Tn:Turn P w K tg Jt fp it tn) (ht:tn i s.heap) (hf:∀b∈fp,FpOk (cS P w K mg base N env (A.deeper env) outer s0 H0 E) [] H b) (hL:∀b∈fp,env.locals<=b)
  (rel:ni T ρi Hi J Jt) (gi:qj ρi Hi ρ H) (g0:qj ρ0 H0 ρ H) (hs:RS T ρ H σw σ) (R:RG T ρ H g) (hX:∀x s1,L2N.CX P w outer H0 { s0 with heap:=Ju env.locals s0.heap } E x s1->Φ (.ret (.error x)) s1)
  (fit:mD P w T outer env.locals s0 ρ0 H0 E (ZE P w K mg base T A outer env.locals p k) Φ (p.turn J i σw g)) :
  aY (model P w) A Φ (.forLoop tg (.ref it) (QG s2 s4 ye yp yq) [] env) ((model P w).den (.forLoop tg (.ref it) (QG s2 s4 ye yp yq) [] env)) fs s:=by
 have b:=B s0 H0 E;have ox:∀x s',(cS P w K mg base N env (A.deeper env) outer s0 H0 E).xe x s'->aY (model P w) A Φ (.forLoop tg (.ref it) (QG s2 s4 ye yp yq) [] env) (Q6 env x) fs s':=λx s' hx=>Oy F hx hX;refine zmF ?_;rw[F.over];unfold cN.turn at fit
 split at fit
 ·rename_i dB
  cases hw:J.ws[i]? with
  |none=>
   rw[hw]at fit;refine eQ (Tn.done (cS P w K mg base N env (A.deeper env) outer s0 H0 E) rfl rfl rfl rfl i [] s σ H _ I hf ht (rel.stop ρ H g i gi R dB (by simpa using hw))) (λr s1 ⟨hr,I1⟩=>?_) ox;subst hr;exact zku (F.nx (fit s1 ρ H (Inv.after I1 g0) R))
  |some w0=>
   rw[hw]at fit
   have fit:mD P w T outer env.locals s0 ρ0 H0 E (ZE P w K mg base T A outer env.locals p k) Φ ((p.tg w0 σw g).bind λσ g=>match p.m2 σ g with
    | .nx σ g=>(p.my σ g).bind λv g=>.ok (ah (v,.at J (i+1) σ)) g
    | .ex c fs _ g=>.ex c fs g
    |_=>.bad):=fit
   refine eQ (Tn.item (cS P w K mg base N env (A.deeper env) outer s0 H0 E) rfl rfl rfl rfl i [] s σ H _ I hf ht (rel.go ρ H g i w0 gi R dB hw)) (λr s1 ⟨u,hr,h4⟩=>?_) ox;subst hr;refine eQ h4 (λ_ s5 ⟨x,H5,I5,r5,y5,t5,n5⟩=>?_) ox;obtain⟨ρ5,sd,R5,rw5⟩:=rel.yld ρ H g i w0 x H5 gi R dB hw y5;have f5:∀b∈fp,FpOk (cS P w K mg base N env (A.deeper env) outer s0 H0 E) [] H5 b:=λb hb=>⟨n5 b hb,(hf b hb).2⟩
   have I5':=I5.pinned f5 (Tn.obj _ _ t5)
   have sr:p.tg w0 σw g ≠ .bad:=λe=>by
    rw[e]at fit;exact fit
   refine eQ (b.tg.run _ s5 σ H5 x u _ I5' r5 ⟨ρ5,w0,σw,g,rw5,hs.mono sd _ _,R5,HX (rel:=xk T) sr λc gM g' e ρ' H' C d vs a1 a2 a3 a4 a5=>by
    rw[e]at fit;exact fit ρ' H' C d vs ((g0.trans sd).trans a1) a2 a3 a4 a5⟩) (λ_ s6 z=>?_) ox
   obtain⟨σ6,H6,I6,ρ6,σ6w,g6,e6,lq,R6,hs6⟩:=z;rw[e6]at fit
   have fit:mD P w T outer env.locals s0 ρ0 H0 E (ZE P w K mg base T A outer env.locals p k) Φ (match p.m2 σ6w g6 with
    | .nx σ g=>(p.my σ g).bind λv g=>.ok (ah (v,.at J (i+1) σ)) g
    | .ex c fs _ g=>.ex c fs g
    |_=>.bad):=fit
   have OD:qj ρ0 H0 ρ6 H6:=(g0.trans sd).trans lq;refine yn (HY (X:=cS P w K mg base N env (A.deeper env) outer s0 H0 E) (D:=DD T ρ6 H6 (p.m2 σ6w g6)) b.m2 (F.over _ _ _) I6 ⟨ρ6,σ6w,g6,hs6,R6,HW (λe=>?_) λc gM σ' g' e ρ' H' σ'' C d vs a1 a2 a3 a4 a5=>?_⟩ (λf s7 gn=>?_) ox)
   ·rw[e]at fit;exact fit
   ·rw[e]at fit
    exact fit ρ' H' C d vs (OD.trans a1) a2 a3 a4 a5
   cases f with
   |next=>
    obtain⟨σ7,H7,I7,ρ7,σ7w,g7,e7,lA,R7,pC⟩:=gn;rw[e7]at fit;have fit:mD P w T outer env.locals s0 ρ0 H0 E (ZE P w K mg base T A outer env.locals p k) Φ ((p.my σ7w g7).bind λv g=>.ok (ah (v,.at J (i+1) σ7w)) g):=fit;have OE:qj ρ0 H0 ρ7 H7:=OD.trans lA;show aY _ A Φ _ ((execs [.Expr (.Yield (ah ye) yp) yq,s4] env).wrap (Oz tg (.ref it) (QG s2 s4 ye yp yq) env) (Q6 env) id id) fs s7;refine yn (zkt F.split rfl F.guard ?_ eV hint);rw[F.over]
    have sx:p.my σ7w g7 ≠ .bad:=λe=>by
     rw[e]at fit;exact fit
    refine eQ (b.my.run _ s7 σ7 H7 _ I7 ⟨ρ7,σ7w,g7,pC,R7,HX (rel:=bf T) sx λc gM g' e ρ' H' C d vs a1 a2 a3 a4 a5=>by
     rw[e]at fit;exact fit ρ' H' C d vs (OE.trans a1) a2 a3 a4 a5⟩) (λv s8 hv=>?_) ox
    obtain⟨x8,H8,I8,rv8,ρ8,w8,g8,e8,yu,R8,rw8⟩:=hv;intro l kk pp hk;rw[e8]at fit;have OF:=zoC st I8;have t8:tn (i+1) s8.heap:=Tn.keep _ _ _ t5 λb hb o e=>(I8.pin (b,o) (mU _ (mU _ (LD hb e)))).1;refine fit v ak l kk _ pp fs s8 x8 ρ8 H8 (env.locals :: fp) (Inv.after I8 (OE.trans yu)) R8 rw8 rv8 (λb hb=>?_) ?_
    ·rcases cJ.mp hb with e|hb
     ·subst e
      obtain⟨m,⟨o,es,ep,ho,hd,_⟩,_⟩:=OF;exact⟨⟨o,ho,λv z=>by rw[hd]at z;cases z⟩,I8.free,bC _⟩
     ·obtain⟨o,e,d⟩:=Tn.obj _ _ t5 b hb
      exact⟨Tn.obj _ _ t8 b hb,(I8.pin (b,o) (mU _ (mU _ (LD hb e)))).2.1,hL b hb⟩
    ·exact S it fp tn Jt J (i+1) σ7w σ7 ρi Hi ρ8 H8 s8.heap kk l pp _ hk Tn t8 (λb hb=>⟨(hf b hb).2.1,hL b hb⟩) rel ((((gi.trans sd).trans lq).trans lA).trans yu) OF I8.len (pC.mono yu _ _)
   |brk=>
    obtain⟨_,_,_,_,_,_,e7,_⟩:=gn;rw[e7]at fit;exact False.elim fit
   |cont=>
    obtain⟨_,_,_,_,_,_,e7,_⟩:=gn;rw[e7]at fit;exact False.elim fit
   |ret u=>
    obtain⟨_,_,_,_,_,_,_,_,e7,_⟩:=gn;rw[e7]at fit;exact False.elim fit
 ·exact False.elim fit
theorem OG(F:yt P w K mg base N env A outer fs) (B:∀s0 H0 E,CV T (cS P w K mg base N env (A.deeper env) outer s0 H0 E) (WG E) p tg s2 s4 ye) (st:pA base env outer) (eV:env.scope.isCoroutine=ak) (hint:interactive env=ak)
  (hA:(A.deeper env).frames=ah (env :: outer)) (hh:A.handled=ai):∀k,OA P w K mg base T N env A outer p tg s2 s4 ye yp yq fs k
 |0=>λit fp tn Jt J i σw σ ρi Hi ρ H h kk l pp cl _ _ _ _ _ _ _ _ _=>True.intro
 |k+1=>by
  intro it fp tn Jt J i σw σ ρi Hi ρ H h kk l pp cl hk Tn ht hp rel gi fr hlen hs;intro s0 ρ0 H0 g E Φ e0 keep none_ gr R hX fit;have b:=B s0 H0 E;refine hk Φ s0 ?_;have I:=Ow (E:=E) st e0 hA hh (fr.at (keep _ dk)) (none_ _ dk) hlen;have t0:tn i s0.heap:=Tn.keep _ _ _ ht λb hb=>keep b (dy _ hb)
  have f0:∀{H':Hp},(∀b∈fp,H' b=ai)->∀b∈fp,FpOk (cS P w K mg base N env (A.deeper env) outer s0 H0 E) [] H' b:=λn b hb=>by
   refine⟨n b hb,(hp b hb).1,λz=>br (cu (st.old b z) (hp b hb).2) (tP _),.inr (b_ Oq (hp b hb).2),λx c e=>?_,λq hq=>nomatch hq⟩;have e:env.cells.lookup x=ah c:=e;rw[st.cells]at e;cases e
  have n0:∀b∈fp,H0 b=ai:=λb hb=>none_ b (dy _ hb);have I':=I.pinned (f0 n0) (Tn.obj _ _ t0);have ox:∀x s',(cS P w K mg base N env (A.deeper env) outer s0 H0 E).xe x s'->aY (model P w) A Φ (.forLoop tg (.ref it) (QG s2 s4 ye yp yq) [] env) (Q6 env x) fs s':=λx s' hx=>Oy F hx hX
  have fit:mD P w T outer env.locals s0 ρ0 H0 E (ZE P w K mg base T A outer env.locals p k) Φ (match p.m4 σw g with
   | .nx σ g=>p.turn J i σ g
   | .ct σ g=>p.turn J i σ g
   | .rt .non g=>.ok ai g
   | .ex c fs _ g=>.ex c fs g
   |_=>.bad):=fit
  have on:∀{σ7:L2.St}{H7:Hp}{ρ7:List aq}{σ7w:Sg}{g7:G}{s7:aK},Inv (cS P w K mg base N env (A.deeper env) outer s0 H0 E) ([]++pinsAt fp s0.heap) σ7 H7 s7->qj ρ0 H0 ρ7 H7->RG T ρ7 H7 g7->RS T ρ7 H7 σ7w σ7 ->
    mD P w T outer env.locals s0 ρ0 H0 E (ZE P w K mg base T A outer env.locals p k) Φ (p.turn J i σ7w g7)->aY (model P w) A Φ (.forLoop tg (.ref it) (QG s2 s4 ye yp yq) [] env) (.pure (.again (.forLoop tg (.ref it) (QG s2 s4 ye yp yq) [] env))) fs s7:=
   λ{σ7 H7 ρ7 σ7w g7 s7} I7 lA R7 pC fit=>by
    refine Ol rfl (OC F B st eV hint (OG F B st eV hint hA hh k) I7.unpinned Tn (Tn.keep _ _ _ t0 λb hb o e=>(I7.pin (b,o) (mU _ (mU _ (LD hb e)))).1) (f0 λb hb=>?_) (λb hb=>(hp b hb).2) rel ((gi.trans gr).trans lA) lA pC R7 hX fit);obtain⟨o,e,d⟩:=Tn.obj _ _ t0 b hb;exact(I7.pin (b,o) (mU _ (mU _ (LD hb e)))).2.1
  refine yn (HY (X:=cS P w K mg base N env (A.deeper env) outer s0 H0 E) (D:=DD T ρ0 H0 (p.m4 σw g)) b.m4 (F.over _ _ _) I' ⟨ρ0,σw,g,hs.mono gr _ _,R,HW (λe=>?_) λc gM σ' g' e ρ' H' σ'' C d vs a1 a2 a3 a4 a5=>?_⟩ (λf s7 gn=>?_) ox)
  ·rw[e]at fit;exact fit
  ·rw[e]at fit
   exact fit ρ' H' C d vs a1 a2 a3 a4 a5
  cases f with
  |next=>
   obtain⟨σ7,H7,I7,ρ7,σ7w,g7,e7,lA,R7,pC⟩:=gn;rw[e7]at fit;exact on I7 lA R7 pC fit
  |cont=>
   obtain⟨σ7,H7,I7,ρ7,σ7w,g7,e7,lA,R7,pC⟩:=gn;rw[e7]at fit;exact on I7 lA R7 pC fit
  |brk=>
   obtain⟨_,_,_,_,_,_,e7,_⟩:=gn;rw[e7]at fit;exact False.elim fit
  |ret u=>
   obtain⟨v7,σ7,H7,I7,rv7,ρ7,w7,g7,e7,lA,R7,rw7⟩:=gn;rw[e7]at fit
   cases w7 with
   |non=>
    have e:v7 = .non:=by simpa only[RW] using rw7
    subst e;have e:u=Value.none:=rv7;subst e;exact F.rt (fit s7 ρ7 H7 (Inv.after I7 lA) R7)
   |_=>exact False.elim fit
end
end
section
variable{T:Tab}
def yv:Flow->Sem fh:=λf=>.pure (.done (.ret (match f with| .ret v=>v|_=>.none)))
def lB(env:Env):az->Sem fh:=λe=>(leaving env e).wrap (λ_=>.raise e) .raise id id
def OH(env:Env):Flow->Sem fh:=λf=>match f with
 | .next=>(execs [] env).wrap yv (lB env) id id
 |f=>yv f
def OI(env:Env) (body:List bh) (p:Pos):ou:=
 .ret (λr=>((match r with| .ok f=>(.pure f:Sem Flow)| .error e=>.raise e).onRaise (L2.cameBack env)).wrap (OH env) (lB env) id id) ai (id ak) (id []) (.func body env) p []
section
variable{P:bO}{w:bS}{K:aT}{mg:Str->au az}{base:bj}{N:List Str}{env:Env}{A:bV}{outer:List Env}{Φ:End->aK->Prop}{s:aK}
theorem zmI{body:List bh}{fs:List ou}(h:aY (model P w) A Φ (.func body env) ((execs body env).wrap yv (lB env) id id) fs s):aY (model P w) A Φ (.func body env) ((model P w).den (.func body env)) fs s:=by
 have e:∀x,((leaving env x).bind λ_=>(.raise x:Sem Flow)).wrap (λf:Flow=>match f with| .ret v=>ret v|_=>ret Value.none) .raise id id=lB env x:=λx=>by
  unfold lB;rw[Sem.bind_eq_wrap,Sem.wrap_wrap];rfl
 show aY _ A Φ _ (.point [] λ_=>((execs body env).onRaise (leaving env)) >>= λf=>match f with| .ret v=>ret v|_=>ret Value.none) fs s;refine zks ?_;rw[Sem.onRaise_eq_wrap,Sem.bind_eq_wrap',Sem.wrap_wrap];have q:=Sem.wrap_congr (execs body env) (K:=λa=>Sem.wrap (λf:Flow=>match f with| .ret v=>ret v|_=>ret Value.none) Sem.raise id id (Sem.pure a)) (K':=yv) (H:=λx=>((leaving env x).bind λ_=>(.raise x:Sem Flow)).wrap (λf:Flow=>match f with| .ret v=>ret v|_=>ret Value.none) .raise id id) (H':=lB env) id id (λf=>by cases f <;> rfl) e;exact q ▸ h
theorem HZ{body:List bh}{x:az}{s0:aK}{H0:Hp}{E:XK}(hx:(cS P w K mg base N env (A.deeper env) outer s0 H0 E).xe x s) (hΦ:∀x s1,L2N.CX P w outer H0 { s0 with heap:=Ju env.locals s0.heap } E x s1->Φ (.ret (.error x)) s1) :
  aY (model P w) A Φ (.func body env) (lB env x) [] s:=by
 unfold lB;refine ZN ?_;rw[GenW.over_func];exact eQ hx (λ_ s2 c=>HQ (.error x) (hΦ x s2 c)) λ_ _ z=>z.elim
theorem frK{body:List bh}{q:Pos}:yt P w K mg base N env A outer [OI env body q] where
 over:=λtg it b=>(GenW.over_loop rfl rfl).trans GenW.over_func
 split:=rfl
 guard:=rfl
 nx:=λh=>HP (.ok .next) (HQ (.ok (.ret .none)) h)
 rt:=λh=>HP (.ok (.ret .none)) (HQ (.ok (.ret .none)) h)
 ex:=λ{Φ c s0 H E x s} h hΦ=>by
  refine HP (.error x) ?_;show aY _ A Φ _ (((L2.cameBack env x).bind λ_=>(Sem.raise x:Sem Flow)).wrap (OH env) (lB env) id id) [] s;rw[Sem.bind_eq_wrap,Sem.wrap_wrap];refine ZN ?_;rw[GenW.over_func];exact eQ h (λ_ s2 hx=>HZ hx hΦ) λy s2 hx=>HZ hx hΦ
structure OJ(T:Tab) (X:Cx) (Wx:WX) (p:cN) (tg iter:aN) (d1:bh):Prop where
 m1:PS X d1 (LS T Wx p.m1)
 mi:PI X tg iter (LI T Wx p.mi)
variable{p:cN}{tg iter:aN}{d1 s2 s4:bh}{ye:aN}{yp yq uv:Pos}
theorem zeK(B0:∀s0 H0 E,OJ T (cS P w K mg base N env (A.deeper env) outer s0 H0 E) (WG E) p tg iter d1) (B:∀s0 H0 E,CV T (cS P w K mg base N env (A.deeper env) outer s0 H0 E) (WG E) p tg s2 s4 ye) (st:pA base env outer) (eV:env.scope.isCoroutine=ak) (hint:interactive env=ak)
  (hA:(A.deeper env).frames=ah (env :: outer)) (hh:A.handled=ai) (yw:∀x,tG iter env x=pure x) {h:bj}{ρ:List aq}{H:Hp}{ws:List W}{σ:L2.St}(fr:pB N env h σ) (hlen:σ.length=N.length) (hs:RS T ρ H (Zo p.n ws) σ) :
  ∀k,ZE P w K mg base T A outer env.locals p k (.fresh (.func [d1,.For tg iter (QG s2 s4 ye yp yq) [] uv] env)) (.fresh ws) [env.locals] h ρ H
 |0=>True.intro
 |k+1=>by
  intro s0 ρ0 H0 g E Φ e0 keep none_ gr R hX fit;have b:=B0 s0 H0 E;have lt0:env.locals<s0.heap.objs.size:=let ⟨_,hn,_⟩:=fr.at (keep _ dk);hn.lt;have I:=Ow (E:=E) st e0 hA hh (fr.at (keep _ dk)) (none_ _ dk) hlen;have ox:∀x s',(cS P w K mg base N env (A.deeper env) outer s0 H0 E).xe x s'->aY (model P w) A Φ (.func [d1,.For tg iter (QG s2 s4 ye yp yq) [] uv] env) (lB env x) [] s':=λx s' hx=>HZ hx hX
  have fit:mD P w T outer env.locals s0 ρ0 H0 E (ZE P w K mg base T A outer env.locals p k) Φ (match p.m1 (Zo p.n ws) g with
   | .nx σ g=>(p.mi σ g).bind λJ g=>p.turn J 0 σ g
   | .ex c fs _ g=>.ex c fs g
   |_=>.bad):=fit
  have never:∀{Q:Prop},mD P w T outer env.locals s0 ρ0 H0 E (ZE P w K mg base T A outer env.locals p k) Φ .bad->Q:=λz=>False.elim z;refine zmI (yn (HY (X:=cS P w K mg base N env (A.deeper env) outer s0 H0 E) (D:=DD T ρ0 H0 (p.m1 (Zo p.n ws) g)) b.m1 GenW.over_func I ⟨ρ0,_,g,hs.mono gr _ _,R,HW (λe=>?_) λc gM σ' g' e ρ' H' σ'' C d vs a1 a2 a3 a4 a5=>?_⟩ (λf s8 gn=>?_) ox))
  ·rw[e]at fit;exact fit
  ·rw[e]at fit
   exact fit ρ' H' C d vs a1 a2 a3 a4 a5
  cases f with
  |brk=>obtain⟨_,_,_,_,_,_,e8,_⟩:=gn;rw[e8]at fit;exact never fit
  |cont=>obtain⟨_,_,_,_,_,_,e8,_⟩:=gn;rw[e8]at fit;exact never fit
  |ret u=>obtain⟨_,_,_,_,_,_,_,_,e8,_⟩:=gn;rw[e8]at fit;exact never fit
  |next=>
   obtain⟨σ8,H8,I8,ρ8,σ8w,g8,e8,yu,R8,OK⟩:=gn;rw[e8]at fit;have fit:mD P w T outer env.locals s0 ρ0 H0 E (ZE P w K mg base T A outer env.locals p k) Φ ((p.mi σ8w g8).bind λJ g=>p.turn J 0 σ8w g):=fit;have OL:qj ρ0 H0 ρ8 H8:=yu;show aY _ A Φ _ ((execs [.For tg iter (QG s2 s4 ye yp yq) [] uv] env).wrap yv (lB env) id id) [] s8
   have hb:p.mi σ8w g8 ≠ .bad:=λe=>by
    rw[e]at fit;exact fit
   refine yn (zoB ?_ yw);rw[GenW.over_func]
   refine eQ (b.mi.run _ s8 σ8 H8 _ I8 ⟨ρ8,σ8w,g8,OK,R8,HX (rel:=λρ H (a:ZS) (b:It)=>ni T ρ H a b) hb λc gM g' e ρ' H' C d vs a1 a2 a3 a4 a5=>by
    rw[e]at fit;exact fit ρ' H' C d vs (OL.trans a1) a2 a3 a4 a5⟩) (λx s9 h9=>eQ h9 (λitv bZ CW=>?_) ox) ox
   obtain⟨it,fp,tn,Jt,H10,eit,I10,Tn,H9,OM,ρ10,J,g10,H_,MR,R10,rel⟩:=CW;subst eit;intro q;rw[H_]at fit;have F:yt P w K mg base N env A outer [OI env [d1,.For tg iter (QG s2 s4 ye yp yq) [] uv] q]:=frK;refine OC F B st eV hint (OG F B st eV hint hA hh k) I10 Tn H9 OM (λb hb=>?_) rel .refl (OL.trans MR) (OK.mono MR _ _) R10 hX fit;obtain⟨_,_,_,z,_⟩:=OM b hb;rcases z with z|z
   ·exact nomatch z
   ·have z:(Ju env.locals s0.heap).objs.size<=b:=z
    rw[Ot (mT lt0)]at z;exact z
end
end
section
variable{T:Tab}
def GMk(P:bO) (w:bS) (K:aT) (mg:Str->au az) (base:bj) (T:Tab) (k:Nat) (outer:List Env) (p:cN) (s:aK) (ρ:List aq) (H:Hp) (ws:List W) (u:az) (s1:aK):Prop:=
 ∃(a:aq) (gi:Nat) (c:Bf) (go:Obj),u = .ref a/\s.heap.objs.size<a/\(∀h:bj,h.get? a=ah go->h.IsGen a gi)/\(∀v,go.data ≠ .cell v)/\s1.heap.get? a=ah go/\s1.gens[gi]? = ah (.fresh c)/\s1.os=s.os/\Ew s1.gens /\
  (∀b o,s.heap.get? b=ah o->s1.heap.get? b=ah o)/\(∃o,s1.heap.get? s.heap.objs.size=ah o/\∀v,o.data ≠ .cell v) /\
   ∀Aw kk,Room k Aw->Aw.frames=ah outer->ZE P w K mg base T Aw outer s.heap.objs.size p kk (.fresh c) (.fresh ws) [s.heap.objs.size] s1.heap ρ H
section
variable{P:bO}{w:bS}{K:aT}{mg:Str->au az}{base:bj}
def GOk(P:bO) (w:bS) (K:aT) (mg:Str->au az) (base:bj) (T:Tab) (k:Nat) (f:aq) (fd:oi) (ps:List Str) (p:cN):Prop:=
 ∀(A:bV) (outer:List Env) (s:aK) (H:Hp) (args:Args) (us:List az) (vs:List V) (ws:List W) (ρ:List aq),Room k A->wb P w K mg base A outer s H->Lw s fd args (ps.zip us)->n_ vs us->aD T ρ H ws vs->ws.length=ps.length ->
  Be (model P w) A (.call (.ref f) args) (λr s1=>match r with| .ok (.ret u)=>GMk P w K mg base T k outer p s ρ H ws u s1|_=>False) s
structure Ia(P:bO) (w:bS) (K:aT) (mg:Str->au az) (base:bj) (T:Tab) (k:Nat) (f:aq) (n:Nat) (p:cN):Prop where
 ok:∃fd ps,GOk P w K mg base T k f fd ps p/\Binds K fd ps []/\ps.length=n
 kp:iL K (.ref f)=aj
theorem zmJ [jJ T] [j2 T] {x qual:Str}{st:bh}{f:aq}{N ps:List Str}{k n:Nat}{p:cN}{tg iter:aN}{d1 s2 s4:bh}{ye:aN}{yp yq uv:Pos}(h:∃fd,Fun K x qual st f fd/\Binds K fd ps []) (hbd:cI st=[d1,.For tg iter (QG s2 s4 ye yp yq) [] uv])
  (hB:∀(aO:az) (A:bV) (outer:List Env) (L:aq),Room k (A.deeper (iK qual (aU st) L f aO))->∀s0 H0 E,Takes (cS P w K mg base N (iK qual (aU st) L f aO) (A.deeper (iK qual (aU st) L f aO)) outer s0 H0 E) (WG E)->N.Nodup ->
   OJ T (cS P w K mg base N (iK qual (aU st) L f aO) (A.deeper (iK qual (aU st) L f aO)) outer s0 H0 E) (WG E) p tg iter d1/\CV T (cS P w K mg base N (iK qual (aU st) L f aO) (A.deeper (iK qual (aU st) L f aO)) outer s0 H0 E) (WG E) p tg s2 s4 ye)
  (hpn:p.n=N.length) (ON:∀m,UK m (aU st).names []=[]) (yw:∀(env:Env) (x:az),tG iter env x=pure x) (S:GScope N ps (aU st)) (hn:ps.length=n):Ia P w K mg base T (k+1) f n p:=by
 obtain⟨fd,F,hbi⟩:=h;refine⟨⟨fd,ps,?_,hbi,hn⟩,F.kp⟩;obtain⟨oc,od,kV,doc,pm,an,aO,ct,b9,rfl,lk,gj⟩:=F.ex;intro A outer s H args us vs ws ρ hr e0 hb rv eJ eu;have hl:vs.length=ps.length:=by rw[<- eJ.length,eu]
 have kx:K.In s.heap:=e0.mod.kin.keeps λb o e=>(e0.bs b o e).1;have lim:s.heap.NoLimit:=e0.mod.nolimit.keeps λb o e=>(e0.bs b o e).1
 have kinds:∀y∈ps.zip us,(aU st).names.lookup y.1=ah .local\/((aU st).names.lookup y.1=ah .cell/\((UK (s.heap.objs.size+1) (aU st).names []).lookup y.1).isSome=aj):=λy hy=>by
  rcases S.par y.1 (List.of_mem_zip (a:=y.1) (b:=y.2) hy).1 with q|q
  ·exact .inl q
  ·exact .inr ⟨q,W.cellsFrom_some _ _ _ (.inl q)⟩
 refine codeAny_call_generator hr.depth (kx _ _ lk) rfl S.co S.gen rfl (W.codeRec_of kx gj) (hb _ _ _ _ (wpAny_newFunctionEnv_cells S.kind kinds λenv he s1 x=>?_));subst he;have I1:Inv (gcxOf P w K mg base N qual (aU st) f aO A outer s H (λ_ _ _=>False) []) [] (start N vs) H s1:=inv_startG S hr.hd e0 hl rv x;have kp:=x.toInCall.keep;have lt1:s.heap.objs.size<s1.heap.objs.size:=x.toInCall.ns.lt;obtain⟨h1,tk,OO,_⟩:=x.done
 refine⟨lim.keeps kp,s1.heap.objs.size,s1.gens.size,_,_,rfl,lt1,λh e=>⟨_,_,_,e,rfl,rfl,rfl⟩,λv z=>(by cases z),Heap.get?_push_size _ rfl,Array.getElem?_push_size ..,by rw[OO],AllBare.push (by rw[OO];exact e0.bare) rfl,
  λb o e=>Heap.get?_push_of_some _ (kp b o e),?_,λAw kk OP hfr=>?_⟩
 ·obtain⟨m,⟨o,es,ep,ho,hd,_⟩,_⟩:=I1.loc
  exact⟨o,Heap.get?_push_of_some _ ho,λv z=>by rw[hd]at z;cases z⟩
 have gT:pA base (iK qual (aU st) s.heap.objs.size f aO) outer:=
  { kind:=I1.ok.kind,glob:=I1.ok.glob,blt:=I1.ok.blt,cells:=ON _,fr:=rfl,bsz:=e0.bsz
   ,nk:=λy z=>(by obtain⟨c,e⟩:=I1.ok.has y z;have e:(UK (s.heap.objs.size+1) (aU st).names []).lookup y=ah c:=e;rw[ON]at e;exact(nomatch e))
   ,old:=λb hm=>(by obtain⟨_,o,ho,_⟩:=e0.funs.mem hm;exact Heap.lt_size ho) }
 have fr0:pB N (iK qual (aU st) s.heap.objs.size f aO) s1.heap (start N vs):=by
  obtain⟨m,Ib,hv⟩:=I1.loc;refine⟨m,Ib,λi y v a b c=>?_⟩;obtain⟨u,r,q⟩:=hv i y v a b c;rcases q with⟨_,q⟩|⟨q,_⟩
  ·exact⟨u,r,q⟩
  ·exact br q (gT.nk y)
 show ZE P w K mg base T Aw outer (iK qual (aU st) s.heap.objs.size f aO).locals p kk (.fresh (.func (cI st) (iK qual (aU st) s.heap.objs.size f aO))) (.fresh ws) _ _ ρ H;rw[hbd];have B:=λs0 H0 E=>hB aO Aw outer s.heap.objs.size (OP.deeper _) s0 H0 E (ziO rfl) S.nd;refine zeK (λs0 H0 E=>(B s0 H0 E).1) (λs0 H0 E=>(B s0 H0 E).2) gT S.co (by simp[interactive,gT.kind]) ?_ OP.hd (yw _) (fr0.at λo e=>Heap.get?_push_of_some _ e) I1.len ?_ kk
 ·simp[Around.deeper,hfr]
 ·rw[hpn]
  exact G6 eJ
end
end
section
variable{T:Tab}
section
variable{X:Cx}{pins:List (aq×Obj)}{σ:L2.St}{H:Hp}{s s1:aK}
theorem CY(I:Inv X pins σ H s) (hh:s1.heap=s.heap) (os:s1.os=s.os) (hb:Ew s1.gens):Inv X pins σ H s1:=
 I.call' (ch:=[]) os (Un.kept λb o e=>by rw[hh];exact e) (by rw[hh];exact I.hok) hb λb z=>nomatch z
theorem OQ{E:az->aK->Prop}{Q:az->aK->Prop}{i:Nat}{x:Str}{v:V}{pos:Pos}(I:Inv X pins σ H s) (hN:X.N[i]? = ah x) (hk:X.env.kindOf x=ah .local) (hv:σ[i]? = ah (ah v)) (q:∀u,RelV v u->Q u s) (hd:(x == ("__debug__" : Str))=ak:=by decide) :
  bL (model X.prog X.w) X.A (eval (.Name x pos) X.env) Q E s:=by
 obtain⟨m,hn,hl⟩:=I.loc;obtain⟨u,r,l⟩:=hl i x v hN hv (.inl hk);rcases l with⟨_,hm⟩|⟨z,_⟩
 ·exact wpAny_Name (ait I.ok.kind hk hn hm (q u r)) hd
 ·rw[hk]at z
  rcases z with z|z <;> cases z
theorem zmK{M:wg}{A:bV}{E:az->aK->Prop}{Q:ax->aK->Prop}{i:Nat}{x:Str}{v:V}{u:az}(I:Inv X pins σ H s) (hN:X.N.Nodup) (hi:X.N[i]? = ah x) (hk:X.env.kindOf x=ah .local) (r:RelV v u)
  (q:∀h' tk,Heap.SameBut X.env.locals s.heap h'->Inv X pins (σ.set i (ah v)) H { s with heap:=h',toks:=tk }->Q () { s with heap:=h',toks:=tk }):bL M A (storeName X.env x u) Q E s:=by
 obtain⟨m,hn,hl⟩:=id I.loc;have uV:i<σ.length:=by rw[I.len];exact(bP.mp hi).1
 have other:∀{h':bj},Heap.SameBut X.env.locals s.heap h'->∀b o,b ≠ X.env.locals->s.heap.get? b=ah o->h'.get? b=ah o:=λhs b o hb e=>(hs.2 b hb).trans e;have old:∀b o,X.s_0.heap.get? b=ah o->b ≠ X.env.locals:=λb o e=>tO (cu (Heap.lt_size e) I.ok.above);refine wpAny_storeName_local hk hn (λh' Ib hs=>q h' _ hs ?_) (by rw[I.ok.kind];rfl)
 refine
  { ok:=I.ok,os:=I.os,bare:=I.bare,free:=I.free,freeC:=I.freeC
   ,base:=⟨λb o e n hb hx=>other hs b o (old b o e) (I.base.keep b o e n hb hx),λb o e n hb hx=>?_,I.base.free,λb o e hx=>?_,I.base.tups,I.base.frzs,I.base.tbls⟩
   ,loc:=⟨_,Ib,λj y w e1 e2 e3=>?_⟩
   ,cell:=λy c e=>?_
   ,pin:=λp hp=>?_
   ,hok:=λb ob e=>(I.hok b ob e).stay (λc w hc z=>other hs c w ?_ z) (λ_ z=>z) λ_ _ z=>z
   ,len:=by simpa using I.len }
 ·obtain⟨sl,z⟩:=I.base.slot b o e n hb hx
  exact⟨sl,other hs b _ (old b o e) z⟩
 ·obtain⟨o',z⟩:=I.base.there b o e hx
  exact⟨o',other hs b _ (old b o e) z⟩
 ·by_cases hj:j=i
  ·subst hj
   rw[hi]at e1;cases e1;rw[dU uV]at e2;cases e2;exact⟨u,r,.inl ⟨hk,by simp⟩⟩
  ·rw[c5 (Ne.symm hj)]at e2
   obtain⟨u',r',z⟩:=hl j y w e1 e2 e3;refine⟨u',r',?_⟩;rcases z with⟨k,z⟩|⟨k,c,e,z⟩
   ·refine .inl ⟨k,?_⟩
    have ne:y ≠ x:=λh=>hj (by
     subst h;exact(List.getElem?_inj (bP.mp e1).1 hN).mp (e1.trans hi.symm))
    show(if y=x then ah u else m y)=ah u';rw[aR ne];exact z
   ·obtain⟨o,ho,hd⟩:=z
    exact .inr ⟨k,c,e,o,other hs c o (I.cne y c e) ho,hd⟩
 ·obtain⟨w,o,ho,hd⟩:=I.cell y c e
  exact⟨w,o,other hs c o (I.cne y c e) ho,hd⟩
 ·obtain⟨p1,p2,p3,p4⟩:=I.pin p hp
  exact⟨other hs _ _ p3 p1,p2,p3,p4⟩
 ·rintro rfl
  rcases hc with hc|hc
  ·rw[<- hc,I.free]at e;cases e
  ·rw[I.free]at hc;cases hc
theorem zgJ{n:Nat}{E:XK}{Wx:WX}{u:az}{s2:aK}(I:Inv X pins σ H s) (hL:X.env.locals<n) (hc:∀x c,X.env.cells.lookup x=ah c->c<n) (hp:∀p∈X.pn++pins,p.1<n) (hW:∀cls d H',E cls d H'->Wx cls d σ H')
  (c:L2N.CX X.prog X.w X.stack H { s with heap:=Ju n s.heap } E u s1) (h2:s2.heap=s1.heap) (Ic:s2.os=s1.os) (b2:Ew s2.gens):L2N.XE X Wx u s2:=by
 obtain⟨a,B,H',cls,d,rfl,fl,hok,ub,na,os,ag,hE⟩:=c;obtain⟨G,g1,g2⟩:=restrict s1.heap λb=>(B.get? b).isSome||decide (b∈frs X.stack);have up:∀b o,B.get? b=ah o->G.get? b=ah o:=λb o e=>(g1 b (by simp[e])).trans (fl.1 b o e);have fr:∀b,b∈frs X.stack->G.get? b=s1.heap.get? b:=λb hb=>g1 b (by simp[hb])
 have dn:∀b o,G.get? b=ah o->s1.heap.get? b=ah o/\((B.get? b).isSome=aj\/b∈frs X.stack):=λb o e=>by
  cases q:((B.get? b).isSome||decide (b∈frs X.stack)) with
  |false=>rw[g2 b q]at e;cases e
  |true=>exact⟨(g1 b q).symm.trans e,by simpa [U9] using q⟩
 refine⟨a,B,{ s with heap:=G,gens:=s1.gens,drawn:=s1.drawn,toks:=s1.toks },pins,σ,H',cls,d,rfl,?_,λb o e hb=>?_,?_,.inr (.inl (by rw[h2];exact fl)),na,Ic.trans os,b2,hW _ _ _ hE⟩
 ·refine HV I hL hc hp rfl ag ⟨λb o e z hb _=>up b o (ub.keep b o e z hb),λb o e z hb _=>?_,λb o e z _=>ub.free b o e z,λb o e _=>?_,ub.tups,ub.frzs,ub.tbls⟩ (hok.kept up)
  ·obtain⟨sl,q⟩:=ub.slot b o e hb
   exact⟨sl,(fr b hb).trans q⟩
  ·by_cases hb:b∈frs X.stack
   ·obtain⟨sl,q⟩:=ub.slot b o e hb
    exact⟨_,(fr b hb).trans q⟩
   ·obtain⟨o',q⟩:=ub.there b o e hb
    exact⟨o',up b o' q⟩
 ·obtain⟨e',h⟩:=dn b o e
  rcases h with h|h
  ·obtain⟨o',q⟩:=Option.isSome_iff_exists.mp h
   have z:=fl.1 b o' q;rw[e']at z;cases z;exact q
  ·exact br h hb
 ·rw[h2]
  exact Heap.UpToSlots.of_keeps λb o e=>(dn b o e).1
end
end
end WL
end
section
namespace WL
open PySem PySem.Spec
open L2 hiding Takes XE CX PMk MkP ps_raise ps_try_as ps_try_many passAt passes_call takes_of HdsOk mk_of
open L2N (Takes XE CX PMk MkP ps_raise ps_try_as ps_try_many passAt passes_call takes_of HdsOk mk_of)
open PyProof.Rows hiding St
variable{T:Tab}
def cX(p:cN) (i j:Nat):Nat->iz->SD
 |0,_=>λ_ _=>.bad
 |n+1,st=>λσ g=>match p.next st g with
  | .ok ai g=>.nx σ g
  | .ok (ah (w,st)) g=>(match (σ.set i (ah w))[j]? with
   |some (ah (.ref l))=>(match g[l]? with
    |some (.lst xs)=>if fits xs.length then cX p i j n st (σ.set i (ah w)) (g.set l (.lst (xs++[w]))) else .bad
    |_=>.bad)
   |_=>.bad)
  | .ex c fs g=>.ex c fs σ g
  | .bad=>.bad
open Classical in
noncomputable def pD(p:cN) (i j:Nat) (st:iz) (σ:Sg) (g:G):Fl:=if h:∃n,cX p i j n st σ g ≠ .bad then cX p i j (U_ h) st σ g else .bad
noncomputable def yx(p:cN) (cF:AD) (n i j:Nat):SD:=λσ g=>(cF σ g).fl σ λws g=>if ws.length=n then pD p i j (.fresh ws) σ g else .bad
def OR(K:aT) (T:Tab):Prop:=∀c C,T.cls c=ah C->cb K (.ref C) (.type "StopIteration")=ah ak
section
variable{X:Cx}{pins:List (aq×Obj)}{σ:L2.St}{H:Hp}{s:aK}
theorem zky{A:bV}{Q:az->aK->Prop}{E:az->aK->Prop}{b0:aq}{xs:List V}{x:V}{u:az}(I:Inv X pins σ H s) (hH:H b0=ah (.lst xs)) (hz:xs.length<kR) (rv:RelV x u)
  (q:∀h' tk,(∀b o,b ≠ b0->s.heap.get? b=ah o->h'.get? b=ah o)->Inv X pins σ (upd H b0 (.lst (xs++[x]))) { s with heap:=h',toks:=tk }->Q .none { s with heap:=h',toks:=tk }) :
  bL (model X.prog X.w) A (call (.builtin "list.append") [.ref b0,u]) Q E s:=by
 obtain⟨_,du,n,r,hl,e⟩:=I.lstM hH;have m:=PySem.list_append b0 du.toArray n u (by rw[LP];omega)
 exact call_meets F.slot_list_append ⟨_,e,rfl⟩ F.entry_list_append (F.args_list_append_2 _ _) m ⟨e,q _ _ (λb o hb z=>(Heap.get?_update_other _ _ (Ne.symm hb)).trans z) (I.lset (its':=du++[u]) hH e (by simp) (r.append (.cons rv .nil)) (by
  rw[dw,Va];omega))⟩
theorem zkz(I:Inv X pins σ H s) {b0:aq}{xs:List V}(hH:H b0=ah (.lst xs)):∃du,PySem.PlainL s.heap b0 du:=by
 obtain⟨_,du,n,_,_,e⟩:=I.lstM hH;exact⟨_,_,n,e,rfl,rfl,rfl⟩
end
section
variable{X:Cx}{Wx:WX}{k n i j:Nat}{f0:aq}{p:cN}{e:aN}{es:List aN}{cF:AD}{yy x met:Str}{pos fp cp xp mp ap yp bp ep:Pos}
theorem ziP [jJ T] [Sl T i] (hF:Ia X.prog X.w X.K X.mg X.base T (k+1) f0 n p) (hr:Room (k+2) X.A) (tk:Takes X Wx) (hp:Lq (model X.prog X.w) X.A X.env X.xe) (hc:X.calm=aj) (hN:X.N.Nodup) (hm:X.mg yy=ah (.ref f0)) (ha:PA X (e :: es) (LA T Wx cF)) (kG:OR X.K T)
  (hg:Gl X yy:=by rfl) (hi:X.N[i]? = ah x:=by rfl) (hj:X.N[j]? = ah met:=by rfl) (OS:X.env.kindOf x=ah .local:=by rfl) (hkj:X.env.kindOf met=ah .local:=by rfl)
  (cW:(yy == ("__debug__" : Str))=ak:=by decide) (Ci:(x == ("__debug__" : Str))=ak:=by decide) (hdm:(met == ("__debug__" : Str))=ak:=by decide)
  (dB:bo (e :: es) X.env=(ak,eval e X.env) :: bo es X.env:=by rfl) (dc:(c_ cp (bo es X.env)).any (·.1)=ak:=by rfl) (hint:interactive X.env=ak:=by rfl)
  (xP:A6 (.Call (.Attribute (.Name met mp) "append" ap) [.Name x yp] [] bp) ai ep.line X.env=pure ak:=by rfl) (wR:wd (.Name met mp) "append" X.env (eval (.Name met mp) X.env)=eval (.Name met mp) X.env:=by rfl)
  (w5:((c_ bp (bo [.Name x yp] X.env)).all (λx=>!x.1) && (tH bp (tI [] X.env)).all (λx=>x.1.isSome) && decide (([.Name x yp]:List aN).length+([]:List A_).length+(if ([]:List A_).isEmpty then 0 else 1)<30))=aj:=by rfl)
  (wU:(ap.endLine == bp.line)=aj:=by rfl) (VE:c_ bp (bo [.Name x yp] X.env)=[(ak,eval (.Name x yp) X.env)]:=by rfl) (yw:∀v,tG (.Call (.Name yy fp) (e :: es) [] cp) X.env v=pure v:=by intro _;rfl) :
  PS X (.For (.Name x xp) (.Call (.Name yy fp) (e :: es) [] cp) [.Expr (.Call (.Attribute (.Name met mp) "append" ap) [.Name x yp] [] bp) ep] [] pos) (LS T Wx (yx p cF n i j)):=by
 refine⟨λpins s σ H D I h=>?_⟩;obtain⟨ρ,σw,g,hs,R,he⟩:=h;refine wpAny_For ?_ yw;refine En (Ur I hg hm ?_ cW)
 refine EB (h₀:=X.base) I.ok.mod.kin hF.kp (thn (ha.run cp pins s σ H (λvs H1=>∃ρ1 ws g1,qj ρ H ρ1 H1/\RG T ρ1 H1 g1/\aD T ρ1 H1 ws vs/\qZ T Wx D ρ1 H1 (if ws.length=n then pD p i j (.fresh ws) σw g1 else .bad)) I
  ⟨ρ,σw,g,hs,R,qZ.fB hs he λws g1 ρ1 H1 vs bt R1 rws ay=>⟨ρ1,ws,g1,bt,R1,rws,ay⟩⟩) λus s1 ⟨vs,H1,I1,rv,ρ1,ws,g1,bt,R1,rws,ay⟩=>⟨I1.kIn,?_⟩) dB dc
 split at ay
 rotate_left
 ·exact ay.elim
 rename_i hlen
 obtain⟨kf,ay⟩:∃kf,qZ T Wx D ρ1 H1 (cX p i j kf (.fresh ws) σw g1):=by
  unfold pD at ay
  split at ay
  ·exact⟨_,ay⟩
  ·exact ay.elim
 obtain⟨fd,ps,hok,hb,hn⟩:=hF.ok;have hus:us.length=ps.length:=by rw[<- rv.length,<- rws.length,hlen,hn]
 have OT:=hb s1 us I1.kIn (by rw[fR];exact hus);rw[fR]at OT;refine A8 (wc (hok X.A X.stack s1 H1 ⟨us,[]⟩ us vs ws ρ1 (hr.mono (Bl _)) I1.env0 OT rv rws (hlen.trans hn.symm)) λr s2 hq=>?_)
 cases r with
 |error e=>exact hq.elim
 |ok fl=>
 cases fl with
 |next=>exact hq.elim
 |brk=>exact hq.elim
 |cont=>exact hq.elim
 |ret u0=>
 obtain⟨a,gi,c,go,rfl,CZ,ib,mx,Ie,CT,Ic,b2,kp2,⟨oL,hoL,CS⟩,HU⟩:=hq;obtain⟨L,hL⟩:∃L,L=s1.heap.objs.size:=⟨_,rfl⟩
 rw[<- hL]at CZ hoL HU;have fa:H1 a=ai:=I1.hok.fresh (by rw[<- hL];exact mT CZ);have I2:Inv X pins σ (upd H1 a (.frz go (.own 0))) s2:=CY (I1.laid (t':=s1.toks) (h':=s2.heap) kp2 (by rw[<- hL];exact mT CZ) ⟨Ie,_,Ie⟩) rfl Ic b2;have lL:X.env.locals<L:=by rw[hL];exact I1.lt
 have lC:∀y c,X.env.cells.lookup y=ah c->c<L:=λy c e=>by
  obtain⟨v,o,ho,_⟩:=I1.cell y c e;rw[hL];exact Heap.lt_size ho
 have lP:∀q∈X.pn++pins,q.1<L:=λq hq=>by rw[hL];exact Heap.lt_size (I1.pin q hq).1
 refine wpAny_pyIter_gen (ib _ Ie) ?_
 refine codeAny_forLoop_any (λm s'=>∃gs st fp h0 ρ0 H0 ρ H σw σ g,s'.gens[gi]? = ah gs/\Inv X pins σ H s'/\H a=ah (.frz go (.own 0))/\ZE X.prog X.w X.K X.mg X.base T X.A.in1 X.stack L p m gs st fp h0 ρ0 H0/\(∀b∈fp,∀o,h0.get? b=ah o->s'.heap.get? b=ah o)/\(∀b∈fp,H b=ai/\L<=b) /\
  qj ρ0 H0 ρ H/\RS T ρ H σw σ/\RG T ρ H g/\qZ T Wx D ρ H (cX p i j m st σw g)) ?_ kf
  ⟨_,_,[L],s2.heap,ρ1,H1,ρ1,_,σw,σ,g1,CT,I2,ez,HU _ kf hr.in1 I1.ok.frames,λ_ _ _ z=>z,λb hb=>?_,jK fa,hs.mono (bt.trans (jK fa)) _ _,R1.extra fa,qZ.base (jK fa) ay⟩
 rotate_left
 ·rw[pW]at hb
  subst hb;exact⟨by rw[gF (tO CZ)];exact I1.hok.fresh (by rw[hL];exact bC _),bC _⟩
 rintro m s3 ⟨gs,st,fp,h0,ρ0,H0,ρ3,H3,σw3,σ3,g3,MS,I3,F6,sl3,C0,CJ,eL,xH,R3,bu⟩
 cases m with
 |zero=>exact False.elim bu
 |succ m=>
 have VQ:s3.heap.get? a=ah go:=(I3.hok a _ F6).1;have C2:Inv X pins σ3 H3 (s3.setGen gi .running):=CY I3 rfl rfl (LH I3.bare rfl);have hh:=I.ok.hd hc
 have env0:wb X.prog X.w X.K X.mg X.base X.A.in1 X.stack (s3.setGen gi .running) H3:=by
  have z:=C2.env0;exact⟨z.frames,z.mod,z.bs,z.bsz,z.funs,z.frf,z.hok,z.bare⟩
 have hgl:gi<s3.gens.size:=(Array.getElem?_eq_some_iff.mp MS).1
 let EE:XK:=λcls d H'=>H' a=ah (.frz go (.own 0))/\(∃c C,cls = .ref C/\T.cls c=ah C)/\Wx cls d σ3 H'
 let Φ:End->aK->Prop:=λe s1=>(∃x,e = .ret (.error x)/\L2N.CX X.prog X.w X.stack H3 { s3.setGen gi .running with heap:=Ju L s3.heap } EE x s1) \/
  (∃g4 ρ1 H1,p.next st g3 = .ok ai g4/\e = .ret (.ok (.ret .none))/\yr X.prog X.w X.stack L (s3.setGen gi .running) ρ3 H3 s1 ρ1 H1/\RG T ρ1 H1 g4) \/
  ∃v nB g4 u b l k c pp fs x ρ1 H1 sJ,p.next st g3 = .ok (ah (v,nB)) g4/\e = .susp u b l k c pp fs/\yr X.prog X.w X.stack L (s3.setGen gi .running) ρ3 H3 s1 ρ1 H1/\RG T ρ1 H1 g4/\RW T ρ1 H1 v x/\RelV x u/\Ox s1.heap H1 L sJ /\
   ZE X.prog X.w X.K X.mg X.base T X.A.in1 X.stack L p m (End.susp u b l k c pp fs).genState nB sJ s1.heap ρ1 H1
 have go1:sH (model X.prog X.w) X.A.in1 Φ gs (s3.setGen gi .running):=by
  refine sl3 (s3.setGen gi .running) ρ3 H3 g3 EE Φ env0 C0 (λb hb=>(CJ b hb).1) eL R3 (λx s1 z=>.inl ⟨x,rfl,z⟩) ?_;unfold cX at bu
  cases oN:p.next st g3 with
  |ok o g4=>
   cases o with
   |none=>exact λs1 ρ1 H1 af R1=>.inr (.inl ⟨g4,ρ1,H1,oN,rfl,af,R1⟩)
   |some vs=>
    obtain⟨v,nB⟩:=vs;exact λu b l k c pp fs s1 x ρ1 H1 sJ af R1 rw1 rv1 pv sl=>.inr (.inr ⟨v,nB,g4,u,b,l,k,c,pp,fs,x,ρ1,H1,sJ,oN,rfl,af,R1,rw1,rv1,pv,sl⟩)
  |ex c fs g4=>
   rw[oN]at bu;intro ρ1 H1 C d vs a1 a2 a3 a4 a5;exact⟨a1.frz a _ _ F6,⟨c,C,rfl,a3⟩,bu ρ1 H1 σ3 C d vs a1 a2 (xH.mono a1 _ _) a3 a4 a5⟩
  |bad=>
   rw[oN]at bu;exact False.elim bu
 refine wpAny_passesOwn hp (GenW.wpAny_gsz (n:=gi+1) hgl (zc8 (Φ:=Φ) hh I3.nolimit (by have:=hr.dp;omega) (ib _ VQ) MS go1 (λv b l kk c pp fs s1 z VI=>?_) (λf s1 z=>?_) λx s1 z=>?_))
 ·-- an item
  intro hsz;rcases z with⟨_,z,_⟩|⟨_,_,_,_,z,_⟩|⟨v',nB,g4,u,b',l',k',c',pp',gM,x0,ρ4,H4,sJ,oN,z,af,R4,uO,rv4,pv,sl4⟩
  ·cases z
  ·cases z
  cases z
  have hgn:(s1.setGen gi (End.susp v b l kk c pp fs).genState).gens[gi]? = ah (End.susp v b l kk c pp fs).genState:=setGen_at (by
   have q:(s1.setGen gi (End.susp v b l kk c pp fs).genState).gens.size=s1.gens.size:=GenW.setGen_size _ _ _;omega)
  have I4:Inv X pins σ3 H4 (s1.setGen gi (End.susp v b l kk c pp fs).genState):=CY (HV C2 lL lC lP af.os af.bare af.un af.hok) rfl rfl (LH af.bare VI);have BX:H4 a=ah (.frz go (.own 0)):=af.gr.frz a _ _ F6;have F7:s1.heap.get? a=ah go:=(I4.hok a _ BX).1;obtain⟨o',nm,qn,lh,gv,xa,_⟩:=ib _ F7;rw[F7]at lh;cases lh;unfold cX at bu;rw[oN]at bu
  have bu:qZ T Wx D ρ3 H3 (match (σw3.set i (ah v'))[j]? with
   |some (ah (.ref l))=>(match g4[l]? with
    |some (.lst xs)=>if fits xs.length then cX p i j m nB (σw3.set i (ah v')) (g4.set l (.lst (xs++[v']))) else .bad
    |_=>.bad)
   |_=>.bad):=bu
  show bL _ _ (UI _ _ _) _ _ _;refine go_of (s:=s1.setGen gi (End.susp v b l kk c pp fs).genState) F7 gv xa (by decide) ?_;refine wpAny_assign_Name (zmK I4 hN hi OS rv4 λh5 tk5 sb5 I5=>?_);have OU:RS T ρ4 H4 (σw3.set i (ah v')) (σ3.set i (ah x0)):=(xH.mono af.gr _ _).set uO i
  cases hl:(σw3.set i (ah v'))[j]? with
  |none=>rw[hl]at bu;exact False.elim bu
  |some ol=>
  cases ol with
  |none=>rw[hl]at bu;exact False.elim bu
  |some wl=>
  cases wl with
  |ref l0=>
   rw[hl]at bu
   have bu:qZ T Wx D ρ3 H3 (match g4[l0]? with
    |some (.lst xs)=>if fits xs.length then cX p i j m nB (σw3.set i (ah v')) (g4.set l0 (.lst (xs++[v']))) else .bad
    |_=>.bad):=bu
   cases hx:g4[l0]? with
   |none=>rw[hx]at bu;exact False.elim bu
   |some ob=>
   cases ob with
   |lst xs=>
    rw[hx]at bu;have bu:qZ T Wx D ρ3 H3 (if fits xs.length then cX p i j m nB (σw3.set i (ah v')) (g4.set l0 (.lst (xs++[v']))) else .bad):=bu
    split at bu
    rotate_left
    ·exact bu.elim
    rename_i VR
    obtain⟨vl,hvl,rl⟩:=OU.get hl;obtain⟨b0,OW,rfl⟩:=Qi rl;obtain⟨ys,gU,OX⟩:=o4 R4 hx OW
    have hix:(σ3.set i (ah x0))[i]? = ah (ah x0):=dU (by
     rw[I3.len];exact(bP.mp hi).1)
    obtain⟨du,VS⟩:=zkz I5 gU;refine wpAny_execs_cons (wpAny_Expr (wpAny_Call_append wR w5 wU VE (OQ I5 hj hkj hvl (λu hu=>?_) hdm)) hint xP);cases hu;refine⟨b0,du,rfl,VS,OQ I5 hi OS hix (λu hu=>?_) Ci⟩;refine zky I5 gU (by rw[<- OX.length];exact xK VR) hu λh6 tk6 k6 I6=>?_;have mt:ig (H4 b0):=by rw[gU];trivial
    have lq:qj ρ4 H4 ρ4 (upd H4 b0 (.lst (ys++[x0]))):=qI mt;have R6:RG T ρ4 (upd H4 b0 (.lst (ys++[x0]))) (g4.set l0 (.lst (xs++[v']))):=R4.write (u:=.lst (xs++[v'])) OW ⟨_,ez,(OX.mono lq _ _).append (.cons (uO.mono lq _ _) aD.nil)⟩ mt
    have ne:∀b,b∈sJ->b ≠ b0:=λb hb z=>by
     rw[z]at hb;rw[(pv _ hb).2.1]at gU;cases gU
    have na:a ≠ b0:=λz=>by
     rw[z]at BX;rw[BX]at gU;cases gU
    refine Lv ⟨m,LN m,_,nB,sJ,s1.heap,ρ4,H4,ρ4,_,_,_,_,hgn,I6,?_,sl4,λb hb o eo=>k6 b o (ne b hb) ((sb5.2 b λz=>?_).trans eo),λb hb=>⟨?_,(pv b hb).2.2⟩,lq,OU.mono lq _ _,R6,qZ.base (af.gr.trans lq) bu⟩
    ·rw[gF na]
     exact BX
    ·have q:=(pv b hb).2.2
     rw[z]at q;exact br (cu lL q) (tP _)
    ·rw[gF (ne b hb)]
     exact(pv b hb).2.1
   |_=>rw[hx]at bu;exact False.elim bu
  |_=>rw[hl]at bu;exact False.elim bu
 ·-- the end
  rcases z with⟨_,z,_⟩|⟨g4,ρ4,H4,oN,z,af,R4⟩|⟨_,_,_,_,_,_,_,_,_,_,_,_,_,_,_,z,_⟩
  ·cases z
  rotate_left
  ·cases z
  cases z;refine⟨.inl rfl,λh' kp=>λhsz=>?_⟩
  have I4:Inv X pins σ3 H4 s1:=HV C2 lL lC lP af.os af.bare af.un af.hok;unfold cX at bu;rw[oN]at bu;exact Lv ⟨σ3,H4,CY (I4.kept (t':=s1.toks) kp) rfl rfl (LH af.bare rfl),bu ρ4 H4 σ3 af.gr R4 (xH.mono af.gr _ _)⟩
 ·-- an exception
  rcases z with⟨x',z,cx⟩|⟨_,_,_,_,z,_⟩|⟨_,_,_,_,_,_,_,_,_,_,_,_,_,_,_,z,_⟩
  rotate_left
  ·cases z
  ·cases z
  cases z;obtain⟨a',B,H',cls,d,rfl,fl,VT,ub,na,os',ag,hE⟩:=id cx
  obtain⟨Ig,⟨c,C,rfl,hcC⟩,hW⟩:=hE;refine⟨ib _ (fl.1 a go (VT a _ Ig).1),?_,λ_=>tk _ _ (zgJ C2 lL lC lP (λcls d H' q=>q.2.2) cx rfl rfl (LH ag rfl))⟩;obtain⟨oe,vs,CL,hz,hd⟩:=fl.there
  have kin:X.K.In s1.heap:=I.ok.mod.kin.keeps λb o eb=>by
   have lb:b<X.s_0.heap.objs.size:=cu (Heap.lt_size eb) I.ok.bsz;refine fl.1 b o (ub.keep b o (JP (cu lb (b_ I.ok.above (mT lL))) (I3.bs b o eb).1) (I3.bs b o eb).2 λhm=>?_);rcases cJ.mp (I3.stkSub b hm) with z|z
   ·rw[z]at lb
    exact br (cu lb I.ok.above) (tP _)
   ·exact I3.ok.nofr eb z
  have L0:=W.looks_subIn (M:=model X.prog X.w) kin (kG c C hcC);intro A Q E s' mq hq;simp only[isInstance];refine c4 (wpAny_typeOf_ref (o:=oe) (by rw[mq];exact CL) ?_);rw[hz.1];exact L0 A Q E s' (λb o z=>by rw[mq];exact z) hq
end
end WL
end
section
namespace WL
open PySem PySem.Spec
def gH(p:cN) (i j k:Nat) (r:Out (au (W×iz))) (σ:Sg):Fl:=match r with
 | .ok ai g=>.nx σ g
 | .ok (ah (w,st)) g=>(match (σ.set i (ah w))[j]? with
  |some (ah (.ref l))=>(match g[l]? with
   |some (.lst xs)=>if fits xs.length then cX p i j k st (σ.set i (ah w)) (g.set l (.lst (xs++[w]))) else .bad
   |_=>.bad)
  |_=>.bad)
 | .ex c fs g=>.ex c fs σ g
 | .bad=>.bad
theorem C3{p:cN}{i j k:Nat}{st:iz}{σ:Sg}{g:G}:cX p i j (k+1) st σ g=gH p i j k (p.next st g) σ:=by
 rfl
theorem OY{p:cN}{i j:Nat}:∀(n:Nat) (st:iz) (σ:Sg) (g:G),cX p i j n st σ g ≠ .bad->cX p i j (n+1) st σ g=cX p i j n st σ g
 |0,st,σ,g,h=>br rfl h
 |n+1,st,σ,g,h=>by
  rw[C3]at h ⊢
  conv=>rhs;rw[C3]
  cases hn:p.next st g with
  |ok o g1=>
   cases o with
   |none=>rfl
   |some vs=>
    obtain⟨v,cG⟩:=vs;rw[hn]at h;simp only[gH]at h ⊢
    split at h
    ·rename_i l el
     split at h
     ·rename_i xs ex
      split at h
      ·rename_i hf
       simp only[el,ex,hf,lS];exact OY n cG _ _ h
      ·exact br rfl h
     ·exact br rfl h
    ·exact br rfl h
  |ex c fs g1=>rfl
  |bad=>rfl
theorem Ih{p:cN}{i j:Nat}{st:iz}{σ:Sg}{g:G}{n:Nat}(h:cX p i j n st σ g ≠ .bad):∀k,cX p i j (n+k) st σ g=cX p i j n st σ g
 |0=>rfl
 |k+1=>by
  have q:=Ih h k;show cX p i j (n+k+1) st σ g=_;rw[OY (n+k) st σ g (by rw[q];exact h),q]
theorem OZ{p:cN}{i j:Nat}{st:iz}{σ:Sg}{g:G}{n:Nat}(h:cX p i j n st σ g ≠ .bad):pD p i j st σ g=cX p i j n st σ g:=by
 have ex:∃n,cX p i j n st σ g ≠ .bad:=⟨n,h⟩
 have hc:=fq ex;unfold pD;rw[dif_pos ex];rcases Nat.le_total (U_ ex) n with q|q
 ·obtain⟨k,e⟩:=Vb q
  rw[e];exact(Ih hc k).symm
 ·obtain⟨k,e⟩:=Vb q
  have:=Ih h k;rw[<- e]at this;exact this
def cY(db ds:qf):cN:=⟨5,zX (Qf db (zf 0) zv) (aM 2),ij (zf 1),aM 3,zX (Qf ds (zf 0) (ze (zf 2) (ze (zf 3) zv))) (QY 2 (jE (aM 4) (jE (aM 2) J1))),zf 4,bH (qW (zw Q1 (zf 2) (eC .non))) oS qy⟩
def mE(ds:qf):SD:=zB (zX (Qf ds (zf 0) (ze (zf 3) (ze (zf 4) zv))) (QY 2 (jE (aM 5) (jE (aM 3) J1)))) (zB (ZC (gR "list" jd (zf 2) (ze (zf 5) zv))) (bH (qW (zw Q1 (zf 3) (eC .non))) oS qy))
def Ii(db ds:qf):SD:=zB (zX (Qf db (zf 0) zv) (aM 3)) (fX (ij (zf 1)) (aM 4) (mE ds))
def Ij(db:qf) (w:W) (g:G):Out W:=match qP g w with
 |some (_,c,_)=>match getD c db with
  |some F=>F [w] g
  |none=>.bad
 |none=>.bad
def yz(ds:qf) (w s o:W) (g:G):Out W:=match qP g w with
 |some (_,c,_)=>match getD c ds with
  |some F=>F [w,s,o] g
  |none=>.bad
 |none=>.bad
theorem zoE{ds:qf}{w s o r x:W}{t:Sg}{g:G}:Qf ds (zf 0) (ze (zf 3) (ze (zf 4) zv)) (ah w :: ah r :: ah x :: ah s :: ah o :: t) g=yz ds w s o g:=rfl
theorem zmL{ds:qf}{w s o r:W}{t:Sg}{g:G}:Qf ds (zf 0) (ze (zf 2) (ze (zf 3) zv)) (ah w :: ah r :: ah s :: ah o :: t) g=yz ds w s o g:=rfl
def Ik(s:W) (g:G) (k:Out W):Out W:=match s with
 | .dA=>.bad
 | .non=>.ok .non g
 |_=>k
def J3(g:G) (m:W):au (Nat×List W):=match m with
 | .ref l=>match g[l]? with
  |some (.lst xs)=>if fits xs.length then ah (l,xs) else ai
  |_=>ai
 |_=>ai
def nC(ds:qf) (w m:W) (J:ZS):List W->W->G->Out W
 |[],s,g=>if ZI J g then .ok .non g else .bad
 |o :: os,s,g=>if ZI J g then (yz ds w s o g).bind λt g=>(match t with
   | .tup [nm,s2]=>(match J3 g m with
    |some (l,xs)=>Ik s2 (g.set l (.lst (xs++[nm]))) (nC ds w m J os s2 (g.set l (.lst (xs++[nm]))))
    |none=>.bad)
   |_=>.bad) else .bad
theorem zqE{m w r s o nm:W}{t:Sg}{g:G}:ZC (gR "list" jd (zf 2) (ze (zf 5) zv)) (ah w :: ah r :: ah m :: ah s :: ah o :: ah nm :: t) g=(match J3 g m with
  |some (l,xs)=>.nx (ah w :: ah r :: ah m :: ah s :: ah o :: ah nm :: t) (g.set l (.lst (xs++[nm])))
  |none=>.bad):=by
 show((if lj "list" g m=aj then jd m [nm] g else .bad:Out W)).fl _ _=_
 cases m with
 |ref l=>
  cases h:g[l]? with
  |none=>simp[lj,h,Out.fl,J3]
  |some u=>
   cases u with
   |lst xs=>
    simp only[lj,h,jd,J3]
    by_cases f:fits xs.length=aj
    ·simp[f,Out.fl]
    ·simp[f,Out.fl]
   |_=>simp[lj,h,jd,Out.fl,J3]
 |_=>simp[lj,jd,Out.fl,J3]
theorem zoF{p:cN}{i j k:Nat}{w m:W}{st:iz}{g:G}{σ:Sg}(hj:(σ.set i (ah w))[j]? = ah (ah m)):gH p i j k (.ok (ah (w,st)) g) σ=(match J3 g m with
  |some (l,xs)=>cX p i j k st (σ.set i (ah w)) (g.set l (.lst (xs++[w])))
  |none=>.bad):=by
 simp only[gH,hj]
 cases m with
 |ref l=>
  simp only[J3]
  cases h:g[l]? with
  |none=>rfl
  |some u=>
   cases u with
   |lst xs=>
    by_cases f:fits xs.length=aj
    ·simp[f]
    ·simp[f]
   |_=>rfl
 |_=>rfl
theorem O0{s:W}{a b:SD}{σ:Sg}{g:G}{k:Nat}(h:σ[k]? = ah (ah s)):bH (qW (zw Q1 (zf k) (eC .non))) a b σ g=(match s with
  | .dA=>.bad
  | .non=>a σ g
  |_=>b σ g):=by
 have e:zf k σ g = .ok s g:=by simp[zf,h]
 unfold bH qW zw;rw[e]
 cases s <;> rfl
theorem O1{ds:qf}{w r m:W}{J:ZS}:∀(ws:List W) (s:W) (o n:au W) (g:G),(Zn J (aM 4) (mE ds) ws [ah w,ah r,ah m,ah s,o,n] g).out=nC ds w m J ws s g
 |[],s,o,n,g=>by
  unfold Zn nC
  by_cases h:ZI J g=aj
  ·rw[aG h,aG h];rfl
  ·rw[aR h,aR h];rfl
 |x :: ws,s,o,n,g=>by
  unfold Zn nC
  by_cases h:ZI J g=aj
  ·rw[aG h,aG h]
   show(match mE ds [ah w,ah r,ah m,ah s,ah x,n] g with
    | .nx σ g=>Zn J (aM 4) (mE ds) ws σ g
    | .ct σ g=>Zn J (aM 4) (mE ds) ws σ g
    | .bk σ g=>.nx σ g
    |r=>r:Fl).out=_
   unfold mE;rw[show ∀(a b:SD) σ g,zB a b σ g=(match a σ g with| .nx σ g=>b σ g|r=>r) from λ_ _ _ _=>rfl];unfold zX;rw[zoE]
   cases hm:yz ds w s x g with
   |bad=>rfl
   |ex c fs g1=>rfl
   |ok t g1=>
    cases t with
    |tup ts=>
     match ts with
     |[]=>rfl
     |[_]=>rfl
     |_ :: _ :: _ :: _=>rfl
     |[nm,s2]=>
      show(match (zB (ZC (gR "list" jd (zf 2) (ze (zf 5) zv))) (bH (qW (zw Q1 (zf 3) (eC .non))) oS qy) [ah w,ah r,ah m,ah s2,ah x,ah nm] g1:Fl) with
       | .nx σ g=>Zn J (aM 4) (mE ds) ws σ g
       | .ct σ g=>Zn J (aM 4) (mE ds) ws σ g
       | .bk σ g=>.nx σ g
       |r=>r:Fl).out=(match J3 g1 m with
        |some (l,xs)=>Ik s2 (g1.set l (.lst (xs++[nm]))) (nC ds w m J ws s2 (g1.set l (.lst (xs++[nm]))))
        |none=>.bad)
      rw[show ∀(a b:SD) σ g,zB a b σ g=(match a σ g with| .nx σ g=>b σ g|r=>r) from λ_ _ _ _=>rfl,zqE]
      cases J3 g1 m with
      |none=>rfl
      |some lx=>
       obtain⟨l,xs⟩:=lx;dsimp only;rw[O0 (k:=3) (s:=s2) rfl];have ih:=O1 (ds:=ds) (w:=w) (r:=r) (m:=m) (J:=J) ws s2 (ah x) (ah nm) (g1.set l (.lst (xs++[nm])))
       cases s2 <;> first|rfl|exact ih
    |_=>rfl
  ·rw[aR h,aR h];rfl
def fG(r:Out W) (f:Fl) (σ:Sg) (i:Nat):Prop:=match r with
 | .ok _ g=>∃o,f = .nx (σ.set i o) g
 | .ex c fs g=>∃o,f = .ex c fs (σ.set i o) g
 | .bad=>True
theorem fG.set{r:Out W}{f:Fl}{σ:Sg}{i:Nat}{o:au W}(h:fG r f (σ.set i o) i):fG r f σ i:=by
 cases r with
 |ok w g=>obtain⟨o',e⟩:=h;exact⟨o',by rw[e,EH]⟩
 |ex c fs g=>obtain⟨o',e⟩:=h;exact⟨o',by rw[e,EH]⟩
 |bad=>trivial
theorem O2{db ds:qf}{w r m:W}{i j:Nat}{J:ZS}(oU:i ≠ j):∀(ws:List W) (idx k:Nat) (s:W) (o n:au W) (g:G) (σ:Sg),J.ws.drop idx=ws->ws.length<=k->i<σ.length->σ[j]? = ah (ah m) ->
  fG (nC ds w m J ws s g) (gH (cY db ds) i j k ((cY db ds).turn J idx [ah w,ah r,ah s,o,n] g) σ) σ i
 |[],idx,k,s,o,n,g,σ,hd,hk,hi,hj=>by
  unfold nC cN.turn
  by_cases h:ZI J g=aj
  ·rw[aG h,aG h,show J.ws[idx]? = ai from by simpa using hd]
   exact⟨σ[i],by rw[tQ];rfl⟩
  ·rw[aR h];trivial
 |x :: ws,idx,k,s,o,n,g,σ,hd,hk,hi,hj=>by
  obtain⟨k,rfl⟩:∃m,k=m+1:=⟨k - 1,by simp at hk;omega⟩
  have hx:J.ws[idx]? = ah x:=by
   have:(J.ws.drop idx)[0]? = ah x:=by rw[hd];rfl
   simpa using this
  have hd':J.ws.drop (idx+1)=ws:=by
   have:(J.ws.drop idx).drop 1=ws:=by rw[hd];rfl
   rw[Bj]at this;exact this
  unfold nC cN.turn
  by_cases h:ZI J g=aj
  ·rw[aG h,aG h,hx]
   show fG _ (gH (cY db ds) i j (k+1) (match (cY db ds).m2 [ah w,ah r,ah s,ah x,n] g with
    | .nx σ g=>((cY db ds).my σ g).bind λv g=>.ok (ah (v,.at J (idx+1) σ)) g
    | .ex c fs _ g=>.ex c fs g
    |_=>.bad) σ) σ i
   rw[show(cY db ds).m2=zX (Qf ds (zf 0) (ze (zf 2) (ze (zf 3) zv))) (QY 2 (jE (aM 4) (jE (aM 2) J1))) from rfl];unfold zX;rw[zmL]
   cases hm:yz ds w s x g with
   |bad=>trivial
   |ex c fs g1=>exact⟨σ[i],by rw[tQ];rfl⟩
   |ok t g1=>
    cases t with
    |tup ts=>
     match ts with
     |[]=>trivial
     |[_]=>trivial
     |_ :: _ :: _ :: _=>trivial
     |[nm,s2]=>
      have O3:(σ.set i (ah nm))[j]? = ah (ah m):=by rw[c5 oU];exact hj
      show fG (match J3 g1 m with
        |some (l,xs)=>Ik s2 (g1.set l (.lst (xs++[nm]))) (nC ds w m J ws s2 (g1.set l (.lst (xs++[nm]))))
        |none=>.bad) (gH (cY db ds) i j (k+1) (.ok (ah (nm,.at J (idx+1) [ah w,ah r,ah s2,ah x,ah nm])) g1) σ) σ i
      rw[zoF O3]
      cases J3 g1 m with
      |none=>trivial
      |some lx=>
       obtain⟨l,xs⟩:=lx;dsimp only;rw[C3];refine fG.set (o:=ah nm) ?_;have ih:=O2 oU (db:=db) (ds:=ds) (w:=w) (r:=r) ws (idx+1) k s2 (ah x) (ah nm) (g1.set l (.lst (xs++[nm]))) (σ.set i (ah nm)) hd' (by simp at hk;omega) (by simpa using hi) O3
       have en:(cY db ds).next (.at J (idx+1) [ah w,ah r,ah s2,ah x,ah nm]) (g1.set l (.lst (xs++[nm])))=(match s2 with
        | .dA=>.bad
        | .non=>.ok ai (g1.set l (.lst (xs++[nm])))
        |_=>(cY db ds).turn J (idx+1) [ah w,ah r,ah s2,ah x,ah nm] (g1.set l (.lst (xs++[nm])))):=by
        unfold cN.next;rw[show(cY db ds).m4=bH (qW (zw Q1 (zf 2) (eC .non))) oS qy from rfl];dsimp only;rw[O0 (k:=2) (s:=s2) rfl]
        cases s2 <;> rfl
       rw[en]
       cases s2 with
       |dA=>trivial
       |non=>exact⟨(σ.set i (ah nm))[i]'(by simpa using hi),by rw[tQ];rfl⟩
       |_=>exact ih
    |_=>trivial
  ·rw[aR h];trivial
def yA(db ds:qf):FN:=zW 3 (fnW 6 (Ii db ds))
theorem ziQ{db ds:qf}{ea eb:ED}{i j:Nat}{σ:Sg}{g:G}(oU:i ≠ j) (hi:i<σ.length):fG (aQ (yA db ds) (ze ea (ze eb (ze (zf j) zv))) σ g) (yx (cY db ds) (ze ea (ze eb zv)) 2 i j σ g) σ i:=by
 unfold aQ yx ze
 cases ha:ea σ g with
 |bad=>trivial
 |ex c fs g1=>exact⟨σ[i],by rw[tQ];rfl⟩
 |ok a g1=>
 show fG (((eb σ g1).bind λx g=>((zf j σ g).bind λy g=>.ok [y] g).bind λxs g=>.ok (x :: xs) g).bind (λxs g=>.ok (a :: xs) g)|>.bind λxs g=>yA db ds xs g) (((((eb σ g1).bind λx g=>.ok [x] g).bind λxs g=>.ok (a :: xs) g):Out (List W)).fl σ λws g=>if ws.length=2 then pD (cY db ds) i j (.fresh ws) σ g else .bad) σ i
 cases hb:eb σ g1 with
 |bad=>trivial
 |ex c fs g2=>exact⟨σ[i],by rw[tQ];rfl⟩
 |ok b g2=>
 show fG ((((zf j σ g2).bind λy g=>.ok [y] g).bind λxs g=>.ok (b :: xs) g).bind (λxs g=>.ok (a :: xs) g)|>.bind λxs g=>yA db ds xs g) (pD (cY db ds) i j (.fresh [a,b]) σ g2) σ i
 cases hj:σ[j]? with
 |none=>simp only[zf,hj];trivial
 |some oj=>
 cases oj with
 |none=>simp only[zf,hj];trivial
 |some m=>
 rw[show zf j σ g2 = .ok m g2 from by simp only[zf,hj]];show fG (yA db ds [a,b,m] g2) _ σ i;show fG ((Ii db ds [ah a,ah b,ah m,ai,ai,ai] g2).out) _ σ i;unfold Ii;rw[show ∀(a b:SD) σ g,zB a b σ g=(match a σ g with| .nx σ g=>b σ g|r=>r) from λ_ _ _ _=>rfl];have e1:zX (Qf db (zf 0) zv) (aM 3) [ah a,ah b,ah m,ai,ai,ai] g2=(Ij db a g2).fl [ah a,ah b,ah m,ai,ai,ai] λs g=>.nx [ah a,ah b,ah m,ah s,ai,ai] g:=rfl;have f1:(cY db ds).m1 [ah a,ah b,ai,ai,ai] g2=(Ij db a g2).fl [ah a,ah b,ai,ai,ai] λs g=>.nx [ah a,ah b,ah s,ai,ai] g:=rfl;have run:∀r,(∀k,fG r (cX (cY db ds) i j (k+1) (.fresh [a,b]) σ g2) σ i\/True)->True:=λ_ _=>True.intro
 have fin:∀(r:Out W) (k:Nat),fG r (cX (cY db ds) i j k (.fresh [a,b]) σ g2) σ i->fG r (pD (cY db ds) i j (.fresh [a,b]) σ g2) σ i:=λr k h=>by
  cases r with
  |bad=>trivial
  |ok w g'=>
   obtain⟨o,e⟩:=h;exact⟨o,(OZ (n:=k) (by rw[e];exact λz=>nomatch z)).trans e⟩
  |ex c fs g'=>
   obtain⟨o,e⟩:=h;exact⟨o,(OZ (n:=k) (by rw[e];exact λz=>nomatch z)).trans e⟩
 have nx:∀k,cX (cY db ds) i j (k+1) (.fresh [a,b]) σ g2=gH (cY db ds) i j k (match (cY db ds).m1 [ah a,ah b,ai,ai,ai] g2 with
   | .nx σ g=>((cY db ds).mi σ g).bind λJ g=>(cY db ds).turn J 0 σ g
   | .ex c fs _ g=>.ex c fs g
   |_=>.bad) σ:=λk=>C3
 rw[e1]
 cases h1:Ij db a g2 with
 |bad=>trivial
 |ex c fs g3=>
  refine fin _ 1 ?_;rw[nx,f1,h1];exact⟨σ[i],by rw[tQ];rfl⟩
 |ok s g3=>
  show fG ((fX (ij (zf 1)) (aM 4) (mE ds) [ah a,ah b,ah m,ah s,ai,ai] g3).out) _ σ i;have i1:ij (zf 1) [ah a,ah b,ah m,ah s,ai,ai] g3=(match Jj g3 b with|some L=>.ok L g3|none=>.bad):=rfl;have i2:(cY db ds).mi [ah a,ah b,ah s,ai,ai] g3=(match Jj g3 b with|some L=>.ok L g3|none=>.bad):=rfl;unfold fX;rw[i1]
  cases hJ:Jj g3 b with
  |none=>trivial
  |some J=>
   show fG ((Zn J (aM 4) (mE ds) J.ws [ah a,ah b,ah m,ah s,ai,ai] g3).out) _ σ i;rw[O1];refine fin _ (J.ws.length+1) ?_;rw[nx,f1,h1];show fG _ (gH (cY db ds) i j J.ws.length (((cY db ds).mi [ah a,ah b,ah s,ai,ai] g3).bind λJ g=>(cY db ds).turn J 0 [ah a,ah b,ah s,ai,ai] g) σ) σ i;rw[i2,hJ];exact O2 oU J.ws 0 _ s ai ai g3 σ (Vc) (bC _) hi hj
end WL
end
section
namespace WL
open PySem PySem.Spec
open L2 hiding Takes XE CX PMk MkP ps_raise ps_try_as ps_try_many passAt passes_call takes_of HdsOk mk_of
open L2N (Takes XE CX PMk MkP ps_raise ps_try_as ps_try_many passAt passes_call takes_of HdsOk mk_of)
open PyProof.Rows hiding St
variable{T:Tab}{X:Cx}{Wx:WX}
def C4:F2:=λx y g=>match x,y with
 | .ref l,.fz b=>(match ql g (.ref l) with
  |some a=>if fits a.length && fits b.length then .ok (.ref g.length) (g++[.lst (a++b)]) else .bad
  |_=>.bad)
 |_,_=>.bad
theorem zoG(hK:X.K=T.K):bR X T Wx (og .Add) C4:=bR.of Np λσ ρ H g x y vx vy Q R rx ry e=>by
 unfold C4 at e
 split at e
 ·split at e
  ·rename_i a h1
   split at e
   ·rename_i hf
    obtain⟨_,p,vs,_,_,_,rfl,hp,r1⟩:=Zw R rx h1;obtain⟨q,o,us,rfl,hq,r2⟩:=nr ry;exact⟨p,q,vs,us,rfl,rfl,by rw[hK];exact SqL.of hp,.inl (.inr ⟨o,hq⟩),by rw[<- r1.length,<- r2.length];exact xF hf,λt ht=>e _ _ _ (jP ht) (QI R ht (r1.append r2)) (Qn R)⟩
   ·exact e.elim
  ·exact e.elim
 ·exact e.elim
def u3:F2:=λx y g=>match x,y with
 | .ref l,.fz b=>C4 (.ref l) (.fz b) g
 |x,y=>ZD x y g
theorem zoH(hK:X.K=T.K):bR X T Wx (og .Add) u3:=λpins s σ H ρ g x y vx vy v u Q I R rx ry r1 r2 e=>by
 unfold u3 at e
 split at e
 ·exact zoG hK pins s σ H ρ g _ _ vx vy v u Q I R rx ry r1 r2 e
 ·exact Zh hK pins s σ H ρ g _ _ vx vy v u Q I R rx ry r1 r2 e
end WL
end
section
namespace WL
namespace X
open PySem
structure eW where
 c:Nat
 fs:List (Nat×W)
inductive Res (δ α:Type) where
 |ok (a:α)
 |ex (e:eW) (d:δ)
 |bad
def Res.bind{δ α β:Type}(r:Res δ α) (k:α->Res δ β):Res δ β:=match r with
 | .ok a=>k a
 | .ex e d=>.ex e d
 | .bad=>.bad
def Res.on{δ δ' α:Type}(r:Res δ α) (f:δ->δ'):Res δ' α:=match r with
 | .ok a=>.ok a
 | .ex e d=>.ex e (f d)
 | .bad=>.bad
inductive PF (ν β ρ:Type) where
 |nx (s:ν)
 |bk (s:β)
 |ct (s:β)
 |rt (r:ρ)
abbrev RF(δ ν β ρ:Type):=Res δ (PF ν β ρ)
def Res.seq{δ ν ν' β ρ:Type}(r:RF δ ν β ρ) (k:ν->RF δ ν' β ρ):RF δ ν' β ρ:=match r with
 | .ok (.nx s)=>k s
 | .ok (.bk s)=>.ok (.bk s)
 | .ok (.ct s)=>.ok (.ct s)
 | .ok (.rt r)=>.ok (.rt r)
 | .ex e d=>.ex e d
 | .bad=>.bad
abbrev Ft:=Nat->Prop
abbrev Rg:=Nat->Ft
structure RP(α:Type) where
 r:α->W->G->Ft->Rg->Prop
 lv:Nat
 loc:∀{v w g g' F R R'},r v w g F R->(∀l,F l->g'[l]? = g[l]?)->(∀k l,k<lv->R k l->R' k l/\g'[l]? = g[l]?)->r v w g' F R'
 wk:∀{v w g F F' R},r v w g F R->(∀l,F l->F' l)->r v w g F' R
structure SA where
 s:au W->G->Ft->Rg->Prop
 lv:Nat
 loc:∀{o g g' F R R'},s o g F R->(∀l,F l->g'[l]? = g[l]?)->(∀k l,k<lv->R k l->R' k l/\g'[l]? = g[l]?)->s o g' F R'
 wk:∀{o g F F' R},s o g F R->(∀l,F l->F' l)->s o g F' R
def SA.any:SA:=⟨λ_ _ _ _=>True,0,λ{_ _ _ _ _ _} _ _ _=>True.intro,λ{_ _ _ _ _} _ _=>True.intro⟩
def own{α:Type}(r:RP α) (v:α):SA:=⟨λo g F R=>∃w,o=ah w/\r.r v w g F R,r.lv,λ⟨w,e,h⟩ a b=>⟨w,e,r.loc h a b⟩,λ⟨w,e,h⟩ a=>⟨w,e,r.wk h a⟩⟩
def pin{α:Type}(r:RP α) (v:α) (w0:W):SA:=⟨λo g F R=>o=ah w0/\r.r v w0 g F R,r.lv,λ⟨e,h⟩ a b=>⟨e,r.loc h a b⟩,λ⟨e,h⟩ a=>⟨e,r.wk h a⟩⟩
def Sh(k:Nat) {α:Type}(r:RP α):RP α where
 r:=λv w g F R=>∃F',(∀l,F' l->∃j,j<=k/\R j l)/\r.r v w g F' R
 lv:=max (k+1) r.lv
 loc:=λ{v w g g' F R R'} ⟨F',h1,h2⟩ a b=>⟨F',λl hl=>by
   obtain⟨j,hj,hr⟩:=h1 l hl
   exact⟨j,hj,(b j l (by omega) hr).1⟩,r.loc h2 (λl hl=>by
   obtain⟨j,hj,hr⟩:=h1 l hl;exact(b j l (by omega) hr).2) λk l hk hr=>b k l (by omega) hr⟩
 wk:=λh _=>h
abbrev Ctx:=List SA
def Own(Fs:Rg):Ft:=λl=>∃i,Fs i l
def bW:Ctx->Nat->au SA
 |[],_=>ai
 |a :: _,0=>ah a
 |_ :: Γ,i+1=>bW Γ i
def put:Ctx->Nat->SA->Ctx
 |[],_,_=>[]
 |_ :: Γ,0,b=>b :: Γ
 |a :: Γ,i+1,b=>a :: put Γ i b
theorem jQ:∀{Γ:Ctx}{i:Nat},bW Γ i=Γ[i]?
 |[],i=>by simp[bW]
 |a :: Γ,0=>by simp[bW]
 |a :: Γ,i+1=>by simp[bW,jQ (Γ:=Γ) (i:=i)]
theorem j4:∀{Γ:Ctx}{i:Nat}{b:SA},put Γ i b=Γ.set i b
 |[],i,b=>by simp[put]
 |a :: Γ,0,b=>by simp[put]
 |a :: Γ,i+1,b=>by simp[put,j4 (Γ:=Γ) (i:=i)]
structure Sat(d:Nat) (Γ:Ctx) (σ:Sg) (g:G) (Fs:Rg) (R:Rg):Prop where
 len:σ.length=Γ.length
 at_:∀(i:Nat) (a:SA),Γ[i]? = ah a->∃o,σ[i]? = ah o/\a.s o g (Fs i) R
 low:∀i l,Fs i l->l<g.length
 cB:∀j l,j<d->R j l->l<g.length
 apart:∀i l,Fs i l->∀j,j<d -> ¬ R j l
 two:∀i j l,Fs i l->Fs j l->i=j
 eX:∀(i:Nat) (a:SA),Γ[i]? = ah a->a.lv<=d
structure aZ(F:Ft) (g:G) (F':Ft) (g':G):Prop where
 len:g.length<=g'.length
 keep:∀l,l<g.length -> ¬ F l->g'[l]? = g[l]?
 new:∀l,F' l->F l\/g.length<=l
theorem aZ.refl{F g}:aZ F g F g:=⟨bC _,λ_ _ _=>rfl,λ_ h=>.inl h⟩
theorem aZ.trans{F g F1 g1 F2 g2}(a:aZ F g F1 g1) (b:aZ F1 g1 F2 g2):aZ F g F2 g2:=
 ⟨b_ a.len b.len,λl hl hn=>(b.keep l (cu hl a.len) λh=>(a.new l h).elim hn λz=>br hl (by omega)).trans (a.keep l hl hn),
  λl h=>(b.new l h).elim (λz=>a.new l z) λz=>.inr (b_ a.len z)⟩
theorem aZ.sub{F g F1 g1 F2}(a:aZ F g F1 g1) (h:∀l,F2 l->F1 l):aZ F g F2 g1:=⟨a.len,a.keep,λl hl=>a.new l (h l hl)⟩
theorem aZ.more{F F1 F0:Ft}{g g1:G}(a:aZ F g F1 g1) (h:∀l,F l->F0 l):aZ F0 g F1 g1:=⟨a.len,λl hl hn=>a.keep l hl λz=>hn (h l z),λl hl=>(a.new l hl).imp (h l) id⟩
structure zG(d:Nat) (F:Ft) (Fs:Rg) (g:G) (R:Rg):Prop where
 low:∀l,F l->l<g.length
 apart:∀l,F l->∀j,j<d -> ¬ R j l
 own:∀l,F l->∀i,¬ Fs i l
def jM(F:Ft) (Fs:Rg):Ft:=λl=>F l\/Own Fs l
def aJ:Ft:=λ_=>False
theorem zG.no{d Fs g R}:zG d aJ Fs g R:=⟨λ_ h=>h.elim,λ_ h=>h.elim,λ_ h=>h.elim⟩
theorem Sat.get{d Γ σ g Fs R}{i:Nat}{a:SA}(S:Sat d Γ σ g Fs R) (h:Γ[i]? = ah a):∃o,σ[i]? = ah o/\a.s o g (Fs i) R:=S.at_ i a h
def qX(Fs:Rg) (i:Nat) (F:Ft):Rg:=λj=>if j=i then F else Fs j
theorem zr{Fs i F}:qX Fs i F i=F:=by simp[qX]
theorem zt{Fs i F j}(h:j ≠ i):qX Fs i F j=Fs j:=by simp[qX,h]
theorem O4{d:Nat}{Γ:Ctx}{i:Nat}{a:SA}(h:∀(i:Nat) (a:SA),Γ[i]? = ah a->a.lv<=d) (ha:a.lv<=d):∀(j:Nat) (b:SA),(Γ.set i a)[j]? = ah b->b.lv<=d:=λj b e=>by
 by_cases hj:j=i
 ·subst hj
  have hl:j<Γ.length:=by have:=(bP.mp e).1;simpa using this
  rw[dU hl]at e;cases e;exact ha
 ·rw[c5 (Ne.symm hj)]at e
  exact h j b e
theorem Sat.rK{d Γ σ g Fs R}{i:Nat}{a:SA}{o:au W}{F:Ft}(S:Sat d Γ σ g Fs R) (B:zG d F Fs g R) (hl:a.lv<=d) (h:a.s o g F R):Sat d (Γ.set i a) (σ.set i o) g (qX Fs i F) R where
 eX:=λj b e=>O4 S.eX hl j b e
 len:=by simp[S.len]
 at_:=λj b e=>by
  by_cases hj:j=i
  ·subst hj
   rw[zr];have hl:j<Γ.length:=by have:=(bP.mp e).1;simpa using this
   rw[dU hl]at e;cases e;exact⟨o,dU (by rw[S.len];exact hl),h⟩
  ·rw[zt hj]
   rw[c5 (Ne.symm hj)]at e;rw[c5 (Ne.symm hj)];exact S.at_ j b e
 low:=λj l hl=>by
  by_cases hj:j=i
  ·subst hj;rw[zr]at hl;exact B.low l hl
  ·rw[zt hj]at hl;exact S.low j l hl
 cB:=S.cB
 apart:=λj l hl=>by
  by_cases hj:j=i
  ·subst hj;rw[zr]at hl;exact B.apart l hl
  ·rw[zt hj]at hl;exact S.apart j l hl
 two:=λj k l h1 h2=>by
  by_cases hj:j=i
  ·by_cases hk:k=i
   ·rw[hj,hk]
   ·subst hj;rw[zr]at h1;rw[zt hk]at h2;exact(B.own l h1 k h2).elim
  ·by_cases hk:k=i
   ·subst hk;rw[zr]at h2;rw[zt hj]at h1;exact(B.own l h2 j h1).elim
   ·rw[zt hj]at h1;rw[zt hk]at h2;exact S.two j k l h1 h2
theorem zkB{α:Type}{l:List α}{i:Nat}{a:α}(h:l[i]? = ah a):l.set i a=l:=by
 apply Bq
 intro j
 by_cases hj:j=i
 ·subst hj
  have hl:=(bP.mp h).1;rw[dU hl,h]
 ·rw[c5 (Ne.symm hj)]
theorem Sat.pE{d Γ σ g Fs R}{i:Nat}{a:SA}{o:au W}{F:Ft}(S:Sat d Γ σ g Fs R) (B:zG d F (qX Fs i aJ) g R) (ho:σ[i]? = ah o) (hl:a.lv<=d) (h:a.s o g F R):Sat d (Γ.set i a) σ g (qX Fs i F) R where
 eX:=λj b e=>O4 S.eX hl j b e
 len:=by simp[S.len]
 at_:=λj b e=>by
  by_cases hj:j=i
  ·subst hj
   rw[zr];have hl:j<Γ.length:=by have:=(bP.mp e).1;simpa using this
   rw[dU hl]at e;cases e;exact⟨o,ho,h⟩
  ·rw[zt hj]
   rw[c5 (Ne.symm hj)]at e;exact S.at_ j b e
 low:=λj l hl=>by
  by_cases hj:j=i
  ·subst hj;rw[zr]at hl;exact B.low l hl
  ·rw[zt hj]at hl;exact S.low j l hl
 cB:=S.cB
 apart:=λj l hl=>by
  by_cases hj:j=i
  ·subst hj;rw[zr]at hl;exact B.apart l hl
  ·rw[zt hj]at hl;exact S.apart j l hl
 two:=λj k l h1 h2=>by
  by_cases hj:j=i
  ·by_cases hk:k=i
   ·rw[hj,hk]
   ·subst hj;rw[zr]at h1;rw[zt hk]at h2;exact(B.own l h1 k (by rw[zt hk];exact h2)).elim
  ·by_cases hk:k=i
   ·subst hk;rw[zr]at h2;rw[zt hj]at h1;exact(B.own l h2 j (by rw[zt hj];exact h1)).elim
   ·rw[zt hj]at h1;rw[zt hk]at h2;exact S.two j k l h1 h2
theorem Sat.out{d Γ σ g Fs R i}(S:Sat d Γ σ g Fs R):zG d (Fs i) (qX Fs i aJ) g R:=⟨S.low i,S.apart i,λl hl j hj=>by
 by_cases h:j=i
 ·subst h;rw[zr]at hj;exact hj
 ·rw[zt h]at hj;exact h (S.two j i l hj hl)⟩
theorem zG.over{d F Fs g R aA g'}(B:zG d F Fs g R) (st:aZ (Own Fs) g (Own aA) g'):zG d F aA g' R:=⟨λl hl=>cu (B.low l hl) st.len,B.apart,λl hl i hi=>
 (st.new l ⟨i,hi⟩).elim (λ⟨j,hj⟩=>B.own l hl j hj) λz=>br (B.low l hl) (by omega)⟩
theorem zG.same{d F Fs g R F' g'}(B:zG d F Fs g R) (st:aZ (Own Fs) g F' g'):∀l,F l->g'[l]? = g[l]?:=λl hl=>st.keep l (B.low l hl) λ⟨i,hi⟩=>B.own l hl i hi
theorem Sat.rD{d Γ σ g Fs R F' g'}(S:Sat d Γ σ g Fs R) (st:aZ (Own Fs) g F' g'):∀j l,j<d->R j l->g'[l]? = g[l]?:=λj l hj hl=>st.keep l (S.cB j l hj hl) λ⟨i,hi⟩=>S.apart i l hi j hj hl
theorem zG.both{d F F' Fs g R}(B:zG d F Fs g R) (B':zG d F' Fs g R):zG d (λl=>F l\/F' l) Fs g R:=⟨λl h=>h.elim (B.low l) (B'.low l),λl h=>h.elim (B.apart l) (B'.apart l),λl h=>h.elim (B.own l) (B'.own l)⟩
theorem zG.sub{d F F' Fs g R}(B:zG d F Fs g R) (h:∀l,F' l->F l):zG d F' Fs g R:=⟨λl hl=>B.low l (h l hl),λl hl=>B.apart l (h l hl),λl hl=>B.own l (h l hl)⟩
structure SA.le(a b:SA):Prop where
 to:∀{o g F R},a.s o g F R->b.s o g F R
 lv:b.lv<=a.lv
theorem SA.r{a:SA}:a.le a:=⟨λh=>h,bC _⟩
theorem SA.y{a:SA}:a.le .any:=⟨λ_=>True.intro,aF _⟩
theorem SA.da{α:Type}{r:RP α}{v:α}{w}:(pin r v w).le (own r v):=⟨λ⟨e,h⟩=>⟨w,e,h⟩,bC _⟩
inductive Le:Ctx->Ctx->Prop where
 |nil:Le [] []
 |cons {a b Γ Δ}(h:a.le b) (t:Le Γ Δ):Le (a :: Γ) (b :: Δ)
theorem Le.refl:∀{Γ},Le Γ Γ
 |[]=>.nil
 |_ :: _=>.cons SA.r Le.refl
theorem Le.len{Γ Δ}(h:Le Γ Δ):Γ.length=Δ.length:=by
 induction h with
 |nil=>rfl
 |cons _ _ ih=>simp[ih]
theorem Le.get{Γ Δ}(h:Le Γ Δ):∀{i:Nat}{b:SA},Δ[i]? = ah b->∃a:SA,Γ[i]? = ah a/\a.le b:=by
 induction h with
 |nil=>intro i b e;simp at e
 |cons iA t ih=>
  intro i b e
  cases i with
  |zero=>simp at e;subst e;exact⟨_,rfl,iA⟩
  |succ i=>simpa using ih (by simpa using e)
theorem Sat.le{d Γ Δ σ g Fs R}(S:Sat d Γ σ g Fs R) (h:Le Γ Δ):Sat d Δ σ g Fs R where
 len:=S.len.trans h.len
 at_:=λi b e=>by
  obtain⟨a,ea,l⟩:=h.get e;obtain⟨o,eo,q⟩:=S.at_ i a ea;exact⟨o,eo,l.to q⟩
 eX:=λi b e=>by
  obtain⟨a,ea,l⟩:=h.get e;exact b_ l.lv (S.eX i a ea)
 low:=S.low
 cB:=S.cB
 apart:=S.apart
 two:=S.two
section
structure VC(A τ:Type) where
 rel:Nat->A->τ->G->Ft->Rg->Prop
 over:∀{d a t g g' F R},rel d a t g F R->(∀l,F l->g'[l]? = g[l]?)->(∀j l,j<d->R j l->g'[l]? = g[l]?)->rel d a t g' F R
def vW:VC SA W:=⟨λd a w g F R=>a.lv<=d/\a.s (ah w) g F R,λ{d a t g g' F R} ⟨h,q⟩ e1 e2=>⟨h,a.loc q e1 λk l hk hr=>⟨hr,e2 k l (by omega) hr⟩⟩⟩
def vB:VC aw aw:=⟨λ_ a b _ _ _=>a=b,λh _ _=>h⟩
def qB{A τ δ κ:Type}(V:VC A τ) (d:Nat) (JE:δ->Ctx) (out:Out τ) (σ:Sg) (g:G) (F0:Ft) (R:Rg) (p:Res δ κ) (Cont:A->Ctx->Res δ κ->Prop):Prop:=
 p = .bad\/(∃e x g' aA,p = .ex e x/\out = .ex e.c e.fs g'/\Sat d (JE x) σ g' aA R/\aZ F0 g (Own aA) g') \/
 ∃a Γ' t g' F aA,Cont a Γ' p/\out = .ok t g'/\V.rel d a t g' F R/\zG d F aA g' R/\Sat d Γ' σ g' aA R/\aZ F0 g (jM F aA) g'
def EX{δ κ:Type}(d:Nat) (JE:δ->Ctx) (Γ:Ctx) (m:ED) (p:Res δ κ) (Cont:SA->Ctx->Res δ κ->Prop):Prop:=
 ∀σ g Fs R,Sat d Γ σ g Fs R->qB vW d JE (m σ g) σ g (Own Fs) R p Cont
def TX{δ κ:Type}(d:Nat) (JE:δ->Ctx) (Γ:Ctx) (m:TD) (p:Res δ κ) (Cont:aw->Ctx->Res δ κ->Prop):Prop:=
 ∀σ g Fs R,Sat d Γ σ g Fs R->qB vB d JE (m σ g) σ g (Own Fs) R p Cont
variable{δ κ A A' τ τ':Type}{V:VC A τ}{V':VC A' τ'}{d:Nat}{JE:δ->Ctx}{Γ:Ctx}{p:Res δ κ}
theorem qB.ret{σ g Fs R F}{F0:Ft}{Cont:A->Ctx->Res δ κ->Prop}{a:A}{t:τ}(S:Sat d Γ σ g Fs R) (c:Cont a Γ p) (h:V.rel d a t g F R) (B:zG d F Fs g R) (hF:∀l,jM F Fs l->F0 l):qB V d JE (.ok t g) σ g F0 R p Cont:=
 .inr (.inr ⟨a,Γ,t,g,F,Fs,c,rfl,h,B,S,⟨bC _,λ_ _ _=>rfl,λl hl=>.inl (hF l hl)⟩⟩)
theorem qB.wV{r1:Out τ}{k:τ->G->Out τ'}{σ g R}{F0 X:Ft}{C1:A->Ctx->Res δ κ->Prop}{Cont:A'->Ctx->Res δ κ->Prop}(hX:∀l,X l->l<g.length) (h:qB V d JE r1 σ g F0 R p C1)
  (hk:∀a Γ' t g' F aA,C1 a Γ' p->V.rel d a t g' F R->zG d F aA g' R->Sat d Γ' σ g' aA R->aZ F0 g (jM F aA) g'->qB V' d JE (k t g') σ g' (λl=>X l\/jM F aA l) R p Cont):qB V' d JE (r1.bind k) σ g (λl=>X l\/F0 l) R p Cont:=by
 rcases h with h|⟨e,x,g',aA,h1,h2,h3,h4⟩|⟨a,Γ',t,g',F,aA,h1,h2,h3,h4,h5,h6⟩
 ·exact .inl h
 ·refine .inr (.inl ⟨e,x,g',aA,h1,by rw[h2];rfl,h3,h4.len,λl hl hn=>h4.keep l hl λz=>hn (.inr z),λl hl=>(h4.new l hl).imp .inr id⟩)
 ·have st:aZ (λl=>X l\/F0 l) g (λl=>X l\/jM F aA l) g':=⟨h6.len,λl hl hn=>h6.keep l hl λz=>hn (.inr z),λl hl=>hl.elim (λz=>.inl (.inl z)) λz=>(h6.new l z).imp .inr id⟩
  subst h2;rcases hk a Γ' t g' F aA h1 h3 h4 h5 h6 with h|⟨e,x,g2,aV,q1,q2,q3,q4⟩|⟨b,Γ2,u,g2,F2,aV,q1,q2,q3,q4,q5,q6⟩
  ·exact .inl h
  ·exact .inr (.inl ⟨e,x,g2,aV,q1,q2,q3,st.trans q4⟩)
  ·exact .inr (.inr ⟨b,Γ2,u,g2,F2,aV,q1,q2,q3,q4,q5,st.trans q6⟩)
theorem qB.more{out:Out τ}{σ g R}{F0 F1:Ft}{Cont:A->Ctx->Res δ κ->Prop}(h:qB V d JE out σ g F0 R p Cont) (hF:∀l,F0 l->F1 l):qB V d JE out σ g F1 R p Cont:=by
 rcases h with h|⟨e,x,g',aA,h1,h2,h3,h4⟩|⟨a,Γ',t,g',F,aA,h1,h2,h3,h4,h5,h6⟩
 ·exact .inl h
 ·exact .inr (.inl ⟨e,x,g',aA,h1,h2,h3,h4.more hF⟩)
 ·exact .inr (.inr ⟨a,Γ',t,g',F,aA,h1,h2,h3,h4,h5,h6.more hF⟩)
theorem qB.bind{r1:Out τ}{k:τ->G->Out τ'}{σ g R}{F0:Ft}{C1:A->Ctx->Res δ κ->Prop}{Cont:A'->Ctx->Res δ κ->Prop}(h:qB V d JE r1 σ g F0 R p C1)
  (hk:∀a Γ' t g' F aA,C1 a Γ' p->V.rel d a t g' F R->zG d F aA g' R->Sat d Γ' σ g' aA R->aZ F0 g (jM F aA) g'->qB V' d JE (k t g') σ g' (jM F aA) R p Cont):qB V' d JE (r1.bind k) σ g F0 R p Cont:=
 (qB.wV (X:=aJ) (λ_ h=>h.elim) h λa Γ' t g' F aA c v B S st=>(hk a Γ' t g' F aA c v B S st).more λl hl=>.inr hl).more λl hl=>hl.elim (λz=>z.elim) id
theorem qB.imp{out:Out τ}{σ g R}{F0:Ft}{C C':A->Ctx->Res δ κ->Prop}(h:qB V d JE out σ g F0 R p C) (hc:∀a Γ' q,C a Γ' q->C' a Γ' q):qB V d JE out σ g F0 R p C':=by
 rcases h with h|h|⟨a,Γ',t,g',F,aA,h1,h2,h3,h4,h5,h6⟩
 ·exact .inl h
 ·exact .inr (.inl h)
 ·exact .inr (.inr ⟨a,Γ',t,g',F,aA,hc _ _ _ h1,h2,h3,h4,h5,h6⟩)
class Cp {α:Type}(r:RP α):Prop where
 cp:∀{v w g F R},r.r v w g F R->r.r v w g aJ R
instance {k:Nat}{α:Type}{r:RP α}:Cp (Sh k r):=⟨λ⟨F',h⟩=>⟨F',h⟩⟩
variable{Cont:SA->Ctx->Res δ κ->Prop}{α β γ:Type}{r:RP α}
theorem j5{i:Nat}{v:α} [Cp r] (hi:bW Γ i=ah (own r v)) (c:Cont (own r v) Γ p):EX d JE Γ (zf i) p Cont:=λσ g Fs R S=>by
 rw[jQ]at hi;obtain⟨o,ho,w,rfl,hw⟩:=S.get hi;have e:zf i σ g = .ok w g:=by unfold zf;rw[ho]
 rw[e];exact .ret S c ⟨S.eX i _ hi,⟨w,rfl,Cp.cp hw⟩⟩ .no λl hl=>hl.elim (λz=>z.elim) id
theorem O5{i:Nat}{a b c:SA}{w:W}{σ g Fs R}(S:Sat d Γ σ g Fs R) (hi:bW Γ i=ah a) (ho:σ[i]? = ah (ah w)) (ha:a.s (ah w) g (Fs i) R->a.lv<=d->b.lv<=d/\b.s (ah w) g (Fs i) R/\c.lv<=d/\c.s (ah w) g aJ R) (k:Cont b (put Γ i c) p):qB vW d JE (zf i σ g) σ g (Own Fs) R p Cont:=by
 have kI:=hi;rw[jQ]at kI;obtain⟨o,lh,hw⟩:=S.get kI;rw[ho]at lh;cases lh;have e:zf i σ g = .ok w g:=by unfold zf;rw[ho]
 rw[e];obtain⟨h1,h2,h3,h4⟩:=ha hw (S.eX i _ kI)
 have S2:Sat d (put Γ i c) σ g (qX Fs i aJ) R:=by
  rw[j4];exact S.pE .no ho h3 h4
 refine .ret S2 k ⟨h1,h2⟩ S.out λl hl=>?_;rcases hl with hl|⟨j,hj⟩
 ·exact⟨i,hl⟩
 ·by_cases O6:j=i
  ·subst O6;rw[zr]at hj;exact hj.elim
  ·rw[zt O6]at hj;exact⟨j,hj⟩
theorem Zi{i:Nat}{v:α}(hi:bW Γ i=ah (own r v)) (c:Cont (own r v) (put Γ i .any) p):EX d JE Γ (zf i) p Cont:=λσ g Fs R S=>by
 obtain⟨o,ho,w,rfl,hw⟩:=S.get (by rw[<- jQ];exact hi);exact O5 (b:=own r v) (c:=.any) S hi ho (λq hl=>⟨hl,q,aF _,True.intro⟩) c
def hole(w0:W):SA:=⟨λo _ _ _=>o=ah w0,0,λ{_ _ _ _ _ _} h _ _=>h,λ{_ _ _ _ _} h _=>h⟩
def val{α:Type}(f:α->W):RP α:=⟨λv w _ _ _=>w=f v,0,λh _ _=>h,λh _=>h⟩
instance {α:Type}{f:α->W}:Cp (val f):=⟨λh=>h⟩
abbrev zg:RP Int:=val W.int
abbrev z8:RP aw:=val W.bl
abbrev Jg:RP ax:=val λ_=>W.non
theorem zqF{f:α->W}{v:α}(c:Cont (own (val f) v) Γ p):EX d JE Γ (eC (f v)) p Cont:=λσ g Fs R S=>.ret S c ⟨aF _,_,rfl,rfl⟩ .no λl hl=>hl.elim (λz=>z.elim) id
def dC(d:Nat) (JE:δ->Ctx) (f:F2) (x y:SA) (Γ:Ctx) (p:Res δ κ) (Cont:SA->Ctx->Res δ κ->Prop):Prop:=
 ∀σ g Fs R wx wy Fx Fy,Sat d Γ σ g Fs R->vW.rel d x wx g Fx R->vW.rel d y wy g Fy R->zG d Fx Fs g R->zG d Fy Fs g R->(∀l,Fx l -> ¬ Fy l)->qB vW d JE (f wx wy g) σ g (λl=>Fx l\/jM Fy Fs l) R p Cont
theorem qT{f:F2}{a b:ED}(h:EX d JE Γ a p λx Γa q=>EX d JE Γa b q λy Γb q'=>dC d JE f x y Γb q' Cont):EX d JE Γ (zw f a b) p Cont:=λσ g Fs R S=>by
 refine qB.bind (h σ g Fs R S) λx Γa wx g1 F1 aP c rx B1 S1 cG=>?_;refine qB.wV (X:=F1) B1.low (c σ g1 aP R S1) λy Γb wy g2 F2 aV c2 ry B2 S2 cO=>?_;have rL:aZ (Own aP) g1 (Own aV) g2:=cO.sub λl hl=>.inr hl;exact c2 σ g2 aV R wx wy F1 F2 S2 (vW.over rx (B1.same cO) λj l hj hl=>S1.rD cO j l hj hl) ry (B1.over rL) B2 λl h1 h2=>(cO.new l (.inl h2)).elim (λ⟨j,hj⟩=>B1.own l h1 j hj) λz=>br (B1.low l h1) (by omega)
theorem Qo{f:F2}{fa:α->W}{fb:β->W}{fc:γ->W}{v:α}{u:β}{z:γ}(hf:∀g,f (fa v) (fb u) g = .ok (fc z) g) (c:Cont (own (val fc) z) Γ p):dC d JE f (own (val fa) v) (own (val fb) u) Γ p Cont:=
 λσ g Fs R wx wy Fx Fy S hx hy Bx By _=>by
  obtain⟨_,w1,e1,r1⟩:=hx;obtain⟨_,w2,e2,r2⟩:=hy
  cases e1;cases e2;cases r1;cases r2
  rw[hf];exact .ret S c ⟨aF _,_,rfl,rfl⟩ .no λl hl=>.inr (.inr (hl.elim (λz=>z.elim) id))
theorem op_add{i j:Int}(c:Cont (own zg (i+j)) Γ p):dC d JE ZD (own zg i) (own zg j) Γ p Cont:=Qo (λ_=>rfl) c
theorem op_sub{i j:Int}(c:Cont (own zg (i - j)) Γ p):dC d JE Cj (own zg i) (own zg j) Γ p Cont:=Qo (λ_=>rfl) c
theorem op_lt{i j:Int}(c:Cont (own z8 (decide (i<j))) Γ p):dC d JE nj (own zg i) (own zg j) Γ p Cont:=Qo (λ_=>rfl) c
theorem op_le{i j:Int}(c:Cont (own z8 (decide (i<=j))) Γ p):dC d JE md (own zg i) (own zg j) Γ p Cont:=Qo (λ_=>rfl) c
theorem op_gt{i j:Int}(c:Cont (own z8 (decide (j<i))) Γ p):dC d JE rY (own zg i) (own zg j) Γ p Cont:=Qo (λ_=>rfl) c
theorem op_ge{i j:Int}(c:Cont (own z8 (decide (j<=i))) Γ p):dC d JE o3 (own zg i) (own zg j) Γ p Cont:=Qo (λ_=>rfl) c
end
section
variable{δ κ A A' τ τ':Type}{V:VC A τ}{V':VC A' τ'}{d:Nat}{JE:δ->Ctx}{Γ:Ctx}{p:Res δ κ}{Cont:SA->Ctx->Res δ κ->Prop}{α β γ:Type}{r:RP α}
def O7(d:Nat) (A:Ctx) (ws:List W) (g:G) (Fa:Rg) (R:Rg):Prop:=
 ws.length=A.length/\(∀(i:Nat) (a:SA),A[i]? = ah a->∃w,ws[i]? = ah w/\a.lv<=d/\a.s (ah w) g (Fa i) R)/\∀i j l,Fa i l->Fa j l->i=j
def vA:VC Ctx (List W):=⟨λd A ws g F R=>∃Fa,O7 d A ws g Fa R/\∀i l,Fa i l->F l,λ{d a t g g' F R} ⟨Fa,⟨h1,h2,h3⟩,h4⟩ e1 e2=>⟨Fa,⟨h1,λi a ha=>by
 obtain⟨w,hw,hl,hs⟩:=h2 i a ha;exact⟨w,hw,hl,a.loc hs (λl hl=>e1 l (h4 i l hl)) λk l hk hr=>⟨hr,e2 k l (by omega) hr⟩⟩,h3⟩,h4⟩⟩
def AX(d:Nat) (JE:δ->Ctx) (Γ:Ctx) (m:AD) (p:Res δ κ) (Cont:Ctx->Ctx->Res δ κ->Prop):Prop:=
 ∀σ g Fs R,Sat d Γ σ g Fs R->qB vA d JE (m σ g) σ g (Own Fs) R p Cont
theorem zu{wW:Ctx->Ctx->Res δ κ->Prop}(c:wW [] Γ p):AX d JE Γ zv p wW:=λσ g Fs R S=>
 .ret S c ⟨λ_=>aJ,⟨rfl,λi a h=>by simp at h,λ_ _ _ h=>h.elim⟩,λ_ _ h=>h⟩ .no λl hl=>hl.elim (λz=>z.elim) id
theorem zi{e:ED}{es:AD}{wW:Ctx->Ctx->Res δ κ->Prop}(h:EX d JE Γ e p λa Γ' q=>AX d JE Γ' es q λA Γ'' q'=>wW (a :: A) Γ'' q'):AX d JE Γ (ze e es) p wW:=λσ g Fs R S=>by
 refine qB.bind (h σ g Fs R S) λa Γ1 w g1 F1 aP c ra B1 S1 cG=>?_;refine qB.wV (X:=F1) B1.low (c σ g1 aP R S1) λA Γ2 ws g2 F2 aV c2 rA B2 S2 cO=>?_;have rL:aZ (Own aP) g1 (Own aV) g2:=cO.sub λl hl=>.inr hl;have C5:=vW.over ra (B1.same cO) λj l hj hl=>S1.rD cO j l hj hl;have B1':=B1.over rL;obtain⟨Fa,⟨h1,h2,h3⟩,h4⟩:=rA;have no:∀l,F1 l -> ¬ F2 l:=λl h1 h2=>(cO.new l (.inl h2)).elim (λ⟨j,hj⟩=>B1.own l h1 j hj) λz=>br (B1.low l h1) (by omega);refine .ret (F:=λl=>F1 l\/F2 l) S2 c2 ⟨λi=>if i=0 then F1 else Fa (i - 1),⟨by simp[h1],λi b hb=>?_,λi j l hi hj=>?_⟩,λi l hi=>?_⟩ (B1'.both B2) λl hl=>?_
 ·cases i with
  |zero=>simp at hb;subst hb;exact⟨w,rfl,C5.1,C5.2⟩
  |succ i=>simpa using h2 i b (by simpa using hb)
 ·cases i with
  |zero=>
   cases j with
   |zero=>rfl
   |succ j=>exact(no l (by simpa using hi) (h4 j l (by simpa using hj))).elim
  |succ i=>
   cases j with
   |zero=>exact(no l (by simpa using hj) (h4 i l (by simpa using hi))).elim
   |succ j=>rw[h3 i j l (by simpa using hi) (by simpa using hj)]
 ·cases i with
  |zero=>exact .inl (by simpa using hi)
  |succ i=>exact .inr (h4 i l (by simpa using hi))
 ·rcases hl with(hl|hl)|hl
  ·exact .inl hl
  ·exact .inr (.inl hl)
  ·exact .inr (.inr hl)
def FG(d:Nat) (JE:δ->Ctx) (f:FN) (A:Ctx) (Γ:Ctx) (p:Res δ κ) (Cont:SA->Ctx->Res δ κ->Prop):Prop:=
 ∀σ g Fs R ws F,Sat d Γ σ g Fs R->vA.rel d A ws g F R->zG d F Fs g R->qB vW d JE (f ws g) σ g (jM F Fs) R p Cont
theorem qR{f:FN}{a:AD}(h:AX d JE Γ a p λA Γ' q=>FG d JE f A Γ' q Cont):EX d JE Γ (aQ f a) p Cont:=λσ g Fs R S=>
 qB.bind (h σ g Fs R S) λA Γ1 ws g1 F1 aP c rA B1 S1 cG=>c σ g1 aP R ws F1 S1 rA B1
def FX{δf τ:Type}(f:FN) (A:Ctx) (pf:Res δf τ) (ow:List W) (post:τ->SA×Ctx) (pe:δf->Ctx):Prop:=
 ∀ws g F R,vA.rel 1 A ws g F R->(∀l,F l->l<g.length)->(∀l,R 0 l->l<g.length)->(∀l,F l -> ¬ R 0 l) ->
  pf = .bad\/(∃e x g' Fo,pf = .ex e x/\f ws g = .ex e.c e.fs g'/\vA.rel 1 (pe x) ow g' Fo R/\(∀l,Fo l->l<g'.length)/\aZ F g Fo g') \/
  ∃t w g' F1 Fo,pf = .ok t/\f ws g = .ok w g'/\vW.rel 1 (post t).1 w g' F1 R/\vA.rel 1 (post t).2 ow g' Fo R/\(∀l,F1 l\/Fo l->l<g'.length)/\(∀l,F1 l -> ¬ Fo l)/\aZ F g (λl=>F1 l\/Fo l) g'
def glob(d:Nat) (R:Rg) (O:Ft):Rg:=λj l=>j=0/\((∃i,i<d/\R i l)\/O l)
def Il(w0:W):SA:=⟨λo _ _ _=>o=ah w0,0,λ{_ _ _ _ _ _} h _ _=>h,λ{_ _ _ _ _} h _=>h⟩
structure O8(d:Nat) {α:Type}(r r0:RP α):Prop where
 to:∀{v w g F R O},r.lv<=d->r.r v w g F R->r0.r v w g F (glob d R O)
 lv:r0.lv<=1
structure u4(d:Nat) (Γ:Ctx) (t:aw) (a a0:SA):Prop where
 to:∀{σ g Fs R o F O},Sat d Γ σ g Fs R->a.lv<=d->a.s o g F R->(∀l,Own Fs l->O l)->(t=aj->∀l,F l->O l)->a0.s o g (if t then aJ else F) (glob d R O)
 lv:a0.lv<=1
theorem zN{a:SA}(h:a.lv=0):u4 d Γ ak a a:=⟨λ_ _ q _ _=>a.loc q (λ_ _=>rfl) λk l hk=>br hk (by omega),by omega⟩
theorem zkD{k:Nat}{r:RP α}(h:r.lv=0):O8 d (Sh k r) (Sh 0 r):=⟨λ{v w g F R O} hl ⟨F',h1,h2⟩=>⟨F',λl z=>by
 obtain⟨j,hj,hr⟩:=h1 l z;have hl:max (k+1) r.lv<=d:=hl;exact⟨0,bC _,rfl,.inl ⟨j,by omega,hr⟩⟩,r.loc h2 (λ_ _=>rfl) λk l hk=>br hk (by omega)⟩,by show max (0+1) r.lv<=1;omega⟩
theorem zkE{r r0:RP α}{v:α}(h:O8 d r r0):u4 d Γ ak (own r v) (own r0 v):=⟨λ_ hl ⟨w,e,q⟩ _ _=>⟨w,e,h.to hl q⟩,h.lv⟩
theorem Zy{k:Nat}{r:RP α}{v:α}(h:r.lv=0):u4 d Γ ak (own (Sh k r) v) (own (Sh 0 r) v):=zkE (zkD h)
theorem ZJ{r:RP α}{v:α}{w0:W}(i:Nat) (hi:bW Γ i=ah (pin r v w0)) (h:r.lv=0):u4 d Γ ak (Il w0) (own (Sh 0 r) v):=⟨λ{σ g Fs R o F O} S _ q hO _=>by
 rw[jQ]at hi;obtain⟨o',_,e,q'⟩:=S.get hi;exact⟨w0,q,Fs i,λl hl=>⟨0,bC _,rfl,.inr (hO l ⟨i,hl⟩)⟩,r.loc q' (λ_ _=>rfl) λk l hk=>br hk (by omega)⟩,by show max (0+1) r.lv<=1;omega⟩
inductive mF (d:Nat) (Γ:Ctx):Ctx->Ctx->Prop where
 |nil:mF d Γ [] []
 |cons {t a a0 A A0}(h:u4 d Γ t a a0) (r:mF d Γ A A0):mF d Γ (a :: A) (a0 :: A0)
theorem mF.get{A A0:Ctx}(h:mF d Γ A A0):A.length=A0.length/\∃ts:Nat->aw,∀{i:Nat}{a0:SA},A0[i]? = ah a0->∃a:SA,A[i]? = ah a/\u4 d Γ (ts i) a a0:=by
 induction h with
 |nil=>exact⟨rfl,λ_=>ak,λe=>by simp at e⟩
 | @cons t a a0 A A0 iA r ih=>
  obtain⟨hl,ts,hg⟩:=ih
  refine⟨by simp[hl],λi=>match i with
   |0=>t
   |i+1=>ts i,λ{i b} e=>?_⟩
  cases i with
  |zero=>simp at e;subst e;exact⟨_,rfl,iA⟩
  |succ i=>simpa using hg (by simpa using e)
theorem mF.rel{A A0:Ctx}{σ:Sg}{g:G}{Fs R:Rg}{ws:List W}{F:Ft}(hA:mF d Γ A A0) (S:Sat d Γ σ g Fs R) (rA:vA.rel d A ws g F R) (B:zG d F Fs g R):∃F' O:Ft,vA.rel 1 A0 ws g F' (glob d R O)/\(∀l,F' l->F l)/\(∀l,O l->Own Fs l\/F l)/\(∀l,F' l -> ¬ O l)/\∀l,F' l->∀j,j<d -> ¬ R j l:=by
 obtain⟨Fa,⟨h1,h2,h3⟩,h4⟩:=rA;obtain⟨hl,ts,hg⟩:=hA.get;refine⟨λl=>∃i,ts i=ak/\Fa i l,λl=>Own Fs l\/∃i,ts i=aj/\Fa i l,⟨λi=>if ts i then aJ else Fa i,⟨h1.trans hl,λi a0 e=>?_,λi j l hi hj=>?_⟩,λi l hi=>?_⟩,λl ⟨i,_,hi⟩=>h4 i l hi,λl hl=>?_,λl ⟨i,e,hi⟩ h=>?_,λl ⟨i,e,hi⟩=>B.apart l (h4 i l hi)⟩
 ·obtain⟨a,ea,L⟩:=hg e
  obtain⟨w,ew,de,q⟩:=h2 i a ea;exact⟨w,ew,L.lv,L.to S de q (λl z=>.inl z) λz l y=>.inr ⟨i,z,y⟩⟩
 ·dsimp only at hi hj
  split at hi
  ·exact hi.elim
  ·split at hj
   ·exact hj.elim
   ·exact h3 i j l hi hj
 ·dsimp only at hi
  split at hi
  ·exact hi.elim
  ·rename_i z;exact⟨i,by simpa using z,hi⟩
 ·exact hl.imp id λ⟨i,_,hi⟩=>h4 i l hi
 ·rcases h with⟨j,hj⟩|⟨j,z,hj⟩
  ·exact B.own l (h4 i l hi) j hj
  ·have:=h3 i j l hi hj;subst this;rw[e]at z;cases z
structure sM(d:Nat) (a0 a:SA):Prop where
 to:∀{o g F R O},a0.s o g F (glob d R O)->a.s o g F R
 lv:a.lv<=d
theorem qz{a:SA}(h:a.lv=0):sM d a a:=⟨λq=>a.loc q (λ_ _=>rfl) λk l hk=>br hk (by omega),by omega⟩
def gy(L:Nat) {α:Type}(r:RP α) (w0:W) (f:α->SA):SA where
 s:=λo g F R=>∀(x:α) (g':G) (F':Ft) (R':Rg),(∀l,F l->g'[l]? = g[l]?)->(∀k l,k<L->R k l->R' k l/\g'[l]? = g[l]?)->(∀l,F l -> ¬ F' l)->r.r x w0 g' F' R'->(f x).s o g' (λl=>F l\/F' l) R'
 lv:=L
 loc:=λ{o g g1 F R R1} h e1 e2 x g' F' R' a b c q=>h x g' F' R' (λl hl=>(a l hl).trans (e1 l hl)) (λk l hk hr=>⟨(b k l hk (e2 k l hk hr).1).1,(b k l hk (e2 k l hk hr).1).2.trans (e2 k l hk hr).2⟩) c q
 wk:=λ{o g F F2 R} h e x g' F' R' a b c q=>(f x).wk (h x g' F' R' (λl hl=>a l (e l hl)) b (λl hl=>c l (e l hl)) q) λl hl=>hl.imp (e l) id
theorem zQ{i:Nat}{v:α}{w:W}(hi:bW Γ i=ah (pin r v w)) (c:Cont (pin r v w) (put Γ i (gy r.lv r w (λx=>pin r x w))) p):EX d JE Γ (zf i) p Cont:=λσ g Fs R S=>by
 obtain⟨o,ho,rfl,hw⟩:=S.get (by rw[<- jQ];exact hi);exact O5 (b:=pin r v w) (c:=gy r.lv r w (λx=>pin r x w)) S hi ho (λ⟨e,q⟩ hl=>⟨hl,⟨rfl,q⟩,hl,λx g' F' R' _ _ _ q=>⟨rfl,r.wk q λl hl=>.inr hl⟩⟩) c
theorem Sat.refill{σ:Sg}{g Fs R}{F:Ft}{i L:Nat}{v:α}{w:W}{f:α->SA}(S:Sat d Γ σ g Fs R) (hi:bW Γ i=ah (gy L r w f)) (hl:(f v).lv<=d) (B:zG d F Fs g R) (h:r.r v w g F R):Sat d (put Γ i (f v)) σ g (qX Fs i λl=>Fs i l\/F l) R:=by
 rw[jQ]at hi;obtain⟨o,ho,q⟩:=S.get hi;rw[j4];refine S.pE ⟨λl h=>h.elim (S.low i l) (B.low l),λl h=>h.elim (S.apart i l) (B.apart l),λl h j hj=>?_⟩ ho hl (q v g F R (λ_ _=>rfl) (λ_ _ _ hr=>⟨hr,rfl⟩) (λl h1 h2=>B.own l h2 i h1) h)
 by_cases e:j=i
 ·subst e;rw[zr]at hj;exact hj
 ·rw[zt e]at hj
  exact h.elim (λz=>e (S.two j i l hj z)) λz=>B.own l z j hj
inductive QC (d:Nat):Ctx->Ctx->List W->Ctx->Prop where
 |nil {G0:Ctx}:QC d G0 [] [] G0
 |cons {τ1:Type}{r1:RP τ1}{G1 G2:Ctx}{L:Nat}{v:τ1}{w:W}{f:τ1->SA}{outs:Ctx}{ow:List W}(i:Nat) (hi:bW G1 i=ah (gy L r1 w f)) (hr:r1.lv=0) (hf:(f v).lv<=d) (t:QC d (put G1 i (f v)) outs ow G2):QC d G1 (pin r1 v w :: outs) (w :: ow) G2
 |drop {G1 G2:Ctx}{a:SA}{w:W}{outs:Ctx}{ow:List W}(t:QC d G1 outs ow G2):QC d G1 (a :: outs) (w :: ow) G2
theorem QC.sat{Γ Γ':Ctx}{outs ow}(h:QC d Γ outs ow Γ'):∀{σ g Fs R}{F:Ft}{k:Nat}{O:Ft},Sat d Γ σ g Fs R->vA.rel 1 outs ow g F (glob k R O)->zG d F Fs g R->∃aA,Sat d Γ' σ g aA R/\∀l,Own aA l->F l\/Own Fs l:=by
 induction h with
 |nil=>exact λ{σ g Fs R F k O} S _ _=>⟨Fs,S,λl h=>.inr h⟩
 |drop t ih=>
  intro σ g Fs R F k O S ⟨Fa,⟨h1,h2,h3⟩,h4⟩ B;obtain⟨aA,S',h5⟩:=ih S (F:=λl=>∃j,Fa (j+1) l) (k:=k) (O:=O) ⟨λj=>Fa (j+1),⟨by simpa using h1,λj a ha=>h2 (j+1) a (by simpa using ha),λa b l ha hb=>by have:=h3 _ _ l ha hb;omega⟩,λj l hj=>⟨j,hj⟩⟩ (B.sub λl ⟨j,hj⟩=>h4 _ l hj);exact⟨aA,S',λl hl=>(h5 l hl).imp (λ⟨j,hj⟩=>h4 _ l hj) id⟩
 | @cons α r Γ Γ' L v w f outs ow i hi hr hf t ih=>
  intro σ g Fs R F k O S ⟨Fa,⟨h1,h2,h3⟩,h4⟩ B;obtain⟨w',ew,_,e,q⟩:=h2 0 _ rfl;simp at ew;subst ew;have S2:=S.refill (v:=v) hi hf (B.sub (F':=Fa 0) (h4 0)) (r.loc q (λ_ _=>rfl) λk l hk=>br hk (by omega))
  have B2:zG d (λl=>∃j,Fa (j+1) l) (qX Fs i λl=>Fs i l\/Fa 0 l) g R:=⟨λl ⟨j,hj⟩=>B.low l (h4 _ l hj),λl ⟨j,hj⟩=>B.apart l (h4 _ l hj),λl ⟨j,hj⟩ m hm=>by
   by_cases e:m=i
   ·subst e
    rw[zr]at hm;exact hm.elim (B.own l (h4 _ l hj) m) λz=>br (h3 _ _ l hj z) (by omega)
   ·rw[zt e]at hm
    exact B.own l (h4 _ l hj) m hm⟩
  obtain⟨aA,S3,h5⟩:=ih S2 (F:=λl=>∃j,Fa (j+1) l) (k:=k) (O:=O) ⟨λj=>Fa (j+1),⟨by simpa using h1,λj a ha=>h2 (j+1) a (by simpa using ha),λa b l ha hb=>by have:=h3 _ _ l ha hb;omega⟩,λj l hj=>⟨j,hj⟩⟩ B2;refine⟨aA,S3,λl hl=>(h5 l hl).elim (λ⟨j,hj⟩=>.inl (h4 _ l hj)) λ⟨j,hj⟩=>?_⟩
  by_cases e:j=i
  ·subst e
   rw[zr]at hj;exact hj.elim (λz=>.inr ⟨j,z⟩) λz=>.inl (h4 _ l z)
  ·rw[zt e]at hj;exact .inr ⟨j,hj⟩
theorem aZ.rest{F Fo:Ft}{Fs:Rg}{g g':G}(st:aZ F g Fo g') (hl:∀l,Own Fs l->l<g.length) (hn:∀l,F l -> ¬ Own Fs l):aZ (jM F Fs) g (jM Fo Fs) g':=⟨st.len,λl h1 h2=>st.keep l h1 λz=>h2 (.inl z),λl h=>h.elim (λz=>(st.new l z).imp .inl id) λz=>.inl (.inr z)⟩
theorem Sat.kX{σ:Sg}{g g':G}{Fs R}{F Fo:Ft}(S:Sat d Γ σ g Fs R) (B:zG d F Fs g R) (st:aZ F g Fo g'):Sat d Γ σ g' Fs R:=by
 have ko:∀l,Own Fs l->g'[l]? = g[l]?:=λl ⟨i,hi⟩=>st.keep l (S.low i l hi) λz=>B.own l z i hi;have kr:∀j l,j<d->R j l->g'[l]? = g[l]?:=λj l hj hr=>st.keep l (S.cB j l hj hr) λz=>B.apart l z j hj hr;refine⟨S.len,λi a e=>?_,λi l hl=>cu (S.low i l hl) st.len,λj l hj hl=>cu (S.cB j l hj hl) st.len,S.apart,S.two,S.eX⟩;obtain⟨o,ho,q⟩:=S.at_ i a e;exact⟨o,ho,a.loc q (λl hl=>ko l ⟨i,hl⟩) λk l hk hr=>⟨hr,kr k l (cu hk (S.eX i a e)) hr⟩⟩
theorem jL{δf τ:Type}{f:FN}{A A0:Ctx}{pf:Res δf τ}{ow:List W}{post:τ->SA×Ctx}{pe:δf->Ctx}{fe:δf->δ}{k:τ->Res δ κ}{a:τ->SA}{Γ':τ->Ctx}(fx:FX f A0 pf ow post pe) (hA:mF d Γ A A0)
  (hb:∀t,sM d (post t).1 (a t)) (hr:∀t,QC d Γ (post t).2 ow (Γ' t)) (hE:∀x,∃Γx,QC d Γ (pe x) ow Γx/\Le Γx (JE (fe x))) (hk:∀t,Cont (a t) (Γ' t) (k t)):FG d JE f A Γ ((pf.on fe).bind k) Cont:=λσ g Fs R ws F S rA B=>by
 obtain⟨F',O,Im,hF,hO,Io,Ip⟩:=hA.rel S rA B;have BI:∀l,Own Fs l->l<g.length:=λl ⟨i,hi⟩=>S.low i l hi;have up:∀{Fo:Ft}{g'},aZ F' g Fo g'->aZ F g Fo g':=λst=>st.more hF;have out:=fx ws g F' (glob d R O) Im (λl hl=>B.low l (hF l hl)) (λl ⟨_,h⟩=>h.elim (λ⟨i,hi,hr⟩=>S.cB i l hi hr) λz=>(hO l z).elim (BI l) (B.low l)) λl hl ⟨_,h⟩=>h.elim (λ⟨i,hi,hr⟩=>Ip l hl i hi hr) (Io l hl)
 have new:∀{Fo:Ft}{g'},aZ F g Fo g'->(∀l,Fo l->l<g'.length)->zG d Fo Fs g' R:=λ{Fo g'} st low=>⟨low,λl hl j hj hr=>(st.new l hl).elim (λz=>B.apart l z j hj hr) λz=>br (S.cB j l hj hr) (by omega),
  λl hl i hi=>(st.new l hl).elim (λz=>B.own l z i hi) λz=>br (S.low i l hi) (by omega)⟩
 rcases out with rfl|⟨e,x,g',Fo,rfl,h6,h7,h8,st⟩|⟨t,w,g',F1,Fo,rfl,h6,h7,h8,h9,CW,st⟩
 ·exact .inl rfl
 ·have st:=up st
  have S2:=S.kX B st;obtain⟨Γx,hx,le⟩:=hE x;obtain⟨aA,S3,nD⟩:=hx.sat S2 h7 (new st h8);refine .inr (.inl ⟨e,fe x,g',aA,rfl,h6,S3.le le,?_⟩);exact(st.rest BI λl hl ⟨i,hi⟩=>B.own l hl i hi).sub nD
 ·have st:=up st
  have S2:=S.kX B st;have Bn:=new st h9;obtain⟨aA,S3,nD⟩:=(hr t).sat S2 h8 (Bn.sub λl hl=>.inr hl);refine .inr (.inr ⟨a t,Γ' t,w,g',F1,aA,hk t,h6,⟨(hb t).lv,(hb t).to h7.2⟩,⟨λl hl=>h9 l (.inl hl),λl hl=>Bn.apart l (.inl hl),λl hl i hi=>?_⟩,S3,?_⟩)
  ·exact(nD l ⟨i,hi⟩).elim (CW l hl) λ⟨j,hj⟩=>Bn.own l (.inl hl) j hj
  ·exact(st.rest BI λl hl ⟨i,hi⟩=>B.own l hl i hi).sub λl hl=>hl.elim (λz=>.inl (.inl z)) λz=>(nD l z).elim (λy=>.inl (.inr y)) .inr
def Res.up{δ α:Type}(r:Res aE α):Res δ α:=r.on λe=>nomatch e
theorem qd{τ:Type}{f:FN}{A A0:Ctx}{pf:Res aE τ}{ow:List W}{post:τ->SA×Ctx}{pe:aE->Ctx}{k:τ->Res δ κ}{a:τ->SA}{Γ':τ->Ctx}(fx:FX f A0 pf ow post pe) (hA:mF d Γ A A0)
  (hb:∀t,sM d (post t).1 (a t)) (hr:∀t,QC d Γ (post t).2 ow (Γ' t)) (hk:∀t,Cont (a t) (Γ' t) (k t)):FG d JE f A Γ (pf.up.bind k) Cont:=jL fx hA hb hr (λx=>nomatch x) hk
end
section
variable{δ κ A A' τ τ':Type}{V:VC A τ}{V':VC A' τ'}{d:Nat}{JE:δ->Ctx}{Γ:Ctx}{p:Res δ κ}{Cont:SA->Ctx->Res δ κ->Prop}{α β γ:Type}{r:RP α}
variable{eE:aw->Ctx->Res δ κ->Prop}
theorem Iq{m:ED}(h:EX d JE Γ m p λa Γ' q=>∃b,a=own z8 b/\eE b Γ' q):TX d JE Γ (qW m) p eE:=λσ g Fs R S=>
 qB.bind (h σ g Fs R S) λa Γ1 w g1 F1 aP c ra B1 S1 cG=>by
  obtain⟨b,rfl,c⟩:=c;obtain⟨_,w',e,h⟩:=ra;cases e;have h:w=W.bl b:=h;subst h;exact .ret (F:=aJ) S1 c rfl .no λl hl=>hl.elim (λz=>z.elim) .inr
def u5{δ:Type}(Γ:Ctx):aw->Ctx->Res δ aw->Prop:=λb Γ' q=>q = .ok b/\Γ'=Γ
def nE{δ:Type}(r:RP α) (Γ:Ctx):SA->Ctx->Res δ α->Prop:=λa Γ' q=>∃v,q = .ok v/\a.le (own r v)/\Γ'=Γ
theorem zp5{t:TD}{ma mb:ED}(r:RP α) (h:TX d JE Γ t p λb Γ' q=>∃(pa pb:Res δ α) (k:α->Res δ κ),q=(aL b pa pb).bind k/\EX d JE Γ' ma pa (nE r Γ')/\EX d JE Γ' mb pb (nE r Γ')/\∀v,Cont (own r v) Γ' (k v)):EX d JE Γ (l9 t ma mb) p Cont:=λσ g Fs R S=>
 qB.bind (h σ g Fs R S) λa Γ1 w g1 F1 aP c ra B1 S1 cG=>by
  obtain⟨pa,pb,k,rfl,ha,hb,hk⟩:=c;have ra:a=w:=ra;subst ra
  have key:∀(m:ED) (pm:Res δ α),EX d JE Γ1 m pm (nE r Γ1)->qB vW d JE (m σ g1) σ g1 (jM F1 aP) R (pm.bind k) Cont:=λm pm hm=>by
   rcases hm σ g1 aP R S1 with h|⟨e,x,g',aA,h1,h2,h3,h4⟩|⟨a,Γ',t,g',F,aA,⟨v,h0,hle,h1⟩,h2,h3,h4,h5,h6⟩
   ·exact .inl (by rw[h];rfl)
   ·exact .inr (.inl ⟨e,x,g',aA,by rw[h1];rfl,h2,h3,h4.more λl z=>.inr z⟩)
   ·exact .inr (.inr ⟨own r v,Γ1,t,g',F,aA,by rw[h0];exact hk v,h2,⟨b_ hle.lv h3.1,hle.to h3.2⟩,h4,by rw[<- h1];exact h5,h6.more λl z=>.inr z⟩)
  cases a with
  |true=>exact key ma pa ha
  |false=>exact key mb pb hb
structure jc(δ ν β ρ:Type) where
 N:ν->Ctx
 B:β->Ctx
 E:δ->Ctx
 post:ρ->SA×Ctx
 ow:List W
variable{ν ν' ρ:Type}
def jT(d:Nat) (J:jc δ ν β ρ) (out:Fl) (g:G) (F0:Ft) (R:Rg) (p:RF δ ν β ρ):Prop:=
 p = .bad\/(∃e x σ' g' aA,p = .ex e x/\out = .ex e.c e.fs σ' g'/\Sat d (J.E x) σ' g' aA R/\aZ F0 g (Own aA) g') \/
 (∃s σ' g' aA,p = .ok (.nx s)/\out = .nx σ' g'/\Sat d (J.N s) σ' g' aA R/\aZ F0 g (Own aA) g') \/
 (∃s σ' g' aA,p = .ok (.bk s)/\out = .bk σ' g'/\Sat d (J.B s) σ' g' aA R/\aZ F0 g (Own aA) g') \/
 (∃s σ' g' aA,p = .ok (.ct s)/\out = .ct σ' g'/\Sat d (J.B s) σ' g' aA R/\aZ F0 g (Own aA) g') \/
 ∃t w g' F1 Fo,p = .ok (.rt t)/\out = .rt w g'/\vW.rel 1 (J.post t).1 w g' F1 R/\vA.rel 1 (J.post t).2 J.ow g' Fo R/\(∀l,F1 l\/Fo l->l<g'.length)/\(∀l,F1 l -> ¬ Fo l)/\aZ F0 g (λl=>F1 l\/Fo l) g'
def SX(d:Nat) (J:jc δ ν β ρ) (Γ:Ctx) (m:SD) (p:RF δ ν β ρ):Prop:=
 ∀σ g Fs R,Sat d Γ σ g Fs R->jT d J (m σ g) g (Own Fs) R p
variable{J:jc δ ν β ρ}{q:RF δ ν β ρ}
theorem jT.more{out:Fl}{g R}{F0 F1:Ft}(h:jT d J out g F0 R q) (hF:∀l,F0 l->F1 l):jT d J out g F1 R q:=by
 rcases h with h|⟨e,x,σ',g',aA,h1,h2,h3,h4⟩|⟨s,σ',g',aA,h1,h2,h3,h4⟩|⟨s,σ',g',aA,h1,h2,h3,h4⟩|⟨s,σ',g',aA,h1,h2,h3,h4⟩|⟨t,w,g',F1,Fo,h1,h2,h3,h4,h5,h6,h7⟩
 ·exact .inl h
 ·exact .inr (.inl ⟨e,x,σ',g',aA,h1,h2,h3,h4.more hF⟩)
 ·exact .inr (.inr (.inl ⟨s,σ',g',aA,h1,h2,h3,h4.more hF⟩))
 ·exact .inr (.inr (.inr (.inl ⟨s,σ',g',aA,h1,h2,h3,h4.more hF⟩)))
 ·exact .inr (.inr (.inr (.inr (.inl ⟨s,σ',g',aA,h1,h2,h3,h4.more hF⟩))))
 ·exact .inr (.inr (.inr (.inr (.inr ⟨t,w,g',F1,Fo,h1,h2,h3,h4,h5,h6,h7.more hF⟩))))
theorem jT.step{out:Fl}{g g1 R}{F0 F1:Ft}(st:aZ F0 g F1 g1) (h:jT d J out g1 F1 R q):jT d J out g F0 R q:=by
 rcases h with h|⟨e,x,σ',g',aA,h1,h2,h3,h4⟩|⟨s,σ',g',aA,h1,h2,h3,h4⟩|⟨s,σ',g',aA,h1,h2,h3,h4⟩|⟨s,σ',g',aA,h1,h2,h3,h4⟩|⟨t,w,g',F1,Fo,h1,h2,h3,h4,h5,h6,h7⟩
 ·exact .inl h
 ·exact .inr (.inl ⟨e,x,σ',g',aA,h1,h2,h3,st.trans h4⟩)
 ·exact .inr (.inr (.inl ⟨s,σ',g',aA,h1,h2,h3,st.trans h4⟩))
 ·exact .inr (.inr (.inr (.inl ⟨s,σ',g',aA,h1,h2,h3,st.trans h4⟩)))
 ·exact .inr (.inr (.inr (.inr (.inl ⟨s,σ',g',aA,h1,h2,h3,st.trans h4⟩))))
 ·exact .inr (.inr (.inr (.inr (.inr ⟨t,w,g',F1,Fo,h1,h2,h3,h4,h5,h6,st.trans h7⟩))))
theorem qB.fl{r1:Out τ}{k:τ->G->Fl}{σ g R}{F0:Ft}{C1:A->Ctx->RF δ ν β ρ->Prop}(h:qB V d J.E r1 σ g F0 R q C1)
  (hk:∀a Γ' t g' F aA,C1 a Γ' q->V.rel d a t g' F R->zG d F aA g' R->Sat d Γ' σ g' aA R->aZ F0 g (jM F aA) g'->jT d J (k t g') g' (jM F aA) R q):jT d J (r1.fl σ k) g F0 R q:=by
 rcases h with h|⟨e,x,g',aA,h1,h2,h3,h4⟩|⟨a,Γ',t,g',F,aA,h1,h2,h3,h4,h5,h6⟩
 ·exact .inl h
 ·exact .inr (.inl ⟨e,x,σ,g',aA,h1,by rw[h2];rfl,h3,h4⟩)
 ·rw[h2];exact .step h6 (hk a Γ' t g' F aA h1 h3 h4 h5 h6)
def u6(r:Fl) (b:SD):Fl:=match r with
 | .nx σ g=>b σ g
 |r=>r
theorem Ir{a b:SD}{σ g}:zB a b σ g=u6 (a σ g) b:=by
 unfold zB u6
 cases a σ g <;> rfl
theorem jT.seq{out:Fl}{b:SD}{g R}{F0:Ft}{N1:ν'->Ctx}{p1:RF δ ν' β ρ}{k:ν'->RF δ ν β ρ}(h:jT d { N:=N1,B:=J.B,E:=J.E,post:=J.post,ow:=J.ow } out g F0 R p1) (hb:∀s,SX d J (N1 s) b (k s)) :
  jT d J (u6 out b) g F0 R (p1.seq k):=by
 rcases h with rfl|⟨e,x,σ',g',aA,rfl,rfl,h3,h4⟩|⟨s,σ',g',aA,rfl,rfl,h3,h4⟩|⟨s,σ',g',aA,rfl,rfl,h3,h4⟩|⟨s,σ',g',aA,rfl,rfl,h3,h4⟩|⟨t,w,g',F1,Fo,rfl,rfl,h3,h4,h5,h6,h7⟩
 ·exact .inl rfl
 ·exact .inr (.inl ⟨e,x,σ',g',aA,rfl,rfl,h3,h4⟩)
 ·exact .step h4 (hb s σ' g' aA R h3)
 ·exact .inr (.inr (.inr (.inl ⟨s,σ',g',aA,rfl,rfl,h3,h4⟩)))
 ·exact .inr (.inr (.inr (.inr (.inl ⟨s,σ',g',aA,rfl,rfl,h3,h4⟩))))
 ·exact .inr (.inr (.inr (.inr (.inr ⟨t,w,g',F1,Fo,rfl,rfl,h3,h4,h5,h6,h7⟩))))
theorem jF{a b:SD}{p1:RF δ ν' β ρ}{k:ν'->RF δ ν β ρ}(N1:ν'->Ctx) (h:SX d { N:=N1,B:=J.B,E:=J.E,post:=J.post,ow:=J.ow } Γ a p1) (hb:∀s,SX d J (N1 s) b (k s)):SX d J Γ (zB a b) (p1.seq k):=λσ g Fs R S=>by
 rw[Ir];exact jT.seq (h σ g Fs R S) hb
theorem zR{s:ν}(h:Le Γ (J.N s)):SX d J Γ qy (.ok (.nx s)):=λσ g Fs R S=>.inr (.inr (.inl ⟨s,σ,g,Fs,rfl,rfl,S.le h,.refl⟩))
theorem zkF{a:SD}:zB a qy=a:=by
 funext σ g
 unfold zB
 cases a σ g <;> rfl
theorem jB{a:SD}(h:SX d J Γ (zB a qy) q):SX d J Γ a q:=by rw[zkF]at h;exact h
theorem ziU{a b c:SD}:zB (zB a b) c=zB a (zB b c):=by
 funext σ g
 unfold zB
 cases a σ g <;> rfl
theorem zT{e:ED}{i:Nat}{rest:SD}(h:EX d J.E Γ e q λa Γ' q'=>SX d J (put Γ' i a) rest q'):SX d J Γ (zB (zX e (aM i)) rest) q:=λσ g Fs R S=>by
 have key:zB (zX e (aM i)) rest σ g=(e σ g).fl σ λw g=>rest (σ.set i (ah w)) g:=by
  unfold zB zX aM
  cases e σ g <;> rfl
 rw[key];refine qB.fl (h σ g Fs R S) λa Γ1 w g1 F1 aP c ra B1 S1 cG=>?_;have S2:=S1.rK (i:=i) B1 ra.1 ra.2;rw[<- j4]at S2;refine(c _ g1 _ R S2).more λl ⟨j,hj⟩=>?_
 by_cases e:j=i
 ·subst e;rw[zr]at hj;exact .inl hj
 ·rw[zt e]at hj;exact .inr ⟨j,hj⟩
theorem j6{e:ED}{rest:SD}(h:EX d J.E Γ e q λa Γ' q'=>SX d J Γ' rest q'):SX d J Γ (zB (ZC e) rest) q:=λσ g Fs R S=>by
 have key:zB (ZC e) rest σ g=(e σ g).fl σ λw g=>rest σ g:=by
  unfold zB ZC
  cases e σ g <;> rfl
 rw[key];exact qB.fl (h σ g Fs R S) λa Γ1 w g1 F1 aP c ra B1 S1 cG=>(c _ g1 _ R S1).more λl h=>.inr h
inductive gV:Ctx->Ctx->List W->Prop where
 |nil {G0:Ctx}:gV G0 [] []
 |ME {τ1:Type}{r1:RP τ1}{G1:Ctx}{v:τ1}{w:W}{outs:Ctx}{ow:List W}{a:SA}(i:Nat) (hi:bW G1 i=ah a) (hl:a.le (pin r1 v w)) (hr:r1.lv=0) (t:gV (put G1 i .any) outs ow):gV G1 (pin r1 v w :: outs) (w :: ow)
 |gone {G1:Ctx}{w:W}{outs:Ctx}{ow:List W}(t:gV G1 outs ow):gV G1 (SA.any :: outs) (w :: ow)
theorem gV.cons{τ1:Type}{r1:RP τ1}{G1:Ctx}{v:τ1}{w:W}{outs:Ctx}{ow:List W}(i:Nat) (hi:bW G1 i=ah (pin r1 v w)) (hr:r1.lv=0) (t:gV (put G1 i .any) outs ow):gV G1 (pin r1 v w :: outs) (w :: ow):=.ME i hi SA.r hr t
theorem gV.sat{outs ow}{Γ:Ctx}(h:gV Γ outs ow):∀{σ g Fs R},Sat d Γ σ g Fs R->∃Fo,vA.rel 1 outs ow g Fo R/\∀l,Fo l->Own Fs l:=by
 induction h with
 |nil=>exact λ{σ g Fs R} S=>⟨aJ,⟨λ_=>aJ,⟨rfl,λi a h=>by simp at h,λ_ _ _ h=>h.elim⟩,λ_ _ h=>h⟩,λl h=>h.elim⟩
 | @gone G1 w outs ow t ih=>
  intro σ g Fs R S;obtain⟨Fo,⟨Fa,⟨h1,h2,h3⟩,h4⟩,h5⟩:=ih S;refine⟨Fo,⟨λj=>if j=0 then aJ else Fa (j - 1),⟨by simp[h1],λj b hb=>?_,λj k l hj hk=>?_⟩,λj l hj=>?_⟩,h5⟩
  ·cases j with
   |zero=>simp at hb;subst hb;exact⟨w,rfl,aF _,True.intro⟩
   |succ j=>simpa using h2 j b (by simpa using hb)
  ·cases j with
   |zero=>simp at hj;exact hj.elim
   |succ j=>
    cases k with
    |zero=>simp at hk;exact hk.elim
    |succ k=>
     have:=h3 j k l (by simpa using hj) (by simpa using hk);omega
  ·cases j with
   |zero=>simp at hj;exact hj.elim
   |succ j=>exact h4 j l (by simpa using hj)
 | @ME τ1 r1 G1 v w outs ow a i hi hle hr t ih=>
  intro σ g Fs R S;have kI:=hi;rw[jQ]at kI;obtain⟨o,ho,q⟩:=S.get kI;obtain⟨e,q⟩:=hle.to q
  have S2:Sat d (put G1 i .any) σ g (qX Fs i aJ) R:=by
   rw[j4];exact S.pE .no ho (aF _) True.intro
  obtain⟨Fo,⟨Fa,⟨h1,h2,h3⟩,h4⟩,h5⟩:=ih S2
  have sub:∀l,Fo l->Own Fs l /\ ¬ Fs i l:=λl hl=>by
   obtain⟨j,hj⟩:=h5 l hl
   by_cases e:j=i
   ·subst e;rw[zr]at hj;exact hj.elim
   ·rw[zt e]at hj;exact⟨⟨j,hj⟩,λz=>e (S.two j i l hj z)⟩
  refine⟨λl=>Fs i l\/Fo l,⟨λj=>if j=0 then Fs i else Fa (j - 1),⟨by simp[h1],λj b hb=>?_,λj k l hj hk=>?_⟩,λj l hj=>?_⟩,λl hl=>hl.elim (λz=>⟨i,z⟩) λz=>(sub l z).1⟩
  ·cases j with
   |zero=>simp at hb;subst hb;exact⟨w,rfl,by show r1.lv<=1;omega,rfl,q⟩
   |succ j=>simpa using h2 j b (by simpa using hb)
  ·cases j with
   |zero=>
    cases k with
    |zero=>rfl
    |succ k=>exact((sub l (h4 k l (by simpa using hk))).2 (by simpa using hj)).elim
   |succ j=>
    cases k with
    |zero=>exact((sub l (h4 j l (by simpa using hj))).2 (by simpa using hk)).elim
    |succ k=>rw[h3 j k l (by simpa using hj) (by simpa using hk)]
  ·cases j with
   |zero=>exact .inl (by simpa using hj)
   |succ j=>exact .inr (h4 j l (by simpa using hj))
structure O9(a a0:SA):Prop where
 le:a.le a0
 lv:a0.lv<=1
theorem jC{e:ED}(h:EX d J.E Γ e q λa Γ' q'=>∃t,q' = .ok (.rt t)/\O9 a (J.post t).1/\gV Γ' (J.post t).2 J.ow):SX d J Γ (Zm e) q:=λσ g Fs R S=>by
 show jT d J ((e σ g).fl σ λw g=>.rt w g) g (Own Fs) R q;refine qB.fl (h σ g Fs R S) λa Γ1 w g1 F1 aP ⟨t,e,h1,h2⟩ ra B1 S1 cG=>?_;obtain⟨Fo,h3,h4⟩:=h2.sat S1;refine .inr (.inr (.inr (.inr (.inr ⟨t,w,g1,F1,Fo,e,rfl,⟨h1.lv,h1.le.to ra.2⟩,h3,λl hl=>hl.elim (B1.low l) λz=>?_,λl hl z=>?_,⟨bC _,λ_ _ _=>rfl,λl hl=>.inl (hl.imp id (h4 l))⟩⟩))))
 ·obtain⟨j,hj⟩:=h4 l z;exact S1.low j l hj
 ·obtain⟨j,hj⟩:=h4 l z;exact B1.own l hl j hj
theorem zmN{t:ρ}(h1:(J.post t).1=own Jg ()) (h2:gV Γ (J.post t).2 J.ow):SX d J Γ oS (.ok (.rt t)):=λσ g Fs R S=>by
 obtain⟨Fo,h3,h4⟩:=h2.sat S;refine .inr (.inr (.inr (.inr (.inr ⟨t,.non,g,aJ,Fo,rfl,rfl,by rw[h1];exact⟨aF _,_,rfl,rfl⟩,h3,λl hl=>hl.elim (λz=>z.elim) λz=>?_,λl hl z=>hl.elim,⟨bC _,λ_ _ _=>rfl,λl hl=>.inl (hl.elim (λz=>z.elim) (h4 l))⟩⟩))));obtain⟨j,hj⟩:=h4 l z;exact S.low j l hj
theorem ZK{t:TD}{a b:SD}(h:TX d J.E Γ t q λc Γ' q'=>∃pa pb,q'=aL c pa pb/\SX d J Γ' a pa/\SX d J Γ' b pb):SX d J Γ (bH t a b) q:=λσ g Fs R S=>by
 show jT d J ((t σ g).fl σ λx g=>if x then a σ g else b σ g) g (Own Fs) R q;refine qB.fl (h σ g Fs R S) λc Γ1 w g1 F1 aP ⟨pa,pb,e,ha,hb⟩ ra B1 S1 cG=>?_;have ra:c=w:=ra;subst ra;subst e
 cases c with
 |true=>exact(ha σ g1 aP R S1).more λl h=>.inr h
 |false=>exact(hb σ g1 aP R S1).more λl h=>.inr h
def Res.fin{δ ν β ρ:Type}(r:RF δ ν β ρ) (k:ν->ρ):Res δ ρ:=match r with
 | .ok (.nx s)=>.ok (k s)
 | .ok (.rt t)=>.ok t
 | .ok _=>.bad
 | .ex e x=>.ex e x
 | .bad=>.bad
def yB(n:Nat):Ctx:=fQ n .any
theorem jU{n:Nat}{m:SD}{A:Ctx}{k:Nat}{ow:List W}{post:ρ->SA×Ctx}{pe:δ->Ctx}{N:ν->Ctx}{E:δ->Ctx}{pb:RF δ ν aE ρ}{fin:ν->ρ}(hk:A.length=k) (hn:k<=n)
  (body:SX 1 { N:=N,B:=λz=>(nomatch z),E:=E,post:=post,ow:=ow } (A++yB (n - k)) m pb) (hN:∀s,(post (fin s)).1=own Jg ()/\gV (N s) (post (fin s)).2 ow) (hE:∀x,gV (E x) (pe x) ow):FX (zW k (fnW n m)) A (pb.fin fin) ow post pe:=by
 intro ws g F R rA low cB apart;obtain⟨Fa,⟨h1,h2,h3⟩,h4⟩:=rA;have hl:ws.length=k:=h1.trans hk
 have S:Sat 1 (A++yB (n - k)) (Zo n ws) g (λi=>if i<k then Fa i else aJ) R:=by
  refine⟨?_,λi a e=>?_,λi l h=>?_,λj l hj hr=>?_,λi l h j hj=>?_,λi j l hi hj=>?_,λi a e=>?_⟩
  ·unfold Zo yB
   simp only[dw,cf,Vd];omega
  ·by_cases hi:i<k
   ·rw[cK (by omega)]at e
    obtain⟨w,hw,de,q⟩:=h2 i a e;refine⟨ah w,?_,by rw[aG hi];exact q⟩;unfold Zo;rw[cK (by rw[cf];omega),cC,hw];rfl
   ·rw[pY (by omega)]at e
    have ea:=di e;have lt:=(bP.mp e).1;unfold yB at ea lt;have:=Ve ea;subst this;rw[Vd]at lt;refine⟨ai,?_,True.intro⟩;unfold Zo;rw[pY (by rw[cf];omega),List.getElem?_replicate,aG (by rw[cf];omega)]
  ·split at h
   ·exact low l (h4 i l h)
   ·exact h.elim
  ·have:j=0:=by omega
   subst this;exact cB l hr
  ·split at h
   ·have:j=0:=by omega
    subst this;exact apart l (h4 i l h)
   ·exact h.elim
  ·split at hi
   ·split at hj
    ·exact h3 i j l hi hj
    ·exact hj.elim
   ·exact hi.elim
  ·by_cases hi:i<k
   ·rw[cK (by omega)]at e
    obtain⟨w,hw,de,q⟩:=h2 i a e;exact de
   ·rw[pY (by omega)]at e
    have ea:=di e;unfold yB at ea;have:=Ve ea;subst this;exact aF _
 have e0:zW k (fnW n m) ws g=(m (Zo n ws) g).out:=by
  unfold zW fnW;rw[aG hl]
 rw[e0]
 have mG:∀{F' g'},aZ (Own λi=>if i<k then Fa i else aJ) g F' g'->aZ F g F' g':=λst=>st.more λl ⟨i,hi⟩=>by
  dsimp only at hi
  split at hi
  ·exact h4 i l hi
  ·exact hi.elim
 rcases body _ g _ R S with h|⟨e,x,σ',g',aA,q1,q2,q3,q4⟩|⟨s,σ',g',aA,q1,q2,q3,q4⟩|⟨s,_⟩|⟨s,_⟩|⟨t,w,g',F1,Fo,q1,q2,q3,q4,q5,q6,q7⟩
 ·exact .inl (by rw[h];rfl)
 ·obtain⟨Fo,o1,o2⟩:=(hE x).sat q3
  exact .inr (.inl ⟨e,x,g',Fo,by rw[q1];rfl,by rw[q2];rfl,o1,λl hl=>by obtain⟨j,hj⟩:=o2 l hl;exact q3.low j l hj,(mG q4).sub o2⟩)
 ·obtain⟨o0,o⟩:=hN s
  obtain⟨Fo,o1,o2⟩:=o.sat q3;refine .inr (.inr ⟨fin s,.non,g',aJ,Fo,by rw[q1];rfl,by rw[q2];rfl,by rw[o0];exact⟨aF _,_,rfl,rfl⟩,o1,λl hl=>hl.elim (λz=>z.elim) λz=>by obtain⟨j,hj⟩:=o2 l z;exact q3.low j l hj,λl hl=>hl.elim,(mG q4).sub λl hl=>hl.elim (λz=>z.elim) (o2 l)⟩)
 ·nomatch s
 ·nomatch s
 ·exact .inr (.inr ⟨t,w,g',F1,Fo,by rw[q1];rfl,by rw[q2];rfl,q3,q4,q5,q6,mG q7⟩)
end
section
variable{δ κ A A' τ τ':Type}{V:VC A τ}{V':VC A' τ'}{d:Nat}{JE:δ->Ctx}{Γ:Ctx}{p:Res δ κ}{Cont:SA->Ctx->Res δ κ->Prop}{α β γ ν ν' ρ:Type}{r:RP α}{J:jc δ ν β ρ}{q:RF δ ν β ρ}
def iB(d:Nat):Ctx->aw
 |[]=>aj
 |a :: Γ=>cy a.lv d && iB d Γ
theorem Iu:∀{Γ:Ctx}{i:Nat}{a:SA},iB d Γ=aj->Γ[i]? = ah a->a.lv<=d
 |[],i,a,_,e=>by simp at e
 |b :: Γ,0,a,h,e=>by simp at e;subst e;unfold iB at h;exact gJ (lU.mp h).1
 |b :: Γ,i+1,a,h,e=>by unfold iB at h;exact Iu (lU.mp h).2 (by simpa using e)
theorem Sat.push{σ:Sg}{g Fs R}{F:Ft}(S:Sat d Γ σ g Fs R) (B:zG d F Fs g R):Sat (d+1) Γ σ g Fs (qX R d F) where
 len:=S.len
 at_:=λi a e=>by
  obtain⟨o,ho,q⟩:=S.at_ i a e;refine⟨o,ho,a.loc q (λ_ _=>rfl) λk l hk hr=>⟨?_,rfl⟩⟩;rw[zt (by have:=S.eX i a e;omega)];exact hr
 low:=S.low
 cB:=λj l hj hr=>by
  by_cases e:j=d
  ·subst e;rw[zr]at hr;exact B.low l hr
  ·rw[zt e]at hr;exact S.cB j l (by omega) hr
 apart:=λi l hl j hj hr=>by
  by_cases e:j=d
  ·subst e;rw[zr]at hr;exact B.own l hr i hl
  ·rw[zt e]at hr;exact S.apart i l hl j (by omega) hr
 two:=S.two
 eX:=λi a e=>by have:=S.eX i a e;omega
theorem Sat.pop{σ:Sg}{g Fs R}{F:Ft}(S:Sat (d+1) Γ σ g Fs (qX R d F)) (hl:iB d Γ=aj):Sat d Γ σ g Fs R where
 len:=S.len
 at_:=λi a e=>by
  obtain⟨o,ho,q⟩:=S.at_ i a e;refine⟨o,ho,a.loc q (λ_ _=>rfl) λk l hk hr=>⟨?_,rfl⟩⟩;rw[zt (by have:=Iu hl e;omega)]at hr;exact hr
 low:=S.low
 cB:=λj l hj hr=>S.cB j l (by omega) (by rw[zt (by omega)];exact hr)
 apart:=λi l hl j hj hr=>S.apart i l hl j (by omega) (by rw[zt (by omega)];exact hr)
 two:=S.two
 eX:=λi a e=>Iu hl e
theorem O_{a:SA}{w:W}{g F R F0}(h:vW.rel 1 a w g F (qX R d F0)) (hd:1<=d):vW.rel 1 a w g F R:=⟨h.1,a.loc h.2 (λ_ _=>rfl) λk l hk hr=>⟨by
 rw[zt (by have:=h.1;omega)]at hr;exact hr,rfl⟩⟩
theorem Pa{A:Ctx}{ws:List W}{g F R F0}(h:vA.rel 1 A ws g F (qX R d F0)) (hd:1<=d):vA.rel 1 A ws g F R:=by
 obtain⟨Fa,⟨h1,h2,h3⟩,h4⟩:=h;refine⟨Fa,⟨h1,λi a e=>?_,h3⟩,h4⟩;obtain⟨w,hw,hl,q⟩:=h2 i a e;exact⟨w,hw,hl,a.loc q (λ_ _=>rfl) λk l hk hr=>⟨by rw[zt (by omega)]at hr;exact hr,rfl⟩⟩
theorem jT.pop{out:Fl}{g:G}{F0 F:Ft}{R:Rg}{N':ν->Ctx}{B':β->Ctx}(hd:1<=d) (hE:∀x,iB d (J.E x)=aj) (h:jT (d+1) { N:=N',B:=B',E:=J.E,post:=J.post,ow:=J.ow } out g F0 (qX R d F) q)
  (hN:∀s σ' g' aA,Sat (d+1) (N' s) σ' g' aA (qX R d F)->aZ F0 g (Own aA) g'->∃aV,Sat d (J.N s) σ' g' aV R/\∀l,Own aV l->Own aA l\/F l) (hB:∀s σ' g' aA,Sat (d+1) (B' s) σ' g' aA (qX R d F)->aZ F0 g (Own aA) g'->∃aV,Sat d (J.B s) σ' g' aV R/\∀l,Own aV l->Own aA l\/F l) :
  jT d J out g (λl=>F0 l\/F l) R q:=by
 have up:∀{F1 F2:Ft}{g'},aZ F0 g F1 g'->(∀l,F2 l->F1 l\/F l)->aZ (λl=>F0 l\/F l) g F2 g':=λst h=>⟨st.len,λl h1 h2=>st.keep l h1 λz=>h2 (.inl z),λl h1=>(h l h1).elim (λz=>(st.new l z).imp .inl id) λz=>.inl (.inr z)⟩
 rcases h with h|⟨e,x,σ',g',aA,h1,h2,h3,h4⟩|⟨s,σ',g',aA,h1,h2,h3,h4⟩|⟨s,σ',g',aA,h1,h2,h3,h4⟩|⟨s,σ',g',aA,h1,h2,h3,h4⟩|⟨t,w,g',F1,Fo,h1,h2,h3,h4,h5,h6,h7⟩
 ·exact .inl h
 ·exact .inr (.inl ⟨e,x,σ',g',aA,h1,h2,h3.pop (hE x),up h4 λl hl=>.inl hl⟩)
 ·obtain⟨aV,S2,h5⟩:=hN s σ' g' aA h3 h4
  exact .inr (.inr (.inl ⟨s,σ',g',aV,h1,h2,S2,up h4 h5⟩))
 ·obtain⟨aV,S2,h5⟩:=hB s σ' g' aA h3 h4
  exact .inr (.inr (.inr (.inl ⟨s,σ',g',aV,h1,h2,S2,up h4 h5⟩)))
 ·obtain⟨aV,S2,h5⟩:=hB s σ' g' aA h3 h4
  exact .inr (.inr (.inr (.inr (.inl ⟨s,σ',g',aV,h1,h2,S2,up h4 h5⟩))))
 ·exact .inr (.inr (.inr (.inr (.inr ⟨t,w,g',F1,Fo,h1,h2,O_ h3 hd,Pa h4 hd,h5,h6,up h7 λl hl=>.inl hl⟩))))
structure Iv(a0:SA) (r:RP α) (v:α):Prop where
 out:∀{o g F R},a0.s o g F R->∃w0,o=ah w0/\r.r v w0 g F R/\∀g' F' R',r.r v w0 g' F' R'->a0.s (ah w0) g' F' R'
 lv:a0.lv=r.lv
theorem zmO{v:α}:Iv (own r v) r v:=⟨λ⟨w,e,q⟩=>⟨w,e,q,λ_ _ _ z=>⟨w,rfl,z⟩⟩,rfl⟩
theorem zmP{v:α}{w:W}:Iv (pin r v w) r v:=⟨λ⟨e,q⟩=>⟨w,e,q,λ_ _ _ z=>⟨rfl,z⟩⟩,rfl⟩
def GX(d:Nat) (a:SA) (Γ:Ctx) (tg:GD) (p:Res δ κ) (Cont:Ctx->Res δ κ->Prop):Prop:=
 ∀σ g Fs R w F,Sat d Γ σ g Fs R->vW.rel d a w g F R->zG d F Fs g R->∃Γ' σ' aA,Cont Γ' p/\tg w σ g = .ok σ' g/\Sat d Γ' σ' g aA R/\∀l,Own aA l->jM F Fs l
def C6(d:Nat) (A:Ctx) (Γ:Ctx) (tg:i5) (p:Res δ κ) (Cont:Ctx->Res δ κ->Prop):Prop:=
 ∀σ g Fs R ws F,Sat d Γ σ g Fs R->vA.rel d A ws g F R->zG d F Fs g R->∃Γ' σ' aA,Cont Γ' p/\tg ws σ g = .ok σ' g/\Sat d Γ' σ' g aA R/\∀l,Own aA l->jM F Fs l
variable{oH:Ctx->Res δ κ->Prop}
theorem jV{i:Nat}{a:SA}(c:oH (put Γ i a) p):GX d a Γ (aM i) p oH:=λσ g Fs R w F S ra B=>by
 refine⟨_,_,_,c,rfl,by rw[j4];exact S.rK B ra.1 ra.2,λl hl=>?_⟩;obtain⟨j,hj⟩:=hl
 by_cases e:j=i
 ·subst e;rw[zr]at hj;exact .inl hj
 ·rw[zt e]at hj;exact .inr ⟨j,hj⟩
theorem u7(c:oH Γ p):C6 d [] Γ J1 p oH:=λσ g Fs R ws F S ⟨Fa,⟨h1,_⟩,_⟩ B=>by
 have:ws=[]:=oz (by simpa using h1);subst this;exact⟨_,_,_,c,rfl,S,λl h=>.inr h⟩
theorem j9{a:SA}{A:Ctx}{tg:GD}{pF:i5}(h:GX d a Γ tg p λΓ' q=>C6 d A Γ' pF q oH):C6 d (a :: A) Γ (jE tg pF) p oH:=λσ g Fs R ws F S ⟨Fa,⟨h1,h2,h3⟩,h4⟩ B=>by
 cases ws with
 |nil=>simp at h1
 |cons w ws=>
  obtain⟨w',e,hl,q⟩:=h2 0 a rfl;simp at e;subst e;obtain⟨Γ1,σ1,aP,c1,e1,S1,h5⟩:=h σ g Fs R w (Fa 0) S ⟨hl,q⟩ (B.sub (h4 0))
  have B2:zG d (λl=>∃j,Fa (j+1) l) aP g R:=⟨λl ⟨j,hj⟩=>B.low l (h4 _ l hj),λl ⟨j,hj⟩=>B.apart l (h4 _ l hj),λl ⟨j,hj⟩ i hi=>by
   rcases h5 l ⟨i,hi⟩ with z|z
   ·have:=h3 _ _ l hj z;omega
   ·obtain⟨m,hm⟩:=z;exact B.own l (h4 _ l hj) m hm⟩
  obtain⟨Γ2,σ2,aV,c2,e2,S2,h6⟩:=c1 σ1 g aP R ws (λl=>∃j,Fa (j+1) l) S1 ⟨λj=>Fa (j+1),⟨by simpa using h1,λi b hb=>by simpa using h2 (i+1) b (by simpa using hb),λi j l hi hj=>by have:=h3 _ _ l hi hj;omega⟩,λj l hj=>⟨j,hj⟩⟩ B2;refine⟨Γ2,σ2,aV,c2,?_,S2,λl hl=>?_⟩
  ·unfold jE
   dsimp only;rw[e1];dsimp only;rw[e2]
  ·rcases h6 l hl with⟨j,hj⟩|hl
   ·exact .inl (h4 _ l hj)
   ·rcases h5 l hl with hl|hl
    ·exact .inl (h4 _ l hl)
    ·exact .inr hl
structure Iw(a:SA) (A:Ctx):Prop where
 to:∀{d w g F R},vW.rel d a w g F R->∃ws,w = .tup ws/\vA.rel d A ws g F R
theorem u9{a:SA}{A:Ctx}{n:Nat}{pF:i5}(sp:Iw a A) (hn:A.length=n) (h:C6 d A Γ pF p oH):GX d a Γ (QY n pF) p oH:=λσ g Fs R w F S ra B=>by
 obtain⟨ws,rfl,rA⟩:=sp.to ra;obtain⟨Γ',σ',aA,c,e,S',h5⟩:=h σ g Fs R ws F S rA B;refine⟨Γ',σ',aA,c,?_,S',h5⟩;obtain⟨Fa,⟨h1,_⟩,_⟩:=rA;unfold QY;dsimp only;rw[aG (h1.trans hn)];exact e
theorem u_{e:ED}{tg:GD}{rest:SD}(h:EX d J.E Γ e q λa Γ' q'=>GX d a Γ' tg q' λΓ'' q''=>SX d J Γ'' rest q''):SX d J Γ (zB (zX e tg) rest) q:=λσ g Fs R S=>by
 have key:zB (zX e tg) rest σ g=(e σ g).fl σ λw g=>(tg w σ g).fl σ λσ g=>rest σ g:=by
  unfold zB zX
  cases e σ g with
  |ok w g1=>
   show(match (tg w σ g1).fl σ λσ g=>.nx σ g with
    | .nx σ g=>rest σ g
    |r=>r)=(tg w σ g1).fl σ λσ g=>rest σ g
   cases tg w σ g1 <;> rfl
  |_=>rfl
 rw[key];refine qB.fl (h σ g Fs R S) λa Γ1 w g1 F1 aP c ra B1 S1 cG=>?_;obtain⟨Γ2,σ2,aV,c2,e2,S2,h5⟩:=c σ g1 aP R w F1 S1 ra B1;rw[e2];exact(c2 _ g1 _ R S2).more h5
def vI:VC (Ctx×aw) ZS:=⟨λd A J g F R=>(J.ws.length=A.1.length/\(∀(i:Nat) (a:SA),A.1[i]? = ah a->∃w,J.ws[i]? = ah w/\a.lv<=d/\a.s (ah w) g F R)/\∀g':G,(∀l,F l->g'[l]? = g[l]?)->(∀j l,j<d->R j l->g'[l]? = g[l]?)->ZI J g'=aj)/\(A.2=aj->fits A.1.length=aj),
 λ{d A J g g' F R} ⟨⟨h1,h2,h3⟩,h4⟩ e1 e2=>⟨⟨h1,λi a e=>by
  obtain⟨w,hw,hl,q⟩:=h2 i a e;exact⟨w,hw,hl,a.loc q e1 λk l hk hr=>⟨hr,e2 k l (by omega) hr⟩⟩,λg2 q1 q2=>h3 g2 (λl hl=>(q1 l hl).trans (e1 l hl)) λj l hj hr=>(q2 j l hj hr).trans (e2 j l hj hr)⟩,h4⟩⟩
def IX(d:Nat) (JE:δ->Ctx) (Γ:Ctx) (m:ID) (p:Res δ κ) (Cont:Ctx×aw->Ctx->Res δ κ->Prop):Prop:=
 ∀σ g Fs R,Sat d Γ σ g Fs R->qB vI d JE (m σ g) σ g (Own Fs) R p Cont
def jW{δ ν β ρ α:Type}(f:α->ν->RF δ ν ν ρ):List α->ν->RF δ ν β ρ
 |[],s=>.ok (.nx s)
 |x :: xs,s=>match f x s with
  | .ok (.nx s)=>jW f xs s
  | .ok (.ct s)=>jW f xs s
  | .ok (.bk s)=>.ok (.nx s)
  | .ok (.rt t)=>.ok (.rt t)
  | .ex e d=>.ex e d
  | .bad=>.bad
def Pb(d:Nat) (J:jc δ ν β ρ) (A:Ctx×aw) (Γ:Ctx) (tg:GD) (body:SD) (q:RF δ ν β ρ):Prop:=
 ∀σ g Fs R I F,Sat d Γ σ g Fs R->vI.rel d A I g F R->zG d F Fs g R->jT d J (Zn I tg body I.ws σ g) g (jM F Fs) R q
theorem Q7{it:ID}{tg:GD}{body:SD}(h:IX d J.E Γ it q λA Γ' q'=>Pb d J A Γ' tg body q'):SX d J Γ (fX it tg body) q:=λσ g Fs R S=>
 qB.fl (h σ g Fs R S) λA Γ1 I g1 F1 aP c ra B1 S1 cG=>c σ g1 aP R I F1 S1 ra B1
structure El(d:Nat) (r r':RP α):Prop where
 to:∀{v w g F R},r.lv<=d->r.r v w g F R->r'.r v w g aJ (qX R d F)
 lv:r.lv<=d->r'.lv<=d+1
theorem ZQ{f:α->W}:El d (val f) (val f):=⟨λ_ h=>h,λ_=>aF _⟩
theorem lD{tg:GD}{body:SD}{xs:List α}{s0:ν}{f:α->ν->RF δ ν ν ρ}{A:Ctx×aw}(r':RP α) (L:ν->Ctx) (hs:A.1=xs.map (own r)) (he:El d r r') (hd:1<=d) (h0:Le Γ (L s0)) (hL:∀s,iB d (L s)=aj) (hE:∀x,iB d (J.E x)=aj) (hN:∀s,Le (L s) (J.N s))
  (step:∀x s,GX (d+1) (own r' x) (L s) tg (f x s) λΓ' q'=>SX (d+1) { N:=L,B:=L,E:=J.E,post:=J.post,ow:=J.ow } Γ' body q'):Pb d J A Γ tg body (jW f xs s0):=λσ g Fs R I F S rI B=>by
 obtain⟨⟨h1,h2,h3⟩,_⟩:=rI;rw[hs]at h1 h2
 have main:∀(ws:List W) (ys:List α) (n:Nat),ws=I.ws.drop n->ys=xs.drop n->∀s σ g1 aP,Sat d (L s) σ g1 aP R->aZ (jM F Fs) g (Own aP) g1->(∀l,F l -> ¬ Own aP l)->(∀l,F l->g1[l]? = g[l]?)->jT d J (Zn I tg body ws σ g1) g (jM F Fs) R (jW f ys s):=by
  intro ws
  induction ws with
  |nil=>
   intro ys n hw hy s σ g1 aP S1 st hF keep
   have:ys=[]:=by
    have l1:(I.ws.drop n).length=0:=by rw[<- hw];rfl
    rw[oA,h1,cf]at l1;have:ys.length=0:=by rw[hy,oA];exact l1
    exact oz this
   subst this;have kr:∀j l,j<d->R j l->g1[l]? = g[l]?:=λj l hj hr=>st.keep l (S.cB j l hj hr) λz=>z.elim (λz=>B.apart l z j hj hr) λ⟨i,hi⟩=>S.apart i l hi j hj hr;unfold Zn;rw[aG (h3 g1 keep kr)];exact .inr (.inr (.inl ⟨s,σ,g1,aP,rfl,rfl,S1.le (hN s),st⟩))
  |cons w ws ih=>
   intro ys n hw hy s σ g1 aP S1 st hF keep
   have yC:I.ws[n]? = ah w:=by
    have:=gb (λl=>l[0]?) hw;simpa using this.symm
   have lt:n<xs.length:=by
    have:=(bP.mp yC).1;rw[h1,cf]at this;exact this
   have hx:=ke lt
   generalize xs[n]=x at hx
   have gU:ys=x :: xs.drop (n+1):=by
    rw[hy,LU lt];rw[ke lt]at hx
    cases hx;rfl
   have eu:ws=I.ws.drop (n+1):=by
    have:=gb (Vf 1) hw;rw[Bj]at this;simpa [Vg] using this
   obtain⟨w',ew,hl,q⟩:=h2 n (own r x) (by rw[cC,hx];rfl);rw[yC]at ew;cases ew;have kr:∀j l,j<d->R j l->g1[l]? = g[l]?:=λj l hj hr=>st.keep l (S.cB j l hj hr) λz=>z.elim (λz=>B.apart l z j hj hr) λ⟨i,hi⟩=>S.apart i l hi j hj hr;obtain⟨_,ew,q⟩:=q;cases ew;have B1:zG d F aP g1 R:=⟨λl hl=>cu (B.low l hl) st.len,B.apart,λl hl i hi=>hF l hl ⟨i,hi⟩⟩
   have S2:=S1.push B1;have q1:r'.r x w g1 aJ (qX R d F):=he.to hl (r.loc q keep λk l hk hr=>⟨hr,kr k l (cu hk hl) hr⟩);obtain⟨Γ2,σ2,aV,c2,e2,S3,h5⟩:=step x s σ g1 aP _ w aJ S2 ⟨he.lv hl,w,rfl,q1⟩ .no;rw[gU];unfold Zn;rw[aG (h3 g1 keep kr),e2];have hb:=c2 σ2 g1 aV _ S3
   have down:∀{aA}{g'},aZ (Own aV) g1 (Own aA) g'->aZ (jM F Fs) g (Own aA) g'/\(∀l,F l -> ¬ Own aA l)/\∀l,F l->g'[l]? = g[l]?:=λ{aA g'} cO=>by
    have nF:aZ (Own aP) g1 (Own aA) g':=cO.more λl hl=>(h5 l hl).elim (λz=>z.elim) id;refine⟨st.trans nF,λl hl z=>(nF.new l z).elim (hF l hl) λy=>?_,λl hl=>(nF.keep l (cu (B.low l hl) st.len) (hF l hl)).trans (keep l hl)⟩;have:=B1.low l hl;omega
   show jT d J (Out.fl (.ok σ2 g1) σ λσ g=>(match body σ g with
    | .nx σ g=>Zn I tg body ws σ g
    | .ct σ g=>Zn I tg body ws σ g
    | .bk σ g=>.nx σ g
    |r=>r)) g (jM F Fs) R _
   show jT d J (match body σ2 g1 with
    | .nx σ g=>Zn I tg body ws σ g
    | .ct σ g=>Zn I tg body ws σ g
    | .bk σ g=>.nx σ g
    |r=>r) g (jM F Fs) R (jW f (x :: xs.drop (n+1)) s)
   unfold jW;rcases hb with h|⟨e,y,σ',g',aA,q1,q2,q3,q4⟩|⟨s',σ',g',aA,q1,q2,q3,q4⟩|⟨s',σ',g',aA,q1,q2,q3,q4⟩|⟨s',σ',g',aA,q1,q2,q3,q4⟩|⟨t,u,g',F1,Fo,q1,q2,q3,q4,q5,q6,q7⟩
   ·rw[h];exact .inl rfl
   ·rw[q1,q2];exact .inr (.inl ⟨e,y,σ',g',aA,rfl,rfl,q3.pop (hE y),(down q4).1⟩)
   ·rw[q1,q2];exact ih _ (n+1) eu rfl s' σ' g' aA (q3.pop (hL s')) (down q4).1 (down q4).2.1 (down q4).2.2
   ·rw[q1,q2];exact .inr (.inr (.inl ⟨s',σ',g',aA,rfl,rfl,(q3.pop (hL s')).le (hN s'),(down q4).1⟩))
   ·rw[q1,q2];exact ih _ (n+1) eu rfl s' σ' g' aA (q3.pop (hL s')) (down q4).1 (down q4).2.1 (down q4).2.2
   ·rw[q1,q2]
    refine .inr (.inr (.inr (.inr (.inr ⟨t,u,g',F1,Fo,rfl,rfl,O_ q3 hd,Pa q4 hd,q5,q6,st.trans ?_⟩))));exact q7.more λl hl=>(h5 l hl).elim (λz=>z.elim) id
 refine(main I.ws xs 0 rfl rfl s0 σ g Fs (S.le h0) ⟨bC _,λ_ _ _=>rfl,λl hl=>.inl (.inr hl)⟩ (λl hl ⟨i,hi⟩=>B.own l hl i hi) λ_ _=>rfl)
def Qp{δ ν β ρ:Type}(c:ν->Res δ aw) (f:ν->RF δ ν ν ρ):Nat->ν->RF δ ν β ρ
 |0,_=>.bad
 |n+1,s=>(c s).bind λb=>aL b (match f s with
  | .ok (.nx s)=>Qp c f n s
  | .ok (.ct s)=>Qp c f n s
  | .ok (.bk s)=>.ok (.nx s)
  | .ok (.rt t)=>.ok (.rt t)
  | .ex e d=>.ex e d
  | .bad=>.bad) (.ok (.nx s))
def Iy{δ ν β ρ:Type}(c:ν->Res δ aw) (f:ν->RF δ ν ν ρ) (s:ν):RF δ ν β ρ:=Qp c f oV s
theorem zkK{c:TD}{body:SD}{s0:ν}{pc:ν->Res δ aw}{f:ν->RF δ ν ν ρ}(L:ν->Ctx) (h0:Le Γ (L s0)) (hN:∀s,Le (L s) (J.N s)) (hc:∀s,TX d J.E (L s) c (pc s) (u5 (L s)))
  (step:∀s,SX d { N:=L,B:=L,E:=J.E,post:=J.post,ow:=J.ow } (L s) body (f s)):SX d J Γ (Ce c body) (Iy pc f s0):=λσ g Fs R S=>by
 have main:∀n s σ g Fs,Sat d (L s) σ g Fs R->jT d J (QJ c body n σ g) g (Own Fs) R (Qp pc f n s):=by
  intro n
  induction n with
  |zero=>exact λs σ g Fs S=>.inl rfl
  |succ n ih=>
   intro s σ g Fs S;unfold QJ Qp;rcases hc s σ g Fs R S with h|⟨e,x,g',aA,h1,h2,h3,h4⟩|⟨a,Γ',t,g',F,aA,⟨h0,h1⟩,h2,h3,h4,h5,h6⟩
   ·rw[h];exact .inl rfl
   ·rw[h1,h2];exact .inr (.inl ⟨e,x,σ,g',aA,rfl,rfl,h3,h4⟩)
   ·have h3:a=t:=h3
    subst h3;rw[h0,h2];subst h1;have h6:aZ (Own Fs) g (Own aA) g':=h6.sub λl hl=>.inr hl
    cases a with
    |false=>exact .inr (.inr (.inl ⟨s,σ,g',aA,rfl,rfl,h5.le (hN s),h6⟩))
    |true=>
     show jT d J (match body σ g' with
      | .nx σ g=>QJ c body n σ g
      | .ct σ g=>QJ c body n σ g
      | .bk σ g=>.nx σ g
      |r=>r) g (Own Fs) R (match f s with
      | .ok (.nx s)=>Qp pc f n s
      | .ok (.ct s)=>Qp pc f n s
      | .ok (.bk s)=>.ok (.nx s)
      | .ok (.rt t)=>.ok (.rt t)
      | .ex e d=>.ex e d
      | .bad=>.bad)
     rcases step s σ g' aA R h5 with h|⟨e,y,σ',eN,aV,q1,q2,q3,q4⟩|⟨s',σ',eN,aV,q1,q2,q3,q4⟩|⟨s',σ',eN,aV,q1,q2,q3,q4⟩|⟨s',σ',eN,aV,q1,q2,q3,q4⟩|⟨t,u,eN,F1,Fo,q1,q2,q3,q4,q5,q6,q7⟩
     ·rw[h];exact .inl rfl
     ·rw[q1,q2];exact .inr (.inl ⟨e,y,σ',eN,aV,rfl,rfl,q3,h6.trans q4⟩)
     ·rw[q1,q2];exact(ih s' σ' eN aV q3).step (h6.trans q4)
     ·rw[q1,q2];exact .inr (.inr (.inl ⟨s',σ',eN,aV,rfl,rfl,q3.le (hN s'),h6.trans q4⟩))
     ·rw[q1,q2];exact(ih s' σ' eN aV q3).step (h6.trans q4)
     ·rw[q1,q2];exact .inr (.inr (.inr (.inr (.inr ⟨t,u,eN,F1,Fo,rfl,rfl,q3,q4,q5,q6,h6.trans q7⟩))))
 exact main oV s0 σ g Fs (S.le h0)
end
end X
end WL
end
section
namespace WL
namespace X
open PySem
open L2 (atI ixN eqV)
section
variable{δ κ A A' τ τ':Type}{V:VC A τ}{V':VC A' τ'}{d:Nat}{JE:δ->Ctx}{Γ:Ctx}{p:Res δ κ}{Cont:SA->Ctx->Res δ κ->Prop}{α β γ ν ν' ρ:Type}{r:RP α}{J:jc δ ν β ρ}{q:RF δ ν β ρ}
abbrev ao:={s:Str // PyData.strOk s=aj}
abbrev zm:Int->W:=W.int
abbrev C7:aw->W:=W.bl
def zC:ao->W:=λs=>.str s.1
abbrev zp:RP ao:=val zC
def zE(f:α->W):au α->W
 |none=>.non
 |some v=>f v
def aB(f:α->W) (g:β->W):α×β->W:=λv=>.tup [f v.1,g v.2]
def C9{ε:Type}(f:α->W) (g:β->W) (h:ε->W):α×β×ε->W:=λv=>.tup [f v.1,g v.2.1,h v.2.2]
def C_{ε ζ:Type}(f:α->W) (g:β->W) (h:ε->W) (k:ζ->W):α×β×ε×ζ->W:=λv=>.tup [f v.1,g v.2.1,h v.2.2.1,k v.2.2.2]
def iD(f:α->W):List α->W:=λl=>.tup (l.map f)
def zqG:List Int->W:=W.eH
abbrev ZT:RP (List Int):=val zqG
class Dat (f:α->W) (n:UL Nat) where
 to:α->bF
 at_:∀rf v,j3 rf (f v)=ah (to v)
 lay:∀v,(to v).canLay0=aj
 dep:∀v,(to v).depth<=n
 inj:∀a b,PyData.eqv (to a) (to b)=aj↔a=b
instance:Dat zm 0:=⟨.int,λ_ _=>rfl,λ_=>rfl,λ_=>bC _,λa b=>by simp[PyData.eqv]⟩
instance:Dat C7 0:=⟨.bool,λ_ _=>rfl,λ_=>rfl,λ_=>bC _,λa b=>by simp[PyData.eqv]⟩
instance:Dat zC 0:=⟨λs=>.str s.1,λ_ _=>rfl,λs=>by show PyData.strOk s.1=aj;exact s.2,λ_=>bC _,λa b=>by
 simp only[PyData.eqv];rw[Uq];exact⟨λh=>Subtype.ext h,λh=>by rw[h]⟩⟩
instance:Dat (λ_:ax=>W.non) 0:=⟨λ_=>.none,λ_ _=>rfl,λ_=>rfl,λ_=>bC _,λa b=>by simp[PyData.eqv]⟩
class NN (f:α->W):Prop where
 nn:∀v,f v ≠ .non/\f v ≠ .dA
 nd:∀rf v d,j3 rf (f v)=ah d->PyData.eqv d .none=ak/\PyData.eqv .none d=ak
instance:NN zm:=⟨λv=>⟨nofun,nofun⟩,λrf v d h=>by cases h;exact⟨rfl,rfl⟩⟩
instance:NN C7:=⟨λv=>⟨nofun,nofun⟩,λrf v d h=>by cases h;exact⟨rfl,rfl⟩⟩
instance:NN zC:=⟨λv=>⟨nofun,nofun⟩,λrf v d h=>by cases h;exact⟨rfl,rfl⟩⟩
theorem Dc{f:α->W}{ws:α->List W}(h:∀v,f v = .tup (ws v)):NN f:=⟨λv=>⟨by rw[h];exact nofun,by rw[h];exact nofun⟩,λrf v d z=>by
 rw[h]at z;simp only[j3,mV]at z;obtain⟨ds,_,rfl⟩:=z;exact⟨rfl,rfl⟩⟩
instance {f:α->W}{g:β->W}:NN (aB f g):=Dc λ_=>rfl
instance {ε:Type}{f:α->W}{g:β->W}{h:ε->W}:NN (C9 f g h):=Dc λ_=>rfl
instance {ε ζ:Type}{f:α->W}{g:β->W}{h:ε->W}{k:ζ->W}:NN (C_ f g h k):=Dc λ_=>rfl
instance {f:α->W}:NN (iD f):=Dc λ_=>rfl
instance {f:α->W}{n:Nat} [D:Dat f n] [N:NN f]:Dat (zE f) n where
 to:=λo=>match o with
  |none=>.none
  |some v=>D.to v
 at_:=λrf o=>by cases o with
  |none=>rfl
  |some v=>exact D.at_ rf v
 lay:=λo=>by cases o with
  |none=>rfl
  |some v=>exact D.lay v
 dep:=λo=>by cases o with
  |none=>exact aF _
  |some v=>exact D.dep v
 inj:=λa b=>by
  cases a with
  |none=>
   cases b with
   |none=>simp[PyData.eqv]
   |some v=>
    have:=(N.nd (λ_=>ai) v _ (D.at_ _ v)).2;dsimp only;rw[this];simp
  |some v=>
   cases b with
   |none=>
    have:=(N.nd (λ_=>ai) v _ (D.at_ _ v)).1;dsimp only;rw[this];simp
   |some u=>
    dsimp only;rw[D.inj];simp
instance {f:α->W}{g:β->W}{n m:Nat} [D:Dat f n] [E:Dat g m]:Dat (aB f g) (max n m+1) where
 to:=λv=>.tuple [D.to v.1,E.to v.2]
 at_:=λrf v=>by simp only[aB,j3,toDgs,D.at_,E.at_,tR]
 lay:=λv=>by simp[PyData.canLay0,PyData.canLayAll0,D.lay,E.lay]
 dep:=λv=>by
  have h1:=D.dep v.1;have h2:=E.dep v.2;simp only[PyData.depth,PyData.depthAll];omega
 inj:=λa b=>by
  simp only[PyData.eqv,PyData.eqvAll,pZ,dV];rw[D.inj,E.inj];exact⟨λh=>Prod.ext h.1 h.2,λh=>by rw[h];exact⟨rfl,rfl⟩⟩
instance {ε:Type}{f:α->W}{g:β->W}{h:ε->W}{n m k:Nat} [D:Dat f n] [E:Dat g m] [F:Dat h k]:Dat (C9 f g h) (max n (max m k)+1) where
 to:=λv=>.tuple [D.to v.1,E.to v.2.1,F.to v.2.2]
 at_:=λrf v=>by simp only[C9,j3,toDgs,D.at_,E.at_,F.at_,tR]
 lay:=λv=>by simp[PyData.canLay0,PyData.canLayAll0,D.lay,E.lay,F.lay]
 dep:=λv=>by
  have h1:=D.dep v.1;have h2:=E.dep v.2.1;have h3:=F.dep v.2.2;simp only[PyData.depth,PyData.depthAll];omega
 inj:=λa b=>by
  simp only[PyData.eqv,PyData.eqvAll,pZ,dV];rw[D.inj,E.inj,F.inj];exact⟨λh=>Prod.ext h.1 (Prod.ext h.2.1 h.2.2),λh=>by rw[h];exact⟨rfl,rfl,rfl⟩⟩
instance {ε ζ:Type}{f:α->W}{g:β->W}{h:ε->W}{k:ζ->W}{n m u v:Nat} [D:Dat f n] [E:Dat g m] [F:Dat h u] [G:Dat k v]:Dat (C_ f g h k) (max n (max m (max u v))+1) where
 to:=λv=>.tuple [D.to v.1,E.to v.2.1,F.to v.2.2.1,G.to v.2.2.2]
 at_:=λrf v=>by simp only[C_,j3,toDgs,D.at_,E.at_,F.at_,G.at_,tR]
 lay:=λv=>by simp[PyData.canLay0,PyData.canLayAll0,D.lay,E.lay,F.lay,G.lay]
 dep:=λv=>by
  have h1:=D.dep v.1;have h2:=E.dep v.2.1;have h3:=F.dep v.2.2.1;have h4:=G.dep v.2.2.2;simp only[PyData.depth,PyData.depthAll];omega
 inj:=λa b=>by
  simp only[PyData.eqv,PyData.eqvAll,pZ,dV];rw[D.inj,E.inj,F.inj,G.inj];exact⟨λh=>Prod.ext h.1 (Prod.ext h.2.1 (Prod.ext h.2.2.1 h.2.2.2)),λh=>by rw[h];exact⟨rfl,rfl,rfl,rfl⟩⟩
theorem Iz{f:α->W}{n:Nat} [D:Dat f n] (rf:Nat->au bF):∀l:List α,toDgs rf (l.map f)=ah (l.map D.to)
 |[]=>rfl
 |v :: l=>by simp only[c6,toDgs,D.at_,Iz rf l]
theorem IA{f:α->W}{n:Nat} [D:Dat f n]:∀l:List α,PyData.canLayAll0 (l.map D.to)=aj
 |[]=>rfl
 |v :: l=>by simp only[c6,PyData.canLayAll0,D.lay,IA l,pZ]
theorem IB{f:α->W}{n:Nat} [D:Dat f n]:∀l:List α,PyData.depthAll (l.map D.to)<=n
 |[]=>aF _
 |v :: l=>by simp only[c6,PyData.depthAll];exact LV.mpr ⟨D.dep v,IB l⟩
theorem IC{f:α->W}{n:Nat} [D:Dat f n]:∀l m:List α,PyData.eqvAll (l.map D.to) (m.map D.to)=aj↔l=m
 |[],[]=>by simp[PyData.eqvAll]
 |[],_ :: _=>by simp[PyData.eqvAll]
 |_ :: _,[]=>by simp[PyData.eqvAll]
 |a :: l,b :: m=>by
  simp only[c6,PyData.eqvAll,dV];rw[D.inj,IC l m];simp
instance {f:α->W}{n:Nat} [D:Dat f n]:Dat (iD f) (n+1) where
 to:=λl=>.tuple (l.map D.to)
 at_:=λrf l=>by simp only[iD,j3,Iz,tR]
 lay:=λl=>by simp only[PyData.canLay0];exact IA l
 dep:=λl=>by simp only[PyData.depth];exact EI (IB l)
 inj:=λl m=>by simp only[PyData.eqv];exact IC l m
class gz (r:RP α) (n m:UL Nat) where
 to:α->bF
 at_:∀{v w g F R},r.r v w g F R->∀k,m<=k->j3 (aW g k) w=ah (to v)
 lay:∀v,(to v).canLay0=aj
 dep:∀v,(to v).depth<=n
 inj:∀a b,PyData.eqv (to a) (to b)=aj↔a=b
instance {f:α->W}{n:Nat} [D:Dat f n]:gz (val f) n 0:=⟨D.to,λh _ _=>by have h:_=f _:=h;rw[h];exact D.at_ _ _,D.lay,D.dep,D.inj⟩
instance {k n m:Nat}{r:RP α} [D:gz r n m]:gz (Sh k r) n m:=⟨D.to,λ⟨F',_,h⟩=>D.at_ h,D.lay,D.dep,D.inj⟩
def AE(A:Ctx) (ws:List W) (g:G) (Fa:Rg) (R:Rg):Prop:=
 ws.length=A.length/\(∀(i:Nat) (a:SA),A[i]? = ah a->∃w,ws[i]? = ah w/\a.s (ah w) g (Fa i) R)/\∀i j l,Fa i l->Fa j l->i=j
theorem AE.loc{A:Ctx}{n:Nat}{ws:List W}{g g':G}{Fa R R':Rg}(h:AE A ws g Fa R) (hl:∀a∈A,a.lv<=n) (e1:∀i l,Fa i l->g'[l]? = g[l]?) (e2:∀k l,k<n->R k l->R' k l/\g'[l]? = g[l]?):AE A ws g' Fa R':=
 ⟨h.1,λi a e=>by
  obtain⟨w,hw,q⟩:=h.2.1 i a e;exact⟨w,hw,a.loc q (e1 i) λk l hk=>e2 k l (cu hk (hl a (di e)))⟩,h.2.2⟩
def zd(r:RP α):RP (List α) where
 r:=λxs w g F R=>∃l ws Fa,w = .ref l/\g[l]? = ah (.lst ws)/\F l/\fits xs.length=aj/\AE (xs.map (own r)) ws g Fa R/\∀i k,Fa i k->F k/\k ≠ l
 lv:=r.lv
 loc:=λ{xs w g g' F R R'} ⟨l,ws,Fa,h1,h2,h3,h4,h5,h6⟩ e1 e2=>⟨l,ws,Fa,h1,by rw[e1 l h3];exact h2,h3,h4,h5.loc (n:=r.lv) (λa ha=>by
  obtain⟨x,_,rfl⟩:=eR.mp ha;exact bC _) (λi k hk=>e1 k (h6 i k hk).1) e2,h6⟩
 wk:=λ⟨l,ws,Fa,h1,h2,h3,h4,h5,h6⟩ e=>⟨l,ws,Fa,h1,h2,e l h3,h4,h5,λi k hk=>⟨e k (h6 i k hk).1,(h6 i k hk).2⟩⟩
theorem zoI{f:α->W}{xs:List α}{ws:List W}{g Fa R}(h:AE (xs.map (own (val f))) ws g Fa R):ws=xs.map f:=by
 apply Bq
 intro i
 cases hx:xs[i]? with
 |none=>
  have:xs.length<=i:=by simpa using hx
  rw[U5 (by rw[h.1,cf];exact this),cC,hx];rfl
 |some x=>
  obtain⟨w,hw,w',e1,e2⟩:=h.2.1 i (own (val f) x) (by rw[cC,hx];rfl);cases e1;rw[hw,cC,hx,show w=f x from e2];rfl
theorem zp8{f:α->W}{xs:List α}{g R}:AE (xs.map (own (val f))) (xs.map f) g (λ_=>aJ) R:=⟨by simp,λi a e=>by
 rw[cC,mV]at e;obtain⟨x,hx,rfl⟩:=e;exact⟨f x,by rw[cC,hx];rfl,f x,rfl,rfl⟩,λ_ _ _ h=>h.elim⟩
theorem jh{f:α->W}{xs:List α}{w g F R}:(zd (val f)).r xs w g F R↔∃l,w = .ref l/\g[l]? = ah (.lst (xs.map f))/\F l/\fits xs.length=aj:=
 ⟨λ⟨l,ws,Fa,h1,h2,h3,h4,h5,h6⟩=>⟨l,h1,by rw[h2,zoI h5],h3,h4⟩,λ⟨l,h1,h2,h3,h4⟩=>⟨l,_,λ_=>aJ,h1,h2,h3,h4,zp8,λ_ _ h=>h.elim⟩⟩
instance {r:RP α}{n m:Nat} [D:gz r n m]:gz (zd r) (n+1) (m+1) where
 to:=λxs=>.list (xs.map D.to)
 at_:=λ{xs w g F R} ⟨l,ws,Fa,h1,h2,h3,h4,h5,h6⟩ k hk=>by
  subst h1
  cases k with
  |zero=>omega
  |succ k=>
   show aW g (k+1) l=ah _;unfold aW;rw[h2]
   have:toDgs (aW g k) ws=ah (xs.map D.to):=by
    have key:∀(xs:List α) (ws:List W) (Fa:Rg),AE (xs.map (own r)) ws g Fa R->toDgs (aW g k) ws=ah (xs.map D.to):=by
     intro xs
     induction xs with
     |nil=>
      intro ws Fa h;have:ws=[]:=oz (by simpa using h.1);subst this;rfl
     |cons x xs ih=>
      intro ws Fa h
      cases ws with
      |nil=>have:=h.1;simp at this
      |cons w ws=>
       obtain⟨w',e,w2,e2,q⟩:=h.2.1 0 (own r x) rfl;simp at e;subst e;cases e2;unfold toDgs;rw[D.at_ q k (by omega),ih ws (λi=>Fa (i+1)) ⟨by simpa using h.1,λi a hi=>by simpa using h.2.1 (i+1) a (by simpa using hi),λi j l hi hj=>by have:=h.2.2 _ _ l hi hj;omega⟩];rfl
    exact key xs ws Fa h5
   dsimp only;rw[this];rfl
 lay:=λxs=>by
  have:∀xs:List α,PyData.canLayAll0 (xs.map D.to)=aj:=λxs=>by
   induction xs with
   |nil=>rfl
   |cons x xs ih=>simp only[c6,PyData.canLayAll0,D.lay,ih,pZ]
  simp only[PyData.canLay0];exact this xs
 dep:=λxs=>by
  have:∀xs:List α,PyData.depthAll (xs.map D.to)<=n:=λxs=>by
   induction xs with
   |nil=>exact aF _
   |cons x xs ih=>simp only[c6,PyData.depthAll];exact LV.mpr ⟨D.dep x,ih⟩
  simp only[PyData.depth];exact EI (this xs)
 inj:=λxs ys=>by
  have:∀l m:List α,PyData.eqvAll (l.map D.to) (m.map D.to)=aj↔l=m:=λl=>by
   induction l with
   |nil=>intro m;cases m <;> simp[PyData.eqvAll]
   |cons a l ih=>
    intro m
    cases m with
    |nil=>simp[PyData.eqvAll]
    |cons b m=>
     simp only[c6,PyData.eqvAll,dV];rw[D.inj,ih m];simp
  simp only[PyData.eqv];exact this xs ys
structure Rd(a:SA) (r:RP α) (v:α):Prop where
 to:∀{w g F R},a.s (ah w) g F R->∃F',r.r v w g F' R
theorem zoJ{v:α}:Rd (own r v) r v:=⟨λ⟨w,e,h⟩=>by cases e;exact⟨_,h⟩⟩
theorem zp9{k:Nat}{v:α}:Rd (own (Sh k r) v) r v:=⟨λ⟨w,e,F',_,h⟩=>by cases e;exact⟨_,h⟩⟩
theorem Jv{v:α}{w:W}:Rd (pin r v w) r v:=⟨λ⟨e,h⟩=>by cases e;exact⟨_,h⟩⟩
structure gA(d:Nat) (Γ:Ctx) (a:SA) (r:RP α) (v:α):Prop where
 to:∀{σ g Fs R w F},Sat d Γ σ g Fs R->a.s (ah w) g F R->∃F',r.r v w g F' R
theorem IE{a:SA}{v:α}(h:Rd a r v):gA d Γ a r v:=⟨λ_ q=>h.to q⟩
theorem qY{v:α}:gA d Γ (own r v) r v:=IE zoJ
theorem sN{k:Nat}{v:α}:gA d Γ (own (Sh k r) v) r v:=IE zp9
theorem yD{v:α}{w0:W}(i:Nat) (hi:bW Γ i=ah (pin r v w0)):gA d Γ (Il w0) r v:=⟨λ{σ g Fs R w F} S q=>by
 rw[jQ]at hi;obtain⟨o',_,e,q'⟩:=S.get hi;cases q;exact⟨_,q'⟩⟩
theorem j7{i:Nat}{v:α}{w0:W}(hi:bW Γ i=ah (pin r v w0)) (c:Cont (Il w0) Γ p):EX d JE Γ (zf i) p Cont:=λσ g Fs R S=>by
 rw[jQ]at hi;obtain⟨o,ho,e,hw⟩:=S.get hi;subst e;have e:zf i σ g = .ok w0 g:=by unfold zf;rw[ho]
 rw[e];exact .ret (F:=aJ) S c ⟨aF _,rfl⟩ .no λl hl=>hl.elim (λz=>z.elim) id
theorem QL{f:γ->W}{z:γ}{σ:Sg}{g:G}{Fs R}{F0:Ft}(S:Sat d Γ σ g Fs R) (c:Cont (own (val f) z) Γ p) (h0:∀l,Own Fs l->F0 l):qB vW d JE (.ok (f z) g) σ g F0 R p Cont:=
 .ret S c ⟨aF _,_,rfl,rfl⟩ .no λl hl=>h0 l (hl.elim (λz=>z.elim) id)
theorem IF{x y:SA}{v u:α}{r1 r2:RP α}{n1 m1 n2 m2:Nat} [DecidableEq α] [D:gz r1 n1 m1] [D2:gz r2 n2 m2] (h1:gA d Γ x r1 v) (h2:gA d Γ y r2 u) (hd:D2.to=D.to) (hm:(cy m1 4 && cy m2 4 && cy n1 64 && cy n2 64)=aj) (c:Cont (own z8 (decide (v=u))) Γ p):dC d JE fC x y Γ p Cont:=
 λσ g Fs R wx wy Fx Fy S hx hy Bx By _=>by
  obtain⟨F1,q1⟩:=h1.to S hx.2;obtain⟨F2,q2⟩:=h2.to S hy.2;simp only[dV,Bt]at hm
  have e:fC wx wy g = .ok (.bl (decide (v=u))) g:=by
   unfold fC toD;rw[D.at_ q1 4 hm.1.1.1,D2.at_ q2 4 hm.1.1.2];dsimp only;have s1:SeqAt.shaped (D.to v)=aj:=by unfold SeqAt.shaped;rw[D.lay];exact bJ (b_ (D.dep v) hm.1.2)
   have s2:SeqAt.shaped (D2.to u)=aj:=by unfold SeqAt.shaped;rw[D2.lay];exact bJ (b_ (D2.dep u) hm.2)
   rw[s1,s2]
   have:PyData.eqv (D.to v) (D2.to u)=decide (v=u):=by
    rw[hd]
    by_cases z:v=u
    ·rw[bJ z];exact(D.inj v u).mpr z
    ·rw[fP z,Bu];exact λk=>z ((D.inj v u).mp k)
   rw[this];rfl
  rw[e];exact QL S c λl hl=>.inr (.inr hl)
def f6{δ:Type}(b:aw):Res δ ax:=aL b (.ok ()) .bad
def zY{δ α:Type}(xs:List α) (i:Int):Res δ α:=match atI xs i with
 |some x=>.ok x
 |none=>.bad
def ck{δ α:Type}(o:au α):Res δ α:=match o with
 |some x=>.ok x
 |none=>.bad
theorem op_isN{f:α->W}{v:au α} [N:NN f] (c:Cont (own z8 v.isNone) Γ p):dC d JE Q1 (own (val (zE f)) v) (own Jg ()) Γ p Cont:=Qo (λg=>by
 cases v with
 |none=>rfl
 |some v=>
  have:=N.nn v;unfold Q1 zE;dsimp only
  split
  ·rename_i h;exact br h this.2
  ·rename_i h;exact br h this.1
  ·rfl) c
theorem ziV{f:α->W}{xs:List α}{i:Int}{g:G}:Qg (xs.map f) (.int i) g=match atI xs i with
 |some x=>.ok (f x) g
 |none=>.bad:=by
 unfold Qg atI;dsimp only;rw[cf]
 cases ixN xs.length i with
 |none=>rfl
 |some j=>
  dsimp only[EJ];rw[cC]
  cases xs[j]? <;> rfl
theorem IG{dd:qf}{x:SA}{f:α->W}{xs:List α}{i:Int}{k:α->Res δ κ}(h:gA d Γ x (zd (val f)) xs) (c:∀v,atI xs i=ah v->Cont (own (val f) v) Γ (k v)):dC d JE (zS dd) x (own zg i) Γ ((zY xs i).bind k) Cont:=
 λσ g Fs R wx wy Fx Fy S hx hy Bx By _=>by
  obtain⟨F1,q1⟩:=h.to S hx.2;obtain⟨l,rfl,h2,h3,h4⟩:=jh.mp q1;obtain⟨_,w2,e2,q2⟩:=hy;cases e2;have q2:wy = .int i:=q2;subst q2;have e:zS dd (.ref l) (.int i) g=Qg (xs.map f) (.int i) g:=by simp only[zS,Q0,ql,h2]
  rw[e,ziV];unfold zY
  cases hx:atI xs i with
  |none=>exact .inl rfl
  |some v=>exact QL S (c v hx) λl hl=>.inr (.inr hl)
end
section
variable{δ κ A A' τ τ':Type}{V:VC A τ}{V':VC A' τ'}{d:Nat}{JE:δ->Ctx}{Γ:Ctx}{p:Res δ κ}{Cont:SA->Ctx->Res δ κ->Prop}{α β γ ν ν' ρ:Type}{r:RP α}{J:jc δ ν β ρ}{q:RF δ ν β ρ}
theorem op_mod{i j:Int}(h:0<j) (c:Cont (own zg (i % j)) Γ p):dC d JE il (own zg i) (own zg j) Γ p Cont:=Qo (λg=>by simp only[il,zm];rw[aG h]) c
theorem op_mul{i j:Int}(h:(-(2 ^ 64)<i/\i<2 ^ 64)\/(-(2 ^ 64)<j/\j<2 ^ 64)) (c:Cont (own zg (i * j)) Γ p):dC d JE gq (own zg i) (own zg j) Γ p Cont:=Qo (λg=>by simp only[gq,zm];rw[aG h]) c
def sO{δ:Type}(i j:Int):Res δ Int:=aL (decide (0<j/\j<2 ^ 100)) (.ok (i / j)) .bad
def pG{δ:Type}(i j:Int):Res δ Int:=aL (decide (0<j)) (.ok (i % j)) .bad
def nG{δ:Type}(i j:Int):Res δ Int:=aL (decide ((-(2 ^ 64)<i/\i<2 ^ 64)\/(-(2 ^ 64)<j/\j<2 ^ 64))) (.ok (i * j)) .bad
theorem zmQ{f:F2}{x y:SA}{b:aw}{v:α}{k:α->Res δ κ}(h:b=aj->dC d JE f x y Γ (k v) Cont):dC d JE f x y Γ (Res.bind (aL b (.ok v) .bad) k) Cont:=by
 cases b with
 |true=>exact h rfl
 |false=>exact λσ g Fs R wx wy Fx Fy S hx hy Bx By _=>.inl rfl
theorem zmR{i j:Int}{k:Int->Res δ κ}(c:∀v,Cont (own zg v) Γ (k v)):dC d JE gq (own zg i) (own zg j) Γ ((nG i j).bind k) Cont:=zmQ λh=>op_mul (dF h) (c _)
theorem op_pow{i j z:Int}(h:(0<=j/\j<=1000/\i.natAbs<2 ^ 64)/\i ^ j.toNat=z) (c:Cont (own zg z) Γ p):dC d JE nq (own zg i) (own zg j) Γ p Cont:=Qo (λg=>by simp only[nq,zm];rw[aG h.1,h.2]) c
theorem zmS{f:FN}{fa:α->W}{fc:γ->W}{v:α}{z:γ}(hf:∀g,f [fa v] g = .ok (fc z) g) (c:Cont (own (val fc) z) Γ p):FG d JE f [own (val fa) v] Γ p Cont:=λσ g Fs R ws F S ⟨Fa,⟨h1,h2,h3⟩,h4⟩ B=>by
 obtain⟨w,hw,_,w',e,q⟩:=h2 0 _ rfl;cases e
 have:ws=[fa v]:=by
  cases ws with
  |nil=>cases hw
  |cons a ws=>
   simp at hw;subst hw;have:ws=[]:=oz (by simpa using h1);rw[this,show a=fa v from q]
 subst this;rw[hf];exact QL S c λl hl=>.inr hl
def yE(i:Int):Int:=if i<0 then -i else i
theorem zoK{i:Int}(c:Cont (own zg i) Γ p):FG d JE mn [own zg i] Γ p Cont:=zmS (λ_=>rfl) c
theorem yF{a:SA}{ws:List W}{g F R}(h:vA.rel d [a] ws g F R):∃w,ws=[w]/\vW.rel d a w g F R:=by
 obtain⟨Fa,⟨h1,h2,h3⟩,h4⟩:=h;obtain⟨w,hw,hl,q⟩:=h2 0 _ rfl
 cases ws with
 |nil=>cases hw
 |cons x ws=>
  simp at hw;subst hw;have:ws=[]:=oz (by simpa using h1);exact⟨x,by rw[this],hl,a.wk q (h4 0)⟩
def one(l:Nat):Ft:=λk=>k=l
theorem vb{Fs:Rg}{g:G}{R σ}(S:Sat d Γ σ g Fs R) (o:GO):Sat d Γ σ (g++[o]) Fs R:=S.kX (F:=aJ) (Fo:=aJ) .no ⟨by simp,λl hl _=>by rw[cK hl],λl h=>.inl h⟩
theorem Qj{Fs:Rg}{g:G}{R σ o}(S:Sat d Γ σ g Fs R):zG d (one g.length) Fs (g++[o]) R:=⟨λl h=>by have h:l=g.length:=h;subst h;simp,λl h j hj hr=>by have h:l=g.length:=h;have:=S.cB j l hj hr;omega,λl h i hi=>by have h:l=g.length:=h;have:=S.low i l hi;omega⟩
theorem AE.of{A:Ctx}{ws:List W}{g Fa R}(h:O7 d A ws g Fa R):AE A ws g Fa R:=⟨h.1,λi a e=>by
 obtain⟨w,hw,_,q⟩:=h.2.1 i a e;exact⟨w,hw,q⟩,h.2.2⟩
theorem zmT{A:Ctx}{xs:List α}{ws:List W}{σ:Sg}{g:G}{Fs R}{F F0:Ft}(S:Sat d Γ σ g Fs R) (hA:A=xs.map (own r)) (rA:vA.rel d A ws g F R) (B:zG d F Fs g R) (hl:r.lv<=d) (hf:fits xs.length=aj) (c:Cont (own (zd r) xs) Γ p) (h0:∀l,jM F Fs l->F0 l):qB vW d JE (.ok (.ref g.length) (g++[.lst ws])) σ g F0 R p Cont:=by
 subst hA;obtain⟨Fa,hA,h4⟩:=rA;have S2:=vb S (.lst ws);have nb:=Qj (o:=.lst ws) S;have B2:zG d F Fs (g++[.lst ws]) R:=⟨λl hl=>by have:=B.low l hl;simp;omega,B.apart,B.own⟩
 refine .inr (.inr ⟨_,Γ,_,_,λl=>F l\/one g.length l,Fs,c,rfl,⟨hl,_,rfl,g.length,ws,Fa,rfl,by simp,.inr rfl,hf,(AE.of hA).loc (n:=r.lv) (λa ha=>by
  obtain⟨x,_,rfl⟩:=eR.mp ha;exact bC _) (λi k hk=>by rw[cK (B.low k (h4 i k hk))]) λk l hk hr=>⟨hr,by rw[cK (S.cB k l (by omega) hr)]⟩,λi k hk=>⟨.inl (h4 i k hk),λz=>by have:=B.low k (h4 i k hk);omega⟩⟩,B2.both nb,S2,⟨by simp,λl hl _=>by rw[cK hl],λl hl=>?_⟩⟩)
 rcases hl with(hl|hl)|hl
 ·exact .inl (h0 l (.inl hl))
 ·have hl:l=g.length:=hl;exact .inr (by omega)
 ·exact .inl (h0 l (.inr hl))
inductive nH (r:RP α):Ctx->List α->Prop where
 |nil:nH r [] []
 |cons {a:SA}{v:α}{A:Ctx}{xs:List α}(h:a.le (own r v)) (t:nH r A xs):nH r (a :: A) (v :: xs)
theorem nH.len{A:Ctx}{xs:List α}(h:nH r A xs):A.length=xs.length:=by
 induction h with
 |nil=>rfl
 |cons _ _ ih=>simp[ih]
theorem nH.rel{A:Ctx}{xs:List α}{ws:List W}{g F R}(h:nH r A xs) (rA:vA.rel d A ws g F R) (hl:A ≠ []->True):vA.rel d (xs.map (own r)) ws g F R:=by
 obtain⟨Fa,⟨h1,h2,h3⟩,h4⟩:=rA
 have key:∀{A:Ctx}{xs:List α},nH r A xs->∀(i:Nat) (b:SA),(xs.map (own r))[i]? = ah b->∃a,A[i]? = ah a/\a.le b:=by
  intro A xs h
  induction h with
  |nil=>intro i b e;simp at e
  |cons hv t ih=>
   intro i b e
   cases i with
   |zero=>simp at e;subst e;exact⟨_,rfl,hv⟩
   |succ i=>simpa using ih i b (by simpa using e)
 refine⟨Fa,⟨by rw[h1,h.len,cf],λi b e=>?_,h3⟩,h4⟩;obtain⟨a,ea,le⟩:=key h i b e;obtain⟨w,hw,hv,q⟩:=h2 i a ea;exact⟨w,hw,b_ le.lv hv,le.to q⟩
theorem jR{as:AD}(h:AX d JE Γ as p λA Γ' q=>∃(xs:List α) (r:RP α),nH r A xs/\fits xs.length=aj/\cy r.lv d=aj/\Cont (own (zd r) xs) Γ' q):EX d JE Γ (jA as) p Cont:=λσ g Fs R S=>
 qB.bind (h σ g Fs R S) λA Γ1 ws g1 F1 aP ⟨xs,r,ha,hf,hl,c⟩ rA B1 S1 cG=>by
  have Pc:=ha.rel rA λ_=>True.intro
  have hlen:ws.length=xs.length:=by
   obtain⟨Fa,⟨h1,_⟩,_⟩:=Pc;rw[h1,cf]
  rw[hlen,aG hf];exact zmT S1 rfl Pc B1 (gJ hl) hf c λl h=>h
inductive J4:Ctx->List W->Prop where
 |nil:J4 [] []
 |cons {τ1:Type}{f:τ1->W}{v:τ1}{a:SA}{A:Ctx}{ws:List W}(h:a.le (own (val f) v)) (t:J4 A ws):J4 (a :: A) (f v :: ws)
theorem J4.one{τ1:Type}{f:τ1->W}{v:τ1}{A:Ctx}{ws:List W}(t:J4 A ws):J4 (own (val f) v :: A) (f v :: ws):=.cons SA.r t
theorem J4.eq{A:Ctx}{us ws:List W}{g F R}(h:J4 A us) (rA:vA.rel d A ws g F R):ws=us:=by
 obtain⟨Fa,⟨h1,h2,_⟩,_⟩:=rA
 have key:∀{A:Ctx}{us:List W},J4 A us->∀(ws:List W) (Fa:Rg),ws.length=A.length->(∀(i:Nat) (a:SA),A[i]? = ah a->∃w,ws[i]? = ah w/\a.lv<=d/\a.s (ah w) g (Fa i) R)->ws=us:=by
  intro A us h
  induction h with
  |nil=>intro ws Fa h1 _;exact oz (by simpa using h1)
  |cons hv t ih=>
   intro ws Fa h1 h2
   cases ws with
   |nil=>simp at h1
   |cons w ws=>
    obtain⟨w',e,_,q⟩:=h2 0 _ rfl;simp at e;subst e;obtain⟨_,e,q⟩:=hv.to q;cases e;rw[show w=_ from q,ih ws (λi=>Fa (i+1)) (by simpa using h1) λi a hi=>by simpa using h2 (i+1) a (by simpa using hi)]
 exact key h ws Fa h1 h2
theorem Pd{as:AD}(h:AX d JE Γ as p λA Γ' q=>∃(f:α->W) (v:α) (ws:List W),J4 A ws/\f v = .tup ws/\fits ws.length=aj/\Cont (own (val f) v) Γ' q):EX d JE Γ (Jz as) p Cont:=λσ g Fs R S=>
 qB.bind (h σ g Fs R S) λA Γ1 ws g1 F1 aP ⟨f,v,us,ha,hf,hl,c⟩ rA B1 S1 cG=>by
  have:=ha.eq rA;subst this;rw[aG hl,<- hf];exact QL S1 c λl h=>.inr h
def MG(d:Nat) (JE:δ->Ctx) (f:FM) (x:SA) (A:Ctx) (Γ:Ctx) (p:Res δ κ) (Cont:SA->Ctx->Res δ κ->Prop):Prop:=
 ∀σ g Fs R wx ws Fx F,Sat d Γ σ g Fs R->vW.rel d x wx g Fx R->vA.rel d A ws g F R->zG d Fx Fs g R->zG d F Fs g R->(∀l,Fx l -> ¬ F l)->qB vW d JE (f wx ws g) σ g (λl=>Fx l\/jM F Fs l) R p Cont
structure Pe(x:SA) (ty:dG):Prop where
 to:∀{w g F R},x.s (ah w) g F R->lj ty g w=aj
theorem JQ{x:SA}{r:RP α}{xs:List α}(h:Rd x (zd r) xs):Pe x "list":=⟨λ{w g F R} q=>by
 obtain⟨F',l,us,Fa,rfl,h2,_⟩:=h.to q;simp only[lj,h2,beq_self_eq_true]⟩
theorem nJ{ty:dG}{f:FM}{o:ED}{as:AD}(h:EX d JE Γ o p λx Γ' q=>Pe x ty/\AX d JE Γ' as q λA Γ'' q'=>MG d JE f x A Γ'' q' Cont):EX d JE Γ (gR ty f o as) p Cont:=λσ g Fs R S=>by
 refine qB.bind (h σ g Fs R S) λx Γa wx g1 F1 aP ⟨ht,c⟩ rx B1 S1 cG=>?_;rw[ht.to rx.2,aG rfl];refine qB.wV (X:=F1) B1.low (c σ g1 aP R S1) λA Γb ws g2 F2 aV c2 ry B2 S2 cO=>?_;have rL:aZ (Own aP) g1 (Own aV) g2:=cO.sub λl hl=>.inr hl;exact c2 σ g2 aV R wx ws F1 F2 S2 (vW.over rx (B1.same cO) λj l hj hl=>S1.rD cO j l hj hl) ry (B1.over rL) B2 λl h1 h2=>(cO.new l (.inl h2)).elim (λ⟨j,hj⟩=>B1.own l h1 j hj) λz=>br (B1.low l h1) (by omega)
def push{δ α:Type}(xs:List α) (v:α):Res δ (List α):=aL (fits (xs.length+1)) (.ok (xs++[v])) .bad
theorem yG{m n:Nat}(h:fits n=aj) (hm:m<=n):fits m=aj:=bJ (b_ hm (dF h))
theorem Pf{xs:List α}{v:α}{ws:List W}{w:W}{g:G}{Fa:Rg}{F R}(h:AE (xs.map (own r)) ws g Fa R) (hv:r.r v w g F R) (hF:∀i l,Fa i l -> ¬ F l):AE ((xs++[v]).map (own r)) (ws++[w]) g (qX (λi l=>i<xs.length/\Fa i l) xs.length F) R:=by
 have hl:ws.length=xs.length:=by rw[h.1,cf]
 refine⟨by simp[hl],λi a e=>?_,λi j l hi hj=>?_⟩
 ·by_cases hi:i<xs.length
  ·rw[cC,cK hi,<- cC]at e
   obtain⟨u,hu,q⟩:=h.2.1 i a e;refine⟨u,by rw[cK (by omega)];exact hu,?_⟩;rw[zt (by omega)];exact a.wk q λl hl=>⟨hi,hl⟩
  ·rw[cC,pY (by omega)]at e
   have:i - xs.length=0:=by
    cases hh:i - xs.length with
    |zero=>rfl
    |succ n=>rw[hh]at e;simp at e
   rw[this]at e;simp at e;subst e;refine⟨w,by rw[pY (by omega),hl,this];rfl,w,rfl,?_⟩;rw[show i=xs.length by omega,zr];exact hv
 ·by_cases h1:i=xs.length
  ·by_cases h2:j=xs.length
   ·rw[h1,h2]
   ·subst h1;rw[zr]at hi;rw[zt h2]at hj;exact(hF j l hj.2 hi).elim
  ·by_cases h2:j=xs.length
   ·subst h2;rw[zr]at hj;rw[zt h1]at hi;exact(hF i l hi.2 hj).elim
   ·rw[zt h1]at hi;rw[zt h2]at hj;exact h.2.2 i j l hi.2 hj.2
theorem Sat.wrote{σ:Sg}{g:G}{Fs R}{F F':Ft}{i L l:Nat}{v':α}{w:W}{f:α->SA}{o:GO}(S:Sat d Γ σ g Fs R) (hi:bW Γ i=ah (gy L r w f)) (hl:(f v').lv<=d) (B:zG d F Fs g R) (hF:F l) (B':zG d F' Fs g R) (h:r.r v' w (g.set l o) (λk=>F k\/F' k) R) :
  ∃aV,Sat d (put Γ i (f v')) σ (g.set l o) aV R/\(∀k,Own aV k->F k\/F' k\/Own Fs k)/\aZ (λk=>F k\/jM F' Fs k) g (Own aV) (g.set l o):=by
 have st:aZ F g aJ (g.set l o):=⟨by simp,λk hk hn=>by
  rw[c5];intro z;subst z;exact hn hF,λk h=>h.elim⟩
 have S2:Sat d Γ σ (g.set l o) Fs R:=S.kX B st;have B2:zG d (λk=>F k\/F' k) Fs (g.set l o) R:=⟨λk hk=>by simp;exact hk.elim (B.low k) (B'.low k),λk hk=>hk.elim (B.apart k) (B'.apart k),λk hk=>hk.elim (B.own k) (B'.own k)⟩
 have S3:=S2.refill (v:=v') hi hl B2 h;refine⟨_,S3,λk ⟨j,hj⟩=>?_,⟨by simp,λk hk hn=>?_,λk ⟨j,hj⟩=>.inl ?_⟩⟩
 ·by_cases e:j=i
  ·subst e;rw[zr]at hj;exact hj.elim (λz=>.inr (.inr ⟨j,z⟩)) λz=>z.elim .inl λy=>.inr (.inl y)
  ·rw[zt e]at hj;exact .inr (.inr ⟨j,hj⟩)
 ·rw[c5]
  intro z;subst z;exact hn (.inl hF)
 ·by_cases e:j=i
  ·subst e;rw[zr]at hj;exact hj.elim (λz=>.inr (.inr ⟨j,z⟩)) λz=>z.elim .inl λy=>.inr (.inl y)
  ·rw[zt e]at hj;exact .inr (.inr ⟨j,hj⟩)
theorem Zz{xs:List α}{v:α}{w0:W}{f:List α->SA}{L:Nat}{a:SA}{k:List α->Res δ κ}(i:Nat) (hi:bW Γ i=ah (gy L (zd r) w0 f)) (ha:a.le (own r v)) (hl:∀v,(f v).lv<=d) (c:∀pH,Cont (own Jg ()) (put Γ i (f pH)) (k pH)):MG d JE jd (pin (zd r) xs w0) [a] Γ ((push xs v).bind k) Cont:=
 λσ g Fs R wx ws Fx F S hx hA Bx B apart=>by
  unfold push
  cases hf:fits (xs.length+1) with
  |false=>exact .inl rfl
  |true=>
   obtain⟨w,rfl,hw⟩:=yF hA;obtain⟨_,ew,hw⟩:=ha.to hw.2;cases ew;obtain⟨de,e0,l,us,Fa,rfl,h2,h3,h4,h5,h6⟩:=hx;cases e0;have hlen:us.length=xs.length:=by rw[h5.1,cf]
   have e:jd (.ref l) [w] g = .ok .non (g.set l (.lst (us++[w]))):=by
    unfold jd;dsimp only;rw[h2];dsimp only;rw[aG (by rw[hlen];exact h4)]
   rw[e];have h_:∀k,k ≠ l->(g.set l (.lst (us++[w])))[k]? = g[k]?:=λk hk=>c5 (Ne.symm hk);have yH : ¬ F l:=apart l h3;have mH:∀j k,j<d->R j k->k ≠ l:=λj k hj hr z=>by subst z;exact Bx.apart k h3 j hj hr
   have new:(zd r).r (xs++[v]) (.ref l) (g.set l (.lst (us++[w]))) (λk=>Fx k\/F k) R:=by
    refine⟨l,us++[w],_,rfl,dU (bP.mp h2).1,.inl h3,by rw[dw];exact hf,
     Pf (F:=F) (h5.loc (n:=r.lv) (λa ha=>by
      obtain⟨x,_,rfl⟩:=eR.mp ha;exact bC _) (λi k hk=>h_ k (h6 i k hk).2) λj k hj hr=>⟨hr,h_ k (mH j k (cu hj de) hr)⟩) (r.loc hw (λk hk=>h_ k λz=>yH (z ▸ hk)) λj k hj hr=>⟨hr,h_ k (mH j k (cu hj de) hr)⟩) λi k hk=>apart k (h6 i k hk).1,λi k hk=>?_⟩
    by_cases z:i=xs.length
    ·subst z;rw[zr]at hk;exact⟨.inr hk,λy=>yH (y ▸ hk)⟩
    ·rw[zt z]at hk;exact⟨.inl (h6 i k hk.2).1,(h6 i k hk.2).2⟩
   obtain⟨aV,S2,h7,st⟩:=S.wrote (v':=xs++[v]) hi (hl _) Bx h3 B new;exact .inr (.inr ⟨_,_,.non,_,aJ,aV,c _,rfl,⟨aF _,_,rfl,rfl⟩,.no,S2,st.sub λk hk=>hk.elim (λz=>z.elim) id⟩)
end
section
variable{δ κ A A' τ τ':Type}{V:VC A τ}{V':VC A' τ'}{d:Nat}{JE:δ->Ctx}{Γ:Ctx}{p:Res δ κ}{Cont:SA->Ctx->Res δ κ->Prop}{eE:aw->Ctx->Res δ κ->Prop}{α β γ ν ν' ρ:Type}{r:RP α}{J:jc δ ν β ρ}{q:RF δ ν β ρ}
def av{δ α:Type}(d:Nat) (Γ:Ctx) (m:ED) (r:RP α) (res:Res δ α):Prop:=
 ∀σ g Fs R,Sat d Γ σ g Fs R->res = .bad\/∃v w F,res = .ok v/\m σ g = .ok w g/\r.r v w g F R
def bx{δ:Type}(d:Nat) (Γ:Ctx) (m:TD) (res:Res δ aw):Prop:=
 ∀σ g Fs R,Sat d Γ σ g Fs R->res = .bad\/∃v,res = .ok v/\m σ g = .ok v g
theorem av.eq{m:ED}{res ie:Res δ α}(h:av d Γ m r res) (e:res=ie):av d Γ m r ie:=e ▸ h
theorem bx.eq{m:TD}{res ie:Res δ aw}(h:bx d Γ m res) (e:res=ie):bx d Γ m ie:=e ▸ h
theorem q8{m:ED}{f:α->W}{res:Res δ α}{k:α->Res δ κ}(h:av d Γ m (val f) res) (c:∀v,Cont (own (val f) v) Γ (k v)):EX d JE Γ m (res.bind k) Cont:=λσ g Fs R S=>by
 rcases h σ g Fs R S with rfl|⟨v,w,F,rfl,e,q⟩
 ·exact .inl rfl
 ·rw[e]
  have q:w=f v:=q;subst q;exact QL S (c v) λl h=>h
theorem zo{m:ED}{f:α->W}{v:α}(h:av (δ:=δ) d Γ m (val f) (.ok v)) (c:Cont (own (val f) v) Γ p):EX d JE Γ m p Cont:=λσ g Fs R S=>by
 rcases h σ g Fs R S with e|⟨v,w,F,e0,e,q⟩
 ·cases e
 ·cases e0
  rw[e];have q:w=f _:=q;subst q;exact QL S c λl h=>h
theorem nK{m:TD}{res:Res δ aw}{k:aw->Res δ κ}(h:bx d Γ m res) (c:∀b,eE b Γ (k b)):TX d JE Γ m (res.bind k) eE:=λσ g Fs R S=>by
 rcases h σ g Fs R S with rfl|⟨v,rfl,e⟩
 ·exact .inl rfl
 ·rw[e]
  exact .ret (F:=aJ) S (c v) rfl .no λl hl=>hl.elim (λz=>z.elim) id
theorem jN{m:TD}{b:aw}(h:bx (δ:=δ) d Γ m (.ok b)) (c:eE b Γ p):TX d JE Γ m p eE:=λσ g Fs R S=>by
 rcases h σ g Fs R S with e|⟨v,e0,e⟩
 ·cases e
 ·cases e0
  rw[e];exact .ret (F:=aJ) S c rfl .no λl hl=>hl.elim (λz=>z.elim) id
theorem zoL{m:TD}{res:Res δ aw}(h:bx d Γ m res):TX d JE Γ m res (u5 Γ):=λσ g Fs R S=>by
 rcases h σ g Fs R S with rfl|⟨v,rfl,e⟩
 ·exact .inl rfl
 ·rw[e]
  exact .ret (F:=aJ) S ⟨rfl,rfl⟩ rfl .no λl hl=>hl.elim (λz=>z.elim) id
theorem zoM{m:ED}{f:α->W}{res:Res δ α}(h:av d Γ m (val f) res):EX d JE Γ m res (nE (val f) Γ):=λσ g Fs R S=>by
 rcases h σ g Fs R S with rfl|⟨v,w,F,rfl,e,q⟩
 ·exact .inl rfl
 ·rw[e]
  have q:w=f v:=q;subst q;exact QL S ⟨v,rfl,SA.r,rfl⟩ λl h=>h
theorem Pg{i:Nat}{a0:SA}{v:α}(hi:bW Γ i=ah a0) (fz:Iv a0 r v):av (δ:=δ) d Γ (zf i) r (.ok v):=λσ g Fs R S=>by
 rw[jQ]at hi;obtain⟨o,ho,h⟩:=S.get hi;obtain⟨w,rfl,q,_⟩:=fz.out h;exact .inr ⟨v,w,_,rfl,by unfold zf;rw[ho],q⟩
theorem zh{i:Nat}{v:α}(hi:bW Γ i=ah (own r v)):av (δ:=δ) d Γ (zf i) r (.ok v):=Pg hi zmO
theorem zZ{i:Nat}{v:α}{w:W}(hi:bW Γ i=ah (pin r v w)):av (δ:=δ) d Γ (zf i) r (.ok v):=Pg hi zmP
theorem z7{k:Nat}{m:ED}{res:Res δ α}(h:av d Γ m (Sh k r) res):av d Γ m r res:=λσ g Fs R S=>by
 rcases h σ g Fs R S with e|⟨v,w,F,e0,e,F',_,q⟩
 ·exact .inl e
 ·exact .inr ⟨v,w,F',e0,e,q⟩
theorem Dd{f:α->W}{v:α}:av (δ:=δ) d Γ (eC (f v)) (val f) (.ok v):=λσ g Fs R S=>.inr ⟨v,_,aJ,rfl,rfl,rfl⟩
theorem zF{n:Int}:av (δ:=δ) d Γ (eC (.int n)) zg (.ok n):=Dd (f:=zm)
theorem vd{n:aw}:av (δ:=δ) d Γ (eC (.bl n)) z8 (.ok n):=Dd (f:=C7)
theorem JR:av (δ:=δ) d Γ (eC .non) Jg (.ok ()):=Dd (f:=λ_:ax=>W.non) (v:=())
theorem jX{s:Str}(h:PyData.strOk s=aj):av (δ:=δ) d Γ (eC (.str s)) zp (.ok ⟨s,h⟩):=Dd (f:=zC) (v:=⟨s,h⟩)
theorem Ph{f:α->W}{m:ED}{res:Res δ α}(h:av d Γ m (val f) res):av d Γ m (val (zE f)) (res.bind λv=>.ok (ah v)):=λσ g Fs R S=>by
 rcases h σ g Fs R S with rfl|⟨v,w,F,rfl,e,q⟩
 ·exact .inl rfl
 ·exact .inr ⟨ah v,w,F,rfl,e,q⟩
theorem Pj{f:α->W}:av (δ:=δ) d Γ (eC .non) (val (zE f)) (.ok ai):=λσ g Fs R S=>.inr ⟨ai,_,aJ,rfl,rfl,rfl⟩
theorem ZF{f:α->W}{m:ED}{res:Res δ (au α)}(h:av d Γ m (val (zE f)) res):av d Γ m (val f) (res.bind ck):=λσ g Fs R S=>by
 rcases h σ g Fs R S with rfl|⟨v,w,F,rfl,e,q⟩
 ·exact .inl rfl
 ·cases v with
  |none=>exact .inl rfl
  |some v=>exact .inr ⟨v,w,F,rfl,e,q⟩
structure OpR{δ:Type}(f:F2) (r1:RP α) (r2:RP β) (r3:RP γ) (h:α->β->Res δ γ):Prop where
 to:∀{v u w1 w2 g F1 F2 R},r1.r v w1 g F1 R->r2.r u w2 g F2 R->h v u = .bad\/∃z w F,h v u = .ok z/\f w1 w2 g = .ok w g/\r3.r z w g F R
theorem zy{f:F2}{a b:ED}{r1:RP α}{r2:RP β}{r3:RP γ}{h:α->β->Res δ γ}{pa:Res δ α}{pb:Res δ β}(o:OpR f r1 r2 r3 h) (ha:av d Γ a r1 pa) (hb:av d Γ b r2 pb):av d Γ (zw f a b) r3 (pa.bind λx=>pb.bind λy=>h x y):=λσ g Fs R S=>by
 rcases ha σ g Fs R S with rfl|⟨v,w1,F1,rfl,e1,q1⟩
 ·exact .inl rfl
 ·rcases hb σ g Fs R S with rfl|⟨u,w2,F2,rfl,e2,q2⟩
  ·exact .inl rfl
  ·rcases o.to q1 q2 with e|⟨z,w,F,e,e3,q3⟩
   ·exact .inl e
   ·exact .inr ⟨z,w,F,e,by unfold zw;rw[e1];dsimp only[Out.bind];rw[e2];exact e3,q3⟩
theorem Jm{f:F2}{fa:α->W}{fb:β->W}{fc:γ->W}{h:α->β->γ}(hf:∀v u g,f (fa v) (fb u) g = .ok (fc (h v u)) g):OpR (δ:=δ) f (val fa) (val fb) (val fc) (λv u=>.ok (h v u)):=⟨λ{v u w1 w2 g F1 F2 R} e1 e2=>.inr ⟨_,_,aJ,rfl,by
 have e1:w1=fa v:=e1;have e2:w2=fb u:=e2;rw[e1,e2,hf],rfl⟩⟩
theorem JS:OpR (δ:=δ) ZD zg zg zg (λi j=>.ok (i+j)):=Jm λ_ _ _=>rfl
theorem sP:OpR (δ:=δ) nj zg zg z8 (λi j=>.ok (decide (i<j))):=Jm λ_ _ _=>rfl
theorem pI:OpR (δ:=δ) md zg zg z8 (λi j=>.ok (decide (i<=j))):=Jm λ_ _ _=>rfl
theorem De:OpR (δ:=δ) rY zg zg z8 (λi j=>.ok (decide (j<i))):=Jm λ_ _ _=>rfl
theorem yI:OpR (δ:=δ) o3 zg zg z8 (λi j=>.ok (decide (j<=i))):=Jm λ_ _ _=>rfl
theorem Pk:OpR (δ:=δ) lg zg zg zg sO:=⟨λ{i j w1 w2 g F1 F2 R} e1 e2=>by
 have e1:w1 = .int i:=e1;have e2:w2 = .int j:=e2;subst e1 e2;unfold sO lg
 by_cases h:0<j/\j<2 ^ 100
 ·exact .inr ⟨_,_,aJ,by rw[bJ h];rfl,by dsimp only;rw[aG h],rfl⟩
 ·exact .inl (by rw[fP h];rfl)⟩
theorem Pl:OpR (δ:=δ) il zg zg zg pG:=⟨λ{i j w1 w2 g F1 F2 R} e1 e2=>by
 have e1:w1 = .int i:=e1;have e2:w2 = .int j:=e2;subst e1 e2;unfold pG il
 by_cases h:0<j
 ·exact .inr ⟨_,_,aJ,by rw[bJ h];rfl,by dsimp only;rw[aG h],rfl⟩
 ·exact .inl (by rw[fP h];rfl)⟩
theorem zoN:OpR (δ:=δ) gq zg zg zg nG:=⟨λ{i j w1 w2 g F1 F2 R} e1 e2=>by
 have e1:w1 = .int i:=e1;have e2:w2 = .int j:=e2;subst e1 e2;unfold nG gq
 by_cases h:(-(2 ^ 64)<i/\i<2 ^ 64)\/(-(2 ^ 64)<j/\j<2 ^ 64)
 ·exact .inr ⟨_,_,aJ,by rw[bJ h];rfl,by dsimp only;rw[aG h],rfl⟩
 ·exact .inl (by rw[fP h];rfl)⟩
theorem Pm{r1 r2:RP α}{n1 m1 n2 m2:Nat} [DecidableEq α] [D:gz r1 n1 m1] [D2:gz r2 n2 m2] (hd:D2.to=D.to) (hm:(cy m1 4 && cy m2 4 && cy n1 64 && cy n2 64)=aj):OpR (δ:=δ) fC r1 r2 z8 (λv u=>.ok (decide (v=u))):=⟨λ{v u w1 w2 g F1 F2 R} q1 q2=>.inr ⟨_,.bl (decide (v=u)),aJ,rfl,by
  simp only[dV,Bt]at hm;unfold fC toD;rw[D.at_ q1 4 hm.1.1.1,D2.at_ q2 4 hm.1.1.2];dsimp only;have s1:SeqAt.shaped (D.to v)=aj:=by unfold SeqAt.shaped;rw[D.lay];exact bJ (b_ (D.dep v) hm.1.2)
  have s2:SeqAt.shaped (D2.to u)=aj:=by unfold SeqAt.shaped;rw[D2.lay];exact bJ (b_ (D2.dep u) hm.2)
  rw[s1,s2]
  have:PyData.eqv (D.to v) (D2.to u)=decide (v=u):=by
   rw[hd]
   by_cases z:v=u
   ·rw[bJ z];exact(D.inj v u).mpr z
   ·rw[fP z,Bu];exact λk=>z ((D.inj v u).mp k)
  rw[this];rfl,rfl⟩⟩
theorem Df{r1 r2:RP α}{n1 m1 n2 m2:Nat} [DecidableEq α] [D:gz r1 n1 m1] [D2:gz r2 n2 m2] (hd:D2.to=D.to) (hm:(cy m1 4 && cy m2 4 && cy n1 64 && cy n2 64)=aj):OpR (δ:=δ) gQ r1 r2 z8 (λv u=>.ok (!decide (v=u))):=⟨λ{v u w1 w2 g F1 F2 R} q1 q2=>.inr ⟨_,.bl (!decide (v=u)),aJ,rfl,by
  simp only[dV,Bt]at hm;unfold gQ toD;rw[D.at_ q1 4 hm.1.1.1,D2.at_ q2 4 hm.1.1.2];dsimp only;have s1:SeqAt.shaped (D.to v)=aj:=by unfold SeqAt.shaped;rw[D.lay];exact bJ (b_ (D.dep v) hm.1.2)
  have s2:SeqAt.shaped (D2.to u)=aj:=by unfold SeqAt.shaped;rw[D2.lay];exact bJ (b_ (D2.dep u) hm.2)
  rw[s1,s2]
  have:PyData.eqv (D.to v) (D2.to u)=decide (v=u):=by
   rw[hd]
   by_cases z:v=u
   ·rw[bJ z];exact(D.inj v u).mpr z
   ·rw[fP z,Bu];exact λk=>z ((D.inj v u).mp k)
  rw[this];rfl,rfl⟩⟩
theorem IH{f:α->W} [N:NN f]:OpR (δ:=δ) Q1 (val (zE f)) Jg z8 (λv _=>.ok v.isNone):=Jm λv u g=>by
 cases v with
 |none=>rfl
 |some v=>
  have:=N.nn v;unfold Q1 zE;dsimp only
  split
  ·rename_i h;exact br h this.2
  ·rename_i h;exact br h this.1
  ·rfl
theorem yJ{f:α->W} [N:NN f]:OpR (δ:=δ) mf (val (zE f)) Jg z8 (λv _=>.ok v.isSome):=Jm λv u g=>by
 have e:Q1 (zE f v) .non g = .ok (.bl v.isNone) g:=by
  cases v with
  |none=>rfl
  |some v=>
   have:=N.nn v;unfold Q1 zE;dsimp only
   split
   ·rename_i h;exact br h this.2
   ·rename_i h;exact br h this.1
   ·rfl
 unfold mf;rw[e]
 cases v <;> rfl
theorem Pn{xs:List α}{ws:List β}(hl:ws.length=xs.length) {i:Int}{x:α}(h:atI xs i=ah x):∃j:Nat,xs[j]? = ah x/\atI ws i=ws[j]?:=by
 unfold atI at h ⊢;rw[hl]
 cases e:ixN xs.length i with
 |none=>rw[e]at h;cases h
 |some j=>rw[e]at h;exact⟨j,h,rfl⟩
theorem qU{dd:qf}{r:RP α}:OpR (δ:=δ) (zS dd) (zd r) zg r zY:=⟨λ{xs i w1 w2 g F1 F2 R} q1 e2=>by
 have e2:w2 = .int i:=e2;subst e2;obtain⟨l,ws,Fa,rfl,h2,h3,h4,h5,h6⟩:=q1;unfold zY
 cases hx:atI xs i with
 |none=>exact .inl rfl
 |some x=>
  have hl:ws.length=xs.length:=by rw[h5.1,cf]
  obtain⟨j,hj,hw⟩:=Pn hl hx;obtain⟨w,ew,w',e,q⟩:=h5.2.1 j (own r x) (by rw[cC,hj];rfl);cases e;refine .inr ⟨x,w,_,rfl,?_,q⟩;have:zS dd (.ref l) (.int i) g=Qg ws (.int i) g:=by simp only[zS,ql,h2]
  rw[this];unfold Qg;dsimp only;rw[hw,ew]⟩
theorem JC{dd:qf}{f:α->W}{g0:γ->W}{i:Int}{a:ED}{pa:Res δ α}{h:α->γ}(hf:∀v,∃ws w,f v = .tup ws/\atI ws i=ah w/\w=g0 (h v)) (ha:av d Γ a (val f) pa):av d Γ (zw (zS dd) a (eC (.int i))) (val g0) (pa.bind λv=>.ok (h v)):=λσ g Fs R S=>by
 rcases ha σ g Fs R S with rfl|⟨v,w1,F1,rfl,e1,q1⟩
 ·exact .inl rfl
 ·obtain⟨ws,w,e,ew,eh⟩:=hf v
  have q1:w1=f v:=q1;refine .inr ⟨h v,w,aJ,rfl,?_,eh⟩;unfold zw eC;rw[e1];dsimp only[Out.bind];rw[q1,e];show Qg ws (.int i) g=_;unfold Qg;dsimp only;rw[ew]
class lE (f:α->W):Prop where
 flat:∀v,nt (f v)=aj
 eq:∀a b,eqV (toV (f a)) (toV (f b))=aj↔a=b
instance:lE zm:=⟨λ_=>rfl,λa b=>by simp[toV,eqV]⟩
instance:lE C7:=⟨λ_=>rfl,λa b=>by simp[toV,eqV]⟩
instance:lE zC:=⟨λ_=>rfl,λa b=>by
 simp only[toV,eqV,zC];rw[Uq];exact⟨λh=>Subtype.ext h,λh=>by rw[h]⟩⟩
instance {f:α->W} [F:lE f] [N:NN f]:lE (zE f):=⟨λo=>by cases o with
 |none=>rfl
 |some v=>exact F.flat v,λa b=>by
 have key:∀v,eqV .non (toV (f v))=ak/\eqV (toV (f v)) .non=ak:=λv=>by
  have h1:=F.flat v;have h2:=(N.nn v).1
  cases e:f v with
  |non=>exact br e h2
  |bl b=>exact⟨rfl,rfl⟩
  |int b=>exact⟨rfl,rfl⟩
  |str b=>exact⟨rfl,rfl⟩
  |_=>rw[e]at h1;cases h1
 cases a with
 |none=>
  cases b with
  |none=>simp[zE,toV,eqV]
  |some b=>have:=(key b).1;show eqV .non (toV (f b))=aj↔_;rw[this];simp
 |some a=>
  cases b with
  |none=>have:=(key a).2;show eqV (toV (f a)) .non=aj↔_;rw[this];simp
  |some b=>show eqV (toV (f a)) (toV (f b))=aj↔_;rw[F.eq];simp⟩
theorem Po{f:α->W} [Fl:lE f] [DecidableEq α] {x:α}:∀xs:List α,r_ (f x) (xs.map f)=decide (x∈xs)
 |[]=>by simp[r_]
 |y :: xs=>by
  have ih:=Po (f:=f) (x:=x) xs;unfold r_ at ih ⊢;rw[c6,UY,ih]
  by_cases h:x=y
  ·subst h
   rw[(Fl.eq x x).mpr rfl];simp
  ·have:eqV (toV (f y)) (toV (f x))=ak:=by rw[Bu];exact λz=>h ((Fl.eq y x).mp z).symm
   rw[this];simp[h]
theorem ziW{f:α->W} [Fl:lE f] (xs:List α):(xs.map f).all nt=aj:=by
 rw[Ey];intro w hw;obtain⟨x,_,rfl⟩:=eR.mp hw;exact Fl.flat x
theorem zmV{dd:qf}{f:α->W} [Fl:lE f] [DecidableEq α] {x:α}{xs:List α}{l:Nat}{g:G}(h:g[l]? = ah (.lst (xs.map f))):nu dd (f x) (.ref l) g = .ok (.bl (decide (x∈xs))) g:=by
 unfold nu;dsimp only;simp only[Q0,ql,h,Fl.flat,ziW,Vh,lS,Po]
theorem zoO{dd:qf}{x y:W}{b:aw}{g:G}(h:nu dd x y g = .ok (.bl b) g):uN dd x y g = .ok (.bl b) g:=by
 unfold uN;rw[h];cases b <;> rfl
theorem Pp{dd:qf}{x y:W}{b:aw}{g:G}(h:nu dd x y g = .ok (.bl b) g):ZY dd x y g = .ok (.bl (!b)) g:=by
 unfold ZY;rw[h];cases b <;> rfl
theorem zkQ{dd:qf}{f:α->W} [Fl:lE f] [DecidableEq α]:OpR (δ:=δ) (ZY dd) (val f) (zd (val f)) z8 (λx xs=>.ok (!decide (x∈xs))):=⟨λ{x xs w1 w2 g F1 F2 R} e1 q2=>by
 have e1:w1=f x:=e1;subst e1;obtain⟨l,rfl,h2,_⟩:=jh.mp q2;exact .inr ⟨_,_,aJ,rfl,Pp (zmV h2),rfl⟩⟩
class yK (f:α->W):Prop where
 no:∀v,nt (f v)=ak
instance {f:α->W}{g:β->W}:yK (aB f g):=⟨λ_=>rfl⟩
instance {ε:Type}{f:α->W}{g:β->W}{h:ε->W}:yK (C9 f g h):=⟨λ_=>rfl⟩
instance {ε ζ:Type}{f:α->W}{g:β->W}{h:ε->W}{k:ζ->W}:yK (C_ f g h k):=⟨λ_=>rfl⟩
instance {f:α->W}:yK (iD f):=⟨λ_=>rfl⟩
end
section
variable{δ κ A A' τ τ':Type}{V:VC A τ}{V':VC A' τ'}{d:Nat}{JE:δ->Ctx}{Γ:Ctx}{p:Res δ κ}{Cont:SA->Ctx->Res δ κ->Prop}{cV:Ctx×aw->Ctx->Res δ κ->Prop}{α β γ ν ν' ρ:Type}{r:RP α}{J:jc δ ν β ρ}{q:RF δ ν β ρ}
def mI(lo hi:Int):List Int:=(dh (hi - lo).toNat).map λi:Nat=>lo+i
def rng{δ:Type}(lo hi:Int):Res δ (List Int):=aL (ZX lo && ZX hi) (.ok (mI lo hi)) .bad
theorem II{lo hi:Int}{g:G}{F R}:vI.rel d ((mI lo hi).map (own zg),ak) (Cf lo hi) g F R:=⟨⟨by simp[Cf,mI],λi a e=>by
 unfold mI at e;rw[mW,cC,mV]at e;obtain⟨j,hj,rfl⟩:=e;refine⟨.int (lo+j),?_,aF _,_,rfl,rfl⟩;show((dh (hi - lo).toNat).map _)[i]? = _;rw[cC,hj];rfl,λ_ _ _=>rfl⟩,λh=>by cases h⟩
theorem yL{A:Ctx×aw}{I:ZS}{σ:Sg}{g:G}{Fs R}{F F0:Ft}(S:Sat d Γ σ g Fs R) (h:vI.rel d A I g F R) (B:zG d F Fs g R) (c:cV A Γ p) (h0:∀l,jM F Fs l->F0 l):qB vI d JE (.ok I g) σ g F0 R p cV:=.ret S c h B h0
theorem Pq{as:AD}{n:Res δ Int}{k:List Int->Res δ κ}{a:ED}(ha:as=ze a zv) (h:av d Γ a zg n) (c:∀xs,cV (xs.map (own zg),ak) Γ (k xs)):IX d JE Γ (jS as) ((n.bind λn=>rng 0 n).bind k) cV:=λσ g Fs R S=>by
 subst ha;unfold jS ze zv;rcases h σ g Fs R S with rfl|⟨n,w,F,rfl,e,q⟩
 ·exact .inl rfl
 ·rw[e]
  have q:w = .int n:=q;subst q;dsimp only[Out.bind];show qB vI d JE (if ZX n then .ok (Cf 0 n) g else .bad) σ g _ R ((rng 0 n).bind k) cV;unfold rng;have z:ZX 0=aj:=by decide
  rw[z]
  cases hn:ZX n with
  |false=>exact .inl rfl
  |true=>exact yL (F:=aJ) S II .no (c _) λl hl=>hl.elim (λz=>z.elim) id
theorem zkS{as:AD}{n:Int}{a:ED}(ha:as=ze a zv) (h:av (δ:=δ) d Γ a zg (.ok n)) (hn:ZX n=aj) (c:cV ((mI 0 n).map (own zg),ak) Γ p):IX d JE Γ (jS as) p cV:=λσ g Fs R S=>by
 subst ha;unfold jS ze zv;rcases h σ g Fs R S with e|⟨n,w,F,e0,e,q⟩
 ·cases e
 ·cases e0
  rw[e];have q:w = .int _:=q;subst q;dsimp only[Out.bind];rw[aG hn];exact yL (F:=aJ) S II .no c λl hl=>hl.elim (λz=>z.elim) id
structure IJ(a:SA) (A:Ctx×aw):Prop where
 to:∀{d w g F R},vW.rel d a w g F R->∃I,Jj g w=ah I/\vI.rel d A I g F R
theorem yM{e:ED}(h:EX d JE Γ e p λa Γ' q=>∃A,IJ a A/\cV A Γ' q):IX d JE Γ (ij e) p cV:=λσ g Fs R S=>
 qB.bind (h σ g Fs R S) λa Γ1 w g1 F1 aP ⟨A,hi,c⟩ ra B1 S1 cG=>by
  obtain⟨I,e,hI⟩:=hi.to ra;rw[e];exact yL S1 hI B1 c λl h=>h
theorem zqb{k:Nat}{xs:List α}:IJ (own (Sh k (zd r)) xs) (xs.map (own (Sh k r)),aj):=⟨λ{d w g F R} ⟨hl,w',e,F',hF,l,ws,Fa,h1,h2,h3,h4,h5,h6⟩=>by
 cases e;subst h1
 have hl:max (k+1) r.lv<=d:=hl;refine⟨⟨ws,ah (.lst l)⟩,by simp[Jj,h2],⟨by simpa using h5.1,λi a e=>?_,λg' e1 e2=>?_⟩,λ_=>by rw[cf];exact h4⟩
 ·rw[cC,mV]at e
  obtain⟨x,hx,rfl⟩:=e;obtain⟨u,hu,w2,e2,q⟩:=h5.2.1 i (own r x) (by rw[cC,hx];rfl);cases e2;exact⟨u,hu,hl,u,rfl,Fa i,λm hm=>hF m (h6 i m hm).1,q⟩
 ·obtain⟨j,hj,hr⟩:=hF l h3
  show decide (g'[l]? = _)=aj;exact bJ (by rw[e2 j l (by omega) hr];exact h2)⟩
theorem yN{k:Nat}{f:α->W}{xs:List α}:IJ (own (Sh k (zd (val f))) xs) (xs.map (own (val f)),aj):=⟨λ{d w g F R} h=>by
 obtain⟨I,e,⟨h1,h2,h3⟩,h4⟩:=(zqb (r:=val f) (xs:=xs) (k:=k)).to h;refine⟨I,e,⟨by simpa using h1,λi a ha=>?_,h3⟩,λz=>by simpa using h4 z⟩;rw[cC,mV]at ha;obtain⟨x,hx,rfl⟩:=ha;obtain⟨u,hu,_,w2,e2,F',_,q⟩:=h2 i (own (Sh k (val f)) x) (by rw[cC,hx];rfl);cases e2;exact⟨u,hu,aF _,u,rfl,q⟩⟩
theorem IK{s:Str}(h:PyData.strOk s=aj):∀c∈s.cps.toList,PyData.strOk ⟨#[c]⟩=aj:=λc hc=>by
 unfold PyData.strOk at h ⊢;rw[Array.all_eq_true]at h;obtain⟨i,hi,e⟩:=List.mem_iff_getElem.mp hc;have:=h i (by simpa using hi);simp at e;simp;rw[<- e];simpa using this
def Qh(s:ao):List ao:=s.1.cps.toList.attach.map λc=>⟨⟨#[c.1]⟩,IK s.2 c.1 c.2⟩
theorem Pr(s:ao):(Qh s).map zC=pq s.1:=by
 unfold Qh pq;rw[mW]
 conv=>rhs;rw[<- LW s.1.cps.toList]
 rw[mW];rfl
theorem zmW{e:ED}{s:ao}(h:av (δ:=δ) d Γ e zp (.ok s)) (c:cV ((Qh s).map (own zp),ak) Γ p):IX d JE Γ (CP e) p cV:=λσ g Fs R S=>by
 unfold CP;rcases h σ g Fs R S with e|⟨n,w,F,e0,e,q⟩
 ·cases e
 ·cases e0
  rw[e];have q:w = .str s.1:=q;subst q;refine yL (F:=aJ) S ⟨⟨by rw[<- Pr];simp,λi a ha=>?_,λ_ _ _=>rfl⟩,λz=>by cases z⟩ .no c λl hl=>hl.elim (λz=>z.elim) id;rw[cC,mV]at ha;obtain⟨x,hx,rfl⟩:=ha;exact⟨zC x,by show(pq s.1)[i]? = _;rw[<- Pr,cC,hx];rfl,aF _,_,rfl,rfl⟩
def qS(Γ:Ctx):List Nat->Ctx
 |[]=>Γ
 |i :: own=>put (qS Γ own) i .any
theorem Sat.wipe{σ:Sg}{g Fs R}(S:Sat d Γ σ g Fs R):∀own:List Nat,∃aA,Sat d (qS Γ own) (Jk σ own) g aA R/\∀l,Own aA l->Own Fs l
 |[]=>⟨Fs,S,λ_ h=>h⟩
 |i :: own=>by
  obtain⟨aA,S',h⟩:=S.wipe own;refine⟨qX aA i aJ,?_,λl ⟨j,hj⟩=>h l ?_⟩
  ·show Sat d (put (qS Γ own) i .any) ((Jk σ own).set i ai) g _ R
   rw[j4];exact S'.rK .no (aF _) True.intro
  ·by_cases e:j=i
   ·subst e;rw[zr]at hj;exact hj.elim
   ·rw[zt e]at hj;exact⟨j,hj⟩
theorem Pu:∀{Γ:Ctx}{i:Nat},Le Γ (put Γ i .any)
 |[],_=>.nil
 |_ :: _,0=>.cons SA.y .refl
 |_ :: _,i+1=>.cons SA.r Pu
theorem Le.trans{Γ Δ Θ:Ctx}(h:Le Γ Δ):Le Δ Θ->Le Γ Θ:=by
 induction h generalizing Θ with
 |nil=>exact id
 |cons iA t ih=>
  intro h2
  cases h2 with
  |cons Dg t2=>exact .cons ⟨λq=>Dg.to (iA.to q),b_ Dg.lv iA.lv⟩ (ih t2)
theorem IL{Γ:Ctx}:∀own:List Nat,Le Γ (qS Γ own)
 |[]=>.refl
 |i :: own=>(IL own).trans Pu
def sQ(tg:GD) (own:List Nat):Prop:=∀w σ g σ' g',tg w σ g = .ok σ' g'->σ'.length=σ.length/\∀i,i ∉ own->σ'[i]? = σ[i]?
theorem Dh{i:Nat}{own:List Nat}(h:own.contains i=aj):sQ (aM i) own:=λw σ g σ' g' e=>by
 cases e;refine⟨by simp,λj hj=>c5 λz=>hj (by rw[<- z];simpa using h)⟩
theorem IM{σ:Sg}:∀{own:List Nat}{i:Nat},i ∉ own->(Jk σ own)[i]? = σ[i]?
 |[],i,_=>rfl
 |j :: own,i,h=>by
  show((Jk σ own).set j ai)[i]? = σ[i]?;rw[c5 λz=>h (by rw[z];exact dk),IM λz=>h (dy _ z)]
theorem Pw{σ:Sg}:∀{own:List Nat},(Jk σ own).length=σ.length
 |[]=>rfl
 |j :: own=>by show((Jk σ own).set j ai).length=_;rw[lV,Pw]
theorem Px:∀{own:List Nat}{i:Nat},i∈own->∀a,(qS Γ own)[i]? = ah a->a = .any
 |j :: own,i,h,a,e=>by
  unfold qS at e;rw[j4]at e
  by_cases z:i=j
  ·subst z
   have lt:=(bP.mp e).1;rw[lV]at lt;rw[dU lt]at e;exact(kb.inj e).symm
  ·rw[c5 (Ne.symm z)]at e
   exact Px ((cJ.mp h).resolve_left z) a e
theorem IP:∀{own:List Nat},(qS Γ own).length=Γ.length
 |[]=>rfl
 |j :: own=>by unfold qS;rw[j4,lV,IP]
theorem Sat.outer{σ σ2:Sg}{g Fs R}{own:List Nat}(S:Sat d Γ σ2 g Fs R) (hl:σ2.length=σ.length) (h:∀i,i ∉ own->σ2[i]? = σ[i]?):∃aA,Sat d (qS Γ own) σ g aA R/\∀l,Own aA l->Own Fs l:=by
 obtain⟨aA,S',h5⟩:=S.wipe own;refine⟨aA,⟨by rw[IP,<- S.len,hl],λi a e=>?_,S'.low,S'.cB,S'.apart,S'.two,S'.eX⟩,h5⟩
 by_cases z:i∈own
 ·have:=Px z a e
  subst this
  have lt:i<σ.length:=by
   have:=(bP.mp e).1;rw[IP]at this;rw[<- hl,S.len];exact this
  exact⟨σ[i],ke lt,True.intro⟩
 ·obtain⟨o,ho,q⟩:=S'.at_ i a e
  exact⟨o,by rw[<- h i z,<- IM z];exact ho,q⟩
def ve(tg:GD) (tt:TD) (te:ED) (own:List Nat) (σ:Sg) (w:W) (g:G):Out (au W):=match tg w (Jk σ own) g with
 | .ok σ2 g2=>match tt σ2 g2 with
  | .ok aj g3=>match te σ2 g3 with
   | .ok y g4=>.ok (ah y) g4
   |_=>.bad
  | .ok ak g3=>.ok ai g3
  |_=>.bad
 |_=>.bad
theorem ziX{J:ZS}{tg:GD}{tt:TD}{te:ED}{own:List Nat}{σ:Sg}{L:Nat}{w:W}{ws:List W}{g:G}(h:ZI J g=aj):iq J tg tt te own σ L (w :: ws) g=match ve tg tt te own σ w g with
  | .ok (ah y) g4=>match uR L y g4 with
   |some g5=>iq J tg tt te own σ L ws g5
   |none=>.bad
  | .ok ai g3=>iq J tg tt te own σ L ws g3
  |_=>.bad:=by
 show(if ZI J g then _ else _)=_;rw[aG h];unfold ve
 cases tg w (Jk σ own) g with
 |ok σ2 g2=>
  dsimp only
  cases tt σ2 g2 with
  |ok b g3=>
   cases b with
   |true=>
    dsimp only
    cases te σ2 g3 <;> rfl
   |false=>rfl
  |_=>rfl
 |_=>rfl
def Py(d:Nat) (own:List Nat) (a:SA) (Γ:Ctx) (tg:GD) (tt:TD) (te:ED) (q:Res aE (au β×ν)) (r:RP β) (L:ν->Ctx):Prop:=
 ∀σ g Fs R w F,Sat d Γ σ g Fs R->vW.rel d a w g F R->zG d F Fs g R->q = .bad\/∃o s g' F' aA,q = .ok (o,s)/\Sat d (L s) σ g' aA R/\zG d F' aA g' R/\aZ (jM F Fs) g (jM F' aA) g'/\match o with
  |none=>ve tg tt te own σ w g = .ok ai g'
  |some v=>∃y,ve tg tt te own σ w g = .ok (ah y) g'/\r.lv<=d/\r.r v y g' F' R
def eO{δ α β ν:Type}(f:α->ν->Res δ (au β×ν)):List α->ν->Res δ (List β×ν)
 |[],s=>.ok ([],s)
 |x :: xs,s=>(f x s).bind λt=>(eO f xs t.2).bind λu=>.ok (t.1.toList++u.1,u.2)
def kJ(d:Nat) (JE:δ->Ctx) (A:Ctx×aw) (Γ:Ctx) (tg:GD) (tt:TD) (te:ED) (own:List Nat) (p:Res δ κ) (Cont:SA->Ctx->Res δ κ->Prop):Prop:=
 ∀σ g Fs R I F,Sat d Γ σ g Fs R->vI.rel d A I g F R->zG d F Fs g R->qB vW d JE (match iq I tg tt te own σ g.length I.ws (g++[.lst []]) with
  | .ok _ g2=>.ok (.ref g.length) g2
  |_=>.bad) σ g (jM F Fs) R p Cont
theorem Di{it:ID}{tg:GD}{tt:TD}{te:ED}{own:List Nat}(h:IX d JE Γ it p λA Γ' q=>kJ d JE A Γ' tg tt te own q Cont):EX d JE Γ (o7 it tg tt te own) p Cont:=λσ g Fs R S=>
 qB.bind (h σ g Fs R S) λA Γ1 I g1 F1 aP c ra B1 S1 cG=>c σ g1 aP R I F1 S1 ra B1
theorem zmX{L:Nat}{y:W}{g:G}{us:List W}(h:g[L]? = ah (.lst us)) (hf:fits us.length=aj):uR L y g=ah (g.set L (.lst (us++[y]))):=by
 unfold uR;rw[h];dsimp only;rw[aG hf]
theorem IQ{A:Ctx×aw}{tg:GD}{tt:TD}{te:ED}{own:List Nat}{xs:List α}{ra r':RP α}{rb:RP β}{f:α->ν->Res aE (au β×ν)}{s0:ν}{q:Res aE (List β×ν)}(L:ν->Ctx) (hs:A.1=xs.map (X.own ra)) (he:El d ra r') (hq:eO f xs s0=q) (hf:fits xs.length=aj) (hb:rb.lv<=d) (h0:Le Γ (L s0)) (hL:∀s,iB d (L s)=aj)
  (step:∀x s,Py (d+1) own (X.own r' x) (L s) tg tt te (f x s) rb L) (c:∀t,q = .ok t->Cont (X.own (zd rb) t.1) (L t.2) p) (BY:q = .bad->p = .bad):kJ d JE A Γ tg tt te own p Cont:=λσ g Fs R I F S rI B=>by
 obtain⟨⟨h1,h2,h3⟩,_⟩:=rI;rw[hs]at h1 h2;subst hq;have S0:=(vb S (.lst [])).le h0;have nb:=Qj (o:=.lst []) S;have B0:zG d F Fs (g++[.lst []]) R:=⟨λl hl=>by have:=B.low l hl;simp;omega,B.apart,B.own⟩
 have main:∀(ws:List W) (ys:List α) (n:Nat),n<=xs.length->ws=I.ws.drop n->ys=xs.drop n->∀(zs:List β) (s:ν) (g1:G) (aP:Rg) (us:List W) (Fa:Rg),zs.length<=n->Sat (d+1) (L s) σ g1 aP (qX R d F)->g1[g.length]? = ah (.lst us)->AE (zs.map (X.own rb)) us g1 Fa (qX R d F) ->
   (∀i k,Fa i k->k ≠ g.length)->zG (d+1) (λk=>k=g.length\/∃i,Fa i k) aP g1 (qX R d F)->(∀k,F k->g1[k]? = g[k]?)->g.length<g1.length->(∀k,k<g.length -> ¬ jM F Fs k->g1[k]? = g[k]?)->(∀k,(Own aP k\/∃i,Fa i k)->jM F Fs k\/g.length<=k) ->
   eO f ys s = .bad\/∃sR s' g2 aV sA pJ,eO f ys s = .ok (sR,s')/\iq I tg tt te own σ g.length ws g1 = .ok () g2/\(zs++sR).length<=xs.length/\Sat (d+1) (L s') σ g2 aV (qX R d F)/\g2[g.length]? = ah (.lst sA)/\AE ((zs++sR).map (X.own rb)) sA g2 pJ (qX R d F) /\
    (∀i k,pJ i k->k ≠ g.length)/\zG (d+1) (λk=>k=g.length\/∃i,pJ i k) aV g2 (qX R d F)/\g.length<g2.length/\(∀k,k<g.length -> ¬ jM F Fs k->g2[k]? = g[k]?)/\(∀k,(Own aV k\/∃i,pJ i k)->jM F Fs k\/g.length<=k):=by
  intro ws
  induction ws with
  |nil=>
   intro ys n iw hw hy zs s g1 aP us Fa hz S1 hu ae fZ Bz kF hlen kO nw
   have hn:xs.length<=n:=by
    have l1:(I.ws.drop n).length=0:=by rw[<- hw];rfl
    rw[oA,h1,cf]at l1;omega
   have:ys=[]:=by rw[hy];exact List.drop_eq_nil_of_le hn
   subst this;have kr:∀j l,j<d->R j l->g1[l]? = g[l]?:=λj l hj hr=>kO l (S.cB j l hj hr) λz=>z.elim (λz=>B.apart l z j hj hr) λ⟨i,hi⟩=>S.apart i l hi j hj hr;refine .inr ⟨[],s,g1,aP,us,Fa,rfl,?_,?_,S1,hu,by rw[fR];exact ae,fZ,Bz,hlen,kO,nw⟩
   ·show(if ZI I g1 then _ else _)=_
    rw[aG (h3 g1 kF kr)]
   ·rw[fR];omega
  |cons w ws ih=>
   intro ys n iw hw hy zs s g1 aP us Fa hz S1 hu ae fZ Bz kF hlen kO nw
   have yC:I.ws[n]? = ah w:=by
    have:=gb (λl=>l[0]?) hw;simpa using this.symm
   have lt:n<xs.length:=by
    have:=(bP.mp yC).1;rw[h1,cf]at this;exact this
   have hx:=ke lt;have gU:ys=xs[n] :: xs.drop (n+1):=by rw[hy,LU lt]
   generalize xs[n]=x at hx gU
   have eu:ws=I.ws.drop (n+1):=by
    have:=gb (Vf 1) hw;rw[Bj]at this;simpa [Vg] using this
   obtain⟨w',ew,hl,w2,ew2,q⟩:=h2 n (X.own ra x) (by rw[cC,hx];rfl);rw[yC]at ew;cases ew;cases ew2;have kr:∀j l,j<d->R j l->g1[l]? = g[l]?:=λj l hj hr=>kO l (S.cB j l hj hr) λz=>z.elim (λz=>B.apart l z j hj hr) λ⟨i,hi⟩=>S.apart i l hi j hj hr;have q1:r'.r x w g1 aJ (qX R d F):=he.to hl (ra.loc q kF λk l hk hr=>⟨hr,kr k l (cu hk hl) hr⟩);rw[ziX (h3 g1 kF kr),gU];rcases step x s σ g1 aP _ w aJ S1 ⟨he.lv hl,w,rfl,q1⟩ .no with e|⟨o,s',g',F',aA,e,S2,B2,st,hm⟩
   ·exact .inl (by unfold eO;rw[e];rfl)
   ·have gT:aZ (Own aP) g1 (jM F' aA) g':=st.more λl hl=>hl.elim (λz=>z.elim) id
    have stO:aZ (Own aP) g1 (Own aA) g':=gT.sub λl hl=>.inr hl;have Bz2:=Bz.over stO;have Mn:=Bz.same gT;have Pz:∀k,F k->g'[k]? = g[k]?:=λk hk=>(S1.rD gT d k (by omega) (by rw[zr];exact hk)).trans (kF k hk);have PH:∀k,k<g.length -> ¬ jM F Fs k->g'[k]? = g[k]?:=λk hk hn=>(gT.keep k (by omega) λz=>(nw k (.inl z)).elim hn λy=>by omega).trans (kO k hk hn);have rl:∀k l,k<rb.lv->qX R d F k l->qX R d F k l/\g'[l]? = g1[l]?:=λk l hk hr=>⟨hr,S1.rD gT k l (by omega) hr⟩
    have Dj:AE (zs.map (X.own rb)) us g' Fa (qX R d F):=ae.loc (n:=rb.lv) (λa ha=>by
     obtain⟨x,_,rfl⟩:=eR.mp ha;exact bC _) (λi k hk=>Mn k (.inr ⟨i,hk⟩)) rl
    have PL:g'[g.length]? = ah (.lst us):=(Mn _ (.inl rfl)).trans hu;have usl:us.length=zs.length:=by rw[ae.1,cf]
    cases o with
    |none=>
     dsimp only at hm;rw[hm];dsimp only
     have:=ih (xs.drop (n+1)) (n+1) (by omega) eu rfl zs s' g' aA us Fa (by omega) S2 PL Dj fZ Bz2 Pz (cu hlen gT.len) PH λk hk=>by
      rcases hk with hk|hk
      ·rcases gT.new k (.inr hk) with z|z
       ·exact nw k (.inl z)
       ·exact .inr (by omega)
      ·exact nw k (.inr hk)
     rcases this with z|⟨sR,s2,g2,aV,sA,pJ,a1,a2,a3⟩
     ·exact .inl (by unfold eO;rw[e];show Res.bind (eO f _ s') _=_;rw[z];rfl)
     ·exact .inr ⟨sR,s2,g2,aV,sA,pJ,by unfold eO;rw[e];show Res.bind (eO f _ s') _=_;rw[a1];rfl,a2,a3⟩
    |some v=>
     obtain⟨y,hm,de,hv⟩:=hm;rw[hm];dsimp only;rw[zmX PL (by rw[usl];exact yG hf (by omega))];dsimp only
     have F8:∀k,F' k->k ≠ g.length/\∀i,¬ Fa i k:=λk hk=>by
      rcases gT.new k (.inl hk) with z|z
      ·obtain⟨j,hj⟩:=z
       exact⟨λy=>Bz.own k (.inl y) j hj,λi hi=>Bz.own k (.inr ⟨i,hi⟩) j hj⟩
      ·exact⟨by omega,λi hi=>by have:=Bz.low k (.inr ⟨i,hi⟩);omega⟩
     have keep:∀k,k ≠ g.length->(g'.set g.length (.lst (us++[y])))[k]? = g'[k]?:=λk hk=>c5 (Ne.symm hk);have BZ:zG (d+1) (one g.length) aA g' (qX R d F):=Bz2.sub λl hl=>.inl hl;have st5:aZ (one g.length) g' aJ (g'.set g.length (.lst (us++[y]))):=⟨by simp,λk _ hn=>keep k hn,λk h=>h.elim⟩
     have S5:=S2.kX BZ st5;have r5:∀k l,k<rb.lv->qX R d F k l->qX R d F k l/\(g'.set g.length (.lst (us++[y])))[l]? = g'[l]?:=λk l hk hr=>⟨hr,keep l λz=>BZ.apart l z k (by omega) hr⟩
     have ae5:=Pf (F:=F') (Dj.loc (g':=g'.set g.length (.lst (us++[y]))) (n:=rb.lv) (λa ha=>by
      obtain⟨x,_,rfl⟩:=eR.mp ha;exact bC _) (λi k hk=>keep k (fZ i k hk)) r5) (rb.loc hv (λk hk=>keep k (F8 k hk).1) r5) λi k hi hk=>(F8 k hk).2 i hi
     have PM:g.length<g'.length:=cu hlen gT.len
     have BK:∀k,(k=g.length\/∃i,qX (λi l=>i<zs.length/\Fa i l) zs.length F' i k)->k=g.length\/(∃i,Fa i k)\/F' k:=λk hk=>by
      rcases hk with hk|⟨i,hi⟩
      ·exact .inl hk
      ·by_cases z:i=zs.length
       ·subst z;rw[zr]at hi;exact .inr (.inr hi)
       ·rw[zt z]at hi;exact .inr (.inl ⟨i,hi.2⟩)
     have Bn:zG (d+1) (λk=>k=g.length\/∃i,qX (λi l=>i<zs.length/\Fa i l) zs.length F' i k) aA (g'.set g.length (.lst (us++[y]))) (qX R d F):=by
      refine⟨λk hk=>?_,λk hk=>?_,λk hk=>?_⟩
      ·rw[lV]
       rcases BK k hk with z|z|z
       ·exact Bz2.low k (.inl z)
       ·exact Bz2.low k (.inr z)
       ·exact B2.low k z
      ·rcases BK k hk with z|z|z
       ·exact Bz2.apart k (.inl z)
       ·exact Bz2.apart k (.inr z)
       ·exact B2.apart k z
      ·rcases BK k hk with z|z|z
       ·exact Bz2.own k (.inl z)
       ·exact Bz2.own k (.inr z)
       ·exact B2.own k z
     have:=ih (xs.drop (n+1)) (n+1) (by omega) eu rfl (zs++[v]) s' _ aA _ _ (by simp;omega) S5 (dU PM) ae5 (λi k hk=>by
       by_cases z:i=zs.length
       ·subst z;rw[zr]at hk;exact(F8 k hk).1
       ·rw[zt z]at hk;exact fZ i k hk.2) Bn (λk hk=>(keep k (by have:=B.low k hk;omega)).trans (Pz k hk)) (by simpa using PM) (λk hk hn=>(keep k (by omega)).trans (PH k hk hn)) λk hk=>by
      rcases hk with hk|hk
      ·rcases gT.new k (.inr hk) with z|z
       ·exact nw k (.inl z)
       ·exact .inr (by omega)
      ·rcases BK k (.inr hk) with z|z|z
       ·exact .inr (by omega)
       ·exact nw k (.inr z)
       ·rcases gT.new k (.inl z) with z|z
        ·exact nw k (.inl z)
        ·exact .inr (by omega)
     rcases this with z|⟨sR,s2,g2,aV,sA,pJ,a1,a2,a3⟩
     ·exact .inl (by unfold eO;rw[e];show Res.bind (eO f _ s') _=_;rw[z];rfl)
     ·refine .inr ⟨v :: sR,s2,g2,aV,sA,pJ,by unfold eO;rw[e];show Res.bind (eO f _ s') _=_;rw[a1];rfl,a2,?_⟩
      simpa using a3
 have S1:=S0.push B0
 have Bs:zG (d+1) (λk=>k=g.length\/∃i:Nat,(λ_=>aJ:Rg) i k) Fs (g++[.lst []]) (qX R d F):=by
  refine⟨λk hk=>?_,λk hk j hj hr=>?_,λk hk=>?_⟩
  ·rcases hk with z|⟨_,z⟩
   ·subst z;simp
   ·exact z.elim
  ·rcases hk with z|⟨_,z⟩
   ·subst z
    by_cases e:j=d
    ·subst e;rw[zr]at hr;have:=B.low _ hr;omega
    ·rw[zt e]at hr;have:=S.cB j _ (by omega) hr;omega
   ·exact z.elim
  ·rcases hk with z|⟨_,z⟩
   ·exact λi hi=>by have:=S.low i k hi;omega
   ·exact z.elim
 rcases main I.ws xs 0 (aF _) rfl rfl [] s0 (g++[.lst []]) Fs [] (λ_=>aJ) (aF _) S1 (by simp) ⟨rfl,λi a e=>by simp at e,λ_ _ _ h=>h.elim⟩ (λ_ _ h=>h.elim) Bs (λk hk=>cK (B.low k hk)) (by simp) (λk hk _=>cK hk) (λk hk=>hk.elim (λz=>.inl (.inr z)) λ⟨_,z⟩=>z.elim) with z|⟨zs,s',g2,aV,us,Fa,a1,a2,a3,a4,a5,a6,a7,a8,a9,a10,PN⟩
 ·exact .inl (BY z)
 ·rw[a2]
  rw[Bw]at a3 a6;refine .inr (.inr ⟨_,L s',.ref g.length,g2,λk=>k=g.length\/∃i,Fa i k,aV,c _ a1,rfl,⟨hb,_,rfl,g.length,us,Fa,rfl,a5,.inl rfl,yG hf a3,?_,λi k hk=>⟨.inr ⟨i,hk⟩,a7 i k hk⟩⟩,⟨a8.low,λl hl j hj hr=>a8.apart l hl j (by omega) (by rw[zt (by omega)];exact hr),a8.own⟩,a4.pop (hL s'),⟨by omega,λk hk hn=>a10 k hk hn,λk hk=>?_⟩⟩)
  ·exact a6.loc (n:=rb.lv) (λa ha=>by
    obtain⟨x,_,rfl⟩:=eR.mp ha;exact bC _) (λ_ _ _=>rfl) λk l hk hr=>⟨by rw[zt (by omega)]at hr;exact hr,rfl⟩
  ·rcases hk with(hk|hk)|hk
   ·exact .inr (by omega)
   ·exact PN k (.inr hk)
   ·exact PN k (.inl hk)
end
section
variable{δ κ A A' τ τ':Type}{V:VC A τ}{V':VC A' τ'}{d:Nat}{JE:δ->Ctx}{Γ:Ctx}{p:Res δ κ}{Cont:SA->Ctx->Res δ κ->Prop}{cV:Ctx×aw->Ctx->Res δ κ->Prop}{α β γ ν ν' ρ:Type}{r:RP α}{J:jc δ ν β ρ}{q:RF δ ν β ρ}
abbrev bX:aE->Ctx:=λz=>nomatch z
theorem IS{own:List Nat}{a:SA}{tg:GD}{tt:TD}{te:ED}{rb:RP β}{L:ν->Ctx}{t:Res aE aw}{e:Res aE (β×ν)}{s:ν}(Γ2:Ctx) (lF:sQ tg own) (hg:GX d a (qS Γ own) tg (.ok ():Res aE ax) λΓ' _=>Γ'=Γ2) (ht:TX d bX Γ2 tt t (u5 Γ2))
  (he:EX d bX Γ2 te e λb Γ3 q3=>∃v s',q3 = .ok (v,s')/\b.le (X.own rb v)/\Le (qS Γ3 own) (L s')) (hn:Le (qS Γ2 own) (L s)):Py d own a Γ tg tt te (t.bind λb=>aL b (e.bind λu=>.ok (ah u.1,u.2)) (.ok (ai,s))) rb L:=λσ g Fs R w F S ra B=>by
 obtain⟨PQ,S0,h0⟩:=S.wipe own;have B0:zG d F PQ g R:=⟨B.low,B.apart,λl hl i hi=>by obtain⟨j,hj⟩:=h0 l ⟨i,hi⟩;exact B.own l hl j hj⟩
 obtain⟨Γ',σ2,aV,rfl,e2,S2,h2⟩:=hg (Jk σ own) g PQ R w F S0 ra B0;obtain⟨Cn,hk2⟩:=lF _ _ _ _ _ e2;have PR:σ2.length=σ.length:=Cn.trans Pw;have C0:∀i,i ∉ own->σ2[i]? = σ[i]?:=λi hi=>(hk2 i hi).trans (IM hi);have cO:aZ (jM F Fs) g (Own aV) g:=⟨bC _,λ_ _ _=>rfl,λl hl=>.inl ((h2 l hl).imp id (h0 l))⟩
 rcases ht σ2 g aV R S2 with h|⟨x,z,_⟩|⟨b,Γ',t',g3,F3,sS,⟨q0,q1⟩,q2,q3,q4,q5,q6⟩
 ·exact .inl (by rw[h];rfl)
 ·nomatch z
 ·have q3:b=t':=q3
  subst q3 q0;have nF:aZ (jM F Fs) g (Own sS) g3:=cO.trans (q6.sub λl h=>.inr h)
  cases b with
  |false=>
   subst q1;obtain⟨pK,S4,h4⟩:=q5.outer PR C0;refine .inr ⟨ai,s,g3,aJ,pK,rfl,S4.le hn,.no,nF.sub λl hl=>hl.elim (λz=>z.elim) (h4 l),?_⟩;dsimp only;unfold ve;rw[e2];dsimp only;rw[q2]
  |true=>
   subst q1;rcases he σ2 g3 sS R q5 with h|⟨x,z,_⟩|⟨a',Γ3,y,g4,F4,pK,⟨v,s',r0,r1,r2⟩,r3,r4,r5,r6,r7⟩
   ·exact .inl (by rw[h];rfl)
   ·nomatch z
   ·subst r0
    obtain⟨Fs5,S5,h5⟩:=r6.outer PR C0;have IT:=r1.to r4.2;obtain⟨_,ey,IT⟩:=IT;cases ey;refine .inr ⟨ah v,s',g4,F4,Fs5,rfl,S5.le r2,⟨r5.low,r5.apart,λl hl i hi=>by obtain⟨j,hj⟩:=h5 l ⟨i,hi⟩;exact r5.own l hl j hj⟩,nF.trans (r7.sub λl hl=>hl.imp id (h5 l)),y,?_,b_ r1.lv r4.1,IT⟩;unfold ve;rw[e2];dsimp only;rw[q2];dsimp only;rw[r3]
def gW{δ α β:Type}(t:α->Res δ aw) (e:α->Res δ β):List α->Res δ (List β)
 |[]=>.ok []
 |x :: xs=>(t x).bind λb=>aL b ((e x).bind λv=>(gW t e xs).bind λvs=>.ok (v :: vs)) (gW t e xs)
def sT{δ α β:Type}(e:α->Res δ β):List α->Res δ (List β)
 |[]=>.ok []
 |x :: xs=>(e x).bind λv=>(sT e xs).bind λvs=>.ok (v :: vs)
def nM{δ α β ν:Type}(e:α->ν->Res δ (β×ν)):List α->ν->Res δ (List β×ν)
 |[],s=>.ok ([],s)
 |x :: xs,s=>(e x s).bind λu=>(nM e xs u.2).bind λw=>.ok (u.1 :: w.1,w.2)
theorem Dk{t:α->Res aE aw}{e:α->Res aE β}:∀xs:List α,eO (λx (s:ax)=>(t x).bind λb=>aL b (((e x).bind λv=>.ok (v,())).bind λu=>.ok (ah u.1,u.2)) (.ok (ai,s))) xs ()=(gW t e xs).bind λvs=>.ok (vs,())
 |[]=>rfl
 |x :: xs=>by
  unfold eO gW
  cases t x with
  |ok b=>
   cases b with
   |true=>
    show Res.bind (((e x).bind λv=>.ok (v,())).bind λu=>.ok (ah u.1,u.2)) _=((e x).bind _).bind _
    cases e x with
    |ok v=>
     show Res.bind (eO _ xs ()) _=Res.bind (Res.bind (gW t e xs) _) _;rw[Dk xs]
     cases gW t e xs <;> rfl
    |ex e d=>rfl
    |bad=>rfl
   |false=>
    show Res.bind (eO _ xs ()) _=Res.bind (gW t e xs) _;rw[Dk xs]
    cases gW t e xs <;> rfl
  |ex e d=>rfl
  |bad=>rfl
theorem PU{e:α->Res δ β}:∀xs:List α,gW (λ_=>.ok aj) e xs=sT e xs
 |[]=>rfl
 |x :: xs=>by
  unfold gW sT;show(e x).bind _=_;rw[PU xs]
theorem IU{t:α->aw}{e:α->β}:∀xs:List α,gW (δ:=δ) (λx=>.ok (t x)) (λx=>.ok (e x)) xs = .ok ((xs.filter t).map e)
 |[]=>rfl
 |x :: xs=>by
  unfold gW;rw[IU xs];show aL (t x) _ _=_
  cases h:t x <;> simp[h,Res.bind]
theorem PY{e:α->ν->Res aE (β×ν)}:∀(xs:List α) (s:ν),eO (λx s=>(Res.ok aj).bind λb=>aL b ((e x s).bind λu=>.ok (ah u.1,u.2)) (.ok (ai,s))) xs s=nM e xs s
 |[],s=>rfl
 |x :: xs,s=>by
  unfold eO nM;show Res.bind ((e x s).bind λu=>.ok (ah u.1,u.2)) _=_
  cases e x s with
  |ok u=>
   show Res.bind (eO _ xs u.2) _=_;rw[PY xs];rfl
  |ex e d=>rfl
  |bad=>rfl
theorem Dl{A:Ctx×aw}{tg:GD}{tt:TD}{te:ED}{own:List Nat}{xs:List α}{k:ax->Res δ κ}(h:fits xs.length=aj->kJ d JE A Γ tg tt te own (k ()) Cont):kJ d JE A Γ tg tt te own ((f6 (fits xs.length)).bind k) Cont:=by
 cases hf:fits xs.length with
 |true=>exact h hf
 |false=>exact λσ g Fs R I F S rI B=>.inl rfl
theorem IV{Γ2:Ctx}:TX d bX Γ2 ny (.ok aj) (u5 Γ2):=λσ g Fs R S=>.ret (F:=aJ) S ⟨rfl,rfl⟩ rfl .no λl hl=>hl.elim (λz=>z.elim) id
theorem zmY{A:Ctx×aw}{tg:GD}{tt:TD}{te:ED}{own:List Nat}{xs:List α}{ra r':RP α}{rb:RP β}{t:α->Res aE aw}{e:α->Res aE β}{k:List β->Res δ κ}(hs:A.1=xs.map (X.own ra)) (he:El d ra r') (hf:fits xs.length=aj) (hb:cy rb.lv d=aj) (hL:iB d (qS Γ own)=aj) (lF:sQ tg own) (Γ2:α->Ctx)
  (hg:∀x,GX (d+1) (X.own r' x) (qS (qS Γ own) own) tg (.ok ():Res aE ax) λΓ' _=>Γ'=Γ2 x) (ht:∀x,TX (d+1) bX (Γ2 x) tt (t x) (u5 (Γ2 x))) (hx:∀x,EX (d+1) bX (Γ2 x) te (e x) (nE rb (Γ2 x))) (hn:∀x,Le (qS (Γ2 x) own) (qS Γ own))
  (c:∀vs,Cont (X.own (zd rb) vs) (qS Γ own) (k vs)):kJ d JE A Γ tg tt te own ((gW t e xs).up.bind k) Cont:=
 IQ (ν:=ax) (λ_=>qS Γ own) hs he (Dk (t:=t) (e:=e) xs) hf (gJ hb) (IL own) (λ_=>hL) (λx s=>IS (Γ2 x) lF (hg x) (ht x) (λσ g Fs R S=>by
   rcases hx x σ g Fs R S with h|⟨y,z,_⟩|⟨a,Γ',t,g',F,aA,⟨v,h0,hle,h1⟩,h2,h3,h4,h5,h6⟩
   ·exact .inl (by rw[h];rfl)
   ·nomatch z
   ·exact .inr (.inr ⟨a,Γ',t,g',F,aA,⟨v,(),by rw[h0];rfl,hle,by rw[h1];exact hn x⟩,h2,h3,h4,h5,h6⟩)) (hn x))
  (λt ht=>by
   cases hp:gW _ e xs with
   |ok vs=>rw[hp]at ht;cases ht;exact c vs
   |ex y z=>nomatch z
   |bad=>rw[hp]at ht;cases ht)
  (λhp=>by
   cases hq:gW _ e xs with
   |ok vs=>rw[hq]at hp;cases hp
   |ex y z=>nomatch z
   |bad=>rfl)
theorem kJ.eq{A:Ctx×aw}{tg:GD}{tt:TD}{te:ED}{own:List Nat}{p':Res δ κ}(h:kJ d JE A Γ tg tt te own p Cont) (e:p=p'):kJ d JE A Γ tg tt te own p' Cont:=e ▸ h
theorem zmZ{A:Ctx×aw}{tg:GD}{te:ED}{own:List Nat}{xs:List α}{ra r':RP α}{rb:RP β}{e:α->Res aE β}{k:List β->Res δ κ}(hs:A.1=xs.map (X.own ra)) (he:El d ra r') (hf:fits xs.length=aj) (hb:cy rb.lv d=aj) (hL:iB d (qS Γ own)=aj) (lF:sQ tg own) (Γ2:α->Ctx)
  (hg:∀x,GX (d+1) (X.own r' x) (qS (qS Γ own) own) tg (.ok ():Res aE ax) λΓ' _=>Γ'=Γ2 x) (hx:∀x,EX (d+1) bX (Γ2 x) te (e x) (nE rb (Γ2 x))) (hn:∀x,Le (qS (Γ2 x) own) (qS Γ own))
  (c:∀vs,Cont (X.own (zd rb) vs) (qS Γ own) (k vs)):kJ d JE A Γ tg ny te own ((sT e xs).up.bind k) Cont:=
 (zmY hs he hf hb hL lF Γ2 hg (λx=>IV) hx hn c).eq (by rw[PU])
theorem zkU{A:Ctx×aw}{tg:GD}{tt:TD}{te:ED}{own:List Nat}{xs:List α}{ra r':RP α}{rb:RP β}{t:α->aw}{e:α->β}(hs:A.1=xs.map (X.own ra)) (he:El d ra r') (hf:fits xs.length=aj) (hb:cy rb.lv d=aj) (hL:iB d (qS Γ own)=aj) (lF:sQ tg own) (Γ2:α->Ctx)
  (hg:∀x,GX (d+1) (X.own r' x) (qS (qS Γ own) own) tg (.ok ():Res aE ax) λΓ' _=>Γ'=Γ2 x) (ht:∀x,TX (d+1) bX (Γ2 x) tt (.ok (t x)) (u5 (Γ2 x))) (hx:∀x,EX (d+1) bX (Γ2 x) te (.ok (e x)) (nE rb (Γ2 x))) (hn:∀x,Le (qS (Γ2 x) own) (qS Γ own))
  (c:Cont (X.own (zd rb) ((xs.filter t).map e)) (qS Γ own) p):kJ d JE A Γ tg tt te own p Cont:=
 IQ (ν:=ax) (λ_=>qS Γ own) hs he (Dk (t:=λx=>.ok (t x)) (e:=λx=>.ok (e x)) xs) hf (gJ hb) (IL own) (λ_=>hL) (λx s=>IS (Γ2 x) lF (hg x) (ht x) (λσ g Fs R S=>by
   rcases hx x σ g Fs R S with h|⟨y,z,_⟩|⟨a,Γ',t,g',F,aA,⟨v,h0,hle,h1⟩,h2,h3,h4,h5,h6⟩
   ·cases h
   ·nomatch z
   ·exact .inr (.inr ⟨a,Γ',t,g',F,aA,⟨v,(),by cases h0;rfl,hle,by rw[h1];exact hn x⟩,h2,h3,h4,h5,h6⟩)) (hn x))
  (λt ht=>by rw[IU]at ht;cases ht;exact c) (λhp=>by rw[IU]at hp;cases hp)
theorem zkV{A:Ctx×aw}{tg:GD}{te:ED}{own:List Nat}{xs:List α}{ra r':RP α}{rb:RP β}{e:α->β}(hs:A.1=xs.map (X.own ra)) (he:El d ra r') (hf:fits xs.length=aj) (hb:cy rb.lv d=aj) (hL:iB d (qS Γ own)=aj) (lF:sQ tg own) (Γ2:α->Ctx)
  (hg:∀x,GX (d+1) (X.own r' x) (qS (qS Γ own) own) tg (.ok ():Res aE ax) λΓ' _=>Γ'=Γ2 x) (hx:∀x,EX (d+1) bX (Γ2 x) te (.ok (e x)) (nE rb (Γ2 x))) (hn:∀x,Le (qS (Γ2 x) own) (qS Γ own))
  (c:Cont (X.own (zd rb) (xs.map e)) (qS Γ own) p):kJ d JE A Γ tg ny te own p Cont:=
 zkU (t:=λ_=>aj) hs he hf hb hL lF Γ2 hg (λx=>IV) hx hn (by rw[List.filter_eq_self.mpr λ_ _=>rfl];exact c)
theorem zf1{A:Ctx×aw}{tg:GD}{te:ED}{own:List Nat}{xs:List α}{ra r':RP α}{rb:RP β}{e:α->ν->Res aE (β×ν)}{s0:ν}{k:List β×ν->Res δ κ}(L:ν->Ctx) (hs:A.1=xs.map (X.own ra)) (he:El d ra r') (hf:fits xs.length=aj) (hb:cy rb.lv d=aj) (h0:Le Γ (L s0)) (hL:∀s,iB d (L s)=aj) (lF:sQ tg own) (Γ2:α->ν->Ctx)
  (hg:∀x s,GX (d+1) (X.own r' x) (qS (L s) own) tg (.ok ():Res aE ax) λΓ' _=>Γ'=Γ2 x s) (hx:∀x s,EX (d+1) bX (Γ2 x s) te (e x s) λb Γ3 q3=>∃v s',q3 = .ok (v,s')/\b.le (X.own rb v)/\Le (qS Γ3 own) (L s')) (hn:∀x s,Le (qS (Γ2 x s) own) (L s))
  (c:∀t,Cont (X.own (zd rb) t.1) (L t.2) (k t)):kJ d JE A Γ tg ny te own ((nM e xs s0).up.bind k) Cont:=
 IQ L hs he (PY xs s0) hf (gJ hb) h0 hL (λx s=>IS (t:=.ok aj) (Γ2 x s) lF (hg x s) IV (hx x s) (hn x s))
  (λt ht=>by rw[ht];exact c t) (λhp=>by rw[hp];rfl)
structure FnR{δ:Type}(f:FN) (r1:RP α) (r3:RP γ) (h:α->Res δ γ):Prop where
 to:∀{v w1 g F1 R},r1.r v w1 g F1 R->h v = .bad\/∃z w F,h v = .ok z/\f [w1] g = .ok w g/\r3.r z w g F R
theorem Zp{f:FN}{a:ED}{r1:RP α}{r3:RP γ}{h:α->Res δ γ}{pa:Res δ α}(o:FnR f r1 r3 h) (ha:av d Γ a r1 pa):av d Γ (aQ f (ze a zv)) r3 (pa.bind h):=λσ g Fs R S=>by
 rcases ha σ g Fs R S with rfl|⟨v,w1,F1,rfl,e1,q1⟩
 ·exact .inl rfl
 ·rcases o.to q1 with e|⟨z,w,F,e,e3,q3⟩
  ·exact .inl e
  ·exact .inr ⟨z,w,F,e,by unfold aQ ze zv;rw[e1];exact e3,q3⟩
theorem PZ{f:FN}{fa:α->W}{fc:γ->W}{h:α->γ}(hf:∀v g,f [fa v] g = .ok (fc (h v)) g):FnR (δ:=δ) f (val fa) (val fc) (λv=>.ok (h v)):=⟨λ{v w1 g F1 R} e1=>.inr ⟨_,_,aJ,rfl,by
 have e1:w1=fa v:=e1;rw[e1,hf],rfl⟩⟩
theorem ZR{r:RP α}:FnR (δ:=δ) QK (zd r) zg (λxs=>.ok (xs.length:Int)):=⟨λ{xs w g F R} ⟨l,us,Fa,h1,h2,h3,h4,h5,h6⟩=>.inr ⟨_,.int (xs.length:Nat),aJ,rfl,by
 subst h1;simp only[QK,Q0,ql,h2];rw[h5.1,cf],rfl⟩⟩
theorem zm0:FnR (δ:=δ) QK zp zg (λs=>(f6 (fits s.1.length)).bind λ_=>.ok (s.1.length:Int)):=⟨λ{s w g F R} e1=>by
 have e1:w = .str s.1:=e1;subst e1
 cases h:fits s.1.length with
 |false=>exact .inl rfl
 |true=>exact .inr ⟨_,.int (s.1.length:Nat),aJ,rfl,by simp only[QK];rw[aG h],rfl⟩⟩
theorem zoP:FnR (δ:=δ) Cw zg zg (λi=>.ok (yE i)):=PZ λ_ _=>rfl
theorem yO:FnR (δ:=δ) mn zg zg (λi=>.ok i):=PZ λ_ _=>rfl
theorem qm{m:ED}{res:Res δ aw}(h:av d Γ m z8 res):bx d Γ (qW m) res:=λσ g Fs R S=>by
 rcases h σ g Fs R S with e|⟨v,w,F,e0,e,q⟩
 ·exact .inl e
 ·refine .inr ⟨v,e0,?_⟩
  have q:w = .bl v:=q;unfold qW;rw[e,q];rfl
theorem pL{m:TD}{res:Res δ aw}(h:bx d Γ m res):bx d Γ (iZ m) (res.bind λb=>.ok (!b)):=λσ g Fs R S=>by
 rcases h σ g Fs R S with rfl|⟨v,rfl,e⟩
 ·exact .inl rfl
 ·exact .inr ⟨_,rfl,by unfold iZ;rw[e];rfl⟩
theorem IW{ma mb:TD}{pa pb:Res δ aw}(ha:bx d Γ ma pa) (hb:bx d Γ mb pb):bx d Γ (kA ma mb) (pa.bind λb=>aL b pb (.ok ak)):=λσ g Fs R S=>by
 rcases ha σ g Fs R S with rfl|⟨v,rfl,e⟩
 ·exact .inl rfl
 ·cases v with
  |false=>exact .inr ⟨ak,rfl,by unfold kA;rw[e];rfl⟩
  |true=>
   rcases hb σ g Fs R S with h|⟨u,h,e'⟩
   ·exact .inl h
   ·exact .inr ⟨u,h,by unfold kA;rw[e];exact e'⟩
theorem P0{ma mb:TD}{pa pb:Res δ aw}(ha:bx d Γ ma pa) (hb:bx d Γ mb pb):bx d Γ (tOr ma mb) (pa.bind λb=>aL b (.ok aj) pb):=λσ g Fs R S=>by
 rcases ha σ g Fs R S with rfl|⟨v,rfl,e⟩
 ·exact .inl rfl
 ·cases v with
  |true=>exact .inr ⟨aj,rfl,by unfold tOr;rw[e];rfl⟩
  |false=>
   rcases hb σ g Fs R S with h|⟨u,h,e'⟩
   ·exact .inl h
   ·exact .inr ⟨u,h,by unfold tOr;rw[e];exact e'⟩
theorem zm1{ma mb:TD}{pa:Res δ aw}{y:aw}(ha:bx d Γ ma pa) (hb:bx (δ:=δ) d Γ mb (.ok y)):bx d Γ (kA ma mb) (pa.bind λx=>.ok (x && y)):=(IW ha hb).eq (by congr 1;funext x;cases x <;> rfl)
theorem IY{ma mb:TD}{pa:Res δ aw}{y:aw}(ha:bx d Γ ma pa) (hb:bx (δ:=δ) d Γ mb (.ok y)):bx d Γ (tOr ma mb) (pa.bind λx=>.ok (x||y)):=(P0 ha hb).eq (by congr 1;funext x;cases x <;> rfl)
class lG (r:RP α) where
 sU:α->aw
 at_:∀{v w g F R},r.r v w g F R->oR g w=ah (sU v)
instance:lG zg:=⟨λi=>i != 0,λh=>by have h:_=W.int _:=h;subst h;rfl⟩
instance:lG z8:=⟨λb=>b,λh=>by have h:_=W.bl _:=h;subst h;rfl⟩
instance {f:α->W}:lG (val (iD f)):=⟨λl=>!l.isEmpty,λ{v w g F R} h=>by
 have h:w = .tup (v.map f):=h;subst h;show ah _=ah _
 cases v <;> rfl⟩
instance {r:RP α}:lG (zd r):=⟨λl=>!l.isEmpty,λ{xs w g F R} ⟨l,ws,Fa,h1,h2,h3,h4,h5,h6⟩=>by
 subst h1;simp only[oR,h2];have:=h5.1;rw[cf]at this
 cases ws <;> cases xs <;> simp_all⟩
theorem sV{m:ED}{r:RP α} [T:lG r] {res:Res δ α}(h:av d Γ m r res):bx d Γ (i3 m) (res.bind λv=>.ok (T.sU v)):=λσ g Fs R S=>by
 rcases h σ g Fs R S with rfl|⟨v,w,F,rfl,e,q⟩
 ·exact .inl rfl
 ·exact .inr ⟨_,rfl,by unfold i3;rw[e];dsimp only[Out.bind];rw[T.at_ q]⟩
theorem P4{t:TD}{ma mb:ED}{pc:Res δ aw}{pa pb:Res δ α}(hc:bx d Γ t pc) (ha:av d Γ ma r pa) (hb:av d Γ mb r pb):av d Γ (l9 t ma mb) r (pc.bind λc=>aL c pa pb):=λσ g Fs R S=>by
 rcases hc σ g Fs R S with rfl|⟨v,rfl,e⟩
 ·exact .inl rfl
 ·have e2:l9 t ma mb σ g=if v then ma σ g else mb σ g:=by unfold l9;rw[e];rfl
  rw[e2]
  cases v with
  |true=>exact ha σ g Fs R S
  |false=>exact hb σ g Fs R S
theorem zkX{f f':F2}{ma mb mc:ED}{r1:RP α}{r2:RP β}{r3:RP γ}{h:α->β->aw}{h':β->γ->aw}{pa:Res δ α}{pb:Res δ β}{pc:Res δ γ}(o:OpR (δ:=δ) f r1 r2 z8 (λx y=>.ok (h x y))) (o':OpR (δ:=δ) f' r2 r3 z8 (λx y=>.ok (h' x y))) (ha:av d Γ ma r1 pa) (hb:av d Γ mb r2 pb) (hc:av d Γ mc r3 pc) :
  av d Γ (QA f f' ma mb mc) z8 (pa.bind λx=>pb.bind λy=>aL (h x y) (pc.bind λz=>.ok (h' y z)) (.ok ak)):=λσ g Fs R S=>by
 rcases ha σ g Fs R S with rfl|⟨x,w1,F1,rfl,e1,q1⟩
 ·exact .inl rfl
 ·rcases hb σ g Fs R S with rfl|⟨y,w2,F2,rfl,e2,q2⟩
  ·exact .inl rfl
  ·rcases o.to q1 q2 with z|⟨b,w,F,e0,e,q⟩
   ·cases z
   ·cases e0
    have q:w = .bl (h x y):=q;subst q;show aL (h x y) _ _=_\/∃v w F,aL (h x y) _ _=_/\_
    cases pM:h x y with
    |false=>
     rw[pM]at e;exact .inr ⟨ak,.bl ak,aJ,rfl,by unfold QA;rw[e1];dsimp only[Out.bind];rw[e2];dsimp only[Out.bind];rw[e],rfl⟩
    |true=>
     rw[pM]at e;rcases hc σ g Fs R S with rfl|⟨z,w3,F3,rfl,e3,q3⟩
     ·exact .inl rfl
     ·rcases o'.to q2 q3 with z|⟨b,w,F,e0,e',q'⟩
      ·cases z
      ·cases e0
       exact .inr ⟨_,w,F,rfl,by unfold QA;rw[e1];dsimp only[Out.bind];rw[e2];dsimp only[Out.bind];rw[e];dsimp only;rw[e3];exact e',q'⟩
theorem QT{f f':F2}{ma mb mc:ED}{r1:RP α}{r2:RP β}{r3:RP γ}{h:α->β->aw}{h':β->γ->aw}{pa:Res δ α}{pb:Res δ β}{z:γ}(o:OpR (δ:=δ) f r1 r2 z8 (λx y=>.ok (h x y))) (o':OpR (δ:=δ) f' r2 r3 z8 (λx y=>.ok (h' x y))) (ha:av d Γ ma r1 pa) (hb:av d Γ mb r2 pb) (hc:av (δ:=δ) d Γ mc r3 (.ok z)) :
  av d Γ (QA f f' ma mb mc) z8 (pa.bind λx=>pb.bind λy=>.ok (h x y && h' y z)):=(zkX o o' ha hb hc).eq (by congr 1;funext x;congr 1;funext y;cases h x y <;> rfl)
def Dm{δ β:Type}(d:Nat) (Γ:Ctx) (as:AD) (tw:β->List W) (res:Res δ β):Prop:=
 ∀σ g Fs R,Sat d Γ σ g Fs R->res = .bad\/∃v,res = .ok v/\as σ g = .ok (tw v) g
theorem Z7:Dm (δ:=δ) d Γ zv (λ_:ax=>[]) (.ok ()):=λσ g Fs R S=>.inr ⟨(),rfl,rfl⟩
theorem qt{a:ED}{as:AD}{f:α->W}{tw:β->List W}{pa:Res δ α}{ps:Res δ β}(ha:av d Γ a (val f) pa) (hs:Dm d Γ as tw ps):Dm d Γ (ze a as) (λv:α×β=>f v.1 :: tw v.2) (pa.bind λx=>ps.bind λy=>.ok (x,y)):=λσ g Fs R S=>by
 rcases ha σ g Fs R S with rfl|⟨x,w1,F1,rfl,e1,q1⟩
 ·exact .inl rfl
 ·rcases hs σ g Fs R S with rfl|⟨y,rfl,e2⟩
  ·exact .inl rfl
  ·have q1:w1=f x:=q1
   subst q1;exact .inr ⟨(x,y),rfl,by unfold ze;rw[e1];dsimp only[Out.bind];rw[e2]⟩
theorem Z8{as:AD}{tw:β->List W}{ps:Res δ β}{f:α->W}(mk:β->α) (h:∀v,f (mk v) = .tup (tw v)/\fits (tw v).length=aj) (hs:Dm d Γ as tw ps):av d Γ (Jz as) (val f) (ps.bind λv=>.ok (mk v)):=λσ g Fs R S=>by
 rcases hs σ g Fs R S with rfl|⟨y,rfl,e2⟩
 ·exact .inl rfl
 ·exact .inr ⟨mk y,_,aJ,rfl,by unfold Jz;rw[e2];dsimp only[Out.bind];rw[aG (h y).2],(h y).1.symm⟩
end
section
variable{δ κ A A' τ τ':Type}{V:VC A τ}{V':VC A' τ'}{d:Nat}{JE:δ->Ctx}{Γ:Ctx}{p:Res δ κ}{Cont:SA->Ctx->Res δ κ->Prop}{cV:Ctx×aw->Ctx->Res δ κ->Prop}{α β γ ν ν' ρ:Type}{r:RP α}{J:jc δ ν β ρ}{q:RF δ ν β ρ}
abbrev ZU:=List (Nat×SA)
def eY:ZU->Nat
 |[]=>0
 |fa :: fl=>max fa.2.lv (eY fl)
theorem yP:∀{fl:ZU}{fa:Nat×SA},fa∈fl->fa.2.lv<=eY fl
 |fb :: fl,fa,h=>by
  unfold eY;rcases cJ.mp h with e|e
  ·subst e;omega
  ·have:=yP e;omega
def sW(c:Nat) (fl:ZU) (w:W) (g:G) (F:Ft) (R:Rg):Prop:=
 ∃l fs,∃Fa:Rg,w = .ref l/\g[l]? = ah (.ins c fs)/\F l/\fs.length<=fl.length/\(∀(j:Nat) (fa:Nat×SA),fl[j]? = ah fa->∃u,ZV fa.1 fs=ah u/\fa.2.s (ah u) g (Fa j) R)/\(∀i j k,Fa i k->Fa j k->i=j)/\∀j k,Fa j k->F k/\k ≠ l
theorem zf2{c:Nat}{fl:ZU}{w:W}{g g':G}{F:Ft}{R R':Rg}(h:sW c fl w g F R) (e1:∀l,F l->g'[l]? = g[l]?) (e2:∀k l,k<eY fl->R k l->R' k l/\g'[l]? = g[l]?):sW c fl w g' F R':=by
 obtain⟨l,fs,Fa,h1,h2,h3,h4,h5,h6,h7⟩:=h;refine⟨l,fs,Fa,h1,by rw[e1 l h3];exact h2,h3,h4,λj fa e=>?_,h6,h7⟩;obtain⟨u,hu,q⟩:=h5 j fa e;exact⟨u,hu,fa.2.loc q (λk hk=>e1 k (h7 j k hk).1) λk l hk=>e2 k l (cu hk (yP (di e)))⟩
theorem P5{c:Nat}{fl:ZU}{w:W}{g:G}{F F':Ft}{R:Rg}(h:sW c fl w g F R) (e:∀l,F l->F' l):sW c fl w g F' R:=by
 obtain⟨l,fs,Fa,h1,h2,h3,h4,h5,h6,h7⟩:=h;exact⟨l,fs,Fa,h1,h2,e l h3,h4,h5,h6,λj k hk=>⟨e k (h7 j k hk).1,(h7 j k hk).2⟩⟩
def gY(c n:Nat) (L:α->ZU):RP α where
 r:=λv w g F R=>eY (L v)<=n/\sW c (L v) w g F R
 lv:=n
 loc:=λ⟨h,q⟩ e1 e2=>⟨h,zf2 q e1 λk l hk=>e2 k l (by omega)⟩
 wk:=λ⟨h,q⟩ e=>⟨h,P5 q e⟩
def iE(c:Nat) (fl:ZU) (w0:W):SA where
 s:=λo g F R=>o=ah w0/\sW c fl w0 g F R
 lv:=eY fl
 loc:=λ⟨h,q⟩ e1 e2=>⟨h,zf2 q e1 e2⟩
 wk:=λ⟨h,q⟩ e=>⟨h,P5 q e⟩
theorem zf3{c n:Nat}{L:α->ZU}{v:α}{w0:W}{fl:ZU}(e:L v=fl) (h:cy (eY fl) n=aj):(pin (gY c n L) v w0).le (iE c fl w0):=⟨λ⟨h,_,q⟩=>⟨h,e ▸ q⟩,gJ h⟩
theorem IZ{c n:Nat}{L:α->ZU}{v:α}{w0:W}{fl:ZU}(e:L v=fl) (h:eY fl=n):(iE c fl w0).le (pin (gY c n L) v w0):=⟨λ⟨h',q⟩=>⟨h',by rw[e];omega,e ▸ q⟩,by show n<=eY fl;omega⟩
theorem P6{Γ':Ctx}{m:SD}(h:Le Γ Γ') (k:SX d J Γ' m q):SX d J Γ m q:=λσ g Fs R S=>k σ g Fs R (S.le h)
theorem Jn{Γ':Ctx}{m:ED}(h:Le Γ Γ') (k:EX d JE Γ' m p Cont):EX d JE Γ m p Cont:=λσ g Fs R S=>k σ g Fs R (S.le h)
theorem Qv{a b:SA}:∀{Γ:Ctx}(i:Nat),bW Γ i=ah a->a.le b->Le Γ (put Γ i b)
 |[],_,h,_=>by simp[bW]at h
 |c :: Γ,0,h,l=>by
  have h:ah c=ah a:=h;cases h;exact .cons l .refl
 |c :: Γ,i+1,h,l=>.cons SA.r (Qv i h l)
theorem Z9{c n:Nat}{L:α->ZU}{a:ED}{pa:Res δ α}{i:Nat}{rf:RP β}(j:Nat) (get:α->β) (h:∀v,(L v)[j]? = ah (i,own rf (get v))) (ha:av d Γ a (gY c n L) pa):av d Γ (fY i a) rf (pa.bind λv=>.ok (get v)):=λσ g Fs R S=>by
 rcases ha σ g Fs R S with rfl|⟨v,w,F,rfl,e,hl,l,fs,Fa,h1,h2,h3,h4,h5,h6,h7⟩
 ·exact .inl rfl
 ·subst h1
  obtain⟨u,hu,w',e',q⟩:=h5 j _ (h v);cases e';refine .inr ⟨_,u,_,rfl,?_,q⟩;unfold fY;rw[e];dsimp only[Out.bind];simp only[qP,h2,hu]
theorem zm2{c:Nat}{fl:ZU}{w0:W}{s i:Nat}{rf:RP β}{v:β}(j:Nat) (hs:bW Γ s=ah (iE c fl w0)) (h:fl[j]? = ah (i,own rf v)) (k:∀wj,Cont (pin rf v wj) (put Γ s (gy (eY fl) rf wj λx=>iE c (fl.set j (i,own rf x)) w0)) p):EX d JE Γ (fY i (zf s)) p Cont:=λσ g Fs R S=>by
 have cR:=hs;rw[jQ]at cR;obtain⟨o,ho,e0,l,fs,Fa,h1,h2,h3,h4,h5,h6,h7⟩:=S.get cR;subst e0 h1;obtain⟨u,hu,w',e',q⟩:=h5 j _ h;cases e'
 have e:fY i (zf s) σ g = .ok u g:=by
  unfold fY zf;rw[ho];dsimp only[Out.bind];simp only[qP,h2,hu]
 rw[e];have lt:j<fl.length:=(bP.mp h).1;have de:eY fl<=d:=S.eX s _ cR;have mH:rf.lv<=eY fl:=yP (di h)
 have S2:Sat d (put Γ s (gy (eY fl) rf u λx=>iE c (fl.set j (i,own rf x)) (.ref l))) σ g (qX Fs s λk=>Fs s k /\ ¬ Fa j k) R:=by
  rw[j4];refine S.pE ⟨λk hk=>S.low s k hk.1,λk hk=>S.apart s k hk.1,λk hk m hm=>?_⟩ ho de ?_
  ·by_cases e:m=s
   ·subst e;rw[zr]at hm;exact hm
   ·rw[zt e]at hm;exact e (S.two m s k hm hk.1)
  ·intro x g' F' R' a1 a2 a3 a4
   refine⟨rfl,l,fs,qX Fa j F',rfl,by rw[a1 l ⟨h3,λz=>(h7 j l z).2 rfl⟩];exact h2,.inl ⟨h3,λz=>(h7 j l z).2 rfl⟩,by rw[lV];exact h4,λm fa hm=>?_,λm m' k hm cT=>?_,λm k hm=>?_⟩
   ·by_cases e:m=j
    ·subst e
     rw[dU lt]at hm;cases hm;exact⟨u,hu,u,rfl,by rw[zr];exact a4⟩
    ·rw[c5 (Ne.symm e)]at hm
     obtain⟨u',hu',q'⟩:=h5 m fa hm;refine⟨u',hu',?_⟩;rw[zt e];exact fa.2.loc q' (λk hk=>a1 k ⟨(h7 m k hk).1,λz=>e (h6 m j k hk z)⟩) λk l hk hr=>a2 k l (cu hk (yP (di hm))) hr
   ·by_cases e:m=j
    ·by_cases e':m'=j
     ·rw[e,e']
     ·rw[e,zr]at hm;rw[zt e']at cT
      exact(a3 k ⟨(h7 m' k cT).1,λz=>e' (h6 m' j k cT z)⟩ hm).elim
    ·by_cases e':m'=j
     ·rw[zt e]at hm;rw[e',zr]at cT
      exact(a3 k ⟨(h7 m k hm).1,λz=>e (h6 m j k hm z)⟩ cT).elim
     ·rw[zt e]at hm;rw[zt e']at cT
      exact h6 m m' k hm cT
   ·by_cases e:m=j
    ·rw[e,zr]at hm
     exact⟨.inr hm,λz=>a3 l ⟨h3,λz=>(h7 j l z).2 rfl⟩ (z ▸ hm)⟩
    ·rw[zt e]at hm
     exact⟨.inl ⟨(h7 m k hm).1,λz=>e (h6 m j k hm z)⟩,(h7 m k hm).2⟩
 refine .ret S2 (k u) ⟨b_ mH de,rfl,q⟩ ⟨λk hk=>S.low s k (h7 j k hk).1,λk hk=>S.apart s k (h7 j k hk).1,λk hk m hm=>?_⟩ λk hk=>?_
 ·by_cases e:m=s
  ·subst e;rw[zr]at hm;exact hm.2 hk
  ·rw[zt e]at hm;exact e (S.two m s k hm (h7 j k hk).1)
 ·rcases hk with hk|⟨m,hm⟩
  ·exact⟨s,(h7 j k hk).1⟩
  ·by_cases e:m=s
   ·subst e;rw[zr]at hm;exact⟨m,hm.1⟩
   ·rw[zt e]at hm;exact⟨m,hm⟩
end
end X
end WL
end
section
namespace WL
namespace X
open PySem
open L2 (atI ixN eqV Key)
section
variable{δ κ A A' τ τ':Type}{V:VC A τ}{V':VC A' τ'}{d:Nat}{JE:δ->Ctx}{Γ:Ctx}{p:Res δ κ}{Cont:SA->Ctx->Res δ κ->Prop}{cV:Ctx×aw->Ctx->Res δ κ->Prop}{α β γ ν ν' ρ:Type}{r:RP α}{J:jc δ ν β ρ}{q:RF δ ν β ρ}
def lH(i:Nat) (a:SA):ZU->ZU
 |[]=>[(i,a)]
 |(k,b) :: r=>bif Vi k i then (k,a) :: r else (k,b) :: lH i a r
def Dn:List Nat->aw
 |[]=>aj
 |k :: r=>!r.contains k && Dn r
theorem I0{i k:Nat}{y:W}:∀fs:List (Nat×W),ZV k (Jy i y fs)=if k=i then ah y else ZV k fs
 |[]=>by
  unfold Jy ZV ZV
  by_cases h:i=k
  ·rw[aG h,aG h.symm]
  ·rw[aR h,aR (Ne.symm h)]
 |(j,x) :: fs=>by
  unfold Jy
  by_cases hj:j=i
  ·rw[aG hj]
   unfold ZV
   by_cases h:j=k
   ·rw[aG h,aG (h.symm.trans hj)]
   ·rw[aR h,aR (λz=>h (hj.trans z.symm)),aR h]
  ·rw[aR hj]
   unfold ZV
   by_cases h:j=k
   ·rw[aG h,aR (λz=>hj (h.trans z)),aG h]
   ·rw[aR h,aR h]
    exact I0 fs
theorem P7{i:Nat}{y:W}:∀fs:List (Nat×W),(Jy i y fs).length<=fs.length+1
 |[]=>bC _
 |(j,x) :: fs=>by
  unfold Jy
  split
  ·simp
  ·have:=P7 (i:=i) (y:=y) fs
   simp only[cq];omega
theorem P8{i:Nat}{y u:W}:∀fs:List (Nat×W),ZV i fs=ah u->(Jy i y fs).length=fs.length
 |[],h=>by cases h
 |(j,x) :: fs,h=>by
  unfold Jy
  by_cases hj:j=i
  ·rw[aG hj];rfl
  ·rw[aR hj]
   unfold ZV at h;rw[aR hj]at h;rw[cq,P8 fs h,cq]
theorem P9{i:Nat}{a:SA}:∀{fl:ZU},Dn (fl.map (·.1))=aj->∃n,n<=fl.length/\(lH i a fl)[n]? = ah (i,a)/\(∀m,m ≠ n->(lH i a fl)[m]? = fl[m]?)/\(∀m fa,m ≠ n->fl[m]? = ah fa->fa.1 ≠ i)/\((lH i a fl).length=fl.length+1/\n=fl.length\/(lH i a fl).length=fl.length/\∃b,fl[n]? = ah (i,b))
 |[],_=>⟨0,bC _,rfl,λm h=>by
   cases m with
   |zero=>exact br rfl h
   |succ m=>rfl,λm fa _ e=>by simp at e,.inl ⟨rfl,rfl⟩⟩
 |(k,b) :: r,h=>by
  unfold kg Dn at h;rw[dV]at h;unfold lH
  cases hk:Vi k i with
  |true=>
   have hk:=Nat.eq_of_beq_eq_true hk;subst hk;refine⟨0,aF _,rfl,λm hm=>?_,λm fa hm e z=>?_,.inr ⟨rfl,b,rfl⟩⟩
   ·cases m with
    |zero=>exact br rfl hm
    |succ m=>rfl
   ·cases m with
    |zero=>exact br rfl hm
    |succ m=>
     have e:r[m]? = ah fa:=by simpa using e
     have h1:=h.1;simp only[Vj,List.contains_eq_mem,UM]at h1;exact h1 (eR.mpr ⟨fa,di e,z⟩)
  |false=>
   have hk:=Nat.ne_of_beq_eq_false hk;obtain⟨n,h1,h2,h3,h4,h5⟩:=P9 (i:=i) (a:=a) (fl:=r) h.2;refine⟨n+1,by simp;omega,by simpa using h2,λm hm=>?_,λm fa hm e=>?_,?_⟩
   ·cases m with
    |zero=>rfl
    |succ m=>simpa using h3 m (by omega)
   ·cases m with
    |zero=>simp at e;subst e;exact hk
    |succ m=>exact h4 m fa (by omega) (by simpa using e)
   ·rcases h5 with⟨h5,h6⟩|⟨h5,b',h6⟩
    ·exact .inl ⟨by simp[h5],by simp[h6]⟩
    ·exact .inr ⟨by simp[h5],b',by simpa using h6⟩
theorem QU{i s:Nat}{e:ED}{rest:SD}(h:EX d J.E Γ e q λa Γ' q'=>∃(fl:ZU) (w0:W) (a':SA) (c:Nat),bW Γ' s=ah (iE c fl w0)/\a.le a'/\(Dn (fl.map (·.1)) && cy fl.length 50)=aj/\cy (eY (lH i a' fl)) d=aj/\SX d J (put Γ' s (iE c (lH i a' fl) w0)) rest q'):SX d J Γ (zB (l_ i (zf s) e) rest) q:=λσ g Fs R S=>by
 rw[Ir]
 have key:u6 (l_ i (zf s) e σ g) rest=(e σ g).fl σ λy g=>u6 ((zf s σ g).fl σ λx g=>match oY g x with
  |some (l,c,fs)=>if fs.length<100 then .nx σ (g.set l (.ins c (Jy i y fs))) else .bad
  |none=>.bad) rest:=by
  unfold l_
  cases e σ g <;> rfl
 rw[key];refine qB.fl (h σ g Fs R S) λa Γ1 y g1 F1 aP ⟨fl,w0,a',c,hs,hle,hf,de,k⟩ ra B1 S1 cG=>?_;rw[dV]at hf;have cR:=hs;rw[jQ]at cR;obtain⟨o,ho,e0,l,fs,Fa,h1,h2,h3,h4,h5,h6,h7⟩:=S1.get cR;subst e0 h1;have hlen:=gJ hf.2;have ev:zf s σ g1 = .ok (.ref l) g1:=by unfold zf;rw[ho]
 rw[ev]
 show jT d J (u6 (match oY g1 (.ref l) with
  |some (l,c,fs)=>if fs.length<100 then .nx σ (g1.set l (.ins c (Jy i y fs))) else .bad
  |none=>.bad) rest) g1 (jM F1 aP) R q
 simp only[oY,h2];rw[aG (by omega)];show jT d J (rest σ (g1.set l (.ins c (Jy i y fs)))) g1 (jM F1 aP) R q;obtain⟨n,p1,p2,p3,p4,p5⟩:=P9 (i:=i) (a:=a') hf.1;have P_:l<g1.length:=(bP.mp h2).1;have keep:∀k,k ≠ l->(g1.set l (.ins c (Jy i y fs)))[k]? = g1[k]?:=λk hk=>c5 (Ne.symm hk);have yH : ¬ F1 l:=λz=>B1.own l z s h3;have rk:∀k m,k<d->R k m->R k m/\(g1.set l (.ins c (Jy i y fs)))[m]? = g1[m]?:=λk m hk hr=>⟨hr,keep m λz=>S1.apart s l h3 k hk (z ▸ hr)⟩
 have BZ:zG d (λk=>k=l) (qX aP s aJ) g1 R:=⟨λk hk=>by cases hk;exact P_,λk hk j hj hr=>S1.apart s l h3 j hj (hk ▸ hr),λk hk j hj=>by
  by_cases e:j=s
  ·subst e;rw[zr]at hj;exact hj
  ·rw[zt e]at hj;cases hk;exact e (S1.two j s _ hj h3)⟩
 have S2:Sat d (put Γ1 s .any) σ g1 (qX aP s aJ) R:=by
  rw[j4];exact S1.pE .no ho (aF _) True.intro
 have S3:Sat d (put Γ1 s .any) σ (g1.set l (.ins c (Jy i y fs))) (qX aP s aJ) R:=S2.kX BZ (Fo:=aJ) ⟨by simp,λk _ hn=>keep k hn,λk h=>h.elim⟩;have e1:∀b:SA,put (put Γ1 s .any) s b=put Γ1 s b:=λb=>by rw[j4,j4,j4,EH]
 have lt:s<Γ1.length:=(bP.mp cR).1
 have new:sW c (lH i a' fl) (.ref l) (g1.set l (.ins c (Jy i y fs))) (λk=>aP s k\/F1 k) R:=by
  refine⟨l,Jy i y fs,qX Fa n F1,rfl,dU P_,.inl h3,?_,λm fa e=>?_,λm m' k hm cT=>?_,λm k hm=>?_⟩
  ·rcases p5 with⟨z,_⟩|⟨z,b,hb⟩
   ·have:=P7 (i:=i) (y:=y) fs;omega
   ·obtain⟨u,hu,_⟩:=h5 n _ hb
    rw[P8 fs hu,z];exact h4
  ·by_cases z:m=n
   ·subst z
    rw[p2]at e;cases e;refine⟨y,by rw[I0,aG rfl],?_⟩;rw[zr];have:=hle.to ra.2;have Cn:a'.lv<=d:=b_ hle.lv ra.1;exact a'.loc this (λk hk=>keep k λz=>yH (z ▸ hk)) λk m hk hr=>rk k m (by omega) hr
   ·rw[p3 m z]at e
    obtain⟨u,hu,q'⟩:=h5 m fa e;refine⟨u,by rw[I0,aR (p4 m fa z e)];exact hu,?_⟩;rw[zt z];have:eY fl<=d:=S1.eX s _ cR;exact fa.2.loc q' (λk hk=>keep k (h7 m k hk).2) λk m' hk hr=>rk k m' (cu hk (b_ (yP (di e)) this)) hr
  ·by_cases z:m=n
   ·by_cases z':m'=n
    ·rw[z,z']
    ·rw[z,zr]at hm;rw[zt z']at cT
     exact(B1.own k hm s (h7 m' k cT).1).elim
   ·by_cases z':m'=n
    ·rw[zt z]at hm;rw[z',zr]at cT
     exact(B1.own k cT s (h7 m k hm).1).elim
    ·rw[zt z]at hm;rw[zt z']at cT
     exact h6 m m' k hm cT
  ·by_cases z:m=n
   ·rw[z,zr]at hm;exact⟨.inr hm,λz=>yH (z ▸ hm)⟩
   ·rw[zt z]at hm;exact⟨.inl (h7 m k hm).1,(h7 m k hm).2⟩
 have S4:Sat d (put Γ1 s (iE c (lH i a' fl) (.ref l))) σ (g1.set l (.ins c (Jy i y fs))) (qX aP s λk=>aP s k\/F1 k) R:=by
  have:=S3.pE (i:=s) (a:=iE c (lH i a' fl) (.ref l)) (F:=λk=>aP s k\/F1 k) ⟨λk hk=>by simp;exact hk.elim (S1.low s k) (B1.low k),λk hk=>hk.elim (S1.apart s k) (B1.apart k),λk hk m hm=>?_⟩ ho (gJ de) ⟨rfl,new⟩
  ·rw[<- j4,e1]at this
   have e2:qX (qX aP s aJ) s (λk=>aP s k\/F1 k)=qX aP s λk=>aP s k\/F1 k:=by funext j;unfold qX;split <;> rfl
   rw[e2]at this;exact this
  ·by_cases e:m=s
   ·subst e;rw[zr]at hm;exact hm
   ·rw[zt e,zt e]at hm
    exact hk.elim (λz=>e (S1.two m s k hm z)) λz=>B1.own k z m hm
 refine jT.step ?_ (k σ _ _ R S4);refine⟨by simp,λk _ hn=>keep k λz=>hn (.inr ⟨s,z ▸ h3⟩),λk ⟨m,hm⟩=>.inl ?_⟩
 by_cases e:m=s
 ·subst e;rw[zr]at hm;exact hm.elim (λz=>.inr ⟨m,z⟩) .inl
 ·rw[zt e]at hm;exact .inr ⟨m,hm⟩
theorem QM{a:SA}{A:Ctx}{w:W}{ws:List W}{g F1 F2 R}(ha:vW.rel d a w g F1 R) (hA:vA.rel d A ws g F2 R) (no:∀l,F1 l -> ¬ F2 l):vA.rel d (a :: A) (w :: ws) g (λl=>F1 l\/F2 l) R:=by
 obtain⟨Fa,⟨h1,h2,h3⟩,h4⟩:=hA;refine⟨λi=>if i=0 then F1 else Fa (i - 1),⟨by simp[h1],λi b hb=>?_,λi j l hi hj=>?_⟩,λi l hi=>?_⟩
 ·cases i with
  |zero=>simp at hb;subst hb;exact⟨w,rfl,ha.1,ha.2⟩
  |succ i=>simpa using h2 i b (by simpa using hb)
 ·cases i with
  |zero=>
   cases j with
   |zero=>rfl
   |succ j=>exact(no l (by simpa using hi) (h4 j l (by simpa using hj))).elim
  |succ i=>
   cases j with
   |zero=>exact(no l (by simpa using hj) (h4 i l (by simpa using hi))).elim
   |succ j=>rw[h3 i j l (by simpa using hi) (by simpa using hj)]
 ·cases i with
  |zero=>exact .inl (by simpa using hi)
  |succ i=>exact .inr (h4 i l (by simpa using hi))
theorem Dq{g R}:vA.rel d [] [] g aJ R:=⟨λ_=>aJ,⟨rfl,λi a h=>by simp at h,λ_ _ _ h=>h.elim⟩,λ_ _ h=>h⟩
structure vf(d:Nat) (Γ:Ctx) (x:SA) (c:Nat):Prop where
 to:∀{σ g Fs R w F},Sat d Γ σ g Fs R->x.s (ah w) g F R->∃l fs,qP g w=ah (l,c,fs)
theorem JT{x:SA}{c n:Nat}{L:α->ZU}{v:α}(h:gA d Γ x (gY c n L) v):vf d Γ x c:=⟨λS q=>by
 obtain⟨F',_,l,fs,Fa,rfl,h2,_⟩:=h.to S q;exact⟨l,fs,by simp[qP,h2]⟩⟩
theorem Dr{c n:Nat}{L:α->ZU}{v:α}{w:W}:vf d Γ (pin (gY c n L) v w) c:=JT (IE Jv)
theorem Ds{dd:qf}{o:ED}{as:AD}{F:FN}(c:Nat) (hF:getD c dd=ah F) (h:EX d JE Γ o p λx Γ' q=>vf d Γ' x c/\AX d JE Γ' as q λA Γ'' q'=>FG d JE F (x :: A) Γ'' q' Cont):EX d JE Γ (Qf dd o as) p Cont:=λσ g Fs R S=>by
 refine qB.bind (h σ g Fs R S) λx Γa wx g1 F1 aP ⟨ht,c'⟩ rx B1 S1 cG=>?_;obtain⟨l,fs,e⟩:=ht.to S1 rx.2;rw[e];dsimp only;rw[hF];dsimp only;refine qB.wV (X:=F1) B1.low (c' σ g1 aP R S1) λA Γb ws g2 F2 aV c2 ry B2 S2 cO=>?_;have rL:aZ (Own aP) g1 (Own aV) g2:=cO.sub λl hl=>.inr hl;have no:∀l,F1 l -> ¬ F2 l:=λl h1 h2=>(cO.new l (.inl h2)).elim (λ⟨j,hj⟩=>B1.own l h1 j hj) λz=>br (B1.low l h1) (by omega);refine(c2 σ g2 aV R (wx :: ws) _ S2 (QM (vW.over rx (B1.same cO) λj l hj hl=>S1.rD cO j l hj hl) ry no) ((B1.over rL).both B2)).more λl hl=>?_;rcases hl with(hl|hl)|hl
 ·exact .inl hl
 ·exact .inr (.inl hl)
 ·exact .inr (.inr hl)
theorem Du{dd:qf}{c:Nat}{F:FN}{g:G}{x:W}{l:Nat}{fs}(hF:getD c dd=ah F) (e:qP g x=ah (l,c,fs)):gu dd g x=ah F:=by unfold gu;rw[e];exact hF
theorem Q_{g:G}{x:W}{l c:Nat}{fs}(e:qP g x=ah (l,c,fs)):(x = .ref l/\g[l]? = ah (.ins c fs))\/∃gM xE,x = .obj c gM xE:=by
 cases x with
 |ref k=>
  simp only[qP]at e
  split at e
  ·rename_i c' gM hk
   cases e;exact .inl ⟨rfl,hk⟩
  ·cases e
 |obj c' gM ws=>cases e;exact .inr ⟨_,_,rfl⟩
 |_=>cases e
theorem zkY{dd:qf}{c:Nat}{F:FN}{g:G}{x y:W}{l:Nat}{fs}(hF:getD c dd=ah F) (e:qP g x=ah (l,c,fs)):zS dd x y g=F [x,y] g:=by
 rcases Q_ e with⟨rfl,hg⟩|⟨gM,xE,rfl⟩
 ·simp only[zS,ql,hg,Zx,Du hF e]
 ·simp only[zS,ql,Zx,Du hF e]
theorem I9{dd:qf}{x y:SA}{F:FN}(c:Nat) (hF:getD c dd=ah F) (hc:vf d Γ x c) (h:FG d JE F [x,y] Γ p Cont):dC d JE (zS dd) x y Γ p Cont:=λσ g Fs R wx wy Fx Fy S hx hy Bx By no=>by
 obtain⟨l,fs,e⟩:=hc.to S hx.2;rw[zkY hF e];refine(h σ g Fs R [wx,wy] _ S (QM hx (QM hy Dq λl _ h=>h.elim) λl h1 h2=>h2.elim (no l h1) id) (Bx.both (By.sub λl hl=>hl.elim id λz=>z.elim))).more λl hl=>?_;rcases hl with(hl|hl|hl)|hl
 ·exact .inl hl
 ·exact .inr (.inl hl)
 ·exact hl.elim
 ·exact .inr (.inr hl)
theorem zqc{δf τ:Type}{c n:Nat}{f:FN}{A A0:Ctx}{pf:Res δf τ}{ow:List W}{post:W->τ->SA×Ctx}{pe:W->δf->Ctx}{fe:δf->δ}{k:τ->Res δ κ}{Γ':τ->Ctx}{nI:Nat}{LI:α->ZU}(get:τ->α) (outs:τ->Ctx) (outsE:δf->Ctx) (fx:∀w0,FX (zW (n+1) f) (iE c [] w0 :: A0) pf (w0 :: ow) (post w0) (pe w0)) (hp:∀w0 t,post w0 t=(own Jg (),pin (gY c nI LI) (get t) w0 :: outs t)) (hpe:∀w0 x,∃a,pe w0 x=a :: outsE x) (hI:nI=0) (hn:A0.length=n) (hA:mF d Γ A A0)
  (hr:∀t,QC d Γ (outs t) ow (Γ' t)) (hE:∀x,∃Γx,QC d Γ (outsE x) ow Γx/\Le Γx (JE (fe x))) (hk:∀t,Cont (own (gY c nI LI) (get t)) (Γ' t) (k t)):FG d JE (zW n (oW c f)) A Γ ((pf.on fe).bind k) Cont:=λσ g Fs R ws F S rA B=>by
 subst hI
 have len:ws.length=n:=by
  obtain⟨Fa,⟨h1,_⟩,_⟩:=rA;rw[h1,hA.get.1,hn]
 have S0:=vb S (.ins c []);have nb:=Qj (o:=.ins c []) S;have B0:zG d F Fs (g++[.ins c []]) R:=⟨λl hl=>by have:=B.low l hl;simp;omega,B.apart,B.own⟩
 have rA0:vA.rel d A ws (g++[.ins c []]) F R:=vA.over rA (λk hk=>cK (B.low k hk)) λj l hj hr=>cK (S.cB j l hj hr);obtain⟨F',O,Im,hF,hO,Io,Ip⟩:=hA.rel S0 rA0 B0
 have hOg:∀l,O l->l ≠ g.length:=λl hl z=>by
  rcases hO l hl with⟨i,hi⟩|h
  ·have:=S.low i l hi;omega
  ·have:=B.low l h;omega
 have BI:∀l,Own Fs l->l<(g++[GO.ins c []]).length:=λl ⟨i,hi⟩=>S0.low i l hi;have e0:zW n (oW c f) ws g=oW c f ws g:=by unfold zW;rw[aG len]
 have e1:oW c f ws g=match zW (n+1) f (.ref g.length :: ws) (g++[.ins c []]) with
   | .ok .non g'=>.ok (.ref g.length) g'
   | .ok _ _=>.bad
   | .ex c fs g=>.ex c fs g
   | .bad=>.bad:=by
  unfold oW zW;rw[aG (show(W.ref g.length :: ws).length=n+1 by simp[len])]
  all_goals rfl
 rw[e0,e1]
 have args:vA.rel 1 (iE c [] (.ref g.length) :: A0) (.ref g.length :: ws) (g++[.ins c []]) (λl=>one g.length l\/F' l) (glob d R O):=by
  refine QM ⟨aF _,rfl,g.length,[],λ_=>aJ,rfl,by simp,rfl,aF _,λj fa e=>by simp at e,λ_ _ _ h=>h.elim,λ_ _ h=>h.elim⟩ Im λl h1 h2=>by have h1:l=g.length:=h1;have:=B.low l (hF l h2);omega
 have out:=fx (.ref g.length) (.ref g.length :: ws) (g++[.ins c []]) _ (glob d R O) args (λl hl=>hl.elim (nb.low l) λz=>B0.low l (hF l z)) (λl ⟨_,h⟩=>h.elim (λ⟨i,hi,hr⟩=>S0.cB i l hi hr) λz=>(hO l z).elim (λ⟨i,hi⟩=>S0.low i l hi) (B0.low l)) λl hl ⟨_,h⟩=>h.elim (λ⟨i,hi,hr⟩=>hl.elim (λz=>nb.apart l z i hi hr) λz=>Ip l z i hi hr) λz=>hl.elim (λy=>hOg l z y) λy=>Io l y z;have up:∀{Fo:Ft}{g'},aZ (λl=>one g.length l\/F' l) (g++[.ins c []]) Fo g'->aZ F g Fo g':=λ{Fo g'} st=>⟨by have:=st.len;simp at this;omega,λl hl hn=>(st.keep l (by simp;omega) λz=>z.elim (λz=>by have z:l=g.length:=z;omega) λz=>hn (hF l z)).trans (cK hl),λl hl=>(st.new l hl).elim (λz=>z.elim (λz=>by have z:l=g.length:=z;exact .inr (by omega)) λz=>.inl (hF l z)) λz=>.inr (by simp at z;omega)⟩
 have new:∀{Fo:Ft}{g'},aZ F g Fo g'->(∀l,Fo l->l<g'.length)->zG d Fo Fs g' R:=λ{Fo g'} st low=>⟨low,λl hl j hj hr=>(st.new l hl).elim (λz=>B.apart l z j hj hr) λz=>br (S.cB j l hj hr) (by omega),
  λl hl i hi=>(st.new l hl).elim (λz=>B.own l z i hi) λz=>br (S.low i l hi) (by omega)⟩
 have Mv:∀l,Own Fs l->l<g.length:=λl ⟨i,hi⟩=>S.low i l hi;rcases out with rfl|⟨e,x,g',Fo,rfl,h6,h7,h8,st⟩|⟨t,w,g',F1,Fo,rfl,h6,h7,h8,h9,CW,st⟩
 ·exact .inl rfl
 ·have S2:=S.kX B (up st)
  obtain⟨Γx,hx,le⟩:=hE x;obtain⟨a,ha⟩:=hpe (.ref g.length) x;rw[ha]at h7;obtain⟨Fb,⟨b1,b2,b3⟩,b4⟩:=h7;obtain⟨aA,S3,nD⟩:=hx.sat S2 (F:=λl=>∃j,Fb (j+1) l) ⟨λj=>Fb (j+1),⟨by simpa using b1,λj a ha=>b2 (j+1) a (by simpa using ha),λi j l hi hj=>by have:=b3 _ _ l hi hj;omega⟩,λj l hj=>⟨j,hj⟩⟩ ((new (up st) h8).sub λl ⟨j,hj⟩=>b4 _ l hj);refine .inr (.inl ⟨e,fe x,g',aA,rfl,by rw[h6],S3.le le,?_⟩);exact((up st).rest Mv λl hl ⟨i,hi⟩=>B.own l hl i hi).sub λl hl=>(nD l hl).elim (λ⟨j,hj⟩=>.inl (b4 _ l hj)) .inr
 ·rw[hp]at h7 h8
  obtain⟨_,w',ew,hw⟩:=h7;cases ew;have hw:w = .non:=hw;subst hw;have S2:=S.kX B (up st);have Bn:=new (up st) h9;obtain⟨Fb,⟨b1,b2,b3⟩,b4⟩:=h8;obtain⟨wi,Ra,_,ei,qi⟩:=b2 0 _ rfl;simp at Ra;subst Ra;have Bi:zG d (Fb 0) Fs g' R:=Bn.sub λl hl=>.inr (b4 0 l hl);obtain⟨aA,S3,nD⟩:=(hr t).sat S2 (F:=λl=>∃j,Fb (j+1) l) ⟨λj=>Fb (j+1),⟨by simpa using b1,λj a ha=>b2 (j+1) a (by simpa using ha),λi j l hi hj=>by have:=b3 _ _ l hi hj;omega⟩,λj l hj=>⟨j,hj⟩⟩ (Bn.sub λl ⟨j,hj⟩=>.inr (b4 _ l hj));refine .inr (.inr ⟨_,Γ' t,.ref g.length,g',Fb 0,aA,hk t,by rw[h6],⟨aF _,_,rfl,(gY c 0 LI).loc qi (λ_ _=>rfl) λk l hk=>br hk (Nat.not_lt_zero _)⟩,⟨Bi.low,Bi.apart,λl hl i hi=>?_⟩,S3,?_⟩)
  ·rcases nD l ⟨i,hi⟩ with⟨j,hj⟩|⟨j,hj⟩
   ·have:=b3 _ _ l hl hj;omega
   ·exact Bi.own l hl j hj
  ·refine((up st).rest Mv λl hl ⟨i,hi⟩=>B.own l hl i hi).sub λl hl=>?_
   rcases hl with hl|hl
   ·exact .inl (.inr (b4 0 l hl))
   ·exact(nD l hl).elim (λ⟨j,hj⟩=>.inl (.inr (b4 _ l hj))) .inr
end
section
variable{δ κ A A' τ τ':Type}{V:VC A τ}{V':VC A' τ'}{d:Nat}{JE:δ->Ctx}{Γ:Ctx}{p:Res δ κ}{Cont:SA->Ctx->Res δ κ->Prop}{cV:Ctx×aw->Ctx->Res δ κ->Prop}{α β γ ν ν' ρ:Type}{r:RP α}{J:jc δ ν β ρ}{q:RF δ ν β ρ}
def vg(d:Nat) (J:jc δ ν β ρ) (f:W->W->W->G->Out ax) (x y a:SA) (Γ:Ctx) (q:RF δ ν β ρ) (rest:SD):Prop:=
 ∀σ g Fs R wx wy wa Fx Fy Fa,Sat d Γ σ g Fs R->vW.rel d x wx g Fx R->vW.rel d y wy g Fy R->vW.rel d a wa g Fa R->zG d Fx Fs g R->zG d Fy Fs g R->zG d Fa Fs g R->(∀l,Fx l -> ¬ Fy l)->(∀l,Fx l -> ¬ Fa l)->(∀l,Fy l -> ¬ Fa l) ->
  jT d J ((f wx wy wa g).fl σ λ_ g=>rest σ g) g (λl=>Fa l\/Fx l\/jM Fy Fs l) R q
theorem Jw{f:W->W->W->G->Out ax}{o i e:ED}{rest:SD}(h:EX d J.E Γ e q λa Γ1 q1=>EX d J.E Γ1 o q1 λx Γ2 q2=>EX d J.E Γ2 i q2 λy Γ3 q3=>vg d J f x y a Γ3 q3 rest):SX d J Γ (zB (zX e (Q5 f o i)) rest) q:=λσ g Fs R S=>by
 have key:zB (zX e (Q5 f o i)) rest σ g=(e σ g).fl σ λw g=>(o σ g).fl σ λx g=>(i σ g).fl σ λy g=>(f x y w g).fl σ λ_ g=>rest σ g:=by
  unfold zB zX Q5
  cases e σ g with
  |ok w g1=>
   dsimp only[Out.fl]
   cases o σ g1 with
   |ok x g2=>
    dsimp only[Out.fl,Out.bind]
    cases i σ g2 with
    |ok y g3=>
     dsimp only[Out.fl,Out.bind]
     cases f x y w g3 <;> rfl
    |_=>rfl
   |_=>rfl
  |_=>rfl
 rw[key];refine qB.fl (h σ g Fs R S) λa Γ1 wa g1 F1 aP c1 ra B1 S1 cG=>?_
 have FL:∀{F1:Ft}{g1:G}{aP:Rg}{a:SA}{wa:W}{F2:Ft}{aV:Rg}{g2:G}{Γ1:Ctx},Sat d Γ1 σ g1 aP R->vW.rel d a wa g1 F1 R->zG d F1 aP g1 R->aZ (Own aP) g1 (jM F2 aV) g2->vW.rel d a wa g2 F1 R/\zG d F1 aV g2 R/\∀l,F1 l -> ¬ F2 l:=λS1 ra B1 cO=>
  ⟨vW.over ra (B1.same cO) λj l hj hl=>S1.rD cO j l hj hl,B1.over (cO.sub λl hl=>.inr hl),λl h1 h2=>(cO.new l (.inl h2)).elim (λ⟨j,hj⟩=>B1.own l h1 j hj) λz=>br (B1.low l h1) (by omega)⟩
 have o2:=c1 σ g1 aP R S1;refine(jT.more (F0:=λl=>F1 l\/Own aP l) ?_ λl hl=>hl)
 have up:∀{A τ:Type}{V:VC A τ}{r1:Out τ}{k:τ->G->Fl}{g:G}{F0 X:Ft}{C1:A->Ctx->RF δ ν β ρ->Prop}(hX:∀l,X l->l<g.length) (h:qB V d J.E r1 σ g F0 R q C1),(∀a Γ' t g' F aA,C1 a Γ' q->V.rel d a t g' F R->zG d F aA g' R->Sat d Γ' σ g' aA R->aZ F0 g (jM F aA) g'->jT d J (k t g') g' (λl=>X l\/jM F aA l) R q)->jT d J (r1.fl σ k) g (λl=>X l\/F0 l) R q:=by
  intro A τ V r1 k g F0 X C1 hX h hk;rcases h with h|⟨e,x,g',aA,h1,h2,h3,h4⟩|⟨a,Γ',t,g',F,aA,h1,h2,h3,h4,h5,h6⟩
  ·exact .inl h
  ·exact .inr (.inl ⟨e,x,σ,g',aA,h1,by rw[h2];rfl,h3,h4.more λl hl=>.inr hl⟩)
  ·rw[h2]
   refine jT.step ?_ (hk a Γ' t g' F aA h1 h3 h4 h5 h6);exact⟨h6.len,λl hl hn=>h6.keep l hl λz=>hn (.inr z),λl hl=>hl.elim (λz=>.inl (.inl z)) λz=>(h6.new l z).imp .inr id⟩
 refine up B1.low o2 λx Γ2 wx g2 F2 aV c2 rx B2 S2 cO=>?_;obtain⟨C5,Rb,xi⟩:=FL S1 ra B1 cO;refine(jT.more (F0:=λl=>(F1 l\/F2 l)\/Own aV l) (up (λl hl=>hl.elim (Rb.low l) (B2.low l)) (c2 σ g2 aV R S2) λy Γ3 wy g3 F3 sS c3 ry B3 S3 nF=>?_) λl hl=>hl.elim (λz=>z.elim .inl λy=>.inr (.inl y)) λz=>.inr (.inr z));obtain⟨ra3,B13,uA⟩:=FL S2 C5 Rb nF;obtain⟨rx3,B23,n23⟩:=FL S2 rx B2 nF;refine(c3 σ g3 sS R wx wy wa F2 F3 F1 S3 rx3 ry ra3 B23 B3 B13 n23 (λl h1 h2=>xi l h2 h1) λl h1 h2=>uA l h2 h1).more λl hl=>?_;rcases hl with hl|hl|hl
 ·exact .inl (.inl hl)
 ·exact .inl (.inr hl)
 ·exact .inr hl
def nN{δ α:Type}(xs:List α) (i:Int) (v:α):Res δ (List α):=match ixN xs.length i with
 |some j=>.ok (xs.set j v)
 |none=>.bad
theorem zoQ{n:Nat}{i:Int}{j:Nat}(h:ixN n i=ah j):j<n:=by
 unfold ixN at h
 split at h
 ·split at h
  ·cases h;omega
  ·cases h
 ·split at h
  ·cases h;omega
  ·cases h
theorem Rc{dd:qf}{xs:List α}{v:α}{w1:W}{f:List α->SA}{L:Nat}{i:Int}{a:SA}{rest:SD}{k:List α->RF δ ν β ρ}(s:Nat) (hs:bW Γ s=ah (gy L (zd r) w1 f)) (hL:∀v,(f v).lv<=d) (ha:a.le (own r v)) (c:∀pH,SX d J (put Γ s (f pH)) rest (k pH)):vg d J (QB dd) (pin (zd r) xs w1) (own zg i) a Γ ((nN xs i v).bind k) rest:=
 λσ g Fs R wx wy wa Fx Fy Fv S hx hy hv Bx By Bv yQ iF yR=>by
  obtain⟨de,e0,l,ws,Fa,rfl,h2,h3,h4,h5,h6⟩:=hx;cases e0;obtain⟨_,w2,e2,q2⟩:=hy;cases e2;have q2:wy = .int i:=q2;subst q2;have hl:ws.length=xs.length:=by rw[h5.1,cf]
  have hv:=ha.to hv.2;obtain⟨_,ew,hv⟩:=hv;cases ew;unfold nN
  cases hj:ixN xs.length i with
  |none=>exact .inl rfl
  |some j=>
   have lt:=zoQ hj
   have e:QB dd (.ref l) (.int i) wa g = .ok () (g.set l (.lst (ws.set j wa))):=by
    simp only[QB,h2,hl,hj]
   rw[e];have h_:∀k,k ≠ l->(g.set l (.lst (ws.set j wa)))[k]? = g[k]?:=λk hk=>c5 (Ne.symm hk);have mH:∀j k,j<d->R j k->k ≠ l:=λj k hj hr z=>by subst z;exact Bx.apart k h3 j hj hr
   have de:r.lv<=d:=de
   have new:(zd r).r (xs.set j v) (.ref l) (g.set l (.lst (ws.set j wa))) (λk=>Fx k\/Fv k) R:=by
    refine⟨l,_,qX Fa j Fv,rfl,dU (bP.mp h2).1,.inl h3,by rw[lV];exact h4,⟨by simp[hl],λm b hm=>?_,λm m' k hm cT=>?_⟩,λm k hm=>?_⟩
    ·by_cases z:m=j
     ·subst z
      rw[Vk,dU (by simpa using lt)]at hm;cases hm;refine⟨wa,dU (by omega),wa,rfl,?_⟩;rw[zr];exact r.loc hv (λk hk=>h_ k λz=>iF l h3 (z ▸ hk)) λj k hj hr=>⟨hr,h_ k (mH j k (by omega) hr)⟩
     ·rw[Vk,c5 (Ne.symm z)]at hm
      obtain⟨u,hu,q'⟩:=h5.2.1 m b hm;refine⟨u,by rw[c5 (Ne.symm z)];exact hu,?_⟩;rw[zt z];rw[cC,mV]at hm;obtain⟨y,_,rfl⟩:=hm;exact(own r y).loc q' (λk hk=>h_ k (h6 m k hk).2) λj k hj hr=>⟨hr,h_ k (mH j k (cu hj de) hr)⟩
    ·by_cases z:m=j
     ·by_cases z':m'=j
      ·rw[z,z']
      ·rw[z,zr]at hm;rw[zt z']at cT
       exact(iF k (h6 m' k cT).1 hm).elim
     ·by_cases z':m'=j
      ·rw[zt z]at hm;rw[z',zr]at cT
       exact(iF k (h6 m k hm).1 cT).elim
      ·rw[zt z]at hm;rw[zt z']at cT
       exact h5.2.2 m m' k hm cT
    ·by_cases z:m=j
     ·rw[z,zr]at hm;exact⟨.inr hm,λy=>iF l h3 (y ▸ hm)⟩
     ·rw[zt z]at hm;exact⟨.inl (h6 m k hm).1,(h6 m k hm).2⟩
   obtain⟨aV,S2,h7,st⟩:=S.wrote (v':=xs.set j v) hs (hL _) Bx h3 Bv new;show jT d J (rest σ _) g _ R (k _);refine jT.step (st.more λl hl=>?_) (c _ σ _ aV R S2);rcases hl with hl|hl|hl
   ·exact .inr (.inl hl)
   ·exact .inl hl
   ·exact .inr (.inr (.inr hl))
def Jh{κ1 α:Type} [DecidableEq κ1] (k:κ1):List (κ1×α)->au α
 |[]=>ai
 |(j,x) :: r=>if j=k then ah x else Jh k r
def iG{κ1 α:Type} [DecidableEq κ1] (k:κ1) (v:α):List (κ1×α)->List (κ1×α)
 |[]=>[(k,v)]
 |(j,x) :: r=>if j=k then (j,v) :: r else (j,x) :: iG k v r
class Ks (κ1:Type) (e:κ1->W) where
 to:κ1->List Key
 at_:∀k,r9 (e k)=ah (to k)
 inj:∀a b,to a=to b->a=b
def kK{κ1:Type}(e:κ1->W) [K:Ks κ1 e] (f:α->W):RP (List (κ1×α)) where
 r:=λaS w g F R=>∃l,w = .ref l/\g[l]? = ah (.dT (aS.map λp=>(K.to p.1,f p.2)))/\F l/\fits aS.length=aj
 lv:=0
 loc:=λ⟨l,h1,h2,h3,h4⟩ e1 _=>⟨l,h1,by rw[e1 l h3];exact h2,h3,h4⟩
 wk:=λ⟨l,h1,h2,h3,h4⟩ e=>⟨l,h1,h2,e l h3,h4⟩
theorem I_{κ1:Type} [DecidableEq κ1] {e:κ1->W} [K:Ks κ1 e] {f:α->W}{k:κ1}:∀aS:List (κ1×α),k_ (K.to k) (aS.map λp=>(K.to p.1,f p.2))=(Jh k aS).map f
 |[]=>rfl
 |(j,x) :: r=>by
  show k_ (K.to k) ((K.to j,f x) :: _)=_;unfold k_ Jh
  by_cases h:j=k
  ·subst h;rw[aG rfl,aG rfl];rfl
  ·rw[aR (λz=>h (K.inj _ _ z)),aR h];exact I_ r
theorem Rf{κ1:Type} [DecidableEq κ1] {e:κ1->W} [K:Ks κ1 e] {f:α->W}{k:κ1}{v:α}:∀aS:List (κ1×α),Ji (K.to k) (f v) (aS.map λp=>(K.to p.1,f p.2))=(iG k v aS).map λp=>(K.to p.1,f p.2)
 |[]=>rfl
 |(j,x) :: r=>by
  show Ji (K.to k) (f v) ((K.to j,f x) :: _)=_;unfold Ji iG
  by_cases h:j=k
  ·subst h;rw[aG rfl,aG rfl];rfl
  ·rw[aR (λz=>h (K.inj _ _ z)),aR h,Rf r];rfl
def vh{δ κ1 α:Type} [DecidableEq κ1] (aS:List (κ1×α)) (k:κ1):Res δ α:=match Jh k aS with
 |some v=>.ok v
 |none=>.bad
theorem Rh{κ1:Type} [DecidableEq κ1] {dd:qf}{e:κ1->W} [K:Ks κ1 e] {f:α->W}:OpR (δ:=δ) (zS dd) (kK e f) (val e) (val f) vh:=⟨λ{aS k w1 w2 g F1 F2 R} ⟨l,h1,h2,h3,h4⟩ e2=>by
 subst h1;have e2:w2=e k:=e2;subst e2;unfold vh
 have:zS dd (.ref l) (e k) g=match (Jh k aS).map f with
  |some w=>.ok w g
  |none=>.bad:=by
  simp only[zS,ql,h2,Zx,K.at_,tR,I_]
  cases Jh k aS <;> rfl
 rw[this]
 cases Jh k aS with
 |none=>exact .inl rfl
 |some v=>exact .inr ⟨v,f v,aJ,rfl,rfl,rfl⟩⟩
theorem Ri{κ1:Type} [DecidableEq κ1] {dd:qf}{e:κ1->W} [K:Ks κ1 e] {f:α->W}:OpR (δ:=δ) (ZY dd) (val e) (kK e f) z8 (λk aS=>.ok (!(Jh k aS).isSome)):=⟨λ{k aS w1 w2 g F1 F2 R} e1 ⟨l,h1,h2,h3,h4⟩=>by
 subst h1;have e1:w1=e k:=e1;subst e1;refine .inr ⟨_,_,aJ,rfl,Pp ?_,rfl⟩;unfold nu;dsimp only;simp only[Q0,ql,h2,Zx,K.at_,tR,I_,Option.isSome_map]⟩
theorem J_{κ1:Type} [DecidableEq κ1] {k:κ1}{v:α}:∀aS:List (κ1×α),(iG k v aS).length<=aS.length+1
 |[]=>bC _
 |(j,x) :: r=>by
  unfold iG
  split
  ·simp
  ·have:=J_ (k:=k) (v:=v) r
   simp only[cq];omega
def Dw{δ κ1 α:Type} [DecidableEq κ1] (aS:List (κ1×α)) (k:κ1) (v:α):Res δ (List (κ1×α)):=aL (fits (aS.length+1)) (.ok (iG k v aS)) .bad
theorem zoR{κ1:Type} [DecidableEq κ1] {dd:qf}{e:κ1->W} [K:Ks κ1 e] {f:α->W}{aS:List (κ1×α)}{key:κ1}{v:α}{w1:W}{fn:List (κ1×α)->SA}{L:Nat}{a:SA}{rest:SD}{k:List (κ1×α)->RF δ ν β ρ}(s:Nat) (hs:bW Γ s=ah (gy L (kK e f) w1 fn)) (hL:∀v,(fn v).lv<=d) (ha:a.le (own (val f) v)) (c:∀pH,SX d J (put Γ s (fn pH)) rest (k pH)):vg d J (QB dd) (pin (kK e f) aS w1) (own (val e) key) a Γ ((Dw aS key v).bind k) rest:=
 λσ g Fs R wx wy wa Fx Fy Fv S hx hy hv Bx By Bv yQ iF yR=>by
  obtain⟨de,e0,l,rfl,h2,h3,h4⟩:=hx;cases e0;obtain⟨_,w2,e2,q2⟩:=hy;cases e2;have q2:wy=e key:=q2;subst q2;obtain⟨_,ew,hv⟩:=ha.to hv.2;cases ew;have hv:wa=f v:=hv;subst hv;unfold Dw
  cases hf:fits (aS.length+1) with
  |false=>exact .inl rfl
  |true=>
   have e:QB dd (.ref l) (e key) (f v) g = .ok () (g.set l (.dT ((iG key v aS).map λp=>(K.to p.1,f p.2)))):=by
    simp only[QB,h2,K.at_,cf,h4,lS,Rf]
   rw[e];have new:(kK _ f).r (iG key v aS) (.ref l) (g.set l (.dT ((iG key v aS).map λp=>(K.to p.1,f p.2)))) (λk=>Fx k\/aJ k) R:=⟨l,rfl,dU (bP.mp h2).1,.inl h3,yG hf (J_ aS)⟩
   obtain⟨aV,S2,h7,st⟩:=S.wrote (v':=iG key v aS) (F':=aJ) hs (hL _) Bx h3 .no new;show jT d J (rest σ _) g _ R (k _);refine jT.step (st.more λl hl=>?_) (c _ σ _ aV R S2);rcases hl with hl|hl|hl
   ·exact .inr (.inl hl)
   ·exact hl.elim
   ·exact .inr (.inr (.inr hl))
theorem ziZ{κ1:Type}{e:κ1->W} [K:Ks κ1 e] {f:α->W}(c:Cont (own (kK e f) []) Γ p):EX d JE Γ Hz p Cont:=λσ g Fs R S=>
 .inr (.inr ⟨_,Γ,_,_,one g.length,Fs,c,rfl,⟨aF _,_,rfl,g.length,rfl,by simp,rfl,rfl⟩,Qj S,vb S _,⟨by simp,λl hl _=>cK hl,λl hl=>hl.elim (λz=>by have z:l=g.length:=z;exact .inr (by omega)) .inl⟩⟩)
instance:Ks (ao×Int) (aB zC zm):=⟨λk=>[.inr k.1.1,.inl k.2],λ_=>rfl,λa b h=>by
 simp only[Bg.injEq,Sum.inr.injEq,Sum.inl.injEq,and_true]at h;exact Prod.ext (Subtype.ext h.1) h.2⟩
theorem Rj{dd:qf}{F:FN}{x y a:SA}{rest:SD}(c:Nat) (hF:getD c dd=ah F) (hc:vf d Γ x c) (h:FG d J.E F [x,y,a] Γ q λ_ Γ' q'=>SX d J Γ' rest q'):vg d J (QB dd) x y a Γ q rest:=
 λσ g Fs R wx wy wa Fx Fy Fv S hx hy hv Bx By Bv yQ iF yR=>by
  obtain⟨l,fs,e⟩:=hc.to S hx.2
  have key:((QB dd wx wy wa g).fl σ λ_ g=>rest σ g)=(F [wx,wy,wa] g).fl σ λ_ g=>rest σ g:=by
   rcases Q_ e with⟨rfl,hg⟩|⟨gM,xE,rfl⟩
   ·simp only[QB,hg,Du hF e]
    cases F [.ref l,wy,wa] g <;> rfl
   ·simp only[QB,Du hF e]
    cases F [.obj c gM xE,wy,wa] g <;> rfl
  rw[key];have rA:=QM hx (QM hy (QM hv Dq λl _ h=>h.elim) λl h1 h2=>h2.elim (yR l h1) id) λl h1 h2=>h2.elim (yQ l h1) λh2=>h2.elim (iF l h1) id;refine(qB.fl ((h σ g Fs R [wx,wy,wa] _ S rA (Bx.both (By.both (Bv.sub λl hl=>hl.elim id λz=>z.elim)))).more (F1:=λl=>Fv l\/Fx l\/jM Fy Fs l) λl hl=>?_) λa Γ1 w g1 F1 aP c ra B1 S1 cG=>(c _ g1 _ R S1).more λl h=>.inr h);rcases hl with(hl|hl|hl|hl)|hl
  ·exact .inr (.inl hl)
  ·exact .inr (.inr (.inl hl))
  ·exact .inl hl
  ·exact hl.elim
  ·exact .inr (.inr (.inr hl))
theorem Ka{c:Nat}{dM:List Nat}{as:AD}(h:AX d J.E Γ as q λA Γ' q'=>∃(ws:List W) (e:eW) (x:δ),J4 A ws/\ws.length=dM.length/\e=⟨c,(dM.zip ws).reverse⟩/\q' = .ex e x/\Le Γ' (J.E x)):SX d J Γ (ZZ c dM as) q:=λσ g Fs R S=>by
 show jT d J ((as σ g).fl σ λws g=>if ws.length=dM.length then .ex c (dM.zip ws).reverse σ g else .bad) g (Own Fs) R q;refine qB.fl (h σ g Fs R S) λA Γ1 ws g1 F1 aP ⟨us,e,x,hA,hl,he,eq,le⟩ ra B1 S1 cG=>?_;have:=hA.eq ra;subst this;rw[aG hl];exact .inr (.inl ⟨e,x,σ,g1,aP,eq,by rw[he],S1.le le,⟨bC _,λ_ _ _=>rfl,λl h=>.inl (.inr h)⟩⟩)
theorem Sat.BL{Γ:Ctx}{σ:Sg}{g Fs R}{i:Nat}{o:au W}(S:Sat d Γ σ g Fs R) (hi:bW Γ i=ah .any):∃aA,Sat d Γ (σ.set i o) g aA R/\∀l,Own aA l->Own Fs l:=by
 have:=S.rK (i:=i) (a:=.any) (o:=o) (F:=aJ) .no (aF _) True.intro;rw[jQ]at hi;rw[zkB hi]at this;refine⟨_,this,λl ⟨j,hj⟩=>?_⟩
 by_cases e:j=i
 ·subst e;rw[zr]at hj;exact hj.elim
 ·rw[zt e]at hj;exact⟨j,hj⟩
def vj{δ:Type}(tab:List (Nat×aw)) (e:eW):Res δ aw:=match fE e.c tab with
 |some b=>.ok b
 |none=>.bad
theorem Dx{tab:List (Nat×aw)}{e:eW}:av (δ:=δ) d Γ (nz e.c tab) z8 (vj tab e):=λσ g Fs R S=>by
 unfold vj nz
 cases fE e.c tab with
 |none=>exact .inl rfl
 |some b=>exact .inr ⟨b,.bl b,aJ,rfl,rfl,rfl⟩
def kL{δ α:Type}(of:W->au α) (ok:List Nat) (i:Nat) (e:eW):Res δ α:=aL (ok.contains e.c) (match (ZV i e.fs).bind of with
 |some v=>.ok v
 |none=>.bad) .bad
theorem vk{ok:List Nat}{i:Nat}{e:eW}{f:α->W}(of:W->au α) (h:∀w v,of w=ah v->w=f v):av (δ:=δ) d Γ (lz e.c ok i e.fs) (val f) (kL of ok i e):=λσ g Fs R S=>by
 unfold kL lz
 cases ok.contains e.c with
 |false=>exact .inl rfl
 |true=>
  cases hw:ZV i e.fs with
  |none=>exact .inl rfl
  |some w=>
   cases hv:of w with
   |none=>exact .inl (by dsimp only[EJ];rw[hv];rfl)
   |some v=>exact .inr ⟨v,w,aJ,by dsimp only[EJ];rw[hv];rfl,rfl,h w v hv⟩
def nO:W->au Int
 | .int i=>ah i
 |_=>ai
theorem Dy:∀w v,nO w=ah v->w=zm v:=λw v h=>by cases w <;> first|(cases h;done)|skip;cases h;rfl
def J5(w:W):au ao:=match w with
 | .str s=>if h:PyData.strOk s=aj then ah ⟨s,h⟩ else ai
 |_=>ai
theorem Rk:∀w v,J5 w=ah v->w=zC v:=λw v h=>by
 unfold J5 at h
 split at h
 ·split at h
  ·cases h;rfl
  ·cases h
 ·cases h
end
section
variable{δ κ A A' τ τ':Type}{V:VC A τ}{V':VC A' τ'}{d:Nat}{JE:δ->Ctx}{Γ:Ctx}{p:Res δ κ}{Cont:SA->Ctx->Res δ κ->Prop}{cV:Ctx×aw->Ctx->Res δ κ->Prop}{α β γ ν ν' ρ:Type}{r:RP α}{J:jc δ ν β ρ}{q:RF δ ν β ρ}
theorem Q8{f:α->W}{xs:List α}{σ:Sg}{g:G}{Fs R}{F0:Ft}(S:Sat d Γ σ g Fs R) (hf:fits xs.length=aj) (c:Cont (own (zd (val f)) xs) Γ p) (h0:∀l,Own Fs l->F0 l):qB vW d JE (.ok (.ref g.length) (g++[.lst (xs.map f)])) σ g F0 R p Cont:=
 .inr (.inr ⟨_,Γ,_,_,one g.length,Fs,c,rfl,⟨aF _,_,rfl,jh.mpr ⟨g.length,rfl,by simp,rfl,hf⟩⟩,Qj S,vb S _,⟨by simp,λl hl _=>cK hl,λl hl=>hl.elim (λz=>by have z:l=g.length:=z;exact .inr (by omega)) λz=>.inl (h0 l z)⟩⟩)
theorem zm4{a:SA}{f:α->W}{xs:List α}(h:gA d Γ a (zd (val f)) xs) (c:Cont (own (zd (val f)) xs) Γ p):FG d JE JA [a] Γ p Cont:=λσ g Fs R ws F S rA B=>by
 obtain⟨w,rfl,q⟩:=yF rA;obtain⟨F',q'⟩:=h.to S q.2;obtain⟨l,rfl,h2,h3,h4⟩:=jh.mp q';have e:JA [.ref l] g = .ok (.ref g.length) (g++[.lst (xs.map f)]):=by simp only[JA,Q0,ql,h2]
 rw[e];exact Q8 S h4 c λl hl=>.inr hl
theorem zgW{xs:List Int}{k:ax->Res δ κ}(c:Cont (own (zd zg) xs) Γ (k ())):FG d JE JA [own ZT xs] Γ ((f6 (fits xs.length)).bind k) Cont:=λσ g Fs R ws F S rA B=>by
 obtain⟨w,rfl,_,w',e,q⟩:=yF rA;cases e;have q:w = .eH xs:=q;subst q
 cases hf:fits xs.length with
 |false=>exact .inl rfl
 |true=>exact Q8 (f:=zm) S hf c λl hl=>.inr hl
def Qe{α:Type}(xs:List α) (lo hi:au Int):List α:=(xs.drop (HT.sIx xs.length 0 lo)).take (HT.sIx xs.length xs.length hi - HT.sIx xs.length 0 lo)
theorem Rl{f:α->W}{xs:List α}{lo hi}:kB (xs.map f) lo hi=(Qe xs lo hi).map f:=by
 unfold kB Qe;rw[cf,LX,List.map_drop]
theorem Rm{xs:List α}{lo hi}:(Qe xs lo hi).length<=xs.length:=by
 unfold Qe;rw[mY,oA];omega
def dD{δ:Type}(d:Nat) (Γ:Ctx) (m:au ED) (res:Res δ (au Int)):Prop:=
 ∀σ g Fs R,Sat d Γ σ g Fs R->res = .bad\/∃v,res = .ok v/\xJ m σ g = .ok v g
theorem po_none:dD (δ:=δ) d Γ ai (.ok ai):=λσ g Fs R S=>.inr ⟨ai,rfl,rfl⟩
theorem po_some{m:ED}{res:Res δ Int}(h:av d Γ m zg res):dD d Γ (ah m) (res.bind λi=>.ok (ah i)):=λσ g Fs R S=>by
 rcases h σ g Fs R S with rfl|⟨v,w,F,rfl,e,q⟩
 ·exact .inl rfl
 ·have q:w = .int v:=q
  subst q;exact .inr ⟨ah v,rfl,by unfold xJ;dsimp only;rw[e];rfl⟩
theorem dD.eq{m:au ED}{res ie:Res δ (au Int)}(h:dD d Γ m res) (e:res=ie):dD d Γ m ie:=e ▸ h
theorem zkZ{a:ED}{lo hi:au ED}(h:EX d JE Γ a p λx Γ' q=>∃(τ1:Type) (f:τ1->W) (xs:List τ1) (pl ph:Res δ (au Int)) (k:List τ1->Res δ κ),gA d Γ' x (zd (val f)) xs/\dD d Γ' lo pl/\dD d Γ' hi ph/\q=(pl.bind λl=>ph.bind λu=>.ok (Qe xs l u)).bind k/\∀v,Cont (own (zd (val f)) v) Γ' (k v)):EX d JE Γ (Q3 a lo hi) p Cont:=λσ g Fs R S=>
 qB.bind (h σ g Fs R S) λx Γ1 w g1 F1 aP ⟨τ1,f,xs,pl,ph,k,hr,hl,hh,e,c⟩ ra B1 S1 cG=>by
  subst e;rcases hl σ g1 aP R S1 with rfl|⟨l,rfl,e1⟩
  ·exact .inl rfl
  ·rcases hh σ g1 aP R S1 with rfl|⟨u,rfl,e2⟩
   ·exact .inl rfl
   ·obtain⟨F',q'⟩:=hr.to S1 ra.2
    obtain⟨m,rfl,h2,h3,h4⟩:=jh.mp q';rw[e1];dsimp only[Out.bind];rw[e2];have e:uP (.ref m) l u g1 = .ok (.ref g1.length) (g1++[.lst ((Qe xs l u).map f)]):=by simp only[uP,ql,h2,Rl]
    dsimp only[Out.bind];rw[e];exact Q8 S1 (yG h4 Rm) (c _) λl hl=>.inr hl
def Q9{δ α:Type}(xs ys:List α):Res δ (List α):=aL (fits (xs.length+ys.length)) (.ok (xs++ys)) .bad
theorem sX{x y:SA}{f:α->W}{xs ys:List α}{k:List α->Res δ κ}(h1:gA d Γ x (zd (val f)) xs) (h2:gA d Γ y (zd (val f)) ys) (c:∀v,Cont (own (zd (val f)) v) Γ (k v)):dC d JE ZD x y Γ ((Q9 xs ys).bind k) Cont:=λσ g Fs R wx wy Fx Fy S hx hy Bx By _=>by
 obtain⟨F1,q1⟩:=h1.to S hx.2;obtain⟨F2,q2⟩:=h2.to S hy.2;obtain⟨l,rfl,a2,a3,a4⟩:=jh.mp q1;obtain⟨m,rfl,b2,b3,b4⟩:=jh.mp q2;unfold Q9
 cases hf:fits (xs.length+ys.length) with
 |false=>exact .inl rfl
 |true=>
  have e:ZD (.ref l) (.ref m) g = .ok (.ref g.length) (g++[.lst ((xs++ys).map f)]):=by
   simp only[ZD,ql,a2,b2,cf,a4,b4,Vh,lS,BA]
  rw[e];exact Q8 S (by rw[dw];exact hf) (c _) λl hl=>.inr (.inr hl)
theorem zoS{a b:Str}(ha:PyData.strOk a=aj) (hb:PyData.strOk b=aj):PyData.strOk (a++b)=aj:=by
 unfold PyData.strOk at *;show(a.cps++b.cps).all _=aj;rw[Array.all_append,ha,hb];rfl
def ao.app(a b:ao):ao:=⟨a.1++b.1,zoS a.2 b.2⟩
def yS{δ:Type}(a b:ao):Res δ ao:=aL (fits a.1.length && fits b.1.length) (.ok (a.app b)) .bad
theorem zm5:OpR (δ:=δ) ZD zp zp zp yS:=⟨λ{a b w1 w2 g F1 F2 R} e1 e2=>by
 have e1:w1 = .str a.1:=e1;have e2:w2 = .str b.1:=e2;subst e1 e2;unfold yS
 cases hf:fits a.1.length && fits b.1.length with
 |false=>exact .inl rfl
 |true=>exact .inr ⟨_,.str (a.1++b.1),aJ,rfl,by simp only[ZD,hf,lS],rfl⟩⟩
def mJ{δ:Type}(s:ao) (i:Int):Res δ ao:=aL (fits s.1.length) (zY (Qh s) i) .bad
theorem Kb{dd:qf}:OpR (δ:=δ) (zS dd) zp zg zp mJ:=⟨λ{s i w1 w2 g F1 F2 R} e1 e2=>by
 have e1:w1 = .str s.1:=e1;have e2:w2 = .int i:=e2;subst e1 e2;unfold mJ
 cases hf:fits s.1.length with
 |false=>exact .inl rfl
 |true=>
  show zY (Qh s) i = .bad\/_
  have e:zS dd (.str s.1) (.int i) g=match atI s.1.cps.toList i with
    |some c=>.ok (.str ⟨#[c]⟩) g
    |none=>.bad:=by simp only[zS,hf,lS] <;> rfl
  rw[e]
  have hm:∀(l:List Nat) (h:∀c∈l,PyData.strOk ⟨#[c]⟩=aj),atI (l.attach.map λc=>(⟨⟨#[c.1]⟩,h c.1 c.2⟩:ao)) i=(atI l.attach i).map λc=>⟨⟨#[c.1]⟩,h c.1 c.2⟩:=λl h=>by
   unfold atI;rw[cf]
   cases ixN l.attach.length i with
   |none=>rfl
   |some j=>dsimp only[EJ];rw[cC]
  have ha:∀l:List Nat,atI l i=(atI l.attach i).map (·.1):=λl=>by
   unfold atI;rw[List.length_attach]
   cases ixN l.length i with
   |none=>rfl
   |some j=>
    show l[j]? = (l.attach[j]?).map (·.1);rw[<- cC,LW]
  unfold zY Qh;rw[hm _ (IK s.2),ha]
  cases atI s.1.cps.toList.attach i with
  |none=>exact .inl rfl
  |some c=>exact .inr ⟨_,_,aJ,rfl,rfl,rfl⟩⟩
theorem zi0{g:G}{l:Nat}{ws:List W}(h:g[l]? = ah (.lst ws)):qP g (.ref l)=ai:=by simp[qP,h]
end
end X
end WL
end
section
namespace WL
namespace X
open PySem
open L2 (atI ixN eqV Key)
variable{δ κ A A' τ τ':Type}{V:VC A τ}{V':VC A' τ'}{d:Nat}{JE:δ->Ctx}{Γ:Ctx}{p:Res δ κ}{Cont:SA->Ctx->Res δ κ->Prop}{cV:Ctx×aw->Ctx->Res δ κ->Prop}{α β γ ν ν' ρ:Type}{r:RP α}{J:jc δ ν β ρ}{q:RF δ ν β ρ}
theorem Kc{a b c:SD}(h:SX d J Γ (zB a (zB b c)) q):SX d J Γ (zB (zB a b) c) q:=by rw[ziU];exact h
theorem jG{c:SD}(h:SX d J Γ c q):SX d J Γ (zB qy c) q:=h
theorem j8{t:TD}{a b c:SD}(h:TX d J.E Γ t q λx Γ' q'=>∃pa pb,q'=aL x pa pb/\SX d J Γ' (zB a c) pa/\SX d J Γ' (zB b c) pb):SX d J Γ (zB (bH t a b) c) q:=λσ g Fs R S=>by
 have e:zB (bH t a b) c σ g=(t σ g).fl σ λx g=>if x then zB a c σ g else zB b c σ g:=by
  unfold zB bH
  cases t σ g with
  |ok x g=>cases x <;> rfl
  |_=>rfl
 rw[e];refine qB.fl (h σ g Fs R S) λx Γ1 w g1 F1 aP ⟨pa,pb,e,ha,hb⟩ ra B1 S1 cG=>?_;have ra:x=w:=ra;subst ra;subst e
 cases x with
 |true=>exact(ha σ g1 aP R S1).more λl h=>.inr h
 |false=>exact(hb σ g1 aP R S1).more λl h=>.inr h
def Ends(m:SD):Prop:=∀σ g σ' g',m σ g ≠ .nx σ' g'
theorem zk2{m c:SD}(h:Ends m):zB m c=m:=by
 funext σ g
 unfold zB
 split
 ·rename_i σ1 g1 e;exact br e (h σ g σ1 g1)
 ·rfl
theorem zk3{e:ED}:Ends (Zm e):=λσ g σ' g'=>by unfold Zm;cases e σ g <;> exact nofun
theorem zgX{c:Nat}{f:List Nat}{a:AD}:Ends (ZZ c f a):=λσ g σ' g'=>by
 unfold ZZ
 cases a σ g with
 |ok ws g=>show(if ws.length=f.length then _ else _) ≠ _;split <;> exact nofun
 |_=>exact nofun
theorem Rn{m c:SD}(h:Ends m) (k:SX d J Γ m q):SX d J Γ (zB m c) q:=by rw[zk2 h];exact k
theorem QN{e:ED}{c:SD}(h:EX d J.E Γ e q λa Γ' q'=>∃t,q' = .ok (.rt t)/\O9 a (J.post t).1/\gV Γ' (J.post t).2 J.ow):SX d J Γ (zB (Zm e) c) q:=Rn zk3 (jC h)
theorem Zd{k:Nat}{dM:List Nat}{as:AD}{c:SD}(h:AX d J.E Γ as q λA Γ' q'=>∃(ws:List W) (e:eW) (x:δ),J4 A ws/\ws.length=dM.length/\e=⟨k,(dM.zip ws).reverse⟩/\q' = .ex e x/\Le Γ' (J.E x)):SX d J Γ (zB (ZZ k dM as) c) q:=Rn zgX (Ka h)
theorem Kd{f:F2}{a b:ED}{r1:RP α}{r3:RP γ}{pa:Res δ α}{h:α->γ}{w:W}(hb:b=eC w) (hf:∀v w1 g F R,r1.r v w1 g F R->∃w3 F3,f w1 w g = .ok w3 g/\r3.r (h v) w3 g F3 R) (ha:av d Γ a r1 pa):av d Γ (zw f a b) r3 (pa.bind λv=>.ok (h v)):=λσ g Fs R S=>by
 subst hb;rcases ha σ g Fs R S with rfl|⟨v,w1,F1,rfl,e1,q1⟩
 ·exact .inl rfl
 ·obtain⟨w3,F3,e,q⟩:=hf v w1 g F1 R q1
  exact .inr ⟨_,w3,F3,rfl,by unfold zw eC;rw[e1];exact e,q⟩
theorem Ke{a:ED}{j:Int}{pa:Res δ Int}(h:0<j/\j<2 ^ 100) (ha:av d Γ a zg pa):av d Γ (zw lg a (eC (.int j))) zg (pa.bind λv=>.ok (v / j)):=Kd rfl (λv w1 g F R e=>⟨.int (v / j),aJ,by rw[show w1 = .int v from e];simp only[lg];rw[aG h],rfl⟩) ha
theorem Kf{a:ED}{j:Int}{pa:Res δ Int}(h:0<j) (ha:av d Γ a zg pa):av d Γ (zw il a (eC (.int j))) zg (pa.bind λv=>.ok (v % j)):=Kd rfl (λv w1 g F R e=>⟨.int (v % j),aJ,by rw[show w1 = .int v from e];simp only[il];rw[aG h],rfl⟩) ha
theorem zm6{a:ED}{j:Int}{pa:Res δ Int}(h : -(2 ^ 64)<j/\j<2 ^ 64) (ha:av d Γ a zg pa):av d Γ (zw gq a (eC (.int j))) zg (pa.bind λv=>.ok (v * j)):=Kd rfl (λv w1 g F R e=>⟨.int (v * j),aJ,by rw[show w1 = .int v from e];simp only[gq];rw[aG (.inr h)],rfl⟩) ha
theorem Kg{i j z:Int}(h:(0<=j/\j<=1000/\i.natAbs<2 ^ 64)/\i ^ j.toNat=z):av (δ:=δ) d Γ (zw nq (eC (.int i)) (eC (.int j))) zg (.ok z):=λσ g Fs R S=>.inr ⟨z,.int z,aJ,rfl,by unfold zw eC;dsimp only[Out.bind];simp only[nq];rw[aG h.1,h.2],rfl⟩
def pN:Ctx->Nat
 |[]=>0
 |a :: Γ=>max a.lv (pN Γ)
theorem Dz:∀{Γ:Ctx}{a:SA},a∈Γ->a.lv<=pN Γ
 |b :: Γ,a,h=>by
  unfold pN;rcases cJ.mp h with e|e
  ·subst e;omega
  ·have:=Dz e;omega
def Kh(fl:Ctx) (w:W) (g:G) (F:Ft) (R:Rg):Prop:=
 ∃l ws,∃Fa:Rg,w = .ref l/\g[l]? = ah (.lst ws)/\F l/\AE fl ws g Fa R/\∀i k,Fa i k->F k/\k ≠ l
theorem zk5{fl:Ctx}{w:W}{g g':G}{F:Ft}{R R':Rg}(h:Kh fl w g F R) (e1:∀l,F l->g'[l]? = g[l]?) (e2:∀k l,k<pN fl->R k l->R' k l/\g'[l]? = g[l]?):Kh fl w g' F R':=by
 obtain⟨l,ws,Fa,h1,h2,h3,h5,h6⟩:=h;exact⟨l,ws,Fa,h1,by rw[e1 l h3];exact h2,h3,h5.loc (n:=pN fl) (λa ha=>Dz ha) (λi k hk=>e1 k (h6 i k hk).1) e2,h6⟩
def zi1(n:Nat) (L:α->Ctx):RP α where
 r:=λv w g F R=>pN (L v)<=n/\Kh (L v) w g F R
 lv:=n
 loc:=λ⟨h,q⟩ e1 e2=>⟨h,zk5 q e1 λk l hk=>e2 k l (by omega)⟩
 wk:=λ⟨h,l,ws,Fa,h1,h2,h3,h5,h6⟩ e=>⟨h,l,ws,Fa,h1,h2,e l h3,h5,λi k hk=>⟨e k (h6 i k hk).1,(h6 i k hk).2⟩⟩
theorem Ja{dd:qf}{n:Nat}{L:α->Ctx}{a:ED}{pa:Res δ α}{rf:RP β}(j:Nat) (get:α->β) (h:∀v,(L v)[j]? = ah (own rf (get v))) (ha:av d Γ a (zi1 n L) pa):av d Γ (zw (zS dd) a (eC (.int (j:Nat)))) rf (pa.bind λv=>.ok (get v)):=λσ g Fs R S=>by
 rcases ha σ g Fs R S with rfl|⟨v,w,F,rfl,e,hl,l,ws,Fa,h1,h2,h3,h5,h6⟩
 ·exact .inl rfl
 ·subst h1
  obtain⟨u,hu,w',e',q⟩:=h5.2.1 j _ (h v);cases e';refine .inr ⟨_,u,_,rfl,?_,q⟩;unfold zw eC;rw[e];dsimp only[Out.bind];have:zS dd (.ref l) (.int (j:Nat)) g=Qg ws (.int (j:Nat)) g:=by simp only[zS,ql,h2]
  rw[this];unfold Qg atI ixN;dsimp only;have lt:=(bP.mp hu).1;rw[aG (by omega),aG (by omega)];simp[hu]
theorem DA{dd:qf}{n:Nat}{L:α->Ctx}{v:α}{w1:W}{f:α->SA}{L0:Nat}{a:SA}{rest:SD}(s j:Nat) (v':α) (b:SA) (hs:bW Γ s=ah (gy L0 (zi1 n L) w1 f)) (hL:∀v,(f v).lv<=d) (ha:a.le b) (hj:j<(L v).length) (hv:L v'=(L v).set j b) (hn:pN (L v')<=n) (c:SX d J (put Γ s (f v')) rest q):vg d J (QB dd) (pin (zi1 n L) v w1) (own zg (j:Nat)) a Γ q rest:=
 λσ g Fs R wx wy wa Fx Fy Fv S hx hy Ro Bx By Bv yQ iF yR=>by
  obtain⟨de,e0,N5,l,ws,Fa,rfl,h2,h3,h5,h6⟩:=hx;cases e0;obtain⟨_,w2,e2,q2⟩:=hy;cases e2;have q2:wy = .int (j:Nat):=q2;subst q2;have VU:=ha.to Ro.2;have hlw:ws.length=(L v).length:=h5.1
  have e:QB dd (.ref l) (.int (j:Nat)) wa g = .ok () (g.set l (.lst (ws.set j wa))):=by
   have:ixN ws.length (j:Nat)=ah j:=by unfold ixN;rw[aG (by omega),aG (by omega)];simp
   simp only[QB,h2,this]
  rw[e];have h_:∀k,k ≠ l->(g.set l (.lst (ws.set j wa)))[k]? = g[k]?:=λk hk=>c5 (Ne.symm hk);have mH:∀j k,j<d->R j k->k ≠ l:=λj k hj hr z=>by subst z;exact Bx.apart k h3 j hj hr
  have de:n<=d:=de;have hbl:b.lv<=d:=b_ ha.lv Ro.1
  have new:(zi1 n L).r v' (.ref l) (g.set l (.lst (ws.set j wa))) (λk=>Fx k\/Fv k) R:=by
   refine⟨hn,l,_,qX Fa j Fv,rfl,dU (bP.mp h2).1,.inl h3,?_,λm k hm=>?_⟩
   ·rw[hv]
    refine⟨by simp[hlw],λm b' hm=>?_,λm m' k hm cT=>?_⟩
    ·by_cases z:m=j
     ·subst z
      rw[dU hj]at hm;cases hm;refine⟨wa,dU (by omega),?_⟩;rw[zr];exact b.loc VU (λk hk=>h_ k λz=>iF l h3 (z ▸ hk)) λj k hj hr=>⟨hr,h_ k (mH j k (by omega) hr)⟩
     ·rw[c5 (Ne.symm z)]at hm
      obtain⟨u,hu,q'⟩:=h5.2.1 m b' hm;refine⟨u,by rw[c5 (Ne.symm z)];exact hu,?_⟩;rw[zt z];exact b'.loc q' (λk hk=>h_ k (h6 m k hk).2) λj k hj hr=>⟨hr,h_ k (mH j k (by have:=Dz (di hm);omega) hr)⟩
    ·by_cases z:m=j
     ·by_cases z':m'=j
      ·rw[z,z']
      ·rw[z,zr]at hm;rw[zt z']at cT
       exact(iF k (h6 m' k cT).1 hm).elim
     ·by_cases z':m'=j
      ·rw[zt z]at hm;rw[z',zr]at cT
       exact(iF k (h6 m k hm).1 cT).elim
      ·rw[zt z]at hm;rw[zt z']at cT
       exact h5.2.2 m m' k hm cT
   ·by_cases z:m=j
    ·rw[z,zr]at hm;exact⟨.inr hm,λy=>iF l h3 (y ▸ hm)⟩
    ·rw[zt z]at hm;exact⟨.inl (h6 m k hm).1,(h6 m k hm).2⟩
  obtain⟨aV,S2,h7,st⟩:=S.wrote (v':=v') hs (hL _) Bx h3 Bv new;show jT d J (rest σ _) g _ R q;refine jT.step (st.more λl hl=>?_) (c σ _ aV R S2);rcases hl with hl|hl|hl
  ·exact .inr (.inl hl)
  ·exact .inl hl
  ·exact .inr (.inr (.inr hl))
theorem zoU{as:AD}{n:Nat}{L:α->Ctx}(h:AX d JE Γ as p λA Γ' q=>∃v:α,Le A (L v)/\fits A.length=aj/\pN (L v)<=n/\n<=d/\Cont (own (zi1 n L) v) Γ' q):EX d JE Γ (jA as) p Cont:=λσ g Fs R S=>
 qB.bind (h σ g Fs R S) λA Γ1 ws g1 F1 aP ⟨v,ha,hf,hl,hn,c⟩ rA B1 S1 cG=>by
  obtain⟨Fa,⟨h1,h2,h3⟩,h4⟩:=rA;rw[h1,aG hf];have S2:=vb S1 (.lst ws);have nb:=Qj (o:=.lst ws) S1;have B2:zG d F1 aP (g1++[.lst ws]) R:=⟨λl hl=>by have:=B1.low l hl;simp;omega,B1.apart,B1.own⟩
  refine .inr (.inr ⟨_,Γ1,_,_,λl=>F1 l\/one g1.length l,aP,c,rfl,⟨hn,_,rfl,hl,g1.length,ws,Fa,rfl,by simp,.inr rfl,⟨h1.trans ha.len,λi b e=>?_,h3⟩,λi k hk=>⟨.inl (h4 i k hk),λz=>by have:=B1.low k (h4 i k hk);omega⟩⟩,B2.both nb,S2,⟨by simp,λl hl _=>by rw[cK hl],λl hl=>?_⟩⟩)
  ·obtain⟨a,ea,le⟩:=ha.get e
   obtain⟨w,hw,de,q⟩:=h2 i a ea;refine⟨w,hw,b.loc (le.to q) (λk hk=>cK (B1.low k (h4 i k hk))) λk l hk hr=>⟨hr,cK (S1.cB k l ?_ hr)⟩⟩;have:=Dz (di e);omega
  ·rcases hl with(hl|hl)|hl
   ·exact .inl (.inl hl)
   ·have hl:l=g1.length:=hl;exact .inr (by omega)
   ·exact .inl (.inr hl)
theorem Rp{cs:List (Nat×W)}{c n:Nat}{L:α->ZU}{a:ED}{pa:Res δ α}{z:Int}(h:ZV c cs=ah (.int z)) (ha:av d Γ a (gY c n L) pa):av d Γ (xA cs a) zg (pa.bind λ_=>.ok z):=λσ g Fs R S=>by
 rcases ha σ g Fs R S with rfl|⟨v,w,F,rfl,e,hl,l,fs,Fa,h1,h2,_⟩
 ·exact .inl rfl
 ·subst h1
  exact .inr ⟨z,.int z,aJ,rfl,by unfold xA;rw[e];dsimp only[Out.bind];simp only[qP,h2,h],rfl⟩
structure DB(t:JB) (r:RP α) (b:aw):Prop where
 to:∀{v w g F R},r.r v w g F R->xY t g w=ah b
theorem Ki{t:JB}{r:RP α}{b:aw}{a:ED}{pa:Res δ α}(h:DB t r b) (ha:av d Γ a r pa):av d Γ (uU t a) z8 (pa.bind λ_=>.ok b):=λσ g Fs R S=>by
 rcases ha σ g Fs R S with rfl|⟨v,w,F,rfl,e,q⟩
 ·exact .inl rfl
 ·exact .inr ⟨b,.bl b,aJ,rfl,by unfold uU;rw[e];dsimp only[Out.bind];rw[h.to q],rfl⟩
theorem zm7{t:JB}{r:RP α}{b:aw}(h:getT "list" t.bi=ah b):DB t (zd r) b:=⟨λ{v w g F R} ⟨l,ws,Fa,h1,h2,_⟩=>by subst h1;simp only[xY,zi0 h2,xX,h2];exact h⟩
theorem zk8{t:JB}{b:aw}(h:getT "bool" t.bi=ah b):DB t z8 b:=⟨λ{v w g F R} e=>by rw[show w = .bl v from e];exact h⟩
end X
end WL
namespace WL
namespace X
open PySem
variable{δ κ:Type}{d:Nat}{JE:δ->Ctx}{Γ:Ctx}{p:Res δ κ}{Cont:SA->Ctx->Res δ κ->Prop}{eE:aw->Ctx->Res δ κ->Prop}{α β ν ρ:Type}{r:RP α}{J:jc δ ν β ρ}{q:RF δ ν β ρ}
theorem Sat.pin{σ:Sg}{g Fs R}{i:Nat}{v:α}(S:Sat d Γ σ g Fs R) (hi:bW Γ i=ah (own r v)):∃w,Sat d (put Γ i (X.pin r v w)) σ g Fs R:=by
 have kI:=hi;rw[jQ]at kI;obtain⟨o,ho,w,rfl,hw⟩:=S.get kI
 have S2:Sat d (put Γ i (X.pin r v w)) σ g (qX Fs i (Fs i)) R:=by
  rw[j4];exact S.pE S.out ho (show r.lv<=d from S.eX i _ kI) ⟨rfl,hw⟩
 have:qX Fs i (Fs i)=Fs:=by funext j;unfold qX;split <;> simp_all
 rw[this]at S2;exact⟨w,S2⟩
theorem qJ{m:SD}{v:α}(i:Nat) (hi:bW Γ i=ah (own r v)) (h:∀w,SX d J (put Γ i (pin r v w)) m q):SX d J Γ m q:=λσ g Fs R S=>by
 obtain⟨w,S2⟩:=S.pin hi;exact h w σ g Fs R S2
end X
end WL
end
section
namespace WL
namespace X
open PySem
structure aH where
 cU:Int
 start:ao
 nodes:List ao
 edges:List ((ao×Int)×(ao×au ao))
def zx:RP aH:=gY 0 0 λc=>[(0,own zg c.cU),(1,own zp c.start),(2,own (zd zp) c.nodes),(3,own (kK (aB zC zm) (aB zC (zE zC))) c.edges)]
abbrev qq:=List Int×Int×Int×Int
def qp:RP qq:=zi1 0 λv=>[own (zd zg) v.1,own zg v.2.1,own zg v.2.2.1,own zg v.2.2.2]
end X
end WL
end
section
namespace WL
namespace X
open PySem PySem.Spec
open L2 hiding Takes XE CX PMk MkP ps_raise ps_try_as ps_try_many passAt passes_call takes_of HdsOk mk_of
open L2N (Takes XE CX PMk MkP ps_raise ps_try_as ps_try_many passAt passes_call takes_of HdsOk mk_of)
open PyProof.Rows hiding St
section
variable{δ κ A A' τ τ':Type}{V:VC A τ}{V':VC A' τ'}{d:Nat}{JE:δ->Ctx}{Γ:Ctx}{p:Res δ κ}{Cont:SA->Ctx->Res δ κ->Prop}{eE:aw->Ctx->Res δ κ->Prop}{α β γ ν ν' ρ:Type}{r:RP α}
inductive vm:Ctx->List W->Prop where
 |nil:vm [] []
 |cons {τ1:Type}{f:τ1->W}{v:τ1}{A:Ctx}{ws:List W}(t:vm A ws):vm (own (val f) v :: A) (f v :: ws)
theorem vm.rel{A:Ctx}{ws:List W}{g F R}(h:vm A ws):vA.rel d A ws g F R:=by
 refine⟨λ_=>aJ,⟨?_,?_,λ_ _ _ h=>h.elim⟩,λ_ _ h=>h.elim⟩
 ·induction h with
  |nil=>rfl
  |cons t ih=>simp only[cq,ih]
 ·intro i a e
  induction h generalizing i with
  |nil=>simp at e
  |cons t ih=>
   cases i with
   |zero=>
    simp at e;subst e;exact⟨_,rfl,aF _,_,rfl,rfl⟩
   |succ i=>exact ih i (by simpa using e)
theorem zk9{f:α->W}{v:α}{A:Ctx}{ws:List W}(e:f v = .tup ws) (h:vm A ws):Iw (own (val f) v) A:=⟨λ{d w g F R} q=>by
 obtain⟨_,_,e1,q⟩:=q;cases e1;have q:w=f v:=q;exact⟨ws,q.trans e,h.rel⟩⟩
theorem vn{f:α->W}{g:β->W}{v:α×β}:Iw (own (val (aB f g)) v) [own (val f) v.1,own (val g) v.2]:=zk9 rfl (.cons (.cons .nil))
theorem zoV{f:FN}{a b:ED}{fa:α->W}{fb:β->W}{fc:γ->W}{h:α->β->γ}{pa:Res δ α}{pb:Res δ β}(hf:∀v u g,f [fa v,fb u] g = .ok (fc (h v u)) g) (ha:av d Γ a (val fa) pa) (hb:av d Γ b (val fb) pb):av d Γ (aQ f (ze a (ze b zv))) (val fc) (pa.bind λv=>pb.bind λu=>.ok (h v u)):=λσ g Fs R S=>by
 rcases ha σ g Fs R S with rfl|⟨v,w1,F1,rfl,e1,q1⟩
 ·exact .inl rfl
 ·rcases hb σ g Fs R S with rfl|⟨u,w2,F2,rfl,e2,q2⟩
  ·exact .inl rfl
  ·cases q1;cases q2
   exact .inr ⟨_,_,aJ,rfl,by unfold aQ ze zv;rw[e1];dsimp only[Out.bind];rw[e2];dsimp only[Out.bind];exact hf _ _ _,rfl⟩
def DC(a b:Int):Int:=if b<a then b else a
theorem zoW{a b:ED}{pa pb:Res δ Int}(ha:av d Γ a zg pa) (hb:av d Γ b zg pb):av d Γ (aQ Cy (ze a (ze b zv))) zg (pa.bind λv=>pb.bind λu=>.ok (DC v u)):=zoV (λ_ _ _=>rfl) ha hb
theorem zgZ(bs:List aw):o6 (bs.map W.bl)=ah bs:=by
 induction bs with
 |nil=>rfl
 |cons b bs ih=>simp only[c6,o6,ih,Option.map]
theorem zm9{f:List aw->W}{bs:List aw}{w:W}{g F R}(q:(zd z8).r bs w g F R):xM f [w] g = .ok (f bs) g:=by
 obtain⟨l,rfl,h2,h3,h4⟩:=jh.mp q;simp only[xM,ql,h2,zgZ]
theorem zoX{a:SA}{bs:List aw}(h:gA d Γ a (zd z8) bs) (c:Cont (own z8 (bs.all id)) Γ p):FG d JE CA [a] Γ p Cont:=λσ g Fs R ws F S rA B=>by
 obtain⟨w,rfl,q⟩:=yF rA;obtain⟨F',q'⟩:=h.to S q.2;rw[show CA [w] g=_ from zm9 q'];exact QL S c λl hl=>.inr hl
theorem zna{dd:qf}{r:RP α}{n:Nat}{xs:List α}{i:Int}{k:α->Res δ κ}(c:∀v,Cont (own (Sh n r) v) Γ (k v)):dC d JE (zS dd) (own (Sh n (zd r)) xs) (own zg i) Γ ((zY xs i).bind k) Cont:=λσ g Fs R wx wy Fx Fy S hx hy Bx By _=>by
 obtain⟨de,w1,e1,F',hF,l,ws,Fa,h1,h2,h3,h4,h5,h6⟩:=hx;cases e1;obtain⟨_,w2,e2,q2⟩:=hy;cases e2;have q2:wy = .int i:=q2;subst q2 h1;have hm:=h5.1;rw[cf]at hm;have e:zS dd (.ref l) (.int i) g=Qg ws (.int i) g:=by simp only[zS,Q0,ql,h2]
 rw[e];unfold zY
 cases hx:atI xs i with
 |none=>exact .inl rfl
 |some v=>
  have hl:ws.length=xs.length:=hm;obtain⟨j,hj,hw⟩:=Pn hl hx;obtain⟨w,ew,w',e,q⟩:=h5.2.1 j (own r v) (by rw[cC,hj];rfl);cases e;unfold Qg;dsimp only;rw[hw,ew];exact .ret (F:=aJ) S (c v) ⟨de,w,rfl,Fa j,λk hk=>hF k (h6 j k hk).1,q⟩ .no λk hk=>hk.elim (λz=>z.elim) λz=>.inr (.inr z)
variable{cV:Ctx×aw->Ctx->Res δ κ->Prop}
theorem Rq{as:AD}(h:AX d JE Γ as p λA Γ' q=>∃(n:Int) (k:List Int->Res δ κ),A=[own zg n]/\q=(rng 0 n).bind k/\∀xs,cV (xs.map (own zg),ak) Γ' (k xs)):IX d JE Γ (jS as) p cV:=λσ g Fs R S=>
 qB.bind (h σ g Fs R S) λA Γ1 ws g1 F1 aP ⟨n,k,hA,hq,c⟩ rA B1 S1 cG=>by
  subst hA hq;obtain⟨w,rfl,_,w',e,q⟩:=yF rA;cases e;have q:w = .int n:=q;subst q;dsimp only;unfold rng;have z:ZX 0=aj:=by decide
  rw[z]
  cases hn:ZX n with
  |false=>exact .inl rfl
  |true=>exact yL S1 II B1 (c _) λl h=>h
theorem yT{as:AD}{n:Int}{k:List Int->Res δ κ}{a:ED}(ha:as=ze a zv) (h:av (δ:=δ) d Γ a zg (.ok n)) (c:∀xs,cV (xs.map (own zg),ak) Γ (k xs)):IX d JE Γ (jS as) ((rng 0 n).bind k) cV:=Pq (n:=.ok n) ha h c
def ZL{α:Type} [DecidableEq α] (x:α) (xs:List α):aw:=decide (x∈xs)
theorem Jb{dd:qf}{f:α->W} [Fl:lE f] [DecidableEq α]:OpR (δ:=δ) (ZY dd) (val f) (zd (val f)) z8 (λx xs=>.ok (!ZL x xs)):=zkQ
theorem QV{a:ED}{lo hi:au ED}{f:α->W}{pa:Res δ (List α)}{pl ph:Res δ (au Int)}{k:List α->Res δ κ}(ha:av d Γ a (zd (val f)) pa) (hl:dD d Γ lo pl) (hh:dD d Γ hi ph) (c:∀v,Cont (own (zd (val f)) v) Γ (k v)):EX d JE Γ (Q3 a lo hi) ((pa.bind λxs=>pl.bind λl=>ph.bind λu=>.ok (Qe xs l u)).bind k) Cont:=λσ g Fs R S=>by
 rcases ha σ g Fs R S with rfl|⟨xs,w,F,rfl,e,q⟩
 ·exact .inl rfl
 ·rcases hl σ g Fs R S with rfl|⟨l,rfl,e1⟩
  ·exact .inl rfl
  ·rcases hh σ g Fs R S with rfl|⟨u,rfl,e2⟩
   ·exact .inl rfl
   ·obtain⟨m,rfl,h2,h3,h4⟩:=jh.mp q
    unfold Q3;rw[e];dsimp only[Out.bind];rw[e1];dsimp only[Out.bind];rw[e2];have e:uP (.ref m) l u g = .ok (.ref g.length) (g++[.lst ((Qe xs l u).map f)]):=by simp only[uP,ql,h2,Rl]
    dsimp only[Out.bind];rw[e];exact Q8 S (yG h4 Rm) (c _) λl hl=>hl
theorem Rr{a:ED}{f:α->W}{pa:Res δ (List α)}{k:List α->Res δ κ}(ha:av d Γ a (zd (val f)) pa) (c:∀v,Cont (own (zd (val f)) v) Γ (k v)):EX d JE Γ (aQ JA (ze a zv)) (pa.bind k) Cont:=λσ g Fs R S=>by
 rcases ha σ g Fs R S with rfl|⟨xs,w,F,rfl,e,q⟩
 ·exact .inl rfl
 ·obtain⟨m,rfl,h2,h3,h4⟩:=jh.mp q
  unfold aQ ze zv;rw[e];have e:JA [.ref m] g = .ok (.ref g.length) (g++[.lst (xs.map f)]):=by simp only[JA,Q0,ql,h2]
  dsimp only[Out.bind];rw[e];exact Q8 S h4 (c _) λl hl=>hl
structure Cv(r:RP α) (r':RP β) (f:α->β):Prop where
 to:∀{v w g F R},r.r v w g F R->r'.r (f v) w g F R
 lv:r'.lv<=r.lv
theorem QD{fa:α->W}{fb:β->W}{f:α->β}(h:∀v,fa v=fb (f v)):Cv (val fa) (val fb) f:=⟨λ{v w g F R} e=>Eq.trans (show w=fa v from e) (h v),aF _⟩
theorem Rt{r:RP α}{r':RP β}{f:α->β}(h:Cv r r' f):Cv (zd r) (zd r') (kg f):=⟨λ{xs w g F R} ⟨l,ws,Fa,h1,h2,h3,h4,h5,h6⟩=>⟨l,ws,Fa,h1,h2,h3,by rw[cf];exact h4,⟨by rw[h5.1];simp,λi a ha=>by
 rw[cC,mV]at ha;obtain⟨y,hy,rfl⟩:=ha;rw[cC,mV]at hy;obtain⟨x,hx,rfl⟩:=hy;obtain⟨w,hw,w',e,q⟩:=h5.2.1 i (own r x) (by rw[cC,hx];rfl);cases e;exact⟨w,hw,w,rfl,h.to q⟩,h5.2.2⟩,h6⟩,h.lv⟩
theorem QE{r:RP α}{r':RP β}{f:α->β}{v:α}(h:Cv r r' f):(own r v).le (own r' (f v)):=⟨λ⟨w,e,q⟩=>⟨w,e,h.to q⟩,h.lv⟩
theorem zoY{r:RP α}{r':RP β}{f:α->β}{v:α}{w:W}(h:Cv r r' f):(pin r v w).le (pin r' (f v) w):=⟨λ⟨e,q⟩=>⟨e,h.to q⟩,h.lv⟩
end
section
variable{δ κ A A' τ τ':Type}{V:VC A τ}{V':VC A' τ'}{d:Nat}{JE:δ->Ctx}{Γ:Ctx}{p:Res δ κ}{Cont:SA->Ctx->Res δ κ->Prop}{eE:aw->Ctx->Res δ κ->Prop}{α β γ ν ν' ρ:Type}{r:RP α}
def Ru:ao:=⟨Str.empty,by decide +kernel⟩
def mK(a b:ao):aw:=!(Builtin.Str.occurrences b.1 a.1 0 b.1.length 1).isEmpty
theorem Rv{dd:qf}:OpR (δ:=δ) (uN dd) zp zp z8 (λa b=>.ok (mK a b)):=Jm λa b g=>zoO rfl
theorem znb{a b:ED}:uE a b=l9 (qW a) b (eC (.bl ak)):=by
 funext σ g
 unfold uE l9 qW eC
 cases a σ g with
 |ok x g'=>cases x <;> first|rfl|(rename_i z;cases z <;> rfl)
 |ex c fs g'=>rfl
 |bad=>rfl
theorem Rw{a b:ED}(h:EX d JE Γ a p λx Γ' q=>∃(v:aw) (pb:Res δ aw) (k:aw->Res δ κ),x=own z8 v/\q=(aL v pb (.ok ak)).bind k/\EX d JE Γ' b pb (nE z8 Γ')/\∀z,Cont (own z8 z) Γ' (k z)):EX d JE Γ (uE a b) p Cont:=by
 rw[znb];refine zp5 z8 (Iq λσ g Fs R S=>(h σ g Fs R S).imp λx Γ' q hh=>?_);obtain⟨v,pb,k,hx,hq,hb,hk⟩:=hh;exact⟨v,hx,pb,_,k,hq,hb,zo (v:=ak) vd ⟨_,rfl,SA.r,rfl⟩,hk⟩
end
end X
end WL
end
section
namespace WL
namespace X
open PySem
section
variable{δ κ A A' τ τ':Type}{V:VC A τ}{V':VC A' τ'}{d:Nat}{JE:δ->Ctx}{Γ:Ctx}{p:Res δ κ}{Cont:SA->Ctx->Res δ κ->Prop}{cV:Ctx×aw->Ctx->Res δ κ->Prop}{α β γ ν ν' ρ:Type}{r:RP α}{J:jc δ ν β ρ}{q:RF δ ν β ρ}
def yU(d:qf):W->W->W->G->Out ax:=λx _ y g=>match qP g x with
 |some (_,c,_)=>match getD c d with
  |some F=>(F [x,y] g).bind λ_ g=>.ok () g
  |none=>.bad
 |none=>.bad
theorem zle{dd:qf}{o v:ED}:x_ dd o v=zX v (Q5 (yU dd) o (eC .non)):=by
 funext σ g
 unfold x_ zX Q5 eC yU
 cases v σ g with
 |ok y g1=>
  dsimp only[Out.fl]
  cases o σ g1 with
  |ok x g2=>
   dsimp only[Out.fl,Out.bind]
   cases qP g2 x with
   |none=>rfl
   |some t=>
    obtain⟨l,c,fs⟩:=t;dsimp only
    cases getD c dd with
    |none=>rfl
    |some F=>
     dsimp only
     cases F [x,y] g2 <;> rfl
  |_=>rfl
 |_=>rfl
theorem znc{dd:qf}{o v:ED}{F:FN}{rest:SD}(c:Nat) (hF:getD c dd=ah F) (h:EX d J.E Γ v q λa Γ1 q1=>EX d J.E Γ1 o q1 λx Γ2 q2=>vf d Γ2 x c/\FG d J.E F [x,a] Γ2 q2 λ_ Γ' q'=>SX d J Γ' rest q'):SX d J Γ (zB (x_ dd o v) rest) q:=by
 rw[zle];refine Jw λσ g Fs R S=>(h σ g Fs R S).imp λa Γ1 q1 h1=>λσ g Fs R S=>(h1 σ g Fs R S).imp λx Γ2 q2 h2=>?_;obtain⟨hc,h2⟩:=h2;refine λσ g Fs R S=>(zqF (f:=λ_:ax=>W.non) (v:=()) (Cont:=λy Γ3 q3=>vg d J (yU dd) x y a Γ3 q3 rest) ?_:EX _ _ _ _ _ _) σ g Fs R S
 exact λσ g Fs R wx wy wa Fx Fy Fv S hx hy hv Bx By Bv yQ iF yR=>by
  obtain⟨l,fs,e⟩:=hc.to S hx.2
  have key:((yU dd wx wy wa g).fl σ λ_ g=>rest σ g)=(F [wx,wa] g).fl σ λ_ g=>rest σ g:=by
   simp only[yU,e,hF]
   cases F [wx,wa] g <;> rfl
  rw[key];have rA:=QM hx (QM hv Dq λl _ h=>h.elim) λl h1 h2=>h2.elim (iF l h1) id;refine(qB.fl ((h2 σ g Fs R [wx,wa] _ S rA (Bx.both (Bv.sub λl hl=>hl.elim id λz=>z.elim))).more (F1:=λl=>Fv l\/Fx l\/jM Fy Fs l) λl hl=>?_) λa Γ1 w g1 F1 aP c ra B1 S1 cG=>(c _ g1 _ R S1).more λl h=>.inr h);rcases hl with(hl|hl|hl)|hl
  ·exact .inr (.inl hl)
  ·exact .inl hl
  ·exact hl.elim
  ·exact .inr (.inr (.inr hl))
end
section
variable{δ κ A A' τ τ':Type}{d:Nat}{JE:δ->Ctx}{Γ:Ctx}{p:Res δ κ}{Cont:SA->Ctx->Res δ κ->Prop}{cV:Ctx×aw->Ctx->Res δ κ->Prop}{α β γ ν ν' ρ:Type}{r:RP α}
def Rx(d:Nat) (w:W) (Γ:Ctx) (tg:GD) (Γ':Ctx):Prop:=
 ∀σ g Fs R,Sat d Γ σ g Fs R->∃σ' aA,tg w σ g = .ok σ' g/\Sat d Γ' σ' g aA R/\∀l,Own aA l->Own Fs l
def DE(d:Nat) (ws:List W) (Γ:Ctx) (tg:i5) (Γ':Ctx):Prop:=
 ∀σ g Fs R,Sat d Γ σ g Fs R->∃σ' aA,tg ws σ g = .ok σ' g/\Sat d Γ' σ' g aA R/\∀l,Own aA l->Own Fs l
theorem pgs_nil:DE d [] Γ J1 Γ:=λσ g Fs R S=>⟨σ,Fs,rfl,S,λ_ h=>h⟩
theorem pgs_cons{w:W}{ws:List W}{a:GD}{b:i5}{Γ1 Γ2:Ctx}(h:Rx d w Γ a Γ1) (t:DE d ws Γ1 b Γ2):DE d (w :: ws) Γ (jE a b) Γ2:=λσ g Fs R S=>by
 obtain⟨σ1,aP,e1,S1,h1⟩:=h σ g Fs R S;obtain⟨σ2,aV,e2,S2,h2⟩:=t σ1 g aP R S1;exact⟨σ2,aV,by unfold jE;dsimp only;rw[e1];dsimp only;rw[e2],S2,λl hl=>h1 l (h2 l hl)⟩
theorem pg_tup{w:W}{ws:List W}{n:Nat}{pF:i5}{Γ':Ctx}(e:w = .tup ws) (hn:ws.length=n) (h:DE d ws Γ pF Γ'):Rx d w Γ (QY n pF) Γ':=λσ g Fs R S=>by
 obtain⟨σ2,aV,e2,S2,h2⟩:=h σ g Fs R S;exact⟨σ2,aV,by subst e;unfold QY;dsimp only;rw[aG hn];exact e2,S2,h2⟩
def vp{δ α:Type}(d:Nat) (Γ:Ctx) (m:ED) (r:RP α) (res:Res δ α):Prop:=
 ∀σ g Fs R,Sat d Γ σ g Fs R->res = .bad\/∃v w F,res = .ok v/\m σ g = .ok w g/\r.r v w g F R/\∀l,F l->Own Fs l\/∃j,j<d/\R j l
theorem vq{i:Nat}{v:α}(hi:bW Γ i=ah (own r v)):vp (δ:=δ) d Γ (zf i) r (.ok v):=λσ g Fs R S=>by
 rw[jQ]at hi;obtain⟨o,ho,w,rfl,q⟩:=S.get hi;exact .inr ⟨v,w,Fs i,rfl,by unfold zf;rw[ho],q,λl hl=>.inl ⟨i,hl⟩⟩
theorem JU{i:Nat}{v:α}{w0:W}(hi:bW Γ i=ah (pin r v w0)):vp (δ:=δ) d Γ (zf i) r (.ok v):=λσ g Fs R S=>by
 rw[jQ]at hi;obtain⟨o,ho,rfl,q⟩:=S.get hi;exact .inr ⟨v,_,Fs i,rfl,by unfold zf;rw[ho],q,λl hl=>.inl ⟨i,hl⟩⟩
theorem vt{k:Nat}{m:ED}{res:Res δ α}(hk:cy (k+1) d=aj) (h:vp d Γ m (Sh k r) res):vp d Γ m r res:=λσ g Fs R S=>by
 rcases h σ g Fs R S with e|⟨v,w,F,e0,e,⟨F',hF,q⟩,_⟩
 ·exact .inl e
 ·refine .inr ⟨v,w,F',e0,e,q,λl hl=>?_⟩
  obtain⟨j,hj,hr⟩:=hF l hl;have:=gJ hk;exact .inr ⟨j,by omega,hr⟩
def PlI{δ β:Type}(d:Nat) (Γ:Ctx) (i:ID) (fb:β->W) (res:Res δ (List β)):Prop:=
 ∀σ g Fs R,Sat d Γ σ g Fs R->res = .bad\/∃xs J,res = .ok xs/\i σ g = .ok J g/\J.ws=xs.map fb/\∀g':G,(∀l,(Own Fs l\/∃j,j<d/\R j l)->g'[l]? = g[l]?)->ZI J g'=aj
theorem Ng{e:ED}{fb:β->W}{res:Res δ (List β)}(h:vp d Γ e (zd (val fb)) res):PlI d Γ (ij e) fb res:=λσ g Fs R S=>by
 rcases h σ g Fs R S with e|⟨xs,w,F,rfl,e,q,hF⟩
 ·exact .inl e
 ·obtain⟨l,rfl,h2,h3,h4⟩:=jh.mp q
  refine .inr ⟨xs,⟨xs.map fb,ah l⟩,rfl,?_,rfl,λg' hg=>?_⟩
  ·unfold ij
   rw[e];simp only[Out.bind,Jj,h2]
  ·show decide (g'[l]? = _)=aj
   exact bJ (by rw[hg l (hF l h3)];exact h2)
end
theorem zoZ{δ:Type}{m:FN}{ns:List Int}{pf:Res δ aw}{pe:δ->Ctx}(fx:FX (zW 1 m) [own ZT ns] pf [] (λt:aw=>(own z8 t,[])) pe) (h:pf = .ok aj):∃g,m [.eH ns] [] = .ok (.bl aj) g:=by
 rcases fx [.eH ns] [] aJ (λ_ _=>False) ⟨λ_=>aJ,⟨rfl,λi a e=>by
  cases i with
  |zero=>simp at e;subst e;exact⟨_,rfl,aF _,_,rfl,rfl⟩
  |succ i=>simp at e,λ_ _ _ h=>h.elim⟩,λ_ _ h=>h.elim⟩ (λ_ h=>h.elim) (λ_ h=>h.elim) (λ_ h=>h.elim) with z|⟨e,x,g',Fo,z,_⟩|⟨t,w,g',F1,Fo,z,e,⟨_,w',e1,q⟩,_⟩
 ·rw[h]at z;cases z
 ·rw[h]at z;cases z
 ·rw[h]at z
  cases z;cases e1
  have q:w = .bl aj:=q;subst q;exact⟨g',e⟩
section
variable{δ κ:Type}{d:Nat}{JE:δ->Ctx}{Γ:Ctx}{p:Res δ κ}{Cont:SA->Ctx->Res δ κ->Prop}{α β γ:Type}{r:RP α}
end
section
variable{δ κ:Type}{d:Nat}{JE:δ->Ctx}{Γ:Ctx}{p:Res δ κ}{Cont:SA->Ctx->Res δ κ->Prop}{α β γ:Type}{r:RP α}
def DF(m:Nat):RP bF where
 r:=λd w g F R=>∀g':G,(∀l,F l->g'[l]? = g[l]?)->∀k,m<=k->j3 (aW g' k) w=ah d
 lv:=0
 loc:=λh e1 _ g' a k hk=>h g' (λl hl=>(a l hl).trans (e1 l hl)) k hk
 wk:=λh e g' a k hk=>h g' (λl hl=>a l (e l hl)) k hk
class zV (r:RP α) (m:UL Nat) where
 to:α->bF
 at_:∀{v w g F R},r.r v w g F R->∀k,m<=k->j3 (aW g k) w=ah (to v)
instance (priority:=low) {n m:Nat} [D:gz r n m]:zV r m:=⟨D.to,D.at_⟩
instance {m:Nat}:zV (DF m) m:=⟨λv=>v,λh k hk=>h _ (λ_ _=>rfl) k hk⟩
theorem zo0{m m':Nat} [D:zV r m] (hm:cy m m'=aj) (hl:r.lv=0):Cv r (DF m') D.to:=⟨λ{v w g F R} h g' a k hk=>D.at_ (R:=R) (r.loc h a λj l hj=>br hj (by omega)) k (b_ (gJ hm) hk),aF _⟩
instance {m:Nat} [D:zV r m]:zV (zd r) (m+1) where
 to:=λxs=>.list (xs.map D.to)
 at_:=λ{xs w g F R} ⟨l,ws,Fa,h1,h2,h3,h4,h5,h6⟩ k hk=>by
  subst h1;obtain⟨k,rfl⟩:∃j,k=j+1:=⟨k - 1,by omega⟩
  show aW g (k+1) l=_;unfold aW;rw[h2];dsimp only
  have:toDgs (aW g k) ws=ah (xs.map D.to):=by
   have key:∀(ws:List W) (xs:List α) (Fa:Rg),AE (xs.map (own r)) ws g Fa R->toDgs (aW g k) ws=ah (xs.map D.to):=by
    intro ws
    induction ws with
    |nil=>
     intro xs Fa h;have:=h.1;rw[cf]at this
     cases xs with
     |nil=>rfl
     |cons=>cases this
    |cons w ws ih=>
     intro xs Fa h
     cases xs with
     |nil=>have:=h.1;cases this
     |cons x xs=>
      obtain⟨u,hu,w',e',q⟩:=h.2.1 0 (own r x) rfl;cases e';simp at hu;subst hu;have h2:AE (xs.map (own r)) ws g (λi=>Fa (i+1)) R:=⟨by simpa using h.1,λi a ha=>h.2.1 (i+1) a (by simpa using ha),λi j l a b=>by have:=h.2.2 (i+1) (j+1) l a b;omega⟩
      show(match j3 (aW g k) w,toDgs (aW g k) ws with|some d,ah ds=>ah (d :: ds)|_,_=>ai)=_;rw[D.at_ q k (by omega),ih xs _ h2];rfl
   exact key ws xs Fa h5
  rw[this];rfl
def eqQ{δ:Type}(a b:bF):Res δ aw:=aL (SeqAt.shaped a && SeqAt.shaped b) (.ok (PyData.eqv a b)) .bad
def iH{δ:Type}(a b:bF):Res δ aw:=aL (SeqAt.shaped a && SeqAt.shaped b) (.ok (!PyData.eqv a b)) .bad
theorem Ry{r1:RP α}{r2:RP β}{m1 m2:Nat} [D:zV r1 m1] [D2:zV r2 m2] (hm:(cy m1 4 && cy m2 4)=aj) {v:α}{u:β}{wx wy:W}{g:G}{F1 F2 R}(q1:r1.r v wx g F1 R) (q2:r2.r u wy g F2 R):(eqQ (D.to v) (D2.to u):Res δ aw) = .bad\/∃b,(eqQ (D.to v) (D2.to u):Res δ aw) = .ok b/\fC wx wy g = .ok (.bl b) g:=by
 simp only[dV,Bt]at hm;unfold eqQ
 cases hs:SeqAt.shaped (D.to v) && SeqAt.shaped (D2.to u) with
 |false=>exact .inl rfl
 |true=>exact .inr ⟨_,rfl,by unfold fC toD;rw[D.at_ q1 4 hm.1,D2.at_ q2 4 hm.2];dsimp only;rw[hs];rfl⟩
theorem zqd{r1:RP α}{r2:RP β}{m1 m2:Nat} [D:zV r1 m1] [D2:zV r2 m2] (hm:(cy m1 4 && cy m2 4)=aj) {v:α}{u:β}{wx wy:W}{g:G}{F1 F2 R}(q1:r1.r v wx g F1 R) (q2:r2.r u wy g F2 R):(iH (D.to v) (D2.to u):Res δ aw) = .bad\/∃b,(iH (D.to v) (D2.to u):Res δ aw) = .ok b/\gQ wx wy g = .ok (.bl b) g:=by
 simp only[dV,Bt]at hm;unfold iH
 cases hs:SeqAt.shaped (D.to v) && SeqAt.shaped (D2.to u) with
 |false=>exact .inl rfl
 |true=>exact .inr ⟨_,rfl,by unfold gQ toD;rw[D.at_ q1 4 hm.1,D2.at_ q2 4 hm.2];dsimp only;rw[hs];rfl⟩
theorem zo1{r1:RP α}{r2:RP β}{m1 m2:Nat} [D:zV r1 m1] [D2:zV r2 m2] (hm:(cy m1 4 && cy m2 4)=aj):OpR (δ:=δ) fC r1 r2 z8 (λv u=>eqQ (D.to v) (D2.to u)):=⟨λq1 q2=>by
 rcases Ry (δ:=δ) hm q1 q2 with e|⟨b,e,e2⟩
 ·exact .inl e
 ·exact .inr ⟨b,.bl b,aJ,e,e2,rfl⟩⟩
theorem DG{r1:RP α}{r2:RP β}{m1 m2:Nat} [D:zV r1 m1] [D2:zV r2 m2] (hm:(cy m1 4 && cy m2 4)=aj):OpR (δ:=δ) gQ r1 r2 z8 (λv u=>iH (D.to v) (D2.to u)):=⟨λq1 q2=>by
 rcases zqd (δ:=δ) hm q1 q2 with e|⟨b,e,e2⟩
 ·exact .inl e
 ·exact .inr ⟨b,.bl b,aJ,e,e2,rfl⟩⟩
theorem zo2{x y:SA}{v:α}{u:β}{r1:RP α}{r2:RP β}{m1 m2:Nat}{k:aw->Res δ κ} [D:zV r1 m1] [D2:zV r2 m2] (h1:gA d Γ x r1 v) (h2:gA d Γ y r2 u) (hm:(cy m1 4 && cy m2 4)=aj) (c:∀b,Cont (own z8 b) Γ (k b)):dC d JE fC x y Γ ((eqQ (D.to v) (D2.to u)).bind k) Cont:=
 λσ g Fs R wx wy Fx Fy S hx hy Bx By _=>by
  obtain⟨F1,q1⟩:=h1.to S hx.2;obtain⟨F2,q2⟩:=h2.to S hy.2;rcases Ry (δ:=δ) hm q1 q2 with e|⟨b,e,e2⟩
  ·exact .inl (by rw[e];rfl)
  ·rw[e,e2]
   exact QL S (c b) λl hl=>.inr (.inr hl)
end
section
variable{δ κ:Type}{d:Nat}{Γ:Ctx}{α β γ ν ρ:Type}{J:jc δ ν β ρ}{q:RF δ ν β ρ}
theorem zqe{a b:SA}{ws:List W}{g:G}{F R}(h:vA.rel d [a,b] ws g F R):∃u v F1 F2,ws=[u,v]/\vW.rel d a u g F1 R/\vW.rel d b v g F2 R/\(∀l,F1 l->F l)/\(∀l,F2 l->F l)/\∀l,F1 l -> ¬ F2 l:=by
 obtain⟨Fa,⟨h1,h2,h3⟩,h4⟩:=h;obtain⟨u,hu,lu,qu⟩:=h2 0 a rfl;obtain⟨v,hv,lv,qv⟩:=h2 1 b rfl
 match ws,h1,hu,hv with
 |[x,y],_,hu,hv=>
  simp at hu hv;subst hu hv;exact⟨_,_,Fa 0,Fa 1,rfl,⟨lu,qu⟩,⟨lv,qv⟩,h4 0,h4 1,λl z1 z2=>by have:=h3 0 1 l z1 z2;omega⟩
theorem zo3{as:AD}{i j:Nat}{rest:SD}(h:AX d J.E Γ as q λA Γ' q'=>∃a b,A=[a,b]/\SX d J (put (put Γ' i a) j b) rest q'):SX d J Γ (zB (xt i j as) rest) q:=λσ g Fs R S=>by
 have key:zB (xt i j as) rest σ g=(as σ g).fl σ λws g=>match ws with
   |[v,w]=>rest ((σ.set i (ah v)).set j (ah w)) g
   |_=>.bad:=by
  unfold zB xt
  cases as σ g with
  |ok ws g1=>
   dsimp only[Out.fl]
   match ws with
   |[v,w]=>rfl
   |[]=>rfl
   |[_]=>rfl
   |_ :: _ :: _ :: _=>rfl
  |_=>rfl
 rw[key];refine qB.fl (h σ g Fs R S) λA Γ1 ws g1 F1 aP c ra B1 S1 cG=>?_;obtain⟨a,b,rfl,c⟩:=c;obtain⟨u,v,Fu,Fv,rfl,ru,rv,su,sv,ap⟩:=zqe ra;have S2:=S1.rK (i:=i) (B1.sub su) ru.1 ru.2
 have Bv:zG d Fv (qX aP i Fu) g1 R:=⟨λl hl=>B1.low l (sv l hl),λl hl=>B1.apart l (sv l hl),λl hl k hk=>by
  by_cases e:k=i
  ·subst e;rw[zr]at hk;exact ap l hk hl
  ·rw[zt e]at hk;exact B1.own l (sv l hl) k hk⟩
 have S3:=S2.rK (i:=j) Bv rv.1 rv.2;rw[<- j4,<- j4]at S3;refine(c _ g1 _ R S3).more λl ⟨k,hk⟩=>?_
 by_cases e:k=j
 ·subst e;rw[zr]at hk;exact .inl (sv l hk)
 ·rw[zt e]at hk
  by_cases e:k=i
  ·subst e;rw[zr]at hk;exact .inl (su l hk)
  ·rw[zt e]at hk;exact .inr ⟨k,hk⟩
end
section
variable{δ κ:Type}{d:Nat}{JE:δ->Ctx}{Γ:Ctx}{p:Res δ κ}{Cont:SA->Ctx->Res δ κ->Prop}
def yV:Ctx->Nat
 |[]=>0
 |a :: A=>max a.lv (yV A)
theorem Rz:∀{A:Ctx}{a:SA},a∈A->a.lv<=yV A
 |b :: A,a,h=>by
  show _<=max _ _;rcases cJ.mp h with rfl|h
  ·omega
  ·have:=Rz h;omega
theorem RA:∀{A:Ctx},(∀a∈A,a.lv<=d)->yV A<=d
 |[],_=>aF _
 |b :: A,h=>by
  show max _ _<=_;have h1:=h b (dk ..);have h2:=RA (A:=A) λa ha=>h a (dy _ ha);omega
def RC(A:Ctx):SA where
 s:=λo g F R=>∃ws Fa,o=ah (.tup ws)/\AE A ws g Fa R/\∀i k,Fa i k->F k
 lv:=yV A
 loc:=λ⟨ws,Fa,e,h,hF⟩ e1 e2=>⟨ws,Fa,e,h.loc (n:=yV A) (λa ha=>Rz ha) (λi k hk=>e1 k (hF i k hk)) e2,hF⟩
 wk:=λ⟨ws,Fa,e,h,hF⟩ q=>⟨ws,Fa,e,h,λi k hk=>q k (hF i k hk)⟩
theorem RE{as:AD}(h:AX d JE Γ as p λA Γ' q=>fits A.length=aj/\Cont (RC A) Γ' q):EX d JE Γ (Jz as) p Cont:=λσ g Fs R S=>
 qB.bind (h σ g Fs R S) λA Γ1 ws g1 F1 aP ⟨hf,c⟩ rA B1 S1 cG=>by
  obtain⟨Fa,h1,h4⟩:=rA;rw[aG (by rw[h1.1];exact hf)];refine .ret S1 c ⟨RA λa ha=>?_,ws,Fa,rfl,AE.of h1,h4⟩ B1 λl h=>h;obtain⟨i,hi⟩:=wz.mp ha;obtain⟨w,_,hl,_⟩:=h1.2.1 i a hi;exact hl
def kM{α β:Type}(r1:RP α) (r2:RP β):RP (α×β) where
 r:=λv w g F R=>∃w1 w2 F1 F2,w = .tup [w1,w2]/\r1.r v.1 w1 g F1 R/\r2.r v.2 w2 g F2 R/\(∀l,F1 l->F l)/\(∀l,F2 l->F l)/\∀l,F1 l -> ¬ F2 l
 lv:=max r1.lv r2.lv
 loc:=λ⟨w1,w2,F1,F2,e,q1,q2,s1,s2,ap⟩ e1 e2=>⟨w1,w2,F1,F2,e,r1.loc q1 (λl hl=>e1 l (s1 l hl)) (λk l hk=>e2 k l (by omega)),r2.loc q2 (λl hl=>e1 l (s2 l hl)) (λk l hk=>e2 k l (by omega)),s1,s2,ap⟩
 wk:=λ⟨w1,w2,F1,F2,e,q1,q2,s1,s2,ap⟩ q=>⟨w1,w2,F1,F2,e,q1,q2,λl hl=>q l (s1 l hl),λl hl=>q l (s2 l hl),ap⟩
theorem RH{α β:Type}{r1:RP α}{r2:RP β}{a b:SA}{v:α}{u:β}(ha:a.le (own r1 v)) (hb:b.le (own r2 u)):(RC [a,b]).le (own (kM r1 r2) (v,u)):=⟨λ{o g F R} ⟨ws,Fa,e,h,hF⟩=>by
 obtain⟨w1,h1,q1⟩:=h.2.1 0 a rfl;obtain⟨w2,h2,q2⟩:=h.2.1 1 b rfl;obtain⟨w1',e1,q1⟩:=ha.to q1;obtain⟨w2',e2,q2⟩:=hb.to q2
 cases e1;cases e2
 have hl:=h.1
 match ws,hl,h1,h2 with
 |[x,y],_,h1,h2=>
  simp at h1 h2;subst h1 h2
  exact⟨_,e,x,y,Fa 0,Fa 1,rfl,q1,q2,hF 0,hF 1,λl z1 z2=>by have:=h.2.2 0 1 l z1 z2;omega⟩,by
 have h1:=ha.lv;have h2:=hb.lv;have h1:r1.lv<=a.lv:=h1;have h2:r2.lv<=b.lv:=h2;show max r1.lv r2.lv<=max a.lv (max b.lv 0);omega⟩
end
end X
end WL
end
section
namespace WL
namespace X
open PySem
open L2 (atI ixN eqV Key)
section
variable{δ κ:Type}{d:Nat}{JE:δ->Ctx}{Γ:Ctx}{p:Res δ κ}{Cont:SA->Ctx->Res δ κ->Prop}{eE:aw->Ctx->Res δ κ->Prop}{α β γ ν ρ:Type}{r:RP α}{J:jc δ ν β ρ}
def Ext(g g':G):Prop:=g.length<=g'.length/\∀l,l<g.length->g'[l]? = g[l]?
theorem Ext.refl{g:G}:Ext g g:=⟨bC _,λ_ _=>rfl⟩
theorem Ext.trans{g g1 g2:G}(a:Ext g g1) (b:Ext g1 g2):Ext g g2:=⟨b_ a.1 b.1,λl hl=>(b.2 l (cu hl a.1)).trans (a.2 l hl)⟩
theorem Ext.app{g:G}{o:GO}:Ext g (g++[o]):=⟨by simp,λl hl=>cK hl⟩
class bU {α:Type}(r:RP α):Prop where
 z:r.lv=0
instance {f:α->W}:bU (val f):=⟨rfl⟩
instance {r:RP α} [Z:bU r]:bU (zd r):=⟨Z.z⟩
instance {κ1:Type}{e:κ1->W} [K:Ks κ1 e] {f:α->W}:bU (kK e f):=⟨rfl⟩
instance {c:Nat}{L:α->ZU}:bU (gY c 0 L):=⟨rfl⟩
instance {r1:RP α}{r2:RP β} [Z1:bU r1] [Z2:bU r2]:bU (kM r1 r2):=⟨by show max _ _=0;rw[Z1.z,Z2.z];rfl⟩
instance:bU zx:=⟨rfl⟩
def iI:Rg:=λ_=>aJ
theorem RP.move [Z:bU r] {v:α}{w:W}{g g':G}{F:Ft}{R R':Rg}(h:r.r v w g F R) (hF:∀l,F l->g'[l]? = g[l]?):r.r v w g' F R':=r.loc h hF λk l hk=>br hk (by rw[Z.z];omega)
theorem RP.ext [Z:bU r] {v:α}{w:W}{g g':G}{F:Ft}{R R':Rg}(h:r.r v w g F R) (hF:∀l,F l->l<g.length) (e:Ext g g'):r.r v w g' F R':=r.move h λl hl=>e.2 l (hF l hl)
theorem Sat.ext{σ:Sg}{g g':G}{Fs R}(S:Sat d Γ σ g Fs R) (e:Ext g g'):Sat d Γ σ g' Fs R:=S.kX (F:=aJ) (Fo:=aJ) .no ⟨e.1,λl hl _=>e.2 l hl,λl h=>h.elim⟩
def OV(out:Out W) (g:G) (r:RP α) (fr:aw) (res:Res ax α):Prop:=
 res = .bad\/(∃e g',res = .ex e ()/\out = .ex e.c e.fs g'/\Ext g g') \/
 ∃v w g' F,res = .ok v/\out = .ok w g'/\r.r v w g' F iI/\Ext g g'/\(∀l,F l->l<g'.length)/\(fr=aj->∀l,F l->g.length<=l)
def OB(out:Out aw) (g:G) (res:Res ax aw):Prop:=
 res = .bad\/(∃e g',res = .ex e ()/\out = .ex e.c e.fs g'/\Ext g g')\/∃v g',res = .ok v/\out = .ok v g'/\Ext g g'
theorem OV.base{out:Out W}{g g':G}{r:RP α}{fr:aw}{res:Res ax α}(e:Ext g g') (h:OV out g' r fr res):OV out g r fr res:=by
 rcases h with h|⟨x,g2,h1,h2,h3⟩|⟨v,w,g2,F,h1,h2,h3,h4,h5,h6⟩
 ·exact .inl h
 ·exact .inr (.inl ⟨x,g2,h1,h2,e.trans h3⟩)
 ·exact .inr (.inr ⟨v,w,g2,F,h1,h2,h3,e.trans h4,h5,λz l hl=>b_ e.1 (h6 z l hl)⟩)
theorem OB.base{out:Out aw}{g g':G}{res:Res ax aw}(e:Ext g g') (h:OB out g' res):OB out g res:=by
 rcases h with h|⟨x,g2,h1,h2,h3⟩|⟨v,g2,h1,h2,h3⟩
 ·exact .inl h
 ·exact .inr (.inl ⟨x,g2,h1,h2,e.trans h3⟩)
 ·exact .inr (.inr ⟨v,g2,h1,h2,e.trans h3⟩)
theorem OV.bind{out:Out W}{k:W->G->Out W}{g:G}{r:RP α}{fr yW:aw}{pa:Res ax α}{r':RP β}{f:α->Res ax β}(h:OV out g r fr pa) (hk:∀v w g' F,r.r v w g' F iI->Ext g g'->(∀l,F l->l<g'.length)->(fr=aj->∀l,F l->g.length<=l)->OV (k w g') g r' yW (f v)):OV (out.bind k) g r' yW (pa.bind f):=by
 rcases h with h|⟨x,g2,h1,h2,h3⟩|⟨v,w,g2,F,h1,h2,h3,h4,h5,h6⟩
 ·exact .inl (by rw[h];rfl)
 ·exact .inr (.inl ⟨x,g2,by rw[h1];rfl,by rw[h2];rfl,h3⟩)
 ·rw[h1,h2];exact hk v w g2 F h3 h4 h5 h6
theorem OV.bindB{out:Out W}{k:W->G->Out aw}{g:G}{r:RP α}{fr:aw}{pa:Res ax α}{f:α->Res ax aw}(h:OV out g r fr pa) (hk:∀v w g' F,r.r v w g' F iI->Ext g g'->(∀l,F l->l<g'.length)->OB (k w g') g (f v)):OB (out.bind k) g (pa.bind f):=by
 rcases h with h|⟨x,g2,h1,h2,h3⟩|⟨v,w,g2,F,h1,h2,h3,h4,h5,h6⟩
 ·exact .inl (by rw[h];rfl)
 ·exact .inr (.inl ⟨x,g2,by rw[h1];rfl,by rw[h2];rfl,h3⟩)
 ·rw[h1,h2];exact hk v w g2 F h3 h4 h5
theorem OB.bind{out:Out aw}{k:aw->G->Out W}{g:G}{yW:aw}{pa:Res ax aw}{r':RP β}{f:aw->Res ax β}(h:OB out g pa) (hk:∀v g',Ext g g'->OV (k v g') g r' yW (f v)):OV (out.bind k) g r' yW (pa.bind f):=by
 rcases h with h|⟨x,g2,h1,h2,h3⟩|⟨v,g2,h1,h2,h3⟩
 ·exact .inl (by rw[h];rfl)
 ·exact .inr (.inl ⟨x,g2,by rw[h1];rfl,by rw[h2];rfl,h3⟩)
 ·rw[h1,h2];exact hk v g2 h3
theorem OB.bindB{out:Out aw}{k:aw->G->Out aw}{g:G}{pa:Res ax aw}{f:aw->Res ax aw}(h:OB out g pa) (hk:∀v g',Ext g g'->OB (k v g') g (f v)):OB (out.bind k) g (pa.bind f):=by
 rcases h with h|⟨x,g2,h1,h2,h3⟩|⟨v,g2,h1,h2,h3⟩
 ·exact .inl (by rw[h];rfl)
 ·exact .inr (.inl ⟨x,g2,by rw[h1];rfl,by rw[h2];rfl,h3⟩)
 ·rw[h1,h2];exact hk v g2 h3
theorem RI{f:α->W}{v:α}{g g':G}{fr:aw}(e:Ext g g'):OV (.ok (f v) g') g (val f) fr (.ok v):=.inr (.inr ⟨v,_,g',aJ,rfl,rfl,rfl,e,λ_ h=>h.elim,λ_ _ h=>h.elim⟩)
theorem vv{v:aw}{g g':G}(e:Ext g g'):OB (.ok v g') g (.ok v):=.inr (.inr ⟨v,g',rfl,rfl,e⟩)
def PV(d:Nat) (Γ:Ctx) (m:ED) (r:RP α) (fr:aw) (res:Res ax α):Prop:=∀σ g Fs R,Sat d Γ σ g Fs R->OV (m σ g) g r fr res
def PB(d:Nat) (Γ:Ctx) (m:TD) (res:Res ax aw):Prop:=∀σ g Fs R,Sat d Γ σ g Fs R->OB (m σ g) g res
theorem PV.eq{m:ED}{fr:aw}{res ie:Res ax α}(h:PV d Γ m r fr res) (e:res=ie):PV d Γ m r fr ie:=e ▸ h
theorem PB.eq{m:TD}{res ie:Res ax aw}(h:PB d Γ m res) (e:res=ie):PB d Γ m ie:=e ▸ h
theorem Qw{m:ED}{f:α->W}{fr:aw}{res:Res ax α}(h:av d Γ m (val f) res):PV d Γ m (val f) fr res:=λσ g Fs R S=>by
 rcases h σ g Fs R S with h|⟨v,w,F,h1,h2,h3⟩
 ·exact .inl h
 ·have h3:w=f v:=h3
  rw[h1,h2,h3];exact RI .refl
theorem Jc [Z:bU r] {m:ED}{res:Res ax α}(h:vp d Γ m r res):PV d Γ m r ak res:=λσ g Fs R S=>by
 rcases h σ g Fs R S with h|⟨v,w,F,h1,h2,h3,h4⟩
 ·exact .inl h
 ·refine .inr (.inr ⟨v,w,g,F,h1,h2,r.move h3 λ_ _=>rfl,.refl,λl hl=>?_,λz=>by cases z⟩)
  rcases h4 l hl with⟨i,hi⟩|⟨j,hj,hr⟩
  ·exact S.low i l hi
  ·exact S.cB j l hj hr
theorem DH{m:TD}{res:Res ax aw}(h:bx d Γ m res):PB d Γ m res:=λσ g Fs R S=>by
 rcases h σ g Fs R S with h|⟨v,h1,h2⟩
 ·exact .inl h
 ·rw[h1,h2];exact vv .refl
theorem sY{f:F2}{a b:ED}{r1:RP α}{r2:RP β}{fc:γ->W} [bU r1] [bU r2] {h:α->β->Res ax γ}{pa:Res ax α}{pb:Res ax β}{fr:aw}(o:OpR f r1 r2 (val fc) h) (ha:PV d Γ a r1 ak pa) (hb:PV d Γ b r2 ak pb):PV d Γ (zw f a b) (val fc) fr (pa.bind λv=>pb.bind λu=>h v u):=λσ g Fs R S=>
 (ha σ g Fs R S).bind λv w g1 F1 q1 e1 l1 _=>OV.base e1 ((hb σ g1 Fs R (S.ext e1)).bind λu w2 g2 F2 q2 e2 l2 _=>by
  rcases o.to (r1.ext (R':=iI) q1 l1 e2) q2 with z|⟨z,w3,F3,z1,z2,z3⟩
  ·exact .inl z
  ·have z3:w3=fc z:=z3
   rw[z1,z2,z3];exact RI e2)
theorem JV{m:ED}{res:Res ax aw}(h:PV d Γ m z8 ak res):PB d Γ (qW m) res:=λσ g Fs R S=>by
 have:=OV.bindB (f:=λb=>.ok b) (k:=λw g=>match w with| .bl b=>.ok b g|_=>.bad) (h σ g Fs R S) λv w g1 F1 q1 e1 l1=>by
  have q1:w = .bl v:=q1;subst q1;exact vv e1
 have e:res.bind (λb=>.ok b)=res:=by cases res <;> rfl
 rw[e]at this;exact this
theorem RJ{m:TD}{res:Res ax aw}(h:PB d Γ m res):PB d Γ (iZ m) (res.bind λb=>.ok (!b)):=λσ g Fs R S=>OB.bindB (h σ g Fs R S) λv g1 e1=>vv e1
theorem Kj{ma mb:TD}{pa pb:Res ax aw}(ha:PB d Γ ma pa) (hb:PB d Γ mb pb):PB d Γ (kA ma mb) (pa.bind λb=>aL b pb (.ok ak)):=λσ g Fs R S=>OB.bindB (ha σ g Fs R S) λv g1 e1=>by
 cases v with
 |true=>exact OB.base e1 (hb σ g1 Fs R (S.ext e1))
 |false=>exact vv e1
theorem Kk{ma mb:TD}{pa pb:Res ax aw}(ha:PB d Γ ma pa) (hb:PB d Γ mb pb):PB d Γ (tOr ma mb) (pa.bind λb=>aL b (.ok aj) pb):=λσ g Fs R S=>OB.bindB (ha σ g Fs R S) λv g1 e1=>by
 cases v with
 |false=>exact OB.base e1 (hb σ g1 Fs R (S.ext e1))
 |true=>exact vv e1
theorem RK{m:ED}{r:RP α} [T:lG r] {res:Res ax α}(h:PV d Γ m r ak res):PB d Γ (i3 m) (res.bind λv=>.ok (T.sU v)):=λσ g Fs R S=>OV.bindB (h σ g Fs R S) λv w g1 F1 q1 e1 l1=>by
 show OB (match oR g1 w with|some b=>.ok b g1|none=>.bad) _ _;rw[T.at_ q1];exact vv e1
def DI(g:G):Rg:=λj l=>j=0/\l<g.length
def mL(A:Ctx) (ws:List W) (g:G):Prop:=vA.rel 1 A ws g aJ (DI g)
theorem mL.nil{g:G}:mL [] [] g:=Dq
theorem mL.ext{A:Ctx}{ws:List W}{g g':G}(h:mL A ws g) (e:Ext g g'):mL A ws g':=by
 obtain⟨Fa,⟨h1,h2,h3⟩,h4⟩:=h;refine⟨Fa,⟨h1,λi a ha=>?_,h3⟩,h4⟩;obtain⟨w,hw,hl,q⟩:=h2 i a ha;exact⟨w,hw,hl,a.loc q (λl hl=>(h4 i l hl).elim) λk l hk ⟨_,hr⟩=>⟨⟨by omega,cu hr e.1⟩,e.2 l hr⟩⟩
theorem mL.snoc{A:Ctx}{ws:List W}{a:SA}{w:W}{g:G}(h:mL A ws g) (hl:a.lv<=1) (ha:a.s (ah w) g aJ (DI g)):mL (A++[a]) (ws++[w]) g:=by
 obtain⟨Fa,⟨h1,h2,h3⟩,h4⟩:=h;refine⟨λ_=>aJ,⟨by simp[h1],λi b hb=>?_,λi j l hi=>hi.elim⟩,λ_ _ h=>h⟩
 by_cases hi:i<A.length
 ·rw[cK hi]at hb
  obtain⟨u,hu,q1,q2⟩:=h2 i b hb;exact⟨u,by rw[cK (by omega)];exact hu,q1,b.wk q2 λl z=>(h4 i l z).elim⟩
 ·rw[pY (by omega)]at hb
  have:i - A.length=0:=by
   cases hh:i - A.length with
   |zero=>rfl
   |succ n=>rw[hh]at hb;simp at hb
  rw[this]at hb;cases hb;refine⟨w,?_,hl,ha⟩;rw[pY (by omega),show i - ws.length=0 by omega];rfl
theorem Kl{r:RP α} [Z:bU r] {v:α}{w:W}{g:G}{F:Ft}{R:Rg}(h:r.r v w g F R) (hF:∀l,F l->l<g.length):(own (Sh 0 r) v).s (ah w) g aJ (DI g):=⟨w,rfl,F,λl hl=>⟨0,bC _,rfl,hF l hl⟩,r.move h λ_ _=>rfl⟩
def sZ(d:Nat) (Γ:Ctx) (f:FN) (as:AD) (A:Ctx) (r:RP α) (fr:aw) (res:Res ax α):Prop:=
 ∀σ g Fs R gZ,Sat d Γ σ g Fs R->mL A gZ g->OV ((as σ g).bind λws g1=>f (gZ++ws) g1) g r fr res
theorem yX{δf:Type}{f:FN}{A:Ctx}{pf:Res δf α}{ow:List W}{r:RP α} [Z:bU r] {pe:δf->Ctx}{fr:aw}(fx:FX f A pf ow (λt=>(own r t,[])) pe):sZ d Γ f zv A r fr (pf.on λ_=>()):=λσ g Fs R gZ S hA=>by
 have e:((zv σ g).bind λws g1=>f (gZ++ws) g1)=f gZ g:=by unfold zv;show f (gZ++[]) g=_;rw[fR]
 rw[e];rcases fx gZ g aJ (DI g) hA (λ_ h=>h.elim) (λl h=>h.2) (λ_ h=>h.elim) with z|⟨x,y,g',Fo,z1,z2,z3,z4,st⟩|⟨t,w,g',F1,Fo,z1,z2,z3,z4,z5,z6,st⟩
 ·exact .inl (by rw[z];rfl)
 ·exact .inr (.inl ⟨x,g',by rw[z1];rfl,z2,st.len,λl hl=>st.keep l hl id⟩)
 ·obtain⟨_,w',e',q⟩:=z3
  cases e';exact .inr (.inr ⟨t,w,g',F1,by rw[z1];rfl,z2,r.move q λ_ _=>rfl,⟨st.len,λl hl=>st.keep l hl id⟩,λl hl=>z5 l (.inl hl),λ_ l hl=>(st.new l (.inl hl)).elim (λz=>z.elim) id⟩)
theorem RL{f:FN}{a:ED}{as:AD}{A:Ctx}{r:RP α}{fr:aw}{fa:β->W}{pa:Res ax β}{k:β->Res ax α}(ha:PV d Γ a (val fa) ak pa) (hk:∀v,sZ d Γ f as (A++[own (val fa) v]) r fr (k v)):sZ d Γ f (ze a as) A r fr (pa.bind k):=λσ g Fs R gZ S hA=>by
 have e:((ze a as σ g).bind λws g1=>f (gZ++ws) g1)=(a σ g).bind λw g1=>(as σ g1).bind λws g2=>f ((gZ++[w])++ws) g2:=by
  unfold ze
  cases a σ g with
  |ok w g1=>
   dsimp only[Out.bind]
   cases as σ g1 with
   |ok ws g2=>dsimp only[Out.bind];rw[LY];rfl
   |_=>rfl
  |_=>rfl
 rw[e];refine(ha σ g Fs R S).bind λv w g1 F1 q1 e1 l1 _=>OV.base e1 (hk v σ g1 Fs R (gZ++[w]) (S.ext e1) ((hA.ext e1).snoc (aF _) ⟨w,rfl,q1⟩))
theorem ZM{f:FN}{a:ED}{as:AD}{A:Ctx}{r:RP α}{fr:aw}{ra:RP β} [Z:bU ra] {pa:Res ax β}{k:β->Res ax α}(ha:PV d Γ a ra ak pa) (hk:∀v,sZ d Γ f as (A++[own (Sh 0 ra) v]) r fr (k v)):sZ d Γ f (ze a as) A r fr (pa.bind k):=λσ g Fs R gZ S hA=>by
 have e:((ze a as σ g).bind λws g1=>f (gZ++ws) g1)=(a σ g).bind λw g1=>(as σ g1).bind λws g2=>f ((gZ++[w])++ws) g2:=by
  unfold ze
  cases a σ g with
  |ok w g1=>
   dsimp only[Out.bind]
   cases as σ g1 with
   |ok ws g2=>dsimp only[Out.bind];rw[LY];rfl
   |_=>rfl
  |_=>rfl
 rw[e];refine(ha σ g Fs R S).bind λv w g1 F1 q1 e1 l1 _=>OV.base e1 (hk v σ g1 Fs R (gZ++[w]) (S.ext e1) ((hA.ext e1).snoc (by show max (0+1) ra.lv<=1;rw[Z.z];omega) (Kl q1 l1)))
theorem DJ{f:FN}{as:AD}{r:RP α}{fr:aw}{res:Res ax α}(h:sZ d Γ f as [] r fr res):PV d Γ (aQ f as) r fr res:=λσ g Fs R S=>h σ g Fs R [] S .nil
theorem zo4{c n:Nat}{L:α->ZU}{v:α}{w:W}{g:G}{F:Ft}{R:Rg}(q:(gY c n L).r v w g F R):∃l fs,qP g w=ah (l,c,fs):=by
 obtain⟨_,l,fs,Fa,rfl,h2,_⟩:=q;exact⟨l,fs,by simp only[qP,h2]⟩
end
section
variable{δ κ:Type}{d:Nat}{JE:δ->Ctx}{Γ:Ctx}{p:Res δ κ}{Cont:SA->Ctx->Res δ κ->Prop}{eE:aw->Ctx->Res δ κ->Prop}{α β γ ν ρ:Type}{r:RP α}{J:jc δ ν β ρ}
def Res.nox{δ δ' α:Type}(r:Res δ α):Res δ' α:=match r with
 | .ok a=>.ok a
 |_=>.bad
def yY(L:Nat) (g g':G):Prop:=g.length<=g'.length/\∀l,l<g.length->l ≠ L->g'[l]? = g[l]?
theorem yY.trans{L:Nat}{g g1 g2:G}(a:yY L g g1) (b:yY L g1 g2):yY L g g2:=⟨b_ a.1 b.1,λl hl hn=>(b.2 l (cu hl a.1) hn).trans (a.2 l hl hn)⟩
structure Km(d:Nat) (Γ:Ctx) (σ:Sg) (g:G) (Fs R:Rg) (L:Nat):Prop where
 S:Sat d Γ σ g Fs R
 aJ:∀i l,Fs i l->l ≠ L
 iI:∀j l,j<d->R j l->l ≠ L
 lt:L<g.length
theorem Km.ext{σ:Sg}{g g':G}{Fs R}{L:Nat}(S:Km d Γ σ g Fs R L) (e:yY L g g'):Km d Γ σ g' Fs R L where
 S:=S.S.kX (F:=one L) (Fo:=X.aJ) ⟨λl h=>by have h:l=L:=h;subst h;exact S.lt,λl h j hj hr=>S.iI j l hj hr h,λl h i hi=>S.aJ i l hi h⟩ ⟨e.1,λl hl hn=>e.2 l hl hn,λl h=>h.elim⟩
 aJ:=S.aJ
 iI:=S.iI
 lt:=cu S.lt e.1
def PI(d:Nat) (Γ:Ctx) (i:ID) (fb:β->W) (res:Res ax (List β)):Prop:=∀σ g Fs R,Sat d Γ σ g Fs R->res = .bad\/(∃e g',res = .ex e ()/\i σ g = .ex e.c e.fs g'/\Ext g g') \/
 ∃(xs:List β) (J:ZS) (g':G) (F:Ft),res = .ok xs/\i σ g = .ok J g'/\J.ws=xs.map fb/\Ext g g'/\(∀l,F l->(l<g.length/\(Own Fs l\/∃j,j<d/\R j l))\/(g.length<=l/\l<g'.length))/\∀eN:G,(∀l,F l->eN[l]? = g'[l]?)->ZI J eN=aj
end
section
variable{δ κ:Type}{d:Nat}{JE:δ->Ctx}{Γ:Ctx}{p:Res δ κ}{Cont:SA->Ctx->Res δ κ->Prop}{eE:aw->Ctx->Res δ κ->Prop}{α β γ ν ρ:Type}{r:RP α}{J:jc δ ν β ρ}
theorem Ext.mG{g g':G}{F F0:Ft}(e:Ext g g') (h:∀l,F l->F0 l\/g.length<=l):aZ F0 g F g':=⟨e.1,λl hl _=>e.2 l hl,h⟩
theorem zo6 [Z:bU r] {m:ED}{res:Res ax α}{x:δ}{k:α->Res δ κ}(h:PV d Γ m r aj res) (hx:Le Γ (JE x)) (c:∀v,Cont (own r v) Γ (k v)):EX d JE Γ m ((res.on λ_=>x).bind k) Cont:=λσ g Fs R S=>by
 rcases h σ g Fs R S with h|⟨y,g2,h1,h2,h3⟩|⟨v,w,g2,F,h1,h2,h3,h4,h5,h6⟩
 ·exact .inl (by rw[h];rfl)
 ·exact .inr (.inl ⟨y,x,g2,Fs,by rw[h1];rfl,h2,(S.ext h3).le hx,h3.mG λl hl=>.inl hl⟩)
 ·have n:=h6 rfl
  refine .inr (.inr ⟨own r v,Γ,w,g2,F,Fs,by rw[h1];exact c v,h2,⟨by show r.lv<=d;rw[Z.z];exact aF _,w,rfl,r.move h3 λ_ _=>rfl⟩,⟨h5,λl hl j hj hr=>by have:=n l hl;have:=S.cB j l hj hr;omega,λl hl i hi=>by have:=n l hl;have:=S.low i l hi;omega⟩,S.ext h4,h4.mG λl hl=>hl.elim (λz=>.inr (n l z)) .inl⟩)
theorem yZ [Z:bU r] {m:ED}{res:Res ax α}{k:α->Res δ κ}(h:PV d Γ m r aj res) (c:∀v,Cont (own r v) Γ (k v)):EX d JE Γ m (res.nox.bind k) Cont:=λσ g Fs R S=>by
 rcases h σ g Fs R S with h|⟨y,g2,h1,h2,h3⟩|⟨v,w,g2,F,h1,h2,h3,h4,h5,h6⟩
 ·exact .inl (by rw[h];rfl)
 ·exact .inl (by rw[h1];rfl)
 ·have n:=h6 rfl
  refine .inr (.inr ⟨own r v,Γ,w,g2,F,Fs,by rw[h1];exact c v,h2,⟨by show r.lv<=d;rw[Z.z];exact aF _,w,rfl,r.move h3 λ_ _=>rfl⟩,⟨h5,λl hl j hj hr=>by have:=n l hl;have:=S.cB j l hj hr;omega,λl hl i hi=>by have:=n l hl;have:=S.low i l hi;omega⟩,S.ext h4,h4.mG λl hl=>hl.elim (λz=>.inr (n l z)) .inl⟩)
theorem zo7{m:TD}{res:Res ax aw}{x:δ}{k:aw->Res δ κ}(h:PB d Γ m res) (hx:Le Γ (JE x)) (c:∀b,eE b Γ (k b)):TX d JE Γ m ((res.on λ_=>x).bind k) eE:=λσ g Fs R S=>by
 rcases h σ g Fs R S with h|⟨y,g2,h1,h2,h3⟩|⟨v,g2,h1,h2,h4⟩
 ·exact .inl (by rw[h];rfl)
 ·exact .inr (.inl ⟨y,x,g2,Fs,by rw[h1];rfl,h2,(S.ext h3).le hx,h3.mG λl hl=>.inl hl⟩)
 ·exact .inr (.inr ⟨v,Γ,v,g2,aJ,Fs,by rw[h1];exact c v,h2,rfl,.no,S.ext h4,h4.mG λl hl=>hl.elim (λz=>z.elim) .inl⟩)
theorem vC{m:TD}{res:Res ax aw}{k:aw->Res δ κ}(h:PB d Γ m res) (c:∀b,eE b Γ (k b)):TX d JE Γ m (res.nox.bind k) eE:=λσ g Fs R S=>by
 rcases h σ g Fs R S with h|⟨y,g2,h1,h2,h3⟩|⟨v,g2,h1,h2,h4⟩
 ·exact .inl (by rw[h];rfl)
 ·exact .inl (by rw[h1];rfl)
 ·exact .inr (.inr ⟨v,Γ,v,g2,aJ,Fs,by rw[h1];exact c v,h2,rfl,.no,S.ext h4,h4.mG λl hl=>hl.elim (λz=>z.elim) .inl⟩)
def PT(d:Nat) (Γ:Ctx) (as:AD) (tw:β->List W) (ps:Res ax β):Prop:=∀σ g Fs R,Sat d Γ σ g Fs R ->
 ps = .bad\/(∃e g',ps = .ex e ()/\as σ g = .ex e.c e.fs g'/\Ext g g')\/∃v g',ps = .ok v/\as σ g = .ok (tw v) g'/\Ext g g'
theorem y0:PT d Γ zv (λ_:ax=>[]) (.ok ()):=λσ g Fs R S=>.inr (.inr ⟨(),g,rfl,rfl,.refl⟩)
theorem Kn{a:ED}{as:AD}{f:α->W}{tw:β->List W}{pa:Res ax α}{ps:Res ax β}(ha:PV d Γ a (val f) ak pa) (hs:PT d Γ as tw ps):PT d Γ (ze a as) (λv:α×β=>f v.1 :: tw v.2) (pa.bind λv=>ps.bind λu=>.ok (v,u)):=λσ g Fs R S=>by
 rcases ha σ g Fs R S with h|⟨y,g2,h1,h2,h3⟩|⟨v,w,g2,F,h1,h2,h3,h4,h5,h6⟩
 ·exact .inl (by rw[h];rfl)
 ·exact .inr (.inl ⟨y,g2,by rw[h1];rfl,by unfold ze;rw[h2];rfl,h3⟩)
 ·have h3:w=f v:=h3
  subst h3;rcases hs σ g2 Fs R (S.ext h4) with h|⟨y,g3,k1,k2,k3⟩|⟨u,g3,k1,k2,k3⟩
  ·exact .inl (by rw[h1,h];rfl)
  ·exact .inr (.inl ⟨y,g3,by rw[h1,k1];rfl,by unfold ze;rw[h2];dsimp only[Out.bind];rw[k2],h4.trans k3⟩)
  ·exact .inr (.inr ⟨(v,u),g3,by rw[h1,k1];rfl,by unfold ze;rw[h2];dsimp only[Out.bind];rw[k2],h4.trans k3⟩)
theorem zo8{f:α->W}{xs:List α}{g g':G}{fr:aw}(e:Ext g g') (hf:fits xs.length=aj):OV (.ok (.ref g'.length) (g'++[.lst (xs.map f)])) g (zd (val f)) fr (.ok xs):=
 .inr (.inr ⟨xs,_,_,one g'.length,rfl,rfl,jh.mpr ⟨_,rfl,by simp,rfl,hf⟩,e.trans .app,λl hl=>by have hl:l=g'.length:=hl;subst hl;simp,λ_ l hl=>by have hl:l=g'.length:=hl;subst hl;exact e.1⟩)
theorem y3{as:AD}{tw:β->List W}{ps:Res ax β}{f:α->W}{fr:aw}(mk:β->List α) (h:∀v,(mk v).map f=tw v/\fits (mk v).length=aj) (hs:PT d Γ as tw ps):PV d Γ (jA as) (zd (val f)) fr (ps.bind λv=>.ok (mk v)):=λσ g Fs R S=>by
 rcases hs σ g Fs R S with h|⟨y,g3,k1,k2,k3⟩|⟨u,g3,k1,k2,k3⟩
 ·exact .inl (by rw[h];rfl)
 ·exact .inr (.inl ⟨y,g3,by rw[k1];rfl,by unfold jA;rw[k2];rfl,k3⟩)
 ·rw[k1]
  have e:jA as σ g = .ok (.ref g3.length) (g3++[.lst ((mk u).map f)]):=by unfold jA;rw[k2];dsimp only[Out.bind];rw[<- (h u).1,cf,(h u).2,aG rfl]
  rw[e];exact zo8 k3 (h u).2
instance {m1 m2:Nat}{r1:RP α}{r2:RP β} [D1:zV r1 m1] [D2:zV r2 m2]:zV (kM r1 r2) (max m1 m2) where
 to:=λv=>.tuple [D1.to v.1,D2.to v.2]
 at_:=λ{v w g F R} ⟨w1,w2,F1,F2,e,q1,q2,_⟩ k hk=>by
  subst e;show(toDgs (aW g k) [w1,w2]).map PyData.tuple=_
  have:toDgs (aW g k) [w1,w2]=ah [D1.to v.1,D2.to v.2]:=by
   show(match j3 (aW g k) w1,toDgs (aW g k) [w2]with|some d,ah ds=>ah (d :: ds)|_,_=>ai)=_
   have e2:toDgs (aW g k) [w2]=ah [D2.to v.2]:=by
    show(match j3 (aW g k) w2,toDgs (aW g k) []with|some d,ah ds=>ah (d :: ds)|_,_=>ai)=_;rw[D2.at_ q2 k (by omega)];rfl
   rw[D1.at_ q1 k (by omega),e2]
  rw[this];rfl
def PD(d:Nat) (Γ:Ctx) (as:AD) (m n:Nat) (ps:Res ax (List bF)):Prop:=∀σ g Fs R,Sat d Γ σ g Fs R ->
 ps = .bad\/(∃e g',ps = .ex e ()/\as σ g = .ex e.c e.fs g'/\Ext g g')\/∃(ds:List bF) (ws:List W) (g':G) (F:Ft),ps = .ok ds/\as σ g = .ok ws g'/\Ext g g'/\(∀l,F l->g.length<=l/\l<g'.length)/\(ds.length=n/\ds.length=ws.length)/\∀eN:G,(∀l,F l->eN[l]? = g'[l]?)->∀k,m<=k->toDgs (aW eN k) ws=ah ds
theorem vD{m:Nat}:PD d Γ zv m 0 (.ok []):=λσ g Fs R S=>.inr (.inr ⟨[],[],g,aJ,rfl,rfl,.refl,λ_ h=>h.elim,⟨rfl,rfl⟩,λ_ _ _ _=>rfl⟩)
theorem Jo{a:ED}{as:AD}{m n m1:Nat} [Z:bU r] [D:zV r m1] (hm:cy m1 m=aj) {pa:Res ax α}{ps:Res ax (List bF)}(ha:PV d Γ a r aj pa) (hs:PD d Γ as m n ps):PD d Γ (ze a as) m (n+1) (pa.bind λv=>ps.bind λu=>.ok (D.to v :: u)):=λσ g Fs R S=>by
 rcases ha σ g Fs R S with h|⟨y,g2,h1,h2,h3⟩|⟨v,w,g2,F,h1,h2,h3,h4,h5,h6⟩
 ·exact .inl (by rw[h];rfl)
 ·exact .inr (.inl ⟨y,g2,by rw[h1];rfl,by unfold ze;rw[h2];rfl,h3⟩)
 ·have n:=h6 rfl
  rcases hs σ g2 Fs R (S.ext h4) with h|⟨y,g3,k1,k2,k3⟩|⟨ds,ws,g3,F2,k1,k2,k3,k4,kl,k5⟩
  ·exact .inl (by rw[h1,h];rfl)
  ·exact .inr (.inl ⟨y,g3,by rw[h1,k1];rfl,by unfold ze;rw[h2];dsimp only[Out.bind];rw[k2],h4.trans k3⟩)
  ·refine .inr (.inr ⟨D.to v :: ds,w :: ws,g3,λl=>F l\/F2 l,by rw[h1,k1];rfl,by unfold ze;rw[h2];dsimp only[Out.bind];rw[k2],h4.trans k3,λl hl=>?_,⟨by simp[kl.1],by simp[kl.2]⟩,λeN hg k hk=>?_⟩)
   ·rcases hl with hl|hl
    ·exact⟨n l hl,cu (h5 l hl) k3.1⟩
    ·exact⟨b_ h4.1 (k4 l hl).1,(k4 l hl).2⟩
   ·show(match j3 (aW eN k) w,toDgs (aW eN k) ws with|some d,ah ds=>ah (d :: ds)|_,_=>ai)=_
    have q:r.r v w eN F iI:=r.move h3 λl hl=>(hg l (.inl hl)).trans (k3.2 l (h5 l hl));rw[D.at_ q k (b_ (gJ hm) hk),k5 eN (λl hl=>hg l (.inr hl)) k hk]
abbrev Jp:RP bF:=DF 4
instance {m:Nat}:bU (DF m):=⟨rfl⟩
theorem vE{as:AD}{n:Nat}{ps:Res ax (List bF)}{fr:aw}(hn:fits n=aj) (hs:PD d Γ as 3 n ps):PV d Γ (jA as) Jp fr (ps.bind λds=>.ok (.list ds)):=λσ g Fs R S=>by
 rcases hs σ g Fs R S with h|⟨y,g3,k1,k2,k3⟩|⟨ds,ws,g3,F2,k1,k2,k3,k4,kl,k5⟩
 ·exact .inl (by rw[h];rfl)
 ·exact .inr (.inl ⟨y,g3,by rw[k1];rfl,by unfold jA;rw[k2];rfl,k3⟩)
 ·rw[k1]
  show OV _ _ _ _ (.ok (PyData.list ds));have hf:fits ds.length=aj:=by rw[kl.1];exact hn
  have e:jA as σ g = .ok (.ref g3.length) (g3++[.lst ws]):=by unfold jA;rw[k2];dsimp only[Out.bind];rw[<- kl.2,hf,aG rfl]
  rw[e];refine .inr (.inr ⟨.list ds,_,_,λl=>F2 l\/l=g3.length,rfl,rfl,λg' hg k hk=>?_,k3.trans .app,λl hl=>?_,λ_ l hl=>?_⟩)
  ·obtain⟨k,rfl⟩:∃j,k=j+1:=⟨k - 1,by omega⟩
   show aW g' (k+1) g3.length=_;unfold aW;rw[hg _ (.inr rfl),Vl];dsimp only;rw[k5 g' (λl hl=>(hg l (.inl hl)).trans (cK (k4 l hl).2)) k (by omega)];rfl
  ·rcases hl with hl|hl
   ·have:=(k4 l hl).2;simp;omega
   ·subst hl;simp
  ·rcases hl with hl|hl
   ·exact(k4 l hl).1
   ·subst hl;exact k3.1
end
section
variable{δ κ:Type}{d:Nat}{JE:δ->Ctx}{Γ:Ctx}{p:Res δ κ}{Cont:SA->Ctx->Res δ κ->Prop}{eE:aw->Ctx->Res δ κ->Prop}{α β γ ν ρ:Type}{r:RP α}{J:jc δ ν β ρ}
def Mx(k:Nat) {α:Type}(r:RP α):RP α where
 r:=λv w g F R=>∃F',(∀l,F' l->F l\/∃j,j<=k/\R j l)/\r.r v w g F' R
 lv:=max (k+1) r.lv
 loc:=λ{v w g g' F R R'} ⟨F',h1,h2⟩ a b=>⟨F',λl hl=>by
   rcases h1 l hl with h|⟨j,hj,hr⟩
   ·exact .inl h
   ·exact .inr ⟨j,hj,(b j l (by omega) hr).1⟩,r.loc h2 (λl hl=>by
   rcases h1 l hl with h|⟨j,hj,hr⟩
   ·exact a l h
   ·exact(b j l (by omega) hr).2) λk l hk hr=>b k l (by omega) hr⟩
 wk:=λ⟨F',h1,h2⟩ e=>⟨F',λl hl=>(h1 l hl).imp (e l) id,h2⟩
end
section
variable{δ κ:Type}{d:Nat}{JE:δ->Ctx}{Γ:Ctx}{p:Res δ κ}{Cont:SA->Ctx->Res δ κ->Prop}{eE:aw->Ctx->Res δ κ->Prop}{α β γ ν ρ:Type}{r:RP α}{J:jc δ ν β ρ}{q:RF δ ν β ρ}
def y4{α:Type} [DecidableEq α] (o:au α) (xs:List α):aw:=match o with
 |some x=>ZL x xs
 |none=>ak
theorem zi2{dd:qf}{f:α->W} [Fl:lE f] [N:NN f] [DecidableEq α]:OpR (δ:=δ) (ZY dd) (val (zE f)) (zd (val f)) z8 (λx xs=>.ok (!y4 x xs)):=⟨λ{x xs w1 w2 g F1 F2 R} e1 q2=>by
 have q2':(zd (val (zE f))).r (xs.map ah) w2 g F2 R:=by
  obtain⟨l,rfl,h2,h3,h4⟩:=jh.mp q2;exact jh.mpr ⟨l,rfl,by rw[mW];exact h2,h3,by rw[cf];exact h4⟩
 have:=(Jb (δ:=δ) (dd:=dd) (f:=zE f)).to e1 q2'
 have e:ZL x (xs.map ah)=y4 x xs:=by
  cases x <;> simp[y4,ZL]
 rw[e]at this;exact this⟩
end
section
variable{δ κ:Type}{d:Nat}{JE:δ->Ctx}{Γ:Ctx}{p:Res δ κ}{Cont:SA->Ctx->Res δ κ->Prop}{eE:aw->Ctx->Res δ κ->Prop}{α β γ ν ρ:Type}{r:RP α}{J:jc δ ν β ρ}{q:RF δ ν β ρ}
def Res.xb{δ1 δ α:Type}(fF:List (Nat×aw)) (r:Res δ1 α) (suite:eW->δ1->Res aE α):Res δ α:=match r with
 | .ok a=>.ok a
 | .ex e x=>match fE e.c fF with
  |some aj=>(suite e x).up
  |_=>.bad
 | .bad=>.bad
theorem RM{δ1:Type}{fF:List (Nat×aw)}{i:Nat}{body:SD}{suite:Nat->List (Nat×W)->SD}{pb:RF δ1 ν β ρ}{ps:eW->δ1->RF aE ν β ρ}(E1:δ1->Ctx) (hb:SX d { N:=J.N,B:=J.B,E:=E1,post:=J.post,ow:=J.ow } Γ body pb) (RN:∀x,bW (E1 x) i=ah .any)
  (hN:∀s,bW (J.N s) i=ah .any) (hB:∀s,bW (J.B s) i=ah .any) (hs:∀(e:eW) (x:δ1),SX d { N:=J.N,B:=J.B,E:=bX,post:=J.post,ow:=J.ow } (E1 x) (suite e.c e.fs) (ps e x)):SX d J Γ (mz fF i body suite) (pb.xb fF ps):=λσ g Fs R S=>by
 have key:∀{out:Fl},body σ g=out->(∀c fs σ' g',out ≠ .ex c fs σ' g')->mz fF i body suite σ g=out:=λe hn=>by
  unfold mz;rw[e]
  split
  ·rename_i c fs σ' g' z;exact br rfl (hn _ _ _ _)
  ·rfl
 rcases hb σ g Fs R S with rfl|⟨e,x,σ',g',aA,rfl,h2,h3,h4⟩|⟨s,σ',g',aA,rfl,h2,h3,h4⟩|⟨s,σ',g',aA,rfl,h2,h3,h4⟩|⟨s,σ',g',aA,rfl,h2,h3,h4⟩|⟨t,w,g',F1,Fo,rfl,h2,h3,h4,h5,h6,h7⟩
 ·exact .inl rfl
 ·have e1:mz fF i body suite σ g=match fE e.c fF with
    |some aj=>if i<σ'.length then Hw i (suite e.c e.fs (σ'.set i (ah .dA)) g') else .bad
    |some ak=>.ex e.c e.fs σ' g'
    |none=>.bad:=by
   unfold mz;rw[h2]
   all_goals rfl
  rw[e1];unfold Res.xb;dsimp only
  cases hc:fE e.c fF with
  |none=>exact .inl rfl
  |some b=>
   cases b with
   |false=>exact .inl rfl
   |true=>
    dsimp only
    have lt:i<σ'.length:=by
     have:=RN x;rw[jQ]at this;rw[h3.len];exact(bP.mp this).1
    rw[aG lt];obtain⟨aV,S2,h5⟩:=h3.BL (o:=ah .dA) (RN x);refine jT.step (h4.sub h5) ?_;rcases hs e x (σ'.set i (ah .dA)) g' aV R S2 with q0|⟨_,z,_⟩|⟨s,σ2,g2,sS,q0,q2,q3,q4⟩|⟨s,σ2,g2,sS,q0,q2,q3,q4⟩|⟨s,σ2,g2,sS,q0,q2,q3,q4⟩|⟨t,w,g2,F1,Fo,q0,q2,q3,q4,q5,q6,q7⟩
    ·rw[q0];exact .inl rfl
    ·nomatch z
    ·obtain⟨pK,S4,h6⟩:=q3.BL (o:=ai) (hN s)
     rw[q0,q2];exact .inr (.inr (.inl ⟨s,_,g2,pK,rfl,rfl,S4,q4.sub h6⟩))
    ·obtain⟨pK,S4,h6⟩:=q3.BL (o:=ai) (hB s)
     rw[q0,q2];exact .inr (.inr (.inr (.inl ⟨s,_,g2,pK,rfl,rfl,S4,q4.sub h6⟩)))
    ·obtain⟨pK,S4,h6⟩:=q3.BL (o:=ai) (hB s)
     rw[q0,q2];exact .inr (.inr (.inr (.inr (.inl ⟨s,_,g2,pK,rfl,rfl,S4,q4.sub h6⟩))))
    ·rw[q0,q2]
     exact .inr (.inr (.inr (.inr (.inr ⟨t,w,g2,F1,Fo,rfl,rfl,q3,q4,q5,q6,q7⟩))))
 ·rw[key h2 (λ_ _ _ _=>nofun)];exact .inr (.inr (.inl ⟨s,σ',g',aA,rfl,rfl,h3,h4⟩))
 ·rw[key h2 (λ_ _ _ _=>nofun)];exact .inr (.inr (.inr (.inl ⟨s,σ',g',aA,rfl,rfl,h3,h4⟩)))
 ·rw[key h2 (λ_ _ _ _=>nofun)];exact .inr (.inr (.inr (.inr (.inl ⟨s,σ',g',aA,rfl,rfl,h3,h4⟩))))
 ·rw[key h2 (λ_ _ _ _=>nofun)];exact .inr (.inr (.inr (.inr (.inr ⟨t,w,g',F1,Fo,rfl,rfl,h3,h4,h5,h6,h7⟩))))
inductive zi3 (m:Nat):Ctx->List bF->Prop where
 |nil:zi3 m [] []
 |cons {τ1:Type}{r1:RP τ1}{m1:Nat}{v:τ1}{A:Ctx}{ds:List bF}(z:r1.lv=0) (D:zV r1 m1) (hm:cy m1 m=aj) (t:zi3 m A ds):zi3 m (own r1 v :: A) (D.to v :: ds)
theorem zi3.read{m:Nat}{A:Ctx}{ds:List bF}(h:zi3 m A ds):∀{ws:List W}{g:G}{Fa R:Rg},AE A ws g Fa R->ds.length=ws.length/\∀g':G,(∀i l,Fa i l->g'[l]? = g[l]?)->∀k,m<=k->toDgs (aW g' k) ws=ah ds:=by
 induction h with
 |nil=>
  intro ws g Fa R ae;have:ws=[]:=oz ae.1;subst this;exact⟨rfl,λ_ _ _ _=>rfl⟩
 | @cons τ1 r1 m1 v A ds z D hm t ih=>
  intro ws g Fa R ae
  cases ws with
  |nil=>have:=ae.1;simp at this
  |cons w ws=>
   obtain⟨w',e,w2,e2,q⟩:=ae.2.1 0 (own r1 v) rfl;simp at e;subst e;cases e2;have Dj:AE A ws g (λi=>Fa (i+1)) R:=⟨by simpa using ae.1,λi a hi=>by simpa using ae.2.1 (i+1) a (by simpa using hi),λi j l hi hj=>by have:=ae.2.2 _ _ l hi hj;omega⟩
   obtain⟨hl,ih⟩:=ih Dj;refine⟨by simp[hl],λg' hg k hk=>?_⟩;show(match j3 (aW g' k) w,toDgs (aW g' k) ws with|some d,ah ds=>ah (d :: ds)|_,_=>ai)=_;have q':r1.r v w g' (Fa 0) R:=r1.loc q (hg 0) λk l hk=>br hk (by omega);rw[D.at_ q' k (b_ (gJ hm) hk),ih g' (λi l hl=>hg (i+1) l hl) k hk]
theorem vF{as:AD}(h:AX d JE Γ as p λA Γ' q=>∃ds,zi3 3 A ds/\fits ds.length=aj/\Cont (own Jp (.list ds)) Γ' q):EX d JE Γ (jA as) p Cont:=λσ g Fs R S=>
 qB.bind (h σ g Fs R S) λA Γ1 ws g1 F1 aP ⟨ds,hd,hf,c⟩ rA B1 S1 cG=>by
  obtain⟨Fa,h1,h4⟩:=rA;obtain⟨hl,rd⟩:=hd.read (AE.of h1);rw[<- hl,aG hf];refine .inr (.inr ⟨_,Γ1,.ref g1.length,_,λl=>F1 l\/l=g1.length,aP,c,rfl,⟨aF _,_,rfl,λg' hg k hk=>?_⟩,⟨λl hl=>?_,λl hl=>?_,λl hl=>?_⟩,S1.ext .app,⟨by simp,λl hl _=>cK hl,λl hl=>?_⟩⟩)
  ·obtain⟨k,rfl⟩:∃j,k=j+1:=⟨k - 1,by omega⟩
   show aW g' (k+1) g1.length=_;unfold aW;rw[hg _ (.inr rfl),Vl];dsimp only;rw[rd g' (λi l hl=>(hg l (.inl (h4 i l hl))).trans (cK (B1.low l (h4 i l hl)))) k (by omega)];rfl
  ·rcases hl with hl|hl
   ·have:=B1.low l hl;simp;omega
   ·subst hl;simp
  ·rcases hl with hl|hl
   ·exact B1.apart l hl
   ·intro j hj hr;have:=S1.cB j l hj hr;omega
  ·rcases hl with hl|hl
   ·exact B1.own l hl
   ·intro i hi;have:=S1.low i l hi;omega
  ·rcases hl with(hl|hl)|hl
   ·exact .inl (.inl hl)
   ·exact .inr (by omega)
   ·exact .inl (.inr hl)
theorem z9{δ α β:Type}{v:α}{f:α->Res δ β}:(Res.ok v:Res δ α).bind f=f v:=(rfl)
theorem zA{δ α β γ:Type}{a:Res δ α}{f:α->Res δ β}{g:β->Res δ γ}:(a.bind f).bind g=a.bind λx=>(f x).bind g:=by cases a <;> rfl
theorem zH{δ δ' α:Type}{a:α}:(Res.ok a:Res δ α).nox (δ':=δ') = .ok a:=(rfl)
theorem zI{v:bF}:zV.to Jp v=v:=(rfl)
theorem qa{δ α:Type}{r:Res δ α}:(r.bind λv=>.ok v)=r:=by cases r <;> rfl
theorem zD{b:aw}:lG.sU z8 b=b:=(rfl)
theorem zJ{i:Int}:lG.sU zg i=(i != 0):=(rfl)
theorem zK{r:RP α}{l:List α}:lG.sU (zd r) l = !l.isEmpty:=(rfl)
theorem qb{f:α->W}{l:List α}:lG.sU (val (iD f)) l = !l.isEmpty:=(rfl)
end
section
variable{δ κ:Type}{d:Nat}{JE:δ->Ctx}{Γ:Ctx}{p:Res δ κ}{Cont:SA->Ctx->Res δ κ->Prop}{α β γ ν ρ:Type}{r:RP α}
end
section
variable{δ κ:Type}{d:Nat}{JE:δ->Ctx}{Γ:Ctx}{α β γ ν ρ:Type}{r:RP α}
theorem zo9{t:JB}{r1:RP α}{r2:RP β}{b:aw}(h:getT "tuple" t.bi=ah b):DB t (kM r1 r2) b:=⟨λ{v w g F R} ⟨w1,w2,F1,F2,e,_⟩=>by subst e;exact h⟩
theorem zlj{r1:RP α}{r2:RP β}:FnR (δ:=δ) QK (kM r1 r2) zg (λ_=>.ok (2:Int)):=⟨λ{xs w g F R} ⟨w1,w2,F1,F2,e,_⟩=>by
 subst e;exact .inr ⟨_,.int 2,aJ,rfl,rfl,rfl⟩⟩
theorem RQ{dd:qf}{a:ED}{r1:RP α}{r2:RP β}{pa:Res δ (α×β)}(ha:av d Γ a (kM r1 r2) pa):av d Γ (zw (zS dd) a (eC (.int 0))) r1 (pa.bind λv=>.ok v.1):=λσ g Fs R S=>by
 rcases ha σ g Fs R S with rfl|⟨v,w,F,rfl,e,w1,w2,F1,F2,rfl,q1,q2,_⟩
 ·exact .inl rfl
 ·exact .inr ⟨v.1,w1,F1,rfl,by unfold zw;rw[e];rfl,q1⟩
theorem RR{dd:qf}{a:ED}{r1:RP α}{r2:RP β}{pa:Res δ (α×β)}(ha:av d Γ a (kM r1 r2) pa):av d Γ (zw (zS dd) a (eC (.int 1))) r2 (pa.bind λv=>.ok v.2):=λσ g Fs R S=>by
 rcases ha σ g Fs R S with rfl|⟨v,w,F,rfl,e,w1,w2,F1,F2,rfl,q1,q2,_⟩
 ·exact .inl rfl
 ·exact .inr ⟨v.2,w2,F2,rfl,by unfold zw;rw[e];rfl,q2⟩
instance {n1 n2 m1 m2:Nat}{r1:RP α}{r2:RP β} [D1:gz r1 n1 m1] [D2:gz r2 n2 m2]:gz (kM r1 r2) (max n1 n2+1) (max m1 m2) where
 to:=λv=>.tuple [D1.to v.1,D2.to v.2]
 at_:=λ{v w g F R} ⟨w1,w2,F1,F2,e,q1,q2,_⟩ k hk=>by
  subst e;show(toDgs (aW g k) [w1,w2]).map PyData.tuple=_
  have:toDgs (aW g k) [w1,w2]=ah [D1.to v.1,D2.to v.2]:=by
   show(match j3 (aW g k) w1,toDgs (aW g k) [w2]with|some d,ah ds=>ah (d :: ds)|_,_=>ai)=_
   have e2:toDgs (aW g k) [w2]=ah [D2.to v.2]:=by
    show(match j3 (aW g k) w2,toDgs (aW g k) []with|some d,ah ds=>ah (d :: ds)|_,_=>ai)=_;rw[D2.at_ q2 k (by omega)];rfl
   rw[D1.at_ q1 k (by omega),e2]
  rw[this];rfl
 lay:=λv=>by simp[PyData.canLay0,PyData.canLayAll0,D1.lay,D2.lay]
 dep:=λv=>by
  have h1:=D1.dep v.1;have h2:=D2.dep v.2;simp only[PyData.depth,PyData.depthAll];omega
 inj:=λa b=>by
  simp only[PyData.eqv,PyData.eqvAll,pZ,dV];rw[D1.inj,D2.inj];exact⟨λh=>Prod.ext h.1 h.2,λh=>by rw[h];exact⟨rfl,rfl⟩⟩
def y6{δ α:Type}(xs:List α) (k:Int):Res δ (List α):=aL (decide (0<=k/\k<1000/\xs.length<1000)) (.ok (fQ k.toNat xs).flatten) .bad
theorem zng{Cont:SA->Ctx->Res δ κ->Prop}{x:SA}{f:α->W}{xs:List α}{i:Int}{k:List α->Res δ κ}(h1:gA d Γ x (zd (val f)) xs) (c:∀v,Cont (own (zd (val f)) v) Γ (k v)):dC d JE gq x (own zg i) Γ ((y6 xs i).bind k) Cont:=λσ g Fs R wx wy Fx Fy S hx hy Bx By _=>by
 obtain⟨F1,q1⟩:=h1.to S hx.2;obtain⟨l,rfl,a2,a3,a4⟩:=jh.mp q1;obtain⟨_,w2,e2,q2⟩:=hy;cases e2;have q2:wy = .int i:=q2;subst q2;unfold y6
 by_cases hd:0<=i/\i<1000/\xs.length<1000
 ·rw[bJ hd]
  have ef:∀n:Nat,((fQ n xs).flatten).map f=(fQ n (xs.map f)).flatten:=λn=>by
   induction n with
   |zero=>rfl
   |succ n ih=>rw[Bm,Bm,Bo,Bo,BA,ih]
  have e:gq (.ref l) (.int i) g = .ok (.ref g.length) (g++[.lst (((fQ i.toNat xs).flatten).map f)]):=by
   simp only[gq,ql,a2,cf];rw[aG hd,ef]
  rw[e];refine Q8 S ?_ (c _) λl hl=>.inr (.inr hl)
  have hl:(fQ i.toNat xs).flatten.length<=1000 * 1000:=by
   have el:∀n:Nat,(fQ n xs).flatten.length=n * xs.length:=λn=>by
    induction n with
    |zero=>simp
    |succ n ih=>rw[Bm,Bo,dw,ih,Nat.succ_mul];omega
   rw[el];exact Bp (by omega) (by omega)
  unfold fits;exact bJ (by omega)
 ·rw[fP hd]
  exact .inl rfl
end
end X
end WL
end
section
namespace WL
namespace X
open PySem
open L2 (atI ixN eqV)
variable{δ κ:Type}{d:Nat}{JE:δ->Ctx}{Γ:Ctx}{p:Res δ κ}{Cont:SA->Ctx->Res δ κ->Prop}{α β γ ν ν' ρ:Type}{r:RP α}{J:jc δ ν β ρ}{q:RF δ ν β ρ}
inductive nP:ZU->ZU->Prop where
 |nil:nP [] []
 |cons {i:Nat}{a b:SA}{fl i8:ZU}(h:a.le b) (t:nP fl i8):nP ((i,a) :: fl) ((i,b) :: i8)
theorem nP.len{fl i8:ZU}(h:nP fl i8):fl.length=i8.length:=by
 induction h with
 |nil=>rfl
 |cons _ _ ih=>simp[ih]
theorem nP.lv{fl i8:ZU}(h:nP fl i8):eY i8<=eY fl:=by
 induction h with
 |nil=>exact bC _
 | @cons i a b fl i8 h t ih=>
  show max b.lv (eY i8)<=max a.lv (eY fl);have:=h.lv;omega
theorem nP.get{fl i8:ZU}(h:nP fl i8):∀{j:Nat}{fb:Nat×SA},i8[j]? = ah fb->∃a:SA,fl[j]? = ah (fb.1,a)/\a.le fb.2:=by
 induction h with
 |nil=>intro j fb e;simp at e
 |cons iA t ih=>
  intro j fb e
  cases j with
  |zero=>simp at e;subst e;exact⟨_,rfl,iA⟩
  |succ j=>simpa using ih (by simpa using e)
theorem SA.le_trans{a b c:SA}(h:a.le b) (k:b.le c):a.le c:=⟨λq=>k.to (h.to q),b_ k.lv h.lv⟩
end X
end WL
end
section
namespace WL
namespace X
open PySem
open L2 (atI ixN eqV Key)
section
variable{δ κ:Type}{d:Nat}{JE:δ->Ctx}{Γ:Ctx}{p:Res δ κ}{Cont:SA->Ctx->Res δ κ->Prop}{α β γ ν ρ:Type}{r:RP α}{J:jc δ ν β ρ}
def PW(d:Nat) (Γ:Ctx) (as:AD) (f:β->W) (res:Res ax (List β)):Prop:=∀σ g Fs R,Sat d Γ σ g Fs R ->
 res = .bad\/(∃e g',res = .ex e ()/\as σ g = .ex e.c e.fs g'/\Ext g g')\/∃v g',res = .ok v/\as σ g = .ok (v.map f) g'/\Ext g g'
end
section
variable{δ κ:Type}{d:Nat}{JE:δ->Ctx}{Γ:Ctx}{p:Res δ κ}{Cont:SA->Ctx->Res δ κ->Prop}{α β γ ν ρ:Type}{r:RP α}{J:jc δ ν β ρ}
def zqg(r:RP α):RP (List α) where
 r:=λxs w g F R=>∃l ws,w = .ref l/\g[l]? = ah (.lst ws)/\F l/\fits xs.length=aj/\ws.length=xs.length/\∀(i:Nat) (x:α),xs[i]? = ah x->∃u,ws[i]? = ah u/\r.r x u g F R
 lv:=r.lv
 loc:=λ⟨l,ws,h1,h2,h3,h4,h5,h6⟩ e1 e2=>⟨l,ws,h1,by rw[e1 l h3];exact h2,h3,h4,h5,λi x hx=>by
  obtain⟨u,hu,q⟩:=h6 i x hx;exact⟨u,hu,r.loc q e1 e2⟩⟩
 wk:=λ⟨l,ws,h1,h2,h3,h4,h5,h6⟩ e=>⟨l,ws,h1,h2,e l h3,h4,h5,λi x hx=>by
  obtain⟨u,hu,q⟩:=h6 i x hx;exact⟨u,hu,r.wk q e⟩⟩
instance {r:RP α} [Z:bU r]:bU (zqg r):=⟨Z.z⟩
end
end X
end WL
end
section
namespace WL
end WL
end
section
namespace WL
namespace X
open PySem
open L2 (atI ixN eqV Key)
section
variable{δ κ:Type}{d:Nat}{JE:δ->Ctx}{Γ:Ctx}{p:Res δ κ}{Cont:SA->Ctx->Res δ κ->Prop}{α β γ ν ρ:Type}{r:RP α}{J:jc δ ν β ρ}
abbrev SI:=Sum ao Int
def eSI:SI->W
 | .inl s=>.str s.1
 | .inr i=>.int i
instance:DecidableEq SI:=inferInstance
instance:Dat eSI 0 where
 to:=λv=>match v with
  | .inl s=>.str s.1
  | .inr i=>.int i
 at_:=λrf v=>by cases v <;> rfl
 lay:=λv=>by
  cases v with
  |inl s=>exact s.2
  |inr i=>rfl
 dep:=λv=>by cases v <;> exact bC _
 inj:=λa b=>by
  cases a with
  |inl s=>cases b with
   |inl t=>
    rw[Sum.inl.injEq];exact(inferInstance:Dat zC 0).inj s t
   |inr j=>simp[PyData.eqv]
  |inr i=>cases b with
   |inl t=>simp[PyData.eqv]
   |inr j=>
    rw[Sum.inr.injEq];exact(inferInstance:Dat zm 0).inj i j
instance {k m:Nat}{r:RP α} [D:zV r m]:zV (Mx k r) m:=⟨D.to,λ⟨F',_,h⟩=>D.at_ h⟩
end
section
variable{δ κ:Type}{d:Nat}{JE:δ->Ctx}{Γ:Ctx}{p:Res δ κ}{Cont:SA->Ctx->Res δ κ->Prop}{α β γ ν ρ:Type}{r:RP α}{J:jc δ ν β ρ}{res:Res δ α}
inductive Dt where
 |non|int (i:Int)|str (s:ao)|tup (xs:List Dt)
mutual
def eD:Dt->W
 | .non=>.non
 | .int i=>.int i
 | .str s=>.str s.1
 | .tup xs=>.tup (mM xs)
def mM:List Dt->List W
 |[]=>[]
 |x :: xs=>eD x :: mM xs
end
theorem JW:∀xs:List Dt,mM xs=xs.map eD
 |[]=>rfl
 |x :: xs=>by rw[mM,JW xs];rfl
mutual
def DK:Dt->bF
 | .non=>.none
 | .int i=>.int i
 | .str s=>.str s.1
 | .tup xs=>.tuple (F9 xs)
def F9:List Dt->List bF
 |[]=>[]
 |x :: xs=>DK x :: F9 xs
end
mutual
theorem RT(rf:Nat->au bF):∀x:Dt,j3 rf (eD x)=ah (DK x)
 | .non=>rfl
 | .int i=>rfl
 | .str s=>rfl
 | .tup xs=>by
  show(toDgs rf (mM xs)).map PyData.tuple=_;rw[toDgs_d rf xs];rfl
theorem toDgs_d(rf:Nat->au bF):∀xs:List Dt,toDgs rf (mM xs)=ah (F9 xs)
 |[]=>rfl
 |x :: xs=>by
  show(match j3 rf (eD x),toDgs rf (mM xs) with|some d,ah ds=>ah (d :: ds)|_,_=>ai)=_;rw[RT rf x,toDgs_d rf xs];rfl
end
class DV (f:α->W) where
 to:α->bF
 at_:∀rf v,j3 rf (f v)=ah (to v)
instance:DV eD:=⟨DK,RT⟩
instance (priority:=low) {f:α->W}{n:Nat} [D:Dat f n]:DV f:=⟨D.to,D.at_⟩
instance {f:α->W} [D:DV f]:DV (iD f):=⟨λxs=>.tuple (xs.map D.to),λrf xs=>by
 have:∀xs:List α,toDgs rf (xs.map f)=ah (xs.map D.to):=by
  intro xs
  induction xs with
  |nil=>rfl
  |cons x xs ih=>
   show(match j3 rf (f x),toDgs rf (xs.map f) with|some d,ah ds=>ah (d :: ds)|_,_=>ai)=_;rw[D.at_,ih];rfl
 show(toDgs rf (xs.map f)).map PyData.tuple=_;rw[this];rfl⟩
instance (priority:=10) {f:α->W} [D:DV f]:zV (val f) 0:=⟨D.to,λ{v w g F R} h k _=>by
 have h:w=f v:=h;rw[h];exact D.at_ _ _⟩
class pO (κ1:Type) (e:κ1->W) where
 to:κ1->gE
 ok:κ1->aw
 at_:∀k,ok k=aj->i6 (e k)=ah (to k)
 inj:∀a b,to a=to b->a=b
mutual
def g9:Dt->gE
 | .non=>.none
 | .int i=>.num i
 | .str s=>.text s.1
 | .tup xs=>.tup (dP xs)
def dP:List Dt->List gE
 |[]=>[]
 |x :: xs=>g9 x :: dP xs
end
mutual
theorem zqh:∀x:Dt,iy (eD x)=ah (g9 x)
 | .non=>by simp only[eD,iy,g9]
 | .int i=>by simp only[eD,iy,g9]
 | .str s=>by simp only[eD,iy,g9]
 | .tup xs=>by simp only[eD,iy,g9,rm xs]
theorem rm:∀xs:List Dt,kZ (mM xs)=ah (dP xs)
 |[]=>by simp only[mM,kZ,dP]
 |x :: xs=>by simp only[mM,kZ,dP,zqh x,rm xs]
end
mutual
theorem RU:∀a b:Dt,g9 a=g9 b->a=b
 | .non,b,h=>by cases b <;> simp[g9]at h ⊢
 | .int i,b,h=>by cases b <;> simp[g9]at h ⊢ <;> exact h
 | .str s,b,h=>by
  cases b <;> simp only[g9]at h <;> first|(injection h with h;rw[Subtype.ext h])|(cases h)
 | .tup xs,b,h=>by
  cases b with
  |tup ys=>
   simp only[g9]at h;injection h with h;rw[oE xs ys h]
  |_=>simp only[g9]at h;cases h
theorem oE:∀a b:List Dt,dP a=dP b->a=b
 |[],[],_=>rfl
 |[],_ :: _,h=>by simp[dP]at h
 |_ :: _,[],h=>by simp[dP]at h
 |x :: xs,y :: ys,h=>by
  simp only[dP,Bg.injEq]at h;rw[RU x y h.1,oE xs ys h.2]
end
instance:DecidableEq Dt:=λa b=>if h:g9 a=g9 b then .isTrue (RU a b h) else .isFalse λe=>h (by rw[e])
instance:pO (List Dt) (iD eD):=⟨λxs=>.tup (dP xs),λxs=>decide ((NestedKey.tup (dP xs)).depth<=8),λxs h=>by
 show i6 (.tup (xs.map eD))=_;rw[<- JW];simp only[i6,rm];rw[aG (dF h)],λa b h=>oE a b (by injection h)⟩
def rDN{κ1:Type}(e:κ1->W) [K:pO κ1 e] (f:α->W):RP (List (κ1×α)) where
 r:=λaS w g F R=>∃l,w = .ref l/\g[l]? = ah (.dN (aS.map λp=>(K.to p.1,f p.2)))/\F l/\fits aS.length=aj
 lv:=0
 loc:=λ⟨l,h1,h2,h3,h4⟩ e1 _=>⟨l,h1,by rw[e1 l h3];exact h2,h3,h4⟩
 wk:=λ⟨l,h1,h2,h3,h4⟩ e=>⟨l,h1,h2,e l h3,h4⟩
end
section
variable{δ κ:Type}{d:Nat}{JE:δ->Ctx}{Γ:Ctx}{p:Res δ κ}{Cont:SA->Ctx->Res δ κ->Prop}{α β γ ν ρ:Type}{r:RP α}{J:jc δ ν β ρ}{res:Res δ α}
end
section
variable{δ κ:Type}{d:Nat}{JE:δ->Ctx}{Γ:Ctx}{p:Res δ κ}{Cont:SA->Ctx->Res δ κ->Prop}{α β γ ν ρ:Type}{r:RP α}{J:jc δ ν β ρ}{res:Res δ α}
class zqH (f:α->W):Prop where
 tup:∀v,∃ws,f v = .tup ws
instance {f:α->W}:zqH (iD f):=⟨λv=>⟨_,rfl⟩⟩
end
section
variable{δ κ:Type}{d:Nat}{JE:δ->Ctx}{Γ:Ctx}{p:Res δ κ}{Cont:SA->Ctx->Res δ κ->Prop}{α β γ ν ρ:Type}{r:RP α}{J:jc δ ν β ρ}{res:Res δ α}
instance {κ1:Type}{e:κ1->W} [K:pO κ1 e] {f:α->W}:bU (rDN e f):=⟨rfl⟩
end
section
variable{δ κ:Type}{d:Nat}{JE:δ->Ctx}{Γ:Ctx}{p:Res δ κ}{Cont:SA->Ctx->Res δ κ->Prop}{α β γ ν ρ:Type}{r:RP α}{J:jc δ ν β ρ}{res:Res δ α}
def RV(r1:RP α) (r2:RP β):RP (α ⊕ β) where
 r:=λv w g F R=>match v with
  | .inl a=>r1.r a w g F R
  | .inr b=>r2.r b w g F R
 lv:=max r1.lv r2.lv
 loc:=λ{v}=>match v with
  | .inl a=>λh e1 e2=>r1.loc h e1 λk l hk=>e2 k l (by omega)
  | .inr b=>λh e1 e2=>r2.loc h e1 λk l hk=>e2 k l (by omega)
 wk:=λ{v}=>match v with
  | .inl a=>λh q=>r1.wk h q
  | .inr b=>λh q=>r2.wk h q
instance {r1:RP α}{r2:RP β} [Z1:bU r1] [Z2:bU r2]:bU (RV r1 r2):=⟨by show max _ _=0;rw[Z1.z,Z2.z];rfl⟩
end
section
variable{δ κ:Type}{d:Nat}{JE:δ->Ctx}{Γ:Ctx}{p:Res δ κ}{Cont:SA->Ctx->Res δ κ->Prop}{α β γ ν ρ:Type}{r:RP α}{J:jc δ ν β ρ}{res:Res δ α}
theorem zi4{dd:qf}{r1:RP α}{fb:β->W}{v:α×β}{w1:W}{f:α×β->SA}{L:Nat}(s:Nat) (hs:bW Γ s=ah (gy L (kM r1 (val fb)) w1 f)) (hr:r1.lv=0) (c:∀wj:W,Cont (pin r1 v.1 wj) (put Γ s (gy L r1 wj λx=>f (x,v.2))) p):dC d JE (zS dd) (pin (kM r1 (val fb)) v w1) (own zg 0) Γ p Cont:=λσ g Fs R wx wy Fx Fy S hx hy Bx By no=>by
 obtain⟨de,e0,u,u2,F1,F2,e1,q1,q2,s1,s2,ap⟩:=hx;cases e0;obtain⟨_,w2,e2,q3⟩:=hy;cases e2;have q3:wy = .int 0:=q3;subst q3;subst e1;have e3:zS dd (.tup [u,u2]) (.int 0) g = .ok u g:=rfl;rw[e3];have cR:=hs;rw[jQ]at cR;obtain⟨o,ho,q0⟩:=S.get cR
 have S2:=S.pE (i:=s) (a:=gy L r1 u λx=>f (x,v.2)) (F:=λk=>Fs s k\/(Fx k /\ ¬ F1 k)) ⟨λk hk=>hk.elim (S.low s k) λz=>Bx.low k z.1,λk hk=>hk.elim (S.apart s k) λz=>Bx.apart k z.1,λk hk m hm=>by
  by_cases z:m=s
  ·subst z;rw[zr]at hm;exact hm
  ·rw[zt z]at hm
   exact hk.elim (λy=>z (S.two m s k hm y)) λy=>Bx.own k y.1 m hm⟩ ho (show L<=d from S.eX s _ cR) (λx g' F' R' e1 e2 e3 hv=>by
  have:=q0 (x,v.2) g' (λk=>(Fx k /\ ¬ F1 k)\/F' k) R' (λk hk=>e1 k (.inl hk)) e2 (λk hk hn=>hn.elim (λz=>Bx.own k z.1 s hk) (e3 k (.inl hk))) ⟨u,u2,F',aJ,rfl,hv,q2,λl hl=>.inr hl,λl hl=>hl.elim,λl _ hl=>hl.elim⟩
  exact(f (x,v.2)).wk this λk hk=>by
   rcases hk with hk|hk|hk
   ·exact .inl (.inl hk)
   ·exact .inl (.inr hk)
   ·exact .inr hk)
 rw[<- j4]at S2;refine .ret (F:=F1) S2 (c u) ⟨by show r1.lv<=d;omega,rfl,q1⟩ ⟨λk hk=>Bx.low k (s1 k hk),λk hk=>Bx.apart k (s1 k hk),λk hk m hm=>?_⟩ λk hk=>?_
 ·by_cases z:m=s
  ·subst z
   rw[zr]at hm;exact hm.elim (Bx.own k (s1 k hk) m) λy=>y.2 hk
  ·rw[zt z]at hm
   exact Bx.own k (s1 k hk) m hm
 ·rcases hk with hk|⟨m,hm⟩
  ·exact .inl (s1 k hk)
  ·by_cases z:m=s
   ·subst z
    rw[zr]at hm;exact hm.elim (λy=>.inr (.inr ⟨m,y⟩)) λy=>.inl y.1
   ·rw[zt z]at hm
    exact .inr (.inr ⟨m,hm⟩)
theorem zlm{dd:qf}{o b:ED}{F:FN}{c:Nat}{L:α->ZU}{ra:RP β} [Za:bU ra] {r:RP γ}{fr:aw}{pa:Res ax α}{pb:Res ax β}{k:α->β->Res ax γ}(hF:getD c dd=ah F) (ho:PV d Γ o (gY c 0 L) ak pa) (hb:PV d Γ b ra ak pb) (hk:∀v u,sZ d Γ F zv [own (Sh 0 (gY c 0 L)) v,own (Sh 0 ra) u] r fr (k v u)):PV d Γ (HI dd o (ze b zv)) r fr (pa.bind λv=>pb.bind λu=>k v u):=λσ g Fs R S=>
 (ho σ g Fs R S).bind λv w g1 F1 q1 e1 l1 _=>OV.base e1 (by
  have hO:yc w=aj:=by
   obtain⟨_,l,fs,Fa,rfl,_⟩:=q1;rfl
  rw[hO];dsimp only
  have ev:yd dd (ze b zv) σ w g1=(b σ g1).bind λu g2=>(match qP g2 w with
   |some (_,c,_)=>match getD c dd with
    |some F=>F [w,u] g2
    |none=>.bad
   |none=>.bad):=by
   unfold yd ze zv
   cases b σ g1 <;> rfl
  rw[ev];refine(hb σ g1 Fs R (S.ext e1)).bind λu w2 g2 F2 q2 e2 l2 _=>?_;have RX:=(gY c 0 L).ext (R':=iI) q1 l1 e2;obtain⟨l,fs,e⟩:=zo4 RX;rw[e];dsimp only;rw[hF];have:=hk v u σ g2 Fs R [w,w2] ((S.ext e1).ext e2) (((mL.nil (g:=g2)).snoc (by show max (0+1) 0<=1;omega) (Kl RX λl hl=>cu (l1 l hl) e2.1)).snoc (by show max (0+1) ra.lv<=1;rw[Za.z];omega) (Kl q2 l2));exact OV.base e2 this)
def RY(r1:RP α) (r2:RP β):RP (α×β) where
 r:=λv w g F R=>∃l ws Fa,w = .ref l/\g[l]? = ah (.lst ws)/\F l/\AE [own r1 v.1,own r2 v.2] ws g Fa R/\∀i k,Fa i k->F k
 lv:=max r1.lv r2.lv
 loc:=λ{v w g g' F R R'} ⟨l,ws,Fa,e,h2,h3,h,hF⟩ e1 e2=>⟨l,ws,Fa,e,by rw[e1 l h3];exact h2,h3,h.loc (n:=max r1.lv r2.lv) (λa ha=>by
  simp only[cJ,mZ,tN]at ha;rcases ha with rfl|rfl
  ·show r1.lv<=_;omega
  ·show r2.lv<=_;omega) (λi k hk=>e1 k (hF i k hk)) e2,hF⟩
 wk:=λ⟨l,ws,Fa,e,h2,h3,h,hF⟩ q=>⟨l,ws,Fa,e,h2,q l h3,h,λi k hk=>q k (hF i k hk)⟩
instance {r1:RP α}{r2:RP β} [Z1:bU r1] [Z2:bU r2]:bU (RY r1 r2):=⟨by show max _ _=0;rw[Z1.z,Z2.z];rfl⟩
theorem SA.le.trans{a b c:SA}(h:a.le b) (k:b.le c):a.le c:=⟨λq=>k.to (h.to q),b_ k.lv h.lv⟩
instance {m1 m2:Nat}{r1:RP α}{r2:RP β} [D1:zV r1 m1] [D2:zV r2 m2]:zV (RV r1 r2) (max m1 m2) where
 to:=λv=>match v with
  | .inl a=>D1.to a
  | .inr b=>D2.to b
 at_:=λ{v w g F R} h k hk=>match v,h with
  | .inl a,h=>D1.at_ (show r1.r a w g F R from h) k (by omega)
  | .inr b,h=>D2.at_ (show r2.r b w g F R from h) k (by omega)
end
end X
end WL
end
section
namespace WL
namespace X
open PySem
open L2 (Key)
section
variable{δ κ ν β ρ:Type}{d:Nat}{JE:δ->Ctx}{Γ:Ctx}{p:Res δ κ}{q:RF δ ν β ρ}{J:jc δ ν β ρ}{Cont:SA->Ctx->Res δ κ->Prop}{α γ:Type}
class K1 (κ1:Type) (e:κ1->W) where
 to:κ1->Key
 at_:∀k,uL (e k)=ah (to k)
 inj:∀a b,to a=to b->a=b
def rDK{κ1:Type}(e:κ1->W) [K:K1 κ1 e] (f:α->W):RP (List (κ1×α)) where
 r:=λaS w g F R=>∃l,w = .ref l/\g[l]? = ah (.dK (aS.map λp=>(K.to p.1,f p.2)))/\F l/\fits aS.length=aj
 lv:=0
 loc:=λ⟨l,h1,h2,h3,h4⟩ e1 _=>⟨l,h1,by rw[e1 l h3];exact h2,h3,h4⟩
 wk:=λ⟨l,h1,h2,h3,h4⟩ e=>⟨l,h1,h2,e l h3,h4⟩
instance:K1 ao zC:=⟨λk=>.inr k.1,λ_=>rfl,λa b h=>by
 simp only[Sum.inr.injEq]at h;exact Subtype.ext h⟩
instance:K1 Int zm:=⟨λk=>.inl k,λ_=>rfl,λa b h=>by
 simp only[Sum.inl.injEq]at h;exact h⟩
instance {κ1:Type}{e:κ1->W} [K:K1 κ1 e] {f:α->W}:bU (rDK e f):=⟨rfl⟩
end
section
variable{δ κ ν β ρ:Type}{d:Nat}{JE:δ->Ctx}{Γ:Ctx}{p:Res δ κ}{q:RF δ ν β ρ}{J:jc δ ν β ρ}{Cont:SA->Ctx->Res δ κ->Prop}{α γ:Type}{r:RP α}
end
section
variable{δ κ ν β ρ:Type}{d:Nat}{JE:δ->Ctx}{Γ:Ctx}{p:Res δ κ}{q:RF δ ν β ρ}{J:jc δ ν β ρ}{Cont:SA->Ctx->Res δ κ->Prop}{α γ:Type}{r:RP α}
class y7 (κ1:Type) (e:κ1->W) where
 to:κ1->gE
 at_:∀k,iy (e k)=ah (to k)
 inj:∀a b,to a=to b->a=b
 dp:∀k,(to k).depth<=1
instance:y7 ao zC:=⟨λk=>.text k.1,λk=>by simp only[zC,iy],λa b h=>by
 injection h with h;exact Subtype.ext h,λk=>by simp[NestedKey.depth]⟩
instance:y7 Int zm:=⟨λk=>.num k,λk=>by simp only[zm,iy],λa b h=>by
 injection h,λk=>by simp[NestedKey.depth]⟩
instance:y7 (au ao) (zE zC):=⟨λk=>match k with
 |none=>.none
 |some k=>.text k.1,λk=>by cases k <;> simp only[zE,zC,iy],λa b h=>by
 cases a <;> cases b <;> simp only[reduceCtorEq]at h <;> first|rfl|(injection h with h;rw[Subtype.ext h]),λk=>by cases k <;> simp[NestedKey.depth]⟩
instance {κ1 κ2:Type}{e:κ1->W}{f:κ2->W} [K:y7 κ1 e] [L:y7 κ2 f]:pO (κ1×κ2) (aB e f):=⟨λp=>.tup [K.to p.1,L.to p.2],λ_=>aj,λp _=>by
 show i6 (.tup [e p.1,f p.2])=_;simp only[i6,kZ,K.at_,L.at_]
 rw[aG (by
  have:=K.dp p.1;have:=L.dp p.2;simp only[NestedKey.depth,NestedKey.depthAll]
  omega)],λa b h=>by
 injection h with h;injection h with h1 h2;injection h2 with h2;exact Prod.ext (K.inj _ _ h1) (L.inj _ _ h2)⟩
end
section
variable{δ κ ν β ρ:Type}{d:Nat}{JE:δ->Ctx}{Γ:Ctx}{p:Res δ κ}{q:RF δ ν β ρ}{J:jc δ ν β ρ}{Cont:SA->Ctx->Res δ κ->Prop}{α γ:Type}{r:RP α}
inductive vG (P:α->W->Prop):List α->List W->Prop where
 |nil:vG P [] []
 |cons {x w xs ws}(h:P x w) (t:vG P xs ws):vG P (x :: xs) (w :: ws)
theorem vG.map{P Q:α->W->Prop}(f:∀x w,P x w->Q x w):∀{xs ws},vG P xs ws->vG Q xs ws
 |_,_,.nil=>.nil
 |_,_,.cons h t=>.cons (f _ _ h) (t.map f)
end
section
variable{δ κ ν β ρ:Type}{d:Nat}{JE:δ->Ctx}{Γ:Ctx}{p:Res δ κ}{q:RF δ ν β ρ}{J:jc δ ν β ρ}{Cont:SA->Ctx->Res δ κ->Prop}{α γ:Type}{r:RP α}
end
section
variable{δ κ ν β ρ:Type}{d:Nat}{JE:δ->Ctx}{Γ:Ctx}{p:Res δ κ}{Cont:SA->Ctx->Res δ κ->Prop}{α γ:Type}{r:RP α}
end
end X
end WL
end
section
namespace WL
namespace X
end X
end WL
end
section
namespace WL
namespace X
open PySem
open L2 (Key atI ixN)
section
variable{δ κ ν β ρ:Type}{d:Nat}{JE:δ->Ctx}{Γ:Ctx}{p:Res δ κ}{q:RF δ ν β ρ}{J:jc δ ν β ρ}{Cont:SA->Ctx->Res δ κ->Prop}{α γ:Type}{r:RP α}
end
section
variable{δ κ ν β ρ:Type}{d:Nat}{JE:δ->Ctx}{Γ:Ctx}{p:Res δ κ}{q:RF δ ν β ρ}{J:jc δ ν β ρ}{Cont:SA->Ctx->Res δ κ->Prop}{α γ:Type}{r:RP α}
end
section
variable{δ κ ν β ρ:Type}{d:Nat}{JE:δ->Ctx}{Γ:Ctx}{p:Res δ κ}{q:RF δ ν β ρ}{J:jc δ ν β ρ}{Cont:SA->Ctx->Res δ κ->Prop}{α γ:Type}{r:RP α}
end
section
variable{δ κ ν β ρ:Type}{d:Nat}{JE:δ->Ctx}{Γ:Ctx}{p:Res δ κ}{q:RF δ ν β ρ}{J:jc δ ν β ρ}{Cont:SA->Ctx->Res δ κ->Prop}{α γ ε:Type}{r:RP α}
def RZ{α β γ ε:Type}(f:α->W) (h:β->W) (k:γ->W) (r:RP ε):RP (α×β×γ×ε) where
 r:=λv w g F R=>∃u,w = .tup [f v.1,h v.2.1,k v.2.2.1,u]/\r.r v.2.2.2 u g F R
 lv:=r.lv
 loc:=λ⟨u,e,q⟩ e1 e2=>⟨u,e,r.loc q e1 e2⟩
 wk:=λ⟨u,e,q⟩ h=>⟨u,e,r.wk q h⟩
section
variable{fa:α->W}{fb:β->W}{fc:γ->W}{r4:RP ε}
instance [Z:bU r4]:bU (RZ fa fb fc r4):=⟨Z.z⟩
end
end
end X
end WL
end
section
namespace WL
namespace X
open PySem
open L2 (Key)
variable{δ κ ν β ρ:Type}{d:Nat}{JE:δ->Ctx}{Γ:Ctx}{p:Res δ κ}{Cont:SA->Ctx->Res δ κ->Prop}{α γ:Type}{r:RP α}
end X
end WL
end
section
namespace WL
namespace X
open PySem
open L2 (atI ixN eqV)
variable{δ κ A A' τ τ':Type}{V:VC A τ}{V':VC A' τ'}{d:Nat}{JE:δ->Ctx}{Γ:Ctx}{p:Res δ κ}{Cont:SA->Ctx->Res δ κ->Prop}{cV:Ctx×aw->Ctx->Res δ κ->Prop}{α β γ ν ν' ρ:Type}{r:RP α}{J:jc δ ν β ρ}{q:RF δ ν β ρ}
end X
end WL
end
section
namespace WL
namespace X
open PySem
open L2 (Key)
section
variable{δ κ ν β ρ:Type}{d:Nat}{JE:δ->Ctx}{Γ:Ctx}{p:Res δ κ}{Cont:SA->Ctx->Res δ κ->Prop}{α γ:Type}{r:RP α}
end
section
variable{δ κ ν β ρ:Type}{d:Nat}{JE:δ->Ctx}{Γ:Ctx}{p:Res δ κ}{Cont:SA->Ctx->Res δ κ->Prop}{α γ:Type}{r:RP α}
instance:pO (List Dt×Int) (aB (iD eD) zm):=⟨λp=>.tup [.tup (dP p.1),.num p.2],λp=>decide ((NestedKey.tup [.tup (dP p.1),.num p.2]).depth<=8),λp h=>by
 show i6 (.tup [.tup (p.1.map eD),.int p.2])=_;rw[<- JW];simp only[i6,kZ,iy,rm]
 rw[aG (dF h)],λa b h=>by
 injection h with h;injection h with h1 h;injection h1 with h1;injection h with h2 h;injection h2 with h2;exact Prod.ext (oE _ _ h1) h2⟩
end
end X
end WL
end
section
namespace WL
namespace X
open PySem
open L2 (Key atI ixN)
section
variable{δ κ ν β ρ:Type}{d:Nat}{JE:δ->Ctx}{Γ:Ctx}{p:Res δ κ}{q:RF δ ν β ρ}{J:jc δ ν β ρ}{Cont:SA->Ctx->Res δ κ->Prop}{α γ ε:Type}{r:RP α}
end
section
variable{δ κ ν ρ:Type}{d:Nat}{JE:δ->Ctx}{Γ:Ctx}{p:Res δ κ}{q:RF δ ν β ρ}{J:jc δ ν β ρ}{Cont:SA->Ctx->Res δ κ->Prop}{α β γ ε:Type}{r:RP α}
end
section
variable{δ κ ν β ρ:Type}{d:Nat}{JE:δ->Ctx}{Γ:Ctx}{p:Res δ κ}{q:RF δ ν β ρ}{J:jc δ ν β ρ}{Cont:SA->Ctx->Res δ κ->Prop}{α γ ε:Type}{r:RP α}
end
end X
end WL
end
section
namespace WL
namespace X
open PySem
variable{δ κ:Type}{d:Nat}{JE:δ->Ctx}{Γ:Ctx}{p:Res δ κ}{Cont:SA->Ctx->Res δ κ->Prop}{α:Type}
instance {ε β γ:Type}{fa:α->W}{fb:β->W}{fc:γ->W}{r4:RP ε}{m1 m2 m3 m4:Nat} [D1:zV (val fa) m1] [D2:zV (val fb) m2] [D3:zV (val fc) m3] [D4:zV r4 m4]:zV (RZ fa fb fc r4) (max m1 (max m2 (max m3 m4))) where
 to:=λv=>.tuple [D1.to v.1,D2.to v.2.1,D3.to v.2.2.1,D4.to v.2.2.2]
 at_:=λ{v w g F R} ⟨u,e,q⟩ k hk=>by
  subst e;have e1:=D1.at_ (show(val fa).r v.1 (fa v.1) g aJ R from rfl) k (by omega);have e2:=D2.at_ (show(val fb).r v.2.1 (fb v.2.1) g aJ R from rfl) k (by omega);have e3:=D3.at_ (show(val fc).r v.2.2.1 (fc v.2.2.1) g aJ R from rfl) k (by omega);have e4:=D4.at_ q k (by omega);show(toDgs (aW g k) [fa v.1,fb v.2.1,fc v.2.2.1,u]).map PyData.tuple=_
  have s1:toDgs (aW g k) [u]=ah [D4.to v.2.2.2]:=by
   show(match j3 (aW g k) u,toDgs (aW g k) []with|some d,ah ds=>ah (d :: ds)|_,_=>ai)=_;rw[e4];rfl
  have s2:toDgs (aW g k) [fc v.2.2.1,u]=ah [D3.to v.2.2.1,D4.to v.2.2.2]:=by
   show(match j3 (aW g k) (fc v.2.2.1),toDgs (aW g k) [u]with|some d,ah ds=>ah (d :: ds)|_,_=>ai)=_;rw[e3,s1]
  have s3:toDgs (aW g k) [fb v.2.1,fc v.2.2.1,u]=ah [D2.to v.2.1,D3.to v.2.2.1,D4.to v.2.2.2]:=by
   show(match j3 (aW g k) (fb v.2.1),toDgs (aW g k) [fc v.2.2.1,u]with|some d,ah ds=>ah (d :: ds)|_,_=>ai)=_;rw[e2,s2]
  have s4:toDgs (aW g k) [fa v.1,fb v.2.1,fc v.2.2.1,u]=ah [D1.to v.1,D2.to v.2.1,D3.to v.2.2.1,D4.to v.2.2.2]:=by
   show(match j3 (aW g k) (fa v.1),toDgs (aW g k) [fb v.2.1,fc v.2.2.1,u]with|some d,ah ds=>ah (d :: ds)|_,_=>ai)=_;rw[e1,s3]
  rw[s4];rfl
end X
end WL
end
section
namespace WL
namespace X
open PySem
open L2 (atI ixN eqV Key)
variable{δ κ:Type}{d:Nat}{JE:δ->Ctx}{Γ:Ctx}{p:Res δ κ}{Cont:SA->Ctx->Res δ κ->Prop}{α β γ ν ρ:Type}{r:RP α}{J:jc δ ν β ρ}{res:Res δ α}
instance:pO (ao×List Dt) (aB zC (iD eD)):=⟨λp=>.tup [.text p.1.1,.tup (dP p.2)],λp=>decide ((NestedKey.tup [.text p.1.1,.tup (dP p.2)]).depth<=8),λp h=>by
 show i6 (.tup [.str p.1.1,.tup (p.2.map eD)])=_;rw[<- JW];simp only[i6,kZ,iy,rm]
 rw[aG (dF h)],λa b h=>by
 injection h with h;injection h with h1 h;injection h1 with h1;injection h with h2 h;injection h2 with h2;exact Prod.ext (Subtype.ext h1) (oE _ _ h2)⟩
instance:pO (List Dt×ao) (aB (iD eD) zC):=⟨λp=>.tup [.tup (dP p.1),.text p.2.1],λp=>decide ((NestedKey.tup [.tup (dP p.1),.text p.2.1]).depth<=8),λp h=>by
 show i6 (.tup [.tup (p.1.map eD),.str p.2.1])=_;rw[<- JW];simp only[i6,kZ,iy,rm]
 rw[aG (dF h)],λa b h=>by
 injection h with h;injection h with h1 h;injection h1 with h1;injection h with h2 h;injection h2 with h2;exact Prod.ext (oE _ _ h1) (Subtype.ext h2)⟩
instance:pO (List Dt×List Dt) (aB (iD eD) (iD eD)):=⟨λp=>.tup [.tup (dP p.1),.tup (dP p.2)],λp=>decide ((NestedKey.tup [.tup (dP p.1),.tup (dP p.2)]).depth<=8),λp h=>by
 show i6 (.tup [.tup (p.1.map eD),.tup (p.2.map eD)])=_;rw[<- JW,<- JW];simp only[i6,kZ,iy,rm]
 rw[aG (dF h)],λa b h=>by
 injection h with h;injection h with h1 h;injection h1 with h1;injection h with h2 h;injection h2 with h2;exact Prod.ext (oE _ _ h1) (oE _ _ h2)⟩
end X
end WL
end
section
namespace WL
namespace X
open PySem
open L2 (atI ixN eqV Key)
open L2 hiding Takes XE CX PMk MkP ps_raise ps_try_as ps_try_many passAt passes_call takes_of HdsOk mk_of
section
variable{δ κ:Type}{d:Nat}{JE:δ->Ctx}{Γ:Ctx}{p:Res δ κ}{Cont:SA->Ctx->Res δ κ->Prop}{α β γ ν ρ:Type}{r:RP α}{J:jc δ ν β ρ}{res:Res δ α}
inductive s_ (k:Nat) (r:RP α):Ctx->List α->Prop
 |nil:s_ k r [] []
 |cons {j:Nat}{x:α}{A:Ctx}{xs:List α}(h:j<=k) (t:s_ k r A xs):s_ k r (own (Sh j r) x :: A) (x :: xs)
theorem s_.len{k:Nat}{A:Ctx}{xs:List α}(h:s_ k r A xs):A.length=xs.length:=by
 induction h with
 |nil=>rfl
 |cons _ _ ih=>rw[cq,cq,ih]
theorem s_.get{k:Nat}{A:Ctx}{xs:List α}(h:s_ k r A xs):∀{i:Nat}{x:α},xs[i]? = ah x->∃j,j<=k/\A[i]? = ah (own (Sh j r) x):=by
 induction h with
 |nil=>intro i x e;cases e
 | @cons j y A xs hj _ ih=>
  intro i x e
  cases i with
  |zero=>cases e;exact⟨j,hj,rfl⟩
  |succ i=>exact ih (by simpa using e)
end
section
variable{δ κ:Type}{d:Nat}{JE:δ->Ctx}{Γ:Ctx}{p:Res δ κ}{Cont:SA->Ctx->Res δ κ->Prop}{α β γ ν ρ:Type}{r:RP α}{J:jc δ ν β ρ}{res:Res δ α}
end
end X
end WL
end
section
namespace WL
namespace X
open PySem
open L2 (atI ixN eqV Key)
variable{δ κ:Type}{d:Nat}{JE:δ->Ctx}{Γ:Ctx}{α β γ ν ρ:Type}{r:RP α}{J:jc δ ν β ρ}{p:X.RF δ ν β ρ}
end X
end WL
end
section
namespace WL
namespace X
open PySem
open L2 (atI ixN eqV Key)
open L2 hiding Takes XE CX PMk MkP ps_raise ps_try_as ps_try_many passAt passes_call takes_of HdsOk mk_of
section
variable{δ κ:Type}{d:Nat}{JE:δ->Ctx}{Γ:Ctx}{p:Res δ κ}{Cont:SA->Ctx->Res δ κ->Prop}{α β γ ν ρ:Type}{r1:RP α}{r2:RP β}{J:jc δ ν β ρ}
end
instance {f:α->W}{h:β->W}{m1 m2:Nat} [D1:zV (val f) m1] [D2:zV (val h) m2]:zV (val (aB f h)) (max m1 m2) where
 to:=λv=>.tuple [D1.to v.1,D2.to v.2]
 at_:=λ{v w g F R} e k hk=>by
  have e:w = .tup [f v.1,h v.2]:=e;subst e;have e1:j3 (aW g k) (f v.1)=ah (D1.to v.1):=D1.at_ (g:=g) (F:=aJ) (R:=iI) (show(val f).r v.1 (f v.1) g aJ iI from rfl) k (by omega);have e2:j3 (aW g k) (h v.2)=ah (D2.to v.2):=D2.at_ (g:=g) (F:=aJ) (R:=iI) (show(val h).r v.2 (h v.2) g aJ iI from rfl) k (by omega);show(toDgs (aW g k) [f v.1,h v.2]).map PyData.tuple=_
  have:toDgs (aW g k) [f v.1,h v.2]=ah [D1.to v.1,D2.to v.2]:=by
   show(match j3 (aW g k) (f v.1),toDgs (aW g k) [h v.2]with|some d,ah ds=>ah (d :: ds)|_,_=>ai)=_
   have e3:toDgs (aW g k) [h v.2]=ah [D2.to v.2]:=by
    show(match j3 (aW g k) (h v.2),toDgs (aW g k) []with|some d,ah ds=>ah (d :: ds)|_,_=>ai)=_;rw[e2];rfl
   rw[e1,e3]
  rw[this];rfl
instance:Ks (Int×Int) (aB zm zm):=⟨λk=>[.inl k.1,.inl k.2],λ_=>rfl,λa b h=>by
 simp only[Bg.injEq,Sum.inl.injEq,and_true]at h;exact Prod.ext h.1 h.2⟩
section
variable{δ κ:Type}{d:Nat}{JE:δ->Ctx}{Γ:Ctx}{p:Res δ κ}{Cont:SA->Ctx->Res δ κ->Prop}{α β γ ν ρ:Type}
end
section
variable{δ κ:Type}{d:Nat}{JE:δ->Ctx}{Γ:Ctx}{p:Res δ κ}{Cont:SA->Ctx->Res δ κ->Prop}{α β γ ν ρ:Type}{J:jc δ ν β ρ}
end
section
variable{δ κ:Type}{d:Nat}{JE:δ->Ctx}{Γ:Ctx}{p:Res δ κ}{Cont:SA->Ctx->Res δ κ->Prop}{cV:Ctx×aw->Ctx->Res δ κ->Prop}{α β γ ν ρ:Type}{r:RP α}{q:RF δ ν β ρ}{J:jc δ ν β ρ}
def rT3{α β ε:Type}(f:α->W) (h:β->W) (r:RP ε):RP (α×β×ε) where
 r:=λv w g F R=>∃u,w = .tup [f v.1,h v.2.1,u]/\r.r v.2.2 u g F R
 lv:=r.lv
 loc:=λ⟨u,e,q⟩ e1 e2=>⟨u,e,r.loc q e1 e2⟩
 wk:=λ⟨u,e,q⟩ h=>⟨u,e,r.wk q h⟩
section
variable{ε ζ:Type}{fa:α->W}{fb:β->W}{r3:RP ε}
instance [Z:bU r3]:bU (rT3 fa fb r3):=⟨Z.z⟩
end
end
section
variable{δ κ:Type}{d:Nat}{Γ:Ctx}
variable{JE:δ->Ctx}{cV:Ctx×aw->Ctx->Res δ κ->Prop}
end
end X
end WL
end
section
namespace WL
namespace X
open PySem
open L2 (atI ixN eqV Key)
section
variable{δ κ:Type}{d:Nat}{JE:δ->Ctx}{Γ:Ctx}{p:Res δ κ}{Cont:SA->Ctx->Res δ κ->Prop}{α β γ:Type}{r:RP α}
def a_(f:α->W):List α->W:=λl=>.fz (l.map f)
instance {f:α->W}{n:Nat} [D:Dat f n]:Dat (a_ f) (n+1) where
 to:=λl=>.list (l.map D.to)
 at_:=λrf l=>by simp only[a_,j3,Iz,tR]
 lay:=λl=>by simp only[PyData.canLay0];exact IA l
 dep:=λl=>by simp only[PyData.depth];exact EI (IB l)
 inj:=λl m=>by simp only[PyData.eqv];exact IC l m
instance {f:α->W} [D:DV f]:DV (a_ f):=⟨λxs=>.list (xs.map D.to),λrf xs=>by
 have:∀xs:List α,toDgs rf (xs.map f)=ah (xs.map D.to):=by
  intro xs
  induction xs with
  |nil=>rfl
  |cons x xs ih=>
   show(match j3 rf (f x),toDgs rf (xs.map f) with|some d,ah ds=>ah (d :: ds)|_,_=>ai)=_;rw[D.at_,ih];rfl
 show(toDgs rf (xs.map f)).map PyData.list=_;rw[this];rfl⟩
instance {f:α->W}:yK (a_ f):=⟨λ_=>rfl⟩
instance {f:α->W}:NN (a_ f):=⟨λv=>⟨nofun,nofun⟩,λrf v d h=>by
 simp only[a_,j3]at h
 cases hd:toDgs rf (v.map f) with
 |none=>rw[hd]at h;cases h
 |some ds=>rw[hd]at h;cases h;exact⟨rfl,rfl⟩⟩
theorem znh{f:α->W}{xs:List α}{g g':G}{fr:aw}(e:Ext g g') (hf:fits xs.length=aj):OV (.ok (.ref g'.length) (g'++[.lst (xs.map f)])) g (zd (val f)) fr (.ok xs):=
 .inr (.inr ⟨xs,_,_,λl=>l=g'.length,rfl,rfl,jh.mpr ⟨g'.length,rfl,by rw[pY (bC _)];simp,rfl,hf⟩,e.trans .app,λl hl=>by rw[hl];simp,λ_ l hl=>by rw[hl];exact e.1⟩)
theorem JX{m:ED}(h:EX d JE Γ m p λa Γ' q=>∃(τ1:Type) (f:τ1->W) (xs:List τ1),a=own (zd (val f)) xs/\Cont (own (val (a_ f)) xs) Γ' q):EX d JE Γ (gx m) p Cont:=λσ g Fs R S=>
 qB.bind (h σ g Fs R S) λa Γ1 w g1 F1 aP ⟨τ1,f,xs,ea,c⟩ ra B1 S1 cG=>by
  subst ea;obtain⟨hl,w',ew,q⟩:=ra;cases ew;obtain⟨m',rfl,b2,b3,b4⟩:=jh.mp q;have e:i7 (.ref m') g1 = .ok (.fz (xs.map f)) (g1.set m' .gone):=by simp only[i7,b2]
  rw[e];have st:aZ F1 g1 aJ (g1.set m' .gone):=⟨by rw[lV];exact bC _,λl hl hn=>c5 λz=>hn (by rw[<- z];exact b3),λl hl=>hl.elim⟩
  exact .inr (.inr ⟨_,Γ1,_,_,aJ,aP,c,rfl,⟨aF _,_,rfl,rfl⟩,.no,S1.kX B1 st,⟨by rw[lV];exact bC _,λl hl hn=>c5 λz=>hn (.inl (by rw[<- z];exact b3)),λl hl=>.inl (hl.elim (λz=>z.elim) .inr)⟩⟩)
theorem zpa{m:ED}{f:α->W}{pa:Res δ (List α)}(ha:av d Γ m (val (a_ f)) pa):av d Γ (gx m) (val (a_ f)) pa:=λσ g Fs R S=>by
 rcases ha σ g Fs R S with rfl|⟨v,w,F,rfl,e,q⟩
 ·exact .inl rfl
 ·have q:w = .fz (v.map f):=q
  subst q;exact .inr ⟨v,_,aJ,rfl,by unfold gx;rw[e];rfl,rfl⟩
instance {f:α->W}:lG (val (a_ f)):=⟨λl=>!l.isEmpty,λ{v w g F R} h=>by
 have h:w = .fz (v.map f):=h;subst h;show ah _=ah _
 cases v <;> rfl⟩
end
section
variable{δ κ:Type}{d:Nat}{JE:δ->Ctx}{Γ:Ctx}{p:Res δ κ}{Cont:SA->Ctx->Res δ κ->Prop}{α β γ ν ν1 δ1 ρ:Type}{r:RP α}{J:jc δ ν β ρ}
instance {m1 m2:Nat}{r1:RP α}{r2:RP β} [D1:zV r1 m1] [D2:zV r2 m2]:zV (RY r1 r2) (max m1 m2+1) where
 to:=λv=>.list [D1.to v.1,D2.to v.2]
 at_:=λ{v w g F R} ⟨l,ws,Fa,h1,h2,h3,h5,h6⟩ k hk=>by
  subst h1;obtain⟨k,rfl⟩:∃j,k=j+1:=⟨k - 1,by omega⟩
  show aW g (k+1) l=_;unfold aW;rw[h2];dsimp only;obtain⟨w1,oT,u1,e1,q1⟩:=h5.2.1 0 _ rfl;obtain⟨w2,rX,u2,e2,q2⟩:=h5.2.1 1 _ rfl;cases e1;cases e2
  have e:ws=[w1,w2]:=by
   have hl:ws.length=2:=h5.1
   match ws,hl,oT,rX with
   |[a,b],_,h1,h2=>cases h1;cases h2;rfl
  rw[e];have t1:=D1.at_ q1 k (by omega);have t2:=D2.at_ q2 k (by omega);show((match j3 (aW g k) w1,toDgs (aW g k) [w2]with|some d,ah ds=>ah (d :: ds)|_,_=>ai):au (List bF)).map PyData.list=_
  have e3:toDgs (aW g k) [w2]=ah [D2.to v.2]:=by
   show(match j3 (aW g k) w2,toDgs (aW g k) []with|some d,ah ds=>ah (d :: ds)|_,_=>ai)=_;rw[t2];rfl
  rw[t1,e3];rfl
instance:DecidableEq (List (ao×Int×ao×List (ao×Int))):=@aiV _ inferInstance
instance:DecidableEq (List (Int×Int×ao×List (Int×Int))):=@aiV _ inferInstance
end
section
variable{δ κ:Type}{d:Nat}{JE:δ->Ctx}{Γ:Ctx}{α β γ:Type}
end
section
variable{δ κ:Type}{d:Nat}{JE:δ->Ctx}{Γ:Ctx}{p:Res δ κ}{Cont:SA->Ctx->Res δ κ->Prop}{α1 α2 α3 α4 α5:Type}{r1:RP α1}{r2:RP α2}{r3:RP α3}{r4:RP α4}{r5:RP α5}
def Ko(r1:RP α1) (r2:RP α2) (r3:RP α3) (r4:RP α4) (r5:RP α5) (a:SA) (v:α1×α2×α3×α4×α5):Ctx:=[a,own r2 v.2.1,own r3 v.2.2.1,own r4 v.2.2.2.1,own r5 v.2.2.2.2]
theorem zni{v:α1×α2×α3×α4×α5}{a:SA}(ha:a.lv=r1.lv):∀x∈Ko r1 r2 r3 r4 r5 a v,x.lv<=max r1.lv (max r2.lv (max r3.lv (max r4.lv r5.lv))):=λx hx=>by
 unfold Ko at hx;simp only[cJ,mZ,tN]at hx;rcases hx with rfl|rfl|rfl|rfl|rfl
 ·rw[ha];omega
 ·show r2.lv<=_;omega
 ·show r3.lv<=_;omega
 ·show r4.lv<=_;omega
 ·show r5.lv<=_;omega
def rF5(r1:RP α1) (r2:RP α2) (r3:RP α3) (r4:RP α4) (r5:RP α5) (a:α1->SA) (ha:∀v,(a v).lv=r1.lv):RP (α1×α2×α3×α4×α5) where
 r:=λv w g F R=>∃l ws Fa,w = .ref l/\g[l]? = ah (.lst ws)/\F l/\AE (Ko r1 r2 r3 r4 r5 (a v.1) v) ws g Fa R/\∀i k,Fa i k->F k
 lv:=max r1.lv (max r2.lv (max r3.lv (max r4.lv r5.lv)))
 loc:=λ{v w g g' F R R'} ⟨l,ws,Fa,e,h2,h3,h,hF⟩ e1 e2=>⟨l,ws,Fa,e,by rw[e1 l h3];exact h2,h3,h.loc (n:=max r1.lv (max r2.lv (max r3.lv (max r4.lv r5.lv)))) (zni (ha v.1)) (λi k hk=>e1 k (hF i k hk)) e2,hF⟩
 wk:=λ⟨l,ws,Fa,e,h2,h3,h,hF⟩ q=>⟨l,ws,Fa,e,h2,q l h3,h,λi k hk=>q k (hF i k hk)⟩
def rL5(r1:RP α1) (r2:RP α2) (r3:RP α3) (r4:RP α4) (r5:RP α5):RP (α1×α2×α3×α4×α5):=rF5 r1 r2 r3 r4 r5 (own r1) λ_=>rfl
instance [Z1:bU r1] [Z2:bU r2] [Z3:bU r3] [Z4:bU r4] [Z5:bU r5]:bU (rL5 r1 r2 r3 r4 r5):=⟨by show max _ (max _ (max _ (max _ _)))=0;rw[Z1.z,Z2.z,Z3.z,Z4.z,Z5.z];rfl⟩
end
end X
end WL
end
section
namespace WL
namespace X
open PySem
section
variable{δ κ:Type}{d:Nat}{Γ:Ctx}{ν β ρ:Type}{J:jc δ ν β ρ}{q:RF δ ν β ρ}
theorem Sat.MF{Γ:Ctx}{σ:Sg}{g:G}{Fs R:Rg}{i:Nat}{o:au W}(S:Sat d Γ σ g Fs R) (hi:bW Γ i=ah .any):Sat d Γ (σ.set i o) g (qX Fs i aJ) R:=by
 have z:=S.rK (i:=i) (a:=.any) (o:=o) (F:=aJ) .no (aF _) True.intro;rw[jQ]at hi
 have e:Γ.set i .any=Γ:=by
  obtain⟨h1,h2⟩:=bP.mp hi;rw[<- h2,tQ]
 rw[e]at z;exact z
theorem R9{Fs:Rg}{i:Nat}:∀l,Own (qX Fs i aJ) l->Own Fs l:=λl ⟨j,hj⟩=>by
 by_cases e:j=i
 ·subst e;rw[zr]at hj;exact hj.elim
 ·rw[zt e]at hj;exact⟨j,hj⟩
theorem zpc{db ds:qf}{ea eb:ED}{i j:Nat}{rest:SD}(hi:bW Γ i=ah .any) (oU:i ≠ j) (hE:∀x,bW (J.E x) i=ah .any)
  (h:EX d J.E Γ (aQ (yA db ds) (ze ea (ze eb (ze (zf j) zv)))) q λa Γ' q'=>bW Γ' i=ah .any/\SX d J Γ' rest q'):SX d J Γ (zB (yx (cY db ds) (ze ea (ze eb zv)) 2 i j) rest) q:=λσ g Fs R S=>by
 have li:i<σ.length:=by
  rw[jQ]at hi;rw[S.len];exact(bP.mp hi).1
 have rel:=ziQ (db:=db) (ds:=ds) (ea:=ea) (eb:=eb) (g:=g) oU li;rw[Ir];rcases h σ g Fs R S with h|⟨e,x,g',aA,h1,h2,h3,h4⟩|⟨a,Γ',t,g',F,aA,⟨hc1,Cm⟩,h2,h3,h4,h5,h6⟩
 ·exact .inl h
 ·rw[h2]at rel
  obtain⟨o,er⟩:=rel;rw[er];exact .inr (.inl ⟨e,x,σ.set i o,g',_,h1,rfl,h3.MF (hE x),h4.sub R9⟩)
 ·rw[h2]at rel
  obtain⟨o,er⟩:=rel;rw[er];refine .step h6 ((Cm _ g' _ R (h5.MF (o:=o) hc1)).more λl hl=>.inr (R9 l hl))
end
def y8{α β:Type}(f:α->W) (h:β->W):α ⊕ β->W
 | .inl x=>f x
 | .inr y=>h y
instance {α β:Type}{f:α->W}{h:β->W} [D:DV f] [D2:DV h]:DV (y8 f h):=⟨λv=>match v with
 | .inl x=>D.to x
 | .inr y=>D2.to y,λrf v=>by
 cases v with
 |inl x=>exact D.at_ rf x
 |inr y=>exact D2.at_ rf y⟩
section
variable{d:Nat}{Γ:Ctx}{α β:Type}
theorem znj{a b:ED}{f:α->W}{h:β->W}{fr:aw}{pa:Res ax (List α)}{pb:Res ax (List β)}(ha:PV d Γ a (zd (val f)) ak pa) (hb:PV d Γ b (val (a_ h)) ak pb):PV d Γ (zw u3 a b) (zd (val (y8 f h))) fr (pa.bind λv=>pb.bind λu=>(f6 (fits v.length && fits u.length)).bind λ_=>Q9 (v.map Sum.inl) (u.map Sum.inr)):=λσ g Fs R S=>
 OV.bind (ha σ g Fs R S) λv w g1 F1 q1 e1 l1 _=>OV.base e1 (OV.bind (hb σ g1 Fs R (S.ext e1)) λu w2 g2 F2 q2 e2 l2 _=>by
  have q2:w2 = .fz (u.map h):=q2;subst q2;obtain⟨m,rfl,b2,b3,b4⟩:=jh.mp q1;have b2:g2[m]? = ah (.lst (v.map f)):=(e2.2 m (bP.mp b2).1).trans b2
  cases hc:fits v.length && fits u.length with
  |false=>exact .inl (by simp only[Res.bind,f6,bB])
  |true=>
   have e0:∀k:ax->Res ax (List (α ⊕ β)),((f6 aj:Res ax ax).bind k)=k ():=λ_=>rfl;rw[e0];unfold Q9;rw[cf,cf]
   cases hf:fits (v.length+u.length) with
   |false=>exact .inl rfl
   |true=>
    have e:u3 (.ref m) (.fz (u.map h)) g2 = .ok (.ref g2.length) (g2++[.lst ((v.map Sum.inl++u.map Sum.inr).map (y8 f h))]):=by
     simp only[u3,C4,ql,b2,cf,hc,lS,BA,mW];rfl
    rw[e];exact znh e2 (by rw[dw,cf,cf];exact hf))
end
end X
end WL
end
section
namespace WL
namespace Y
open PySem WL.X
open L2 (atI ixN)
section
variable{δ δ' α β γ ν ν' ρ:Type}
theorem zl{v:α}{f:α->Res δ β}:(Res.ok v:Res δ α).bind f=f v:=(rfl)
theorem jp{e:eW}{x:δ}{f:α->Res δ β}:(Res.ex e x:Res δ α).bind f = .ex e x:=(rfl)
theorem qC{f:α->Res δ β}:(Res.bad:Res δ α).bind f = .bad:=(rfl)
theorem qV{s:ν}{k:ν->X.RF δ ν' β ρ}:Res.seq (.ok (.nx s):X.RF δ ν β ρ) k=k s:=(rfl)
theorem jq{r:ρ}{k:ν->X.RF δ ν' β ρ}:Res.seq (.ok (.rt r):X.RF δ ν β ρ) k = .ok (.rt r):=(rfl)
theorem jr{s:β}{k:ν->X.RF δ ν' β ρ}:Res.seq (.ok (.bk s):X.RF δ ν β ρ) k = .ok (.bk s):=(rfl)
theorem jt{s:β}{k:ν->X.RF δ ν' β ρ}:Res.seq (.ok (.ct s):X.RF δ ν β ρ) k = .ok (.ct s):=(rfl)
theorem ju{e:eW}{x:δ}{k:ν->X.RF δ ν' β ρ}:Res.seq (.ex e x:X.RF δ ν β ρ) k = .ex e x:=(rfl)
theorem qD{k:ν->X.RF δ ν' β ρ}:Res.seq (.bad:X.RF δ ν β ρ) k = .bad:=(rfl)
theorem qe{v:α}:(Res.ok v:Res aE α).up=(.ok v:Res δ α):=(rfl)
theorem qE:(Res.bad:Res aE α).up=(.bad:Res δ α):=(rfl)
theorem qw{v:α}{f:δ->δ'}:(Res.ok v:Res δ α).on f = .ok v:=(rfl)
theorem jv{e:eW}{x:δ}{f:δ->δ'}:(Res.ex e x:Res δ α).on f = .ex e (f x):=(rfl)
theorem qF{f:δ->δ'}:(Res.bad:Res δ α).on f = .bad:=(rfl)
theorem ji{v:α}:(Res.ok v:Res δ α).nox=(.ok v:Res δ' α):=(rfl)
theorem jw{e:eW}{x:δ}:(Res.ex e x:Res δ α).nox=(.bad:Res δ' α):=(rfl)
theorem qG:(Res.bad:Res δ α).nox=(.bad:Res δ' α):=(rfl)
theorem jj{r:ρ}{k:ν->ρ}:Res.fin (.ok (.rt r):X.RF δ ν β ρ) k = .ok r:=(rfl)
theorem jx{s:ν}{k:ν->ρ}:Res.fin (.ok (.nx s):X.RF δ ν β ρ) k = .ok (k s):=(rfl)
theorem jy{e:eW}{x:δ}{k:ν->ρ}:Res.fin (.ex e x:X.RF δ ν β ρ) k = .ex e x:=(rfl)
theorem qH{k:ν->ρ}:Res.fin (.bad:X.RF δ ν β ρ) k = .bad:=(rfl)
theorem Kp{f:α->ν->X.RF δ ν ν ρ}{x:α}{xs:List α}{s s':ν}(h:f x s = .ok (.nx s')):(jW f (x :: xs) s:X.RF δ ν β ρ)=jW f xs s':=by conv=>lhs;unfold jW;rw[h]
theorem znk{f:α->ν->X.RF δ ν ν ρ}{x:α}{xs:List α}{s:ν}{r:ρ}(h:f x s = .ok (.rt r)):(jW f (x :: xs) s:X.RF δ ν β ρ) = .ok (.rt r):=by unfold jW;rw[h]
theorem y9{f:α->ν->X.RF δ ν ν ρ}(P:List α->ν->Prop) (step:∀x xs s,P (x :: xs) s->∃s',f x s = .ok (.nx s')/\P xs s'):∀(xs:List α) (s:ν),P xs s->∃s',(jW f xs s:X.RF δ ν β ρ) = .ok (.nx s')/\P [] s'
 |[],s,h=>⟨s,rfl,h⟩
 |x :: xs,s,h=>by
  obtain⟨s',e,h'⟩:=step x xs s h;rw[Kp e];exact y9 P step xs s' h'
theorem QW{f:α->ν->X.RF δ ν ν ρ}(g:ν->α->ν) (I:ν->Prop):∀(xs:List α) (s:ν),I s->(∀x∈xs,∀s,I s->f x s = .ok (.nx (g s x))/\I (g s x))->(jW f xs s:X.RF δ ν β ρ) = .ok (.nx (xs.foldl g s))/\I (xs.foldl g s)
 |[],s,h,_=>⟨rfl,h⟩
 |x :: xs,s,h,st=>by
  obtain⟨e,h'⟩:=st x (dk ..) s h;rw[Kp e];exact QW g I xs (g s x) h' λy hy=>st y (dy _ hy)
theorem zg1{c:ν->Res δ aw}{f:ν->X.RF δ ν ν ρ}(P:ν->Prop) (m:ν->Nat) (step:∀s,P s->c s = .ok ak\/(c s = .ok aj/\∃s',f s = .ok (.nx s')/\P s'/\m s'<m s)):∀s,P s->m s<oV->∃s',(Iy c f s:X.RF δ ν β ρ) = .ok (.nx s')/\P s'/\c s' = .ok ak:=by
 have key:∀(n:Nat) (s:ν),P s->m s<n->∃s',(Qp c f n s:X.RF δ ν β ρ) = .ok (.nx s')/\P s'/\c s' = .ok ak:=by
  intro n
  induction n with
  |zero=>intro s _ h;omega
  |succ n ih=>
   intro s hs hm;rcases step s hs with e|⟨e,s',e2,mq,hl⟩
   ·exact⟨s,by unfold Qp;rw[e];rfl,hs,e⟩
   ·obtain⟨s2,h1,h2⟩:=ih s' mq (by omega)
    refine⟨s2,?_,h2⟩;unfold Qp;rw[e,zl,bG,e2];exact h1
 exact λs hs hm=>key oV s hs hm
theorem DL [DecidableEq α]:∀{l m:List α},l.Nodup->(∀x∈l,x∈m)->l.length<=m.length
 |[],m,_,_=>aF _
 |x :: l,m,h,hs=>by
  have hx:=hs x (dk ..);have hn:=Bh.mp h;have:=DL (l:=l) (m:=m.erase x) hn.2 λy hy=>(List.mem_erase_of_ne (λz:y=x=>hn.1 (z ▸ hy))).mpr (hs y (dy _ hy));rw[List.length_erase_of_mem hx]at this;have:0<m.length:=List.length_pos_of_mem hx;rw[cq];omega
theorem R_{e:α->Res δ β}(g:α->β):∀xs:List α,(∀x∈xs,e x = .ok (g x))->sT e xs = .ok (xs.map g)
 |[],_=>rfl
 |x :: xs,h=>by
  unfold sT;rw[h x (dk ..),zl,R_ g xs λy hy=>h y (dy _ hy),zl,c6]
theorem Kq{e:α->ν->Res δ (β×ν)}(I:ν->Prop) (Q:β->Prop) (step:∀x s,I s->∃v s',e x s = .ok (v,s')/\I s'/\Q v):∀(xs:List α) (s:ν),I s->∃vs s',nM e xs s = .ok (vs,s')/\I s'/\vs.length=xs.length/\∀v∈vs,Q v
 |[],s,h=>⟨[],s,rfl,h,rfl,λ_ h=>by cases h⟩
 |x :: xs,s,h=>by
  obtain⟨v,s1,e1,h1,q1⟩:=step x s h;obtain⟨vs,s2,e2,h2,hl,q2⟩:=Kq I Q step xs s1 h1;refine⟨v :: vs,s2,?_,h2,by simp[hl],λu hu=>?_⟩
  ·unfold nM
   rw[e1,zl];dsimp only;rw[e2,zl]
  ·rcases cJ.mp hu with rfl|hu
   ·exact q1
   ·exact q2 u hu
theorem QO{n:Nat}(h:n<=1000000):fits n=aj:=bJ h
theorem y_{n:Nat}(h:n<=1000000):(f6 (fits n):Res δ ax) = .ok ():=by rw[QO h];rfl
theorem Jq{xs:List α}{v:α}(h:xs.length<1000000):(push xs v:Res δ _) = .ok (xs++[v]):=by unfold push;rw[QO h];rfl
theorem vH{xs ys:List α}(h:xs.length+ys.length<=1000000):(Q9 xs ys:Res δ _) = .ok (xs++ys):=by unfold Q9;rw[QO h];rfl
theorem zln{n:Int}(h0:0<=n) (h:n<2 ^ 62):ZX n=aj:=bJ ⟨by omega,h⟩
theorem pP{n:Nat}(h:n<2 ^ 62):(rng 0 (n:Int):Res δ _) = .ok ((dh n).map λi:Nat=>(i:Int)):=by
 unfold rng;rw[show ZX 0=aj by decide,zln (n:=(n:Int)) (by omega) (by omega)];show Res.ok (mI 0 (n:Int))=_;unfold mI
 congr 1
 rw[show((n:Int) - 0).toNat=n by omega];exact UX λi _=>by omega
theorem znl{xs:List α}{i:Nat}{x:α}(h:xs[i]? = ah x):atI xs (i:Int)=ah x:=by
 have lt:=(bP.mp h).1;unfold atI ixN;rw[aG (by omega),aG (by omega)];exact h
theorem Qa{xs:List α}{i:Nat}{x:α}(h:xs[i]? = ah x):(zY xs (i:Int):Res δ α) = .ok x:=by unfold zY;rw[znl h]
theorem Sa{xs:List α}{x:α}(h:xs[0]? = ah x):(zY xs 0:Res δ α) = .ok x:=Qa (i:=0) h
theorem Sb{i j:Int}(h:0<j):(pG i j:Res δ Int) = .ok (i % j):=by unfold pG;rw[bJ h];rfl
theorem Sd{i j:Int}(h:0<j) (h2:j<2 ^ 100):(sO i j:Res δ Int) = .ok (i / j):=by unfold sO;rw[bJ (And.intro h h2)];rfl
theorem Se{i j:Int}(h:(-(2 ^ 64)<i/\i<2 ^ 64)\/(-(2 ^ 64)<j/\j<2 ^ 64)):(nG i j:Res δ Int) = .ok (i * j):=by unfold nG;rw[bJ h];rfl
theorem Sf [DecidableEq α] {x:α}{xs:List α}:ZL x xs=aj↔x∈xs:=by unfold ZL;exact UN
theorem Qk [DecidableEq α] {x:α}{xs:List α}(h:x∈xs):ZL x xs=aj:=Sf.mpr h
theorem Kr [DecidableEq α] {x:α}{xs:List α}(h : ¬ x∈xs):ZL x xs=ak:=by rw[Bu];exact λz=>h (Sf.mp z)
theorem Si{n j:Nat}{x:Int}{xs:List Int}(h:x :: xs=((dh n).drop j).map λi:Nat=>(i:Int)):j<n/\x=(j:Int)/\xs=((dh n).drop (j+1)).map λi:Nat=>(i:Int):=by
 have lt:j<n:=by
  have:=gb wA h;simp at this;omega
 rw[LU (by simpa using lt)]at h;rw[c6]at h;injection h with h1 h2;exact⟨lt,by simpa using h1,h2⟩
theorem Sj{n j:Nat}(h:[]=((dh n).drop j).map λi:Nat=>(i:Int)):n<=j:=by
 have:=gb wA h;simp at this;omega
variable{κ1:Type} [DecidableEq κ1]
theorem DM{k j:κ1}{v:α}:∀aS:List (κ1×α),Jh k (iG j v aS)=if j=k then ah v else Jh k aS
 |[]=>by unfold iG Jh;rfl
 |(i,x) :: r=>by
  unfold iG
  by_cases h:i=j
  ·subst h
   rw[aG rfl];unfold Jh
   by_cases h2:i=k
   ·rw[aG h2,aG h2]
   ·rw[aR h2,aR h2,aR h2]
  ·rw[aR h]
   unfold Jh;rw[DM r]
   by_cases h2:i=k
   ·rw[aG h2,aG h2,aR (by rw[<- h2];exact λz=>h z.symm)]
   ·rw[aR h2,aR h2]
theorem znm{k:κ1}{aS:List (κ1×α)}{v:α}(h:Jh k aS=ah v):(vh aS k:Res δ α) = .ok v:=by unfold vh;rw[h]
end
def sgn(d:Nat):Nat:=if d<26 then 97+d else 48+(d - 26)
def QH(n:Nat):List Nat:=if h:n=0 then [] else sgn (n % 36) :: QH (n / 36)
termination_by n
decreasing_by omega
theorem z_:QH 0=[]:=by unfold QH;rfl
theorem Aa{n:Nat}(h:0<n):QH n=sgn (n % 36) :: QH (n / 36):=by
 rw[QH];rw[dif_neg (by omega)]
def nQ(c:Nat):Prop:=97<=c/\c<=122
def JD(c:Nat):Prop:=nQ c\/(48<=c/\c<=57)
theorem vJ{d:Nat}(h:d<36):JD (sgn d):=by
 unfold JD nQ sgn
 split <;> omega
theorem znn{d:Nat}(h:d<26):nQ (sgn d):=by
 unfold nQ sgn;rw[aG h];omega
theorem zpd{c:Nat}(h:JD c):∃d,d<36/\c=sgn d:=by
 unfold JD nQ at h;rcases h with h|h
 ·exact⟨c - 97,by omega,by unfold sgn;rw[aG (by omega)];omega⟩
 ·exact⟨c - 48+26,by omega,by unfold sgn;rw[aR (by omega)];omega⟩
theorem Kt:∀(k n:Nat),n<36 ^ k->(QH n).length<=k
 |0,n,h=>by
  have:n=0:=by simpa using h
  subst this;rw[z_];simp
 |k+1,n,h=>by
  by_cases h0:n=0
  ·subst h0;rw[z_];simp
  ·rw[Aa (BB h0)]
   have:=Kt k (n / 36) (by rw[Nat.div_lt_iff_lt_mul (by decide)];rw[Nat.pow_succ]at h;exact h);simp;omega
theorem zi5(n:Nat):∀c∈QH n,JD c:=by
 induction n using Vm with
 |_ n ih=>
  intro c hc
  by_cases h0:n=0
  ·subst h0;rw[z_]at hc;cases hc
  ·rw[Aa (BB h0)]at hc
   rcases cJ.mp hc with e|e
   ·rw[e];exact vJ (EK _ (by decide))
   ·exact ih (n / 36) (by omega) c e
def J6(n:Nat):List Nat:=sgn (n % 26) :: QH (n / 26)
theorem Sk{n:Nat}:∀c∈J6 n,JD c:=λc hc=>by
 rcases cJ.mp hc with e|e
 ·rw[e];exact vJ (by omega)
 ·exact zi5 _ c e
theorem zlp{c:Nat}(h:JD c):c<0x110000:=by unfold JD nQ at h;omega
theorem Sm{l:List Nat}(h:∀c∈l,JD c):PyData.strOk ⟨l.toArray⟩=aj:=by
 unfold PyData.strOk;rw[Array.all_eq_true];intro i hi;have uV:i<l.length:=by simpa using hi
 simp;exact zlp (h _ (List.getElem_mem uV))
def lI(n:Nat):ao:=⟨⟨(J6 n).toArray⟩,Sm Sk⟩
theorem Sn{a b:ao}(h:a.1.cps.toList=b.1.cps.toList):a=b:=by
 apply Subtype.ext
 cases a with
 |mk a ha=>
  cases b with
  |mk b hb=>
   cases a with
   |mk a=>
    cases b with
    |mk b=>
     have h:a.toList=b.toList:=h;show(⟨a⟩:Str)=⟨b⟩
     rw[Array.ext' h]
structure Nm(s:ao):Prop where
 len1:1<=s.1.cps.size
 VW:s.1.cps.size<=8
 first:∃c,s.1.cps.toList[0]? = ah c/\nQ c
 all:∀c∈s.1.cps.toList,JD c
theorem zlq{n:Nat}(h:n<26 * 36 ^ 7):Nm (lI n):=by
 have hl:=Kt 7 (n / 26) (by omega);refine⟨by simp[lI,J6],by simp[lI,J6];omega,⟨_,by simp[lI,J6];rfl,znn (EK _ (by decide))⟩,λc hc=>Sk c (by simpa [lI] using hc)⟩
def dig(c:Nat):Nat:=if 97<=c then c - 97 else c - 48+26
def Ab:List Nat->Nat
 |[]=>0
 |c :: l=>dig c+36 * Ab l
def num:List Nat->Nat
 |[]=>0
 |c :: l=>dig c+26 * Ab l
theorem So{d:Nat}(h:d<36):dig (sgn d)=d:=by
 unfold dig sgn
 split <;> split <;> omega
theorem zg2(n:Nat):Ab (QH n)=n:=by
 induction n using Vm with
 |_ n ih=>
  by_cases h:n=0
  ·subst h;rw[z_];rfl
  ·rw[Aa (BB h),Ab,ih (n / 36) (by omega),So (EK _ (by decide))]
   omega
theorem zi6{a b:Nat}(h:lI a=lI b):a=b:=by
 have h:J6 a=J6 b:=by
  have:=gb (λs:ao=>s.1.cps.toList) h;simpa [lI] using this
 have e:∀n,num (J6 n)=n:=λn=>by
  show dig (sgn (n % 26))+26 * Ab (QH (n / 26))=n;rw[So (by omega),zg2];omega
 rw[<- e a,<- e b,h]
abbrev Qb:ao:=⟨"abcdefghijklmnopqrstuvwxyz0123456789",by decide +kernel⟩
abbrev Ku:ao:=⟨"abcdefghijklmnopqrstuvwxyz",by decide +kernel⟩
theorem zpe{c:Nat}(h:JD c):PyData.strOk ⟨#[c]⟩=aj:=Sm (l:=[c]) λx hx=>by simp at hx;rw[hx];exact h
def vK(c:Nat) (h:JD c):ao:=⟨⟨#[c]⟩,zpe h⟩
theorem zg3:∀d:Fin 36,((X.Qh Qb)[d.val]?).map (λs=>s.1)=ah (⟨#[sgn d.val]⟩:Str):=by decide +kernel
theorem ze7:fits Qb.1.length=aj:=by decide +kernel
theorem Sq{δ:Type}{d:Nat}(h:d<36):(mJ Qb (d:Int):Res δ ao) = .ok (vK (sgn d) (vJ h)):=by
 have e:=zg3 ⟨d,h⟩;unfold mJ;rw[ze7];show zY _ _=_
 cases hx:(X.Qh Qb)[d]? with
 |none=>rw[show((⟨d,h⟩:Fin 36).val)=d from rfl,hx]at e;cases e
 |some x=>
  rw[show((⟨d,h⟩:Fin 36).val)=d from rfl,hx]at e;rw[Qa hx];have e:x.1=⟨#[sgn d]⟩:=kb.inj e;rw[show x=vK (sgn d) (vJ h) from Subtype.ext e]
theorem zlt:∀d:Fin 26,(Builtin.Str.occurrences Ku.1 ⟨#[97+d.val]⟩ 0 Ku.1.length 1).isEmpty=ak:=by decide +kernel
theorem zgf:∀d:Fin 36,(Builtin.Str.occurrences Qb.1 ⟨#[sgn d.val]⟩ 0 Qb.1.length 1).isEmpty=ak:=by decide +kernel
theorem zno{c:Nat}{h:PyData.strOk ⟨#[c]⟩=aj}(hc:nQ c):mK ⟨⟨#[c]⟩,h⟩ Ku=aj:=by
 unfold nQ at hc;obtain⟨d,hd,rfl⟩:∃d,d<26/\c=97+d:=⟨c - 97,by omega,by omega⟩
 have e:=zlt ⟨d,hd⟩;unfold mK;dsimp only at e ⊢;rw[e];rfl
theorem zg4{c:Nat}{h:PyData.strOk ⟨#[c]⟩=aj}(hc:JD c):mK ⟨⟨#[c]⟩,h⟩ Qb=aj:=by
 obtain⟨d,hd,rfl⟩:=zpd hc;have e:=zgf ⟨d,hd⟩;unfold mK;dsimp only at e ⊢;rw[e];rfl
theorem zi8{s:ao}{i c:Nat}(h:s.1.cps.toList[i]? = ah c):∃hc,(X.Qh s)[i]? = ah ⟨⟨#[c]⟩,hc⟩:=by
 have hm:c∈s.1.cps.toList:=di h;refine⟨X.IK s.2 c hm,?_⟩;unfold X.Qh;rw[cC]
 have e:s.1.cps.toList.attach[i]? = ah ⟨c,hm⟩:=by
  have e2:(s.1.cps.toList.attach[i]?).map Subtype.val=ah c:=by rw[<- cC,LW];exact h
  cases hx:s.1.cps.toList.attach[i]? with
  |none=>rw[hx]at e2;cases e2
  |some x=>rw[hx]at e2;exact gb ah (Subtype.ext (kb.inj e2))
 rw[e];rfl
theorem zi9{s:ao}{x:ao}(h:x∈X.Qh s):∃c hc,c∈s.1.cps.toList/\x=⟨⟨#[c]⟩,hc⟩:=by
 unfold X.Qh at h;obtain⟨c,_,rfl⟩:=eR.mp h;exact⟨c.1,_,c.2,rfl⟩
theorem zja{s:ao}:(X.Qh s).length=s.1.cps.size:=by simp[X.Qh]
end Y
end WL
end
section
namespace WL
namespace Y
def zqI(n:Nat):List Int:=(dh n).map λi:Nat=>(i:Int)
inductive td (T:Int->List Int) (h:Int):Int->Prop where
 |mk (x:Int) (x0:0<=x) (xh:x ≠ h) (hs:∀t∈T x,t ≠ h->t ≠ -2->td T h t):td T h x
inductive sM (T:Int->List Int) (h:Int):Int->Prop where
 |base:sM T h h
 |step (x t:Int) (x0:0<=x) (ht:t∈T x) (hb:sM T h t):sM T h x
theorem td.ne{T h x}(s:td T h x):x ≠ h:=by cases s;assumption
theorem td.next{T h x}(s:td T h x):∀t∈T x,t ≠ h->t ≠ -2->td T h t:=by cases s;assumption
inductive Ac (T:Int->List Int) (h t0:Int):Int->Prop where
 |first (x0:0<=t0) (xh:t0 ≠ h):Ac T h t0 t0
 |next (x t:Int) (hx:Ac T h t0 x) (ht:t∈T x) (t0':0<=t) (th:t ≠ h):Ac T h t0 t
theorem Ac.ne{T h t0 x}(i:Ac T h t0 x):x ≠ h:=by cases i <;> assumption
section
def rr(d:Int->Int) (h:Int) (t:Int):Int:=if t = -1 then 0 else if 0<=t/\t ≠ h then d t else 99
structure Sr(tt:Int->Int->Int) (n w:Nat) (h:Int) (d:Int->Int):Prop where
 n60:n<=60
 pos:∀x:Int,0<=x->x<n->1<=d x
 cap:∀x:Int,0<=x->x<n->x ≠ h->d x<=n\/d x=99
 get:∀x:Int,0<=x->x<n->x ≠ h->d x<99->∃o:Int,0<=o/\o<w/\rr d h (tt x o)=d x - 1
 le:∀x:Int,0<=x->x<n->x ≠ h->∀o:Int,0<=o->o<w->rr d h (tt x o)<99->d x<=rr d h (tt x o)+1
 lt:∀x:Int,0<=x->x<n->∀o:Int,0<=o->o<w -> -2<=tt x o/\tt x o<n
variable{tt:Int->Int->Int}{n w:Nat}{h:Int}{d:Int->Int}
def fo(tt:Int->Int->Int) (w:Nat) (h:Int) (d:Int->Int) (x:Int):Int:=((zqI w).find? λo=>decide (rr d h (tt x o)=d x - 1)).getD 0
def gp(tt:Int->Int->Int) (w:Nat) (h:Int) (d:Int->Int):Nat->Int->List (Int×Int)
 |0,_=>[]
 |f+1,x=>(x,fo tt w h d x) :: gp tt w h d f (tt x (fo tt w h d x))
def gw(tt:Int->Int->Int) (w:Nat) (h:Int) (d:Int->Int) (t:Int):List (Int×Int):=gp tt w h d (rr d h t).toNat t
theorem zqk{t:Int}(t0:0<=t) (th:t ≠ h):rr d h t=d t:=by unfold rr;rw[aR (by omega),aG ⟨t0,th⟩]
theorem zpf{t:Int}(hr:rr d h t<99):t = -1\/(0<=t/\t ≠ h/\rr d h t=d t):=by
 unfold rr at hr ⊢
 by_cases h1:t = -1
 ·exact .inl h1
 ·rw[aR h1]at hr ⊢
  by_cases h2:0<=t/\t ≠ h
  ·rw[aG h2];exact .inr ⟨h2.1,h2.2,rfl⟩
  ·rw[aR h2]at hr;omega
abbrev PT:=List (Int×Int)×Int
def tot(d:Int->Int) (h:Int) (p:PT):Int:=(p.1.length:Int)+rr d h p.2
structure GS(tt:Int->Int->Int) (n w:Nat) (h:Int) (d:Int->Int) (R:List (Int×Int)) (A B:List PT) (L:Int) (K:List Int):Prop where
 la:∀a∈A,(a.1.length:Int)=L
 lb:∀b∈B,(b.1.length:Int)=L+1
 val:∀p,p∈A\/p∈B -> -2<=p.2/\p.2<n
 head:h∈K
 best:∃U p V,B++A=U++p :: V/\(∀u∈U,tot d h p<tot d h u)/\(∀v∈V,tot d h p<=tot d h v)/\R=p.1++gw tt w h d p.2/\rr d h p.2<99
 kn:∀y∈K,y ≠ h->d y<99->∃q,(q∈B/\tot d h q<=L+d y)\/(q∈A/\tot d h q<L+d y)
theorem GS.next{R:List (Int×Int)}{B:List PT}{L:Int}{K:List Int}(G:GS tt n w h d R [] B L K):GS tt n w h d R B [] (L+1) K:=
 ⟨G.lb,λ_ hb=>(by cases hb),λp hp=>G.val p (hp.elim .inr λz=>(by cases z)),G.head,by
  obtain⟨U,p,V,e,r⟩:=G.best
  exact⟨U,p,V,by rw[<- e];simp,r⟩,λy hy yh hd=>by
  obtain⟨q,⟨h1,h2⟩|⟨h1,_⟩⟩:=G.kn y hy yh hd
  ·exact⟨q,.inr ⟨h1,by omega⟩⟩
  ·cases h1⟩
theorem zjb{α:Type}{B A' U V:List α}{p q:α}(e:B++p :: A'=U++q :: V):(∃V1,B=U++q :: V1/\V=V1++p :: A')\/(U=B/\q=p/\V=A')\/∃U2,U=B++p :: U2/\A'=U2++q :: V:=by
 rcases List.append_eq_append_iff.mp e with⟨as,h1,h2⟩|⟨bs,h1,h2⟩
 ·cases as with
  |nil=>
   rw[Bw]at h2;injection h2 with h3 h4;exact .inr (.inl ⟨by rw[h1];simp,h3.symm,h4.symm⟩)
  |cons a as=>
   injection h2 with h3 h4;subst h3;exact .inr (.inr ⟨as,h1,h4⟩)
 ·cases bs with
  |nil=>
   rw[Bw]at h2;injection h2 with h3 h4;exact .inr (.inl ⟨by rw[h1];simp,h3,h4⟩)
  |cons b bs=>
   injection h2 with h3 h4;subst h3;exact .inl ⟨bs,h1,h4⟩
theorem GS.drop{R:List (Int×Int)}{A B:List PT}{L:Int}{K:List Int}{p:PT}(D:Sr tt n w h d) (G:GS tt n w h d R (p :: A) B L K) (hp:p.2∈K) (p0:0<=p.2):GS tt n w h d R A B L K:=by
 have lp:=G.la p (dk ..);have tp:p.2 ≠ h->tot d h p=L+d p.2:=λz=>by unfold tot;rw[lp,zqk p0 z]
 have th:p.2=h->tot d h p=L+99:=λz=>by unfold tot;rw[lp];unfold rr;rw[aR (by omega),aR (λy=>y.2 z)]
 refine⟨λa ha=>G.la a (dy _ ha),G.lb,λq hq=>G.val q (hq.imp (dy _) id),G.head,?_,λy hy yh hd=>?_⟩
 ·obtain⟨U,q,V,e,h1,h2,h3,h4⟩:=G.best
  rcases zjb e with⟨V1,e1,e2⟩|⟨e1,e2,e3⟩|⟨U2,e1,e2⟩
  ·exact⟨U,q,V1++A,by rw[e1];simp,h1,λv hv=>h2 v (by
    rw[e2];rcases iM.mp hv with z|z
    ·exact LZ _ z
    ·exact mU _ (dy _ z)),h3,h4⟩
  ·exfalso
   subst e1 e2 e3;rcases zpf h4 with z|⟨z0,z1,z2⟩
   ·omega
   ·obtain⟨y,⟨y1,y2⟩|⟨y1,y2⟩⟩:=G.kn q.2 hp z1 (by omega)
    ·have:=h1 y y1
     have:=tp z1;omega
    ·have t:=tp z1
     rcases cJ.mp y1 with rfl|y1
     ·omega
     ·have:=h2 y y1
      omega
  ·exact⟨B++U2,q,V,by rw[e2];simp,λu hu=>h1 u (by
    rw[e1];rcases iM.mp hu with z|z
    ·exact LZ _ z
    ·exact mU _ (dy _ z)),h2,h3,h4⟩
 ·obtain⟨q,⟨q1,q2⟩|⟨q1,q2⟩⟩:=G.kn y hy yh hd
  ·exact⟨q,.inl ⟨q1,q2⟩⟩
  ·rcases cJ.mp q1 with rfl|q1
   ·by_cases z:q.2=h
    ·have:=th z;omega
    ·have t:=tp z
     obtain⟨x,⟨x1,x2⟩|⟨x1,x2⟩⟩:=G.kn q.2 hp z (by omega)
     ·exact⟨x,.inl ⟨x1,by omega⟩⟩
     ·rcases cJ.mp x1 with rfl|x1
      ·omega
      ·exact⟨x,.inr ⟨x1,by omega⟩⟩
   ·exact⟨q,.inr ⟨q1,q2⟩⟩
structure GI(n:Nat) (h:Int) (d:Int->Int) (A:List PT) (K:List Int):Prop where
 val:∀p∈A,-2<=p.2/\p.2<n
 inf:∀p∈A,99<=rr d h p.2
 head:h∈K
theorem GI.drop{A:List PT}{K:List Int}{p:PT}(G:GI n h d (p :: A) K):GI n h d A K:=⟨λq hq=>G.val q (dy _ hq),λq hq=>G.inf q (dy _ hq),G.head⟩
def GX(tt:Int->Int->Int) (n w:Nat) (h:Int) (d:Int->Int) (R:List (Int×Int)) (PP:List PT) (K:List Int):Prop:=(∃A B L,PP=A++B/\GS tt n w h d R A B L K)\/(GI n h d PP K/\R=[])
theorem GX.pop{R:List (Int×Int)}{PP:List PT}{K:List Int}{p:PT}(G:GX tt n w h d R (p :: PP) K):(∃A B L,PP=A++B/\GS tt n w h d R (p :: A) B L K)\/(GI n h d (p :: PP) K/\R=[]):=by
 rcases G with⟨A,B,L,e,G⟩|G
 ·cases A with
  |nil=>
   rw[Bw]at e;rw[<- e]at G;exact .inl ⟨PP,[],L+1,by simp,G.next⟩
  |cons a A=>
   injection e with e1 e2;rw[<- e1]at G;exact .inl ⟨A,B,L,e2,G⟩
 ·exact .inr G
theorem GX.drop{R:List (Int×Int)}{PP:List PT}{K:List Int}{p:PT}(D:Sr tt n w h d) (G:GX tt n w h d R (p :: PP) K) (hp:p.2∈K) (p0:0<=p.2):GX tt n w h d R PP K:=by
 rcases G.pop with⟨A,B,L,e,G⟩|⟨G,r⟩
 ·exact .inl ⟨A,B,L,e,G.drop D hp p0⟩
 ·exact .inr ⟨G.drop,r⟩
def way(tt:Int->Int->Int) (w:Nat) (h:Int) (d:Int->Int) (e:Int×Int) (t:Int):List (Int×Int):=if rr d h t<99 then e :: gw tt w h d t else []
end
end Y
end WL
end
section
namespace WL
namespace Y
open PySem WL.X
open L2 (atI ixN)
abbrev eZ(s:ao):List Nat:=s.1.cps.toList
def Gd(m:Nat) (v:bF):Prop:=v.canLay0=aj/\v.depth<=m/\PyData.eqv v v=aj
theorem Jd{m:Nat}{v:bF}(h:Gd m v) (hm:m<=64):SeqAt.shaped v=aj:=by
 unfold SeqAt.shaped;rw[h.1,bJ (b_ h.2.1 hm)];rfl
theorem ti{r:RP α}{n m:Nat} [D:gz r n m] (v:α):Gd n (D.to v):=⟨D.lay v,D.dep v,(D.inj v v).mpr rfl⟩
theorem vL{v:bF}(h:Gd m v) (hm:m<=m'):Gd m' v:=⟨h.1,b_ h.2.1 hm,h.2.2⟩
theorem DN{m:Nat}{vs:List bF}(h:∀v∈vs,Gd m v):Gd (m+1) (.list vs):=by
 have:∀vs:List bF,(∀v∈vs,Gd m v)->PyData.canLayAll0 vs=aj/\PyData.depthAll vs<=m/\PyData.eqvAll vs vs=aj:=λvs=>by
  induction vs with
  |nil=>exact λ_=>⟨rfl,aF _,by simp[PyData.eqvAll]⟩
  |cons v vs ih=>
   intro h;obtain⟨a,b,c⟩:=ih λv hv=>h v (dy _ hv);obtain⟨x,y,z⟩:=h v (dk ..);refine⟨?_,?_,?_⟩
   ·simp only[PyData.canLayAll0,a,x,pZ]
   ·simp only[PyData.depthAll];exact LV.mpr ⟨y,b⟩
   ·simp only[PyData.eqvAll,c,z,pZ]
 obtain⟨a,b,c⟩:=this vs h;refine⟨?_,?_,?_⟩
 ·simp only[PyData.canLay0];exact a
 ·simp only[PyData.depth];exact EI b
 ·simp only[PyData.eqv];exact c
theorem Ss{δ:Type}{v:bF}(h:Gd m v) (hm:m<=64):(iH v v:Res δ aw) = .ok ak:=by
 unfold iH;rw[Jd h hm,h.2.2];rfl
end Y
end WL
namespace WL
namespace Y
open PySem WL.X
open L2 (atI ixN)
instance:Inhabited ao:=⟨Ru⟩
end Y
end WL
end
section
namespace WL
namespace Y
open PySem WL.X
open L2 (atI ixN)
section
inductive Tr where
 |act (n:ao)
 |ite (t:List Int) (y n:List Tr)
 |cH (t:List Int) (b:List Tr)
abbrev Bk:=List Tr
mutual
def Tr.beq:Tr->Tr->aw
 | .act n,.act m=>decide (n=m)
 | .ite t a b,.ite t' a' b'=>decide (t=t') && (dJ a a' && dJ b b')
 | .cH t a,.cH t' a'=>decide (t=t') && dJ a a'
 |_,_=>ak
def dJ:List Tr->List Tr->aw
 |[],[]=>aj
 |x :: xs,y :: ys=>x.beq y && dJ xs ys
 |_,_=>ak
end
mutual
theorem Tr.beq_iff:∀a b:Tr,a.beq b=aj↔a=b
 | .act n,.act m=>by simp[Tr.beq]
 | .ite t a b,.ite t' a' b'=>by simp[Tr.beq,BH a a',BH b b']
 | .cH t a,.cH t' a'=>by simp[Tr.beq,BH a a']
 | .act _,.ite ..=>by simp[Tr.beq]
 | .act _,.cH ..=>by simp[Tr.beq]
 | .ite ..,.act _=>by simp[Tr.beq]
 | .ite ..,.cH ..=>by simp[Tr.beq]
 | .cH ..,.act _=>by simp[Tr.beq]
 | .cH ..,.ite ..=>by simp[Tr.beq]
theorem BH:∀a b:List Tr,dJ a b=aj↔a=b
 |[],[]=>by simp[dJ]
 |x :: xs,y :: ys=>by simp[dJ,Tr.beq_iff x y,BH xs ys]
 |[],_ :: _=>by simp[dJ]
 |_ :: _,[]=>by simp[dJ]
end
instance:DecidableEq Tr:=λa b=>decidable_of_iff _ (Tr.beq_iff a b)
def Tr.subs:Tr->List Bk
 | .act _=>[]
 | .ite _ y n=>[y,n]
 | .cH _ b=>[b]
def subs(b:Bk):List Bk:=b.flatMap Tr.subs
mutual
def Tr.po:Tr->List Bk
 | .act _=>[]
 | .ite _ y n=>(vM y++[y])++(vM n++[n])
 | .cH _ b=>vM b++[b]
def vM:List Tr->List Bk
 |[]=>[]
 |s :: r=>s.po++vM r
end
def po(b:Bk):List Bk:=vM b++[b]
def zqJ [DecidableEq α] (D:List α) (b:α):List α:=if b∈D then D else D++[b]
def ins [DecidableEq α] (D L:List α):List α:=L.foldl zqJ D
section
variable [DecidableEq α]
def ix(x:α):List α->Nat
 |[]=>0
 |y :: D=>if y=x then 0 else ix x D+1
end
mutual
def Tr.sz:Tr->Nat
 | .act _=>1
 | .ite _ y n=>1+(dR y+dR n)
 | .cH _ b=>1+dR b
def dR:List Tr->Nat
 |[]=>0
 |s :: r=>s.sz+dR r
end
def Su(b:Bk):List Bk:=ins [] (vM b)
def zqK(b:Bk):List Bk:=Su b++[b]
def Kv:ao:=⟨"do",by decide +kernel⟩
def Kw:ao:=⟨"if",by decide +kernel⟩
def Kx:ao:=⟨"while",by decide +kernel⟩
def Sv(t:List Int):Dt:=.tup (t.map .int)
def zqL(D:List Bk):Tr->Dt
 | .act n=>.tup [.str Kv,.str n]
 | .ite t y n=>.tup [.str Kw,Sv t,.int (ix y D),.int (ix n D)]
 | .cH t b=>.tup [.str Kx,Sv t,.int (ix b D)]
def zqM(D:List Bk) (b:Bk):List Dt:=b.map (zqL D)
def zqN(D:List Bk):List (List Dt):=D.map (zqM D)
def tab(b:Bk):List (List Dt):=zqN (zqK b)
mutual
def Tr.Ok:Tr->Prop
 | .act _=>True
 | .ite t y n=>t.length<=4/\(y ≠ []/\tj y)/\(n ≠ []/\tj n)
 | .cH t b=>t.length<=4/\b ≠ []/\tj b
def tj:List Tr->Prop
 |[]=>True
 |s :: r=>s.Ok/\tj r
end
theorem Ky{xs:List α}{i:Nat}:Qe xs ai (ah (i:Int))=xs.take i:=by
 unfold Qe;show(xs.drop 0).take (HT.sIx xs.length xs.length (ah (i:Int)) - 0)=_;rw[Vc,Nat.sub_zero]
 have h:HT.sIx xs.length xs.length (ah (i:Int))=min i xs.length:=by
  unfold HT.sIx;dsimp only;have : ¬ ((i:Int)<0):=by omega
  simp only[this,Um];omega
 rw[h]
 by_cases hl:i<=xs.length
 ·rw[Vn hl]
 ·rw[Vo (by omega),EL,Vp (by omega)]
theorem Sw{xs:List α}{i:Nat}:Qe xs (ah (i:Int)) ai=xs.drop i:=by
 unfold Qe
 have h:HT.sIx xs.length 0 (ah (i:Int))=min i xs.length:=by
  unfold HT.sIx;dsimp only;have : ¬ ((i:Int)<0):=by omega
  simp only[this,Um];omega
 have h2:HT.sIx xs.length xs.length ai=xs.length:=rfl;rw[h,h2]
 by_cases hl:i<=xs.length
 ·rw[Vn hl,Vp (by rw[oA];omega)]
 ·rw[Vo (by omega),Nat.sub_self,List.take_zero,List.drop_of_length_le (by omega)]
def Ae(P:Bk->Prop):List Bk->Prop
 |[]=>True
 |b :: L=>(∀k∈subs b,P k)/\Ae (λx=>P x\/x=b) L
theorem Ae.imp:∀{L:List Bk}{P Q:Bk->Prop},(∀x,P x->Q x)->Ae P L->Ae Q L
 |[],_,_,_,_=>trivial
 |b :: L,P,Q,h,o=>⟨λk hk=>h k (o.1 k hk),Ae.imp (λx hx=>hx.imp (h x) id) o.2⟩
end
theorem tm{i:Int}:Gd 0 (.int i):=ti (r:=zg) i
theorem zL{s:ao}:Gd 0 (.str s.1):=ti (r:=zp) s
def iJ(t:List Int):Prop:=t=([0,1,2,3]:List Int).filter λi=>ZL i t
theorem iJ.len{t:List Int}(h:iJ t):t.length<=4:=by
 rw[h];exact List.length_filter_le ..
mutual
def Tr.Gd(names:List ao):Tr->Prop
 | .act n=>n∈names
 | .ite t y n=>iJ t/\cQ names y/\cQ names n
 | .cH t b=>iJ t/\cQ names b
def cQ(names:List ao):List Tr->Prop
 |[]=>False
 |s :: r=>s.Gd names/\((r=[]/\∀t b,s ≠ .cH t b)\/cQ names r)
end
theorem cQ.ne{names:List ao}{b:Bk}(h:cQ names b):b ≠ []:=λe=>by subst e;rw[cQ]at h;exact h
theorem cQ.act{names:List ao}{n:ao}(h:n∈names):cQ names [.act n]:=by
 rw[cQ,Tr.Gd];exact⟨h,.inl ⟨rfl,nofun⟩⟩
theorem cQ.ite{names:List ao}{t:List Int}{a b:Bk}(ht:iJ t) (ha:cQ names a) (hb:cQ names b):cQ names [.ite t a b]:=by
 rw[cQ,Tr.Gd];exact⟨⟨ht,ha,hb⟩,.inl ⟨rfl,nofun⟩⟩
theorem cQ.cH{names:List ao}{t:List Int}{a b:Bk}(ht:iJ t) (ha:cQ names a) (hb:cQ names b):cQ names (.cH t a :: b):=by
 rw[cQ,Tr.Gd];exact⟨⟨ht,ha⟩,.inr hb⟩
mutual
theorem Tr.Gd.ok{names:List ao}:∀s:Tr,s.Gd names->s.Ok
 | .act n,_=>by rw[Tr.Ok];trivial
 | .ite t y n,h=>by
  rw[Tr.Gd]at h;rw[Tr.Ok];exact⟨h.1.len,⟨h.2.1.ne,BM y h.2.1⟩,h.2.2.ne,BM n h.2.2⟩
 | .cH t b,h=>by
  rw[Tr.Gd]at h;rw[Tr.Ok];exact⟨h.1.len,h.2.ne,BM b h.2⟩
theorem BM{names:List ao}:∀b:List Tr,cQ names b->tj b
 |[],h=>by rw[cQ]at h;exact h.elim
 |s :: r,h=>by
  rw[cQ]at h;rw[tj];refine⟨Tr.Gd.ok s h.1,?_⟩;rcases h.2 with⟨rfl,_⟩|h2
  ·rw[tj];trivial
  ·exact BM r h2
end
mutual
def Tr.dep:Tr->Nat
 | .act _=>0
 | .ite _ y n=>1+max (l7 y) (l7 n)
 | .cH _ b=>1+l7 b
def l7:List Tr->Nat
 |[]=>0
 |s :: r=>max s.dep (l7 r)
end
mutual
def Tr.B4:Tr->Nat
 | .act _=>1
 | .ite _ y n=>l3 y+l3 n
 | .cH _ b=>l3 b
def l3:List Tr->Nat
 |[]=>0
 |s :: r=>s.B4+l3 r
end
structure Pt(names:List ao) (m:Nat) (b:Bk):Prop where
 gd:cQ names b
 sz:dR b+1<=2 * m
 dep:l7 b+1<=m
 na:l3 b<=m
theorem Pt.act{names:List ao}{n:ao}(h:n∈names):Pt names 1 [.act n]:=⟨.act h,by rw[dR,Tr.sz,dR];decide,by rw[l7,Tr.dep,l7];decide,by rw[l3,Tr.B4,l3];exact bC _⟩
theorem Pt.ite{names:List ao}{a b:Bk}{m k:Nat}{t:List Int}(ht:iJ t) (ha:Pt names m a) (hb:Pt names k b):Pt names (m+k) [.ite t a b]:=⟨.ite ht ha.gd hb.gd,by rw[dR,Tr.sz,dR];have:=ha.sz;have:=hb.sz;omega,by rw[l7,Tr.dep,l7];have:=ha.dep;have:=hb.dep;omega,by rw[l3,Tr.B4,l3];have:=ha.na;have:=hb.na;omega⟩
theorem Pt.cH{names:List ao}{a b:Bk}{m k:Nat}{t:List Int}(ht:iJ t) (ha:Pt names m a) (hb:Pt names k b):Pt names (m+k) (.cH t a :: b):=⟨.cH ht ha.gd hb.gd,by rw[dR,Tr.sz];have:=ha.sz;have:=hb.sz;omega,by rw[l7,Tr.dep];have:=ha.dep;have:=hb.dep;omega,by rw[l3,Tr.B4];have:=ha.na;have:=hb.na;omega⟩
theorem Pt.more{names:List ao}{b:Bk}{m k:Nat}(h:Pt names m b) (hk:m<=k):Pt names k b:=⟨h.gd,by have:=h.sz;omega,by have:=h.dep;omega,by have:=h.na;omega⟩
def kN(o:Int):List Tr->List Tr->au (ao×List Tr)
 |[],_=>ai
 | .act n :: r,k=>ah (n,r++k)
 | .ite t y n :: r,k=>if ZL o t then kN o y (r++k) else kN o n (r++k)
 | .cH t b :: r,k=>if ZL o t then kN o b (.cH t b :: (r++k)) else kN o r k
def Suf(names:List ao) (k:List Tr):Prop:=k=[]\/cQ names k
theorem cQ.tail{names:List ao}{s:Tr}{r:Bk}(h:cQ names (s :: r)):Suf names r:=by
 rw[cQ]at h;exact h.2.imp (λz=>z.1) id
theorem g0{δ α:Type}{x:α}{xs:List α}:(zY (x :: xs) 0:Res δ α) = .ok x:=Sa rfl
theorem g1{δ α:Type}{x y:α}{xs:List α}:(zY (x :: y :: xs) 1:Res δ α) = .ok y:=Qa (i:=1) rfl
theorem g2{δ α:Type}{x y z:α}{xs:List α}:(zY (x :: y :: z :: xs) 2:Res δ α) = .ok z:=Qa (i:=2) rfl
theorem g3{δ α:Type}{x y z u:α}{xs:List α}:(zY (x :: y :: z :: u :: xs) 3:Res δ α) = .ok u:=Qa (i:=3) rfl
theorem iJ.mem{t:List Int}(h:iJ t):∀x∈t,0<=x/\x<4:=λx hx=>by
 rw[h]at hx;have:=(List.mem_filter.mp hx).1;simp only[cJ,mZ,tN]at this;omega
theorem Tr.Mw(s:Tr):1<=s.sz:=by cases s <;> rw[Tr.sz] <;> omega
theorem QP:∀b:List Tr,b.length<=dR b
 |[]=>aF _
 |s :: r=>by
  rw[cq,dR];have:=QP r;have:=s.Mw;omega
def lJ(m:Nat) (b:List Tr):Prop:=∀s∈b,s.sz<=m
theorem lJ.more{m k:Nat}{b:List Tr}(h:lJ m b) (hk:m<=k):lJ k b:=λs hs=>b_ (h s hs) hk
theorem DO:∀b:List Tr,lJ (dR b+1 - b.length) b
 |[],s,h=>by cases h
 |x :: r,s,h=>by
  have:=QP r;rw[cq,dR];have hx:=x.Mw;rcases cJ.mp h with rfl|h
  ·omega
  ·have:=DO r s h
   omega
theorem lJ.tail{m:Nat}{s:Tr}{b:List Tr}(h:lJ m (s :: b)):lJ m b:=λx hx=>h x (dy _ hx)
theorem lJ.head{m:Nat}{s:Tr}{b:List Tr}(h:lJ m (s :: b)):s.sz<=m:=h s (dk ..)
structure Way(o:Int) (res:ao×List Tr) (L m:Nat) (b k:List Tr):Prop where
 go:kN o b k=ah res
 low:∃M,lJ M b/\m=b.length+M
 len:m+k.length<=L
theorem Way.ite{o:Int}{res:ao×List Tr}{L m:Nat}{t:List Int}{y n r k:List Tr}(h:Way o res L m (.ite t y n :: r) k):∃m',m'<m/\Way o res L m' (if ZL o t then y else n) (r++k):=by
 obtain⟨g,⟨M,h1,h2⟩,h3⟩:=h;have h4:=h1.head;rw[Tr.sz]at h4;have ly:=QP y;have ln:=QP n;rw[cq]at h2;rw[kN]at g
 cases hm:ZL o t with
 |true=>
  rw[hm,aG rfl]at g;refine⟨dR y+1,by omega,?_⟩;rw[aG rfl];exact⟨g,⟨_,DO y,by omega⟩,by rw[dw];omega⟩
 |false=>
  rw[hm,aR (by decide)]at g;refine⟨dR n+1,by omega,?_⟩;rw[aR (by decide)];exact⟨g,⟨_,DO n,by omega⟩,by rw[dw];omega⟩
theorem Way.cH{o:Int}{res:ao×List Tr}{L m:Nat}{t:List Int}{a r k:List Tr}(h:Way o res L m (.cH t a :: r) k):(ZL o t=aj->∃m',m'<m/\Way o res L m' a (.cH t a :: (r++k)))/\(ZL o t=ak->∃m',m'<m/\Way o res L m' r k):=by
 obtain⟨g,⟨M,h1,h2⟩,h3⟩:=h;have h4:=h1.head;rw[Tr.sz]at h4;have la:=QP a;rw[cq]at h2;rw[kN]at g;constructor
 ·intro hm
  rw[hm,aG rfl]at g;exact⟨dR a+1,by omega,g,⟨_,DO a,by omega⟩,by rw[cq,dw];omega⟩
 ·intro hm
  rw[hm,aR (by decide)]at g;exact⟨r.length+M,by omega,g,⟨M,h1.tail,rfl⟩,by omega⟩
def Kz(i:Int):ao:=if i=0 then ⟨"0",by decide +kernel⟩ else if i=1 then ⟨"1",by decide +kernel⟩ else if i=2 then ⟨"2",by decide +kernel⟩ else ⟨"3",by decide +kernel⟩
section
inductive mN {α β:Type}(R:α->β->Prop):List α->List β->Prop
 |nil:mN R [] []
 |cons {a:α}{b:β}{as:List α}{bs:List β}:R a b->mN R as bs->mN R (a :: as) (b :: bs)
section
variable{α β:Type}{R:α->β->Prop}
theorem mN.len{xs:List α}{ys:List β}(h:mN R xs ys):xs.length=ys.length:=by
 induction h with
 |nil=>rfl
 |cons _ _ ih=>rw[cq,cq,ih]
theorem mN.map{γ:Type}{f:γ->α}{g:γ->β}:∀{l:List γ},(∀x∈l,R (f x) (g x))->mN R (l.map f) (l.map g)
 |[],_=>.nil
 |x :: l,h=>.cons (h x (dk ..)) (mN.map λy hy=>h y (dy _ hy))
end
inductive It where
 |st (d:Nat) (s:Tr)
 |uW (d:Nat)
def zqm:ao:=⟨"else",by decide +kernel⟩
end
def J7:List Tr->List Tr->List (List Tr)
 |[],_=>[]
 | .act _ :: r,k=>(r++k) :: J7 r k
 | .ite _ y n :: r,k=>J7 y (r++k)++(J7 n (r++k)++J7 r k)
 | .cH t b :: r,k=>J7 b (.cH t b :: (r++k))++J7 r k
theorem Zq:∀(b k:List Tr),∀c∈J7 b k,c.length<=dR b+k.length
 |[],k,c,h=>by rw[J7]at h;cases h
 | .act n :: r,k,c,h=>by
  have:=QP r;rw[dR,Tr.sz];rw[J7]at h;rcases cJ.mp h with rfl|h
  ·rw[dw];omega
  ·have:=Zq r k c h;omega
 | .ite t y n :: r,k,c,h=>by
  have:=QP r;rw[dR,Tr.sz];rw[J7,iM,iM]at h;rcases h with h|h|h
  ·have:=Zq y _ c h
   rw[dw]at this;omega
  ·have:=Zq n _ c h
   rw[dw]at this;omega
  ·have:=Zq r k c h;omega
 | .cH t a :: r,k,c,h=>by
  have:=QP r;rw[dR,Tr.sz];rw[J7,iM]at h;rcases h with h|h
  ·have:=Zq a _ c h
   rw[cq,dw]at this;omega
  ·have:=Zq r k c h;omega
structure Std(names:List ao) (b c:List Tr):Prop where
 gd:cQ names c
 low:lJ 30 c
 dep:∀s∈c,s.dep<=15
 mem:c=b\/c∈J7 b []
theorem Std.len{names:List ao}{b c:List Tr}(h:Std names b c) (hb:dR b<=29):c.length<=29:=by
 rcases h.mem with rfl|h
 ·have:=QP c;omega
 ·have:=Zq b [] c h
  rw[oB]at this;omega
def KA(T:List (List Tr)) (c:List Tr) (o:Int):Prop:=∀n k,kN o c []=ah (n,k)->k=[]\/k∈T
theorem KA.more{T T':List (List Tr)}{c:List Tr}{o:Int}(h:KA T c o) (p:T <+: T'):KA T' c o:=λn k e=>(h n k e).imp id λz=>p.subset z
section
section
variable{α β γ:Type} [DecidableEq α] [DecidableEq β] [DecidableEq γ]
def gB(l:List α) (x:α):List α:=if x∈l then l else l++[x]
def qh(l xs:List α):List α:=xs.foldl gB l
theorem Zr{l xs:List α}{x:α}:qh l (x :: xs)=qh (gB l x) xs:=rfl
theorem Je{l xs ys:List α}:qh l (xs++ys)=qh (qh l xs) ys:=List.foldl_append
theorem znq{l:List α}{x y:α}:y∈gB l x↔y∈l\/y=x:=by
 unfold gB
 split
 ·rename_i h
  exact⟨.inl,λz=>z.elim id λe=>e ▸ h⟩
 ·simp
theorem Ql{xs:List α}:∀{l:List α}{y:α},y∈qh l xs↔y∈l\/y∈xs:=by
 induction xs with
 |nil=>intro l y;simp[qh]
 |cons x xs ih=>
  intro l y;rw[Zr,ih,znq,cJ,or_assoc]
theorem zg8{xs:List α}:∀{l:List α},(∀x∈xs,x∈l)->qh l xs=l:=by
 induction xs with
 |nil=>intro l _;rfl
 |cons x xs ih=>
  intro l h;rw[Zr];have:gB l x=l:=aG (h x (dk ..));rw[this];exact ih λy hy=>h y (dy _ hy)
theorem JY{xs:List α}:∀{l:List α},∃r,qh l xs=l++r:=by
 induction xs with
 |nil=>intro l;exact⟨[],by simp[qh]⟩
 |cons x xs ih=>
  intro l;obtain⟨r,e⟩:=ih (l:=gB l x);rw[Zr,e];unfold gB
  split
  ·exact⟨r,rfl⟩
  ·exact⟨x :: r,by simp⟩
theorem Sx{l xs:List α}{i:Nat}{x:α}(h:l[i]? = ah x):(qh l xs)[i]? = ah x:=by
 obtain⟨r,e⟩:=JY (l:=l) (xs:=xs);rw[e,cK (bP.mp h).1];exact h
theorem zph{l:List α}{x:α}(h:l.Nodup):(gB l x).Nodup:=by
 unfold gB
 split
 ·exact h
 ·rename_i z
  rw[EA];exact⟨h,by simp,λa ha b hb=>by simp at hb;subst hb;exact λy=>z (y ▸ ha)⟩
theorem zjd{xs:List α}:∀{l:List α},l.Nodup->(qh l xs).Nodup:=by
 induction xs with
 |nil=>exact λh=>h
 |cons x xs ih=>exact λh=>ih (zph h)
theorem zg9{f:α->β}{m:List β}{xs:List α}:∀{l:List α},qh m ((qh l xs).map f)=qh (qh m (l.map f)) (xs.map f):=by
 induction xs with
 |nil=>intro l;rfl
 |cons x xs ih=>
  intro l;rw[Zr,ih,c6,Zr]
  congr 1
  unfold gB
  by_cases h:x∈l
  ·rw[aG h,aG (Ql.mpr (.inr (Vq h)))]
  ·rw[aR h,BA,Je]
   rfl
theorem zgh{g:α->List β}{m:List β}{xs:List α}:∀{l:List α},qh m ((qh l xs).flatMap g)=qh (qh m (l.flatMap g)) (xs.flatMap g):=by
 induction xs with
 |nil=>intro l;rfl
 |cons x xs ih=>
  intro l;rw[Zr,ih,EM,Je]
  congr 1
  unfold gB
  by_cases h:x∈l
  ·rw[aG h,zg8 (xs:=g x) λy hy=>Ql.mpr (.inr (List.mem_flatMap.mpr ⟨x,h,hy⟩))]
  ·rw[aR h,L4,Je]
   simp
theorem zje{xs:List α}:∀{l:List α}{i:Nat},l.length<=i->i<(qh l xs).length->∃j x,xs[j]? = ah x/\qh l (xs.take j)=(qh l xs).take i/\(qh l xs)[i]? = ah x:=by
 induction xs with
 |nil=>intro l i h1 h2;simp[qh]at h2;omega
 |cons x xs ih=>
  intro l i h1 h2
  by_cases h:(gB l x).length<=i
  ·obtain⟨j,y,e1,e2,e3⟩:=ih h h2
   exact⟨j+1,y,e1,e2,e3⟩
  ·have hx:x ∉ l:=λz=>h (by unfold gB;rw[aG z];exact h1)
   have ha:gB l x=l++[x]:=aR hx;rw[ha,dw,Va]at h;have hi:i=l.length:=by omega
   subst hi;refine⟨0,x,rfl,?_,Sx (l:=gB l x) (by rw[ha];simp)⟩;obtain⟨r,e⟩:=JY (l:=gB l x) (xs:=xs);rw[Zr,e,ha];simp[qh]
def bq(T:α->List α) (s:α) (L:List α) (i:Nat):List α:=qh [s] ((L.take i).flatMap T)
structure pQ(T:α->List α) (s:α) (L:List α):Prop where
 lt:∀i,i<L.length->i<(bq T s L i).length
 fin:bq T s L L.length=L
theorem Sy{T:α->List α}{s:α}{L:List α}{i j:Nat}(h:i<=j):∃r,bq T s L j=bq T s L i++r:=by
 obtain⟨r,e⟩:=JY (l:=bq T s L i) (xs:=((L.drop i).take (j - i)).flatMap T);refine⟨r,?_⟩;rw[<- e];unfold bq;rw[<- Je,<- L4]
 congr 2
 rw[show j=i+(j - i) by omega,List.take_add]
 congr 2
 omega
theorem pQ.get{T:α->List α}{s:α}{L:List α}(h:pQ T s L) {i:Nat}(hi:i<L.length):(bq T s L i)[i]? = L[i]?:=by
 obtain⟨r,e⟩:=Sy (T:=T) (s:=s) (L:=L) (mT hi);have e2:=h.fin;rw[e]at e2
 conv=>rhs;rw[<- e2]
 rw[cK (h.lt i hi)]
theorem pQ.head{T:α->List α}{s:α}{L:List α}(h:pQ T s L):L[0]? = ah s:=by
 have:=h.fin;rw[<- this];exact Sx (l:=[s]) rfl
theorem pQ.map{T:α->List α}{s:α}{L:List α}(h:pQ T s L) (f:α->β) (TQ:β->List β) (hf:∀x∈L,(T x).map f=TQ (f x)):pQ TQ (f s) (qh [] (L.map f)):=by
 have fl:∀j,((L.take j).map f).flatMap TQ=((L.take j).flatMap T).map f:=λj=>by
  have:∀xs:List α,(∀x∈xs,x∈L)->(xs.map f).flatMap TQ=(xs.flatMap T).map f:=λxs=>by
   induction xs with
   |nil=>intro _;rfl
   |cons x xs ih=>
    intro hx;rw[c6,EM,EM,BA,ih λy hy=>hx y (dy _ hy),hf x (hx x (dk ..))]
  exact this _ λx hx=>L5 hx
 have hq:∀j,qh [f s] ((qh [] ((L.take j).map f)).flatMap TQ)=qh [f s] (((L.take j).flatMap T).map f):=λj=>by
  rw[zgh (l:=[]),fl];rfl
 refine⟨λi hi=>?_,?_⟩
 ·obtain⟨j,y,e1,e2,e3⟩:=zje (l:=[]) (aF _) hi
  rw[cC,mV]at e1;obtain⟨x,hx,rfl⟩:=e1;have hj:=(bP.mp hx).1;unfold bq;rw[<- e2,<- LX,hq];have nd:((qh [] (L.map f)).take (i+1)).Nodup:=(zjd (by simp)).sublist (List.take_sublist ..)
  have:=DL (m:=qh [f s] (((L.take j).flatMap T).map f)) nd λz hz=>by
   have:∀x',x'∈L.take (j+1)->f x'∈qh [f s] (((L.take j).flatMap T).map f):=λx' rV=>by
    obtain⟨k,hk⟩:=wz.mp rV;have kl:=(bP.mp hk).1;rw[mY]at kl;rw[List.getElem?_take_of_lt (by omega)]at hk
    have hb:x'∈bq T s L j:=by
     have lt:=h.lt j hj;obtain⟨r,e⟩:=Sy (T:=T) (s:=s) (L:=L) (mT hj);have e4:=h.fin;rw[e]at e4;rw[<- e4,cK (by omega)]at hk;exact di hk
    rcases Ql.mp hb with z|z
    ·exact Ql.mpr (.inl (by simp at z;subst z;simp))
    ·exact Ql.mpr (.inr (Vq z))
   rw[EN,e3]at hz;rcases iM.mp hz with hz|hz
   ·rw[<- e2,<- LX]at hz
    rcases Ql.mp hz with hz|hz
    ·cases hz
    ·obtain⟨x',rV,rfl⟩:=eR.mp hz
     exact this x' (by rw[EN];exact LZ _ rV)
   ·simp at hz
    subst hz;exact this x (by rw[EN,hx];simp)
  rw[mY]at this;omega
 ·have e:=hq L.length
  rw[EL]at e;unfold bq;rw[EL,e];have f1:=h.fin;unfold bq at f1;rw[EL]at f1
  conv=>rhs;rw[<- f1]
  rw[zg9];rfl
structure KC(T:α->List α) (s:α) (L:List α) (i:Nat):Prop where
 le:i<=L.length
 lt:∀j,j<i->j<(bq T s L j).length
 now:bq T s L i=L
theorem KC.step{T:α->List α}{s:α}{L:List α}{i:Nat}{x:α}(h:KC T s L i) (hx:L[i]? = ah x):KC T s (qh L (T x)) (i+1):=by
 have hi:=(bP.mp hx).1;obtain⟨r,e⟩:=JY (l:=L) (xs:=T x);have tk:∀j,j<=L.length->(qh L (T x)).take j=L.take j:=λj hj=>by rw[e,List.take_append_of_le_length hj]
 have Sz:∀j,j<=L.length->bq T s (qh L (T x)) j=bq T s L j:=λj hj=>by unfold bq;rw[tk j hj]
 refine⟨by rw[e,dw];omega,λj hj=>?_,?_⟩
 ·rw[Sz j (by omega)]
  by_cases z:j<i
  ·exact h.lt j z
  ·have:j=i:=by omega
   subst this;rw[h.now];exact hi
 ·rw[Sz (i+1) (by omega)]
  unfold bq;rw[EN,hx,L4,Je];show qh (bq T s L i) _=_;rw[h.now];simp
end
end
section
section
variable{α β γ:Type} [DecidableEq α] [DecidableEq β] [DecidableEq γ]
def zqO(f:α->β) (acc:List α) (x:α):List α:=if f x∈acc.map f then acc else acc++[x]
def zqn(f:α->β) (L:List α):List α:=L.foldl (zqO f) []
end
def vN(rows:List (List (Int×Int))) (k:Int):List (Int×Int):=(rows[k.toNat]?).getD []
def SE(c:Int->Int) (row:List (Int×Int)):List (Int×Int):=row.map λe=>(e.1,if 0<=e.2 then c e.2 else -1)
def cat(cs:List Int) (t:Int):Int:=(cs[t.toNat]?).getD 0
def SF(rows:List (List (Int×Int))) (cs:List Int):List (List (Int×Int)):=rows.map (SE (cat cs))
def zqo(rows:List (List (Int×Int))) (cs:List Int):List Int:=(SF rows cs).map λl=>(ix l (SF rows cs):Int)
def SG(rows:List (List (Int×Int))):Nat->List Int
 |0=>fQ rows.length 0
 |i+1=>zqo rows (SG rows i)
def col(rows:List (List (Int×Int))) (i:Nat):Int->Int:=cat (SG rows i)
structure DP(rows:List (List (Int×Int))) (n w:Nat):Prop where
 len:rows.length=n
 wide:∀row∈rows,row.length=w
 act:∀row∈rows,∀e∈row,0<=e.1/\e.1<4
 tq:∀row∈rows,∀e∈row,-1<=e.2/\e.2<n
theorem DP.row{rows:List (List (Int×Int))}{n w:Nat}(R:DP rows n w) {k:Int}(h0:0<=k) (h:k<n):rows[k.toNat]? = ah (vN rows k):=by
 have:k.toNat<rows.length:=by have:=R.len;omega
 unfold vN;rw[ke this];rfl
theorem DP.mem{rows:List (List (Int×Int))}{n w:Nat}(R:DP rows n w) {k:Int}(h0:0<=k) (h:k<n):vN rows k∈rows:=di (R.row h0 h)
def SH(n:Nat) (t:Int):Prop:=0<=t/\t<n
end
section
def tg0(rows:List (List (Int×Int))) (k:Int):List Int:=((vN rows k).map λe=>e.2).filter λt=>decide (0<=t)
section
variable{rows:List (List (Int×Int))}{n w:Nat}
structure Ord(rows:List (List (Int×Int))) (n:Nat) (s:Int) (L:List Int):Prop where
 mK:SH n s
 b:pQ (tg0 rows) s L
 Su:∀x∈L,SH n x
def zqP(rows:List (List (Int×Int))) (n:Nat) (L:List Int):List Int:=zqn (col rows n) L
def shp(rows:List (List (Int×Int))) (f:Int->Int) (F:List Int):List (List (Int×Int)):=F.map λx=>(vN rows x).map λe=>(e.1,if 0<=e.2 then (ix (f e.2) (F.map f):Int) else -1)
def zqR(rows:List (List (Int×Int))) (n:Nat) (L:List Int):List (List (Int×Int)):=shp rows (col rows n) (zqP rows n L)
end
end
section
def KD(rows:List (List (Int×Int))) (f:Int->Int) (x:Int):Int×List (Int×Int):=(f x,SE f (vN rows x))
def KG(rows:List (List (Int×Int))) (L:List Int):Nat->Int->Int
 |0,_=>0
 |i+1,x=>(ix (KD rows (KG rows L i) x) (qh [] (L.map (KD rows (KG rows L i)))):Int)
section
variable{rows:List (List (Int×Int))}{n w:Nat}
def kinds(rows:List (List (Int×Int))) (L:List Int):List (Int×List (Int×Int)):=qh [] (L.map (KD rows (KG rows L (L.length - 1))))
end
end
section
variable{δ α β γ ν ρ:Type}
end
end Y
end WL
end
section
namespace WL
namespace Y
open PySem WL.X
open L2 (atI ixN)
section
variable{α β:Type} [DecidableEq α] [DecidableEq β]
end
section
variable{rows:List (List (Int×Int))}{n w:Nat}
end
end Y
end WL
end
section
namespace WL
namespace Y
open PySem WL.X
open L2 (atI ixN)
section
def Af(Z:Bk->Bk->Prop) (o:Int) (c d:Bk):Prop:=∃n k k',kN o c []=ah (n,k)/\kN o d []=ah (n,k')/\((k=[]/\k'=[])\/(k ≠ []/\k' ≠ []/\Z k k'))
def zqQ(w:Nat) (Z:Bk->Bk->Prop):Prop:=∀c d,Z c d->∀o:Int,0<=o->o<w->Af Z o c d
def Eqv(w:Nat) (x y:Bk):Prop:=∃Z,zqQ w Z/\Z x y
theorem Af.more{Z Z':Bk->Bk->Prop}{o:Int}{c d:Bk}(h:Af Z o c d) (hz:∀a b,Z a b->Z' a b):Af Z' o c d:=by
 obtain⟨n,k,k',e1,e2,q⟩:=h;exact⟨n,k,k',e1,e2,q.imp id λz=>⟨z.1,z.2.1,hz _ _ z.2.2⟩⟩
section
variable{w:Nat}{x y z:Bk}{names:List ao}
theorem Eqv.symm(h:Eqv w x y):Eqv w y x:=by
 obtain⟨Z,hZ,pM⟩:=h;refine⟨λa b=>Z b a,λc d gj o o0 o1=>?_,pM⟩;obtain⟨n,k,k',e1,e2,q⟩:=hZ d c gj o o0 o1;exact⟨n,k',k,e2,e1,q.imp (λz=>⟨z.2,z.1⟩) λz=>⟨z.2.1,z.1,z.2.2⟩⟩
theorem Eqv.trans(h:Eqv w x y) (h':Eqv w y z):Eqv w x z:=by
 obtain⟨Z,hZ,pM⟩:=h;obtain⟨Z',hZ',hyz⟩:=h';refine⟨λa c=>∃b,Z a b/\Z' b c,λa c ⟨b,iA,Dg⟩ o o0 o1=>?_,y,pM,hyz⟩;obtain⟨n,k,k',e1,e2,q⟩:=hZ a b iA o o0 o1;obtain⟨m,l,l',f1,f2,p⟩:=hZ' b c Dg o o0 o1;rw[e2]at f1;injection f1 with f1;injection f1 with f1 f3;subst f1 f3;refine⟨n,k,l',e1,f2,?_⟩;rcases q with⟨q1,q2⟩|⟨q1,q2,q3⟩
 ·rcases p with⟨p1,p2⟩|⟨p1,_,_⟩
  ·exact .inl ⟨q1,p2⟩
  ·exact br q2 p1
 ·rcases p with⟨p1,p2⟩|⟨p1,p2,p3⟩
  ·exact br p1 q2
  ·exact .inr ⟨q1,p2,_,q3,p3⟩
theorem Eqv.step(h:Eqv w x y) {o:Int}(o0:0<=o) (o1:o<w):Af (Eqv w) o x y:=by
 obtain⟨Z,hZ,pM⟩:=h;exact(hZ x y pM o o0 o1).more λa b iA=>⟨Z,hZ,iA⟩
theorem Eqv.ne(w1:1<=w) (h:Eqv w x y):x ≠ []/\y ≠ []:=by
 obtain⟨n,k,k',f1,f2,_⟩:=h.step (o:=0) (BC _) (by omega);constructor
 ·rintro rfl;rw[kN]at f1;cases f1
 ·rintro rfl;rw[kN]at f2;cases f2
end
end
def spc(d:Nat):List Nat:=fQ (2 * d) 32
def SJ(t:List Int):List Nat:=t.flatMap λi=>32 :: eZ (Kz i)
def SK:List Nat:=[100,111]
def SM:List Nat:=[105,102]
def elC:List Nat:=[101,108,115,101]
def SN:List Nat:=[119,104,105,108,101]
def Lt(l:ao) (p:Nat×List Nat):Prop:=eZ l=p.2
theorem Lt.inj:∀{xs ys:List ao}{ps:List (Nat×List Nat)},mN Lt xs ps->mN Lt ys ps->xs=ys
 |[],[],_,_,_=>rfl
 |x :: xs,y :: ys,p :: ps,.cons a h,.cons b k=>by
  rw[Lt.inj h k,Sn (show eZ x=eZ y from(show eZ x=p.2 from a).trans (show eZ y=p.2 from b).symm)]
 |[],_ :: _,_,.nil,k=>by cases k
 |_ :: _,[],_,.cons _ _,k=>by cases k
theorem Qm:∀{x:List Nat}{l:List (List Nat)},TL.joinL [32] (x :: l)=x++l.flatMap λp=>32 :: p
 |x,[]=>by simp[TL.joinL]
 |x,y :: l=>by
  show x++([32]++TL.joinL [32] (y :: l))=_;rw[Qm];simp
def KH:ao:=⟨"",by decide +kernel⟩
theorem DQ:eZ KH=[]:=by decide +kernel
def KI(c:Nat) (h:c<0x110000) (p:ao):ao:=⟨⟨(c :: eZ p).toArray⟩,by
 have hp:=p.2;unfold PyData.strOk at hp ⊢;rw[Array.all_eq_true]at hp ⊢;intro i hi
 cases i with
 |zero=>simpa using h
 |succ i=>
  have kI:i<p.1.cps.size:=by simp at hi;omega
  have:=hp i kI;simpa using this⟩
theorem SO{c:Nat}{h:c<0x110000}{p:ao}:eZ (KI c h p)=c :: eZ p:=by unfold KI;simp[eZ]
theorem zpl:∀(l:List Nat),(∀c∈l,c<0x110000)->∃(x:ao) (os:List ao),l=TL.joinL [32] ((x :: os).map eZ)/\(∀p∈x :: os,32 ∉ eZ p)/\os.length<=l.length
 |[],_=>⟨KH,[],by rw[c6,DQ];rfl,λp hp=>by
  rw[pW.mp hp,DQ];simp,by simp⟩
 |c :: l,h=>by
  obtain⟨x,os,e,hp,hl⟩:=zpl l λz hz=>h z (dy _ hz)
  by_cases hc:c=32
  ·subst hc
   refine⟨KH,x :: os,?_,λp hq=>?_,by simp;omega⟩
   ·rw[c6,Qm,DQ,c6,EM,e,c6,Qm]
    simp
   ·rcases cJ.mp hq with rfl|hq
    ·rw[DQ];simp
    ·exact hp p hq
  ·refine⟨KI c (h c (dk ..)) x,os,?_,λp hq=>?_,by simp;omega⟩
   ·rw[c6,Qm,SO,e,c6,Qm]
    rfl
   ·rcases cJ.mp hq with rfl|hq
    ·rw[SO]
     intro z;rcases cJ.mp z with z|z
     ·exact hc z.symm
     ·exact hp x (dk ..) z
    ·exact hp p (dy _ hq)
theorem zpm:∀l:List Nat,∃(k:Nat) (r:List Nat),l=fQ k 32++r/\(r=[]\/∃c v,r=c :: v/\c ≠ 32)
 |[]=>⟨0,[],rfl,.inl rfl⟩
 |c :: l=>by
  by_cases hc:c=32
  ·obtain⟨k,r,e,h⟩:=zpm l
   exact⟨k+1,r,by rw[hc,e];rfl,h⟩
  ·exact⟨0,c :: l,rfl,.inr ⟨c,l,rfl,hc⟩⟩
inductive Lk where
 |uW
 |act (n:ao)
 |DR (t:List Int)
 |DS (t:List Int)
def Lk.body:Lk->List Nat
 | .uW=>elC
 | .act n=>SK++32 :: eZ n
 | .DR t=>SM++SJ t
 | .DS t=>SN++SJ t
def Lk.Ok:Lk->Prop
 | .uW=>True
 | .act n=>Nm n
 | .DR t=>iJ t
 | .DS t=>iJ t
def Is(l:ao) (d:Nat) (k:Lk):Prop:=eZ l=spc d++k.body/\k.Ok
def SQ(x:ao) (os:List ao) (k:Lk):Prop:=match k with
 | .uW=>x=zqm/\os=[]
 | .act n=>x=Kv/\os=[n]/\Nm n
 | .DR t=>x=Kw/\os=t.map Kz/\iJ t
 | .DS t=>x=Kx/\os=t.map Kz/\iJ t
theorem SQ.body{x:ao}{os:List ao}{k:Lk}(h:SQ x os k):TL.joinL [32] ((x :: os).map eZ)=k.body/\k.Ok:=by
 rw[c6,Qm]
 cases k with
 |uW=>
  obtain⟨rfl,rfl⟩:=h;exact⟨by decide +kernel,trivial⟩
 |act n=>
  obtain⟨rfl,rfl,h⟩:=h;exact⟨by rw[show eZ Kv=SK by decide +kernel];simp[Lk.body],h⟩
 |DR t=>
  obtain⟨rfl,rfl,h⟩:=h;refine⟨?_,h⟩;rw[show eZ Kw=SM by decide +kernel,mW,Vr];rfl
 |DS t=>
  obtain⟨rfl,rfl,h⟩:=h;refine⟨?_,h⟩;rw[show eZ Kx=SN by decide +kernel,mW,Vr];rfl
end Y
end WL
end
section
namespace WL
namespace dq
open PySem PySem.Spec
open L2 hiding Takes XE CX PMk MkP ps_raise ps_try_as ps_try_many passAt passes_call takes_of HdsOk mk_of
open L2N (Takes XE CX PMk MkP ps_raise ps_try_as ps_try_many passAt passes_call takes_of HdsOk mk_of)
open PyProof.Rows hiding St
noncomputable def SR:JB:=⟨[("NoneType",ak),("bool",ak),("int",ak),("str",ak),("tuple",aj),("list",ak),("dict",ak)],[]⟩
noncomputable def SU:JB:=⟨[("NoneType",ak),("bool",ak),("int",ak),("str",ak),("tuple",ak),("list",aj),("dict",ak)],[]⟩
noncomputable def SV:JB:=⟨[("NoneType",ak),("bool",aj),("int",ak),("str",ak),("tuple",ak),("list",ak),("dict",ak)],[]⟩
noncomputable def zpn:SD:=(zB (bH (qW (zw fC (zw (zS []) (zf 0) (eC (.int 1))) (eC (.int 0)))) (zB (zX (eC (.int 0)) (aM 2)) (zB (bH (qW (zw nj (zw (zS []) (zf 0) (eC (.int 2))) (aQ QK (ze (zw (zS []) (zf 0) (eC (.int 0))) zv)))) (zB (zX (aQ Cw (ze (zw (zS []) (zw (zS []) (zf 0) (eC (.int 0))) (zw (zS []) (zf 0) (eC (.int 2)))) zv)) (aM 2)) (zX (zw ZD (zw (zS []) (zf 0) (eC (.int 2))) (eC (.int 1))) (Q5 (QB []) (zf 0) (eC (.int 2))))) qy) (zB (bH (qW (zw o3 (zf 2) (zw nq (eC (.int 10)) (eC (.int 18))))) (zX (zf 2) (Q5 (QB []) (zf 0) (eC (.int 1)))) qy) (zX (zw il (aQ mn (ze (zw ZD (zw ZD (zw gq (zw (zS []) (zf 0) (eC (.int 3))) (eC (.int 23))) (zf 2)) (eC (.int 7))) zv)) (eC (.int 10007))) (Q5 (QB []) (zf 0) (eC (.int 3))))))) qy) (zB (bH (qW (zw rY (zw (zS []) (zf 0) (eC (.int 1))) (eC (.int 0)))) (zB (zX (zw il (aQ mn (ze (zw (zS []) (zf 0) (eC (.int 1))) zv)) (zf 1)) (aM 3)) (zB (zX (zw lg (zw (zS []) (zf 0) (eC (.int 1))) (zf 1)) (Q5 (QB []) (zf 0) (eC (.int 1)))) (Zm (zf 3)))) qy) (Zm (zw il (aQ mn (ze (zw lg (zw (zS []) (zf 0) (eC (.int 3))) (eC (.int 8))) zv)) (zf 1)))))
noncomputable def uj:FN:=fnW 4 zpn
noncomputable def jH:FN:=zW 2 uj
noncomputable def zlB:ED:=(Jz (ze (aQ jH (ze (zf 0) (ze (zf 5) zv))) (ze (zw Cj (aQ jH (ze (zf 0) (ze (zw ZD (zf 4) (eC (.int 1))) zv))) (eC (.int 1))) zv)))
noncomputable def zlC:SD:=(ZC (gR "list" jd (zf 6) (ze (o7 (jS (ze (zf 3) zv)) (aM 8) ny zlB [8]) zv)))
noncomputable def znr:SD:=(Zm (zf 6))
noncomputable def zpo:SD:=(zB (zX (zw ZD (eC (.int 1)) (zw il (aQ mn (ze (zw ZD (aQ jH (ze (zf 0) (ze (eC (.int 4)) zv))) (eC (.int 1))) zv)) (eC (.int 4)))) (aM 3)) (zB (zX (zw ZD (eC (.int 1)) (aQ jH (ze (zf 0) (ze (aQ Cy (ze (zf 1) (ze (zw lg (zf 2) (zf 3)) zv))) zv)))) (aM 4)) (zB (zX (zw ZD (eC (.int 1)) (aQ jH (ze (zf 0) (ze (eC (.int 4)) zv)))) (aM 5)) (zB (zX (jA zv) (aM 6)) (zB (fX (jS (ze (zf 4) zv)) (aM 7) zlC) znr)))))
noncomputable def uk:FN:=fnW 9 zpo
noncomputable def KJ:FN:=zW 3 uk
noncomputable def zlD:TD:=(qW (zw rY (zf 0) (eC (.int 0))))
noncomputable def zlE:SD:=(zB (zX (zw ZD (zf 2) (zw (zS []) (zf 1) (zw il (aQ mn (ze (zf 0) zv)) (eC (.int 36))))) (aM 2)) (zX (zw lg (zf 0) (eC (.int 36))) (aM 0)))
noncomputable def zpp:SD:=(zB (zX (eC (.str "abcdefghijklmnopqrstuvwxyz0123456789")) (aM 1)) (zB (zX (zw (zS []) (zf 1) (zw il (aQ mn (ze (zf 0) zv)) (eC (.int 26)))) (aM 2)) (zB (zX (zw lg (zf 0) (eC (.int 26))) (aM 0)) (zB (Ce zlD zlE) (Zm (zf 2))))))
noncomputable def um:FN:=fnW 3 zpp
noncomputable def KL:FN:=zW 1 um
noncomputable def zjf:ED:=(aQ KL (ze (zw ZD (zf 2) (zw gq (zf 3) (zf 4))) zv))
noncomputable def zns:SD:=(zB (zX (aQ jH (ze (zf 0) (ze (zw nq (eC (.int 10)) (eC (.int 12))) zv))) (aM 2)) (zB (zX (zw ZD (eC (.int 1)) (aQ jH (ze (zf 0) (ze (zw nq (eC (.int 10)) (eC (.int 10))) zv)))) (aM 3)) (Zm (o7 (jS (ze (zf 1) zv)) (aM 4) ny zjf [4]))))
noncomputable def uf:FN:=fnW 5 zns
noncomputable def DT:FN:=zW 2 uf
noncomputable def zgi:ED:=(zw (uN []) (zf 1) (eC (.str "abcdefghijklmnopqrstuvwxyz0123456789")))
noncomputable def zjg:SD:=(Zm (uE (QA md md (eC (.int 1)) (aQ QK (ze (zf 0) zv)) (eC (.int 8))) (uE (zw (uN []) (zw (zS []) (zf 0) (eC (.int 0))) (eC (.str "abcdefghijklmnopqrstuvwxyz"))) (aQ CA (ze (o7 (CP (zf 0)) (aM 1) ny zgi [1]) zv)))))
noncomputable def tZ:FN:=fnW 2 zjg
noncomputable def KN:FN:=zW 1 tZ
noncomputable def ze8:SD:=(bH (iZ (i3 (aQ KN (ze (zf 0) zv)))) (ZZ 1 [4] (ze (zf 0) zv)) qy)
noncomputable def tW:FN:=fnW 1 ze8
noncomputable def ZA:FN:=zW 1 tW
noncomputable def ze9:SD:=(zB (bH (iZ (qW (QA md md (eC (.int 1)) (zf 1) (eC (.int 4))))) (ZZ 2 [5] (ze (zf 1) zv)) qy) (zB (ZC (aQ ZA (ze (zf 2) zv))) (zB (l_ 0 (zf 0) (zf 1)) (zB (l_ 1 (zf 0) (zf 2)) (zB (l_ 2 (zf 0) (jA (ze (zf 2) zv))) (l_ 3 (zf 0) Hz))))))
noncomputable def q_:FN:=fnW 3 ze9
noncomputable def SW:FN:=zW 3 q_
noncomputable def zcs:SD:=(zB (zX (zf 1) (QY 2 (jE (aM 3) (jE (aM 4) J1)))) (zB (zX (zf 2) (QY 2 (jE (aM 5) (jE (aM 6) J1)))) (zB (ZC (aQ ZA (ze (zf 3) zv))) (zB (bH (iZ (qW (QA md nj (eC (.int 0)) (zf 4) (fY 0 (zf 0))))) (ZZ 2 [5] (ze (zf 4) zv)) qy) (zB (ZC (aQ ZA (ze (zf 5) zv))) (zB (zX (aQ JA (ze (fY 2 (zf 0)) zv)) (aM 7)) (zB (bH (qW (zw (ZY []) (zf 3) (zf 7))) (ZC (gR "list" jd (zf 7) (ze (zf 3) zv))) qy) (zB (bH (qW (zw mf (zf 6) (eC .non))) (zB (ZC (aQ ZA (ze (zf 6) zv))) (bH (qW (zw (ZY []) (zf 6) (zf 7))) (ZC (gR "list" jd (zf 7) (ze (zf 6) zv))) qy)) qy) (zB (bH (qW (zw rY (aQ QK (ze (zf 7) zv)) (xA [(0,.int 16)] (zf 0)))) (ZZ 5 [7] (ze (xA [(0,.int 16)] (zf 0)) zv)) qy) (zB (l_ 2 (zf 0) (zf 7)) (zX (Jz (ze (zf 5) (ze (zf 6) zv))) (Q5 (QB []) (fY 3 (zf 0)) (Jz (ze (zf 3) (ze (zf 4) zv)))))))))))))))
noncomputable def tU:FN:=fnW 8 zcs
noncomputable def jO:FN:=zW 3 tU
noncomputable def zlF:SD:=(zB (zX (zw (zS []) (zw (zS []) (zf 0) (zf 4)) (zf 5)) (aM 6)) (bH (qW (zw mf (zf 6) (eC .non))) (zX (Jz (ze (zw (zS []) (zf 2) (zw (zS []) (zf 6) (eC (.int 0)))) (ze (l9 (qW (zw o3 (zw (zS []) (zf 6) (eC (.int 1))) (eC (.int 0)))) (zw (zS []) (zf 1) (zw (zS []) (zf 6) (eC (.int 1)))) (eC .non)) zv))) (Q5 (QB [(0,jO)]) (zf 3) (Jz (ze (zw (zS []) (zf 1) (zf 4)) (ze (zf 5) zv))))) qy))
noncomputable def zlG:SD:=(fX (jS (ze (aQ QK (ze (zw (zS []) (zf 0) (zf 4)) zv)) zv)) (aM 5) zlF)
noncomputable def znt:SD:=(Zm (zf 3))
noncomputable def zpq:SD:=(zB (zX (aQ (zW 2 (oW 0 q_)) (ze (aQ QK (ze (zw (zS []) (zf 0) (eC (.int 0))) zv)) (ze (zw (zS []) (zf 1) (eC (.int 0))) zv))) (aM 3)) (zB (fX (jS (ze (aQ QK (ze (zf 0) zv)) zv)) (aM 4) zlG) znt))
noncomputable def uo:FN:=fnW 7 zpq
noncomputable def KO:FN:=zW 3 uo
noncomputable def zlH:SD:=(bH (kA (qW (zw mf (zf 3) (eC .non))) (kA (qW (zw o3 (zw (zS []) (zf 3) (eC (.int 1))) (eC (.int 0)))) (qW (zw (ZY []) (zw (zS []) (zf 3) (eC (.int 1))) (zf 1))))) (ZC (gR "list" jd (zf 1) (ze (zw (zS []) (zf 3) (eC (.int 1))) zv))) qy)
noncomputable def zjh:SD:=(zB (bH (kA (qW (zw mf (zf 3) (eC .non))) (qW (zw (ZY []) (zf 2) (zf 1)))) (ZC (gR "list" jd (zf 1) (ze (zf 2) zv))) qy) zlH)
noncomputable def zji:SD:=(fX (ij (zw (zS []) (zf 0) (zf 2))) (aM 3) zjh)
noncomputable def zlI:SD:=(Zm (zf 1))
noncomputable def znu:SD:=(zB (zX (jA (ze (eC (.int 0)) zv)) (aM 1)) (zB (fX (jS (ze (aQ QK (ze (zf 0) zv)) zv)) (aM 2) zji) zlI))
noncomputable def ug:FN:=fnW 4 znu
noncomputable def KP:FN:=zW 1 ug
noncomputable def za5:SD:=(l_ 1 (zf 0) (zf 1))
noncomputable def zbH:SD:=(zB (bH (qW (zw (ZY []) (zf 1) (fY 2 (zf 0)))) (ZZ 3 [6] (ze (zf 1) zv)) qy) za5)
noncomputable def tS:FN:=fnW 2 zbH
noncomputable def Zj:FN:=zW 2 tS
noncomputable def BF:SD:=(x_ [(0,Zj)] (zf 0) (zf 1))
noncomputable def tT:FN:=fnW 2 BF
noncomputable def ZB:FN:=zW 2 tT
noncomputable def zjj:SD:=(zB (ZC (gR "list" jd (zf 6) (ze (zw (zS []) (zf 4) (zw (zS []) (zw (zS []) (zw (zS []) (zf 0) (zf 7)) (zf 8)) (eC (.int 0)))) zv))) (zB (zX (zw (zS []) (zw (zS []) (zw (zS []) (zf 0) (zf 7)) (zf 8)) (eC (.int 1))) (aM 7)) (bH (qW (zw nj (zf 7) (eC (.int 0)))) (Zm (jA (ze (gx (zf 6)) (ze (gx (jA (ze (eC (.str "exit")) zv))) zv)))) qy)))
noncomputable def zjk:SD:=(zB (bH (qW (zw Q1 (zw (zS []) (zw (zS []) (zf 0) (zf 7)) (zf 8)) (eC .non))) (Zm (jA (ze (gx (zf 6)) (ze (gx (jA (ze (eC (.str "edge")) (ze (zw (zS []) (zf 3) (zf 7)) (ze (zf 8) zv))))) zv)))) qy) zjj)
noncomputable def zhd:SD:=(zB (bH (tOr (qW (zw nj (zf 8) (eC (.int 0)))) (qW (zw o3 (zf 8) (zf 5)))) (Zm (jA (ze (gx (zf 6)) (ze (gx (jA (ze (eC (.str "outcome")) (ze (zf 8) zv)))) zv)))) qy) zjk)
noncomputable def zjl:SD:=(Zm (jA (ze (gx (zf 6)) (ze (gx (jA zv)) zv))))
noncomputable def zlJ:SD:=(zB (zX (aQ QK (ze (zw (zS []) (zf 0) (eC (.int 0))) zv)) (aM 5)) (zB (zX (jA zv) (aM 6)) (zB (zX (zf 2) (aM 7)) (zB (fX (ij (zf 1)) (aM 8) zhd) zjl))))
noncomputable def ua:FN:=fnW 9 zlJ
noncomputable def KQ:FN:=zW 5 ua
noncomputable def zdU:SD:=(bH (iZ (qW (QA md nj (eC (.int 0)) (zf 2) (zf 1)))) (ZZ 2 [5] (ze (zf 2) zv)) qy)
noncomputable def zgj:SD:=(fX (ij (zf 0)) (aM 2) zdU)
noncomputable def tY:FN:=fnW 3 zgj
noncomputable def KR:FN:=zW 2 tY
noncomputable def zct:SD:=(zB (zX (zf 1) (QY 2 (jE (aM 2) (jE (aM 3) J1)))) (zB (bH (qW (zw (ZY []) (zf 2) (fY 2 (zf 0)))) (ZZ 3 [6] (ze (zf 2) zv)) qy) (zB (bH (iZ (qW (QA md nj (eC (.int 0)) (zf 3) (fY 0 (zf 0))))) (ZZ 2 [5] (ze (zf 3) zv)) qy) (zB (bH (qW (zw (ZY []) (Jz (ze (zf 2) (ze (zf 3) zv))) (fY 3 (zf 0)))) (ZZ 4 [6,5] (ze (zf 2) (ze (zf 3) zv))) qy) (Zm (zw (zS []) (fY 3 (zf 0)) (Jz (ze (zf 2) (ze (zf 3) zv)))))))))
noncomputable def p_:FN:=fnW 4 zct
noncomputable def qL:FN:=zW 2 p_
noncomputable def zdB:SD:=(zB (zX (zw (zS [(0,qL)]) (zf 0) (Jz (ze (zf 3) (ze (zf 4) zv)))) (QY 2 (jE (aM 5) (jE (aM 3) J1)))) (zB (ZC (gR "list" jd (zf 2) (ze (zf 5) zv))) (bH (qW (zw Q1 (zf 3) (eC .non))) (Zm (Jz (ze (zf 2) (ze (eC (.bl aj)) zv)))) qy)))
noncomputable def zdV:SD:=(Zm (Jz (ze (zf 2) (ze (eC (.bl ak)) zv))))
noncomputable def zfb:SD:=(zB (ZC (aQ KR (ze (zf 1) (ze (fY 0 (zf 0)) zv)))) (zB (xt 2 3 (ze (jA zv) (ze (fY 1 (zf 0)) zv))) (zB (fX (ij (zf 1)) (aM 4) zdB) zdV)))
noncomputable def tX:FN:=fnW 6 zfb
noncomputable def QR:FN:=zW 2 tX
noncomputable def zjm:SD:=(zB (zX (aQ JA (ze (zw (zS []) (zf 2) (eC (.int 0))) zv)) (aM 3)) (zB (ZC (gR "list" jd (zw (zS []) (zf 2) (eC (.int 0))) (ze (eC (.str "x")) zv))) (Zm (jA (ze (eC (.str "run")) (ze (zf 3) (ze (zw (zS []) (zf 2) (eC (.int 1))) zv)))))))
noncomputable def zhe:SD:=(zB (zX (HI [(0,QR)] (zf 0) (ze (zf 1) zv)) (aM 2)) (zB (bH (tOr (iZ (i3 (uU SR (zf 2)))) (tOr (qW (zw gQ (aQ QK (ze (zf 2) zv)) (eC (.int 2)))) (tOr (iZ (i3 (uU SU (zw (zS []) (zf 2) (eC (.int 0)))))) (iZ (i3 (uU SV (zw (zS []) (zf 2) (eC (.int 1))))))))) (Zm (jA (ze (eC (.str "none")) zv))) qy) zjm))
noncomputable def zhf:Nat->List (Nat×W)->SD:=λc fs=>(zB (bH (i3 (nz c [(1,ak),(2,aj),(3,ak),(4,ak),(5,ak)])) (Zm (jA (ze (eC (.str "outcome")) (ze (lz c [2,4] 5 fs) zv)))) qy) (bH (i3 (nz c [(1,ak),(2,ak),(3,ak),(4,aj),(5,ak)])) (Zm (jA (ze (eC (.str "edge")) (ze (lz c [3,4] 6 fs) (ze (lz c [2,4] 5 fs) zv))))) qy))
noncomputable def zjn:SD:=(Zm (jA (ze (eC (.str "none")) zv)))
noncomputable def zlK:SD:=(zB (mz [(1,aj),(2,aj),(3,aj),(4,aj),(5,aj)] 4 zhe zhf) zjn)
noncomputable def uc:FN:=fnW 5 zlK
noncomputable def KS:FN:=zW 2 uc
noncomputable def BG:SD:=(Zm (fY 1 (zf 0)))
noncomputable def tV:FN:=fnW 1 BG
noncomputable def Ze:FN:=zW 1 tV
noncomputable def wG:SD:=(Zm (zw (zS [(0,qL)]) (zf 0) (Jz (ze (zf 1) (ze (zf 2) zv)))))
noncomputable def rg:FN:=fnW 3 wG
noncomputable def jm:FN:=zW 3 rg
noncomputable def zlL:SD:=(zX (Qf [(0,Ze)] (zf 0) zv) (aM 2))
noncomputable def zlM:ID:=(ij (zf 1))
noncomputable def zlN:GD:=(aM 3)
noncomputable def zlO:SD:=(zX (Qf [(0,jm)] (zf 0) (ze (zf 2) (ze (zf 3) zv))) (QY 2 (jE (aM 4) (jE (aM 2) J1))))
noncomputable def zlP:ED:=(zf 4)
noncomputable def zlQ:SD:=(bH (qW (zw Q1 (zf 2) (eC .non))) oS qy)
noncomputable def SY:cN:=⟨5,zlL,zlM,zlN,zlO,zlP,zlQ⟩
noncomputable def zdD:SD:=(zB (zX (Qf [(0,jm)] (zf 0) (ze (zf 3) (ze (zf 4) zv))) (QY 2 (jE (aM 5) (jE (aM 3) J1)))) (zB (ZC (gR "list" jd (zf 2) (ze (zf 5) zv))) (bH (qW (zw Q1 (zf 3) (eC .non))) oS qy)))
noncomputable def zfc:SD:=(zB (zX (Qf [(0,Ze)] (zf 0) zv) (aM 3)) (fX (ij (zf 1)) (aM 4) zdD))
noncomputable def S6:FN:=fnW 6 zfc
noncomputable def JZ:FN:=zW 3 S6
noncomputable def zhg:SD:=(yx SY (ze (zf 0) (ze (zf 1) zv)) 2 3 2)
noncomputable def zhh:Nat->List (Nat×W)->SD:=λc fs=>(zB (bH (i3 (nz c [(1,ak),(2,aj),(3,ak),(4,ak),(5,ak)])) (Zm (jA (ze (zf 2) (ze (eC (.str "outcome")) (ze (lz c [2,4] 5 fs) zv))))) qy) (zB (bH (i3 (nz c [(1,ak),(2,ak),(3,ak),(4,aj),(5,ak)])) (Zm (jA (ze (zf 2) (ze (eC (.str "edge")) (ze (lz c [3,4] 6 fs) (ze (lz c [2,4] 5 fs) zv)))))) qy) (Zm (jA (ze (eC (.str "none")) zv)))))
noncomputable def zjo:SD:=(Zm (jA (ze (zf 2) zv)))
noncomputable def zlR:SD:=(zB (zX (jA zv) (aM 2)) (zB (mz [(1,aj),(2,aj),(3,aj),(4,aj),(5,aj)] 4 zhg zhh) zjo))
noncomputable def ud:FN:=fnW 5 zlR
noncomputable def KU:FN:=zW 2 ud
noncomputable def zlS:SD:=(bH (tOr (qW (zw gQ (aQ KS (ze (zf 0) (ze (zf 11) zv))) (zf 10))) (tOr (qW (zw gQ (zf 11) (zf 2))) (tOr (qW (zw gQ (aQ KU (ze (zf 0) (ze (zf 11) zv))) (zw u3 (jA (ze (zf 8) zv)) (zf 9)))) (qW (zw gQ (zf 11) (zf 2)))))) (Zm (eC (.bl ak))) qy)
noncomputable def znv:SD:=(Zm (eC (.bl aj)))
noncomputable def znw:SD:=(zB (bH (kA (qW (zw fC (zf 4) (jA zv))) (kA (qW (zw rY (aQ QK (ze (zf 2) zv)) (eC (.int 0)))) (qW (zw mf (zw (zS []) (zw (zS []) (zf 1) (zf 3)) (zw (zS []) (zf 2) (eC (.int 0)))) (eC .non))))) (zB (zX (zw (zS []) (zw (zS []) (zf 1) (zf 3)) (zw (zS []) (zf 2) (eC (.int 0)))) (aM 13)) (Zm (zw fC (Qf [(0,jm)] (zf 0) (ze (zw (zS []) (zf 5) (zf 3)) (ze (zw (zS []) (zf 2) (eC (.int 0))) zv))) (Jz (ze (zw (zS []) (zf 6) (zw (zS []) (zf 13) (eC (.int 0)))) (ze (l9 (qW (zw o3 (zw (zS []) (zf 13) (eC (.int 1))) (eC (.int 0)))) (zw (zS []) (zf 5) (zw (zS []) (zf 13) (eC (.int 1)))) (eC .non)) zv)))))) qy) znv)
noncomputable def znx:SD:=(zB (zX (aQ JA (ze (zf 2) zv)) (aM 11)) (zB (fX (jS (ze (eC (.int 2)) zv)) (aM 12) zlS) znw))
noncomputable def zny:SD:=(zB (bH (qW (zw fC (zf 9) (jA (ze (eC (.str "exit")) zv)))) (zX (gx (jA zv)) (aM 9)) qy) znx)
noncomputable def zpr:SD:=(zB (zX (aQ KQ (ze (zf 1) (ze (zf 2) (ze (zf 3) (ze (zf 5) (ze (zf 6) zv)))))) (aM 7)) (zB (zX (zw (zS []) (zf 7) (eC (.int 0))) (aM 8)) (zB (zX (gx (zw (zS []) (zf 7) (eC (.int 1)))) (aM 9)) (zB (zX (jA (ze (eC (.str "run")) (ze (zf 8) (ze (zw fC (zf 9) (jA (ze (eC (.str "exit")) zv))) zv)))) (aM 10)) (zB (bH (qW (zw gQ (zf 4) (jA zv))) (zX (jA (ze (eC (.str "outcome")) (ze (zw (zS []) (zf 4) (eC (.int 0))) zv))) (aM 10)) (bH (kA (qW (zw gQ (zf 9) (jA zv))) (qW (zw gQ (zf 9) (jA (ze (eC (.str "exit")) zv))))) (zX (zf 9) (aM 10)) qy)) zny)))))
noncomputable def uq:FN:=fnW 14 zpr
noncomputable def DU:FN:=zW 7 uq
noncomputable def znz:SD:=(zB (zX (aQ jH (ze (zf 1) (ze (aQ QK (ze (zf 2) zv)) zv))) (aM 5)) (zB (zX (aQ jH (ze (zf 1) (ze (zf 3) zv))) (aM 6)) (zX (zw ZD (zw ZD (Q3 (zw (zS []) (zf 2) (zf 5)) ai (ah (zf 6))) (jA (ze (eC .non) zv))) (Q3 (zw (zS []) (zf 2) (zf 5)) (ah (zw ZD (zf 6) (eC (.int 1)))) ai)) (Q5 (QB []) (zf 2) (zf 5)))))
noncomputable def znA:ED:=(aQ jH (ze (zf 1) (ze (zf 3) zv)))
noncomputable def zps:SD:=(zB (zX (zw (zS []) (zf 10) (aQ jH (ze (zf 1) (ze (aQ QK (ze (zf 10) zv)) zv)))) (aM 5)) (zB (zX (aQ jH (ze (zf 1) (ze (zf 3) zv))) (aM 6)) (zB (zX (Jz (ze (aQ jH (ze (zf 1) (ze (eC (.int 4)) zv))) (ze (zw (zS []) (zf 10) (aQ jH (ze (zf 1) (ze (aQ QK (ze (zf 10) zv)) zv)))) zv))) (aM 14)) (zB (zX (zw ZD (zw ZD (Q3 (zw (zS []) (zf 2) (zf 5)) ai (ah (zf 6))) (jA (ze (zf 14) zv))) (Q3 (zw (zS []) (zf 2) (zf 5)) (ah (zw ZD (zf 6) (eC (.int 1)))) ai)) (Q5 (QB []) (zf 2) (zf 5))) (zB (zX (Jz (ze (zw (zS []) (zf 8) (zw (zS []) (zf 14) (eC (.int 0)))) (ze (zw (zS []) (zf 7) (zw (zS []) (zf 14) (eC (.int 1)))) zv))) (Q5 (QB [(0,jO)]) (zf 9) (Jz (ze (zw (zS []) (zf 7) (zf 5)) (ze (zf 6) zv))))) (Zm (aQ DU (ze (zf 9) (ze (zf 2) (ze (zf 12) (ze (zf 11) (ze (zf 13) (ze (zf 7) (ze (zf 8) zv))))))))))))))
noncomputable def zpt:SD:=(zB (bH (iZ (i3 (aQ DU (ze (zf 9) (ze (zf 2) (ze (zf 12) (ze (zf 11) (ze (zf 13) (ze (zf 7) (ze (zf 8) zv)))))))))) (Zm (eC (.bl ak))) qy) zps)
noncomputable def zpu:SD:=(zB (zX (jA zv) (aM 13)) (zB (bH (qW (zw fC (aQ jH (ze (zf 1) (ze (eC (.int 4)) zv))) (eC (.int 1)))) (zB (zX (aQ jH (ze (zf 1) (ze (zw ZD (aQ QK (ze (zf 12) zv)) (eC (.int 1))) zv))) (aM 6)) (zB (zX (jA (ze (zw Cj (zw ZD (zf 3) (aQ jH (ze (zf 1) (ze (eC (.int 1000)) zv)))) (zw gq (zw ZD (zf 3) (eC (.int 1000))) (aQ jH (ze (zf 1) (ze (eC (.int 2)) zv))))) zv)) (aM 13)) (zX (zw ZD (zw ZD (zw ZD (Q3 (zf 12) ai (ah (zf 6))) (zf 13)) (Q3 (zf 12) (ah (zf 6)) ai)) (jA (ze (zf 3) zv))) (aM 12)))) qy) zpt))
noncomputable def zpv:SD:=(zB (zX (aQ DT (ze (zf 1) (ze (aQ QK (ze (zf 2) zv)) zv))) (aM 7)) (zB (zX (aQ DT (ze (zf 1) (ze (eC (.int 4)) zv))) (aM 8)) (zB (zX (aQ KO (ze (zf 2) (ze (zf 7) (ze (zf 8) zv)))) (aM 9)) (zB (zX (aQ KP (ze (zf 2) zv)) (aM 10)) (zB (zX (zw (zS []) (zf 10) (aQ jH (ze (zf 1) (ze (aQ QK (ze (zf 10) zv)) zv)))) (aM 11)) (zB (ZC (Qf [(0,ZB)] (zf 9) (ze (zw (zS []) (zf 7) (zf 11)) zv))) (zB (zX (o7 (jS (ze (aQ jH (ze (zf 1) (ze (eC (.int 41)) zv))) zv)) (aM 4) ny znA [4]) (aM 12)) (zB (bH (qW (zw fC (aQ jH (ze (zf 1) (ze (eC (.int 8)) zv))) (eC (.int 1)))) (zX (Q3 (zw gq (zf 12) (eC (.int 25))) ai (ah (eC (.int 998)))) (aM 12)) qy) zpu))))))))
noncomputable def zqr:SD:=(zB (zX (jA (ze (aQ JA (ze (zf 0) zv)) (ze (eC (.int 0)) (ze (eC (.int 0)) (ze (eC (.int 0)) zv))))) (aM 1)) (zB (zX (aQ KJ (ze (zf 1) (ze (eC (.int 6)) (ze (eC (.int 18)) zv)))) (aM 2)) (zB (zX (aQ QK (ze (zw (zS []) (zf 2) (eC (.int 0))) zv)) (aM 3)) (zB (fX (jS (ze (aQ jH (ze (zf 1) (ze (eC (.int 3)) zv))) zv)) (aM 4) znz) zpv))))
noncomputable def rE:FN:=fnW 15 zqr
noncomputable def S7:FN:=zW 1 rE
end dq
end WL
end
section
set_option autoImplicit false
namespace WL
namespace dq
open PySem PySem.Spec L2
open PyProof.Rows hiding St
open WL.X
noncomputable def qo(bT:qq) (lY:Int):Res aE (Int×qq):=Res.fin (ν:=aE) (β:=aE) (
(Res.seq ((aL (decide (bT.2.1=(0:Int)))
((Res.seq ((aL (decide (bT.2.2.1<(bT.1.length:Int)))
((Res.bind (Res.bind (zY bT.1 bT.2.2.1) λt5=>(Res.ok (yE t5))) λFO=>Res.ok (PF.nx (((bT.1,bT.2.1,(bT.2.2.1+(1:Int)),bT.2.2.2):qq),FO))))
(Res.ok (PF.nx (bT,(0:Int))))))
λ(s4:(qq×Int))=>
(Res.seq ((aL (decide ((1000000000000000000:Int)<=s4.2))
(Res.ok (PF.nx ((s4.1.1,s4.2,s4.1.2.2.1,s4.1.2.2.2):qq)))
(Res.ok (PF.nx s4.1))))
λ(s7:(qq))=>
Res.ok (PF.nx ((s7.1,s7.2.1,s7.2.2.1,((((s7.2.2.2 * 23)+s4.2)+(7:Int)) % 10007)):qq)))))
(Res.ok (PF.nx bT))))
λ(s3:(qq))=>
(aL (decide ((0:Int)<s3.2.1))
((Res.bind (pG s3.2.1 lY) λwM=>(Res.bind (sO s3.2.1 lY) λv9=>Res.ok (PF.rt (wM,((s3.1,v9,s3.2.2.1,s3.2.2.2):qq))))))
((Res.bind (pG (s3.2.2.2 / 8) lY) λv10=>Res.ok (PF.rt (v10,s3))))))) (λz=>nomatch z)
theorem je(bT:qq) (w0:W) (lY:Int):FX jH [pin qp bT w0,own zg lY] (qo bT lY) [w0] (λ(t:Int×qq)=>(own zg t.1,[pin qp t.2 w0])) (bX):=by
 unfold jH uj qo;refine jU (n:=4) (k:=2) (A:=[pin qp bT w0,own zg lY]) (N:=λz:aE=>nomatch z) (E:=bX) (post:=λ(t:Int×qq)=>(own zg t.1,[pin qp t.2 w0])) (pe:=bX) rfl (by decide) (jF (N1:=(λ(s3:(qq))=>[pin qp s3 w0,own zg lY,SA.any,SA.any])) ?_ ?_) (λz=>nomatch z) (λx=>nomatch x)
 ·refine ZK ?_
  refine jN (b:=(decide (bT.2.1=(0:Int)))) (bx.eq (qm (zy (Pm rfl rfl) (Ja 1 (λv=>v.2.1) (λv=>rfl) (zZ rfl)) zF)) rfl) ⟨_,_,rfl,?_,?_⟩
  ·refine zT ?_
   refine zo (v:=(0:Int)) (av.eq zF rfl) (jF (N1:=(λ(s4:(qq×Int))=>[pin qp s4.1 w0,own zg lY,own zg s4.2,SA.any])) ?_ ?_)
   ·refine ZK ?_
    refine jN (b:=(decide (bT.2.2.1<(bT.1.length:Int)))) (bx.eq (qm (zy sP (Ja 2 (λv=>v.2.2.1) (λv=>rfl) (zZ rfl)) (Zp ZR (Ja 0 (λv=>v.1) (λv=>rfl) (zZ rfl))))) rfl) ⟨_,_,rfl,?_,?_⟩
    ·refine zT ?_
     exact q8 (av.eq (Zp zoP (zy qU (Ja 0 (λv=>v.1) (λv=>rfl) (zZ rfl)) (Ja 2 (λv=>v.2.2.1) (λv=>rfl) (zZ rfl)))) (by first|with_reducible rfl|(simp only[z9,zA,zH,zI,qa,zD,zJ,zK,qb];done)|rfl)) (λFO=>jB (Jw (zo (v:=(bT.2.2.1+(1:Int))) (av.eq (zy JS (Ja 2 (λv=>v.2.2.1) (λv=>rfl) (zZ rfl)) zF) rfl) (zQ rfl (zo (v:=(2:Int)) (av.eq zF rfl) (DA 0 2 ((bT.1,bT.2.1,(bT.2.2.1+(1:Int)),bT.2.2.2):qq) _ rfl (λ_=>aF _) SA.r (gJ rfl) rfl (bC _) (zR (s:=(((bT.1,bT.2.1,(bT.2.2.1+(1:Int)),bT.2.2.2):qq),FO)) (Le.cons SA.r (Le.cons SA.r (Le.cons SA.r (Le.cons SA.y Le.nil)))))))))))
    ·exact zR (s:=(bT,(0:Int))) (Le.cons SA.r (Le.cons SA.r (Le.cons SA.r (Le.cons SA.y Le.nil))))
   intro s4;refine jF (N1:=(λ(s7:(qq))=>[pin qp s7 w0,own zg lY,own zg s4.2,SA.any])) ?_ ?_
   ·refine ZK ?_
    refine jN (b:=(decide ((1000000000000000000:Int)<=s4.2))) (bx.eq (qm (zy yI (zh rfl) (Kg (z:=1000000000000000000) (by decide)))) rfl) ⟨_,_,rfl,?_,?_⟩
    ·refine jB ?_
     exact Jw (zo (v:=s4.2) (av.eq (zh rfl) rfl) (zQ rfl (zo (v:=(1:Int)) (av.eq zF rfl) (DA 0 1 ((s4.1.1,s4.2,s4.1.2.2.1,s4.1.2.2.2):qq) _ rfl (λ_=>aF _) SA.r (gJ rfl) rfl (bC _) (zR (s:=((s4.1.1,s4.2,s4.1.2.2.1,s4.1.2.2.2):qq)) (Le.cons SA.r (Le.cons SA.r (Le.cons SA.r (Le.cons SA.y Le.nil)))))))))
    ·exact zR (s:=s4.1) (Le.cons SA.r (Le.cons SA.r (Le.cons SA.r (Le.cons SA.y Le.nil))))
   intro s7;exact jB (Jw (zo (v:=((((s7.2.2.2 * 23)+s4.2)+(7:Int)) % 10007)) (av.eq (Kf (by decide) (Zp yO (zy JS (zy JS (zm6 (by decide) (Ja 3 (λv=>v.2.2.2) (λv=>rfl) (zZ rfl))) (zh rfl)) zF))) rfl) (zQ rfl (zo (v:=(3:Int)) (av.eq zF rfl) (DA 0 3 ((s7.1,s7.2.1,s7.2.2.1,((((s7.2.2.2 * 23)+s4.2)+(7:Int)) % 10007)):qq) _ rfl (λ_=>aF _) SA.r (gJ rfl) rfl (bC _) (zR (s:=((s7.1,s7.2.1,s7.2.2.1,((((s7.2.2.2 * 23)+s4.2)+(7:Int)) % 10007)):qq)) (Le.cons SA.r (Le.cons SA.r (Le.cons SA.y (Le.cons SA.y Le.nil))))))))))
  ·exact zR (s:=bT) (Le.cons SA.r (Le.cons SA.r (Le.cons SA.y (Le.cons SA.y Le.nil))))
 intro s3;refine j8 (jN (b:=(decide ((0:Int)<s3.2.1))) (bx.eq (qm (zy De (Ja 1 (λv=>v.2.1) (λv=>rfl) (zZ rfl)) zF)) rfl) ⟨_,_,rfl,?_,?_⟩)
 ·refine Kc ?_
  refine zT ?_;refine q8 (av.eq (zy Pl (Zp yO (Ja 1 (λv=>v.2.1) (λv=>rfl) (zZ rfl))) (zh rfl)) (by first|with_reducible rfl|(simp only[z9,zA,zH,zI,qa,zD,zJ,zK,qb];done)|rfl)) (λwM=>Kc (Jw ?_));exact q8 (av.eq (zy Pk (Ja 1 (λv=>v.2.1) (λv=>rfl) (zZ rfl)) (zh rfl)) (by first|with_reducible rfl|(simp only[z9,zA,zH,zI,qa,zD,zJ,zK,qb];done)|rfl)) (λv9=>zQ rfl (zo (v:=(1:Int)) (av.eq zF rfl) (DA 0 1 ((s3.1,v9,s3.2.2.1,s3.2.2.2):qq) _ rfl (λ_=>aF _) SA.r (gJ rfl) rfl (bC _) (QN (zo (v:=wM) (av.eq (zh rfl) rfl) ⟨_,rfl,⟨SA.r,aF _⟩,(.cons 0 rfl rfl .nil)⟩)))))
 ·refine jG ?_
  refine jC ?_;exact q8 (av.eq (zy Pl (Zp yO (Ke (by decide) (Ja 3 (λv=>v.2.2.2) (λv=>rfl) (zZ rfl)))) (zh rfl)) (by first|with_reducible rfl|(simp only[z9,zA,zH,zI,qa,zD,zJ,zK,qb];done)|rfl)) (λv10=>⟨_,rfl,⟨SA.r,aF _⟩,(.cons 0 rfl rfl .nil)⟩)
noncomputable def vO(bT:qq) (iW:Int) (iS:Int):Res aE ((List (List (Int×Int)))×qq):=Res.fin (ν:=aE) (β:=aE) (
(Res.bind (Res.up (qo bT (4:Int))) λv4=>(Res.bind (Res.bind (sO iS ((1:Int)+((v4.1+(1:Int)) % (4:Int)))) λt5=>(Res.ok (DC iW t5))) λv6=>(Res.bind (Res.up (qo v4.2 v6)) λv7=>(Res.bind (Res.up (qo v7.2 (4:Int))) λv8=>(Res.seq ((Res.bind (rng 0 ((1:Int)+v7.1)) λrM=>jW (λb6 (cA:(qq×(List (List (Int×Int)))))=>
(Res.bind (rng 0 ((1:Int)+((v4.1+(1:Int)) % (4:Int)))) λuw=>(Res.bind (f6 (fits uw.length)) λ_=>(Res.bind (Res.up (nM (λrh i9=>(Res.bind (Res.up (qo i9 ((1:Int)+v8.1))) λg_=>(Res.bind (Res.up (qo g_.2 (((1:Int)+v7.1)+(1:Int)))) λfH=>Res.ok ((g_.1,(fH.1 - (1:Int))),fH.2)))) uw cA.1)) λi_=>(Res.bind (push cA.2 i_.1) λhG=>Res.ok (PF.nx (i_.2,hG))))))) rM (v8.2,([]:List (List (Int×Int))))))
λ(s9:(qq×(List (List (Int×Int)))))=>
Res.ok (PF.rt (s9.2,s9.1)))))))) (λz=>nomatch z)
theorem znB(bT:qq) (w0:W) (iW:Int) (iS:Int):FX KJ [pin qp bT w0,own zg iW,own zg iS] (vO bT iW iS) [w0] (λ(t:(List (List (Int×Int)))×qq)=>(own (zd (zd (val (aB zm zm)))) t.1,[pin qp t.2 w0])) (bX):=by
 unfold KJ uk vO;refine jU (n:=9) (k:=3) (A:=[pin qp bT w0,own zg iW,own zg iS]) (N:=λz:aE=>nomatch z) (E:=bX) (post:=λ(t:(List (List (Int×Int)))×qq)=>(own (zd (zd (val (aB zm zm)))) t.1,[pin qp t.2 w0])) (pe:=bX) rfl (by decide) (zT (qT (zo (v:=(1:Int)) (av.eq zF rfl) (qT (qR (zi (qT (qR (zi (zQ rfl (zi (zo (v:=(4:Int)) (av.eq zF rfl) (zu (qd (je bT w0 (4:Int)) (.cons (zN rfl) (.cons (zN rfl) .nil)) (λ_=>qz rfl) (λ_=>(.cons 0 rfl rfl (aF _) .nil)) (λv4=>zo (v:=(1:Int)) (av.eq zF rfl) (op_add (zu (zoK (zo (v:=(4:Int)) (av.eq zF rfl) (op_mod (by decide) (op_add ?_))))))))))))))))))))) (λz=>nomatch z) (λx=>nomatch x);change SX _ _ [pin qp v4.2 w0,own zg iW,own zg iS,own zg ((1:Int)+((v4.1+(1:Int)) % (4:Int))),SA.any,SA.any,SA.any,SA.any,SA.any] _ _;refine zT (qT (zo (v:=(1:Int)) (av.eq zF rfl) (qR (zi (zQ rfl (zi ?_))))));refine q8 (av.eq (zoW (zh rfl) (zy Pk (zh rfl) (zh rfl))) (by first|with_reducible rfl|(simp only[z9,zA,zH,zI,qa,zD,zJ,zK,qb];done)|rfl)) (λv6=>zu (qd (je v4.2 w0 v6) (.cons (zN rfl) (.cons (zN rfl) .nil)) (λ_=>qz rfl) (λ_=>(.cons 0 rfl rfl (aF _) .nil)) (λv7=>op_add ?_)));change SX _ _ [pin qp v7.2 w0,own zg iW,own zg iS,own zg ((1:Int)+((v4.1+(1:Int)) % (4:Int))),own zg ((1:Int)+v7.1),SA.any,SA.any,SA.any,SA.any] _ _;refine zT (qT (zo (v:=(1:Int)) (av.eq zF rfl) (qR (zi (zQ rfl (zi (zo (v:=(4:Int)) (av.eq zF rfl) (zu (qd (je v7.2 w0 (4:Int)) (.cons (zN rfl) (.cons (zN rfl) .nil)) (λ_=>qz rfl) (λ_=>(.cons 0 rfl rfl (aF _) .nil)) (λv8=>op_add ?_))))))))));change SX _ _ [pin qp v8.2 w0,own zg iW,own zg iS,own zg ((1:Int)+((v4.1+(1:Int)) % (4:Int))),own zg ((1:Int)+v7.1),own zg ((1:Int)+v8.1),SA.any,SA.any,SA.any] _ _;refine zT (jR (α:=(List (Int×Int))) (zu ⟨([]:List (List (Int×Int))),(zd (val (aB zm zm))),.nil,rfl,rfl,?_⟩));change SX _ _ [pin qp v8.2 w0,own zg iW,own zg iS,own zg ((1:Int)+((v4.1+(1:Int)) % (4:Int))),own zg ((1:Int)+v7.1),own zg ((1:Int)+v8.1),own (zd (zd (val (aB zm zm)))) ([]:List (List (Int×Int))),SA.any,SA.any] _ _;refine jF (N1:=(λ(s9:(qq×(List (List (Int×Int)))))=>[pin qp s9.1 w0,own zg iW,own zg iS,own zg ((1:Int)+((v4.1+(1:Int)) % (4:Int))),own zg ((1:Int)+v7.1),own zg ((1:Int)+v8.1),own (zd (zd (val (aB zm zm)))) s9.2,SA.any,SA.any])) ?_ ?_
 ·refine Q7 ?_
  refine yT (n:=((1:Int)+v7.1)) rfl (av.eq (zh rfl) rfl) (λrM=>lD (xs:=rM) (s0:=(v8.2,([]:List (List (Int×Int))))) (zg) (λ(cA:(qq×(List (List (Int×Int)))))=>[pin qp cA.1 w0,own zg iW,own zg iS,own zg ((1:Int)+((v4.1+(1:Int)) % (4:Int))),own zg ((1:Int)+v7.1),own zg ((1:Int)+v8.1),own (zd (zd (val (aB zm zm)))) cA.2,SA.any,SA.any]) rfl ZQ (by decide) (Le.cons SA.r (Le.cons SA.r (Le.cons SA.r (Le.cons SA.r (Le.cons SA.r (Le.cons SA.r (Le.cons SA.r (Le.cons SA.y (Le.cons SA.y Le.nil))))))))) (λ_=>rfl) (λx=>by cases x) (λ_=>Le.refl) ?_);intro b6 cA;refine jV (qJ 6 rfl (λAg=>jB (j6 (nJ (zQ rfl ⟨JQ (Jv),zi (Di (yT (n:=((1:Int)+((v4.1+(1:Int)) % (4:Int)))) rfl (av.eq (zh rfl) rfl) (λuw=>Dl (λhf=>zf1 (s0:=cA.1) (rb:=(val (aB zm zm))) (λi9=>[pin qp i9 w0,own zg iW,own zg iS,own zg ((1:Int)+((v4.1+(1:Int)) % (4:Int))),own zg ((1:Int)+v7.1),own zg ((1:Int)+v8.1),(gy ((zd (zd (val (aB zm zm))))).lv (zd (zd (val (aB zm zm)))) Ag (λx=>pin (zd (zd (val (aB zm zm)))) x Ag)),own zg b6,SA.any]) rfl ZQ hf rfl (Le.cons SA.r (Le.cons SA.r (Le.cons SA.r (Le.cons SA.r (Le.cons SA.r (Le.cons SA.r (Le.cons SA.r (Le.cons SA.r (Le.cons SA.y Le.nil))))))))) (λ_=>rfl) (Dh rfl) (λrh i9=>[pin qp i9 w0,own zg iW,own zg iS,own zg ((1:Int)+((v4.1+(1:Int)) % (4:Int))),own zg ((1:Int)+v7.1),own zg ((1:Int)+v8.1),(gy ((zd (zd (val (aB zm zm))))).lv (zd (zd (val (aB zm zm)))) Ag (λx=>pin (zd (zd (val (aB zm zm)))) x Ag)),own zg b6,own zg rh]) ?_ ?_ (λrh i9=>(Le.cons SA.r (Le.cons SA.r (Le.cons SA.r (Le.cons SA.r (Le.cons SA.r (Le.cons SA.r (Le.cons SA.r (Le.cons SA.r (Le.cons SA.y Le.nil)))))))))) (λi_=>?_)))))⟩)))))
  ·intro rh i9
   refine jV ?_;rfl
  ·intro rh i9
   exact Pd (α:=(Int×Int)) (zi (qR (zi (zQ rfl (zi (zo (v:=((1:Int)+v8.1)) (av.eq (zh rfl) rfl) (zu (qd (je i9 w0 ((1:Int)+v8.1)) (.cons (zN rfl) (.cons (zN rfl) .nil)) (λ_=>qz rfl) (λ_=>(.cons 0 rfl rfl (aF _) .nil)) (λg_=>zi (qT (qR (zi (zQ rfl (zi (zo (v:=(((1:Int)+v7.1)+(1:Int))) (av.eq (zy JS (zh rfl) zF) rfl) (zu (qd (je g_.2 w0 (((1:Int)+v7.1)+(1:Int))) (.cons (zN rfl) (.cons (zN rfl) .nil)) (λ_=>qz rfl) (λ_=>(.cons 0 rfl rfl (aF _) .nil)) (λfH=>zo (v:=(1:Int)) (av.eq zF rfl) (op_sub (zu ⟨(aB zm zm),(g_.1,(fH.1 - (1:Int))),_,(.one (.one .nil)),rfl,rfl,⟨_,_,rfl,SA.r,(Le.cons SA.r (Le.cons SA.r (Le.cons SA.r (Le.cons SA.r (Le.cons SA.r (Le.cons SA.r (Le.cons SA.r (Le.cons SA.r (Le.cons SA.y Le.nil)))))))))⟩⟩))))))))))))))))))))
  exact zu (Zz 6 rfl SA.r (λ_=>aF _) (λhG=>zR (s:=(i_.2,hG)) (Le.cons SA.r (Le.cons SA.r (Le.cons SA.r (Le.cons SA.r (Le.cons SA.r (Le.cons SA.r (Le.cons SA.da (Le.cons SA.y (Le.cons SA.y Le.nil)))))))))))
 intro s9;exact qJ 6 rfl (λS8=>jC (Jn (Qv 6 rfl SA.da) (Zi rfl ⟨_,rfl,⟨SA.r,aF _⟩,(.cons 0 rfl rfl .nil)⟩)))
noncomputable def Ah(oF:Int):Res aE (ao):=Res.fin (ν:=aE) (β:=aE) (
(Res.bind (mJ (⟨"abcdefghijklmnopqrstuvwxyz0123456789",by decide +kernel⟩:ao) (oF % 26)) λFP=>(Res.seq (Iy (λ(s4:(Int×ao))=>(Res.ok (decide ((0:Int)<s4.1)))) (λ(s4:(Int×ao))=>
(Res.bind (Res.bind (mJ (⟨"abcdefghijklmnopqrstuvwxyz0123456789",by decide +kernel⟩:ao) (s4.1 % 36)) λt5=>(yS s4.2 t5)) λwX=>Res.ok (PF.nx ((s4.1 / 36),wX)))) ((oF / 26),FP))
λ(s3:(Int×ao))=>
Res.ok (PF.rt s3.2)))) (λz=>nomatch z)
theorem znC(oF:Int):FX KL [own zg oF] (Ah oF) [] (λ(t:ao)=>(own zp t,[])) (bX):=by
 unfold KL um Ah;refine jU (n:=3) (k:=1) (A:=[own zg oF]) (N:=λz:aE=>nomatch z) (E:=bX) (post:=λ(t:ao)=>(own zp t,[])) (pe:=bX) rfl (by decide) (zT (zo (v:=(⟨"abcdefghijklmnopqrstuvwxyz0123456789",by decide +kernel⟩:ao)) (av.eq (jX (by decide +kernel)) rfl) (zT ?_))) (λz=>nomatch z) (λx=>nomatch x)
 refine q8 (av.eq (zy Kb (zh rfl) (Kf (by decide) (Zp yO (zh rfl)))) (by first|with_reducible rfl|(simp only[z9,zA,zH,zI,qa,zD,zJ,zK,qb];done)|rfl)) (λFP=>zT (zo (v:=(oF / 26)) (av.eq (Ke (by decide) (zh rfl)) rfl) (jF (N1:=(λ(s3:(Int×ao))=>[own zg s3.1,own zp (⟨"abcdefghijklmnopqrstuvwxyz0123456789",by decide +kernel⟩:ao),own zp s3.2])) ?_ ?_)))
 ·refine zkK (s0:=((oF / 26),FP)) (λ(s4:(Int×ao))=>[own zg s4.1,own zp (⟨"abcdefghijklmnopqrstuvwxyz0123456789",by decide +kernel⟩:ao),own zp s4.2]) (Le.cons SA.r (Le.cons SA.r (Le.cons SA.r Le.nil))) (λ_=>Le.refl) (λs4=>zoL (bx.eq (qm (zy De (zh rfl) zF)) rfl)) ?_
  intro s4;refine zT ?_;exact q8 (av.eq (zy zm5 (zh rfl) (zy Kb (zh rfl) (Kf (by decide) (Zp yO (zh rfl))))) (by first|with_reducible rfl|(simp only[z9,zA,zH,zI,qa,zD,zJ,zK,qb];done)|rfl)) (λwX=>jB (zT (zo (v:=(s4.1 / 36)) (av.eq (Ke (by decide) (zh rfl)) rfl) (zR (s:=((s4.1 / 36),wX)) (Le.cons SA.r (Le.cons SA.r (Le.cons SA.r Le.nil)))))))
 intro s3;exact jC (zo (v:=s3.2) (av.eq (zh rfl) rfl) ⟨_,rfl,⟨SA.r,aF _⟩,.nil⟩)
noncomputable def J0(bT:qq) (rn:Int):Res aE ((List ao)×qq):=Res.fin (ν:=aE) (β:=aE) (
(Res.bind (Res.up (qo bT (1000000000000:Int))) λwN=>(Res.bind (Res.up (qo wN.2 (10000000000:Int))) λv4=>(Res.bind (rng 0 rn) λKW=>(Res.bind (f6 (fits KW.length)) λ_=>(Res.bind (Res.up (sT (λk6=>(Res.bind (Res.bind (nG ((1:Int)+v4.1) k6) λt7=>(Res.ok (wN.1+t7))) λv8=>(Res.bind (Res.up (Ah v8)) λv9=>Res.ok v9))) KW)) λmO=>Res.ok (PF.rt (mO,v4.2)))))))) (λz=>nomatch z)
theorem S9(bT:qq) (w0:W) (rn:Int):FX DT [pin qp bT w0,own zg rn] (J0 bT rn) [w0] (λ(t:(List ao)×qq)=>(own (zd zp) t.1,[pin qp t.2 w0])) (bX):=by
 unfold DT uf J0;refine jU (n:=5) (k:=2) (A:=[pin qp bT w0,own zg rn]) (N:=λz:aE=>nomatch z) (E:=bX) (post:=λ(t:(List ao)×qq)=>(own (zd zp) t.1,[pin qp t.2 w0])) (pe:=bX) rfl (by decide) (zT (qR (zi (zQ rfl (zi (zo (v:=(1000000000000:Int)) (av.eq (Kg (z:=1000000000000) (by decide)) rfl) (zu (qd (je bT w0 (1000000000000:Int)) (.cons (zN rfl) (.cons (zN rfl) .nil)) (λ_=>qz rfl) (λ_=>(.cons 0 rfl rfl (aF _) .nil)) (λwN=>zT (qT (zo (v:=(1:Int)) (av.eq zF rfl) (qR (zi (zQ rfl (zi (zo (v:=(10000000000:Int)) (av.eq (Kg (z:=10000000000) (by decide)) rfl) (zu (qd (je wN.2 w0 (10000000000:Int)) (.cons (zN rfl) (.cons (zN rfl) .nil)) (λ_=>qz rfl) (λ_=>(.cons 0 rfl rfl (aF _) .nil)) (λv4=>op_add (jC (Di (yT (n:=rn) rfl (av.eq (zh rfl) rfl) (λKW=>Dl (λhf=>zmZ (rb:=zp) rfl ZQ hf rfl rfl (Dh rfl) (λk6=>[pin qp v4.2 w0,own zg rn,own zg wN.1,own zg ((1:Int)+v4.1),own zg k6]) ?_ ?_ (λk6=>(Le.cons SA.r (Le.cons SA.r (Le.cons SA.r (Le.cons SA.r (Le.cons SA.y Le.nil)))))) (λmO=>?_))))))))))))))))))))))))) (λz=>nomatch z) (λx=>nomatch x)
 ·intro k6
  refine jV ?_;rfl
 ·intro k6
  refine qR (zi ?_);exact q8 (av.eq (zy JS (zh rfl) (zy zoN (zh rfl) (zh rfl))) (by first|with_reducible rfl|(simp only[z9,zA,zH,zI,qa,zD,zJ,zK,qb];done)|rfl)) (λv8=>zu (qd (znC v8) (.cons (zN rfl) .nil) (λ_=>qz rfl) (λ_=>.nil) (λv9=>⟨_,rfl,SA.r,rfl⟩)))
 exact⟨_,rfl,⟨SA.r,aF _⟩,(.cons 0 rfl rfl .nil)⟩
noncomputable def JF(eF:ao):Res aE (aw):=Res.fin (ν:=aE) (β:=aE) (
(Res.bind (Res.bind (Res.bind (f6 (fits eF.1.length)) λ_=>Res.ok (eF.1.length:Int)) λt2=>(Res.ok ((decide ((1:Int)<=t2)) && (decide (t2<=(8:Int)))))) λv3=>(Res.bind (aL v3 ((Res.bind (Res.bind (mJ eF (0:Int)) λt4=>(Res.ok (mK t4 (⟨"abcdefghijklmnopqrstuvwxyz",by decide +kernel⟩:ao)))) λv5=>(Res.bind (aL v5 ((Res.bind (f6 (fits (X.Qh eF).length)) λ_=>Res.ok (Vs (kg (λl5=>(mK l5 (⟨"abcdefghijklmnopqrstuvwxyz0123456789",by decide +kernel⟩:ao))) (X.Qh eF)) id))) (Res.ok ak)) λb7=>Res.ok b7))) (Res.ok ak)) λb8=>Res.ok (PF.rt b8)))) (λz=>nomatch z)
theorem zhi(eF:ao):FX KN [own zp eF] (JF eF) [] (λ(t:aw)=>(own z8 t,[])) (bX):=by
 unfold KN tZ JF;refine jU (n:=2) (k:=1) (A:=[own zp eF]) (N:=λz:aE=>nomatch z) (E:=bX) (post:=λ(t:aw)=>(own z8 t,[])) (pe:=bX) rfl (by decide) (jC (Rw ?_)) (λz=>nomatch z) (λx=>nomatch x);refine q8 (av.eq (QT pI pI zF (Zp zm0 (zh rfl)) zF) (by first|with_reducible rfl|(simp only[z9,zA,zH,zI,qa,zD,zJ,zK,qb];done)|rfl)) (λv3=>⟨_,_,_,rfl,rfl,?_,λb8=>?_⟩)
 ·refine Rw ?_
  refine q8 (av.eq (zy Rv (zy Kb (zh rfl) zF) (jX (by decide +kernel))) (by first|with_reducible rfl|(simp only[z9,zA,zH,zI,qa,zD,zJ,zK,qb];done)|rfl)) (λv5=>⟨_,_,_,rfl,rfl,?_,λb7=>?_⟩)
  ·refine qR ?_
   refine zi (Di (zmW (s:=eF) (av.eq (zh rfl) rfl) (Dl (λhf=>zkV (e:=λl5=>(mK l5 (⟨"abcdefghijklmnopqrstuvwxyz0123456789",by decide +kernel⟩:ao))) (rb:=z8) rfl ZQ hf rfl rfl (Dh rfl) (λl5=>[own zp eF,own zp l5]) ?_ ?_ (λl5=>(Le.cons SA.r (Le.cons SA.y Le.nil))) ?_))))
   ·intro l5
    refine jV ?_;rfl
   ·intro l5
    exact zoM (av.eq (zy Rv (zh rfl) (jX (by decide +kernel))) rfl)
   exact zu (zoX qY ⟨_,rfl,SA.r,rfl⟩)
  exact⟨_,rfl,SA.r,rfl⟩
 exact⟨_,rfl,⟨SA.r,aF _⟩,.nil⟩
noncomputable def jI(eF:ao):Res ax (ax):=Res.fin (ν:=ax) (β:=aE) (
(Res.bind (Res.nox (δ:=ax) (Res.bind (Res.bind (Res.on (JF eF) λ_=>()) λt3=>(Res.ok t3)) λt4=>(Res.ok (!t4)))) λb5=>(aL b5
(Res.ex ⟨1,[(4,zC eF)]⟩ ())
(Res.ok (PF.nx ()))))) (λ_=>())
theorem Qq(eF:ao):FX ZA [own zp eF] (jI eF) [] (λ(t:ax)=>(own Jg t,[])) (λ(_:ax)=>[]):=by
 unfold ZA tW jI;refine jU (n:=1) (k:=1) (A:=[own zp eF]) (N:=λ(_:ax)=>[SA.any]) (E:=λ(_:ax)=>[SA.any]) (post:=λ(t:ax)=>(own Jg t,[])) (pe:=λ(_:ax)=>[]) rfl (by decide) (ZK ?_) (λs=>⟨rfl,.nil⟩) (λx=>.nil);refine vC (PB.eq (RJ (RK (DJ (RL (Qw (zh rfl)) (λa2=>(yX (zhi a2))))))) (by first|with_reducible rfl|(simp only[z9,zA,zH,zI,qa,zD,zJ,zK,qb];done)|rfl)) (λb5=>⟨_,_,rfl,?_,?_⟩)
 ·refine Ka ?_
  exact zi (zo (v:=eF) (av.eq (zh rfl) rfl) (zu ⟨_,⟨1,[(4,zC eF)]⟩,(),(.one .nil),rfl,rfl,rfl,(Le.cons SA.y Le.nil)⟩))
 ·exact zR (s:=()) (Le.cons SA.y Le.nil)
noncomputable def Qc(dm:Int) (cD:ao):Res ax (ax×aH):=Res.fin (ν:=(aH)) (β:=aE) (
(aL (!((decide ((1:Int)<=dm)) && (decide (dm<=(4:Int)))))
(Res.ex ⟨2,[(5,zm dm)]⟩ ())
((Res.bind (Res.on (jI cD) λx5=>()) λv4=>Res.ok (PF.nx (⟨dm,cD,[cD],[]⟩:aH)))))) (λs=>((),s))
theorem zdW(w0:W) (dm:Int) (cD:ao):FX SW [iE 0 [] w0,own zg dm,own zp cD] (Qc dm cD) [w0] (λ(t:ax×aH)=>(own Jg t.1,[pin zx t.2 w0])) (λ(_:ax)=>[SA.any]):=by
 unfold SW q_ Qc;refine jU (n:=3) (k:=3) (A:=[iE 0 [] w0,own zg dm,own zp cD]) (N:=λ(s:(aH))=>[pin zx s w0,SA.any,SA.any]) (E:=λ(_:ax)=>[SA.any,SA.any,SA.any]) (post:=λ(t:ax×aH)=>(own Jg t.1,[pin zx t.2 w0])) (pe:=λ(_:ax)=>[SA.any]) rfl (by decide) (j8 (jN (b:=(!((decide ((1:Int)<=dm)) && (decide (dm<=(4:Int)))))) (bx.eq (pL (qm (QT pI pI zF (zh rfl) zF))) rfl) ⟨_,_,rfl,?_,?_⟩)) (λs=>⟨rfl,(.cons 0 rfl rfl .nil)⟩) (λx=>(.gone .nil))
 ·refine Zd ?_
  exact zi (zo (v:=dm) (av.eq (zh rfl) rfl) (zu ⟨_,⟨2,[(5,zm dm)]⟩,(),(.one .nil),rfl,rfl,rfl,(Le.cons SA.y (Le.cons SA.y (Le.cons SA.y Le.nil)))⟩))
 ·refine jG ?_
  exact j6 (qR (zi (zo (v:=cD) (av.eq (zh rfl) rfl) (zu (jL (Qq cD) (.cons (zN rfl) .nil) (λ_=>qz rfl) (λ_=>.nil) (λx5=>⟨_,.nil,(Le.cons SA.y (Le.cons SA.y (Le.cons SA.y Le.nil)))⟩) (λv4=>QU (zo (v:=dm) (av.eq (zh rfl) rfl) ⟨_,_,own zg dm,_,rfl,SA.r,rfl,rfl,QU (zo (v:=cD) (av.eq (zh rfl) rfl) ⟨_,_,own zp cD,_,rfl,SA.r,rfl,rfl,QU (jR (α:=ao) (zi (zo (v:=cD) (av.eq (zh rfl) rfl) (zu ⟨[cD],zp,(.cons SA.r .nil),rfl,rfl,⟨_,_,own (zd zp) [cD],_,rfl,SA.r,rfl,rfl,jB (QU (ziZ (e:=(aB zC zm)) (f:=(aB zC (zE zC))) ⟨_,_,own (kK (aB zC zm) (aB zC (zE zC))) [],_,rfl,SA.r,rfl,rfl,zR (s:=(⟨dm,cD,[cD],[]⟩:aH)) (Le.cons (IZ rfl rfl) (Le.cons SA.y (Le.cons SA.y Le.nil)))⟩))⟩⟩))))⟩)⟩)))))))
noncomputable def q9(aI:aH) (at2:(ao×Int)) (bQ:(ao×(au ao))):Res (aH) (ax×aH):=Res.fin (ν:=(aH)) (β:=aE) (
(Res.bind (Res.on (jI at2.1) λx5=>aI) λv4=>(aL (!((decide ((0:Int)<=at2.2)) && (decide (at2.2<aI.cU))))
(Res.ex ⟨2,[(5,zm at2.2)]⟩ aI)
((Res.bind (Res.on (jI bQ.1) λx7=>aI) λv6=>(Res.bind (Res.ok aI.nodes) λrp=>(Res.seq ((aL (!ZL at2.1 rp)
((Res.bind (push rp at2.1) λj_=>Res.ok (PF.nx j_)))
(Res.ok (PF.nx rp))))
λ(bZ:((List ao)))=>
(Res.seq ((aL (iN bQ.2)
((Res.bind (ck bQ.2) λAi=>(Res.bind (Res.on (jI Ai) λS_=>aI) λTa=>(Res.bind (Res.bind (ck bQ.2) λnR=>(Res.ok (!ZL nR bZ))) λDW=>(aL DW
((Res.bind (ck bQ.2) λfH=>(Res.bind (push bZ fH) λi_=>Res.ok (PF.nx i_))))
(Res.ok (PF.nx bZ)))))))
(Res.ok (PF.nx bZ))))
λ(nS:((List ao)))=>
(aL (decide ((16:Int)<(nS.length:Int)))
(Res.ex ⟨5,[(7,zm (16:Int))]⟩ aI)
((Res.bind (Dw aI.edges (at2.1,at2.2) (bQ.1,bQ.2)) λKY=>Res.ok (PF.nx (⟨aI.cU,aI.start,nS,KY⟩:aH))))))))))))) (λs=>((),s))
theorem JG(aI:aH) (w0:W) (at2:(ao×Int)) (bQ:(ao×(au ao))):FX jO [pin zx aI w0,own (val (aB zC zm)) at2,own (val (aB zC (zE zC))) bQ] (q9 aI at2 bQ) [w0] (λ(t:ax×aH)=>(own Jg t.1,[pin zx t.2 w0])) (λ(x:(aH))=>[pin zx x w0]):=by
 unfold jO tU q9;refine jU (n:=8) (k:=3) (A:=[pin zx aI w0,own (val (aB zC zm)) at2,own (val (aB zC (zE zC))) bQ]) (N:=λ(s:(aH))=>[pin zx s w0,SA.any,SA.any,SA.any,SA.any,SA.any,SA.any,SA.any]) (E:=λ(x:(aH))=>[pin zx x w0,SA.any,SA.any,SA.any,SA.any,SA.any,SA.any,SA.any]) (post:=λ(t:ax×aH)=>(own Jg t.1,[pin zx t.2 w0])) (pe:=λ(x:(aH))=>[pin zx x w0]) rfl (by decide) (u_ (zo (v:=at2) (av.eq (zh rfl) rfl) (u9 (A:=[own zp at2.1,own zg at2.2]) vn rfl (j9 (jV (j9 (jV (u7 ?_)))))))) (λs=>⟨rfl,(.cons 0 rfl rfl .nil)⟩) (λx=>(.cons 0 rfl rfl .nil));change SX _ _ [pin zx aI w0,own (val (aB zC zm)) at2,own (val (aB zC (zE zC))) bQ,own zp at2.1,own zg at2.2,SA.any,SA.any,SA.any] _ _;refine u_ (zo (v:=bQ) (av.eq (zh rfl) rfl) (u9 (A:=[own zp bQ.1,own (val (zE zC)) bQ.2]) vn rfl (j9 (jV (j9 (jV (u7 ?_)))))));change SX _ _ [pin zx aI w0,own (val (aB zC zm)) at2,own (val (aB zC (zE zC))) bQ,own zp at2.1,own zg at2.2,own zp bQ.1,own (val (zE zC)) bQ.2,SA.any] _ _;refine j6 (qR (zi (zo (v:=at2.1) (av.eq (zh rfl) rfl) (zu (jL (Qq at2.1) (.cons (zN rfl) .nil) (λ_=>qz rfl) (λ_=>.nil) (λx5=>⟨_,.nil,(Le.cons SA.r (Le.cons SA.y (Le.cons SA.y (Le.cons SA.y (Le.cons SA.y (Le.cons SA.y (Le.cons SA.y (Le.cons SA.y Le.nil))))))))⟩) (λv4=>?_))))));change SX _ _ [pin zx aI w0,own (val (aB zC zm)) at2,own (val (aB zC (zE zC))) bQ,own zp at2.1,own zg at2.2,own zp bQ.1,own (val (zE zC)) bQ.2,SA.any] _ _;refine j8 (jN (b:=(!((decide ((0:Int)<=at2.2)) && (decide (at2.2<aI.cU))))) (bx.eq (pL (qm (QT pI sP zF (zh rfl) (Z9 0 (λ(v:aH)=>v.cU) (λv=>rfl) (zZ rfl))))) rfl) ⟨_,_,rfl,?_,?_⟩)
 ·refine Zd ?_
  exact zi (zo (v:=at2.2) (av.eq (zh rfl) rfl) (zu ⟨_,⟨2,[(5,zm at2.2)]⟩,aI,(.one .nil),rfl,rfl,rfl,(Le.cons SA.r (Le.cons SA.y (Le.cons SA.y (Le.cons SA.y (Le.cons SA.y (Le.cons SA.y (Le.cons SA.y (Le.cons SA.y Le.nil))))))))⟩))
 ·refine jG ?_
  refine j6 (qR (zi (zo (v:=bQ.1) (av.eq (zh rfl) rfl) (zu (jL (Qq bQ.1) (.cons (zN rfl) .nil) (λ_=>qz rfl) (λ_=>.nil) (λx7=>⟨_,.nil,(Le.cons SA.r (Le.cons SA.y (Le.cons SA.y (Le.cons SA.y (Le.cons SA.y (Le.cons SA.y (Le.cons SA.y (Le.cons SA.y Le.nil))))))))⟩) (λv6=>?_))))));change SX _ _ [pin zx aI w0,own (val (aB zC zm)) at2,own (val (aB zC (zE zC))) bQ,own zp at2.1,own zg at2.2,own zp bQ.1,own (val (zE zC)) bQ.2,SA.any] _ _;refine zT (Rr (pa:=(Res.ok aI.nodes)) (av.eq (Z9 2 (λ(v:aH)=>v.nodes) (λv=>rfl) (zZ rfl)) rfl) (λrp=>?_));change SX _ _ [pin zx aI w0,own (val (aB zC zm)) at2,own (val (aB zC (zE zC))) bQ,own zp at2.1,own zg at2.2,own zp bQ.1,own (val (zE zC)) bQ.2,own (zd zp) rp] _ _;refine qJ 7 rfl (λw9=>jF (N1:=(λ(bZ:((List ao)))=>[pin zx aI w0,own (val (aB zC zm)) at2,own (val (aB zC (zE zC))) bQ,own zp at2.1,own zg at2.2,own zp bQ.1,own (val (zE zC)) bQ.2,pin (zd zp) bZ w9])) ?_ ?_)
  ·refine ZK ?_
   refine jN (b:=(!ZL at2.1 rp)) (bx.eq (qm (zy Jb (zh rfl) (zZ rfl))) rfl) ⟨_,_,rfl,?_,?_⟩
   ·refine jB ?_
    exact j6 (nJ (zQ rfl ⟨JQ (Jv),zi (zo (v:=at2.1) (av.eq (zh rfl) rfl) (zu (Zz 7 rfl SA.r (λ_=>aF _) (λj_=>zR (s:=j_) (Le.cons SA.r (Le.cons SA.r (Le.cons SA.r (Le.cons SA.r (Le.cons SA.r (Le.cons SA.r (Le.cons SA.r (Le.cons SA.r Le.nil))))))))))))⟩))
   ·exact zR (s:=rp) (Le.cons SA.r (Le.cons SA.r (Le.cons SA.r (Le.cons SA.r (Le.cons SA.r (Le.cons SA.r (Le.cons SA.r (Le.cons SA.r Le.nil))))))))
  intro bZ;refine jF (N1:=(λ(nS:((List ao)))=>[pin zx aI w0,own (val (aB zC zm)) at2,own (val (aB zC (zE zC))) bQ,own zp at2.1,own zg at2.2,own zp bQ.1,own (val (zE zC)) bQ.2,pin (zd zp) nS w9])) ?_ ?_
  ·refine ZK ?_
   refine jN (b:=(iN bQ.2)) (bx.eq (qm (zy yJ (zh rfl) JR)) rfl) ⟨_,_,rfl,?_,?_⟩
   ·refine j6 ?_
    refine qR (zi ?_);refine q8 (av.eq (ZF (zh rfl)) (by first|with_reducible rfl|(simp only[z9,zA,zH,zI,qa,zD,zJ,zK,qb];done)|rfl)) (λAi=>zu (jL (Qq Ai) (.cons (zN rfl) .nil) (λ_=>qz rfl) (λ_=>.nil) (λS_=>⟨_,.nil,(Le.cons SA.r (Le.cons SA.y (Le.cons SA.y (Le.cons SA.y (Le.cons SA.y (Le.cons SA.y (Le.cons SA.y (Le.cons SA.y Le.nil))))))))⟩) (λTa=>?_)));change SX _ _ [pin zx aI w0,own (val (aB zC zm)) at2,own (val (aB zC (zE zC))) bQ,own zp at2.1,own zg at2.2,own zp bQ.1,own (val (zE zC)) bQ.2,pin (zd zp) bZ w9] _ _;refine ZK ?_;refine nK (bx.eq (qm (zy Jb (ZF (zh rfl)) (zZ rfl))) (by first|with_reducible rfl|(simp only[z9,zA,zH,zI,qa,zD,zJ,zK,qb];done)|rfl)) (λDW=>⟨_,_,rfl,?_,?_⟩)
    ·refine jB ?_
     refine j6 (nJ (zQ rfl ⟨JQ (Jv),zi ?_⟩));exact q8 (av.eq (ZF (zh rfl)) (by first|with_reducible rfl|(simp only[z9,zA,zH,zI,qa,zD,zJ,zK,qb];done)|rfl)) (λfH=>zu (Zz 7 rfl SA.r (λ_=>aF _) (λi_=>zR (s:=i_) (Le.cons SA.r (Le.cons SA.r (Le.cons SA.r (Le.cons SA.r (Le.cons SA.r (Le.cons SA.r (Le.cons SA.r (Le.cons SA.r Le.nil)))))))))))
    ·exact zR (s:=bZ) (Le.cons SA.r (Le.cons SA.r (Le.cons SA.r (Le.cons SA.r (Le.cons SA.r (Le.cons SA.r (Le.cons SA.r (Le.cons SA.r Le.nil))))))))
   ·exact zR (s:=bZ) (Le.cons SA.r (Le.cons SA.r (Le.cons SA.r (Le.cons SA.r (Le.cons SA.r (Le.cons SA.r (Le.cons SA.r (Le.cons SA.r Le.nil))))))))
  intro nS;refine j8 (jN (b:=(decide ((16:Int)<(nS.length:Int)))) (bx.eq (qm (zy De (Zp ZR (zZ rfl)) (Rp rfl (zZ rfl)))) rfl) ⟨_,_,rfl,?_,?_⟩)
  ·refine Zd ?_
   exact zi (zo (v:=(16:Int)) (av.eq (Rp rfl (zZ rfl)) rfl) (zu ⟨_,⟨5,[(7,zm (16:Int))]⟩,aI,(.one .nil),rfl,rfl,rfl,(Le.cons SA.r (Le.cons SA.y (Le.cons SA.y (Le.cons SA.y (Le.cons SA.y (Le.cons SA.y (Le.cons SA.y (Le.cons SA.y Le.nil))))))))⟩))
  ·refine jG ?_
   refine P6 (Qv 0 rfl (zf3 (fl:=[(0,own zg aI.cU),(1,own zp aI.start),(2,own (zd zp) aI.nodes),(3,own (kK (aB zC zm) (aB zC (zE zC))) aI.edges)]) rfl rfl)) (QU (Jn (Qv 7 rfl SA.da) (Zi rfl ⟨_,_,own (zd zp) nS,_,rfl,SA.r,rfl,rfl,?_⟩)));change SX _ _ [iE 0 [(0,own zg aI.cU),(1,own zp aI.start),(2,own (zd zp) nS),(3,own (kK (aB zC zm) (aB zC (zE zC))) aI.edges)] w0,own (val (aB zC zm)) at2,own (val (aB zC (zE zC))) bQ,own zp at2.1,own zg at2.2,own zp bQ.1,own (val (zE zC)) bQ.2,SA.any] _ _;exact jB (Jw (zo (v:=(bQ.1,bQ.2)) (av.eq (Z8 (f:=(aB zC (zE zC))) (λ(v:ao×(au ao)×ax)=>(v.1,v.2.1)) (λv=>⟨rfl,rfl⟩) (qt (zh rfl) (qt (zh rfl) Z7))) rfl) (zm2 3 rfl rfl (λw20=>zo (v:=(at2.1,at2.2)) (av.eq (Z8 (f:=(aB zC zm)) (λ(v:ao×Int×ax)=>(v.1,v.2.1)) (λv=>⟨rfl,rfl⟩) (qt (zh rfl) (qt (zh rfl) Z7))) rfl) (zoR 0 rfl (λ_=>aF _) SA.r (λKY=>zR (s:=(⟨aI.cU,aI.start,nS,KY⟩:aH)) (Le.cons (IZ rfl rfl) (Le.cons SA.y (Le.cons SA.y (Le.cons SA.y (Le.cons SA.y (Le.cons SA.y (Le.cons SA.y (Le.cons SA.y Le.nil))))))))))))))
noncomputable def Aj(bM:(List (List (au (Int×Int))))) (iT:(List ao)) (kU:(List ao)):Res ax (aH):=Res.fin (ν:=aE) (β:=aE) (
(Res.bind (Res.bind (zY bM (0:Int)) λt4=>(Res.ok (t4.length:Int))) λv5=>(Res.bind (zY iT (0:Int)) λv6=>(Res.bind (Res.on (Qc v5 v6) λx8=>()) λBN=>(Res.seq ((Res.bind (rng 0 (bM.length:Int)) λrM=>jW (λb6 (cA:(aH))=>
(Res.seq ((Res.bind (Res.bind (Res.bind (zY bM b6) λe_=>(Res.ok (e_.length:Int))) λn=>rng 0 n) λxf=>jW (λrj (lK:(aH))=>
(Res.bind (Res.bind (zY bM b6) λnT=>(zY nT rj)) λkj=>(aL (iN kj)
((Res.bind (Res.bind (Res.bind (Res.bind (ck kj) λtu=>(Res.ok tu.1)) λKZ=>(zY kU KZ)) λAk=>(Res.bind (Res.bind (Res.bind (Res.bind (ck kj) λK0=>(Res.ok K0.2)) λK2=>(Res.ok (decide ((0:Int)<=K2)))) λAm=>(aL Am (Res.bind (Res.bind (Res.bind (ck kj) λK3=>(Res.ok K3.2)) λAn=>(zY iT An)) λAo=>(Res.ok (ah Ao))) (Res.ok (ai:au ao)))) λAp=>(Res.ok (Ak,Ap)))) λAq=>(Res.bind (Res.bind (zY iT b6) λAr=>(Res.ok (Ar,rj))) λkP=>(Res.bind (Res.on (q9 lK kP Aq) λTb=>()) λAs=>Res.ok (PF.nx As.2)))))
(Res.ok (PF.nx lK))))) xf cA))
λ(tv:(aH))=>
Res.ok (PF.nx tv))) rM BN.2))
λ(s9:(aH))=>
Res.ok (PF.rt s9)))))) (λz=>nomatch z)
theorem znD(bM:(List (List (au (Int×Int))))) (iT:(List ao)) (kU:(List ao)):FX KO [own (Sh 0 (zd (zd (val (zE (aB zm zm)))))) bM,own (Sh 0 (zd zp)) iT,own (Sh 0 (zd zp)) kU] (Aj bM iT kU) [] (λ(t:aH)=>(own zx t,[])) (λ(_:ax)=>[]):=by
 unfold KO uo Aj;refine jU (n:=7) (k:=3) (A:=[own (Sh 0 (zd (zd (val (zE (aB zm zm)))))) bM,own (Sh 0 (zd zp)) iT,own (Sh 0 (zd zp)) kU]) (N:=λz:aE=>nomatch z) (E:=λ(_:ax)=>[SA.any,SA.any,SA.any,SA.any,SA.any,SA.any,SA.any]) (post:=λ(t:aH)=>(own zx t,[])) (pe:=λ(_:ax)=>[]) rfl (by decide) (zT (qR (zi ?_))) (λz=>nomatch z) (λx=>.nil);refine q8 (av.eq (Zp ZR (zy qU (z7 (zh rfl)) zF)) (by first|with_reducible rfl|(simp only[z9,zA,zH,zI,qa,zD,zJ,zK,qb];done)|rfl)) (λv5=>zi ?_);refine q8 (av.eq (zy qU (z7 (zh rfl)) zF) (by first|with_reducible rfl|(simp only[z9,zA,zH,zI,qa,zD,zJ,zK,qb];done)|rfl)) (λv6=>zu (zqc (get:=λt=>t.2) (outs:=λ_=>[]) (outsE:=λ_=>[]) (λw0=>zdW w0 v5 v6) (λ_ _=>rfl) (λ_ _=>⟨_,rfl⟩) rfl rfl (.cons (zN rfl) (.cons (zN rfl) .nil)) (λ_=>.nil) (λx8=>⟨_,.nil,(Le.cons SA.y (Le.cons SA.y (Le.cons SA.y (Le.cons SA.y (Le.cons SA.y (Le.cons SA.y (Le.cons SA.y Le.nil)))))))⟩) (λBN=>?_)));change SX _ _ [own (Sh 0 (zd (zd (val (zE (aB zm zm)))))) bM,own (Sh 0 (zd zp)) iT,own (Sh 0 (zd zp)) kU,own zx BN.2,SA.any,SA.any,SA.any] _ _;refine jF (N1:=(λ(s9:(aH))=>[own (Sh 0 (zd (zd (val (zE (aB zm zm)))))) bM,own (Sh 0 (zd zp)) iT,own (Sh 0 (zd zp)) kU,own zx s9,SA.any,SA.any,SA.any])) ?_ ?_
 ·refine Q7 ?_
  refine yT (n:=(bM.length:Int)) rfl (av.eq (Zp ZR (z7 (zh rfl))) rfl) (λrM=>lD (xs:=rM) (s0:=BN.2) (zg) (λ(cA:(aH))=>[own (Sh 0 (zd (zd (val (zE (aB zm zm)))))) bM,own (Sh 0 (zd zp)) iT,own (Sh 0 (zd zp)) kU,own zx cA,SA.any,SA.any,SA.any]) rfl ZQ (by decide) (Le.cons SA.r (Le.cons SA.r (Le.cons SA.r (Le.cons SA.r (Le.cons SA.y (Le.cons SA.y (Le.cons SA.y Le.nil))))))) (λ_=>rfl) (λ_=>rfl) (λ_=>Le.refl) ?_);intro b6 cA;refine jV (jB (jF (N1:=(λ(tv:(aH))=>[own (Sh 0 (zd (zd (val (zE (aB zm zm)))))) bM,own (Sh 0 (zd zp)) iT,own (Sh 0 (zd zp)) kU,own zx tv,own zg b6,SA.any,SA.any])) ?_ ?_))
  ·refine Q7 ?_
   refine Pq (n:=(Res.bind (zY bM b6) λe_=>(Res.ok (e_.length:Int)))) rfl (av.eq (Zp ZR (zy qU (z7 (zh rfl)) (zh rfl))) (by first|with_reducible rfl|(simp only[z9,zA,zH,zI,qa,zD,zJ,zK,qb];done)|rfl)) (λxf=>lD (xs:=xf) (s0:=cA) (zg) (λ(lK:(aH))=>[own (Sh 0 (zd (zd (val (zE (aB zm zm)))))) bM,own (Sh 0 (zd zp)) iT,own (Sh 0 (zd zp)) kU,own zx lK,own zg b6,SA.any,SA.any]) rfl ZQ (by decide) (Le.cons SA.r (Le.cons SA.r (Le.cons SA.r (Le.cons SA.r (Le.cons SA.r (Le.cons SA.y (Le.cons SA.y Le.nil))))))) (λ_=>rfl) (λ_=>rfl) (λ_=>Le.refl) ?_);intro rj lK;refine jV (zT ?_);refine q8 (av.eq (zy qU (zy qU (z7 (zh rfl)) (zh rfl)) (zh rfl)) (by first|with_reducible rfl|(simp only[z9,zA,zH,zI,qa,zD,zJ,zK,qb];done)|rfl)) (λkj=>?_);change SX _ _ [own (Sh 0 (zd (zd (val (zE (aB zm zm)))))) bM,own (Sh 0 (zd zp)) iT,own (Sh 0 (zd zp)) kU,own zx lK,own zg b6,own zg rj,own (val (zE (aB zm zm))) kj] _ _;refine ZK (jN (b:=(iN kj)) (bx.eq (qm (zy yJ (zh rfl) JR)) rfl) ⟨_,_,rfl,?_,?_⟩)
   ·refine qJ 3 rfl (λS8=>?_)
    refine jB (Jw ?_);refine q8 (av.eq (Z8 (f:=(aB zC (zE zC))) (λ(v:ao×(au ao)×ax)=>(v.1,v.2.1)) (λv=>⟨rfl,rfl⟩) (qt (zy qU (z7 (zh rfl)) (JC (h:=λ(v:(Int×Int))=>v.1) (λv=>⟨_,_,rfl,rfl,rfl⟩) (ZF (zh rfl)))) (qt (P4 (qm (zy yI (JC (h:=λ(v:(Int×Int))=>v.2) (λv=>⟨_,_,rfl,rfl,rfl⟩) (ZF (zh rfl))) zF)) (Ph (zy qU (z7 (zh rfl)) (JC (h:=λ(v:(Int×Int))=>v.2) (λv=>⟨_,_,rfl,rfl,rfl⟩) (ZF (zh rfl))))) (Pj (f:=zC))) Z7))) (by first|with_reducible rfl|(simp only[z9,zA,zH,zI,qa,zD,zJ,zK,qb];done)|rfl)) (λAq=>zQ rfl ?_);exact q8 (av.eq (Z8 (f:=(aB zC zm)) (λ(v:ao×Int×ax)=>(v.1,v.2.1)) (λv=>⟨rfl,rfl⟩) (qt (zy qU (z7 (zh rfl)) (zh rfl)) (qt (zh rfl) Z7))) (by first|with_reducible rfl|(simp only[z9,zA,zH,zI,qa,zD,zJ,zK,qb];done)|rfl)) (λkP=>Rj (F:=jO) 0 rfl Dr (jL (JG lK S8 kP Aq) (.cons (zN rfl) (.cons (zN rfl) (.cons (zN rfl) .nil))) (λ_=>qz rfl) (λ_=>(.cons 3 rfl rfl (aF _) .nil)) (λTb=>⟨_,(.cons 3 rfl rfl (aF _) .nil),(Le.cons SA.y (Le.cons SA.y (Le.cons SA.y (Le.cons SA.y (Le.cons SA.y (Le.cons SA.y (Le.cons SA.y Le.nil)))))))⟩) (λAs=>zR (s:=As.2) (Le.cons SA.r (Le.cons SA.r (Le.cons SA.r (Le.cons SA.da (Le.cons SA.r (Le.cons SA.y (Le.cons SA.y Le.nil))))))))))
   ·exact zR (s:=lK) (Le.cons SA.r (Le.cons SA.r (Le.cons SA.r (Le.cons SA.r (Le.cons SA.r (Le.cons SA.y (Le.cons SA.y Le.nil)))))))
  intro tv;exact zR (s:=tv) (Le.cons SA.r (Le.cons SA.r (Le.cons SA.r (Le.cons SA.r (Le.cons SA.y (Le.cons SA.y (Le.cons SA.y Le.nil)))))))
 intro s9;exact qJ 3 rfl (λw45=>jC (Jn (Qv 3 rfl SA.da) (Zi rfl ⟨_,rfl,⟨SA.r,aF _⟩,.nil⟩)))
noncomputable def Au(bM:(List (List (au (Int×Int))))):Res aE ((List Int)):=Res.fin (ν:=aE) (β:=aE) (
(Res.seq ((Res.bind (rng 0 (bM.length:Int)) λK4=>jW (λk5 (s4:((List Int)))=>
(Res.seq ((Res.bind (zY bM k5) λv7=>jW (λeG (s8:((List Int)))=>
(Res.seq ((aL ((iN eG) && (!ZL k5 s8))
((Res.bind (push s8 k5) λnU=>Res.ok (PF.nx nU)))
(Res.ok (PF.nx s8))))
λ(cA:((List Int)))=>
(Res.bind (aL (iN eG) (Res.bind (Res.bind (Res.bind (ck eG) λlM=>(Res.ok lM.2)) λAv=>(Res.ok (decide ((0:Int)<=Av)))) λtx=>(aL tx (Res.bind (Res.bind (ck eG) λe_=>(Res.ok e_.2)) λnR=>(Res.ok (!ZL nR cA))) (Res.ok ak))) (Res.ok ak)) λvP=>(aL vP
((Res.bind (Res.bind (ck eG) λnV=>(Res.ok nV.2)) λlN=>(Res.bind (push cA lN) λfJ=>Res.ok (PF.nx fJ))))
(Res.ok (PF.nx cA)))))) v7 s4))
λ(s6:((List Int)))=>
Res.ok (PF.nx s6))) K4 [(0:Int)]))
λ(s2:((List Int)))=>
Res.ok (PF.rt s2))) (λz=>nomatch z)
theorem zlT(bM:(List (List (au (Int×Int))))):FX KP [own (Sh 0 (zd (zd (val (zE (aB zm zm)))))) bM] (Au bM) [] (λ(t:(List Int))=>(own (zd zg) t,[])) (bX):=by
 unfold KP ug Au;refine jU (n:=4) (k:=1) (A:=[own (Sh 0 (zd (zd (val (zE (aB zm zm)))))) bM]) (N:=λz:aE=>nomatch z) (E:=bX) (post:=λ(t:(List Int))=>(own (zd zg) t,[])) (pe:=bX) rfl (by decide) (zT (jR (α:=Int) (zi (zo (v:=(0:Int)) (av.eq zF rfl) (zu ⟨[(0:Int)],zg,(.cons SA.r .nil),rfl,rfl,jF (N1:=(λ(s2:((List Int)))=>[own (Sh 0 (zd (zd (val (zE (aB zm zm)))))) bM,own (zd zg) s2,SA.any,SA.any])) ?_ ?_⟩))))) (λz=>nomatch z) (λx=>nomatch x)
 ·refine Q7 ?_
  refine yT (n:=(bM.length:Int)) rfl (av.eq (Zp ZR (z7 (zh rfl))) rfl) (λK4=>lD (xs:=K4) (s0:=[(0:Int)]) (zg) (λ(s4:((List Int)))=>[own (Sh 0 (zd (zd (val (zE (aB zm zm)))))) bM,own (zd zg) s4,SA.any,SA.any]) rfl ZQ (by decide) (Le.cons SA.r (Le.cons SA.r (Le.cons SA.y (Le.cons SA.y Le.nil)))) (λ_=>rfl) (λx=>by cases x) (λ_=>Le.refl) ?_);intro k5 s4;refine jV (jB (jF (N1:=(λ(s6:((List Int)))=>[own (Sh 0 (zd (zd (val (zE (aB zm zm)))))) bM,own (zd zg) s6,own zg k5,SA.any])) ?_ ?_))
  ·refine Q7 ?_
   refine yM (qT (j5 rfl (zo (v:=k5) (av.eq (zh rfl) rfl) (zna (λv7=>⟨_,yN,lD (xs:=v7) (s0:=s4) ((val (zE (aB zm zm)))) (λ(s8:((List Int)))=>[own (Sh 0 (zd (zd (val (zE (aB zm zm)))))) bM,own (zd zg) s8,own zg k5,SA.any]) rfl ZQ (by decide) (Le.cons SA.r (Le.cons SA.r (Le.cons SA.r (Le.cons SA.y Le.nil)))) (λ_=>rfl) (λx=>by cases x) (λ_=>Le.refl) ?_⟩)))));intro eG s8;refine jV (qJ 1 rfl (λTc=>jF (N1:=(λ(cA:((List Int)))=>[own (Sh 0 (zd (zd (val (zE (aB zm zm)))))) bM,pin (zd zg) cA Tc,own zg k5,own (val (zE (aB zm zm))) eG])) ?_ ?_))
   ·refine ZK ?_
    refine jN (b:=((iN eG) && (!ZL k5 s8))) (bx.eq (zm1 (qm (zy yJ (zh rfl) JR)) (qm (zy Jb (zh rfl) (zZ rfl)))) rfl) ⟨_,_,rfl,?_,?_⟩
    ·refine jB ?_
     exact j6 (nJ (zQ rfl ⟨JQ (Jv),zi (zo (v:=k5) (av.eq (zh rfl) rfl) (zu (Zz 1 rfl SA.r (λ_=>aF _) (λnU=>zR (s:=nU) (Le.cons SA.r (Le.cons SA.r (Le.cons SA.r (Le.cons SA.r Le.nil))))))))⟩))
    ·exact zR (s:=s8) (Le.cons SA.r (Le.cons SA.r (Le.cons SA.r (Le.cons SA.r Le.nil))))
   intro cA;refine ZK ?_;refine nK (bx.eq (IW (qm (zy yJ (zh rfl) JR)) (IW (qm (zy yI (JC (h:=λ(v:(Int×Int))=>v.2) (λv=>⟨_,_,rfl,rfl,rfl⟩) (ZF (zh rfl))) zF)) (qm (zy Jb (JC (h:=λ(v:(Int×Int))=>v.2) (λv=>⟨_,_,rfl,rfl,rfl⟩) (ZF (zh rfl))) (zZ rfl))))) (by first|with_reducible rfl|(simp only[z9,zA,zH,zI,qa,zD,zJ,zK,qb];done)|rfl)) (λvP=>⟨_,_,rfl,?_,?_⟩)
   ·refine jB ?_
    refine j6 (nJ (zQ rfl ⟨JQ (Jv),zi ?_⟩));exact q8 (av.eq (JC (h:=λ(v:(Int×Int))=>v.2) (λv=>⟨_,_,rfl,rfl,rfl⟩) (ZF (zh rfl))) (by first|with_reducible rfl|(simp only[z9,zA,zH,zI,qa,zD,zJ,zK,qb];done)|rfl)) (λlN=>zu (Zz 1 rfl SA.r (λ_=>aF _) (λfJ=>zR (s:=fJ) (Le.cons SA.r (Le.cons SA.da (Le.cons SA.r (Le.cons SA.y Le.nil)))))))
   ·exact zR (s:=cA) (Le.cons SA.r (Le.cons SA.da (Le.cons SA.r (Le.cons SA.y Le.nil))))
  intro s6;exact zR (s:=s6) (Le.cons SA.r (Le.cons SA.r (Le.cons SA.y (Le.cons SA.y Le.nil))))
 intro s2;exact qJ 1 rfl (λfK=>jC (Jn (Qv 1 rfl SA.da) (Zi rfl ⟨_,rfl,⟨SA.r,aF _⟩,.nil⟩)))
noncomputable def Zk(aI:aH) (node2:ao):Res (aH) (ax×aH):=Res.fin (ν:=(aH)) (β:=aE) (
(aL (!ZL node2 aI.nodes)
(Res.ex ⟨3,[(6,zC node2)]⟩ aI)
(Res.ok (PF.nx (⟨aI.cU,node2,aI.nodes,aI.edges⟩:aH))))) (λs=>((),s))
theorem za6(aI:aH) (w0:W) (node2:ao):FX Zj [pin zx aI w0,own zp node2] (Zk aI node2) [w0] (λ(t:ax×aH)=>(own Jg t.1,[pin zx t.2 w0])) (λ(x:(aH))=>[pin zx x w0]):=by
 unfold Zj tS Zk;refine jU (n:=2) (k:=2) (A:=[pin zx aI w0,own zp node2]) (N:=λ(s:(aH))=>[pin zx s w0,SA.any]) (E:=λ(x:(aH))=>[pin zx x w0,SA.any]) (post:=λ(t:ax×aH)=>(own Jg t.1,[pin zx t.2 w0])) (pe:=λ(x:(aH))=>[pin zx x w0]) rfl (by decide) (j8 (jN (b:=(!ZL node2 aI.nodes)) (bx.eq (qm (zy Jb (zh rfl) (Z9 2 (λ(v:aH)=>v.nodes) (λv=>rfl) (zZ rfl)))) rfl) ⟨_,_,rfl,?_,?_⟩)) (λs=>⟨rfl,(.cons 0 rfl rfl .nil)⟩) (λx=>(.cons 0 rfl rfl .nil))
 ·refine Zd ?_
  exact zi (zo (v:=node2) (av.eq (zh rfl) rfl) (zu ⟨_,⟨3,[(6,zC node2)]⟩,aI,(.one .nil),rfl,rfl,rfl,(Le.cons SA.r (Le.cons SA.y Le.nil))⟩))
 ·refine jG ?_
  exact jB (P6 (Qv 0 rfl (zf3 (fl:=[(0,own zg aI.cU),(1,own zp aI.start),(2,own (zd zp) aI.nodes),(3,own (kK (aB zC zm) (aB zC (zE zC))) aI.edges)]) rfl rfl)) (QU (zo (v:=node2) (av.eq (zh rfl) rfl) ⟨_,_,own zp node2,_,rfl,SA.r,rfl,rfl,zR (s:=(⟨aI.cU,node2,aI.nodes,aI.edges⟩:aH)) (Le.cons (IZ rfl rfl) (Le.cons SA.y Le.nil))⟩)))
noncomputable def jY(aI:aH) (node2:ao):Res (aH) (ax×aH):=Res.fin (ν:=(aH)) (β:=aE) (
(Res.bind (Res.on (Zk aI node2) λx4=>x4) λv3=>Res.ok (PF.nx v3.2))) (λs=>((),s))
theorem zbK(aI:aH) (w0:W) (node2:ao):FX ZB [pin zx aI w0,own zp node2] (jY aI node2) [w0] (λ(t:ax×aH)=>(own Jg t.1,[pin zx t.2 w0])) (λ(x:(aH))=>[pin zx x w0]):=by
 unfold ZB tT jY;exact jU (n:=2) (k:=2) (A:=[pin zx aI w0,own zp node2]) (N:=λ(s:(aH))=>[pin zx s w0,SA.any]) (E:=λ(x:(aH))=>[pin zx x w0,SA.any]) (post:=λ(t:ax×aH)=>(own Jg t.1,[pin zx t.2 w0])) (pe:=λ(x:(aH))=>[pin zx x w0]) rfl (by decide) (jB (znc (F:=Zj) 0 rfl (zo (v:=node2) (av.eq (zh rfl) rfl) (zQ rfl ⟨Dr,jL (za6 aI w0 node2) (.cons (zN rfl) (.cons (zN rfl) .nil)) (λ_=>qz rfl) (λ_=>(.cons 0 rfl rfl (aF _) .nil)) (λx4=>⟨_,(.cons 0 rfl rfl (aF _) .nil),(Le.cons SA.r (Le.cons SA.y Le.nil))⟩) (λv3=>zR (s:=v3.2) (Le.cons SA.r (Le.cons SA.y Le.nil)))⟩)))) (λs=>⟨rfl,(.cons 0 rfl rfl .nil)⟩) (λx=>(.cons 0 rfl rfl .nil))
noncomputable def Ax(bM:(List (List (au (Int×Int))))) (bc:(List Int)) (cD:Int) (km:(List ao)) (kh:(List ao)):Res aE ((List (List Dt))):=Res.fin (ν:=aE) (β:=aE) (
(Res.bind (Res.bind (zY bM (0:Int)) λt6=>(Res.ok (t6.length:Int))) λkq=>(Res.seq (jW (λc7 (s9:((List Dt)×Int))=>
(aL ((decide (c7<(0:Int)))||(decide (kq<=c7)))
(Res.ok (PF.rt [s9.1,[(Dt.str (⟨"outcome",by decide +kernel⟩:ao)),(Dt.int c7)]]))
((Res.bind (Res.bind (Res.bind (zY bM s9.2) λK5=>(zY K5 c7)) λlM=>(Res.ok (kT lM))) λtD=>(aL tD
((Res.bind (zY km s9.2) λhM=>Res.ok (PF.rt [s9.1,[(Dt.str (⟨"edge",by decide +kernel⟩:ao)),(Dt.str hM),(Dt.int c7)]])))
((Res.bind (Res.bind (Res.bind (Res.bind (Res.bind (zY bM s9.2) λhQ=>(zY hQ c7)) λnT=>(ck nT)) λAy=>(Res.ok Ay.1)) λnV=>(zY kh nV)) λlN=>(Res.bind (push s9.1 (Dt.str lN)) λfJ=>(Res.bind (Res.bind (Res.bind (Res.bind (zY bM s9.2) λAz=>(zY Az c7)) λAA=>(ck AA)) λtu=>(Res.ok tu.2)) λm_=>(aL (decide (m_<(0:Int)))
(Res.ok (PF.rt [fJ,[(Dt.str (⟨"exit",by decide +kernel⟩:ao))]]))
(Res.ok (PF.nx (fJ,m_))))))))))))) bc (([]:List Dt),cD))
λ(s8:((List Dt)×Int))=>
Res.ok (PF.rt [s8.1,([]:List Dt)])))) (λz=>nomatch z)
theorem zjp(bM:(List (List (au (Int×Int))))) (bc:(List Int)) (cD:Int) (km:(List ao)) (kh:(List ao)):FX KQ [own (Sh 0 (zd (zd (val (zE (aB zm zm)))))) bM,own (Sh 0 (zd zg)) bc,own zg cD,own (Sh 0 (zd zp)) km,own (Sh 0 (zd zp)) kh] (Ax bM bc cD km kh) [] (λ(t:(List (List Dt)))=>(own (zd (val (a_ eD))) t,[])) (bX):=by
 unfold KQ ua Ax;refine jU (n:=9) (k:=5) (A:=[own (Sh 0 (zd (zd (val (zE (aB zm zm)))))) bM,own (Sh 0 (zd zg)) bc,own zg cD,own (Sh 0 (zd zp)) km,own (Sh 0 (zd zp)) kh]) (N:=λz:aE=>nomatch z) (E:=bX) (post:=λ(t:(List (List Dt)))=>(own (zd (val (a_ eD))) t,[])) (pe:=bX) rfl (by decide) (zT ?_) (λz=>nomatch z) (λx=>nomatch x);refine q8 (av.eq (Zp ZR (zy qU (z7 (zh rfl)) zF)) (by first|with_reducible rfl|(simp only[z9,zA,zH,zI,qa,zD,zJ,zK,qb];done)|rfl)) (λkq=>?_);change SX _ _ [own (Sh 0 (zd (zd (val (zE (aB zm zm)))))) bM,own (Sh 0 (zd zg)) bc,own zg cD,own (Sh 0 (zd zp)) km,own (Sh 0 (zd zp)) kh,own zg kq,SA.any,SA.any,SA.any] _ _;refine zT (jR (α:=Dt) (zu ⟨([]:List Dt),(val eD),.nil,rfl,rfl,?_⟩));change SX _ _ [own (Sh 0 (zd (zd (val (zE (aB zm zm)))))) bM,own (Sh 0 (zd zg)) bc,own zg cD,own (Sh 0 (zd zp)) km,own (Sh 0 (zd zp)) kh,own zg kq,own (zd (val eD)) ([]:List Dt),SA.any,SA.any] _ _;refine zT (zo (v:=cD) (av.eq (zh rfl) rfl) ?_);change SX _ _ [own (Sh 0 (zd (zd (val (zE (aB zm zm)))))) bM,own (Sh 0 (zd zg)) bc,own zg cD,own (Sh 0 (zd zp)) km,own (Sh 0 (zd zp)) kh,own zg kq,own (zd (val eD)) ([]:List Dt),own zg cD,SA.any] _ _;refine jF (N1:=(λ(s8:((List Dt)×Int))=>[own (Sh 0 (zd (zd (val (zE (aB zm zm)))))) bM,own (Sh 0 (zd zg)) bc,own zg cD,own (Sh 0 (zd zp)) km,own (Sh 0 (zd zp)) kh,own zg kq,own (zd (val eD)) s8.1,own zg s8.2,SA.any])) ?_ ?_
 ·refine Q7 ?_
  refine yM (j5 rfl ⟨_,yN,lD (xs:=bc) (s0:=(([]:List Dt),cD)) (zg) (λ(s9:((List Dt)×Int))=>[own (Sh 0 (zd (zd (val (zE (aB zm zm)))))) bM,own (Sh 0 (zd zg)) bc,own zg cD,own (Sh 0 (zd zp)) km,own (Sh 0 (zd zp)) kh,own zg kq,own (zd (val eD)) s9.1,own zg s9.2,SA.any]) rfl ZQ (by decide) (Le.cons SA.r (Le.cons SA.r (Le.cons SA.r (Le.cons SA.r (Le.cons SA.r (Le.cons SA.r (Le.cons SA.r (Le.cons SA.r (Le.cons SA.y Le.nil))))))))) (λ_=>rfl) (λx=>by cases x) (λ_=>Le.refl) ?_⟩);intro c7 s9;refine jV (j8 (jN (b:=((decide (c7<(0:Int)))||(decide (kq<=c7)))) (bx.eq (IY (qm (zy sP (zh rfl) zF)) (qm (zy yI (zh rfl) (zh rfl)))) rfl) ⟨_,_,rfl,?_,?_⟩))
  ·refine qJ 6 rfl (λw11=>?_)
   exact QN (jR (α:=(List Dt)) (zi (JX (Jn (Qv 6 rfl SA.da) (Zi rfl ⟨_,_,_,rfl,zi (JX (jR (α:=Dt) (zi (zo (v:=(⟨"outcome",by decide +kernel⟩:ao)) (av.eq (jX (by decide +kernel)) rfl) (zi (zo (v:=c7) (av.eq (zh rfl) rfl) (zu ⟨[(Dt.str (⟨"outcome",by decide +kernel⟩:ao)),(Dt.int c7)],(val eD),(.cons (QE (QD (fa:=zC) (fb:=eD) (f:=λ(x:ao)=>(Dt.str x)) (λ_=>rfl))) (.cons (QE (QD (fa:=zm) (fb:=eD) (f:=λ(x:Int)=>(Dt.int x)) (λ_=>rfl))) .nil)),rfl,rfl,⟨_,_,_,rfl,zu ⟨[s9.1,[(Dt.str (⟨"outcome",by decide +kernel⟩:ao)),(Dt.int c7)]],(val (a_ eD)),(.cons SA.r (.cons SA.r .nil)),rfl,rfl,⟨_,rfl,⟨SA.r,aF _⟩,.nil⟩⟩⟩⟩)))))))⟩)))))
  ·refine jG ?_
   refine j8 ?_;refine nK (bx.eq (qm (zy IH (zy qU (zy qU (z7 (zh rfl)) (zh rfl)) (zh rfl)) JR)) (by first|with_reducible rfl|(simp only[z9,zA,zH,zI,qa,zD,zJ,zK,qb];done)|rfl)) (λtD=>⟨_,_,rfl,?_,?_⟩)
   ·refine qJ 6 rfl (λTd=>?_)
    refine QN (jR (α:=(List Dt)) (zi (JX (Jn (Qv 6 rfl SA.da) (Zi rfl ⟨_,_,_,rfl,zi (JX (jR (α:=Dt) (zi (zo (v:=(⟨"edge",by decide +kernel⟩:ao)) (av.eq (jX (by decide +kernel)) rfl) (zi ?_)))))⟩)))))
    exact q8 (av.eq (zy qU (z7 (zh rfl)) (zh rfl)) (by first|with_reducible rfl|(simp only[z9,zA,zH,zI,qa,zD,zJ,zK,qb];done)|rfl)) (λhM=>zi (zo (v:=c7) (av.eq (zh rfl) rfl) (zu ⟨[(Dt.str (⟨"edge",by decide +kernel⟩:ao)),(Dt.str hM),(Dt.int c7)],(val eD),(.cons (QE (QD (fa:=zC) (fb:=eD) (f:=λ(x:ao)=>(Dt.str x)) (λ_=>rfl))) (.cons (QE (QD (fa:=zC) (fb:=eD) (f:=λ(x:ao)=>(Dt.str x)) (λ_=>rfl))) (.cons (QE (QD (fa:=zm) (fb:=eD) (f:=λ(x:Int)=>(Dt.int x)) (λ_=>rfl))) .nil))),rfl,rfl,⟨_,_,_,rfl,zu ⟨[s9.1,[(Dt.str (⟨"edge",by decide +kernel⟩:ao)),(Dt.str hM),(Dt.int c7)]],(val (a_ eD)),(.cons SA.r (.cons SA.r .nil)),rfl,rfl,⟨_,rfl,⟨SA.r,aF _⟩,.nil⟩⟩⟩⟩)))
   ·refine jG ?_
    refine qJ 6 rfl (λTe=>j6 (nJ (zQ rfl ⟨JQ (Jv),zi ?_⟩)));refine q8 (av.eq (zy qU (z7 (zh rfl)) (JC (h:=λ(v:(Int×Int))=>v.1) (λv=>⟨_,_,rfl,rfl,rfl⟩) (ZF (zy qU (zy qU (z7 (zh rfl)) (zh rfl)) (zh rfl))))) (by first|with_reducible rfl|(simp only[z9,zA,zH,zI,qa,zD,zJ,zK,qb];done)|rfl)) (λlN=>zu (Zz 6 rfl (QE (QD (fa:=zC) (fb:=eD) (f:=λ(x:ao)=>(Dt.str x)) (λ_=>rfl))) (λ_=>aF _) (λfJ=>?_)));change SX _ _ [own (Sh 0 (zd (zd (val (zE (aB zm zm)))))) bM,own (Sh 0 (zd zg)) bc,own zg cD,own (Sh 0 (zd zp)) km,own (Sh 0 (zd zp)) kh,own zg kq,pin (zd (val eD)) fJ Te,own zg s9.2,own zg c7] _ _;refine zT ?_;refine q8 (av.eq (JC (h:=λ(v:(Int×Int))=>v.2) (λv=>⟨_,_,rfl,rfl,rfl⟩) (ZF (zy qU (zy qU (z7 (zh rfl)) (zh rfl)) (zh rfl)))) (by first|with_reducible rfl|(simp only[z9,zA,zH,zI,qa,zD,zJ,zK,qb];done)|rfl)) (λm_=>?_);change SX _ _ [own (Sh 0 (zd (zd (val (zE (aB zm zm)))))) bM,own (Sh 0 (zd zg)) bc,own zg cD,own (Sh 0 (zd zp)) km,own (Sh 0 (zd zp)) kh,own zg kq,pin (zd (val eD)) fJ Te,own zg m_,own zg c7] _ _;refine ZK (jN (b:=(decide (m_<(0:Int)))) (bx.eq (qm (zy sP (zh rfl) zF)) rfl) ⟨_,_,rfl,?_,?_⟩)
    ·refine jC ?_
     exact jR (α:=(List Dt)) (zi (JX (Jn (Qv 6 rfl SA.da) (Zi rfl ⟨_,_,_,rfl,zi (JX (jR (α:=Dt) (zi (zo (v:=(⟨"exit",by decide +kernel⟩:ao)) (av.eq (jX (by decide +kernel)) rfl) (zu ⟨[(Dt.str (⟨"exit",by decide +kernel⟩:ao))],(val eD),(.cons (QE (QD (fa:=zC) (fb:=eD) (f:=λ(x:ao)=>(Dt.str x)) (λ_=>rfl))) .nil),rfl,rfl,⟨_,_,_,rfl,zu ⟨[fJ,[(Dt.str (⟨"exit",by decide +kernel⟩:ao))]],(val (a_ eD)),(.cons SA.r (.cons SA.r .nil)),rfl,rfl,⟨_,rfl,⟨SA.r,aF _⟩,.nil⟩⟩⟩⟩)))))⟩))))
    ·exact zR (s:=(fJ,m_)) (Le.cons SA.r (Le.cons SA.r (Le.cons SA.r (Le.cons SA.r (Le.cons SA.r (Le.cons SA.r (Le.cons SA.da (Le.cons SA.r (Le.cons SA.y Le.nil)))))))))
 intro s8;exact qJ 6 rfl (λf7=>jC (jR (α:=(List Dt)) (zi (JX (Jn (Qv 6 rfl SA.da) (Zi rfl ⟨_,_,_,rfl,zi (JX (jR (α:=Dt) (zu ⟨([]:List Dt),(val eD),.nil,rfl,rfl,⟨_,_,_,rfl,zu ⟨[s8.1,([]:List Dt)],(val (a_ eD)),(.cons SA.r (.cons SA.r .nil)),rfl,rfl,⟨_,rfl,⟨SA.r,aF _⟩,.nil⟩⟩⟩⟩)))⟩))))))
noncomputable def Zs(oO:(List Int)) (dm:Int):Res ax (ax):=Res.fin (ν:=ax) (β:=aE) (
(Res.seq (jW (λgc (s4:ax)=>
(aL (!((decide ((0:Int)<=gc)) && (decide (gc<dm))))
(Res.ex ⟨2,[(5,zm gc)]⟩ ())
(Res.ok (PF.nx ())))) oO ())
λ(_:ax)=>
Res.ok (PF.nx ()))) (λ_=>())
theorem zfe(oO:(List Int)) (dm:Int):FX KR [own (Sh 0 (zd zg)) oO,own zg dm] (Zs oO dm) [] (λ(t:ax)=>(own Jg t,[])) (λ(_:ax)=>[]):=by
 unfold KR tY Zs;refine jU (n:=3) (k:=2) (A:=[own (Sh 0 (zd zg)) oO,own zg dm]) (N:=λ(_:ax)=>[SA.any,SA.any,SA.any]) (E:=λ(_:ax)=>[SA.any,SA.any,SA.any]) (post:=λ(t:ax)=>(own Jg t,[])) (pe:=λ(_:ax)=>[]) rfl (by decide) (jB (jF (N1:=(λ_:ax=>[own (Sh 0 (zd zg)) oO,own zg dm,SA.any])) ?_ ?_)) (λs=>⟨rfl,.nil⟩) (λx=>.nil)
 ·refine Q7 ?_
  refine yM (j5 rfl ⟨_,yN,lD (xs:=oO) (s0:=()) (zg) (λ(s4:ax)=>[own (Sh 0 (zd zg)) oO,own zg dm,SA.any]) rfl ZQ (by decide) (Le.cons SA.r (Le.cons SA.r (Le.cons SA.y Le.nil))) (λ_=>rfl) (λ_=>rfl) (λ_=>Le.refl) ?_⟩);intro gc s4;refine jV (ZK (jN (b:=(!((decide ((0:Int)<=gc)) && (decide (gc<dm))))) (bx.eq (pL (qm (QT pI sP zF (zh rfl) (zh rfl)))) rfl) ⟨_,_,rfl,?_,?_⟩))
  ·refine Ka ?_
   exact zi (zo (v:=gc) (av.eq (zh rfl) rfl) (zu ⟨_,⟨2,[(5,zm gc)]⟩,(),(.one .nil),rfl,rfl,rfl,(Le.cons SA.y (Le.cons SA.y (Le.cons SA.y Le.nil)))⟩))
  ·exact zR (s:=()) (Le.cons SA.r (Le.cons SA.r (Le.cons SA.y Le.nil)))
 intro _;exact zR (s:=()) (Le.cons SA.y (Le.cons SA.y (Le.cons SA.y Le.nil)))
noncomputable def zO(aI:aH) (at2:(ao×Int)):Res ax ((ao×(au ao))):=Res.fin (ν:=aE) (β:=aE) (
(aL (!ZL at2.1 aI.nodes)
(Res.ex ⟨3,[(6,zC at2.1)]⟩ ())
((aL (!((decide ((0:Int)<=at2.2)) && (decide (at2.2<aI.cU))))
(Res.ex ⟨2,[(5,zm at2.2)]⟩ ())
((aL (!(Jh (at2.1,at2.2) aI.edges).isSome)
(Res.ex ⟨4,[(5,zm at2.2),(6,zC at2.1)]⟩ ())
((Res.bind (vh aI.edges (at2.1,at2.2)) λv3=>Res.ok (PF.rt v3))))))))) (λz=>nomatch z)
theorem zcf(aI:aH) (at2:(ao×Int)):FX qL [own (Sh 0 zx) aI,own (val (aB zC zm)) at2] (zO aI at2) [] (λ(t:(ao×(au ao)))=>(own (val (aB zC (zE zC))) t,[])) (λ(_:ax)=>[]):=by
 unfold qL p_ zO;refine jU (n:=4) (k:=2) (A:=[own (Sh 0 zx) aI,own (val (aB zC zm)) at2]) (N:=λz:aE=>nomatch z) (E:=λ(_:ax)=>[SA.any,SA.any,SA.any,SA.any]) (post:=λ(t:(ao×(au ao)))=>(own (val (aB zC (zE zC))) t,[])) (pe:=λ(_:ax)=>[]) rfl (by decide) (u_ (zo (v:=at2) (av.eq (zh rfl) rfl) (u9 (A:=[own zp at2.1,own zg at2.2]) vn rfl (j9 (jV (j9 (jV (u7 (j8 (jN (b:=(!ZL at2.1 aI.nodes)) (bx.eq (qm (zy Jb (zh rfl) (Z9 2 (λ(v:aH)=>v.nodes) (λv=>rfl) (z7 (zh rfl))))) rfl) ⟨_,_,rfl,?_,?_⟩)))))))))) (λz=>nomatch z) (λx=>.nil)
 ·refine Zd ?_
  exact zi (zo (v:=at2.1) (av.eq (zh rfl) rfl) (zu ⟨_,⟨3,[(6,zC at2.1)]⟩,(),(.one .nil),rfl,rfl,rfl,(Le.cons SA.y (Le.cons SA.y (Le.cons SA.y (Le.cons SA.y Le.nil))))⟩))
 ·refine jG ?_
  refine j8 (jN (b:=(!((decide ((0:Int)<=at2.2)) && (decide (at2.2<aI.cU))))) (bx.eq (pL (qm (QT pI sP zF (zh rfl) (Z9 0 (λ(v:aH)=>v.cU) (λv=>rfl) (z7 (zh rfl)))))) rfl) ⟨_,_,rfl,?_,?_⟩)
  ·refine Zd ?_
   exact zi (zo (v:=at2.2) (av.eq (zh rfl) rfl) (zu ⟨_,⟨2,[(5,zm at2.2)]⟩,(),(.one .nil),rfl,rfl,rfl,(Le.cons SA.y (Le.cons SA.y (Le.cons SA.y (Le.cons SA.y Le.nil))))⟩))
  ·refine jG ?_
   refine j8 (jN (b:=(!(Jh (at2.1,at2.2) aI.edges).isSome)) (bx.eq (qm (zy Ri (Z8 (f:=(aB zC zm)) (λ(v:ao×Int×ax)=>(v.1,v.2.1)) (λv=>⟨rfl,rfl⟩) (qt (zh rfl) (qt (zh rfl) Z7))) (Z9 3 (λ(v:aH)=>v.edges) (λv=>rfl) (z7 (zh rfl))))) rfl) ⟨_,_,rfl,?_,?_⟩)
   ·refine Zd ?_
    exact zi (zo (v:=at2.1) (av.eq (zh rfl) rfl) (zi (zo (v:=at2.2) (av.eq (zh rfl) rfl) (zu ⟨_,⟨4,[(5,zm at2.2),(6,zC at2.1)]⟩,(),(.one (.one .nil)),rfl,rfl,rfl,(Le.cons SA.y (Le.cons SA.y (Le.cons SA.y (Le.cons SA.y Le.nil))))⟩))))
   ·refine jG ?_
    refine jC ?_;exact q8 (av.eq (zy Rh (Z9 3 (λ(v:aH)=>v.edges) (λv=>rfl) (z7 (zh rfl))) (Z8 (f:=(aB zC zm)) (λ(v:ao×Int×ax)=>(v.1,v.2.1)) (λv=>⟨rfl,rfl⟩) (qt (zh rfl) (qt (zh rfl) Z7)))) (by first|with_reducible rfl|(simp only[z9,zA,zH,zI,qa,zD,zJ,zK,qb];done)|rfl)) (λv3=>⟨_,rfl,⟨SA.r,aF _⟩,.nil⟩)
noncomputable def jz(aI:aH) (at2:((au ao)×Int)):Res ax ((ao×(au ao))):=Res.fin (ν:=aE) (β:=aE) (
(aL (!y4 at2.1 aI.nodes)
(Res.ex ⟨3,[(6,(zE zC) at2.1)]⟩ ())
((aL (!((decide ((0:Int)<=at2.2)) && (decide (at2.2<aI.cU))))
(Res.ex ⟨2,[(5,zm at2.2)]⟩ ())
((Res.bind (Res.bind (Res.bind (ck at2.1) λt3=>(Res.ok (t3,at2.2))) λt4=>(Res.ok (!(Jh t4 aI.edges).isSome))) λb5=>(aL b5
(Res.ex ⟨4,[(5,zm at2.2),(6,(zE zC) at2.1)]⟩ ())
((Res.bind (Res.bind (Res.bind (ck at2.1) λH9=>(Res.ok (H9,at2.2))) λK6=>(vh aI.edges K6)) λvQ=>Res.ok (PF.rt vQ)))))))))) (λz=>nomatch z)
theorem Jf(aI:aH) (at2:((au ao)×Int)):FX qL [own (Sh 0 zx) aI,own (val (aB (zE zC) zm)) at2] (jz aI at2) [] (λ(t:(ao×(au ao)))=>(own (val (aB zC (zE zC))) t,[])) (λ(_:ax)=>[]):=by
 unfold qL p_ jz;refine jU (n:=4) (k:=2) (A:=[own (Sh 0 zx) aI,own (val (aB (zE zC) zm)) at2]) (N:=λz:aE=>nomatch z) (E:=λ(_:ax)=>[SA.any,SA.any,SA.any,SA.any]) (post:=λ(t:(ao×(au ao)))=>(own (val (aB zC (zE zC))) t,[])) (pe:=λ(_:ax)=>[]) rfl (by decide) (u_ (zo (v:=at2) (av.eq (zh rfl) rfl) (u9 (A:=[own (val (zE zC)) at2.1,own zg at2.2]) vn rfl (j9 (jV (j9 (jV (u7 (j8 (jN (b:=(!y4 at2.1 aI.nodes)) (bx.eq (qm (zy zi2 (zh rfl) (Z9 2 (λ(v:aH)=>v.nodes) (λv=>rfl) (z7 (zh rfl))))) rfl) ⟨_,_,rfl,?_,?_⟩)))))))))) (λz=>nomatch z) (λx=>.nil)
 ·refine Zd ?_
  exact zi (zo (v:=at2.1) (av.eq (zh rfl) rfl) (zu ⟨_,⟨3,[(6,(zE zC) at2.1)]⟩,(),(.one .nil),rfl,rfl,rfl,(Le.cons SA.y (Le.cons SA.y (Le.cons SA.y (Le.cons SA.y Le.nil))))⟩))
 ·refine jG ?_
  refine j8 (jN (b:=(!((decide ((0:Int)<=at2.2)) && (decide (at2.2<aI.cU))))) (bx.eq (pL (qm (QT pI sP zF (zh rfl) (Z9 0 (λ(v:aH)=>v.cU) (λv=>rfl) (z7 (zh rfl)))))) rfl) ⟨_,_,rfl,?_,?_⟩)
  ·refine Zd ?_
   exact zi (zo (v:=at2.2) (av.eq (zh rfl) rfl) (zu ⟨_,⟨2,[(5,zm at2.2)]⟩,(),(.one .nil),rfl,rfl,rfl,(Le.cons SA.y (Le.cons SA.y (Le.cons SA.y (Le.cons SA.y Le.nil))))⟩))
  ·refine jG ?_
   refine j8 ?_;refine nK (bx.eq (qm (zy Ri (Z8 (f:=(aB zC zm)) (λ(v:ao×Int×ax)=>(v.1,v.2.1)) (λv=>⟨rfl,rfl⟩) (qt (ZF (zh rfl)) (qt (zh rfl) Z7))) (Z9 3 (λ(v:aH)=>v.edges) (λv=>rfl) (z7 (zh rfl))))) (by first|with_reducible rfl|(simp only[z9,zA,zH,zI,qa,zD,zJ,zK,qb];done)|rfl)) (λb5=>⟨_,_,rfl,?_,?_⟩)
   ·refine Zd ?_
    exact zi (zo (v:=at2.1) (av.eq (zh rfl) rfl) (zi (zo (v:=at2.2) (av.eq (zh rfl) rfl) (zu ⟨_,⟨4,[(5,zm at2.2),(6,(zE zC) at2.1)]⟩,(),(.one (.one .nil)),rfl,rfl,rfl,(Le.cons SA.y (Le.cons SA.y (Le.cons SA.y (Le.cons SA.y Le.nil))))⟩))))
   ·refine jG ?_
    refine jC ?_;exact q8 (av.eq (zy Rh (Z9 3 (λ(v:aH)=>v.edges) (λv=>rfl) (z7 (zh rfl))) (Z8 (f:=(aB zC zm)) (λ(v:ao×Int×ax)=>(v.1,v.2.1)) (λv=>⟨rfl,rfl⟩) (qt (ZF (zh rfl)) (qt (zh rfl) Z7)))) (by first|with_reducible rfl|(simp only[z9,zA,zH,zI,qa,zD,zJ,zK,qb];done)|rfl)) (λvQ=>⟨_,rfl,⟨SA.r,aF _⟩,.nil⟩)
noncomputable def jn(aI:aH) (bc:(List Int)):Res ax (((List ao)×aw)):=Res.fin (ν:=aE) (β:=aE) (
(Res.bind (Res.on (Zs bc aI.cU) λx4=>()) λv3=>(Res.seq (jW (λiO (s6:((List ao)×(au ao)))=>
(Res.bind (Res.on (jz aI (s6.2,iO)) λx9=>()) λv8=>(Res.bind (push s6.1 v8.1) λj_=>(aL (kT v8.2)
(Res.ok (PF.rt (j_,aj)))
(Res.ok (PF.nx (j_,v8.2))))))) bc (([]:List ao),(ah aI.start)))
λ(s5:((List ao)×(au ao)))=>
Res.ok (PF.rt (s5.1,ak))))) (λz=>nomatch z)
theorem zdX(aI:aH) (bc:(List Int)):FX QR [own (Sh 0 zx) aI,own (Sh 0 (zd zg)) bc] (jn aI bc) [] (λ(t:((List ao)×aw))=>(own (kM (zd zp) z8) t,[])) (λ(_:ax)=>[]):=by
 unfold QR tX jn;refine jU (n:=6) (k:=2) (A:=[own (Sh 0 zx) aI,own (Sh 0 (zd zg)) bc]) (N:=λz:aE=>nomatch z) (E:=λ(_:ax)=>[SA.any,SA.any,SA.any,SA.any,SA.any,SA.any]) (post:=λ(t:((List ao)×aw))=>(own (kM (zd zp) z8) t,[])) (pe:=λ(_:ax)=>[]) rfl (by decide) (j6 (qR (zi (j5 rfl (zi (zo (v:=aI.cU) (av.eq (Z9 0 (λ(v:aH)=>v.cU) (λv=>rfl) (z7 (zh rfl))) rfl) (zu (jL (zfe bc aI.cU) (.cons (Zy rfl) (.cons (zN rfl) .nil)) (λ_=>qz rfl) (λ_=>.nil) (λx4=>⟨_,.nil,(Le.cons SA.y (Le.cons SA.y (Le.cons SA.y (Le.cons SA.y (Le.cons SA.y (Le.cons SA.y Le.nil))))))⟩) (λv3=>zo3 (zi (jR (α:=ao) (zu ⟨([]:List ao),zp,.nil,rfl,rfl,zi (zo (v:=aI.start) (av.eq (Z9 1 (λ(v:aH)=>v.start) (λv=>rfl) (z7 (zh rfl))) rfl) (zu ⟨_,_,rfl,jF (N1:=(λ(s5:((List ao)×(au ao)))=>[own (Sh 0 zx) aI,own (Sh 0 (zd zg)) bc,own (zd zp) s5.1,own (val (zE zC)) s5.2,SA.any,SA.any])) ?_ ?_⟩))⟩)))))))))))) (λz=>nomatch z) (λx=>.nil)
 ·refine Q7 ?_
  refine yM (j5 rfl ⟨_,yN,lD (xs:=bc) (s0:=(([]:List ao),(ah aI.start))) (zg) (λ(s6:((List ao)×(au ao)))=>[own (Sh 0 zx) aI,own (Sh 0 (zd zg)) bc,own (zd zp) s6.1,own (val (zE zC)) s6.2,SA.any,SA.any]) rfl ZQ (by decide) (Le.cons SA.r (Le.cons SA.r (Le.cons SA.r (Le.cons (QE (QD (fa:=zC) (fb:=(zE zC)) (f:=λx=>(ah x)) λ_=>rfl)) (Le.cons SA.y (Le.cons SA.y Le.nil)))))) (λ_=>rfl) (λ_=>rfl) (λ_=>Le.refl) ?_⟩);intro iO s6;refine jV (u_ (qT (j5 rfl (zo (v:=(s6.2,iO)) (av.eq (Z8 (f:=(aB (zE zC) zm)) (λ(v:(au ao)×Int×ax)=>(v.1,v.2.1)) (λv=>⟨rfl,rfl⟩) (qt (zh rfl) (qt (zh rfl) Z7))) rfl) (I9 (F:=qL) 0 rfl (JT sN) (jL (Jf aI (s6.2,iO)) (.cons (Zy rfl) (.cons (zN rfl) .nil)) (λ_=>qz rfl) (λ_=>.nil) (λx9=>⟨_,.nil,(Le.cons SA.y (Le.cons SA.y (Le.cons SA.y (Le.cons SA.y (Le.cons SA.y (Le.cons SA.y Le.nil))))))⟩) (λv8=>u9 (A:=[own zp v8.1,own (val (zE zC)) v8.2]) vn rfl (j9 (jV (j9 (jV (u7 (qJ 2 rfl (λTc=>j6 (nJ (zQ rfl ⟨JQ (Jv),zi (zo (v:=v8.1) (av.eq (zh rfl) rfl) (zu (Zz 2 rfl SA.r (λ_=>aF _) (λj_=>ZK (jN (b:=(kT v8.2)) (bx.eq (qm (zy IH (zh rfl) JR)) rfl) ⟨_,_,rfl,?_,?_⟩)))))⟩))))))))))))))))
  ·refine jC ?_
   exact RE (zi (Jn (Qv 2 rfl SA.da) (Zi rfl (zi (zo (v:=aj) (av.eq vd rfl) (zu ⟨rfl,⟨_,rfl,⟨(RH SA.r SA.r),aF _⟩,.nil⟩⟩))))))
  ·exact zR (s:=(j_,v8.2)) (Le.cons SA.r (Le.cons SA.r (Le.cons SA.da (Le.cons SA.r (Le.cons SA.y (Le.cons SA.y Le.nil))))))
 intro s5;exact qJ 2 rfl (λw12=>jC (RE (zi (Jn (Qv 2 rfl SA.da) (Zi rfl (zi (zo (v:=ak) (av.eq vd rfl) (zu ⟨rfl,⟨_,rfl,⟨(RH SA.r SA.r),aF _⟩,.nil⟩⟩))))))))
noncomputable def Zt(cz:aH) (bc:(List Int)):Res aE (bF):=Res.fin (ν:=aE) (β:=aE) (
(Res.seq ((Res.xb [(1,aj),(2,aj),(3,aj),(4,aj),(5,aj)] ((Res.bind (Res.on (Res.on (jn cz bc) λ_=>()) λ_=>()) λtold6=>(Res.bind (aL (!aj) (Res.ok aj) (Res.bind (Res.bind (Res.ok (2:Int)) λt8=>(Res.ok (!decide (t8=(2:Int))))) λt9=>(Res.ok (t9||((!aj)||(!aj)))))) λAB=>(aL AB
((Res.bind (Res.nox (δ:=ax) (Res.ok (PyData.list [zV.to zp (⟨"none",by decide +kernel⟩:ao)]))) λv11=>Res.ok (PF.rt v11)))
((Res.bind (Res.ok told6.1) λFQ=>(Res.bind (push (told6).1 (⟨"x",by decide +kernel⟩:ao)) λDX=>Res.ok (PF.rt (PyData.list [zV.to zp (⟨"run",by decide +kernel⟩:ao),zV.to (zd zp) FQ,zV.to z8 (DX,(told6).2).2])))))))))
(λ(vR:eW) (Tf:ax)=>(Res.bind (Res.bind (vj [(1,ak),(2,aj),(3,ak),(4,ak),(5,ak)] vR) λhQ=>(Res.ok hQ)) λTg=>(aL Tg
((Res.bind (Res.nox (δ:=ax) (Res.bind (kL nO [2,4] 5 vR) λAy=>(Res.ok (PyData.list [zV.to zp (⟨"outcome",by decide +kernel⟩:ao),zV.to zg Ay])))) λTh=>Res.ok (PF.rt Th)))
((Res.bind (Res.bind (vj [(1,ak),(2,ak),(3,ak),(4,aj),(5,ak)] vR) λAF=>(Res.ok AF)) λAG=>(aL AG
((Res.bind (Res.nox (δ:=ax) (Res.bind (kL J5 [3,4] 6 vR) λAz=>(Res.bind (kL nO [2,4] 5 vR) λAA=>(Res.ok (PyData.list [zV.to zp (⟨"edge",by decide +kernel⟩:ao),zV.to zp Az,zV.to zg AA]))))) λTi=>Res.ok (PF.rt Ti)))
(Res.ok (PF.nx ()))))))))))
λ(_:ax)=>
(Res.bind (Res.nox (δ:=ax) (Res.ok (PyData.list [zV.to zp (⟨"none",by decide +kernel⟩:ao)]))) λTj=>Res.ok (PF.rt Tj)))) (λz=>nomatch z)
theorem zjq(cz:aH) (bc:(List Int)):FX KS [own (Sh 0 zx) cz,own (Sh 0 (zd zg)) bc] (Zt cz bc) [] (λ(t:bF)=>(own Jp t,[])) (bX):=by
 unfold KS uc Zt;refine jU (n:=5) (k:=2) (A:=[own (Sh 0 zx) cz,own (Sh 0 (zd zg)) bc]) (N:=λz:aE=>nomatch z) (E:=bX) (post:=λ(t:bF)=>(own Jp t,[])) (pe:=bX) rfl (by decide) (jF (N1:=(λ_:ax=>[own (Sh 0 zx) cz,own (Sh 0 (zd zg)) bc,SA.any,SA.any,SA.any])) ?_ ?_) (λz=>nomatch z) (λx=>nomatch x)
 ·refine RM (λ(Tf:ax)=>[own (Sh 0 zx) cz,own (Sh 0 (zd zg)) bc,SA.any,SA.any,SA.any]) ?_ (λ_=>rfl) (λz=>by first|rfl|cases z) (λz=>by first|rfl|cases z) ?_
  ·refine zT ?_
   refine zo6 (x:=()) (PV.eq (zlm (F:=QR) (c:=0) rfl (Jc (vt rfl (vq rfl))) (Jc (vt rfl (vq rfl))) (λa4 a5=>yX (zdX a4 a5))) (by first|with_reducible rfl|(simp only[z9,zA,zH,zI,qa,zD,zJ,zK,qb];done)|rfl)) (Le.cons SA.r (Le.cons SA.r (Le.cons SA.y (Le.cons SA.y (Le.cons SA.y Le.nil))))) (λtold6=>qJ 2 rfl (λw7=>j8 ?_));refine nK (bx.eq (P0 (pL (sV (Ki (zo9 (b:=aj) (by decide)) (zZ rfl)))) (IY (qm (zy (Df rfl rfl) (Zp zlj (zZ rfl)) zF)) (IY (pL (sV (Ki (zm7 (b:=aj) (by decide)) (RQ (zZ rfl))))) (pL (sV (Ki (zk8 (b:=aj) (by decide)) (RR (zZ rfl)))))))) (by first|with_reducible rfl|(simp only[z9,zA,zH,zI,qa,zD,zJ,zK,qb];done)|rfl)) (λAB=>⟨_,_,rfl,?_,?_⟩)
   ·refine QN ?_
    exact yZ (PV.eq (vE rfl (Jo (r:=zp) rfl (Qw (jX (by decide +kernel))) vD)) rfl) (λv11=>⟨_,rfl,⟨SA.r,aF _⟩,.nil⟩)
   ·refine jG ?_
    exact zT (Rr (pa:=(Res.ok told6.1)) (av.eq (RQ (zZ rfl)) rfl) (λFQ=>j6 (nJ (qT (zQ rfl (zo (v:=(0:Int)) (av.eq zF rfl) (zi4 2 rfl rfl (λAg=>⟨JQ (Jv),zi (zo (v:=(⟨"x",by decide +kernel⟩:ao)) (av.eq (jX (by decide +kernel)) rfl) (zu (Zz 2 rfl SA.r (λ_=>aF _) (λDX=>qJ 3 rfl (λTd=>jC (vF (zi (zo (v:=(⟨"run",by decide +kernel⟩:ao)) (av.eq (jX (by decide +kernel)) rfl) (zi (Jn (Qv 3 rfl SA.da) (Zi rfl (zi (zo (v:=(DX,(told6).2).2) (av.eq (RR (zZ rfl)) rfl) (zu ⟨[zV.to zp (⟨"run",by decide +kernel⟩:ao),zV.to (zd zp) FQ,zV.to z8 (DX,(told6).2).2],(.cons (r1:=zp) rfl inferInstance rfl (.cons (r1:=(zd zp)) rfl inferInstance rfl (.cons (r1:=z8) rfl inferInstance rfl .nil))),rfl,⟨_,rfl,⟨SA.r,aF _⟩,.nil⟩⟩))))))))))))))⟩))))))))
  ·intro vR Tf
   refine j8 ?_;refine nK (bx.eq (sV Dx) (by first|with_reducible rfl|(simp only[z9,zA,zH,zI,qa,zD,zJ,zK,qb];done)|rfl)) (λTg=>⟨_,_,rfl,?_,?_⟩)
   ·refine QN ?_
    exact yZ (PV.eq (vE rfl (Jo (r:=zp) rfl (Qw (jX (by decide +kernel))) (Jo (r:=zg) rfl (Qw (vk nO Dy)) vD))) (by first|with_reducible rfl|(simp only[z9,zA,zH,zI,qa,zD,zJ,zK,qb];done)|rfl)) (λTh=>⟨_,rfl,⟨SA.r,aF _⟩,.nil⟩)
   ·refine jG ?_
    refine ZK ?_;refine nK (bx.eq (sV Dx) (by first|with_reducible rfl|(simp only[z9,zA,zH,zI,qa,zD,zJ,zK,qb];done)|rfl)) (λAG=>⟨_,_,rfl,?_,?_⟩)
    ·refine jC ?_
     exact yZ (PV.eq (vE rfl (Jo (r:=zp) rfl (Qw (jX (by decide +kernel))) (Jo (r:=zp) rfl (Qw (vk J5 Rk)) (Jo (r:=zg) rfl (Qw (vk nO Dy)) vD)))) (by first|with_reducible rfl|(simp only[z9,zA,zH,zI,qa,zD,zJ,zK,qb];done)|rfl)) (λTi=>⟨_,rfl,⟨SA.r,aF _⟩,.nil⟩)
    ·exact zR (s:=()) (Le.cons SA.r (Le.cons SA.r (Le.cons SA.y (Le.cons SA.y (Le.cons SA.y Le.nil)))))
 intro _;exact jC (yZ (PV.eq (vE rfl (Jo (r:=zp) rfl (Qw (jX (by decide +kernel))) vD)) rfl) (λTj=>⟨_,rfl,⟨SA.r,aF _⟩,.nil⟩))
noncomputable def Qr(aI:aH):Res aE (ao):=Res.fin (ν:=aE) (β:=aE) (
Res.ok (PF.rt aI.start)) (λz=>nomatch z)
theorem zdH(aI:aH):FX Ze [own (Sh 0 zx) aI] (Qr aI) [] (λ(t:ao)=>(own zp t,[])) (bX):=by
 unfold Ze tV Qr;exact jU (n:=1) (k:=1) (A:=[own (Sh 0 zx) aI]) (N:=λz:aE=>nomatch z) (E:=bX) (post:=λ(t:ao)=>(own zp t,[])) (pe:=bX) rfl (by decide) (jC (zo (v:=aI.start) (av.eq (Z9 1 (λ(v:aH)=>v.start) (λv=>rfl) (z7 (zh rfl))) rfl) ⟨_,rfl,⟨SA.r,aF _⟩,.nil⟩)) (λz=>nomatch z) (λx=>nomatch x)
noncomputable def Qd(aI:aH) (node2:ao) (gK:Int):Res ax ((ao×(au ao))):=Res.fin (ν:=aE) (β:=aE) (
(Res.bind (Res.on (zO aI (node2,gK)) λx5=>()) λv4=>Res.ok (PF.rt v4))) (λz=>nomatch z)
theorem zdY(aI:aH) (node2:ao) (gK:Int):FX jm [own (Sh 0 zx) aI,own zp node2,own zg gK] (Qd aI node2 gK) [] (λ(t:(ao×(au ao)))=>(own (val (aB zC (zE zC))) t,[])) (λ(_:ax)=>[]):=by
 unfold jm rg Qd;exact jU (n:=3) (k:=3) (A:=[own (Sh 0 zx) aI,own zp node2,own zg gK]) (N:=λz:aE=>nomatch z) (E:=λ(_:ax)=>[SA.any,SA.any,SA.any]) (post:=λ(t:(ao×(au ao)))=>(own (val (aB zC (zE zC))) t,[])) (pe:=λ(_:ax)=>[]) rfl (by decide) (jC (qT (j5 rfl (zo (v:=(node2,gK)) (av.eq (Z8 (f:=(aB zC zm)) (λ(v:ao×Int×ax)=>(v.1,v.2.1)) (λv=>⟨rfl,rfl⟩) (qt (zh rfl) (qt (zh rfl) Z7))) rfl) (I9 (F:=qL) 0 rfl (JT sN) (jL (zcf aI (node2,gK)) (.cons (Zy rfl) (.cons (zN rfl) .nil)) (λ_=>qz rfl) (λ_=>.nil) (λx5=>⟨_,.nil,(Le.cons SA.y (Le.cons SA.y (Le.cons SA.y Le.nil)))⟩) (λv4=>⟨_,rfl,⟨SA.r,aF _⟩,.nil⟩))))))) (λz=>nomatch z) (λx=>.nil)
noncomputable def jZ(aI:aH) (node2:(au ao)) (gK:Int):Res ax ((ao×(au ao))):=Res.fin (ν:=aE) (β:=aE) (
(Res.bind (Res.on (jz aI (node2,gK)) λx5=>()) λv4=>Res.ok (PF.rt v4))) (λz=>nomatch z)
theorem zcu(aI:aH) (node2:(au ao)) (gK:Int):FX jm [own (Sh 0 zx) aI,own (val (zE zC)) node2,own zg gK] (jZ aI node2 gK) [] (λ(t:(ao×(au ao)))=>(own (val (aB zC (zE zC))) t,[])) (λ(_:ax)=>[]):=by
 unfold jm rg jZ;exact jU (n:=3) (k:=3) (A:=[own (Sh 0 zx) aI,own (val (zE zC)) node2,own zg gK]) (N:=λz:aE=>nomatch z) (E:=λ(_:ax)=>[SA.any,SA.any,SA.any]) (post:=λ(t:(ao×(au ao)))=>(own (val (aB zC (zE zC))) t,[])) (pe:=λ(_:ax)=>[]) rfl (by decide) (jC (qT (j5 rfl (zo (v:=(node2,gK)) (av.eq (Z8 (f:=(aB (zE zC) zm)) (λ(v:(au ao)×Int×ax)=>(v.1,v.2.1)) (λv=>⟨rfl,rfl⟩) (qt (zh rfl) (qt (zh rfl) Z7))) rfl) (I9 (F:=qL) 0 rfl (JT sN) (jL (Jf aI (node2,gK)) (.cons (Zy rfl) (.cons (zN rfl) .nil)) (λ_=>qz rfl) (λ_=>.nil) (λx5=>⟨_,.nil,(Le.cons SA.y (Le.cons SA.y (Le.cons SA.y Le.nil)))⟩) (λv4=>⟨_,rfl,⟨SA.r,aF _⟩,.nil⟩))))))) (λz=>nomatch z) (λx=>.nil)
noncomputable def Zu(lW:aH) (bc:(List Int)) (uz:(List ao)):Res ((List ao)) (ax×(List ao)):=Res.fin (ν:=((List ao))) (β:=aE) (
(Res.bind (Res.up (Qr lW)) λFC=>(Res.seq (jW (λiO (s6:((List ao)×(au ao)))=>
(Res.bind (Res.on (jZ lW s6.2 iO) λx9=>s6.1) λv8=>(Res.bind (push s6.1 v8.1) λmO=>(aL (kT v8.2)
(Res.ok (PF.rt ((),mO)))
(Res.ok (PF.nx (mO,v8.2))))))) bc (uz,(ah FC)))
λ(s5:((List ao)×(au ao)))=>
Res.ok (PF.nx s5.1)))) (λs=>((),s))
theorem zcv(lW:aH) (bc:(List Int)) (uz:(List ao)) (w2:W):FX JZ [own (Sh 0 zx) lW,own (Sh 0 (zd zg)) bc,pin (zd zp) uz w2] (Zu lW bc uz) [w2] (λ(t:ax×(List ao))=>(own Jg t.1,[pin (zd zp) t.2 w2])) (λ(x:((List ao)))=>[pin (zd zp) x w2]):=by
 unfold JZ S6 Zu;refine jU (n:=6) (k:=3) (A:=[own (Sh 0 zx) lW,own (Sh 0 (zd zg)) bc,pin (zd zp) uz w2]) (N:=λ(s:((List ao)))=>[SA.any,SA.any,pin (zd zp) s w2,SA.any,SA.any,SA.any]) (E:=λ(x:((List ao)))=>[SA.any,SA.any,pin (zd zp) x w2,SA.any,SA.any,SA.any]) (post:=λ(t:ax×(List ao))=>(own Jg t.1,[pin (zd zp) t.2 w2])) (pe:=λ(x:((List ao)))=>[pin (zd zp) x w2]) rfl (by decide) (zT (Ds (F:=Ze) 0 rfl (j5 rfl ⟨(JT sN),zu (qd (zdH lW) (.cons (Zy rfl) .nil) (λ_=>qz rfl) (λ_=>.nil) (λFC=>jB (jF (N1:=(λ(s5:((List ao)×(au ao)))=>[own (Sh 0 zx) lW,own (Sh 0 (zd zg)) bc,pin (zd zp) s5.1 w2,own (val (zE zC)) s5.2,SA.any,SA.any])) ?_ ?_)))⟩))) (λs=>⟨rfl,(.cons 2 rfl rfl .nil)⟩) (λx=>(.cons 2 rfl rfl .nil))
 ·refine Q7 ?_
  refine yM (j5 rfl ⟨_,yN,lD (xs:=bc) (s0:=(uz,(ah FC))) (zg) (λ(s6:((List ao)×(au ao)))=>[own (Sh 0 zx) lW,own (Sh 0 (zd zg)) bc,pin (zd zp) s6.1 w2,own (val (zE zC)) s6.2,SA.any,SA.any]) rfl ZQ (by decide) (Le.cons SA.r (Le.cons SA.r (Le.cons SA.r (Le.cons (QE (QD (fa:=zC) (fb:=(zE zC)) (f:=λx=>(ah x)) λ_=>rfl)) (Le.cons SA.y (Le.cons SA.y Le.nil)))))) (λ_=>rfl) (λ_=>rfl) (λ_=>Le.refl) ?_⟩);intro iO s6;refine jV (u_ (Ds (F:=jm) 0 rfl (j5 rfl ⟨(JT sN),zi (zo (v:=s6.2) (av.eq (zh rfl) rfl) (zi (zo (v:=iO) (av.eq (zh rfl) rfl) (zu (jL (zcu lW s6.2 iO) (.cons (Zy rfl) (.cons (zN rfl) (.cons (zN rfl) .nil))) (λ_=>qz rfl) (λ_=>.nil) (λx9=>⟨_,.nil,(Le.cons SA.y (Le.cons SA.y (Le.cons SA.r (Le.cons SA.y (Le.cons SA.y (Le.cons SA.y Le.nil))))))⟩) (λv8=>u9 (A:=[own zp v8.1,own (val (zE zC)) v8.2]) vn rfl (j9 (jV (j9 (jV (u7 (j6 (nJ (zQ rfl ⟨JQ (Jv),zi (zo (v:=v8.1) (av.eq (zh rfl) rfl) (zu (Zz 2 rfl SA.r (λ_=>aF _) (λmO=>ZK (jN (b:=(kT v8.2)) (bx.eq (qm (zy IH (zh rfl) JR)) rfl) ⟨_,_,rfl,?_,?_⟩)))))⟩))))))))))))))⟩)))
  ·exact zmN rfl (.cons 2 rfl rfl .nil)
  ·exact zR (s:=(mO,v8.2)) (Le.cons SA.r (Le.cons SA.r (Le.cons SA.r (Le.cons SA.r (Le.cons SA.y (Le.cons SA.y Le.nil))))))
 intro s5;exact zR (s:=s5.1) (Le.cons SA.y (Le.cons SA.y (Le.cons SA.r (Le.cons SA.y (Le.cons SA.y (Le.cons SA.y Le.nil))))))
noncomputable def AH(cz:aH) (bc:(List Int)):Res aE (bF):=Res.fin (ν:=aE) (β:=aE) (
(Res.seq ((Res.xb [(1,aj),(2,aj),(3,aj),(4,aj),(5,aj)] ((Res.bind (Res.on (Zu cz bc ([]:List ao)) λx6=>x6) λv5=>Res.ok (PF.nx v5.2)))
(λ(e7:eW) (x8:((List ao)))=>(Res.bind (Res.bind (vj [(1,ak),(2,aj),(3,ak),(4,ak),(5,ak)] e7) λt9=>(Res.ok t9)) λAB=>(aL AB
((Res.bind (kL nO [2,4] 5 e7) λvQ=>Res.ok (PF.rt (PyData.list [zV.to (zd zp) x8,zV.to zp (⟨"outcome",by decide +kernel⟩:ao),zV.to zg vQ]))))
((Res.bind (Res.bind (vj [(1,ak),(2,ak),(3,ak),(4,aj),(5,ak)] e7) λlM=>(Res.ok lM)) λtD=>(aL tD
((Res.bind (kL J5 [3,4] 6 e7) λhM=>(Res.bind (kL nO [2,4] 5 e7) λg_=>Res.ok (PF.rt (PyData.list [zV.to (zd zp) x8,zV.to zp (⟨"edge",by decide +kernel⟩:ao),zV.to zp hM,zV.to zg g_])))))
((Res.bind (Res.nox (δ:=ax) (Res.ok (PyData.list [zV.to zp (⟨"none",by decide +kernel⟩:ao)]))) λfH=>Res.ok (PF.rt fH)))))))))))
λ(s3:((List ao)))=>
Res.ok (PF.rt (PyData.list [zV.to (zd zp) s3])))) (λz=>nomatch z)
theorem zjr(cz:aH) (bc:(List Int)):FX KU [own (Sh 0 zx) cz,own (Sh 0 (zd zg)) bc] (AH cz bc) [] (λ(t:bF)=>(own Jp t,[])) (bX):=by
 unfold KU ud AH;refine jU (n:=5) (k:=2) (A:=[own (Sh 0 zx) cz,own (Sh 0 (zd zg)) bc]) (N:=λz:aE=>nomatch z) (E:=bX) (post:=λ(t:bF)=>(own Jp t,[])) (pe:=bX) rfl (by decide) (zT (jR (α:=ao) (zu ⟨([]:List ao),zp,.nil,rfl,rfl,jF (N1:=(λ(s3:((List ao)))=>[own (Sh 0 zx) cz,own (Sh 0 (zd zg)) bc,own (zd zp) s3,SA.any,SA.any])) ?_ ?_⟩))) (λz=>nomatch z) (λx=>nomatch x)
 ·refine RM (λ(x8:((List ao)))=>[own (Sh 0 zx) cz,own (Sh 0 (zd zg)) bc,own (zd zp) x8,SA.any,SA.any]) ?_ (λ_=>rfl) (λz=>by first|rfl|cases z) (λz=>by first|rfl|cases z) ?_
  ·refine qJ 2 rfl (λw4=>?_)
   refine jB (zpc (i:=3) (j:=2) (db:=[(0,Ze)]) (ds:=[(0,jm)]) rfl (by decide) (λ_=>rfl) ?_);change EX _ _ _ (aQ JZ _) _ _;exact qR (zi (j5 rfl (zi (j5 rfl (zi (zQ rfl (zu (jL (zcv cz bc ([]:List ao) w4) (.cons (Zy rfl) (.cons (Zy rfl) (.cons (zN rfl) .nil))) (λ_=>qz rfl) (λ_=>(.cons 2 rfl rfl (aF _) .nil)) (λx6=>⟨_,(.cons 2 rfl rfl (aF _) .nil),(Le.cons SA.r (Le.cons SA.r (Le.cons SA.da (Le.cons SA.y (Le.cons SA.y Le.nil)))))⟩) (λv5=>⟨rfl,zR (s:=v5.2) (Le.cons SA.r (Le.cons SA.r (Le.cons SA.da (Le.cons SA.y (Le.cons SA.y Le.nil)))))⟩)))))))))
  ·intro e7 x8
   refine j8 ?_;refine nK (bx.eq (sV Dx) (by first|with_reducible rfl|(simp only[z9,zA,zH,zI,qa,zD,zJ,zK,qb];done)|rfl)) (λAB=>⟨_,_,rfl,?_,?_⟩)
   ·refine qJ 2 rfl (λw11=>?_)
    refine QN (vF (zi (Jn (Qv 2 rfl SA.da) (Zi rfl (zi (zo (v:=(⟨"outcome",by decide +kernel⟩:ao)) (av.eq (jX (by decide +kernel)) rfl) (zi ?_)))))))
    exact q8 (av.eq (vk nO Dy) (by first|with_reducible rfl|(simp only[z9,zA,zH,zI,qa,zD,zJ,zK,qb];done)|rfl)) (λvQ=>zu ⟨[zV.to (zd zp) x8,zV.to zp (⟨"outcome",by decide +kernel⟩:ao),zV.to zg vQ],(.cons (r1:=(zd zp)) rfl inferInstance rfl (.cons (r1:=zp) rfl inferInstance rfl (.cons (r1:=zg) rfl inferInstance rfl .nil))),rfl,⟨_,rfl,⟨SA.r,aF _⟩,.nil⟩⟩)
   ·refine jG ?_
    refine j8 ?_;refine nK (bx.eq (sV Dx) (by first|with_reducible rfl|(simp only[z9,zA,zH,zI,qa,zD,zJ,zK,qb];done)|rfl)) (λtD=>⟨_,_,rfl,?_,?_⟩)
    ·refine qJ 2 rfl (λTd=>?_)
     refine QN (vF (zi (Jn (Qv 2 rfl SA.da) (Zi rfl (zi (zo (v:=(⟨"edge",by decide +kernel⟩:ao)) (av.eq (jX (by decide +kernel)) rfl) (zi ?_)))))))
     refine q8 (av.eq (vk J5 Rk) (by first|with_reducible rfl|(simp only[z9,zA,zH,zI,qa,zD,zJ,zK,qb];done)|rfl)) (λhM=>zi ?_);exact q8 (av.eq (vk nO Dy) (by first|with_reducible rfl|(simp only[z9,zA,zH,zI,qa,zD,zJ,zK,qb];done)|rfl)) (λg_=>zu ⟨[zV.to (zd zp) x8,zV.to zp (⟨"edge",by decide +kernel⟩:ao),zV.to zp hM,zV.to zg g_],(.cons (r1:=(zd zp)) rfl inferInstance rfl (.cons (r1:=zp) rfl inferInstance rfl (.cons (r1:=zp) rfl inferInstance rfl (.cons (r1:=zg) rfl inferInstance rfl .nil)))),rfl,⟨_,rfl,⟨SA.r,aF _⟩,.nil⟩⟩)
    ·refine jG ?_
     exact jC (yZ (PV.eq (vE rfl (Jo (r:=zp) rfl (Qw (jX (by decide +kernel))) vD)) rfl) (λfH=>⟨_,rfl,⟨SA.r,aF _⟩,.nil⟩))
 intro s3;exact qJ 2 rfl (λw19=>jC (vF (zi (Jn (Qv 2 rfl SA.da) (Zi rfl (zu ⟨[zV.to (zd zp) s3],(.cons (r1:=(zd zp)) rfl inferInstance rfl .nil),rfl,⟨_,rfl,⟨SA.r,aF _⟩,.nil⟩⟩))))))
noncomputable def vS(cz:aH) (fw:(List (List (au (Int×Int))))) (cj:(List Int)) (eB:Int) (fW:(List Int)) (fu:(List ao)) (fS:(List ao)):Res ax (aw):=Res.fin (ν:=aE) (β:=aE) (
(Res.bind (Res.up (Ax fw cj eB fu fS)) λiQ=>(Res.bind (zY iQ (0:Int)) λfV=>(Res.bind (Res.bind (zY iQ (1:Int)) λK6=>(Res.ok K6)) λia=>(Res.bind (eqQ (zV.to (val (a_ eD)) ia) (zV.to (zd zp) [(⟨"exit",by decide +kernel⟩:ao)])) λAI=>(Res.seq ((Res.bind (Res.nox (δ:=ax) (Res.ok (!decide (fW=([]:List Int))))) λTo=>(aL To
((Res.bind (zY fW (0:Int)) λhM=>Res.ok (PF.nx (PyData.list [zV.to zp (⟨"outcome",by decide +kernel⟩:ao),zV.to zg hM]))))
((Res.bind (Res.nox (δ:=ax) (Res.bind (Res.bind (iH (zV.to (val (a_ eD)) ia) (PyData.list [])) λtx=>(Res.ok tx)) λnT=>(aL nT (Res.bind (iH (zV.to (val (a_ eD)) ia) (zV.to (zd zp) [(⟨"exit",by decide +kernel⟩:ao)])) λhQ=>(Res.ok hQ)) (Res.ok ak)))) λTp=>(aL Tp
(Res.ok (PF.nx (zV.to (val (a_ eD)) ia)))
(Res.ok (PF.nx (PyData.list [zV.to zp (⟨"run",by decide +kernel⟩:ao),zV.to (val (a_ eD)) fV,zV.to z8 AI])))))))))
λ(nW:(bF))=>
(Res.seq ((Res.bind (Res.nox (δ:=ax) (Res.bind (eqQ (zV.to (val (a_ eD)) ia) (zV.to (zd zp) [(⟨"exit",by decide +kernel⟩:ao)])) λAF=>(Res.ok AF))) λAG=>(aL AG
(Res.ok (PF.nx ([]:List Dt)))
(Res.ok (PF.nx ia)))))
λ(nX:((List Dt)))=>
(Res.seq (jW (λVF (Tq:ax)=>
(Res.bind (Res.nox (δ:=ax) (Res.bind (Res.bind (Res.bind (Res.on (Zt cz cj) λ_=>()) λt31=>(iH t31 nW)) λt32=>(Res.ok t32)) λAp=>(aL Ap (Res.ok aj) (aL (!decide (cj=cj)) (Res.ok aj) (Res.bind (Res.bind (Res.bind (Res.on (AH cz cj) λ_=>()) λAn=>(Res.bind (Res.bind (f6 (fits (wA [fV]) && fits (wA nX))) λ_=>Q9 (kg Sum.inl [fV]) (kg Sum.inr nX)) λAo=>(iH An (zV.to (zd (val (y8 (a_ eD) eD))) Ao)))) λAm=>(Res.ok Am)) λAk=>(aL Ak (Res.ok aj) (Res.ok (!decide (cj=cj))))))))) λTs=>(aL Ts
(Res.ok (PF.rt ak))
(Res.ok (PF.nx ()))))) (mI 0 (2:Int)) ())
λ(_:ax)=>
(Res.bind (Res.nox (δ:=ax) (aL (decide (fW=([]:List Int))) (aL (decide ((0:Int)<(cj.length:Int))) (Res.bind (Res.bind (zY fw eB) λAr=>(Res.bind (zY cj (0:Int)) λt42=>(zY Ar t42))) λt43=>(Res.ok (iN t43))) (Res.ok ak)) (Res.ok ak))) λTt=>(aL Tt
((Res.bind (Res.bind (zY fw eB) λt45=>(Res.bind (zY cj (0:Int)) λt46=>(zY t45 t46))) λwO=>(Res.bind (zY fu eB) λK7=>(Res.bind (zY cj (0:Int)) λK8=>(Res.bind (Res.on (Qd cz K7 K8) λx51=>()) λhT=>(Res.bind (Res.bind (Res.bind (Res.bind (ck wO) λt52=>(Res.ok t52.1)) λt53=>(zY fS t53)) λt64=>(Res.bind (Res.bind (Res.bind (Res.bind (ck wO) λt54=>(Res.ok t54.2)) λt55=>(Res.ok (decide ((0:Int)<=t55)))) λt63=>(aL t63 (Res.bind (Res.bind (Res.bind (ck wO) λt60=>(Res.ok t60.2)) λt61=>(zY fu t61)) λt62=>(Res.ok (ah t62))) (Res.ok (ai:au ao)))) λt65=>(Res.ok (t64,t65)))) λTu=>Res.ok (PF.rt (decide (hT=Tu)))))))))
(Res.ok (PF.rt aj)))))))))))) (λz=>nomatch z)
theorem Tv(cz:aH) (fw:(List (List (au (Int×Int))))) (cj:(List Int)) (eB:Int) (fW:(List Int)) (fu:(List ao)) (fS:(List ao)):FX DU [own (Sh 0 zx) cz,own (Sh 0 (zd (zd (val (zE (aB zm zm)))))) fw,own (Sh 0 (zd zg)) cj,own zg eB,own (Sh 0 (zd zg)) fW,own (Sh 0 (zd zp)) fu,own (Sh 0 (zd zp)) fS] (vS cz fw cj eB fW fu fS) [] (λ(t:aw)=>(own z8 t,[])) (λ(_:ax)=>[]):=by
 unfold DU uq vS;refine jU (n:=14) (k:=7) (A:=[own (Sh 0 zx) cz,own (Sh 0 (zd (zd (val (zE (aB zm zm)))))) fw,own (Sh 0 (zd zg)) cj,own zg eB,own (Sh 0 (zd zg)) fW,own (Sh 0 (zd zp)) fu,own (Sh 0 (zd zp)) fS]) (N:=λz:aE=>nomatch z) (E:=λ(_:ax)=>[SA.any,SA.any,SA.any,SA.any,SA.any,SA.any,SA.any,SA.any,SA.any,SA.any,SA.any,SA.any,SA.any,SA.any]) (post:=λ(t:aw)=>(own z8 t,[])) (pe:=λ(_:ax)=>[]) rfl (by decide) (zT (qR (zi (j5 rfl (zi (j5 rfl (zi (zo (v:=eB) (av.eq (zh rfl) rfl) (zi (j5 rfl (zi (j5 rfl (zu (qd (zjp fw cj eB fu fS) (.cons (Zy rfl) (.cons (Zy rfl) (.cons (zN rfl) (.cons (Zy rfl) (.cons (Zy rfl) .nil))))) (λ_=>qz rfl) (λ_=>.nil) (λiQ=>?_))))))))))))))) (λz=>nomatch z) (λx=>.nil);change SX _ _ [own (Sh 0 zx) cz,own (Sh 0 (zd (zd (val (zE (aB zm zm)))))) fw,own (Sh 0 (zd zg)) cj,own zg eB,own (Sh 0 (zd zg)) fW,own (Sh 0 (zd zp)) fu,own (Sh 0 (zd zp)) fS,own (zd (val (a_ eD))) iQ,SA.any,SA.any,SA.any,SA.any,SA.any,SA.any] _ _;refine qJ 7 rfl (λw9=>zT ?_);refine q8 (av.eq (zy qU (zZ rfl) zF) (by first|with_reducible rfl|(simp only[z9,zA,zH,zI,qa,zD,zJ,zK,qb];done)|rfl)) (λfV=>?_);change SX _ _ [own (Sh 0 zx) cz,own (Sh 0 (zd (zd (val (zE (aB zm zm)))))) fw,own (Sh 0 (zd zg)) cj,own zg eB,own (Sh 0 (zd zg)) fW,own (Sh 0 (zd zp)) fu,own (Sh 0 (zd zp)) fS,pin (zd (val (a_ eD))) iQ w9,own (val (a_ eD)) fV,SA.any,SA.any,SA.any,SA.any,SA.any] _ _;refine zT ?_;refine q8 (av.eq (zpa (zy qU (zZ rfl) zF)) (by first|with_reducible rfl|(simp only[z9,zA,zH,zI,qa,zD,zJ,zK,qb];done)|rfl)) (λia=>?_);change SX _ _ [own (Sh 0 zx) cz,own (Sh 0 (zd (zd (val (zE (aB zm zm)))))) fw,own (Sh 0 (zd zg)) cj,own zg eB,own (Sh 0 (zd zg)) fW,own (Sh 0 (zd zp)) fu,own (Sh 0 (zd zp)) fS,pin (zd (val (a_ eD))) iQ w9,own (val (a_ eD)) fV,own (val (a_ eD)) ia,SA.any,SA.any,SA.any,SA.any] _ _;refine zT (vF (zi (zo (v:=(⟨"run",by decide +kernel⟩:ao)) (av.eq (jX (by decide +kernel)) rfl) (zi (zo (v:=fV) (av.eq (zh rfl) rfl) (zi (qT (zo (v:=ia) (av.eq (zh rfl) rfl) (jR (α:=ao) (zi (zo (v:=(⟨"exit",by decide +kernel⟩:ao)) (av.eq (jX (by decide +kernel)) rfl) (zu ⟨[(⟨"exit",by decide +kernel⟩:ao)],zp,(.cons SA.r .nil),rfl,rfl,zo2 (r1:=(val (a_ eD))) (r2:=(zd zp)) qY qY rfl (λAI=>zu ⟨[zV.to zp (⟨"run",by decide +kernel⟩:ao),zV.to (val (a_ eD)) fV,zV.to z8 AI],(.cons (r1:=zp) rfl inferInstance rfl (.cons (r1:=(val (a_ eD))) rfl inferInstance rfl (.cons (r1:=z8) rfl inferInstance rfl .nil))),rfl,?_⟩)⟩))))))))))))
 change SX _ _ [own (Sh 0 zx) cz,own (Sh 0 (zd (zd (val (zE (aB zm zm)))))) fw,own (Sh 0 (zd zg)) cj,own zg eB,own (Sh 0 (zd zg)) fW,own (Sh 0 (zd zp)) fu,own (Sh 0 (zd zp)) fS,pin (zd (val (a_ eD))) iQ w9,own (val (a_ eD)) fV,own (val (a_ eD)) ia,own Jp (PyData.list [zV.to zp (⟨"run",by decide +kernel⟩:ao),zV.to (val (a_ eD)) fV,zV.to z8 AI]),SA.any,SA.any,SA.any] _ _
 refine jF (N1:=(λ(nW:(bF))=>[own (Sh 0 zx) cz,own (Sh 0 (zd (zd (val (zE (aB zm zm)))))) fw,own (Sh 0 (zd zg)) cj,own zg eB,own (Sh 0 (zd zg)) fW,own (Sh 0 (zd zp)) fu,own (Sh 0 (zd zp)) fS,pin (zd (val (a_ eD))) iQ w9,own (val (a_ eD)) fV,own (val (a_ eD)) ia,own Jp nW,SA.any,SA.any,SA.any])) ?_ ?_
 ·refine ZK ?_
  refine vC (PB.eq (JV (sY (Df rfl rfl) (Jc (vt rfl (vq rfl))) (y3 (f:=zm) (λ(v:ax)=>([]:List Int)) (λv=>⟨rfl,rfl⟩) y0))) rfl) (λTo=>⟨_,_,rfl,?_,?_⟩)
  ·refine jB ?_
   refine zT (vF (zi (zo (v:=(⟨"outcome",by decide +kernel⟩:ao)) (av.eq (jX (by decide +kernel)) rfl) (zi ?_))))
   exact q8 (av.eq (zy qU (z7 (zh rfl)) zF) (by first|with_reducible rfl|(simp only[z9,zA,zH,zI,qa,zD,zJ,zK,qb];done)|rfl)) (λhM=>zu ⟨[zV.to zp (⟨"outcome",by decide +kernel⟩:ao),zV.to zg hM],(.cons (r1:=zp) rfl inferInstance rfl (.cons (r1:=zg) rfl inferInstance rfl .nil)),rfl,zR (s:=(PyData.list [zV.to zp (⟨"outcome",by decide +kernel⟩:ao),zV.to zg hM])) (Le.cons SA.r (Le.cons SA.r (Le.cons SA.r (Le.cons SA.r (Le.cons SA.r (Le.cons SA.r (Le.cons SA.r (Le.cons SA.r (Le.cons SA.r (Le.cons SA.r (Le.cons SA.r (Le.cons SA.y (Le.cons SA.y (Le.cons SA.y Le.nil))))))))))))))⟩)
  ·refine ZK ?_
   refine vC (PB.eq (Kj (JV (sY (DG rfl) (Qw (zh rfl)) (vE rfl vD))) (JV (sY (DG rfl) (Qw (zh rfl)) (y3 (f:=zC) (λ(v:ao×ax)=>[v.1]) (λv=>⟨rfl,rfl⟩) (Kn (Qw (jX (by decide +kernel))) y0))))) (by first|with_reducible rfl|(simp only[z9,zA,zH,zI,qa,zD,zJ,zK,qb];done)|rfl)) (λTp=>⟨_,_,rfl,?_,?_⟩)
   ·refine jB ?_
    exact zT (zo (v:=ia) (av.eq (zh rfl) rfl) (zR (s:=(zV.to (val (a_ eD)) ia)) (Le.cons SA.r (Le.cons SA.r (Le.cons SA.r (Le.cons SA.r (Le.cons SA.r (Le.cons SA.r (Le.cons SA.r (Le.cons SA.r (Le.cons SA.r (Le.cons SA.r (Le.cons (QE (zo0 (r:=(val (a_ eD))) rfl rfl)) (Le.cons SA.y (Le.cons SA.y (Le.cons SA.y Le.nil))))))))))))))))
   ·exact zR (s:=(PyData.list [zV.to zp (⟨"run",by decide +kernel⟩:ao),zV.to (val (a_ eD)) fV,zV.to z8 AI])) (Le.cons SA.r (Le.cons SA.r (Le.cons SA.r (Le.cons SA.r (Le.cons SA.r (Le.cons SA.r (Le.cons SA.r (Le.cons SA.r (Le.cons SA.r (Le.cons SA.r (Le.cons SA.r (Le.cons SA.y (Le.cons SA.y (Le.cons SA.y Le.nil))))))))))))))
 intro nW;refine jF (N1:=(λ(nX:((List Dt)))=>[own (Sh 0 zx) cz,own (Sh 0 (zd (zd (val (zE (aB zm zm)))))) fw,own (Sh 0 (zd zg)) cj,own zg eB,own (Sh 0 (zd zg)) fW,own (Sh 0 (zd zp)) fu,own (Sh 0 (zd zp)) fS,pin (zd (val (a_ eD))) iQ w9,own (val (a_ eD)) fV,own (val (a_ eD)) nX,own Jp nW,SA.any,SA.any,SA.any])) ?_ ?_
 ·refine ZK ?_
  refine vC (PB.eq (JV (sY (zo1 rfl) (Qw (zh rfl)) (y3 (f:=zC) (λ(v:ao×ax)=>[v.1]) (λv=>⟨rfl,rfl⟩) (Kn (Qw (jX (by decide +kernel))) y0)))) (by first|with_reducible rfl|(simp only[z9,zA,zH,zI,qa,zD,zJ,zK,qb];done)|rfl)) (λAG=>⟨_,_,rfl,?_,?_⟩)
  ·refine jB ?_
   exact zT (JX (jR (α:=Dt) (zu ⟨([]:List Dt),(val eD),.nil,rfl,rfl,⟨_,_,_,rfl,zR (s:=([]:List Dt)) (Le.cons SA.r (Le.cons SA.r (Le.cons SA.r (Le.cons SA.r (Le.cons SA.r (Le.cons SA.r (Le.cons SA.r (Le.cons SA.r (Le.cons SA.r (Le.cons SA.r (Le.cons SA.r (Le.cons SA.y (Le.cons SA.y (Le.cons SA.y Le.nil))))))))))))))⟩⟩)))
  ·exact zR (s:=ia) (Le.cons SA.r (Le.cons SA.r (Le.cons SA.r (Le.cons SA.r (Le.cons SA.r (Le.cons SA.r (Le.cons SA.r (Le.cons SA.r (Le.cons SA.r (Le.cons SA.r (Le.cons SA.r (Le.cons SA.y (Le.cons SA.y (Le.cons SA.y Le.nil))))))))))))))
 intro nX;refine zT (qR (zi (j5 rfl (zu (zm4 sN ?_)))));change SX _ _ [own (Sh 0 zx) cz,own (Sh 0 (zd (zd (val (zE (aB zm zm)))))) fw,own (Sh 0 (zd zg)) cj,own zg eB,own (Sh 0 (zd zg)) fW,own (Sh 0 (zd zp)) fu,own (Sh 0 (zd zp)) fS,pin (zd (val (a_ eD))) iQ w9,own (val (a_ eD)) fV,own (val (a_ eD)) nX,own Jp nW,own (zd zg) cj,SA.any,SA.any] _ _;refine jF (N1:=(λ_:ax=>[own (Sh 0 zx) cz,own (Sh 0 (zd (zd (val (zE (aB zm zm)))))) fw,own (Sh 0 (zd zg)) cj,own zg eB,own (Sh 0 (zd zg)) fW,own (Sh 0 (zd zp)) fu,own (Sh 0 (zd zp)) fS,pin (zd (val (a_ eD))) iQ w9,own (val (a_ eD)) fV,own (val (a_ eD)) nX,own Jp nW,own (zd zg) cj,SA.any,SA.any])) ?_ ?_
 ·refine Q7 ?_
  refine zkS (n:=(2:Int)) rfl zF (by decide) (lD (xs:=(mI 0 (2:Int))) (s0:=()) (zg) (λ(Tq:ax)=>[own (Sh 0 zx) cz,own (Sh 0 (zd (zd (val (zE (aB zm zm)))))) fw,own (Sh 0 (zd zg)) cj,own zg eB,own (Sh 0 (zd zg)) fW,own (Sh 0 (zd zp)) fu,own (Sh 0 (zd zp)) fS,pin (zd (val (a_ eD))) iQ w9,own (val (a_ eD)) fV,own (val (a_ eD)) nX,own Jp nW,own (zd zg) cj,SA.any,SA.any]) rfl ZQ (by decide) (Le.cons SA.r (Le.cons SA.r (Le.cons SA.r (Le.cons SA.r (Le.cons SA.r (Le.cons SA.r (Le.cons SA.r (Le.cons SA.r (Le.cons SA.r (Le.cons SA.r (Le.cons SA.r (Le.cons SA.r (Le.cons SA.y (Le.cons SA.y Le.nil)))))))))))))) (λ_=>rfl) (λ_=>rfl) (λ_=>Le.refl) ?_);intro VF Tq;refine jV (qJ 10 rfl (λw27=>qJ 11 rfl (λf7=>ZK ?_)));refine vC (PB.eq (Kk (JV (sY (DG rfl) (DJ (ZM (Jc (vt rfl (vq rfl))) (λa29=>(ZM (Jc (JU rfl)) (λa30=>(yX (zjq a29 a30))))))) (Jc (JU rfl)))) (Kk (DH (qm (zy (Df rfl rfl) (zZ rfl) (z7 (zh rfl))))) (Kk (JV (sY (DG rfl) (DJ (ZM (Jc (vt rfl (vq rfl))) (λa33=>(ZM (Jc (JU rfl)) (λa34=>(yX (zjr a33 a34))))))) (znj (y3 (f:=(a_ eD)) (λ(v:(List Dt)×ax)=>[v.1]) (λv=>⟨rfl,rfl⟩) (Kn (Qw (zh rfl)) y0)) (Qw (zh rfl))))) (DH (qm (zy (Df rfl rfl) (zZ rfl) (z7 (zh rfl)))))))) (by first|with_reducible rfl|(simp only[z9,zA,zH,zI,qa,zD,zJ,zK,qb];done)|rfl)) (λTs=>⟨_,_,rfl,?_,?_⟩)
  ·refine jC ?_
   exact zo (v:=ak) (av.eq vd rfl) ⟨_,rfl,⟨SA.r,aF _⟩,.nil⟩
  ·exact zR (s:=()) (Le.cons SA.r (Le.cons SA.r (Le.cons SA.r (Le.cons SA.r (Le.cons SA.r (Le.cons SA.r (Le.cons SA.r (Le.cons SA.r (Le.cons SA.r (Le.cons SA.r (Le.cons SA.da (Le.cons SA.da (Le.cons SA.y (Le.cons SA.y Le.nil))))))))))))))
 intro _;refine j8 ?_;refine vC (PB.eq (Kj (JV (sY (Pm rfl rfl) (Jc (vt rfl (vq rfl))) (y3 (f:=zm) (λ(v:ax)=>([]:List Int)) (λv=>⟨rfl,rfl⟩) y0))) (Kj (DH (qm (zy De (Zp ZR (z7 (zh rfl))) zF))) (DH (qm (zy yJ (zy qU (zy qU (z7 (zh rfl)) (zh rfl)) (zy qU (z7 (zh rfl)) zF)) JR))))) (by first|with_reducible rfl|(simp only[z9,zA,zH,zI,qa,zD,zJ,zK,qb];done)|rfl)) (λTt=>⟨_,_,rfl,?_,?_⟩)
 ·refine Kc ?_
  refine zT ?_;refine q8 (av.eq (zy qU (zy qU (z7 (zh rfl)) (zh rfl)) (zy qU (z7 (zh rfl)) zF)) (by first|with_reducible rfl|(simp only[z9,zA,zH,zI,qa,zD,zJ,zK,qb];done)|rfl)) (λwO=>?_);change SX _ _ [own (Sh 0 zx) cz,own (Sh 0 (zd (zd (val (zE (aB zm zm)))))) fw,own (Sh 0 (zd zg)) cj,own zg eB,own (Sh 0 (zd zg)) fW,own (Sh 0 (zd zp)) fu,own (Sh 0 (zd zp)) fS,pin (zd (val (a_ eD))) iQ w9,own (val (a_ eD)) fV,own (val (a_ eD)) nX,own Jp nW,own (zd zg) cj,SA.any,own (val (zE (aB zm zm))) wO] _ _;refine QN (qT (Ds (F:=jm) 0 rfl (j5 rfl ⟨(JT sN),zi ?_⟩)));refine q8 (av.eq (zy qU (z7 (zh rfl)) (zh rfl)) (by first|with_reducible rfl|(simp only[z9,zA,zH,zI,qa,zD,zJ,zK,qb];done)|rfl)) (λK7=>zi ?_);refine q8 (av.eq (zy qU (z7 (zh rfl)) zF) (by first|with_reducible rfl|(simp only[z9,zA,zH,zI,qa,zD,zJ,zK,qb];done)|rfl)) (λK8=>zu (jL (zdY cz K7 K8) (.cons (Zy rfl) (.cons (zN rfl) (.cons (zN rfl) .nil))) (λ_=>qz rfl) (λ_=>.nil) (λx51=>⟨_,.nil,(Le.cons SA.y (Le.cons SA.y (Le.cons SA.y (Le.cons SA.y (Le.cons SA.y (Le.cons SA.y (Le.cons SA.y (Le.cons SA.y (Le.cons SA.y (Le.cons SA.y (Le.cons SA.y (Le.cons SA.y (Le.cons SA.y (Le.cons SA.y Le.nil))))))))))))))⟩) (λhT=>?_)));exact q8 (av.eq (Z8 (f:=(aB zC (zE zC))) (λ(v:ao×(au ao)×ax)=>(v.1,v.2.1)) (λv=>⟨rfl,rfl⟩) (qt (zy qU (z7 (zh rfl)) (JC (h:=λ(v:(Int×Int))=>v.1) (λv=>⟨_,_,rfl,rfl,rfl⟩) (ZF (zh rfl)))) (qt (P4 (qm (zy yI (JC (h:=λ(v:(Int×Int))=>v.2) (λv=>⟨_,_,rfl,rfl,rfl⟩) (ZF (zh rfl))) zF)) (Ph (zy qU (z7 (zh rfl)) (JC (h:=λ(v:(Int×Int))=>v.2) (λv=>⟨_,_,rfl,rfl,rfl⟩) (ZF (zh rfl))))) (Pj (f:=zC))) Z7))) (by first|with_reducible rfl|(simp only[z9,zA,zH,zI,qa,zD,zJ,zK,qb];done)|rfl)) (λTu=>IF qY qY rfl rfl ⟨_,rfl,⟨SA.r,aF _⟩,.nil⟩)
 ·refine jG ?_
  exact jC (zo (v:=aj) (av.eq vd rfl) ⟨_,rfl,⟨SA.r,aF _⟩,.nil⟩)
noncomputable def DY(cg:(List Int)):Res ax (aw):=Res.fin (ν:=aE) (β:=aE) (
(Res.bind (f6 (fits cg.length)) λ_=>(Res.bind (Res.up (vO ((cg,(0:Int),(0:Int),(0:Int)):qq) (6:Int) (18:Int))) λl6=>(Res.bind (Res.bind (zY l6.1 (0:Int)) λt5=>(Res.ok (t5.length:Int))) λbN=>(Res.seq ((Res.bind (Res.up (qo l6.2 (3:Int))) λv8=>(Res.bind (rng 0 v8.1) λK9=>jW (λwQ (bZ:(qq×(List (List (au (Int×Int))))))=>
(Res.bind (Res.up (qo bZ.1 (bZ.2.length:Int))) λb6=>(Res.bind (Res.up (qo b6.2 bN)) λfT=>(Res.bind (Res.bind (zY bZ.2 b6.1) λe_=>(Res.ok (Qe e_ ai (ah fT.1)))) λoI=>(Res.bind (Q9 oI [ai]) λoJ=>(Res.bind (Res.bind (zY bZ.2 b6.1) λhQ=>(Res.ok (Qe hQ (ah (fT.1+(1:Int))) ai))) λoK=>(Res.bind (Q9 oJ oK) λoM=>(Res.bind (nN bZ.2 b6.1 oM) λhG=>Res.ok (PF.nx (fT.2,hG)))))))))) K9 (v8.2,(kg (λx=>(kg (λx=>(ah x)) x)) l6.1)))))
λ(s7:(qq×(List (List (au (Int×Int))))))=>
(Res.bind (Res.up (J0 s7.1 (s7.2.length:Int))) λcE=>(Res.bind (Res.up (J0 cE.2 (4:Int))) λcL=>(Res.bind (Res.on (Aj s7.2 cE.1 cL.1) λx26=>()) λuh=>(Res.bind (Res.up (Au s7.2)) λcP=>(Res.bind (Res.up (qo cL.2 (cP.length:Int))) λvT=>(Res.bind (zY cP vT.1) λdX=>(Res.bind (zY cE.1 dX) λK_=>(Res.bind (Res.on (jY uh K_) λx34=>()) λf9=>(Res.bind (Res.up (qo vT.2 (41:Int))) λDZ=>(Res.bind (rng 0 DZ.1) λF_=>(Res.bind (f6 (fits F_.length)) λ_=>(Res.bind (Res.up (nM (λur lO=>(Res.bind (Res.up (qo lO bN)) λvU=>Res.ok (vU.1,vU.2))) F_ DZ.2)) λpR=>(Res.seq ((Res.bind (Res.up (qo pR.2 (8:Int))) λkP=>(aL (decide (kP.1=(1:Int)))
((Res.bind (y6 pR.1 (25:Int)) λBP=>(Res.bind (Res.ok (Qe BP ai (ah (998:Int)))) λwY=>Res.ok (PF.nx (kP.2,wY)))))
(Res.ok (PF.nx (kP.2,pR.1))))))
λ(ff:(qq×(List Int)))=>
(Res.seq ((Res.bind (Res.up (qo ff.1 (4:Int))) λvV=>(aL (decide (vV.1=(1:Int)))
((Res.bind (Res.up (qo vV.2 ((ff.2.length:Int)+(1:Int)))) λhY=>(Res.bind (Res.up (qo hY.2 (1000:Int))) λhT=>(Res.bind (Res.up (qo hT.2 (2:Int))) λpS=>(Res.bind (nG (bN+(1000:Int)) pS.1) λnY=>(Res.bind (Res.ok (Qe ff.2 ai (ah hY.1))) λBQ=>(Res.bind (Q9 BQ [((bN+hT.1) - nY)]) λBR=>(Res.bind (Res.ok (Qe ff.2 (ah hY.1) ai)) λBS=>(Res.bind (Q9 BR BS) λBU=>(Res.bind (Q9 BU [bN]) λwZ=>Res.ok (PF.nx (pS.2,wZ,[((bN+hT.1) - nY)]))))))))))))
(Res.ok (PF.nx (vV.2,ff.2,([]:List Int)))))))
λ(dE:(qq×(List Int)×(List Int)))=>
(Res.bind (Res.on (Res.bind (Res.bind (Res.on (vS f9.2 s7.2 dE.2.1 dX dE.2.2 cE.1 cL.1) λ_=>()) λt68=>(Res.ok t68)) λt69=>(Res.ok (!t69))) λ_=>()) λTw=>(aL Tw
(Res.ok (PF.rt ak))
((Res.bind (Res.up (qo dE.1 (cP.length:Int))) λAJ=>(Res.bind (zY cP AJ.1) λka=>(Res.bind (Res.up (qo AJ.2 bN)) λiR=>(Res.bind (Res.up (qo iR.2 (4:Int))) λkQ=>(Res.bind (Res.up (qo kQ.2 (cP.length:Int))) λAK=>(Res.bind (zY cP AK.1) λmP=>(Res.bind (Res.bind (zY s7.2 ka) λt78=>(Res.ok (Qe t78 ai (ah iR.1)))) λMH=>(Res.bind (Q9 MH [(ah (kQ.1,mP))]) λMI=>(Res.bind (Res.bind (zY s7.2 ka) λt81=>(Res.ok (Qe t81 (ah (iR.1+(1:Int))) ai))) λMJ=>(Res.bind (Q9 MI MJ) λMK=>(Res.bind (nN s7.2 ka MK) λAL=>(Res.bind (Res.bind (zY cL.1 (kQ.1,mP).1) λt84=>(Res.bind (zY cE.1 (kQ.1,mP).2) λt85=>(Res.ok (t84,t85)))) λAN=>(Res.bind (Res.bind (zY cE.1 ka) λt87=>(Res.ok (t87,iR.1))) λLa=>(Res.bind (Res.on (q9 f9.2 La (AN.1,(ah AN.2))) λx90=>()) λD0=>(Res.bind (Res.on (vS D0.2 AL dE.2.1 dX dE.2.2 cE.1 cL.1) λx92=>()) λTx=>Res.ok (PF.rt Tx)))))))))))))))))))))))))))))))))))))) (λz=>nomatch z)
theorem zpw(cg:(List Int)):FX S7 [own ZT cg] (DY cg) [] (λ(t:aw)=>(own z8 t,[])) (λ(_:ax)=>[]):=by
 unfold S7 rE DY;refine jU (n:=15) (k:=1) (A:=[own ZT cg]) (N:=λz:aE=>nomatch z) (E:=λ(_:ax)=>[SA.any,SA.any,SA.any,SA.any,SA.any,SA.any,SA.any,SA.any,SA.any,SA.any,SA.any,SA.any,SA.any,SA.any,SA.any]) (post:=λ(t:aw)=>(own z8 t,[])) (pe:=λ(_:ax)=>[]) rfl (by decide) (zT (zoU (n:=0) (L:=λv:qq=>[own (zd zg) v.1,own zg v.2.1,own zg v.2.2.1,own zg v.2.2.2]) (zi (qR (zi (zo (v:=cg) (av.eq (zh rfl) rfl) (zu (zgW (zi (zo (v:=(0:Int)) (av.eq zF rfl) (zi (zo (v:=(0:Int)) (av.eq zF rfl) (zi (zo (v:=(0:Int)) (av.eq zF rfl) (zu ⟨(cg,(0:Int),(0:Int),(0:Int)),(.cons SA.r (.cons SA.r (.cons SA.r (.cons SA.r .nil)))),rfl,bC _,aF _,?_⟩))))))))))))))) (λz=>nomatch z) (λx=>.nil);change SX _ _ [own ZT cg,own qp ((cg,(0:Int),(0:Int),(0:Int)):qq),SA.any,SA.any,SA.any,SA.any,SA.any,SA.any,SA.any,SA.any,SA.any,SA.any,SA.any,SA.any,SA.any] _ _;refine qJ 1 rfl (λw2=>zT (qR (zi (zQ rfl (zi (zo (v:=(6:Int)) (av.eq zF rfl) (zi (zo (v:=(18:Int)) (av.eq zF rfl) (zu (qd (znB ((cg,(0:Int),(0:Int),(0:Int)):qq) w2 (6:Int) (18:Int)) (.cons (zN rfl) (.cons (zN rfl) (.cons (zN rfl) .nil))) (λ_=>qz rfl) (λ_=>(.cons 1 rfl rfl (aF _) .nil)) (λl6=>?_)))))))))));change SX _ _ [own ZT cg,pin qp l6.2 w2,own (zd (zd (val (aB zm zm)))) l6.1,SA.any,SA.any,SA.any,SA.any,SA.any,SA.any,SA.any,SA.any,SA.any,SA.any,SA.any,SA.any] _ _;refine qJ 2 rfl (λw4=>zT ?_);refine q8 (av.eq (Zp ZR (zy qU (zZ rfl) zF)) (by first|with_reducible rfl|(simp only[z9,zA,zH,zI,qa,zD,zJ,zK,qb];done)|rfl)) (λbN=>?_);change SX _ _ [own ZT cg,pin qp l6.2 w2,pin (zd (zd (val (aB zm zm)))) l6.1 w4,own zg bN,SA.any,SA.any,SA.any,SA.any,SA.any,SA.any,SA.any,SA.any,SA.any,SA.any,SA.any] _ _;refine jF (N1:=(λ(s7:(qq×(List (List (au (Int×Int))))))=>[own ZT cg,pin qp s7.1 w2,pin (zd (zd (val (zE (aB zm zm))))) s7.2 w4,own zg bN,SA.any,SA.any,SA.any,SA.any,SA.any,SA.any,SA.any,SA.any,SA.any,SA.any,SA.any])) ?_ ?_
 ·refine Q7 ?_
  refine Rq (zi (qR (zi (zQ rfl (zi (zo (v:=(3:Int)) (av.eq zF rfl) (zu (qd (je l6.2 w2 (3:Int)) (.cons (zN rfl) (.cons (zN rfl) .nil)) (λ_=>qz rfl) (λ_=>(.cons 1 rfl rfl (aF _) .nil)) (λv8=>zu ⟨_,_,rfl,rfl,λK9=>lD (xs:=K9) (s0:=(v8.2,(kg (λx=>(kg (λx=>(ah x)) x)) l6.1))) (zg) (λ(bZ:(qq×(List (List (au (Int×Int))))))=>[own ZT cg,pin qp bZ.1 w2,pin (zd (zd (val (zE (aB zm zm))))) bZ.2 w4,own zg bN,SA.any,SA.any,SA.any,SA.any,SA.any,SA.any,SA.any,SA.any,SA.any,SA.any,SA.any]) rfl ZQ (by decide) (Le.cons SA.r (Le.cons SA.r (Le.cons (zoY (Rt (Rt (QD (fa:=(aB zm zm)) (fb:=(zE (aB zm zm))) (f:=λx=>(ah x)) λ_=>rfl)))) (Le.cons SA.r (Le.cons SA.y (Le.cons SA.y (Le.cons SA.y (Le.cons SA.y (Le.cons SA.y (Le.cons SA.y (Le.cons SA.y (Le.cons SA.y (Le.cons SA.y (Le.cons SA.y (Le.cons SA.y Le.nil))))))))))))))) (λ_=>rfl) (λ_=>rfl) (λ_=>Le.refl) ?_⟩)))))))));intro wQ bZ;refine jV (zT (qR (zi (zQ rfl (zi (zo (v:=(bZ.2.length:Int)) (av.eq (Zp ZR (zZ rfl)) rfl) (zu (qd (je bZ.1 w2 (bZ.2.length:Int)) (.cons (zN rfl) (.cons (zN rfl) .nil)) (λ_=>qz rfl) (λ_=>(.cons 1 rfl rfl (aF _) .nil)) (λb6=>?_)))))))));change SX _ _ [own ZT cg,pin qp b6.2 w2,pin (zd (zd (val (zE (aB zm zm))))) bZ.2 w4,own zg bN,own zg wQ,own zg b6.1,SA.any,SA.any,SA.any,SA.any,SA.any,SA.any,SA.any,SA.any,SA.any] _ _;refine zT (qR (zi (zQ rfl (zi (zo (v:=bN) (av.eq (zh rfl) rfl) (zu (qd (je b6.2 w2 bN) (.cons (zN rfl) (.cons (zN rfl) .nil)) (λ_=>qz rfl) (λ_=>(.cons 1 rfl rfl (aF _) .nil)) (λfT=>?_))))))));change SX _ _ [own ZT cg,pin qp fT.2 w2,pin (zd (zd (val (zE (aB zm zm))))) bZ.2 w4,own zg bN,own zg wQ,own zg b6.1,own zg fT.1,SA.any,SA.any,SA.any,SA.any,SA.any,SA.any,SA.any,SA.any] _ _;refine jB (Jw (qT (qT ?_)));refine QV (pa:=(zY bZ.2 b6.1)) (pl:=(Res.ok ai)) (ph:=(Res.ok (ah fT.1))) (av.eq (zy qU (zZ rfl) (zh rfl)) (by first|with_reducible rfl|(simp only[z9,zA,zH,zI,qa,zD,zJ,zK,qb];done)|rfl)) (dD.eq po_none rfl) (dD.eq (po_some (zh rfl)) rfl) (λoI=>jR (α:=(au (Int×Int))) (zi (zo (v:=()) (av.eq JR rfl) (zu ⟨[ai],(val (zE (aB zm zm))),(.cons (QE (QD (fa:=(λ_:ax=>W.non)) (fb:=(zE (aB zm zm))) (f:=λx=>ai) λ_=>rfl)) .nil),rfl,rfl,sX qY qY (λoJ=>?_)⟩))));exact QV (pa:=(zY bZ.2 b6.1)) (pl:=(Res.ok (ah (fT.1+(1:Int))))) (ph:=(Res.ok ai)) (av.eq (zy qU (zZ rfl) (zh rfl)) (by first|with_reducible rfl|(simp only[z9,zA,zH,zI,qa,zD,zJ,zK,qb];done)|rfl)) (dD.eq (po_some (zy JS (zh rfl) zF)) rfl) (dD.eq po_none rfl) (λoK=>sX qY qY (λoM=>zQ rfl (zo (v:=b6.1) (av.eq (zh rfl) rfl) (Rc 2 rfl (λ_=>aF _) SA.r (λhG=>zR (s:=(fT.2,hG)) (Le.cons SA.r (Le.cons SA.r (Le.cons SA.r (Le.cons SA.r (Le.cons SA.y (Le.cons SA.y (Le.cons SA.y (Le.cons SA.y (Le.cons SA.y (Le.cons SA.y (Le.cons SA.y (Le.cons SA.y (Le.cons SA.y (Le.cons SA.y (Le.cons SA.y Le.nil))))))))))))))))))))
 intro s7;refine zT (qR (zi (zQ rfl (zi (zo (v:=(s7.2.length:Int)) (av.eq (Zp ZR (zZ rfl)) rfl) (zu (qd (S9 s7.1 w2 (s7.2.length:Int)) (.cons (zN rfl) (.cons (zN rfl) .nil)) (λ_=>qz rfl) (λ_=>(.cons 1 rfl rfl (aF _) .nil)) (λcE=>?_))))))));change SX _ _ [own ZT cg,pin qp cE.2 w2,pin (zd (zd (val (zE (aB zm zm))))) s7.2 w4,own zg bN,SA.any,SA.any,SA.any,own (zd zp) cE.1,SA.any,SA.any,SA.any,SA.any,SA.any,SA.any,SA.any] _ _;refine zT (qR (zi (zQ rfl (zi (zo (v:=(4:Int)) (av.eq zF rfl) (zu (qd (S9 cE.2 w2 (4:Int)) (.cons (zN rfl) (.cons (zN rfl) .nil)) (λ_=>qz rfl) (λ_=>(.cons 1 rfl rfl (aF _) .nil)) (λcL=>?_))))))));change SX _ _ [own ZT cg,pin qp cL.2 w2,pin (zd (zd (val (zE (aB zm zm))))) s7.2 w4,own zg bN,SA.any,SA.any,SA.any,own (zd zp) cE.1,own (zd zp) cL.1,SA.any,SA.any,SA.any,SA.any,SA.any,SA.any] _ _;refine qJ 7 rfl (λf_=>qJ 8 rfl (λfK=>zT (qR (zi (j7 rfl (zi (j7 rfl (zi (j7 rfl (zu (jL (znD s7.2 cE.1 cL.1) (.cons (ZJ 2 rfl rfl) (.cons (ZJ 7 rfl rfl) (.cons (ZJ 8 rfl rfl) .nil))) (λ_=>qz rfl) (λ_=>.nil) (λx26=>⟨_,.nil,(Le.cons SA.y (Le.cons SA.y (Le.cons SA.y (Le.cons SA.y (Le.cons SA.y (Le.cons SA.y (Le.cons SA.y (Le.cons SA.y (Le.cons SA.y (Le.cons SA.y (Le.cons SA.y (Le.cons SA.y (Le.cons SA.y (Le.cons SA.y (Le.cons SA.y Le.nil)))))))))))))))⟩) (λuh=>?_))))))))))));change SX _ _ [own ZT cg,pin qp cL.2 w2,pin (zd (zd (val (zE (aB zm zm))))) s7.2 w4,own zg bN,SA.any,SA.any,SA.any,pin (zd zp) cE.1 f_,pin (zd zp) cL.1 fK,own zx uh,SA.any,SA.any,SA.any,SA.any,SA.any] _ _;refine zT (qR (zi (j7 rfl (zu (qd (zlT s7.2) (.cons (ZJ 2 rfl rfl) .nil) (λ_=>qz rfl) (λ_=>.nil) (λcP=>?_))))));change SX _ _ [own ZT cg,pin qp cL.2 w2,pin (zd (zd (val (zE (aB zm zm))))) s7.2 w4,own zg bN,SA.any,SA.any,SA.any,pin (zd zp) cE.1 f_,pin (zd zp) cL.1 fK,own zx uh,own (zd zg) cP,SA.any,SA.any,SA.any,SA.any] _ _;refine qJ 10 rfl (λf7=>zT (qT (j7 rfl (qR (zi (zQ rfl (zi (zo (v:=(cP.length:Int)) (av.eq (Zp ZR (zZ rfl)) rfl) (zu (qd (je cL.2 w2 (cP.length:Int)) (.cons (zN rfl) (.cons (zN rfl) .nil)) (λ_=>qz rfl) (λ_=>(.cons 1 rfl rfl (aF _) .nil)) (λvT=>IG (yD 10 rfl) (λdX _=>?_))))))))))));change SX _ _ [own ZT cg,pin qp vT.2 w2,pin (zd (zd (val (zE (aB zm zm))))) s7.2 w4,own zg bN,SA.any,SA.any,SA.any,pin (zd zp) cE.1 f_,pin (zd zp) cL.1 fK,own zx uh,pin (zd zg) cP f7,own zg dX,SA.any,SA.any,SA.any] _ _;refine qJ 9 rfl (λgD=>j6 (Ds (F:=ZB) 0 rfl (zQ rfl ⟨Dr,zi ?_⟩)));refine q8 (av.eq (zy qU (zZ rfl) (zh rfl)) (by first|with_reducible rfl|(simp only[z9,zA,zH,zI,qa,zD,zJ,zK,qb];done)|rfl)) (λK_=>zu (jL (zbK uh gD K_) (.cons (zN rfl) (.cons (zN rfl) .nil)) (λ_=>qz rfl) (λ_=>(.cons 9 rfl rfl (aF _) .nil)) (λx34=>⟨_,(.cons 9 rfl rfl (aF _) .nil),(Le.cons SA.y (Le.cons SA.y (Le.cons SA.y (Le.cons SA.y (Le.cons SA.y (Le.cons SA.y (Le.cons SA.y (Le.cons SA.y (Le.cons SA.y (Le.cons SA.y (Le.cons SA.y (Le.cons SA.y (Le.cons SA.y (Le.cons SA.y (Le.cons SA.y Le.nil)))))))))))))))⟩) (λf9=>?_)));change SX _ _ [own ZT cg,pin qp vT.2 w2,pin (zd (zd (val (zE (aB zm zm))))) s7.2 w4,own zg bN,SA.any,SA.any,SA.any,pin (zd zp) cE.1 f_,pin (zd zp) cL.1 fK,pin zx f9.2 gD,pin (zd zg) cP f7,own zg dX,SA.any,SA.any,SA.any] _ _;refine zT (Di (Rq (zi (qR (zi (zQ rfl (zi (zo (v:=(41:Int)) (av.eq zF rfl) (zu (qd (je vT.2 w2 (41:Int)) (.cons (zN rfl) (.cons (zN rfl) .nil)) (λ_=>qz rfl) (λ_=>(.cons 1 rfl rfl (aF _) .nil)) (λDZ=>zu ⟨_,_,rfl,rfl,λF_=>Dl (λhf=>zf1 (s0:=DZ.2) (rb:=zg) (λlO=>[own ZT cg,pin qp lO w2,pin (zd (zd (val (zE (aB zm zm))))) s7.2 w4,own zg bN,SA.any,SA.any,SA.any,pin (zd zp) cE.1 f_,pin (zd zp) cL.1 fK,pin zx f9.2 gD,pin (zd zg) cP f7,own zg dX,SA.any,SA.any,SA.any]) rfl ZQ hf rfl (Le.cons SA.r (Le.cons SA.r (Le.cons SA.r (Le.cons SA.r (Le.cons SA.y (Le.cons SA.y (Le.cons SA.y (Le.cons SA.r (Le.cons SA.r (Le.cons SA.r (Le.cons SA.r (Le.cons SA.r (Le.cons SA.y (Le.cons SA.y (Le.cons SA.y Le.nil))))))))))))))) (λ_=>rfl) (Dh rfl) (λur lO=>[own ZT cg,pin qp lO w2,pin (zd (zd (val (zE (aB zm zm))))) s7.2 w4,own zg bN,own zg ur,SA.any,SA.any,pin (zd zp) cE.1 f_,pin (zd zp) cL.1 fK,pin zx f9.2 gD,pin (zd zg) cP f7,own zg dX,SA.any,SA.any,SA.any]) ?_ ?_ (λur lO=>(Le.cons SA.r (Le.cons SA.r (Le.cons SA.r (Le.cons SA.r (Le.cons SA.y (Le.cons SA.y (Le.cons SA.y (Le.cons SA.r (Le.cons SA.r (Le.cons SA.r (Le.cons SA.r (Le.cons SA.r (Le.cons SA.y (Le.cons SA.y (Le.cons SA.y Le.nil)))))))))))))))) (λpR=>?_))⟩)))))))))))
 ·intro ur lO
  refine jV ?_;rfl
 ·intro ur lO
  exact qR (zi (zQ rfl (zi (zo (v:=bN) (av.eq (zh rfl) rfl) (zu (qd (je lO w2 bN) (.cons (zN rfl) (.cons (zN rfl) .nil)) (λ_=>qz rfl) (λ_=>(.cons 1 rfl rfl (aF _) .nil)) (λvU=>⟨_,_,rfl,SA.r,(Le.cons SA.r (Le.cons SA.r (Le.cons SA.r (Le.cons SA.r (Le.cons SA.y (Le.cons SA.y (Le.cons SA.y (Le.cons SA.r (Le.cons SA.r (Le.cons SA.r (Le.cons SA.r (Le.cons SA.r (Le.cons SA.y (Le.cons SA.y (Le.cons SA.y Le.nil)))))))))))))))⟩)))))))
 change SX _ _ [own ZT cg,pin qp pR.2 w2,pin (zd (zd (val (zE (aB zm zm))))) s7.2 w4,own zg bN,SA.any,SA.any,SA.any,pin (zd zp) cE.1 f_,pin (zd zp) cL.1 fK,pin zx f9.2 gD,pin (zd zg) cP f7,own zg dX,own (zd zg) pR.1,SA.any,SA.any] _ _;refine jF (N1:=(λ(ff:(qq×(List Int)))=>[own ZT cg,pin qp ff.1 w2,pin (zd (zd (val (zE (aB zm zm))))) s7.2 w4,own zg bN,SA.any,SA.any,SA.any,pin (zd zp) cE.1 f_,pin (zd zp) cL.1 fK,pin zx f9.2 gD,pin (zd zg) cP f7,own zg dX,own (zd zg) ff.2,SA.any,SA.any])) ?_ ?_
 ·refine ZK ?_
  refine Iq (qT (qR (zi (zQ rfl (zi (zo (v:=(8:Int)) (av.eq zF rfl) (zu (qd (je pR.2 w2 (8:Int)) (.cons (zN rfl) (.cons (zN rfl) .nil)) (λ_=>qz rfl) (λ_=>(.cons 1 rfl rfl (aF _) .nil)) (λkP=>zo (v:=(1:Int)) (av.eq zF rfl) (IF qY qY rfl rfl ⟨_,rfl,⟨_,_,rfl,?_,?_⟩⟩))))))))))
  ·refine qJ 12 rfl (λw43=>?_)
   exact jB (zT (zkZ (qT (j7 rfl (zo (v:=(25:Int)) (av.eq zF rfl) (zng (yD 12 rfl) (λBP=>⟨_,_,_,(Res.ok ai),(Res.ok (ah (998:Int))),_,qY,(dD.eq po_none rfl),(dD.eq (po_some zF) rfl),rfl,λwY=>zR (s:=(kP.2,wY)) (Le.cons SA.r (Le.cons SA.r (Le.cons SA.r (Le.cons SA.r (Le.cons SA.y (Le.cons SA.y (Le.cons SA.y (Le.cons SA.r (Le.cons SA.r (Le.cons SA.r (Le.cons SA.r (Le.cons SA.r (Le.cons SA.r (Le.cons SA.y (Le.cons SA.y Le.nil)))))))))))))))⟩)))))))
  ·exact zR (s:=(kP.2,pR.1)) (Le.cons SA.r (Le.cons SA.r (Le.cons SA.r (Le.cons SA.r (Le.cons SA.y (Le.cons SA.y (Le.cons SA.y (Le.cons SA.r (Le.cons SA.r (Le.cons SA.r (Le.cons SA.r (Le.cons SA.r (Le.cons SA.r (Le.cons SA.y (Le.cons SA.y Le.nil)))))))))))))))
 intro ff;refine zT (jR (α:=Int) (zu ⟨([]:List Int),zg,.nil,rfl,rfl,?_⟩));change SX _ _ [own ZT cg,pin qp ff.1 w2,pin (zd (zd (val (zE (aB zm zm))))) s7.2 w4,own zg bN,SA.any,SA.any,SA.any,pin (zd zp) cE.1 f_,pin (zd zp) cL.1 fK,pin zx f9.2 gD,pin (zd zg) cP f7,own zg dX,own (zd zg) ff.2,own (zd zg) ([]:List Int),SA.any] _ _;refine jF (N1:=(λ(dE:(qq×(List Int)×(List Int)))=>[own ZT cg,pin qp dE.1 w2,pin (zd (zd (val (zE (aB zm zm))))) s7.2 w4,own zg bN,SA.any,SA.any,SA.any,pin (zd zp) cE.1 f_,pin (zd zp) cL.1 fK,pin zx f9.2 gD,pin (zd zg) cP f7,own zg dX,own (zd zg) dE.2.1,own (zd zg) dE.2.2,SA.any])) ?_ ?_
 ·refine ZK ?_
  refine Iq (qT (qR (zi (zQ rfl (zi (zo (v:=(4:Int)) (av.eq zF rfl) (zu (qd (je ff.1 w2 (4:Int)) (.cons (zN rfl) (.cons (zN rfl) .nil)) (λ_=>qz rfl) (λ_=>(.cons 1 rfl rfl (aF _) .nil)) (λvV=>zo (v:=(1:Int)) (av.eq zF rfl) (IF qY qY rfl rfl ⟨_,rfl,⟨_,_,rfl,?_,?_⟩⟩))))))))))
  ·refine qJ 12 rfl (λTz=>?_)
   refine zT (qR (zi (zQ rfl (zi (zo (v:=((ff.2.length:Int)+(1:Int))) (av.eq (zy JS (Zp ZR (zZ rfl)) zF) rfl) (zu (qd (je vV.2 w2 ((ff.2.length:Int)+(1:Int))) (.cons (zN rfl) (.cons (zN rfl) .nil)) (λ_=>qz rfl) (λ_=>(.cons 1 rfl rfl (aF _) .nil)) (λhY=>?_))))))));change SX _ _ [own ZT cg,pin qp hY.2 w2,pin (zd (zd (val (zE (aB zm zm))))) s7.2 w4,own zg bN,SA.any,SA.any,own zg hY.1,pin (zd zp) cE.1 f_,pin (zd zp) cL.1 fK,pin zx f9.2 gD,pin (zd zg) cP f7,own zg dX,pin (zd zg) ff.2 Tz,own (zd zg) ([]:List Int),SA.any] _ _;refine zT (jR (α:=Int) (zi (qT (qT (zo (v:=bN) (av.eq (zh rfl) rfl) (qR (zi (zQ rfl (zi (zo (v:=(1000:Int)) (av.eq zF rfl) (zu (qd (je hY.2 w2 (1000:Int)) (.cons (zN rfl) (.cons (zN rfl) .nil)) (λ_=>qz rfl) (λ_=>(.cons 1 rfl rfl (aF _) .nil)) (λhT=>op_add (qT (zo (v:=(bN+(1000:Int))) (av.eq (zy JS (zh rfl) zF) rfl) (qR (zi (zQ rfl (zi (zo (v:=(2:Int)) (av.eq zF rfl) (zu (qd (je hT.2 w2 (2:Int)) (.cons (zN rfl) (.cons (zN rfl) .nil)) (λ_=>qz rfl) (λ_=>(.cons 1 rfl rfl (aF _) .nil)) (λpS=>zmR (λnY=>op_sub (zu ⟨[((bN+hT.1) - nY)],zg,(.cons SA.r .nil),rfl,rfl,?_⟩)))))))))))))))))))))))));change SX _ _ [own ZT cg,pin qp pS.2 w2,pin (zd (zd (val (zE (aB zm zm))))) s7.2 w4,own zg bN,SA.any,SA.any,own zg hY.1,pin (zd zp) cE.1 f_,pin (zd zp) cL.1 fK,pin zx f9.2 gD,pin (zd zg) cP f7,own zg dX,pin (zd zg) ff.2 Tz,own (zd zg) [((bN+hT.1) - nY)],SA.any] _ _;exact qJ 13 rfl (λw53=>jB (zT (qT (qT (qT (QV (pa:=(Res.ok ff.2)) (pl:=(Res.ok ai)) (ph:=(Res.ok (ah hY.1))) (av.eq (zZ rfl) rfl) (dD.eq po_none rfl) (dD.eq (po_some (zh rfl)) rfl) (λBQ=>j7 rfl (sX qY (yD 13 rfl) (λBR=>QV (pa:=(Res.ok ff.2)) (pl:=(Res.ok (ah hY.1))) (ph:=(Res.ok ai)) (av.eq (zZ rfl) rfl) (dD.eq (po_some (zh rfl)) rfl) (dD.eq po_none rfl) (λBS=>sX qY qY (λBU=>jR (α:=Int) (zi (zo (v:=bN) (av.eq (zh rfl) rfl) (zu ⟨[bN],zg,(.cons SA.r .nil),rfl,rfl,sX qY qY (λwZ=>zR (s:=(pS.2,wZ,[((bN+hT.1) - nY)])) (Le.cons SA.r (Le.cons SA.r (Le.cons SA.r (Le.cons SA.r (Le.cons SA.y (Le.cons SA.y (Le.cons SA.y (Le.cons SA.r (Le.cons SA.r (Le.cons SA.r (Le.cons SA.r (Le.cons SA.r (Le.cons SA.r (Le.cons SA.da (Le.cons SA.y Le.nil))))))))))))))))⟩))))))))))))))
  ·exact zR (s:=(vV.2,ff.2,([]:List Int))) (Le.cons SA.r (Le.cons SA.r (Le.cons SA.r (Le.cons SA.r (Le.cons SA.y (Le.cons SA.y (Le.cons SA.y (Le.cons SA.r (Le.cons SA.r (Le.cons SA.r (Le.cons SA.r (Le.cons SA.r (Le.cons SA.r (Le.cons SA.r (Le.cons SA.y Le.nil)))))))))))))))
 intro dE;refine qJ 12 rfl (λAO=>qJ 13 rfl (λAQ=>j8 ?_));refine zo7 (x:=()) (PB.eq (RJ (RK (DJ (ZM (Jc (JU rfl)) (λa61=>(ZM (Jc (JU rfl)) (λa62=>(ZM (Jc (JU rfl)) (λa63=>(RL (Qw (zh rfl)) (λa64=>(ZM (Jc (JU rfl)) (λa65=>(ZM (Jc (JU rfl)) (λa66=>(ZM (Jc (JU rfl)) (λa67=>(yX (Tv a61 a62 a63 a64 a65 a66 a67))))))))))))))))))) (by first|with_reducible rfl|(simp only[z9,zA,zH,zI,qa,zD,zJ,zK,qb];done)|rfl)) (Le.cons SA.y (Le.cons SA.y (Le.cons SA.y (Le.cons SA.y (Le.cons SA.y (Le.cons SA.y (Le.cons SA.y (Le.cons SA.y (Le.cons SA.y (Le.cons SA.y (Le.cons SA.y (Le.cons SA.y (Le.cons SA.y (Le.cons SA.y (Le.cons SA.y Le.nil))))))))))))))) (λTw=>⟨_,_,rfl,?_,?_⟩)
 ·refine QN ?_
  exact zo (v:=ak) (av.eq vd rfl) ⟨_,rfl,⟨SA.r,aF _⟩,.nil⟩
 ·refine jG ?_
  refine zT (qT (j7 rfl (qR (zi (zQ rfl (zi (zo (v:=(cP.length:Int)) (av.eq (Zp ZR (zZ rfl)) rfl) (zu (qd (je dE.1 w2 (cP.length:Int)) (.cons (zN rfl) (.cons (zN rfl) .nil)) (λ_=>qz rfl) (λ_=>(.cons 1 rfl rfl (aF _) .nil)) (λAJ=>IG (yD 10 rfl) (λka _=>?_)))))))))));change SX _ _ [own ZT cg,pin qp AJ.2 w2,pin (zd (zd (val (zE (aB zm zm))))) s7.2 w4,own zg bN,SA.any,own zg ka,SA.any,pin (zd zp) cE.1 f_,pin (zd zp) cL.1 fK,pin zx f9.2 gD,pin (zd zg) cP f7,own zg dX,pin (zd zg) dE.2.1 AO,pin (zd zg) dE.2.2 AQ,SA.any] _ _;refine zT (qR (zi (zQ rfl (zi (zo (v:=bN) (av.eq (zh rfl) rfl) (zu (qd (je AJ.2 w2 bN) (.cons (zN rfl) (.cons (zN rfl) .nil)) (λ_=>qz rfl) (λ_=>(.cons 1 rfl rfl (aF _) .nil)) (λiR=>?_))))))));change SX _ _ [own ZT cg,pin qp iR.2 w2,pin (zd (zd (val (zE (aB zm zm))))) s7.2 w4,own zg bN,SA.any,own zg ka,own zg iR.1,pin (zd zp) cE.1 f_,pin (zd zp) cL.1 fK,pin zx f9.2 gD,pin (zd zg) cP f7,own zg dX,pin (zd zg) dE.2.1 AO,pin (zd zg) dE.2.2 AQ,SA.any] _ _;refine zT (Pd (α:=(Int×Int)) (zi (qR (zi (zQ rfl (zi (zo (v:=(4:Int)) (av.eq zF rfl) (zu (qd (je iR.2 w2 (4:Int)) (.cons (zN rfl) (.cons (zN rfl) .nil)) (λ_=>qz rfl) (λ_=>(.cons 1 rfl rfl (aF _) .nil)) (λkQ=>zi (qT (j7 rfl (qR (zi (zQ rfl (zi (zo (v:=(cP.length:Int)) (av.eq (Zp ZR (zZ rfl)) rfl) (zu (qd (je kQ.2 w2 (cP.length:Int)) (.cons (zN rfl) (.cons (zN rfl) .nil)) (λ_=>qz rfl) (λ_=>(.cons 1 rfl rfl (aF _) .nil)) (λAK=>IG (yD 10 rfl) (λmP _=>zu ⟨(aB zm zm),(kQ.1,mP),_,(.one (.one .nil)),rfl,rfl,?_⟩)))))))))))))))))))));change SX _ _ [own ZT cg,pin qp AK.2 w2,pin (zd (zd (val (zE (aB zm zm))))) s7.2 w4,own zg bN,SA.any,own zg ka,own zg iR.1,pin (zd zp) cE.1 f_,pin (zd zp) cL.1 fK,pin zx f9.2 gD,pin (zd zg) cP f7,own zg dX,pin (zd zg) dE.2.1 AO,pin (zd zg) dE.2.2 AQ,own (val (aB zm zm)) (kQ.1,mP)] _ _;refine Jw (qT (qT ?_));refine QV (pa:=(zY s7.2 ka)) (pl:=(Res.ok ai)) (ph:=(Res.ok (ah iR.1))) (av.eq (zy qU (zZ rfl) (zh rfl)) (by first|with_reducible rfl|(simp only[z9,zA,zH,zI,qa,zD,zJ,zK,qb];done)|rfl)) (dD.eq po_none rfl) (dD.eq (po_some (zh rfl)) rfl) (λMH=>jR (α:=(au (Int×Int))) (zi (zo (v:=(kQ.1,mP)) (av.eq (zh rfl) rfl) (zu ⟨[(ah (kQ.1,mP))],(val (zE (aB zm zm))),(.cons (QE (QD (fa:=(aB zm zm)) (fb:=(zE (aB zm zm))) (f:=λx=>(ah x)) λ_=>rfl)) .nil),rfl,rfl,sX qY qY (λMI=>?_)⟩))));refine QV (pa:=(zY s7.2 ka)) (pl:=(Res.ok (ah (iR.1+(1:Int))))) (ph:=(Res.ok ai)) (av.eq (zy qU (zZ rfl) (zh rfl)) (by first|with_reducible rfl|(simp only[z9,zA,zH,zI,qa,zD,zJ,zK,qb];done)|rfl)) (dD.eq (po_some (zy JS (zh rfl) zF)) rfl) (dD.eq po_none rfl) (λMJ=>sX qY qY (λMK=>zQ rfl (zo (v:=ka) (av.eq (zh rfl) rfl) (Rc 2 rfl (λ_=>aF _) SA.r (λAL=>?_)))));change SX _ _ [own ZT cg,pin qp AK.2 w2,pin (zd (zd (val (zE (aB zm zm))))) AL w4,own zg bN,SA.any,own zg ka,own zg iR.1,pin (zd zp) cE.1 f_,pin (zd zp) cL.1 fK,pin zx f9.2 gD,pin (zd zg) cP f7,own zg dX,pin (zd zg) dE.2.1 AO,pin (zd zg) dE.2.2 AQ,own (val (aB zm zm)) (kQ.1,mP)] _ _;refine Jw ?_;refine q8 (av.eq (Z8 (f:=(aB zC zC)) (λ(v:ao×ao×ax)=>(v.1,v.2.1)) (λv=>⟨rfl,rfl⟩) (qt (zy qU (zZ rfl) (JC (h:=λ(v:(Int×Int))=>v.1) (λv=>⟨_,_,rfl,rfl,rfl⟩) (zh rfl))) (qt (zy qU (zZ rfl) (JC (h:=λ(v:(Int×Int))=>v.2) (λv=>⟨_,_,rfl,rfl,rfl⟩) (zh rfl))) Z7))) (by first|with_reducible rfl|(simp only[z9,zA,zH,zI,qa,zD,zJ,zK,qb];done)|rfl)) (λAN=>zQ rfl ?_);refine q8 (av.eq (Z8 (f:=(aB zC zm)) (λ(v:ao×Int×ax)=>(v.1,v.2.1)) (λv=>⟨rfl,rfl⟩) (qt (zy qU (zZ rfl) (zh rfl)) (qt (zh rfl) Z7))) (by first|with_reducible rfl|(simp only[z9,zA,zH,zI,qa,zD,zJ,zK,qb];done)|rfl)) (λLa=>Rj (F:=jO) 0 rfl Dr (jL (JG f9.2 gD La (AN.1,(ah AN.2))) (.cons (zN rfl) (.cons (zN rfl) (.cons (zN rfl) .nil))) (λ_=>qz rfl) (λ_=>(.cons 9 rfl rfl (aF _) .nil)) (λx90=>⟨_,(.cons 9 rfl rfl (aF _) .nil),(Le.cons SA.y (Le.cons SA.y (Le.cons SA.y (Le.cons SA.y (Le.cons SA.y (Le.cons SA.y (Le.cons SA.y (Le.cons SA.y (Le.cons SA.y (Le.cons SA.y (Le.cons SA.y (Le.cons SA.y (Le.cons SA.y (Le.cons SA.y (Le.cons SA.y Le.nil)))))))))))))))⟩) (λD0=>?_)));change SX _ _ [own ZT cg,pin qp AK.2 w2,pin (zd (zd (val (zE (aB zm zm))))) AL w4,own zg bN,SA.any,own zg ka,own zg iR.1,pin (zd zp) cE.1 f_,pin (zd zp) cL.1 fK,pin zx D0.2 gD,pin (zd zg) cP f7,own zg dX,pin (zd zg) dE.2.1 AO,pin (zd zg) dE.2.2 AQ,own (val (aB zm zm)) (kQ.1,mP)] _ _;exact jC (qR (zi (j7 rfl (zi (j7 rfl (zi (j7 rfl (zi (zo (v:=dX) (av.eq (zh rfl) rfl) (zi (j7 rfl (zi (j7 rfl (zi (j7 rfl (zu (jL (Tv D0.2 AL dE.2.1 dX dE.2.2 cE.1 cL.1) (.cons (ZJ 9 rfl rfl) (.cons (ZJ 2 rfl rfl) (.cons (ZJ 12 rfl rfl) (.cons (zN rfl) (.cons (ZJ 13 rfl rfl) (.cons (ZJ 7 rfl rfl) (.cons (ZJ 8 rfl rfl) .nil))))))) (λ_=>qz rfl) (λ_=>.nil) (λx92=>⟨_,.nil,(Le.cons SA.y (Le.cons SA.y (Le.cons SA.y (Le.cons SA.y (Le.cons SA.y (Le.cons SA.y (Le.cons SA.y (Le.cons SA.y (Le.cons SA.y (Le.cons SA.y (Le.cons SA.y (Le.cons SA.y (Le.cons SA.y (Le.cons SA.y (Le.cons SA.y Le.nil)))))))))))))))⟩) (λTx=>⟨_,rfl,⟨SA.r,aF _⟩,.nil⟩))))))))))))))))))
end dq
end WL
end
section
namespace WL
namespace dq
open PySem WL.X WL.Y
open L2 (atI ixN)
structure ZG(p:qq):Prop where
 cell:0<=p.2.1
 at_:0<=p.2.2.1
 VX:0<=p.2.2.2
theorem zlU{i:Int}:0<=yE i:=by unfold yE;split <;> omega
theorem D5{δ α:Type}{xs:List α}{i:Int}(h0:0<=i) (h:i<xs.length):∃x,xs[i.toNat]? = ah x/\(zY xs i:Res δ α) = .ok x:=by
 obtain⟨x,hx⟩:∃x,xs[i.toNat]? = ah x:=⟨_,ke (by omega)⟩
 refine⟨x,hx,?_⟩;have:=Qa (δ:=δ) hx;rwa [show((i.toNat:Nat):Int)=i by omega]at this
theorem jf{p:qq}{lim:Int}(h:ZG p) (h0:0<lim) (h1:lim<2 ^ 100):∃v p',qo p lim = .ok (v,p')/\0<=v/\v<lim/\ZG p':=by
 obtain⟨l,c,i,s⟩:=p;obtain⟨hc,hi,hs⟩:=h;dsimp only at hc hi hs;unfold qo;dsimp only
 have fin:∀s3:qq,ZG s3->∃v p',Res.fin (ν:=aE) (β:=aE) (aL (decide ((0:Int)<s3.2.1))
   ((Res.bind (pG s3.2.1 lim) λwM=>(Res.bind (sO s3.2.1 lim) λv9=>Res.ok (PF.rt (wM,((s3.1,v9,s3.2.2.1,s3.2.2.2):qq))))))
   ((Res.bind (pG (s3.2.2.2 / 8) lim) λv10=>Res.ok (PF.rt (v10,s3)))):X.RF aE aE aE (Int×qq)) (λz=>nomatch z) = .ok (v,p')/\0<=v/\v<lim/\ZG p':=by
  intro s3 h3
  cases hd:decide ((0:Int)<s3.2.1) with
  |true=>
   simp only[zl,jp,qC,qV,jq,jr,jt,ju,qD,qe,qE,qw,jv,qF,ji,jw,qG,jj,jx,jy,qH,bG,bB,Sb h0,Sd h0 h1];exact⟨_,_,rfl,EO _ (by omega),Vt _ h0,Int.ediv_nonneg h3.cell (by omega),h3.at_,h3.VX⟩
  |false=>
   simp only[zl,jp,qC,qV,jq,jr,jt,ju,qD,qe,qE,qw,jv,qF,ji,jw,qG,jj,jx,jy,qH,bG,bB,Sb h0];exact⟨_,_,rfl,EO _ (by omega),Vt _ h0,h3⟩
 have BO:∀s4:qq×Int,0<=s4.2->0<=s4.1.2.1->0<=s4.1.2.2.1->0<=s4.1.2.2.2->∃s3:qq,ZG s3/\(Res.seq ((aL (decide ((1000000000000000000:Int)<=s4.2))
   (Res.ok (PF.nx ((s4.1.1,s4.2,s4.1.2.2.1,s4.1.2.2.2):qq)))
   (Res.ok (PF.nx s4.1))):X.RF aE qq aE (Int×qq)) λ(s7:(qq))=>(Res.ok (PF.nx ((s7.1,s7.2.1,s7.2.2.1,((((s7.2.2.2 * 23)+s4.2)+(7:Int)) % 10007)):qq)):X.RF aE qq aE (Int×qq))) = .ok (.nx s3):=by
  intro s4 a b c d
  cases decide ((1000000000000000000:Int)<=s4.2) with
  |true=>refine⟨_,?_,rfl⟩;exact⟨a,c,EO _ (by decide)⟩
  |false=>refine⟨_,?_,rfl⟩;exact⟨b,c,EO _ (by decide)⟩
 cases h2:decide (c=0) with
 |false=>
  simp only[zl,jp,qC,qV,jq,jr,jt,ju,qD,qe,qE,qw,jv,qF,ji,jw,qG,jj,jx,jy,qH,bG,bB];exact fin (l,c,i,s) ⟨hc,hi,hs⟩
 |true=>
  simp only[zl,jp,qC,qV,jq,jr,jt,ju,qD,qe,qE,qw,jv,qF,ji,jw,qG,jj,jx,jy,qH,bG,bB]
  cases h3:decide (i<(l.length:Int)) with
  |true=>
   obtain⟨x,hx,e⟩:=D5 (δ:=aE) (xs:=l) hi (dF h3);simp only[zl,jp,qC,qV,jq,jr,jt,ju,qD,qe,qE,qw,jv,qF,ji,jw,qG,jj,jx,jy,qH,bG,bB,e];obtain⟨s3,k,e3⟩:=BO ((l,c,i+1,s),yE x) zlU hc (by show 0<=i+1;omega) hs;dsimp only at e3;rw[e3];simp only[zl,jp,qC,qV,jq,jr,jt,ju,qD,qe,qE,qw,jv,qF,ji,jw,qG,jj,jx,jy,qH,bG,bB];exact fin s3 k
  |false=>
   simp only[zl,jp,qC,qV,jq,jr,jt,ju,qD,qe,qE,qw,jv,qF,ji,jw,qG,jj,jx,jy,qH,bG,bB];obtain⟨s3,k,e3⟩:=BO ((l,c,i,s),0) (BC _) hc hi hs;dsimp only at e3;rw[e3];simp only[zl,jp,qC,qV,jq,jr,jt,ju,qD,qe,qE,qw,jv,qF,ji,jw,qG,jj,jx,jy,qH,bG,bB];exact fin s3 k
theorem zlV{a b:ao}:(a.app b).1.cps.toList=a.1.cps.toList++b.1.cps.toList:=by
 show((a.1++b.1:Str)).cps.toList=_;show(a.1.cps++b.1.cps).toList=_;simp
theorem znE{n:Nat}(h:n<26 * 36 ^ 7):Ah (n:Int) = .ok (lI n):=by
 have hl:=Kt 7 (n / 26) (by omega);unfold Ah;rw[show((n:Int) % 26)=((n % 26:Nat):Int) by omega,show((n:Int) / 26)=((n / 26:Nat):Int) by omega,Sq (show n % 26<36 by omega),zl]
 have key:=zg1 (δ:=aE) (β:=aE) (ρ:=ao) (c:=λ(s4:(Int×ao))=>(Res.ok (decide ((0:Int)<s4.1))))
  (f:=λ(s4:(Int×ao))=>(Res.bind (Res.bind (mJ Qb (s4.1 % 36)) λt5=>(yS s4.2 t5)) λwX=>Res.ok (PF.nx ((s4.1 / 36),wX))))
  (λs=>∃m:Nat,s.1=(m:Int)/\s.2.1.cps.toList++QH m=J6 n) (λs=>(QH s.1.toNat).length) (λs ⟨m,e,hm⟩=>by
   by_cases h0:m=0
   ·exact .inl (by rw[e,h0];rfl)
   ·have MT:m % 36<36:=EK _ (by decide)
    refine .inr ⟨by rw[e,bJ (by omega)],(((m / 36:Nat):Int),s.2.app (vK (sgn (m % 36)) (vJ MT))),?_,⟨m / 36,rfl,?_⟩,?_⟩
    ·have len:s.2.1.length<=1000000:=by
      have h1:=gb wA hm;rw[dw]at h1;have h2:(J6 n).length<=8:=by unfold J6;simp;omega
      have h3:s.2.1.cps.toList.length=s.2.1.length:=by simp;rfl
      omega
     rw[e,show((m:Int) % 36)=((m % 36:Nat):Int) by omega,show((m:Int) / 36)=((m / 36:Nat):Int) by omega,Sq MT,zl];unfold yS;rw[QO len];rfl
    ·rw[zlV]
     rw[Aa (BB h0)]at hm;rw[<- hm];simp[vK]
    ·show(QH (((m / 36:Nat):Int)).toNat).length<(QH s.1.toNat).length
     rw[e,ER,ER,Aa (BB h0)];simp)
  (((n / 26:Nat):Int),vK (sgn (n % 26)) (vJ (show n % 26<36 by omega))) ⟨n / 26,rfl,by simp[vK,J6]⟩ (by
   show(QH (((n / 26:Nat):Int)).toNat).length<oV;rw[ER];have:(7:Nat)<oV:=by decide
   omega)
 obtain⟨s',e1,⟨m,e2,e3⟩,e4⟩:=key;rw[e1,qV,jj]
 have h0 : ¬ (0:Int)<s'.1:=by
  have:decide ((0:Int)<s'.1)=ak:=by injection e4
  exact of_decide_eq_false this
 have:m=0:=by omega
 subst this;rw[z_,fR]at e3
 congr 1
 exact Sn (by rw[e3];simp[lI])
theorem znF{s:ao}(h:Nm s):JF s = .ok aj:=by
 have hl:s.1.length=s.1.cps.size:=rfl;have h1:=h.len1;have h8:=h.VW;obtain⟨c,hc,VY⟩:=h.first
 obtain⟨hok,hg⟩:=zi8 hc;unfold JF;rw[QO (show s.1.length<=1000000 by omega)]
 have hch:(mJ s 0:Res aE ao) = .ok ⟨⟨#[c]⟩,hok⟩:=by
  unfold mJ;rw[QO (show s.1.length<=1000000 by omega)];exact Sa hg
 rw[show(f6 aj:Res aE ax) = .ok () from rfl];simp only[zl];rw[bJ (show(1:Int)<=(s.1.length:Int) by omega),bJ (show(s.1.length:Int)<=8 by omega)];rw[show(aj && aj)=aj from rfl,bG,hch];simp only[zl];rw[zno VY,bG,y_ (show(X.Qh s).length<=1000000 by rw[zja];omega)];simp only[zl]
 have:Vs (kg (λl5=>mK l5 Qb) (X.Qh s)) id=aj:=by
  rw[Ey];intro b hb;obtain⟨x,hx,rfl⟩:=eR.mp hb;obtain⟨c,hc,hcm,rfl⟩:=zi9 hx;exact zg4 (h.all c hcm)
 rw[this];rfl
theorem D6{s:ao}(h:Nm s):jI s = .ok ():=by
 unfold jI;rw[znF h];simp only[zl,jp,qC,qV,jq,jr,jt,ju,qD,qe,qE,qw,jv,qF,ji,jw,qG,jj,jx,jy,qH,bG,bB];rfl
structure Names(names:List ao) (n:Nat):Prop where
 len:names.length=n
 nd:names.Nodup
 nm:∀s∈names,Nm s
theorem TB{p:qq}{n:Nat}(h:ZG p) (hn:n<=60):∃names p',J0 p (n:Int) = .ok (names,p')/\Names names n/\ZG p':=by
 obtain⟨f,p1,e1,f0,f1,h1⟩:=jf h (show(0:Int)<1000000000000 by decide) (by decide);obtain⟨g,p2,e2,g0,g1,h2⟩:=jf h1 (show(0:Int)<10000000000 by decide) (by decide);unfold J0;rw[e1];simp only[zl,jp,qC,qV,jq,jr,jt,ju,qD,qe,qE,qw,jv,qF,ji,jw,qG,jj,jx,jy,qH,bG,bB];rw[e2];simp only[zl,jp,qC,qV,jq,jr,jt,ju,qD,qe,qE,qw,jv,qF,ji,jw,qG,jj,jx,jy,qH,bG,bB];rw[pP (by omega)];simp only[zl,jp,qC,qV,jq,jr,jt,ju,qD,qe,qE,qw,jv,qF,ji,jw,qG,jj,jx,jy,qH,bG,bB];rw[y_ (by simp;omega)];simp only[zl,jp,qC,qV,jq,jr,jt,ju,qD,qe,qE,qw,jv,qF,ji,jw,qG,jj,jx,jy,qH,bG,bB];obtain⟨f,rfl⟩:=BD f0;obtain⟨g,rfl⟩:=BD g0
 have lt:∀k,k<n->f+(1+g) * k<26 * 36 ^ 7:=λk hk=>by
  have h1:(1+g) * k<=10 ^ 10 * 60:=Bp (by omega) (by omega);have:10 ^ 12+10 ^ 10 * 60<26 * 36 ^ 7:=by decide
  omega
 rw[R_ (λk:Int=>lI (f+(1+g) * k.toNat)) _ λk hk=>?_]
 ·simp only[zl,jp,qC,qV,jq,jr,jt,ju,qD,qe,qE,qw,jv,qF,ji,jw,qG,jj,jx,jy,qH,bG,bB]
  refine⟨_,p2,rfl,⟨by simp,?_,λs hs=>?_⟩,h2⟩
  ·rw[mW,List.Nodup,List.pairwise_map]
   refine akp (λ{a b} ha hb iA h=>?_) (List.nodup_range (n:=n));have:=zi6 h;simp at this;exact iA (Nat.eq_of_mul_eq_mul_left (show 0<1+g by omega) (by omega))
  ·rw[mW]at hs
   obtain⟨k,hk,rfl⟩:=eR.mp hs;have hk:=BE.mp hk;exact zlq (by simpa using lt k hk)
 ·obtain⟨i,hi,rfl⟩:=eR.mp hk
  have hi:=BE.mp hi;rw[Se (.inr ⟨by omega,by omega⟩)];simp only[zl,jp,qC,qV,jq,jr,jt,ju,qD,qe,qE,qw,jv,qF,ji,jw,qG,jj,jx,jy,qH,bG,bB]
  have e:((f:Int)+(1+(g:Int)) * (i:Int))=((f+(1+g) * i:Nat):Int):=by
   rw[Vu,Int.natCast_mul,Vu];rfl
  rw[e,znE (lt i hi)];simp only[zl,jp,qC,qV,jq,jr,jt,ju,qD,qe,qE,qw,jv,qF,ji,jw,qG,jj,jx,jy,qH,bG,bB];simp
structure Rows(rows:List (List (Int×Int))) (n w:Nat):Prop where
 len:rows.length=n
 wide:∀row∈rows,row.length=w
 act:∀row∈rows,∀e∈row,0<=e.1/\e.1<4
 tq:∀row∈rows,∀e∈row,-1<=e.2/\e.2<n
theorem znG{p:qq}{most edges:Nat}(h:ZG p) (hm:1<=most) (hm2:most<=60) (he:4<=edges) (bg:edges<=1000):∃rows p' n w,vO p (most:Int) (edges:Int) = .ok (rows,p')/\Rows rows n w/\1<=n/\n<=most/\1<=w/\w<=4/\n * w<=edges/\ZG p':=by
 obtain⟨v,p1,e1,v0,v1,h1⟩:=jf h (show(0:Int)<4 by decide) (by decide);obtain⟨w,hw⟩:∃w:Nat,(1:Int)+((v+1) % 4)=(w:Int):=⟨(1+((v+1) % 4)).toNat,by omega⟩
 have oT:1<=w/\w<=4:=by omega
 have hdiv:((edges:Int) / (w:Int))=((edges / w:Nat):Int):=by simp
 have oX:1<=edges / w:=by rw[Nat.le_div_iff_mul_le (by omega)];omega
 have iX:∃L:Nat,DC (most:Int) ((edges / w:Nat):Int)=(L:Int)/\1<=L/\L<=most/\L<=edges / w:=by
  unfold DC
  split
  ·exact⟨_,rfl,oX,by omega,bC _⟩
  ·exact⟨_,rfl,hm,bC _,by omega⟩
 obtain⟨L,hL,L1,L2,L3⟩:=iX;obtain⟨c,p2,e2,c0,c1,h2⟩:=jf h1 (show(0:Int)<(L:Int) by omega) (by omega);obtain⟨m,p3,e3,m0,m1,h3⟩:=jf h2 (show(0:Int)<4 by decide) (by decide);obtain⟨n,hn⟩:∃n:Nat,(1:Int)+c=(n:Int):=⟨(1+c).toNat,by omega⟩
 have xy:1<=n/\n<=L:=by omega
 have hnw:n * w<=edges:=b_ (Nat.mul_le_mul_right w (show n<=edges / w by omega)) (Nat.div_mul_le_self edges w);unfold vO;rw[e1];simp only[zl,jp,qC,qV,jq,jr,jt,ju,qD,qe,qE,qw,jv,qF,ji,jw,qG,jj,jx,jy,qH,bG,bB];rw[hw,Sd (by omega) (by omega),hdiv];simp only[zl,jp,qC,qV,jq,jr,jt,ju,qD,qe,qE,qw,jv,qF,ji,jw,qG,jj,jx,jy,qH,bG,bB];rw[hL,e2];simp only[zl,jp,qC,qV,jq,jr,jt,ju,qD,qe,qE,qw,jv,qF,ji,jw,qG,jj,jx,jy,qH,bG,bB];rw[e3];simp only[zl,jp,qC,qV,jq,jr,jt,ju,qD,qe,qE,qw,jv,qF,ji,jw,qG,jj,jx,jy,qH,bG,bB];rw[hn,pP (by omega)];simp only[zl,jp,qC,qV,jq,jr,jt,ju,qD,qe,qE,qw,jv,qF,ji,jw,qG,jj,jx,jy,qH,bG,bB]
 have loop:=y9 (δ:=aE) (β:=aE) (ρ:=(List (List (Int×Int)))×qq)
  (f:=λ(b6:Int) (cA:(qq×(List (List (Int×Int)))))=>
(Res.bind (rng 0 (w:Int)) λuw=>(Res.bind (f6 (fits uw.length)) λ_=>(Res.bind (Res.up (nM (λ(rh:Int) i9=>(Res.bind (Res.up (qo i9 ((1:Int)+m))) λg_=>(Res.bind (Res.up (qo g_.2 ((n:Int)+(1:Int)))) λfH=>Res.ok ((g_.1,(fH.1 - (1:Int))),fH.2)))) uw cA.1)) λi_=>(Res.bind (push cA.2 i_.1) λhG=>Res.ok (PF.nx (i_.2,hG)))))))
  (λxs s=>ZG s.1/\s.2.length+xs.length=n/\(∀row∈s.2,row.length=w)/\(∀row∈s.2,∀e∈row,(0<=e.1/\e.1<4) /\ -1<=e.2/\e.2<n)) (λk xs s ⟨q1,q2,q3,q4⟩=>by
   rw[pP (by omega)];simp only[zl,jp,qC,qV,jq,jr,jt,ju,qD,qe,qE,qw,jv,qF,ji,jw,qG,jj,jx,jy,qH,bG,bB];rw[y_ (by simp;omega)];simp only[zl,jp,qC,qV,jq,jr,jt,ju,qD,qe,qE,qw,jv,qF,ji,jw,qG,jj,jx,jy,qH,bG,bB]
   obtain⟨vs,s',e4,i4,l4,a4⟩:=Kq (δ:=aE) (e:=λ(rh:Int) (i9:qq)=>(Res.bind (Res.up (qo i9 ((1:Int)+m))) λg_=>(Res.bind (Res.up (qo g_.2 ((n:Int)+(1:Int)))) λfH=>Res.ok ((g_.1,(fH.1 - (1:Int))),fH.2))))
    ZG (λe:Int×Int=>(0<=e.1/\e.1<4) /\ -1<=e.2/\e.2<n) (λx s hs=>by
     obtain⟨a,t1,b1,b2,b3,b4⟩:=jf hs (show(0:Int)<1+m by omega) (by omega);obtain⟨b,t2,d1,d2,d3,d4⟩:=jf b4 (show(0:Int)<(n:Int)+1 by omega) (by omega);rw[b1];simp only[zl,jp,qC,qV,jq,jr,jt,ju,qD,qe,qE,qw,jv,qF,ji,jw,qG,jj,jx,jy,qH,bG,bB];rw[d1];simp only[zl,jp,qC,qV,jq,jr,jt,ju,qD,qe,qE,qw,jv,qF,ji,jw,qG,jj,jx,jy,qH,bG,bB];exact⟨_,_,rfl,d4,⟨b2,by omega⟩,by show(-1:Int)<=b - 1;omega,by show b - 1<(n:Int);omega⟩) ((dh w).map λi:Nat=>(i:Int)) s.1 q1
   rw[e4];simp only[zl,jp,qC,qV,jq,jr,jt,ju,qD,qe,qE,qw,jv,qF,ji,jw,qG,jj,jx,jy,qH,bG,bB];have hlen:s.2.length<60:=by simp at q2;omega
   rw[Jq (by omega)];simp only[zl,jp,qC,qV,jq,jr,jt,ju,qD,qe,qE,qw,jv,qF,ji,jw,qG,jj,jx,jy,qH,bG,bB];refine⟨_,rfl,i4,by simp at q2 ⊢;omega,λrow hr=>?_,λrow hr=>?_⟩
   ·rcases iM.mp hr with z|z
    ·exact q3 row z
    ·simp at z;subst z;simpa using l4
   ·rcases iM.mp hr with z|z
    ·exact q4 row z
    ·simp at z;subst z;exact a4) ((dh n).map λi:Nat=>(i:Int)) (p3,[]) ⟨h3,by simp,λ_ h=>by simp at h,λ_ h=>by simp at h⟩
 obtain⟨s',e5,q1,q2,q3,q4⟩:=loop;rw[e5];simp only[zl,jp,qC,qV,jq,jr,jt,ju,qD,qe,qE,qw,jv,qF,ji,jw,qG,jj,jx,jy,qH,bG,bB];exact⟨_,_,n,w,rfl,⟨by simpa using q2,q3,λrow hr e he=>(q4 row hr e he).1,λrow hr e he=>(q4 row hr e he).2⟩,xy.1,by omega,oT.1,oT.2,hnw,q1⟩
def nm(names:List ao) (k:Int):ao:=(names[k.toNat]?).getD Ru
def tg(names:List ao) (t:Int):au ao:=if 0<=t then ah (nm names t) else ai
theorem D7{names:List ao}{k:Int}(h0:0<=k) (h:k<names.length):names[k.toNat]? = ah (nm names k):=by
 unfold nm;rw[ke (show k.toNat<names.length by omega)];rfl
theorem QF{δ:Type}{names:List ao}{k:Int}(h0:0<=k) (h:k<names.length):(zY names k:Res δ ao) = .ok (nm names k):=by
 have:=Qa (δ:=δ) (D7 h0 h);rwa [show((k.toNat:Nat):Int)=k by omega]at this
theorem zpx{names:List ao}{k:Int}(h0:0<=k) (h:k<names.length):nm names k∈names:=di (D7 h0 h)
theorem Lb{names:List ao}{n:Nat}(N:Names names n) {a b:Int}(a0:0<=a) (a1:a<n) (b0:0<=b) (b1:b<n) (e:nm names a=nm names b):a=b:=by
 have hl:=N.len;have h1:=D7 (names:=names) a0 (by omega);have h2:=D7 (names:=names) b0 (by omega);rw[e]at h1;obtain⟨l1,g1⟩:=bP.mp h1;obtain⟨l2,g2⟩:=bP.mp h2;have:=(LM N.nd).mp (g1.trans g2.symm);omega
theorem D8{names:List ao}{n:Nat}(N:Names names n) {a:Int}(a0:0<=a) (a1:a<n):Nm (nm names a):=N.nm _ (zpx a0 (by have:=N.len;omega))
def ent(rows:List (List (Int×Int))) (k o:Int):Int×Int:=(((rows[k.toNat]?).getD [])[o.toNat]?).getD (0,-1)
def tE(rows:List (List (Int×Int))) (k:Int):List (Int×Int):=(rows[k.toNat]?).getD []
theorem TC{rows:List (List (Int×Int))}{n w:Nat}(R:Rows rows n w) {k:Int}(k0:0<=k) (k1:k<n):rows[k.toNat]? = ah (tE rows k):=by
 unfold tE;rw[ke (show k.toNat<rows.length by have:=R.len;omega)];rfl
theorem znH{δ:Type}{rows:List (List (Int×Int))}{n w:Nat}(R:Rows rows n w) {k:Int}(k0:0<=k) (k1:k<n):(zY rows k:Res δ _) = .ok (tE rows k):=by
 have:=Qa (δ:=δ) (TC R k0 k1);rwa [show((k.toNat:Nat):Int)=k by omega]at this
theorem TF{rows:List (List (Int×Int))}{n w:Nat}(R:Rows rows n w) {k:Int}(k0:0<=k) (k1:k<n):(tE rows k).length=w:=R.wide _ (di (TC R k0 k1))
theorem FD{rows:List (List (Int×Int))}{n w:Nat}(R:Rows rows n w) {k o:Int}(k0:0<=k) (k1:k<n) (o0:0<=o) (o1:o<w):(tE rows k)[o.toNat]? = ah (ent rows k o):=by
 have:=TF R k0 k1;unfold ent;rw[show(rows[k.toNat]?).getD []=tE rows k from rfl,ke (show o.toNat<(tE rows k).length by omega)];rfl
structure Holds(c:aH) (names actions:List ao) (n w:Nat) (f:Int->Int->Int×Int) (D:Int->Int->Prop):Prop where
 out:c.cU=w
 sub:∀s∈c.nodes,∃k:Int,0<=k/\k<n/\s=nm names k
 nd:c.nodes.Nodup
 node:∀k o,D k o->nm names k∈c.nodes
 B5:∀k o,D k o->Jh (nm names k,o) c.edges=ah (nm actions (f k o).1,tg names (f k o).2)
theorem TH{c:aH}{names:List ao}{n N:Nat}(NM:Names names N) (hn:n<=N) {l:List ao}(sub:∀s∈l,∃k:Int,0<=k/\k<n/\s=nm names k) (nd:l.Nodup):l.length<=n:=by
 have:=DL (m:=(dh n).map λk:Nat=>nm names k) nd λs hs=>by
  obtain⟨k,k0,k1,rfl⟩:=sub s hs;exact eR.mpr ⟨k.toNat,BE.mpr (by omega),by rw[show((k.toNat:Nat):Int)=k by omega]⟩
 simpa using this
theorem TJ{c:aH}{names actions:List ao}{n N w:Nat}{f f':Int->Int->Int×Int}{D:Int->Int->Prop}(NM:Names names N) (AM:Names actions 4) (hn:n<=N) (vX:n<=16) (H:Holds c names actions n w f D) (hl:c.edges.length<1000) {k o:Int}(k0:0<=k) (k1:k<n) (o0:0<=o) (o1:o<w) {a t:Int}(a0:0<=a) (a1:a<4) (t1:t<n)
  (hf:∀i j,D i j -> ¬ (i=k/\j=o)->f' i j=f i j) (hf2:f' k o=(a,t)) (hD:∀i j,D i j->0<=i/\i<n) :
  ∃c',q9 c (nm names k,o) (nm actions a,tg names t) = .ok ((),c')/\Holds c' names actions n w f' (λi j=>D i j\/(i=k/\j=o))/\c'.edges.length<=c.edges.length+1/\c'.start=c.start/\((∀s,s∈c.nodes->s∈c'.nodes)/\(0<=t->nm names t∈c'.nodes))/\c'.edges=iG (nm names k,o) (nm actions a,tg names t) c.edges:=by
 have nk:=D8 NM k0 (show k<N by omega);have na:=D8 AM a0 a1;unfold q9;dsimp only;rw[D6 nk,D6 na];simp only[zl,jp,qC,qV,jq,jr,jt,ju,qD,qe,qE,qw,jv,qF,ji,jw,qG,jj,jx,jy,qH,bG,bB];rw[H.out,bJ o0,bJ o1];rw[show(!(aj && aj))=ak from rfl,bB]
 -- the nodes
 have add:∀(l:List ao) (j:Int),0<=j->j<n->(∀s∈l,∃k:Int,0<=k/\k<n/\s=nm names k)->l.Nodup->∃l',(∀s,s∈l'↔s∈l\/s=nm names j)/\(∀s∈l',∃k:Int,0<=k/\k<n/\s=nm names k)/\l'.Nodup/\(aL (!ZL (nm names j) l) (Res.bind (push l (nm names j)) λj_=>Res.ok (PF.nx j_)) (Res.ok (PF.nx l)):X.RF aH (List ao) aE (ax×aH)) = .ok (.nx l'):=by
  intro l j j0 j1 sub nd
  by_cases hm:nm names j∈l
  ·refine⟨l,λs=>⟨.inl,λz=>z.elim id λz=>z ▸ hm⟩,sub,nd,?_⟩
   rw[Qk hm];rfl
  ·refine⟨l++[nm names j],λs=>by simp,λs hs=>?_,?_,?_⟩
   ·rcases iM.mp hs with z|z
    ·exact sub s z
    ·simp at z;exact⟨j,j0,j1,z⟩
   ·rw[EA]
    exact⟨nd,by simp,λa ha b hb=>by simp at hb;subst hb;exact λz=>hm (z ▸ ha)⟩
   ·rw[Kr hm]
    have:=TH (c:=c) NM hn sub nd;rw[Jq (by omega)];rfl
 obtain⟨l1,m1,s1,d1,e1⟩:=add c.nodes k k0 k1 H.sub H.nd;have BO:∃l2,(∀s,s∈l1->s∈l2)/\(0<=t->nm names t∈l2)/\(∀s∈l2,∃k:Int,0<=k/\k<n/\s=nm names k)/\l2.Nodup/\(aL (iN (tg names t))
((Res.bind (ck (tg names t)) λAi=>(Res.bind (Res.on (jI Ai) λS_=>c) λTa=>(Res.bind (Res.bind (ck (tg names t)) λnR=>(Res.ok (!ZL nR l1))) λDW=>(aL DW
((Res.bind (ck (tg names t)) λfH=>(Res.bind (push l1 fH) λi_=>Res.ok (PF.nx i_))))
(Res.ok (PF.nx l1)))))))
(Res.ok (PF.nx l1)):X.RF aH (List ao) aE (ax×aH)) = .ok (.nx l2):=by
  by_cases ht:0<=t
  ·obtain⟨l2,m2,s2,d2,e2⟩:=add l1 t ht t1 s1 d1
   refine⟨l2,λs hs=>(m2 s).mpr (.inl hs),λ_=>(m2 _).mpr (.inr rfl),s2,d2,?_⟩;rw[show tg names t=ah (nm names t) from aG ht];rw[show(ck (ah (nm names t)):Res aH ao) = .ok (nm names t) from rfl];rw[show(ah (nm names t)).isSome=aj from rfl,bG];simp only[zl,jp,qC,qV,jq,jr,jt,ju,qD,qe,qE,qw,jv,qF,ji,jw,qG,jj,jx,jy,qH,bG,bB];rw[D6 (D8 NM ht (show t<N by omega))];simp only[zl,jp,qC,qV,jq,jr,jt,ju,qD,qe,qE,qw,jv,qF,ji,jw,qG,jj,jx,jy,qH,bG,bB];exact e2
  ·refine⟨l1,λs hs=>hs,λz=>br z ht,s1,d1,?_⟩
   rw[show tg names t=ai from aR ht];rfl
 obtain⟨l2,m2,mt,s2,d2,e2⟩:=BO;rw[e1];simp only[zl,jp,qC,qV,jq,jr,jt,ju,qD,qe,qE,qw,jv,qF,ji,jw,qG,jj,jx,jy,qH,bG,bB];rw[e2];simp only[zl,jp,qC,qV,jq,jr,jt,ju,qD,qe,qE,qw,jv,qF,ji,jw,qG,jj,jx,jy,qH,bG,bB];have Cn:=TH (c:=c) NM hn s2 d2;rw[fP (show ¬ (16:Int)<(l2.length:Int) by omega),bB];unfold Dw;rw[QO (by omega)];simp only[zl,jp,qC,qV,jq,jr,jt,ju,qD,qe,qE,qw,jv,qF,ji,jw,qG,jj,jx,jy,qH,bG,bB];refine⟨_,rfl,⟨rfl,s2,d2,λi j h=>?_,λi j h=>?_⟩,J_ _,rfl,⟨λs hs=>m2 s ((m1 s).mpr (.inl hs)),mt⟩,rfl⟩
 ·rcases h with h|⟨rfl,rfl⟩
  ·exact m2 _ ((m1 _).mpr (.inl (H.node i j h)))
  ·exact m2 _ ((m1 _).mpr (.inr rfl))
 ·dsimp only
  rw[DM]
  by_cases he:i=k/\j=o
  ·obtain⟨rfl,rfl⟩:=he
   rw[aG rfl,hf2]
  ·rcases h with h|h
   ·rw[aR (λz=>he ?_),hf i j h he]
    ·exact H.B5 i j h
    ·have z1:=gb Prod.fst z
     have z2:=gb Prod.snd z;exact⟨(Lb NM k0 (by omega) (hD i j h).1 (by have:=(hD i j h).2;omega) z1).symm,z2.symm⟩
   ·exact br h he
def All(n w:Nat):Int->Int->Prop:=λk o=>0<=k/\k<n/\0<=o/\o<w
theorem Holds.imp{c:aH}{names actions:List ao}{n w:Nat}{f:Int->Int->Int×Int}{D D':Int->Int->Prop}(H:Holds c names actions n w f D) (h:∀k o,D' k o->D k o):Holds c names actions n w f D':=⟨H.out,H.sub,H.nd,λk o z=>H.node k o (h k o z),λk o z=>H.B5 k o (h k o z)⟩
theorem TK{δ:Type}{names:List ao}{t:Int}(h:t<names.length):(aL (decide ((0:Int)<=t)) (Res.bind (zY names t) λAF=>(Res.ok (ah AF))) (Res.ok ai):Res δ (au ao)) = .ok (tg names t):=by
 by_cases ht:0<=t
 ·rw[bJ ht,bG,QF ht h,zl]
  unfold tg;rw[aG ht]
 ·rw[fP ht,bB]
  unfold tg;rw[aR ht]
theorem znI{w:Nat}(w1:1<=w) (w4:w<=4) {s:ao}(h:Nm s):Qc (w:Int) s = .ok ((),⟨w,s,[s],[]⟩):=by
 unfold Qc;rw[bJ (show(1:Int)<=(w:Int) by omega),bJ (show(w:Int)<=4 by omega),D6 h];rfl
def Zl(found:List Int) (t:Int):List Int:=if 0<=t/\t ∉ found then found++[t] else found
theorem zjs{found:List Int}{t x:Int}:x∈Zl found t↔x∈found\/(0<=t/\x=t):=by
 unfold Zl
 split
 ·rename_i h
  simp only[iM,pW];constructor
  ·exact λz=>z.imp id λy=>⟨h.1,y⟩
  ·exact λz=>z.imp id λy=>y.2
 ·rename_i h
  constructor
  ·exact .inl
  ·rintro(z|⟨z,rfl⟩)
   ·exact z
   ·exact Classical.byContradiction λy=>h ⟨z,y⟩
structure tF(l:List Int) (n:Nat):Prop where
 lt:∀x∈l,0<=x/\x<n
 nd:l.Nodup
theorem tF.len{l:List Int}{n:Nat}(h:tF l n):l.length<=n:=by
 have:=DL (m:=(dh n).map λk:Nat=>(k:Int)) h.nd λs hs=>by
  obtain⟨h0,h1⟩:=h.lt s hs;exact eR.mpr ⟨s.toNat,BE.mpr (by omega),by omega⟩
 simpa using this
theorem tF.step{l:List Int}{n:Nat}(h:tF l n) {t:Int}(ht:t<n):tF (Zl l t) n:=by
 unfold Zl
 split
 ·rename_i z
  refine⟨λx hx=>?_,?_⟩
  ·rcases iM.mp hx with y|y
   ·exact h.lt x y
   ·simp at y;subst y;exact⟨z.1,ht⟩
  ·rw[EA]
   exact⟨h.nd,by simp,λa ha b hb=>by simp at hb;subst hb;exact λy=>z.2 (y ▸ ha)⟩
 ·exact h
def grow(found:List Int) (ts:List Int):List Int:=ts.foldl Zl found
section
theorem zlY{δ α ν β ρ ν':Type}{f:α->ν->X.RF δ ν ν ρ}{xs:List α}{s0:ν}{Q:ν->Prop}{T:ρ->Prop}{K:ν->X.RF δ ν' β ρ}{k:ν'->ρ}(h:∃s',(jW f xs s0:X.RF δ ν β ρ) = .ok (.nx s')/\Q s') (hk:∀s',Q s'->∃r,Res.fin (K s') k = .ok r/\T r):∃r,Res.fin (Res.seq (jW f xs s0) K) k = .ok r/\T r:=by
 obtain⟨s',e,q⟩:=h;rw[e,qV];exact hk s' q
theorem zlZ{δ α ν β ρ ν':Type}{f:α->ν->X.RF δ ν ν ρ}{xs:List α}{s0:ν}{Q:ν->Prop}{T:ν'->Prop}{K:ν->X.RF δ ν' β ρ}(h:∃s',(jW f xs s0:X.RF δ ν β ρ) = .ok (.nx s')/\Q s') (hk:∀s',Q s'->∃r,K s' = .ok (.nx r)/\T r):∃r,Res.seq (jW f xs s0) K = .ok (.nx r)/\T r:=by
 obtain⟨s',e,q⟩:=h;rw[e,qV];exact hk s' q
abbrev fL:=List (List (au (Int×Int)))
structure ja(rows:fL) (n w:Nat):Prop where
 len:rows.length=n
 wide:∀row∈rows,row.length=w
 ok:∀row∈rows,∀x,ah x∈row->(0<=x.1/\x.1<4) /\ -1<=x.2/\x.2<n
def JH(rows:fL) (k:Int):List (au (Int×Int)):=(rows[k.toNat]?).getD []
def Qx(rows:fL) (k o:Int):au (Int×Int):=((JH rows k)[o.toNat]?).getD ai
def fO(rows:fL) (k o:Int):Int×Int:=(Qx rows k o).getD (0,-1)
def dO(rows:fL) (n w:Nat):Int->Int->Prop:=λk o=>All n w k o/\(Qx rows k o).isSome=aj
section
variable{rows:fL}{n w:Nat}
theorem ja.at_(R:ja rows n w) {k:Int}(k0:0<=k) (k1:k<n):rows[k.toNat]? = ah (JH rows k):=by
 unfold JH
 cases h:rows[k.toNat]? with
 |none=>have:=Vv.mp h;have:=R.len;omega
 |some r=>rfl
theorem ja.BJ(R:ja rows n w) {k:Int}(k0:0<=k) (k1:k<n):JH rows k∈rows:=di (R.at_ k0 k1)
theorem ja.l8(R:ja rows n w) {k:Int}(k0:0<=k) (k1:k<n):(JH rows k).length=w:=R.wide _ (R.BJ k0 k1)
theorem ja.get{δ:Type}(R:ja rows n w) {k:Int}(k0:0<=k) (k1:k<n):(zY rows k:Res δ _) = .ok (JH rows k):=by
 have:=Qa (δ:=δ) (R.at_ k0 k1);rwa [ES k0]at this
theorem ja.FD(R:ja rows n w) {k o:Int}(k0:0<=k) (k1:k<n) (o0:0<=o) (o1:o<w):(JH rows k)[o.toNat]? = ah (Qx rows k o):=by
 unfold Qx
 cases h:(JH rows k)[o.toNat]? with
 |none=>have:=Vv.mp h;have:=R.l8 k0 k1;omega
 |some r=>rfl
theorem ja.ent{δ:Type}(R:ja rows n w) {k o:Int}(k0:0<=k) (k1:k<n) (o0:0<=o) (o1:o<w):(zY (JH rows k) o:Res δ _) = .ok (Qx rows k o):=by
 have:=Qa (δ:=δ) (R.FD k0 k1 o0 o1);rwa [ES o0]at this
theorem ja.val(R:ja rows n w) {k o:Int}(k0:0<=k) (k1:k<n) (o0:0<=o) (o1:o<w) {x:Int×Int}(h:Qx rows k o=ah x):(0<=x.1/\x.1<4) /\ -1<=x.2/\x.2<n:=
 R.ok _ (R.BJ k0 k1) x (by rw[<- h];exact di (R.FD k0 k1 o0 o1))
structure dv(c:aH) (rows:fL) (names actions:List ao) (n w:Nat):Prop where
 H:Holds c names actions n w (fO rows) (dO rows n w)
 fst:nm names 0∈c.nodes
 tq:∀k o,dO rows n w k o->0<=(fO rows k o).2->nm names (fO rows k o).2∈c.nodes
 no:∀k o,All n w k o->Qx rows k o=ai->Jh (nm names k,o) c.edges=ai
theorem znJ{names actions:List ao}{N:Nat}(R:ja rows n w) (NM:Names names N) (AM:Names actions 4) (hn:n<=N) (n1:1<=n) (vX:n<=16) (w1:1<=w) (w4:w<=4) :
  ∃c,Aj rows names actions = .ok c/\dv c rows names actions n w/\c.edges.length<=200:=by
 have nl:=NM.len;have al:=AM.len;unfold Aj;rw[R.get (by decide) (show(0:Int)<n by omega),zl,zl,QF (by decide) (show(0:Int)<names.length by omega),zl,R.l8 (by decide) (show(0:Int)<n by omega),znI w1 w4 (D8 NM (by decide) (by omega)),qw,zl,R.len,pP (by omega),zl];dsimp only
 let P:aH->(Int->Int->Prop)->Nat->Prop:=λc D m=>Holds c names actions n w (fO rows) (λk o=>D k o/\(Qx rows k o).isSome=aj)/\c.edges.length<=m/\nm names 0∈c.nodes/\(∀k o,D k o->(Qx rows k o).isSome=aj->0<=(fO rows k o).2->nm names (fO rows k o).2∈c.nodes) /\
  ∀k o,All n w k o->(Qx rows k o=ai \/ ¬ D k o)->Jh (nm names k,o) c.edges=ai
 refine zlY (Q:=λc=>P c (All n w) (n * w)) ?_ (λc h=>⟨c,by rw[jj],⟨h.1,h.2.2.1,λk o hd h0=>h.2.2.2.1 k o hd.1 hd.2 h0,λk o ha he=>h.2.2.2.2 k o ha (.inl he)⟩,by
  have:n * w<=16 * 4:=Bp vX w4;have:=h.2.1;omega⟩)
 have fin:=y9 (δ:=ax) (β:=aE) (ρ:=aH) (f:=λ(b6:Int) (cA:(aH))=>
(Res.seq ((Res.bind (Res.bind (Res.bind (zY rows b6) λe_=>(Res.ok (e_.length:Int))) λn=>rng 0 n) λxf=>jW (λ(rj:Int) (lK:(aH))=>
(Res.bind (Res.bind (zY rows b6) λnT=>(zY nT rj)) λkj=>(aL (iN kj)
((Res.bind (Res.bind (Res.bind (Res.bind (ck kj) λtu=>(Res.ok tu.1)) λKZ=>(zY actions KZ)) λAk=>(Res.bind (Res.bind (Res.bind (Res.bind (ck kj) λK0=>(Res.ok K0.2)) λK2=>(Res.ok (decide ((0:Int)<=K2)))) λAm=>(aL Am (Res.bind (Res.bind (Res.bind (ck kj) λK3=>(Res.ok K3.2)) λAn=>(zY names An)) λAo=>(Res.ok (ah Ao))) (Res.ok (ai:au ao)))) λAp=>(Res.ok (Ak,Ap)))) λAq=>(Res.bind (Res.bind (zY names b6) λAr=>(Res.ok (Ar,rj))) λkP=>(Res.bind (Res.on (q9 lK kP Aq) λTb=>()) λAs=>Res.ok (PF.nx As.2)))))
(Res.ok (PF.nx lK))))) xf cA))
λ(tv:(aH))=>
Res.ok (PF.nx tv)))
  (λxs c=>∃j:Nat,xs=((dh n).drop j).map (λi:Nat=>(i:Int))/\j<=n/\P c (λk o=>0<=k/\k<j/\0<=o/\o<w) (j * w)) (λx xs c ⟨j,hx,hj,hP⟩=>by
   obtain⟨lt,rfl,hxs⟩:=Si hx;rw[R.get (show(0:Int)<=j by omega) (by omega),zl,zl,R.l8 (show(0:Int)<=j by omega) (by omega),pP (by omega),zl];refine zlZ (T:=λc=>∃j:Nat,xs=((dh n).drop j).map (λi:Nat=>(i:Int))/\j<=n/\P c (λk o=>0<=k/\k<j/\0<=o/\o<w) (j * w)) (y9 (λys c=>∃i:Nat,ys=((dh w).drop i).map (λi:Nat=>(i:Int))/\i<=w/\P c (λk o=>(0<=k/\k<j/\0<=o/\o<w)\/(k=j/\0<=o/\o<i)) (j * w+i)) (λy ys c ⟨i,hy,hi,H,hl,hz,ht,hg⟩=>?_) ((dh w).map λi:Nat=>(i:Int)) c ⟨0,rfl,by omega,?_⟩) (λc' ⟨i,hi0,hi1,H,hl,hz,ht,hg⟩=>?_)
   ·obtain⟨li,rfl,gU⟩:=Si hy
    rw[zl,R.ent (show(0:Int)<=j by omega) (by omega) (by omega) (by omega),zl]
    cases he:Qx rows (j:Int) (i:Int) with
    |none=>
     rw[show(ai:au (Int×Int)).isSome=ak from rfl,bB];refine⟨_,rfl,i+1,gU,by omega,H.imp λk o h=>⟨?_,h.2⟩,by omega,hz,λk o h hs=>ht k o ?_ hs,λk o ha h=>hg k o ha ?_⟩
     ·have z : ¬ (k=(j:Int)/\o=(i:Int)):=λz=>by obtain⟨rfl,rfl⟩:=z;rw[he]at h;exact br h.2 (by simp)
      have:=h.1;omega
     ·have z : ¬ (k=(j:Int)/\o=(i:Int)):=λz=>by obtain⟨rfl,rfl⟩:=z;rw[he]at hs;exact br hs (by simp)
      omega
     ·rcases h with h|h
      ·exact .inl h
      ·exact .inr λz=>h (by omega)
    |some x=>
     obtain⟨⟨a0,a1⟩,t0,t1⟩:=R.val (show(0:Int)<=j by omega) (show(j:Int)<n by omega) (show(0:Int)<=i by omega) (show(i:Int)<w by omega) he;have fe:fO rows j i=x:=by unfold fO;rw[he];rfl
     rw[show(ah x).isSome=aj from rfl,bG,show(ck (ah x):Res ax _) = .ok x from rfl,zl,zl,QF a0 (by omega),zl,zl,zl,zl,zl,TK (by omega),zl,zl,QF (show(0:Int)<=j by omega) (by omega),zl,zl];have hjw:j * w<=16 * 4:=Bp (by omega) w4;obtain⟨c',e,H',hl',mq,⟨q1,q2⟩,q3⟩:=TJ (k:=(j:Int)) (o:=(i:Int)) (f':=fO rows) NM AM hn vX H (by omega) (by omega) (by omega) (by omega) (by omega) a0 a1 t1 (λ_ _ _ _=>rfl) (by rw[fe]) (λa b h=>by have:=h.1;omega);rw[e,qw,zl];refine⟨_,rfl,i+1,gU,by omega,H'.imp λk o h=>?_,by dsimp only;omega,q1 _ hz,λk o h hs h0=>?_,λk o ha h=>?_⟩
     ·by_cases z:k=(j:Int)/\o=(i:Int)
      ·exact .inr z
      ·exact .inl ⟨by have:=h.1;omega,h.2⟩
     ·by_cases z:k=(j:Int)/\o=(i:Int)
      ·obtain⟨rfl,rfl⟩:=z
       rw[fe]at h0 ⊢;exact q2 h0
      ·exact q1 _ (ht k o (by omega) hs h0)
     ·dsimp only
      rw[q3,DM,aR (λz=>?_)]
      ·exact hg k o ha (h.imp id λz y=>z (by omega))
      ·have z1:=gb Prod.fst z
       have z2:=gb Prod.snd z;have z1:=Lb NM (by omega) (by omega) ha.1 (by have:=ha.2.1;omega) z1;dsimp only at z2;subst z1;subst z2;rcases h with h|h
       ·rw[he]at h;cases h
       ·exact h (by omega)
   ·obtain⟨H,hl,hz,ht,hg⟩:=hP
    exact⟨H.imp λk o h=>⟨by have:=h.1;omega,h.2⟩,by omega,hz,λk o h=>ht k o (by omega),λk o ha h=>hg k o ha (h.imp id λz y=>z (by omega))⟩
   ·have hi:=Sj hi0
    refine⟨_,rfl,j+1,hxs,by omega,H.imp λk o h=>⟨by have:=h.1;omega,h.2⟩,?_,hz,λk o h=>ht k o (by omega),λk o ha h=>hg k o ha (h.imp id λz y=>z (by omega))⟩;rw[Nat.add_mul,Nat.one_mul];omega) ((dh n).map λi:Nat=>(i:Int)) ⟨w,nm names 0,[nm names 0],[]⟩ ⟨0,rfl,by omega,⟨rfl,λs hs=>⟨0,by decide,by omega,by simpa using hs⟩,by simp,λk o h=>by have:=h.1;omega,λk o h=>by have:=h.1;omega⟩,by simp,by simp,λk o h=>by omega,λ_ _ _ _=>rfl⟩
 obtain⟨c,e,j,hj0,hj,H,hl,hz,ht,hg⟩:=fin;have:=Sj hj0;have:j=n:=by omega
 subst this;refine⟨c,e,H.imp λk o h=>⟨?_,h.2⟩,hl,hz,λk o h=>ht k o ?_,λk o ha h=>hg k o ha (h.imp id λz y=>z ?_)⟩
 ·have:=h.1;unfold All at this;omega
 ·unfold All at h;omega
 ·unfold All;omega
end
end
end dq
end WL
end
section
namespace WL
namespace dq
open PySem WL.X WL.Y
open L2 (atI ixN)
abbrev fM:ao:=⟨"outcome",by decide +kernel⟩
abbrev Qy:ao:=⟨"edge",by decide +kernel⟩
section
variable{c:aH}{node a t:ao}{o:Int}
theorem AR{w:Int}(h0:0<=o) (h1:o<w):(!(decide ((0:Int)<=o) && decide (o<w)))=ak:=by rw[bJ h0,bJ h1];rfl
theorem TM{w:Int}(h : ¬ (0<=o/\o<w)):(!(decide ((0:Int)<=o) && decide (o<w)))=aj:=by
 rw[Vj,Bool.and_eq_false_iff,UM,UM];omega
theorem zpy{s:ao}:J5 (zC s)=ah s:=by
 unfold J5 zC;dsimp only;rw[dif_pos s.2]
theorem TN{δ:Type}{s:ao}{i:Int}:(kL J5 [3,4] 6 ⟨4,[(5,zm i),(6,zC s)]⟩:Res δ ao) = .ok s:=by
 have e:((ZV 6 [(5,zm i),(6,zC s)]).bind J5)=ah s:=by simp[ZV,zpy]
 unfold kL;dsimp only;rw[e];rfl
theorem znK(h:node∈c.nodes) (ho : ¬ (0<=o/\o<c.cU)):zO c (node,o) = .ex ⟨2,[(5,zm o)]⟩ ():=by
 unfold zO;dsimp only;rw[Qk h,show(!aj)=ak from rfl,bB,TM ho];rfl
theorem zl0(h:node∈c.nodes) (h0:0<=o) (h1:o<c.cU) (he:Jh (node,o) c.edges=ai):zO c (node,o) = .ex ⟨4,[(5,zm o),(6,zC node)]⟩ ():=by
 unfold zO;dsimp only;rw[Qk h,show(!aj)=ak from rfl,bB,AR h0 h1,bB,he];rfl
theorem zpz(h:node∈c.nodes) (h0:0<=o) (h1:o<c.cU) {v:ao×au ao}(he:Jh (node,o) c.edges=ah v):zO c (node,o) = .ok v:=by
 unfold zO;dsimp only;rw[Qk h,show(!aj)=ak from rfl,bB,AR h0 h1,bB,znm he,he];rfl
end
section
variable{δ α ν β ρ ν':Type}{f:α->ν->X.RF δ ν ν ρ}{x:α}{xs:List α}{s s':ν}{K:ν->X.RF δ ν' β ρ}{k:ν'->ρ}
theorem Lc:Res.fin (Res.seq (jW f [] s) K) k=Res.fin (K s) k:=rfl
theorem D9(h:f x s = .ok (.nx s')):Res.fin (Res.seq (jW f (x :: xs) s) K) k=Res.fin (Res.seq (jW f xs s') K) k:=by rw[Kp h]
theorem AS{r:ρ}(h:f x s = .ok (.rt r)):Res.fin (Res.seq (jW f (x :: xs) s) K) k = .ok r:=by rw[znk h];rfl
theorem AU{e:eW}{d:δ}(h:f x s = .ex e d):Res.fin (Res.seq (jW f (x :: xs) s) K) k = .ex e d:=by
 have:(jW f (x :: xs) s:X.RF δ ν β ρ) = .ex e d:=by unfold jW;rw[h]
 rw[this];rfl
end
def gO(k:Int) (s:List Int) (e:au (Int×Int)):List Int:=match e with
 |none=>s
 |some x=>Zl (Zl s k) x.2
section
variable{rows:fL}{n w:Nat}
theorem ja.VJ(R:ja rows n w) {k:Int}(k0:0<=k) (k1:k<n) {x:Int×Int}(h:ah x∈JH rows k):∃o,dO rows n w k o/\fO rows k o=x:=by
 obtain⟨i,hi⟩:=wz.mp h;have lt:=(bP.mp hi).1;rw[R.l8 k0 k1]at lt;have e:Qx rows k (i:Int)=ah x:=by unfold Qx;rw[show((i:Int)).toNat=i from rfl,hi];rfl
 exact⟨i,⟨⟨k0,k1,by omega,by omega⟩,by rw[e];rfl⟩,by unfold fO;rw[e];rfl⟩
structure Ord(G:Int->Prop) (n:Nat) (l:List Int):Prop where
 part:tF l n
 ne:l ≠ []
 all:∀x∈l,G x
theorem Ord.step{G:Int->Prop}{l:List Int}(h:Ord G n l) {t:Int}(ht:t<n) (g:0<=t->G t):Ord G n (Zl l t):=⟨h.part.step ht,by
 unfold Zl
 split
 ·simp
 ·exact h.ne,λx hx=>by
 rcases zjs.mp hx with y|⟨y,rfl⟩
 ·exact h.all x y
 ·exact g y⟩
theorem zl1{δ β ρ ν':Type}{l:List Int}{t:Int}(h:tF l n) (hn:n<=60) {K:List Int->X.RF δ ν' β ρ}{b:aw}(hb:b=(decide (0<=t) && !ZL t l)):Res.seq ((aL b ((Res.bind (push l t) λnU=>Res.ok (PF.nx nU))) (Res.ok (PF.nx l))):X.RF δ (List Int) β ρ) K=K (Zl l t):=by
 subst hb;unfold Zl;have hl:=h.len
 by_cases h1:0<=t
 ·by_cases h2:t∈l
  ·rw[bJ h1,Qk h2,aR (λz=>z.2 h2)];rfl
  ·rw[bJ h1,Kr h2,aG ⟨h1,h2⟩,Jq (by omega)];rfl
 ·rw[fP h1,aR (λz=>h1 z.1)];rfl
theorem zl2(R:ja rows n w) (n1:1<=n) (vX:n<=16) (G:Int->Prop) (g0:G 0) (g1:∀k o,dO rows n w k o->G k) (g2:∀k o,dO rows n w k o->0<=(fO rows k o).2->G (fO rows k o).2):∃order,Au rows = .ok order/\Ord G n order:=by
 unfold Au;rw[R.len,pP (by omega),zl]
 have fin:=QW (δ:=aE) (β:=aE) (ρ:=List Int) (f:=λ(k5:Int) (s4:((List Int)))=>
(Res.seq ((Res.bind (zY rows k5) λv7=>jW (λ(eG:au (Int×Int)) (s8:((List Int)))=>
(Res.seq ((aL ((iN eG) && (!ZL k5 s8))
((Res.bind (push s8 k5) λnU=>Res.ok (PF.nx nU)))
(Res.ok (PF.nx s8))))
λ(cA:((List Int)))=>
(Res.bind (aL (iN eG) (Res.bind (Res.bind (Res.bind (ck eG) λlM=>(Res.ok lM.2)) λAv=>(Res.ok (decide ((0:Int)<=Av)))) λtx=>(aL tx (Res.bind (Res.bind (ck eG) λe_=>(Res.ok e_.2)) λnR=>(Res.ok (!ZL nR cA))) (Res.ok ak))) (Res.ok ak)) λvP=>(aL vP
((Res.bind (Res.bind (ck eG) λnV=>(Res.ok nV.2)) λlN=>(Res.bind (push cA lN) λfJ=>Res.ok (PF.nx fJ))))
(Res.ok (PF.nx cA)))))) v7 s4))
λ(s6:((List Int)))=>
Res.ok (PF.nx s6))) (λs k=>(JH rows k).foldl (gO k) s) (Ord G n) ((dh n).map λi:Nat=>(i:Int)) [0] ⟨⟨λx hx=>by simp at hx;subst hx;omega,by simp⟩,by simp,λx hx=>by simp at hx;subst hx;exact g0⟩ (λk hk s hs=>by
  obtain⟨i,hi,rfl⟩:=eR.mp hk;have hi:=BE.mp hi
  have inner:=QW (δ:=aE) (β:=List Int) (ρ:=List Int) (f:=λ(eG:au (Int×Int)) (s8:((List Int)))=>
(Res.seq ((aL ((iN eG) && (!ZL (i:Int) s8))
((Res.bind (push s8 (i:Int)) λnU=>Res.ok (PF.nx nU)))
(Res.ok (PF.nx s8))))
λ(cA:((List Int)))=>
(Res.bind (aL (iN eG) (Res.bind (Res.bind (Res.bind (ck eG) λlM=>(Res.ok lM.2)) λAv=>(Res.ok (decide ((0:Int)<=Av)))) λtx=>(aL tx (Res.bind (Res.bind (ck eG) λe_=>(Res.ok e_.2)) λnR=>(Res.ok (!ZL nR cA))) (Res.ok ak))) (Res.ok ak)) λvP=>(aL vP
((Res.bind (Res.bind (ck eG) λnV=>(Res.ok nV.2)) λlN=>(Res.bind (push cA lN) λfJ=>Res.ok (PF.nx fJ))))
(Res.ok (PF.nx cA)))))) (gO i) (Ord G n) (JH rows i) s hs (λe he s hs=>by
   cases e with
   |none=>exact⟨rfl,hs⟩
   |some x=>
    obtain⟨o,hd,hf⟩:=R.VJ (show(0:Int)<=i by omega) (by omega) he;obtain⟨_,t0,t1⟩:=R.ok _ (R.BJ (show(0:Int)<=i by omega) (by omega)) x he;have eK:Ord G n (Zl s i):=hs.step (by omega) λ_=>g1 _ _ hd;refine⟨?_,eK.step t1 λz=>by have:=g2 _ _ hd;rw[hf]at this;exact this z⟩;rw[zl1 hs.part (by omega) (by rw[bJ (show(0:Int)<=i by omega)];rfl)];rw[show(ah x).isSome=aj from rfl,bG,show(ck (ah x):Res aE _) = .ok x from rfl,zl,zl,zl,zl];have hl:=eK.part.len;show _=Res.ok (PF.nx (Zl (Zl s i) x.2))
    by_cases h1:0<=x.2
    ·by_cases h2:x.2∈Zl s i
     ·rw[bJ h1,Qk h2,show Zl (Zl s i) x.2=Zl s i from aR (λz=>z.2 h2)];rfl
     ·rw[bJ h1,Kr h2,show Zl (Zl s i) x.2=Zl s i++[x.2] from aG ⟨h1,h2⟩,bG,zl,zl,show(!ak)=aj from rfl,bG,Jq (by omega)];rfl
    ·rw[fP h1,show Zl (Zl s i) x.2=Zl s i from aR (λz=>h1 z.1)];rfl)
  refine⟨?_,inner.2⟩;rw[R.get (show(0:Int)<=i by omega) (by omega),zl,inner.1];rfl)
 rw[fin.1];exact⟨_,rfl,fin.2⟩
end
inductive Jx where
 |stop
 |exit
 |hole (k o:Int)
 |bad (o:Int)
def cn(rows:fL) (w:Nat) (actions:List ao):List Int->Int->List ao×Jx
 |[],_=>([],.stop)
 |o :: os,k=>if 0<=o/\o<w then match Qx rows k o with
  |none=>([],.hole k o)
  |some x=>if x.2<0 then ([nm actions x.1],.exit) else (nm actions x.1 :: (cn rows w actions os x.2).1,(cn rows w actions os x.2).2)
  else ([],.bad o)
abbrev hU:ao:=⟨"run",by decide +kernel⟩
abbrev Qz:ao:=⟨"exit",by decide +kernel⟩
def mQ(names:List ao):Jx->List Dt
 | .stop=>[]
 | .exit=>[.str Qz]
 | .hole k o=>[.str Qy,.str (nm names k),.int o]
 | .bad o=>[.str fM,.int o]
section
variable{rows:fL}{n w:Nat}{names actions:List ao}
abbrev AV(rows:fL) (names actions:List ao) (kq:Int):Int->((List Dt)×Int)->X.RF aE ((List Dt)×Int) ((List Dt)×Int) (List (List Dt)):=λc7 (s9:((List Dt)×Int))=>
(aL ((decide (c7<(0:Int)))||(decide (kq<=c7)))
(Res.ok (PF.rt [s9.1,[(Dt.str (⟨"outcome",by decide +kernel⟩:ao)),(Dt.int c7)]]))
((Res.bind (Res.bind (Res.bind (zY rows s9.2) λK5=>(zY K5 c7)) λlM=>(Res.ok (kT lM))) λtD=>(aL tD
((Res.bind (zY names s9.2) λhM=>Res.ok (PF.rt [s9.1,[(Dt.str (⟨"edge",by decide +kernel⟩:ao)),(Dt.str hM),(Dt.int c7)]])))
((Res.bind (Res.bind (Res.bind (Res.bind (Res.bind (zY rows s9.2) λhQ=>(zY hQ c7)) λnT=>(ck nT)) λAy=>(Res.ok Ay.1)) λnV=>(zY actions nV)) λlN=>(Res.bind (push s9.1 (Dt.str lN)) λfJ=>(Res.bind (Res.bind (Res.bind (Res.bind (zY rows s9.2) λAz=>(zY Az c7)) λAA=>(ck AA)) λtu=>(Res.ok tu.2)) λm_=>(aL (decide (m_<(0:Int)))
(Res.ok (PF.rt [fJ,[(Dt.str (⟨"exit",by decide +kernel⟩:ao))]]))
(Res.ok (PF.nx (fJ,m_))))))))))))
theorem TR{o:Int}{w:Nat}(h0:0<=o) (h1:o<w):((decide (o<(0:Int)))||(decide ((w:Int)<=o)))=ak:=by rw[fP (by omega),fP (by omega)];rfl
theorem zpA{o:Int}{w:Nat}(h : ¬ (0<=o/\o<w)):((decide (o<(0:Int)))||(decide ((w:Int)<=o)))=aj:=by
 rw[U9,UN,UN];omega
theorem TU(R:ja rows n w) {N:Nat}(NM:Names names N) (AM:Names actions 4) (hn:n<=N):∀(row:List Int) (k:Int) (acc:List Dt),0<=k->k<n->acc.length+row.length<=100000 ->
  Res.fin (ν:=aE) (β:=aE) (Res.seq (jW (AV rows names actions w) row (acc,k)) λ(s8:((List Dt)×Int))=>Res.ok (PF.rt [s8.1,([]:List Dt)])) (λz=>nomatch z) = .ok [acc++(cn rows w actions row k).1.map Dt.str,mQ names (cn rows w actions row k).2]
 |[],k,acc,_,_,_=>by
  rw[Lc];show _=Res.ok [acc++[],[]];rw[fR];rfl
 |o :: os,k,acc,k0,k1,hl=>by
  have nl:=NM.len;have al:=AM.len;unfold cn
  by_cases ho:0<=o/\o<w
  ·rw[aG ho]
   have g:=R.get (δ:=aE) k0 k1;have g2:=R.ent (δ:=aE) k0 k1 ho.1 ho.2
   cases he:Qx rows k o with
   |none=>
    rw[he]at g2
    rw[AS (r:=[acc,mQ names (.hole k o)]) (by
     dsimp only[AV];rw[TR ho.1 ho.2,bB,g,zl,g2,zl,show(kT (ai:au (Int×Int)))=aj from rfl,zl,bG,QF k0 (by omega)];rfl)]
    simp
   |some x=>
    rw[he]at g2;obtain⟨⟨a0,a1⟩,t0,t1⟩:=R.val k0 k1 ho.1 ho.2 he
    have body:∀r,AV rows names actions w o (acc,k)=r↔(aL (decide (x.2<(0:Int))) (Res.ok (PF.rt [acc++[Dt.str (nm actions x.1)],[(Dt.str Qz)]])) (Res.ok (PF.nx (acc++[Dt.str (nm actions x.1)],x.2))))=r:=λr=>by
     have:=hl;simp only[cq]at this;dsimp only[AV];rw[TR ho.1 ho.2,bB,g,zl,g2,zl,show(kT (ah x))=ak from rfl,zl,bB,zl,show(ck (ah x):Res aE _) = .ok x from rfl,zl,zl,QF a0 (by omega),zl,Jq (by omega),zl,zl,zl]
    dsimp only
    by_cases hx:x.2<0
    ·rw[aG hx,AS ((body _).mpr (by rw[bJ hx,bG]))]
     rfl
    ·rw[aR hx,D9 ((body _).mpr (by rw[fP hx,bB])),TU R NM AM hn os x.2 (acc++[Dt.str (nm actions x.1)]) (by omega) t1 (by simp only[cq,dw,oB]at *;omega)]
     simp
  ·rw[aR ho,AS (r:=[acc,mQ names (.bad o)]) (by
    dsimp only[AV];rw[zpA ho];rfl)]
   simp
theorem zjt(R:ja rows n w) {N:Nat}(NM:Names names N) (AM:Names actions 4) (hn:n<=N) (n1:1<=n) {row:List Int}{k:Int}(k0:0<=k) (k1:k<n) (hl:row.length<=2000):Ax rows row k names actions = .ok [(cn rows w actions row k).1.map Dt.str,mQ names (cn rows w actions row k).2]:=by
 unfold Ax;rw[R.get (by decide) (show(0:Int)<n by omega),zl,zl,R.l8 (by decide) (show(0:Int)<n by omega)];exact TU R NM AM hn row k [] k0 k1 (by simp;omega)
end
end dq
end WL
end
section
namespace WL
namespace dq
open PySem WL.X WL.Y
open L2 (atI ixN)
section
theorem D_{c:aH}{s:ao}{o:Int}:jz c (ah s,o)=zO c (s,o):=rfl
section
variable{c:aH}{rows:fL}{n w:Nat}{names actions:List ao}
theorem dv.hole(P:dv c rows names actions n w) {k o:Int}(h:All n w k o) (hn:nm names k∈c.nodes) (he:Qx rows k o=ai):zO c (nm names k,o) = .ex ⟨4,[(5,zm o),(6,zC (nm names k))]⟩ ():=zl0 hn h.2.2.1 (by rw[P.H.out];exact h.2.2.2) (P.no k o h he)
theorem dv.bad(P:dv c rows names actions n w) {k o:Int}(hn:nm names k∈c.nodes) (ho : ¬ (0<=o/\o<w)):zO c (nm names k,o) = .ex ⟨2,[(5,zm o)]⟩ ():=znK hn (by rw[P.H.out];exact ho)
theorem dv.go(P:dv c rows names actions n w) {k o:Int}(h:All n w k o) {x:Int×Int}(he:Qx rows k o=ah x):zO c (nm names k,o) = .ok (nm actions x.1,tg names x.2):=by
 have hd:dO rows n w k o:=⟨h,by rw[he];rfl⟩
 have hf:fO rows k o=x:=by unfold fO;rw[he];rfl
 have:=P.H.B5 k o hd;rw[hf]at this;exact zpz (P.H.node k o hd) h.2.2.1 (by rw[P.H.out];exact h.2.2.2) this
theorem dv.to(P:dv c rows names actions n w) {k o:Int}(h:All n w k o) {x:Int×Int}(he:Qx rows k o=ah x) (h0:0<=x.2):nm names x.2∈c.nodes:=by
 have hd:dO rows n w k o:=⟨h,by rw[he];rfl⟩
 have hf:fO rows k o=x:=by unfold fO;rw[he];rfl
 have:=P.tq k o hd;rw[hf]at this;exact this h0
def exO(names:List ao):Jx->au eW
 | .stop=>ai
 | .exit=>ai
 | .hole k o=>ah ⟨4,[(5,zm o),(6,zC (nm names k))]⟩
 | .bad o=>ah ⟨2,[(5,zm o)]⟩
def Ea(names:List ao) (ms:List ao) (e:Jx):Res (List ao) (ax×List ao):=match exO names e with
 |none=>.ok ((),ms)
 |some x=>.ex x ms
noncomputable abbrev AW(c:aH):Int->((List ao)×(au ao))->X.RF (List ao) ((List ao)×(au ao)) ((List ao)×(au ao)) (ax×List ao):=λiO (s6:((List ao)×(au ao)))=>
(Res.bind (Res.on (jZ c s6.2 iO) λx9=>s6.1) λv8=>(Res.bind (push s6.1 v8.1) λmO=>(aL (kT v8.2)
(Res.ok (PF.rt ((),mO)))
(Res.ok (PF.nx (mO,v8.2))))))
theorem Ld{s:ao}{o:Int}:jZ c (ah s) o=zO c (s,o):=by
 unfold jZ;rw[D_]
 cases zO c (s,o) <;> rfl
theorem zqs{s:ao}{o:Int}:Qd c s o=zO c (s,o):=by
 unfold Qd
 cases zO c (s,o) <;> rfl
theorem TV(R:ja rows n w) (P:dv c rows names actions n w):∀(row:List Int) (k:Int) (acc:List ao),0<=k->k<n->nm names k∈c.nodes->acc.length+row.length<=100000 ->
  Res.fin (ν:=List ao) (β:=aE) (Res.seq (jW (AW c) row (acc,ah (nm names k))) λ(s5:((List ao)×(au ao)))=>Res.ok (PF.nx s5.1)) (λs=>((),s))=Ea names (acc++(cn rows w actions row k).1) (cn rows w actions row k).2
 |[],k,acc,_,_,_,_=>by
  rw[Lc];show Res.ok ((),acc)=Res.ok ((),acc++[]);rw[fR]
 |o :: os,k,acc,k0,k1,hk,hl=>by
  simp only[cq]at hl;unfold cn
  by_cases ho:0<=o/\o<w
  ·rw[aG ho]
   cases he:Qx rows k o with
   |none=>
    rw[AU (e:=⟨4,[(5,zm o),(6,zC (nm names k))]⟩) (d:=acc) (by
     dsimp only[AW];rw[Ld,P.hole ⟨k0,k1,ho.1,ho.2⟩ hk he];rfl)]
    show _=Ea names (acc++[]) (.hole k o);rw[fR];rfl
   |some x=>
    obtain⟨⟨a0,a1⟩,t0,t1⟩:=R.val k0 k1 ho.1 ho.2 he
    have body:AW c o (acc,ah (nm names k))=(aL (kT (tg names x.2)) (Res.ok (PF.rt ((),acc++[nm actions x.1]))) (Res.ok (PF.nx (acc++[nm actions x.1],tg names x.2)))):=by
     dsimp only[AW];rw[Ld,P.go ⟨k0,k1,ho.1,ho.2⟩ he,qw,zl,Jq (by omega),zl]
    dsimp only
    by_cases hx:x.2<0
    ·rw[aG hx,AS (r:=((),acc++[nm actions x.1])) (by rw[body,show tg names x.2=ai from aR (by omega)];rfl)]
     rfl
    ·have ht:tg names x.2=ah (nm names x.2):=aG (by omega)
     rw[aR hx,D9 (by rw[body,ht];exact rfl),TV R P os x.2 (acc++[nm actions x.1]) (by omega) t1 (P.to ⟨k0,k1,ho.1,ho.2⟩ he (by omega)) (by simp only[dw,cq,oB];omega)];simp
  ·rw[aR ho,AU (e:=⟨2,[(5,zm o)]⟩) (d:=acc) (by
    dsimp only[AW];rw[Ld,P.bad hk ho];rfl)]
   show _=Ea names (acc++[]) (.bad o);rw[fR];rfl
theorem zl4(R:ja rows n w) (P:dv c rows names actions n w) {k:Int}(k0:0<=k) (k1:k<n) (hk:nm names k∈c.nodes) (hs:c.start=nm names k) {row:List Int}(hl:row.length<=2000):Zu c row []=Ea names (cn rows w actions row k).1 (cn rows w actions row k).2:=by
 unfold Zu Qr;rw[jj,qe,zl,hs];exact TV R P row k [] k0 k1 hk (by simp;omega)
def TY(names:List ao) (ms:List ao):Jx->Res ax (List ao×aw)
 | .stop=>.ok (ms,ak)
 | .exit=>.ok (ms,aj)
 | .hole k o=>.ex ⟨4,[(5,zm o),(6,zC (nm names k))]⟩ ()
 | .bad o=>.ex ⟨2,[(5,zm o)]⟩ ()
noncomputable abbrev AY(c:aH):Int->((List ao)×(au ao))->X.RF ax ((List ao)×(au ao)) ((List ao)×(au ao)) (List ao×aw):=λiO (s6:((List ao)×(au ao)))=>
(Res.bind (Res.on (jz c (s6.2,iO)) λx9=>()) λv8=>(Res.bind (push s6.1 v8.1) λj_=>(aL (kT v8.2)
(Res.ok (PF.rt (j_,aj)))
(Res.ok (PF.nx (j_,v8.2))))))
theorem TZ(R:ja rows n w) (P:dv c rows names actions n w):∀(row:List Int) (k:Int) (acc:List ao),0<=k->k<n->nm names k∈c.nodes->acc.length+row.length<=100000 ->
  Res.fin (ν:=aE) (β:=aE) (Res.seq (jW (AY c) row (acc,ah (nm names k))) λ(s5:((List ao)×(au ao)))=>Res.ok (PF.rt (s5.1,ak))) (λz=>nomatch z)=TY names (acc++(cn rows w actions row k).1) (cn rows w actions row k).2
 |[],k,acc,_,_,_,_=>by
  rw[Lc];show Res.ok (acc,ak)=Res.ok (acc++[],ak);rw[fR]
 |o :: os,k,acc,k0,k1,hk,hl=>by
  simp only[cq]at hl;unfold cn
  by_cases ho:0<=o/\o<w
  ·rw[aG ho]
   cases he:Qx rows k o with
   |none=>
    rw[AU (e:=⟨4,[(5,zm o),(6,zC (nm names k))]⟩) (d:=()) (by
     dsimp only[AY];rw[D_,P.hole ⟨k0,k1,ho.1,ho.2⟩ hk he];rfl)]
    rfl
   |some x=>
    obtain⟨⟨a0,a1⟩,t0,t1⟩:=R.val k0 k1 ho.1 ho.2 he
    have body:AY c o (acc,ah (nm names k))=(aL (kT (tg names x.2)) (Res.ok (PF.rt (acc++[nm actions x.1],aj))) (Res.ok (PF.nx (acc++[nm actions x.1],tg names x.2)))):=by
     dsimp only[AY];rw[D_,P.go ⟨k0,k1,ho.1,ho.2⟩ he,qw,zl,Jq (by omega),zl]
    dsimp only
    by_cases hx:x.2<0
    ·rw[aG hx,AS (r:=(acc++[nm actions x.1],aj)) (by rw[body,show tg names x.2=ai from aR (by omega)];rfl)]
     rfl
    ·have ht:tg names x.2=ah (nm names x.2):=aG (by omega)
     rw[aR hx,D9 (by rw[body,ht];exact rfl),TZ R P os x.2 (acc++[nm actions x.1]) (by omega) t1 (P.to ⟨k0,k1,ho.1,ho.2⟩ he (by omega)) (by simp only[dw,cq,oB];omega)];simp
  ·rw[aR ho,AU (e:=⟨2,[(5,zm o)]⟩) (d:=()) (by
    dsimp only[AY];rw[D_,P.bad hk ho];rfl)]
   rfl
def lQ(w:Nat) (row:List Int):Prop:=∀o∈row,0<=o/\o<w
def Eb(w:Nat) (row:List Int) (b:Int):Prop:=∃pre post,row=pre++b :: post/\lQ w pre /\ ¬ (0<=b/\b<w)
theorem zpB{row:List Int}(h:lQ w row):Zs row (w:Int) = .ok ():=by
 unfold Zs
 have:=QW (δ:=ax) (β:=ax) (ρ:=ax) (f:=λ(gc:Int) (s4:ax)=>
(aL (!((decide ((0:Int)<=gc)) && (decide (gc<(w:Int)))))
(Res.ex ⟨2,[(5,zm gc)]⟩ ())
(Res.ok (PF.nx ())))) (λs _=>s) (λ_=>True) row () trivial (λo ho s _=>⟨by rw[AR (h o ho).1 (h o ho).2];rfl,trivial⟩)
 have f:=QW (δ:=ax) (β:=aE) (ρ:=ax) (f:=λ(gc:Int) (s4:ax)=>
(aL (!((decide ((0:Int)<=gc)) && (decide (gc<(w:Int)))))
(Res.ex ⟨2,[(5,zm gc)]⟩ ())
(Res.ok (PF.nx ())))) (λs _=>s) (λ_=>True) row () trivial (λo ho s _=>⟨by rw[AR (h o ho).1 (h o ho).2];rfl,trivial⟩)
 rw[f.1];rfl
theorem znM{row:List Int}{b:Int}(h:Eb w row b):Zs row (w:Int) = .ex ⟨2,[(5,zm b)]⟩ ():=by
 obtain⟨pre,post,rfl,hp,hb⟩:=h;unfold Zs
 induction pre with
 |nil=>
  rw[Bw,AU (by rw[TM hb];exact rfl)]
 |cons o os ih=>
  rw[LL,D9 (s':=()) (by rw[AR (hp o (dk ..)).1 (hp o (dk ..)).2];exact rfl)];exact ih λo ho=>hp o (dy _ ho)
theorem znN(R:ja rows n w) (P:dv c rows names actions n w) {k:Int}(k0:0<=k) (k1:k<n) (hk:nm names k∈c.nodes) (hs:c.start=nm names k) {row:List Int}(hl:row.length<=2000) (h:lQ w row):jn c row=TY names (cn rows w actions row k).1 (cn rows w actions row k).2:=by
 unfold jn;rw[P.H.out,zpB h,qw,zl,hs];exact TZ R P row k [] k0 k1 hk (by simp;omega)
theorem zl5(P:dv c rows names actions n w) {row:List Int}{b:Int}(h:Eb w row b):jn c row = .ex ⟨2,[(5,zm b)]⟩ ():=by
 unfold jn;rw[P.H.out,znM h];rfl
theorem T1(R:ja rows n w):∀(row:List Int) (k o:Int),lQ w row->(cn rows w actions row k).2 ≠ .bad o
 |[],k,o,_=>nofun
 |a :: row,k,o,h=>by
  unfold cn;rw[aG (h a (dk ..))]
  cases Qx rows k a with
  |none=>exact nofun
  |some x=>
   dsimp only
   split
   ·exact nofun
   ·exact T1 R row x.2 o λo ho=>h o (dy _ ho)
def nZ(ms:List ao):bF:=.list (ms.map λs=>.str s.1)
def Lf(names ms:List ao):Jx->bF
 | .stop=>.list [nZ ms]
 | .exit=>.list [nZ ms]
 | .hole k o=>.list [nZ ms,.str Qy.1,.str (nm names k).1,.int o]
 | .bad o=>.list [nZ ms,.str fM.1,.int o]
def Lg(names ms:List ao):Jx->bF
 | .stop=>.list [.str hU.1,nZ ms,.bool ak]
 | .exit=>.list [.str hU.1,nZ ms,.bool aj]
 | .hole k o=>.list [.str Qy.1,.str (nm names k).1,.int o]
 | .bad o=>.list [.str fM.1,.int o]
theorem zju(R:ja rows n w) (P:dv c rows names actions n w) {k:Int}(k0:0<=k) (k1:k<n) (hk:nm names k∈c.nodes) (hs:c.start=nm names k) {row:List Int}(hl:row.length<=2000):AH c row = .ok (Lf names (cn rows w actions row k).1 (cn rows w actions row k).2):=by
 unfold AH;rw[zl4 R P k0 k1 hk hs hl]
 cases(cn rows w actions row k).2 with
 |stop=>rfl
 |exit=>rfl
 |hole i o=>
  have e:=TN (δ:=aE) (s:=nm names i) (i:=o);show Res.fin (Res.seq (Res.up (Res.bind (kL J5 [3,4] 6 _) _)) _) _=_;rw[e];rfl
 |bad o=>rfl
theorem zhm{row:List Int}{i:ao}{o:Int}(h:jn c row = .ex ⟨4,[(5,zm o),(6,zC i)]⟩ ()):Zt c row = .ok (.list [.str Qy.1,.str i.1,.int o]):=by
 unfold Zt;rw[h];have e:=TN (δ:=ax) (s:=i) (i:=o);show Res.fin (Res.seq (Res.up (Res.bind (Res.nox (Res.bind (kL J5 [3,4] 6 _) _)) _)) _) _=_;rw[e];rfl
theorem T2{row:List Int}{o:Int}(h:jn c row = .ex ⟨2,[(5,zm o)]⟩ ()):Zt c row = .ok (.list [.str fM.1,.int o]):=by
 unfold Zt;rw[h];rfl
theorem T3{row:List Int}{ms:List ao}{b:aw}(hm:ms.length<=2000) (h:jn c row = .ok (ms,b)):Zt c row = .ok (.list [.str hU.1,nZ ms,.bool b]):=by
 unfold Zt;rw[h];show Res.fin (Res.seq (Res.xb _ (Res.bind (push ms _) _) _) _) _=_;rw[Jq (by omega)];rfl
theorem T4:∀(row:List Int) (k:Int),(cn rows w actions row k).1.length<=row.length
 |[],k=>bC 0
 |a :: row,k=>by
  unfold cn
  split
  ·cases Qx rows k a with
   |none=>exact aF _
   |some x=>
    dsimp only
    split
    ·simp
    ·have:=T4 row x.2
     simp only[cq];omega
  ·exact aF _
theorem T5(R:ja rows n w) (P:dv c rows names actions n w) {k:Int}(k0:0<=k) (k1:k<n) (hk:nm names k∈c.nodes) (hs:c.start=nm names k) {row:List Int}(hl:row.length<=2000) (h:lQ w row):Zt c row = .ok (Lg names (cn rows w actions row k).1 (cn rows w actions row k).2):=by
 have e:=znN R P k0 k1 hk hs hl h;have lm:=T4 (rows:=rows) (w:=w) (actions:=actions) row k
 cases h2:(cn rows w actions row k).2 with
 |stop=>rw[h2]at e;exact T3 (by omega) e
 |exit=>rw[h2]at e;exact T3 (by omega) e
 |hole i o=>rw[h2]at e;exact zhm e
 |bad o=>rw[h2]at e;exact T2 e
end
end
section
theorem Lh{δ ν β ρ ν':Type}{m:X.RF δ ν β ρ}{s:ν}{K:ν->X.RF δ ν' β ρ}{k:ν'->ρ}{r:Res δ ρ}(h:m = .ok (.nx s)) (h2:Res.fin (K s) k=r):Res.fin (Res.seq m K) k=r:=by rw[h];exact h2
def vY:Jx->aw
 | .exit=>aj
 |_=>ak
def T6:Jx->aw
 | .stop=>aj
 |_=>ak
theorem zL{s:ao}:Gd 2 (.str s.1):=vL (ti (r:=zp) s) (by decide)
theorem tm{i:Int}:Gd 2 (.int i):=vL (ti (r:=zg) i) (by decide)
theorem T7{i:aw}:Gd 2 (.bool i):=vL (ti (r:=z8) i) (by decide)
theorem vZ{ms:List ao}:Gd 2 (nZ ms):=by
 have:=ti (r:=zd zp) ms;exact vL this (by decide)
theorem zqu{names ms:List ao}{e:Jx}:Gd 3 (Lf names ms e):=by
 cases e <;> refine DN λv hv=>?_ <;> simp only[cJ,mZ,tN]at hv
 ·subst hv;exact vZ
 ·subst hv;exact vZ
 ·rcases hv with rfl|rfl|rfl|rfl
  ·exact vZ
  ·first|exact zL|exact zL (s:=Qy)|exact zL (s:=fM)|exact zL (s:=hU)|exact zL (s:=Qz)
  ·first|exact zL|exact zL (s:=Qy)|exact zL (s:=fM)|exact zL (s:=hU)|exact zL (s:=Qz)
  ·exact tm
 ·rcases hv with rfl|rfl|rfl
  ·exact vZ
  ·first|exact zL|exact zL (s:=Qy)|exact zL (s:=fM)|exact zL (s:=hU)|exact zL (s:=Qz)
  ·exact tm
theorem T8{names ms:List ao}{e:Jx}:Gd 3 (Lg names ms e):=by
 cases e <;> refine DN λv hv=>?_ <;> simp only[cJ,mZ,tN]at hv
 ·rcases hv with rfl|rfl|rfl
  ·first|exact zL|exact zL (s:=Qy)|exact zL (s:=fM)|exact zL (s:=hU)|exact zL (s:=Qz)
  ·exact vZ
  ·exact T7
 ·rcases hv with rfl|rfl|rfl
  ·first|exact zL|exact zL (s:=Qy)|exact zL (s:=fM)|exact zL (s:=hU)|exact zL (s:=Qz)
  ·exact vZ
  ·exact T7
 ·rcases hv with rfl|rfl|rfl
  ·first|exact zL|exact zL (s:=Qy)|exact zL (s:=fM)|exact zL (s:=hU)|exact zL (s:=Qz)
  ·first|exact zL|exact zL (s:=Qy)|exact zL (s:=fM)|exact zL (s:=hU)|exact zL (s:=Qz)
  ·exact tm
 ·rcases hv with rfl|rfl
  ·first|exact zL|exact zL (s:=Qy)|exact zL (s:=fM)|exact zL (s:=hU)|exact zL (s:=Qz)
  ·exact tm
abbrev v_(names:List ao) (e:Jx):bF:=zV.to (val (a_ eD)) (mQ names e)
abbrev Ec:bF:=zV.to (zd zp) [Qz]
theorem Li{names:List ao}{e:Jx}:Gd 3 (v_ names e):=by
 cases e <;> refine DN λv hv=>?_
 ·exact br hv (mZ)
 ·have hv:v∈[PyData.str Qz.1]:=hv
  simp only[cJ,mZ,tN]at hv;subst hv;first|exact zL|exact zL (s:=Qy)|exact zL (s:=fM)|exact zL (s:=hU)|exact zL (s:=Qz)
 ·rename_i k o
  have hv:v∈[PyData.str Qy.1,.str (nm names k).1,.int o]:=hv;simp only[cJ,mZ,tN]at hv;rcases hv with rfl|rfl|rfl
  ·first|exact zL|exact zL (s:=Qy)|exact zL (s:=fM)|exact zL (s:=hU)|exact zL (s:=Qz)
  ·first|exact zL|exact zL (s:=Qy)|exact zL (s:=fM)|exact zL (s:=hU)|exact zL (s:=Qz)
  ·exact tm
 ·rename_i o
  have hv:v∈[PyData.str fM.1,.int o]:=hv;simp only[cJ,mZ,tN]at hv;rcases hv with rfl|rfl
  ·first|exact zL|exact zL (s:=Qy)|exact zL (s:=fM)|exact zL (s:=hU)|exact zL (s:=Qz)
  ·exact tm
theorem Lj:Gd 3 Ec:=vL (ti (r:=zd zp) [Qz]) (by decide)
theorem T9:Gd 3 (PyData.list []):=vL (DN (m:=2) λv hv=>br hv mZ) (by decide)
theorem T_{names:List ao}{e:Jx}:PyData.eqv (v_ names e) Ec=vY e:=by
 cases e
 ·rfl
 ·exact Lj.2.2
 ·show PyData.eqv (.list [.str _,.str _,.int _]) (.list [.str _])=ak
  simp[PyData.eqv,PyData.eqvAll]
 ·show PyData.eqv (.list [.str _,.int _]) (.list [.str _])=ak
  simp[PyData.eqv,PyData.eqvAll]
theorem zpC{names:List ao}{e:Jx}:PyData.eqv (v_ names e) (.list [])=T6 e:=by
 cases e
 ·exact T9.2.2
 ·rfl
 ·rfl
 ·rfl
theorem zqv{δ:Type}{names:List ao}{e:Jx}:(eqQ (v_ names e) Ec:Res δ aw) = .ok (vY e):=by
 unfold eqQ;rw[Jd Li (by decide),Jd Lj (by decide),T_];rfl
theorem zqw{δ:Type}{names:List ao}{e:Jx}:(iH (v_ names e) Ec:Res δ aw) = .ok (!vY e):=by
 unfold iH;rw[Jd Li (by decide),Jd Lj (by decide),T_];rfl
theorem zpD{δ:Type}{names:List ao}{e:Jx}:(iH (v_ names e) (.list []):Res δ aw) = .ok (!T6 e):=by
 unfold iH;rw[Jd Li (by decide),Jd T9 (by decide),zpC];rfl
theorem Ua{ms:List ao}:zV.to (val (a_ eD)) (ms.map Dt.str)=nZ ms:=by
 show PyData.list ((ms.map Dt.str).map DK)=_;rw[mW];rfl
def AZ(names:List ao) (e:Jx):List Dt:=aL (vY e) [] (mQ names e)
theorem zqx{names ms:List ao}{e:Jx}:zV.to (zd (val (y8 (a_ eD) eD))) ([Sum.inl (ms.map Dt.str)]++(AZ names e).map Sum.inr)=Lf names ms e:=by
 have h:=Ua (ms:=ms);cases e
 ·show PyData.list [zV.to (val (a_ eD)) (ms.map Dt.str)]=_
  rw[h];rfl
 ·show PyData.list [zV.to (val (a_ eD)) (ms.map Dt.str)]=_
  rw[h];rfl
 ·show PyData.list [zV.to (val (a_ eD)) (ms.map Dt.str),_,_,_]=_
  rw[h];rfl
 ·show PyData.list [zV.to (val (a_ eD)) (ms.map Dt.str),_,_]=_
  rw[h];rfl
theorem Ub{names:List ao}{e:Jx}:(AZ names e).length<=3:=by cases e <;> (unfold AZ vY mQ;simp)
theorem znO{δ:Type}{a b:Nat}(h:a<=1000000) (h2:b<=1000000):(f6 (fits a && fits b):Res δ ax) = .ok ():=by rw[QO h,QO h2];rfl
section
variable{c:aH}{rows:fL}{n w:Nat}{names actions:List ao}
theorem Uc(R:ja rows n w) {N:Nat}(NM:Names names N) (AM:Names actions 4) (hn:n<=N) (P:dv c rows names actions n w) {k:Int}(k0:0<=k) (k1:k<n) (hk:nm names k∈c.nodes) (hs:c.start=nm names k) {row bad:List Int}(hl:row.length<=2000) (hb:(bad=[]/\lQ w row)\/∃b,bad=[b]/\Eb w row b):vS c rows row k bad names actions = .ok aj:=by
 have nl:=NM.len;have al:=AM.len;have tr:=zju R P k0 k1 hk hs hl;have hm:=Ua (ms:=(cn rows w actions row k).1)
 have hin:bad=[]->∀o,(cn rows w actions row k).2 ≠ .bad o:=λz o=>by
  rcases hb with⟨_,h⟩|⟨b,h,_⟩
  ·exact T1 R row k o h
  ·rw[h]at z;cases z
 have hc:∃want,Zt c row = .ok want/\Gd 3 want/\∀o,bad=[o]->want = .list [.str fM.1,.int o]:=by
  rcases hb with⟨rfl,h⟩|⟨b,rfl,h⟩
  ·exact⟨_,T5 R P k0 k1 hk hs hl h,T8,nofun⟩
  ·exact⟨_,T2 (zl5 P h),T8 (names:=names) (ms:=[]) (e:=.bad b),λo ho=>by cases ho;rfl⟩
 unfold vS;rw[zjt R NM AM hn (by omega) k0 k1 hl,qe,zl,show(zY [(cn rows w actions row k).1.map Dt.str,mQ names (cn rows w actions row k).2] (0:Int):Res ax _) = .ok ((cn rows w actions row k).1.map Dt.str) from rfl,zl,show(zY [(cn rows w actions row k).1.map Dt.str,mQ names (cn rows w actions row k).2] (1:Int):Res ax _) = .ok (mQ names (cn rows w actions row k).2) from rfl,zl,zl,zqv,zl];have h0:(0:Int)<n:=by omega
 generalize hwk:cn rows w actions row k=r at *
 obtain⟨ms,e⟩:=r;dsimp only at *;obtain⟨want,ec,gw,hw⟩:=hc
 have VZ:bad=[]->want=Lg names ms e:=λz=>by
  rcases hb with⟨_,h⟩|⟨b,h,_⟩
  ·have:=T5 R P k0 k1 hk hs hl h
   rw[ec,hwk]at this;exact Res.ok.inj this
  ·rw[h]at z;cases z
 refine Lh (s:=want) ?_ ?_
 ·by_cases hz:bad=[]
  ·have rX:=VZ hz
   rw[bJ hz,show(!aj)=ak from rfl,ji,zl,bB,zpD,zl,zl,zqw,zl];subst rX;have hi:=hin hz
   cases e with
   |stop=>rw[hm];rfl
   |exit=>rw[hm];rfl
   |hole k o=>rfl
   |bad o=>exact br rfl (hi o)
  ·rcases hb with⟨h,_⟩|⟨b,h,_⟩
   ·exact br h hz
   ·rw[fP hz,show(!ak)=aj from rfl,ji,zl,bG,h]
    rw[show(zY [b] (0:Int):Res ax Int) = .ok b from rfl,zl,hw b h];rfl
 refine Lh (s:=AZ names e) ?_ ?_
 ·unfold AZ
  cases vY e <;> rfl
 refine Lh (s:=()) ?_ ?_
 ·refine(QW (δ:=ax) (λs _=>()) (λ_=>True) (mI 0 (2:Int)) () trivial λx _ s _=>⟨?_,trivial⟩).1
  rw[ec,qw,zl,Ss gw (by decide),zl,zl,bB,bJ (rfl:row=row),show(!aj)=ak from rfl,bB,tr,qw,zl,znO (by simp) (by have:=Ub (names:=names) (e:=e);omega),zl,vH (by have:=Ub (names:=names) (e:=e);simp;omega),zl,show(kg Sum.inl [ms.map Dt.str]:List (List Dt ⊕ Dt))=[Sum.inl (ms.map Dt.str)] from rfl,zqx,Ss zqu (by decide)];rfl
 by_cases hz:bad=[]
 ·have hR:lQ w row:=by
   rcases hb with⟨_,h⟩|⟨b,h,_⟩
   ·exact h
   ·rw[h]at hz;cases hz
  rw[bJ hz,bG]
  cases row with
  |nil=>rfl
  |cons o os=>
   have ho:=hR o (dk ..);rw[bJ (show(0:Int)<((o :: os).length:Int) by simp only[cq];omega),bG,R.get k0 k1,zl,show(zY (o :: os) (0:Int):Res ax Int) = .ok o from Qa (i:=0) rfl,zl,R.ent k0 k1 ho.1 ho.2,zl,ji,zl]
   cases he:Qx rows k o with
   |none=>rfl
   |some x=>
    obtain⟨⟨a0,a1⟩,t0,t1⟩:=R.val k0 k1 ho.1 ho.2 he;rw[show(ah x).isSome=aj from rfl,bG,zl,QF k0 (by omega),zl,zl,zqs,P.go ⟨k0,k1,ho.1,ho.2⟩ he,qw,zl,show(ck (ah x):Res ax _) = .ok x from rfl,zl,zl,QF a0 (by omega),zl,zl,zl,zl,zl,TK (by omega),zl,zl,bJ (rfl:(nm actions x.1,tg names x.2)=_)];rfl
 ·rw[fP hz]
  rfl
end
end
section
theorem znP{δ α:Type}{xs:List α}{i:Nat}{v:α}(h:i<xs.length):(nN xs (i:Int) v:Res δ _) = .ok (xs.set i v):=by
 unfold nN;rw[show ixN xs.length (i:Int)=ah i by unfold ixN;rw[aG (by omega),aG (by omega),ER]]
def lR(rows:fL) (k o:Int) (v:au (Int×Int)):fL:=rows.set k.toNat ((JH rows k).set o.toNat v)
section
variable{rows:fL}{n w:Nat}{names actions:List ao}{c:aH}
theorem ja.put(R:ja rows n w) {k o:Int}(k0:0<=k) (k1:k<n) {v:au (Int×Int)}(hv:∀x,v=ah x->(0<=x.1/\x.1<4) /\ -1<=x.2/\x.2<n):ja (lR rows k o v) n w:=⟨by unfold lR;rw[lV];exact R.len,λrow h=>by
 rcases L6 h with h|rfl
 ·exact R.wide _ h
 ·rw[lV];exact R.l8 k0 k1,λrow h x hx=>by
 rcases L6 h with h|rfl
 ·exact R.ok _ h x hx
 ·rcases L6 hx with h2|h2
  ·exact R.ok _ (R.BJ k0 k1) x h2
  ·exact hv x h2.symm⟩
theorem znQ(R:ja rows n w) {k o:Int}(k0:0<=k) (k1:k<n) (o0:0<=o) (o1:o<w) {v:au (Int×Int)}{i j:Int}(h:All n w i j):Qx (lR rows k o v) i j=if i=k/\j=o then v else Qx rows i j:=by
 obtain⟨i0,i1,j0,j1⟩:=h;have rl:=R.len
 have e:JH (lR rows k o v) i=if i=k then (JH rows k).set o.toNat v else JH rows i:=by
  unfold JH lR;rw[EC]
  by_cases z:i=k
  ·subst z
   rw[aG rfl,aG (by omega),aG rfl];rfl
  ·rw[aR (by omega),aR z]
 unfold Qx;rw[e]
 by_cases z:i=k
 ·subst z
  rw[aG rfl,EC];have:=R.l8 i0 i1
  by_cases y:j=o
  ·subst y
   rw[aG rfl,aG (by omega),aG ⟨rfl,rfl⟩];rfl
  ·rw[aR (by omega),aR (λq=>y q.2)]
 ·rw[aR z,aR (λq=>z q.1)]
theorem Ud{δ κ:Type}(R:ja rows n w) {k o:Int}(k0:0<=k) (k1:k<n) (o0:0<=o) (o1:o<w) (w4:w<=4) {v:au (Int×Int)}{K:fL->Res δ κ}:(Res.bind (Res.bind (zY rows k) λe_=>(Res.ok (Qe e_ ai (ah o)))) λoI=>(Res.bind (Q9 oI [v]) λoJ=>(Res.bind (Res.bind (zY rows k) λhQ=>(Res.ok (Qe hQ (ah (o+(1:Int))) ai))) λoK=>(Res.bind (Q9 oJ oK) λoM=>(Res.bind (nN rows k oM) λhG=>K hG)))))=K (lR rows k o v):=by
 obtain⟨i,rfl⟩:=BD k0;obtain⟨j,rfl⟩:=BD o0;have rl:=R.len;have hl:=R.l8 k0 k1;rw[R.get k0 k1,zl,Ky,zl,vH (by rw[mY];simp;omega),zl,zl,show((j:Nat):Int)+1=((j+1:Nat):Int) from rfl,Sw,zl,vH (by simp only[dw,mY,oA,cq,oB];omega),zl,znP (by omega),zl]
 have e:(JH rows (i:Int)).take j++[v]++(JH rows (i:Int)).drop (j+1)=(JH rows (i:Int)).set j v:=by
  rw[List.set_eq_take_append_cons_drop,aG (by omega),LY];rfl
 rw[e];rfl
theorem dv.start(P:dv c rows names actions n w) {s:ao}:dv ⟨c.cU,s,c.nodes,c.edges⟩ rows names actions n w:=⟨⟨P.H.out,P.H.sub,P.H.nd,P.H.node,P.H.B5⟩,P.fst,P.tq,P.no⟩
theorem zmc{s:ao}(h:s∈c.nodes):jY c s = .ok ((),⟨c.cU,s,c.nodes,c.edges⟩):=by
 unfold jY Zk;rw[Qk h];rfl
theorem dv.put(R:ja rows n w) {N:Nat}(NM:Names names N) (AM:Names actions 4) (hn:n<=N) (vX:n<=16) (P:dv c rows names actions n w) (hl:c.edges.length<1000) {k o a t:Int}(k0:0<=k) (k1:k<n) (o0:0<=o) (o1:o<w) (a0:0<=a) (a1:a<4) (t0:0<=t) (t1:t<n) :
  ∃c',q9 c (nm names k,o) (nm actions a,ah (nm names t)) = .ok ((),c')/\dv c' (lR rows k o (ah (a,t))) names actions n w/\c'.start=c.start/\∀s,s∈c.nodes->s∈c'.nodes:=by
 have en:=λi j (h:All n w i j)=>znQ R (v:=ah (a,t)) k0 k1 o0 o1 h;have hk:All n w k o:=⟨k0,k1,o0,o1⟩
 have ek:=en k o hk;rw[aG ⟨rfl,rfl⟩]at ek;have fk:fO (lR rows k o (ah (a,t))) k o=(a,t):=by unfold fO;rw[ek];rfl
 have fj:∀i j,All n w i j -> ¬ (i=k/\j=o)->fO (lR rows k o (ah (a,t))) i j=fO rows i j:=λi j h z=>by unfold fO;rw[en i j h,aR z]
 have dj:∀i j,dO (lR rows k o (ah (a,t))) n w i j->dO rows n w i j\/(i=k/\j=o):=λi j h=>by
  by_cases z:i=k/\j=o
  ·exact .inr z
  ·have h2:=h.2
   rw[en i j h.1,aR z]at h2;exact .inl ⟨h.1,h2⟩
 obtain⟨c',e,H',hl',mq,⟨q1,q2⟩,q3⟩:=TJ (k:=k) (o:=o) (f':=fO (lR rows k o (ah (a,t)))) NM AM hn vX P.H hl k0 k1 o0 o1 a0 a1 t1 (λi j h z=>fj i j h.1 z) fk (λi j h=>⟨h.1.1,h.1.2.1⟩);rw[show tg names t=ah (nm names t) from aG t0]at e q3;refine⟨c',e,⟨H'.imp dj,q1 _ P.fst,λi j h h0=>?_,λi j h he=>?_⟩,mq,q1⟩
 ·rcases dj i j h with h2|⟨rfl,rfl⟩
  ·by_cases z:i=k/\j=o
   ·obtain⟨rfl,rfl⟩:=z
    rw[fk];exact q2 t0
   ·rw[fj i j h.1 z]at h0 ⊢
    exact q1 _ (P.tq i j h2 h0)
  ·rw[fk]
   exact q2 t0
 ·have z : ¬ (i=k/\j=o):=λz=>by obtain⟨rfl,rfl⟩:=z;rw[ek]at he;cases he
  rw[en i j h,aR z]at he;rw[q3,DM,aR (λy=>z ?_)]
  ·exact P.no i j h he
  ·have z1:=gb Prod.fst y
   have z2:=gb Prod.snd y;have z1:=Lb NM k0 (by omega) h.1 (by have:=h.2.1;omega) z1;exact⟨z1.symm,z2.symm⟩
theorem zpE{rows:List (List (Int×Int))}(R:Rows rows n w):ja (kg (λx=>(kg (λx=>(ah x)) x)) rows) n w:=⟨by rw[cf];exact R.len,λrow h=>by
 obtain⟨r,hr,rfl⟩:=eR.mp h
 rw[cf];exact R.wide _ hr,λrow h x hx=>by
 obtain⟨r,hr,rfl⟩:=eR.mp h;obtain⟨y,hy,e⟩:=eR.mp hx;cases e;exact⟨R.act _ hr _ hy,R.tq _ hr _ hy⟩⟩
theorem zpF{row:List Int}(h:lQ w row) (k:Nat):lQ w (fQ k row).flatten:=λo ho=>by
 obtain⟨l,hl,ho⟩:=List.mem_flatten.mp ho;rw[(List.mem_replicate.mp hl).2]at ho;exact h o ho
theorem zhn{p:qq}(hp:ZG p) (R:ja rows n w) (n1:1<=n) (n60:n<=60) (w1:1<=w) (w4:w<=4) (xs:List Int):∃p' BV,(jW (λ(wQ:Int) (bZ:(qq×(List (List (au (Int×Int))))))=>
(Res.bind (Res.up (qo bZ.1 (bZ.2.length:Int))) λb6=>(Res.bind (Res.up (qo b6.2 (w:Int))) λfT=>(Res.bind (Res.bind (zY bZ.2 b6.1) λe_=>(Res.ok (Qe e_ ai (ah fT.1)))) λoI=>(Res.bind (Q9 oI [ai]) λoJ=>(Res.bind (Res.bind (zY bZ.2 b6.1) λhQ=>(Res.ok (Qe hQ (ah (fT.1+(1:Int))) ai))) λoK=>(Res.bind (Q9 oJ oK) λoM=>(Res.bind (nN bZ.2 b6.1 oM) λhG=>Res.ok (PF.nx (fT.2,hG)))))))))) xs (p,rows):X.RF ax (qq×fL) aE aw) = .ok (.nx (p',BV))/\ZG p'/\ja BV n w:=by
 obtain⟨⟨p',BV⟩,e,h⟩:=y9 (δ:=ax) (β:=aE) (ρ:=aw) (f:=λ(wQ:Int) (bZ:(qq×(List (List (au (Int×Int))))))=>
(Res.bind (Res.up (qo bZ.1 (bZ.2.length:Int))) λb6=>(Res.bind (Res.up (qo b6.2 (w:Int))) λfT=>(Res.bind (Res.bind (zY bZ.2 b6.1) λe_=>(Res.ok (Qe e_ ai (ah fT.1)))) λoI=>(Res.bind (Q9 oI [ai]) λoJ=>(Res.bind (Res.bind (zY bZ.2 b6.1) λhQ=>(Res.ok (Qe hQ (ah (fT.1+(1:Int))) ai))) λoK=>(Res.bind (Q9 oJ oK) λoM=>(Res.bind (nN bZ.2 b6.1 oM) λhG=>Res.ok (PF.nx (fT.2,hG)))))))))) (λ_ s=>ZG s.1/\ja s.2 n w) (λx xs s ⟨hp,R⟩=>by
  obtain⟨p,rows⟩:=s;dsimp only at hp R ⊢;have rl:=R.len;obtain⟨k,p1,e1,k0,k1,h1⟩:=jf hp (lim:=(rows.length:Int)) (by omega) (by omega);obtain⟨o,p2,e2,o0,o1,h2⟩:=jf h1 (lim:=(w:Int)) (by omega) (by omega);rw[e1,qe,zl];dsimp only;rw[e2,qe,zl];dsimp only;rw[Ud R k0 (by omega) o0 o1 w4];exact⟨_,rfl,h2,R.put k0 (by omega) nofun⟩) xs (p,rows) ⟨hp,R⟩
 exact⟨p',BV,e,h⟩
end
end
theorem zpG{ns:List Int}(h:ns.length<=63):DY ns = .ok aj:=by
 obtain⟨rows,p1,n,w,e1,R0,n1,n6,w1,w4,_,hp1⟩:=znG (p:=(ns,0,0,0)) (most:=6) (edges:=18) ⟨BC 0,BC 0,BC 0⟩ (by decide) (by decide) (by decide) (by decide);have e1':vO (ns,0,0,0) (6:Int) (18:Int) = .ok (rows,p1):=e1;have rl:=R0.len;obtain⟨t,p2,e2,t0,t1,hp2⟩:=jf hp1 (lim:=3) (by decide) (by decide);obtain⟨p3,rs,e3,hp3,R⟩:=zhn hp2 (zpE R0) n1 (by omega) w1 w4 ((dh t.toNat).map λi:Nat=>(i:Int))
 have et:(rng 0 t:Res ax (List Int)) = .ok ((dh t.toNat).map λi:Nat=>(i:Int)):=by
  have:=pP (δ:=ax) (n:=t.toNat) (by omega);rwa [ES t0]at this
 obtain⟨names,p4,e4,NM,hp4⟩:=TB (n:=n) hp3 (by omega);obtain⟨actions,p5,e5,AM,hp5⟩:=TB (n:=4) hp4 (by decide);have e5':J0 p4 (4:Int) = .ok (actions,p5):=e5;have nl:=NM.len;have al:=AM.len;obtain⟨c,e6,P,few⟩:=znJ R NM AM (bC n) n1 (by omega) w1 w4;obtain⟨order,e7,O⟩:=zl2 R n1 (by omega) (λx=>nm names x∈c.nodes) P.fst P.H.node P.tq;have ol:0<order.length:=List.length_pos_iff.mpr O.ne;have ol2:=O.part.len;obtain⟨v,p6,e8,v0,v1,hp6⟩:=jf hp5 (lim:=(order.length:Int)) (by omega) (by omega);obtain⟨s,hs,es⟩:=D5 (δ:=ax) v0 v1;have sm:=di hs;obtain⟨s0,s1⟩:=O.part.lt s sm;have sn:=O.all s sm;have P1:=P.start (s:=nm names s);obtain⟨q,p7,e9,q0,q1,hp7⟩:=jf hp6 (lim:=41) (by decide) (by decide)
 have eq:(rng 0 q:Res ax (List Int)) = .ok ((dh q.toNat).map λi:Nat=>(i:Int)):=by
  have:=pP (δ:=ax) (n:=q.toNat) (by omega);rwa [ES q0]at this
 obtain⟨row,p8,H_,Of,l8,Ue⟩:=Kq (δ:=aE) (e:=λ(ur:Int) (lO:qq)=>(Res.bind (Res.up (qo lO (w:Int))) λvU=>Res.ok (vU.1,vU.2))) ZG (λo=>0<=o/\o<(w:Int)) (λx s hs=>by
  obtain⟨o,p',e,o0,o1,h'⟩:=jf hs (lim:=(w:Int)) (by omega) (by omega);exact⟨o,p',by rw[e];rfl,h',o0,o1⟩) ((dh q.toNat).map λi:Nat=>(i:Int)) p7 hp7
 have rl1:row.length<=41:=by rw[l8];simp;omega
 obtain⟨u,p9,e11,u0,u1,hp9⟩:=jf Of (lim:=8) (by decide) (by decide);obtain⟨bc,hr2,akP,MU⟩:∃bc,(aL (decide (u=(1:Int)))
((Res.bind (y6 row (25:Int)) λBP=>(Res.bind (Res.ok (Qe BP ai (ah (998:Int)))) λwY=>Res.ok (PF.nx (p9,wY)))))
(Res.ok (PF.nx (p9,row))):X.RF ax (qq×List Int) aE aw) = .ok (.nx (p9,bc))/\bc.length<=998/\lQ w bc:=by
  by_cases hu:u=1
  ·rw[bJ hu,bG]
   refine⟨((fQ 25 row).flatten).take 998,?_,by rw[mY];omega,λo ho=>zpF (w:=w) Ue 25 o (L5 ho)⟩;unfold y6;rw[bJ (show(0:Int)<=25/\(25:Int)<1000/\row.length<1000 from⟨by decide,by decide,by omega⟩),bG,zl,zl,show(998:Int)=((998:Nat):Int) from rfl,Ky];rfl
  ·rw[fP hu,bB]
   exact⟨row,rfl,by omega,Ue⟩
 obtain⟨x,Ll,e12,x0,x1,MV⟩:=jf hp9 (lim:=4) (by decide) (by decide);obtain⟨Lm,cj,bad,hr3,V0,akQ,BY⟩:∃Lm cj bad,(aL (decide (x=(1:Int)))
((Res.bind (Res.up (qo Ll ((bc.length:Int)+(1:Int)))) λhY=>(Res.bind (Res.up (qo hY.2 (1000:Int))) λhT=>(Res.bind (Res.up (qo hT.2 (2:Int))) λpS=>(Res.bind (nG ((w:Int)+(1000:Int)) pS.1) λnY=>(Res.bind (Res.ok (Qe bc ai (ah hY.1))) λBQ=>(Res.bind (Q9 BQ [(((w:Int)+hT.1) - nY)]) λBR=>(Res.bind (Res.ok (Qe bc (ah hY.1) ai)) λBS=>(Res.bind (Q9 BR BS) λBU=>(Res.bind (Q9 BU [(w:Int)]) λwZ=>Res.ok (PF.nx (pS.2,wZ,[(((w:Int)+hT.1) - nY)]))))))))))))
(Res.ok (PF.nx (Ll,bc,([]:List Int)))):X.RF ax (qq×List Int×List Int) aE aw) = .ok (.nx (Lm,cj,bad))/\ZG Lm/\cj.length<=1000/\((bad=[]/\lQ w cj)\/∃b,bad=[b]/\Eb w cj b):=by
  by_cases hx:x=1
  ·rw[bJ hx,bG]
   obtain⟨o,q1,f1,o0,o1,oX⟩:=jf MV (lim:=(bc.length:Int)+1) (by omega) (by omega);obtain⟨a,q2,f2,a0,a1,Ln⟩:=jf oX (lim:=1000) (by decide) (by decide);obtain⟨b,q3,f3,b0,b1,Lo⟩:=jf Ln (lim:=2) (by decide) (by decide);obtain⟨j,rfl⟩:=BD o0
   have fm:(nG ((w:Int)+1000) b:Res ax Int) = .ok (((w:Int)+1000) * b):=Se (by
    rcases(by omega:b=0\/b=1) with rfl|rfl <;> omega)
   have hb : ¬ (0<=((w:Int)+a) - (((w:Int)+1000) * b)/\((w:Int)+a) - (((w:Int)+1000) * b)<w):=by
    rcases(by omega:b=0\/b=1) with rfl|rfl <;> omega
   refine⟨q3,bc.take j++[((w:Int)+a) - (((w:Int)+1000) * b)]++bc.drop j++[(w:Int)],[((w:Int)+a) - (((w:Int)+1000) * b)],?_,Lo,?_,.inr ⟨_,rfl,bc.take j,bc.drop j++[(w:Int)],by simp,λo ho=>MU o (L5 ho),hb⟩⟩
   ·rw[f1,qe,zl]
    dsimp only;rw[f2,qe,zl];dsimp only;rw[f3,qe,zl];dsimp only;rw[fm,zl,zl,Ky,Sw,vH (by simp only[mY,cq,oB];omega),zl,zl,vH (by simp only[dw,mY,oA,cq,oB];omega),zl,vH (by simp only[dw,mY,oA,cq,oB];omega),zl]
   ·simp only[dw,mY,oA,cq,oB];omega
  ·rw[fP hx,bB]
   exact⟨Ll,bc,[],rfl,MV,by omega,.inl ⟨rfl,MU⟩⟩
 have F1:=Uc R NM AM (bC n) P1 s0 s1 sn rfl (by omega) BY;obtain⟨i,q1,f1,i0,i1,oX⟩:=jf V0 (lim:=(order.length:Int)) (by omega) (by omega);obtain⟨k,hk,gk⟩:=D5 (δ:=ax) i0 i1;obtain⟨k0,k1⟩:=O.part.lt k (di hk);obtain⟨o,q2,f2,o0,o1,Ln⟩:=jf oX (lim:=(w:Int)) (by omega) (by omega);obtain⟨a,q3,f3,a0,a1,Lo⟩:=jf Ln (lim:=4) (by decide) (by decide);obtain⟨j,q4,f4,j0,j1,hq4⟩:=jf Lo (lim:=(order.length:Int)) (by omega) (by omega);obtain⟨m,hm,gm⟩:=D5 (δ:=ax) j0 j1;obtain⟨m0,m1⟩:=O.part.lt m (di hm);obtain⟨c',f5,P2,cR,kE⟩:=dv.put R NM AM (bC n) (by omega) P1 (by show c.edges.length<1000;omega) k0 k1 o0 o1 a0 a1 m0 m1;have F2:=Uc (R.put (o:=o) (v:=ah (a,m)) k0 k1 (λx hx=>by cases hx;exact⟨⟨a0,a1⟩,by dsimp only;omega,m1⟩)) NM AM (bC n) P2 s0 s1 (kE _ sn) cR (by omega) BY;unfold DY;rw[y_ (by omega),zl,e1',qe,zl];dsimp only;rw[znH R0 (by decide) (show(0:Int)<n by omega),zl,zl,TF R0 (by decide) (show(0:Int)<n by omega),e2,qe,zl];dsimp only;rw[et,zl,e3,qV];dsimp only;rw[R.len,e4,qe,zl];dsimp only;rw[e5',qe,zl];dsimp only;rw[e6,qw,zl,e7,qe,zl,e8,qe,zl];dsimp only;rw[es,zl,QF s0 (by omega),zl,zmc sn,qw,zl,e9,qe,zl];dsimp only;rw[eq,zl,y_ (by simp;omega),zl,H_,qe,zl];dsimp only;rw[e11,qe,zl];dsimp only;rw[hr2,qV];dsimp only;rw[e12,qe,zl];dsimp only;rw[hr3,qV];dsimp only;rw[F1,qw,zl,zl,qw,zl,show(!aj)=ak from rfl,bB,f1,qe,zl];dsimp only;rw[gk,zl,f2,qe,zl];dsimp only;rw[f3,qe,zl];dsimp only;rw[f4,qe,zl];dsimp only;rw[gm,zl,Ud R k0 k1 o0 o1 w4,QF a0 (by omega),zl,QF m0 (by omega),zl,zl,QF k0 (by omega),zl,zl];dsimp only;rw[f5,qw,zl];dsimp only;rw[F2];rfl
end dq
end WL
end
section
namespace WL
namespace dq
open PySem WL.X
theorem zmd:∀ns:List Int,ns.length<=63->∃g,rE [.eH ns] [] = .ok (.bl aj) g:=λns h=>zoZ (zpw ns) (zpG h)
end dq
end WL
end
section
set_option maxHeartbeats 4000000
namespace WL
namespace dq
open PySem PySem.Spec
open L2 hiding Takes XE CX PMk MkP ps_raise ps_try_as ps_try_many passAt passes_call takes_of HdsOk mk_of
open L2N (Takes XE CX PMk MkP ps_raise ps_try_as ps_try_many passAt passes_call takes_of HdsOk mk_of)
open PyProof.Rows hiding St
abbrev top(i:Nat):bh:=PySem.Challenge.pw_strikeloops_k06_runs_of_charts.main.body.getD i (.Pass ⟨0,0,0,0⟩)
structure Ad where
 draw:aq
 rows:aq
 word:aq
 words:aq
 ft:aq
 t_:aq
 Fw:aq
 ui:aq
 Fh:aq
 Fi:aq
 aH:aq
 ue:aq
 wD:aq
 part:aq
 order:aq
 oG:aq
 E6:aq
 Vw:aq
 E9:aq
 walked:aq
 Fn:aq
 gh:aq
 wF:aq
 Fj:aq
 called:aq
 Ff:aq
 Fm:aq
 trace:aq
 FE:aq
 fits:aq
 Ed:aq
def rJ:List Str:=["outcomes", "_start", "_nodes", "_edges", "name", "outcome", "node", "most"]
def tab(K:aT) (a:Ad):Tab where
 K:=K
 cls:=λc=>match c with|0=>ah a.aH|1=>ah a.ui|2=>ah a.ft|3=>ah a.oG|4=>ah a.gh|5=>ah a.ue|_=>ai
 fns:=rJ
 nd:=by decide +kernel
instance {K:aT}{a:Ad}:jJ (tab K a):=⟨rfl⟩
instance {K:aT}{a:Ad}:j2 (tab K a):=⟨rfl⟩
instance {K:aT}{a:Ad}:GL (tab K a):=⟨rfl⟩
structure Fx(P:bO) (w:bS) (K:aT) (mg:Str->au az) (a:Ad):Prop where
 uu:mg "list" = ai
 fy:mg "len" = ai
 ML:mg "abs" = ai
 rF:mg "int" = ai
 uj:Z6 K "_law_draw" "_law_draw" (top 19) a.draw ["_law_pool", "_law_limit"]
 dz:mg "_law_draw" = ah (.ref a.draw)
 MM:mg "min" = ai
 lX:mg "range" = ai
 uk:Z6 K "_law_rows" "_law_rows" (top 22) a.rows ["_law_pool", "_law_most", "_law_edges"]
 My:mg "_law_rows" = ah (.ref a.rows)
 um:Z6 K "_law_word" "_law_word" (top 20) a.word ["_law_number"]
 Mz:mg "_law_word" = ah (.ref a.word)
 uf:Z6 K "_law_words" "_law_words" (top 21) a.words ["_law_pool", "_law_count"]
 Fz:mg "_law_words" = ah (.ref a.words)
 L9:∃t,mg "MOST_OUTCOMES" = ah (.int 4 t)
 eS:sE P w K mg a.ft a.t_ "BadOutcome" ["outcome"]
 Mo:∃t,mg "FIRST" = ah (.str "abcdefghijklmnopqrstuvwxyz" t)
 Mh:∃t,mg "OTHERS" = ah (.str "abcdefghijklmnopqrstuvwxyz0123456789" t)
 MN:mg "all" = ai
 tZ:Z6 K "is_name" "is_name" (top 12) a.Fw ["name"]
 Mg:mg "is_name" = ah (.ref a.Fw)
 m7:sE P w K mg a.ui a.t_ "BadName" ["name"]
 tW:Z6 K "check_name" "check_name" (top 13) a.Fh ["name"]
 wH:mg "check_name" = ah (.ref a.Fh)
 q_:Z6 K "__init__" "Chart.__init__" (fN (top 15) 1) a.Fi ["self", "outcomes", "start"]
 Fp:Mk K a.aH a.Fi
 cw_Chart:ng (tab K a) a.aH
 Mp:mg "Chart" = ah (.ref a.aH)
 Fd:∃t,Con K a.aH "MOST" (.int 16) (.int 16 t)
 m6:sE P w K mg a.ue a.t_ "TooLarge" ["most"]
 tU:Z6 K "__setitem__" "Chart.__setitem__" (fN (top 15) 8) a.wD ["self", "at", "worth"]
 E7:bI K (.ref a.aH) "__setitem__" = ah (ah (.ref a.wD))/\kc K (.ref a.wD)=aj/\mS K a.wD=aj/\wu K a.aH=aj
 uo:Z6 K "_law_partial" "_law_partial" (top 23) a.part ["_law_rows_here", "_law_nodes", "_law_actions"]
 MA:mg "_law_partial" = ah (.ref a.part)
 ug:Z6 K "_law_order" "_law_order" (top 24) a.order ["_law_rows_here"]
 Mq:mg "_law_order" = ah (.ref a.order)
 iP:sE P w K mg a.oG a.t_ "NoNode" ["node"]
 tS:Z6 K "start" "Chart.start" (fN (top 15) 3) a.E6 ["self", "node"]
 L7:HD K a.aH "start" a.Vw a.E6
 tT:Z6 K "start_at" "Chart.start_at" (fN (top 15) 4) a.E9 ["self", "node"]
 BF:A9 K a.aH "start_at" a.E9
 ua:Z6 K "_law_walked" "_law_walked" (top 27) a.walked ["_law_rows_here", "_law_row", "_law_start", "_law_nodes", "_law_actions"]
 Mi:mg "_law_walked" = ah (.ref a.walked)
 tY:Z6 K "check_row" "check_row" (top 14) a.Fn ["row", "outcomes"]
 Me:mg "check_row" = ah (.ref a.Fn)
 gL:sE P w K mg a.gh a.t_ "NoEdge" ["node", "outcome"]
 p_:Z6 K "__getitem__" "Chart.__getitem__" (fN (top 15) 7) a.wF ["self", "at"]
 E8:bI K (.ref a.aH) "__getitem__" = ah (ah (.ref a.wF))/\kc K (.ref a.wF)=aj/\mS K a.wF=aj/\wu K a.aH=aj
 tX:Z6 K "__call__" "Chart.__call__" (fN (top 15) 16) a.Fj ["self", "row"]
 Mb:HH K a.aH a.Fj
 Mr:mg "tuple" = ai
 oC:mg "isinstance" = ai
 MB:mg "bool" = ai
 Fe:mg "BadOutcome" = ah (.ref a.ft)
 EU:fg K (.ref a.ue) (.ref a.ft)=ah ak
 EW:fg K (.ref a.gh) (.ref a.ft)=ah ak
 EY:fg K (.ref a.oG) (.ref a.ft)=ah ak
 ET:fg K (.ref a.ft) (.ref a.ft)=ah aj
 EV:fg K (.ref a.ui) (.ref a.ft)=ah ak
 wC:bI K (.ref a.gh) "outcome" = ah ai
 wB:bI K (.ref a.ft) "outcome" = ah ai
 Fq:mg "NoEdge" = ah (.ref a.gh)
 E2:fg K (.ref a.ue) (.ref a.gh)=ah ak
 E4:fg K (.ref a.gh) (.ref a.gh)=ah aj
 E5:fg K (.ref a.oG) (.ref a.gh)=ah ak
 EZ:fg K (.ref a.ft) (.ref a.gh)=ah ak
 E3:fg K (.ref a.ui) (.ref a.gh)=ah ak
 E_:bI K (.ref a.gh) "node" = ah ai
 Fc:bI K (.ref a.oG) "node" = ah ai
 Fg:mg "LoopError" = ah (.ref a.t_)
 uc:Z6 K "_law_called" "_law_called" (top 25) a.called ["_law_chart", "_law_row"]
 Mj:mg "_law_called" = ah (.ref a.called)
 tV:Z6 K "begin" "Chart.begin" (fN (top 15) 5) a.Ff ["self"]
 BG:A9 K a.aH "begin" a.Ff
 rg:Z6 K "step" "Chart.step" (fN (top 15) 6) a.Fm ["self", "node", "outcome"]
 wG:A9 K a.aH "step" a.Fm
 Ms:Z6 K "trace" "trace" (top 17) a.trace ["walker", "row"]
 Mf:cb K (.ref a.aH) (.type "StopIteration")=ah ak
 Ma:cb K (.ref a.ui) (.type "StopIteration")=ah ak
 L8:cb K (.ref a.ft) (.type "StopIteration")=ah ak
 Mc:cb K (.ref a.oG) (.type "StopIteration")=ah ak
 Md:cb K (.ref a.gh) (.type "StopIteration")=ah ak
 L_:cb K (.ref a.ue) (.type "StopIteration")=ah ak
 Mt:mg "trace" = ah (.ref a.trace)
 ud:Z6 K "_law_traced" "_law_traced" (top 26) a.FE ["_law_chart", "_law_row"]
 Ml:mg "_law_traced" = ah (.ref a.FE)
 uq:Z6 K "_law_fits" "_law_fits" (top 28) a.fits ["_law_chart", "_law_rows_here", "_law_row", "_law_start", "_law_bad", "_law_nodes", "_law_actions"]
 FH:mg "_law_fits" = ah (.ref a.fits)
 rE:Z6 K "law" "law" (top 29) a.Ed ["_law_script"]
variable{P:bO}{w:bS}{K:aT}{mg:Str->au az}{base:bj}{a:Ad}
theorem qr(h:Fx P w K mg a):bK P w K mg base (tab K a) 1 a.draw 2 uj:=
 jl (N:=["_law_pool", "_law_limit", "_law_cell", "_law_digit"]) h.uj λaO A outer s H E hr tk hN=>(zj (jg (qg (r8 rfl hr.gS) (zM (qN hr tk) (za 0) zq) zq) (zj (zU 2 hN zq) (zj (jg (qg uI (zM (qN hr tk) (za 0) zq) (qO (Qt rfl) h.fy PyProof.Rows.Boot.«len» (zb (zM (qN hr tk) (za 0) zq) zk))) (zj (zU 2 hN (qO X4 h.ML PyProof.Rows.Boot.«abs» (zb (zM (qN hr tk) (zM (qN hr tk) (za 0) zq) (zM (qN hr tk) (za 0) zq)) zk))) (zz (ZW (qK (Zh rfl) (zM (qN hr tk) (za 0) zq) zq) (JO (nv hr.u1 tk .nil) (za 0) zq)))) qc) (zj (jg (qg xC (za 2) (qK (G_) zq zq)) (zz (ZW (za 2) (JO (nv hr.u1 tk .nil) (za 0) zq))) qc) (zz (ZW (qK (uJ) (Zb uQ h.rF PyProof.Rows.Boot.«int» (zb (qK (Zh rfl) (qK (Zh rfl) (qK (Co) (zM (qN hr tk) (za 0) zq) zq) (za 2)) zq) zk)) zq) (JO (nv hr.u1 tk .nil) (za 0) zq)))))) qc) (zj (jg (qg Ck (zM (qN hr tk) (za 0) zq) zq) (zj (zU 3 hN (qK (uJ) (Zb uQ h.rF PyProof.Rows.Boot.«int» (zb (zM (qN hr tk) (za 0) zq) zk)) (za 1))) (zj (ZW (qK (xD) (zM (qN hr tk) (za 0) zq) (za 1)) (JO (nv hr.u1 tk .nil) (za 0) zq)) (zz (qM (za 3))))) qc) (zz (qM (qK (uJ) (Zb uQ h.rF PyProof.Rows.Boot.«int» (zb (qK (xD) (zM (qN hr tk) (za 0) zq) zq) zk)) (za 1))))))
theorem Ug(h:Fx P w K mg a):bK P w K mg base (tab K a) 2 a.rows 3 uk:=
 jl (N:=["_law_pool", "_law_most", "_law_edges", "_law_wide", "_law_count", "_law_many", "_law_rows_here", "_law_k", "_law_outcome"]) h.uk λaO A outer s H E hr tk hN=>(zj (zU 3 hN (qK (Zh rfl) zq (qK (uJ) (Zb uQ h.rF PyProof.Rows.Boot.«int» (zb (qK (Zh rfl) (Qu (qr h) hr tk h.dz (zb (za 0) (zb zq zk))) zq) zk)) zq))) (zj (zU 4 hN (qK (Zh rfl) zq (Qu (qr h) hr tk h.dz (zb (za 0) (zb (qO (X5 rfl) h.MM PyProof.Rows.Boot.«min» (zb (za 1) (zb (qK (xD) (za 2) (za 3)) zk))) zk))))) (zj (zU 5 hN (qK (Zh rfl) zq (Qu (qr h) hr tk h.dz (zb (za 0) (zb zq zk))))) (zj (zU 6 hN (qk zk)) (zj (Jr (lT rfl) rfl (Zv h.lX (zb (za 4) zk)) (jk (i:=7) hN) (zz (Zg (pw (za 6) (zb (Hs rfl hN (Zv h.lX (zb (za 3) zk)) (own:=[("_law_outcome",8)]) (LJ (N:=["_law_pool", "_law_most", "_law_edges", "_law_wide", "_law_count", "_law_many", "_law_rows_here", "_law_k", "_law_outcome"]) (sc:=aU (top 22)) (by decide +kernel)) (λ_ _ _ _ _=>(CB 8 hN)) (λ_ _ _ _ _=>CD) (λ_ _ _ _ _=>(ZO (zb (Qu (qr h) hr xv h.dz (zb (za 0) (zb (za 5) zk))) (zb (qK (Nl) (Qu (qr h) hr xv h.dz (zb (za 0) (zb (qK (Zh rfl) (za 4) zq) zk))) zq) zk))))) zk))))) (zz (qM (za 6))))))))
theorem zpH(h:Fx P w K mg a):bK P w K mg base (tab K a) 1 a.word 1 um:=
 jl (N:=["_law_number", "_law_letters", "_law_word_here"]) h.um λaO A outer s H E hr tk hN=>(zj (zU 1 hN Zf) (zj (zU 2 hN (zM (qN hr tk) (za 1) (qK (uJ) (Zb uQ h.rF PyProof.Rows.Boot.«int» (zb (za 0) zk)) zq))) (zj (zU 0 hN (qK (xD) (za 0) zq)) (zj (Xy (lT rfl) (qg Ck (za 0) zq) (zj (zU 2 hN (qK (Zh rfl) (za 2) (zM (qN hr tk) (za 1) (qK (uJ) (Zb uQ h.rF PyProof.Rows.Boot.«int» (zb (za 0) zk)) zq)))) (zz (zU 0 hN (qK (xD) (za 0) zq))))) (zz (qM (za 2)))))))
theorem Ee(h:Fx P w K mg a):bK P w K mg base (tab K a) 2 a.words 2 uf:=
 jl (N:=["_law_pool", "_law_count", "_law_first", "_law_gap", "_law_k"]) h.uf λaO A outer s H E hr tk hN=>(zj (zU 2 hN (Qu (qr h) hr tk h.dz (zb (za 0) (zb (qK (G_) zq zq) zk)))) (zj (zU 3 hN (qK (Zh rfl) zq (Qu (qr h) hr tk h.dz (zb (za 0) (zb (qK (G_) zq zq) zk))))) (zz (qM (Hs rfl hN (Zv h.lX (zb (za 1) zk)) (own:=[("_law_k",4)]) (LJ (N:=["_law_pool", "_law_count", "_law_first", "_law_gap", "_law_k"]) (sc:=aU (top 21)) (by decide +kernel)) (λ_ _ _ _ _=>(CB 4 hN)) (λ_ _ _ _ _=>CD) (λ_ _ _ _ _=>(Qu (zpH h) hr xv h.Mz (zb (qK (Zh rfl) (za 2) (qK (Co) (za 3) (za 4))) zk))))))))
theorem zjw(h:Fx P w K mg a):bK P w K mg base (tab K a) 1 a.Fw 1 tZ:=
 jl (N:=["name", "sign"]) h.tZ λaO A outer s H E hr tk hN=>(zz (qM (Nd (XY rZ rZ zq (qO (Qt rfl) h.fy PyProof.Rows.Boot.«len» (zb (za 0) zk)) zq) (Nd (zev (NC rfl hr.nA tk .nil) (zM (qN hr tk) (za 0) zq) (N9 h.Mo)) (Xr (qO (X7 rfl rfl) h.MN PyProof.Rows.Boot.«all» (zb (Hs rfl hN (Y2 (za 0)) (own:=[("sign",1)]) (LJ (N:=["name", "sign"]) (sc:=aU (top 12)) (by decide +kernel)) (λ_ _ _ _ _=>(CB 1 hN)) (λ_ _ _ _ _=>CD) (λ_ _ _ _ _=>(zev (NC rfl hr.nA xv .nil) (za 1) (N9 h.Mh)))) zk)))))))
theorem QS(h:Fx P w K mg a):bK P w K mg base (tab K a) 2 a.Fh 1 tW:=
 jl (N:=["name"]) h.tW λaO A outer s H E hr tk hN=>(zz (jg (JJ (JI rfl (Qu (zjw h) hr tk h.Mg (zb (za 0) zk)))) (zz (Z0 (C:=a.ui) rfl (fq h.m7.t).1 (fq h.m7.t).2 rfl rfl (by decide) (hr.mono (by decide):Room 1 _) tk (zb (za 0) zk))) qc))
theorem zfg(h:Fx P w K mg a):bK P w K mg base (tab K a) 3 a.Fi 3 q_:=
 jl (N:=["self", "outcomes", "start"]) h.q_ λaO A outer s H E hr tk hN=>(zj (jg (JJ (Ct rZ rZ zq (za 1) (YW h.L9))) (zz (Z0 (C:=a.ft) rfl (fq h.eS.t).1 (fq h.eS.t).2 rfl rfl (by decide) (hr.mono (by decide):Room 1 _) tk (zb (za 1) zk))) qc) (zj (Zg (Qu (QS h) hr tk h.wH (zb (za 2) zk))) (zj (uG 0 rfl rfl (za 0) (za 1)) (zj (uG 1 rfl rfl (za 0) (za 2)) (zj (uG 2 rfl rfl (za 0) (qk (zb (za 2) zk))) (zz (uG 3 rfl rfl (za 0) YN)))))))
theorem J8(h:Fx P w K mg a):bK P w K mg base (tab K a) 3 a.wD 3 tU:=
 jl (N:=["self", "at", "worth", "node", "outcome", "name", "target", "nodes"]) h.tU λaO A outer s H E hr tk hN=>(zj (ZW (za 1) (xr rfl rfl (ZH (jk (i:=3) hN) (ZH (jk (i:=4) hN) xq)))) (zj (ZW (za 2) (xr rfl rfl (ZH (jk (i:=5) hN) (ZH (jk (i:=6) hN) xq)))) (zj (Zg (Qu (QS h) hr tk h.wH (zb (za 3) zk))) (zj (jg (JJ (Ct rZ uI zq (za 4) (QZ 0 rfl rfl (za 0)))) (zz (Z0 (C:=a.ft) rfl (fq h.eS.t).1 (fq h.eS.t).2 rfl rfl (by decide) (hr.mono (by decide):Room 1 _) tk (zb (za 4) zk))) qc) (zj (Zg (Qu (QS h) hr tk h.wH (zb (za 5) zk))) (zj (zU 7 hN (Zb (Cz rfl) h.uu PyProof.Rows.Boot.«list» (zb (QZ 2 rfl rfl (za 0)) zk))) (zj (jg (qg (JL rfl hr.nA tk .nil) (za 3) (za 7)) (zz (Zg (pw (za 7) (zb (za 3) zk)))) qc) (zj (jg (qg xG (za 6) QX) (zj (Zg (Qu (QS h) hr tk h.wH (zb (za 6) zk))) (zz (jg (qg (JL rfl hr.nA tk .nil) (za 6) (za 7)) (zz (Zg (pw (za 7) (zb (za 6) zk)))) qc))) qc) (zj (jg (qg Ck (qO (Qt rfl) h.fy PyProof.Rows.Boot.«len» (zb (za 7) zk)) (Nk rfl (show("MOST" : Str) ∉ rJ from by decide +kernel) (show sF _ _ _ _ from(.MD (bA rfl h.Fd) .nil)) (za 0))) (zz (Z0 (C:=a.ue) rfl (fq h.m6.t).1 (fq h.m6.t).2 rfl rfl (by decide) (hr.mono (by decide):Room 1 _) tk (zb (Nk rfl (show("MOST" : Str) ∉ rJ from by decide +kernel) (show sF _ _ _ _ from(.MD (bA rfl h.Fd) .nil)) (za 0)) zk))) qc) (zj (uG 2 rfl rfl (za 0) (za 7)) (zz (ZW (ZO (zb (za 5) (zb (za 6) zk))) (JO (nv hr.u1 tk .nil) (QZ 3 rfl rfl (za 0)) (ZO (zb (za 3) (zb (za 4) zk))))))))))))))))
theorem Uh(h:Fx P w K mg a):bK P w K mg base (tab K a) 5 a.part 3 uo:=
 jl (N:=["_law_rows_here", "_law_nodes", "_law_actions", "_law_chart", "_law_k", "_law_outcome", "_law_edge"]) h.uo λaO A outer s H E hr tk hN=>(zj (zU 3 hN (qs (XI h.Fp rfl rfl h.cw_Chart (zfg h) (hr.mono (by decide)) tk) h.Fp.kp h.Mp (zb (qO (Qt rfl) h.fy PyProof.Rows.Boot.«len» (zb (zM (qN hr tk) (za 0) zq) zk)) (zb (zM (qN hr tk) (za 1) zq) zk)))) (zj (Jr (lT rfl) rfl (Zv h.lX (zb (qO (Qt rfl) h.fy PyProof.Rows.Boot.«len» (zb (za 0) zk)) zk)) (jk (i:=4) hN) (zz (Jr (lT rfl) rfl (Zv h.lX (zb (qO (Qt rfl) h.fy PyProof.Rows.Boot.«len» (zb (zM (qN hr tk) (za 0) (za 4)) zk)) zk)) (jk (i:=5) hN) (zj (zU 6 hN (zM (qN hr tk) (zM (qN hr tk) (za 0) (za 4)) (za 5))) (zz (jg (qg xG (za 6) QX) (zz (ZW (ZO (zb (zM (qN hr tk) (za 2) (zM (qN hr tk) (za 6) zq)) (zb (Nc (qg xC (zM (qN hr tk) (za 6) zq) zq) (zM (qN hr tk) (za 1) (zM (qN hr tk) (za 6) zq)) QX) zk))) (JO (nv hr.u1 tk (show Q2 _ _ _ _ from(.cons (J8 h) (hr.mono (by decide)) (bA rfl h.E7) .nil))) (za 3) (ZO (zb (zM (qN hr tk) (za 1) (za 4)) (zb (za 5) zk)))))) qc)))))) (zz (qM (za 3)))))
theorem Ui(h:Fx P w K mg a):bK P w K mg base (tab K a) 1 a.order 1 ug:=
 jl (N:=["_law_rows_here", "_law_order_here", "_law_k", "_law_edge"]) h.ug λaO A outer s H E hr tk hN=>(zj (zU 1 hN (qk (zb zq zk))) (zj (Jr (lT rfl) rfl (Zv h.lX (zb (qO (Qt rfl) h.fy PyProof.Rows.Boot.«len» (zb (za 0) zk)) zk)) (jk (i:=2) hN) (zz (Jr (lT rfl) rfl (xu rfl (zM (qN hr tk) (za 0) (za 2))) (jk (i:=3) hN) (zj (jg (PW.pt (uD (qg xG (za 3) QX) (Cc (qg (JL rfl hr.nA tk .nil) (za 2) (za 1))))) (zz (Zg (pw (za 1) (zb (za 2) zk)))) qc) (zz (jg (PW.pt (uD (qg xG (za 3) QX) (uD (qg xC (zM (qN hr tk) (za 3) zq) zq) (Cc (qg (JL rfl hr.nA tk .nil) (zM (qN hr tk) (za 3) zq) (za 1)))))) (zz (Zg (pw (za 1) (zb (zM (qN hr tk) (za 3) zq) zk)))) qc)))))) (zz (qM (za 1)))))
theorem zbM(h:Fx P w K mg a):bK P w K mg base (tab K a) 2 a.E6 2 tS:=
 jl (N:=["self", "node"]) h.tS λaO A outer s H E hr tk hN=>(zj (jg (qg (JL rfl hr.nA tk .nil) (za 1) (QZ 2 rfl rfl (za 0))) (zz (Z0 (C:=a.oG) rfl (fq h.iP.t).1 (fq h.iP.t).2 rfl rfl (by decide) (hr.mono (by decide):Room 1 _) tk (zb (za 1) zk))) qc) (zz (uG 1 rfl rfl (za 0) (za 1))))
theorem zch(h:Fx P w K mg a):bK P w K mg base (tab K a) 5 a.E9 2 tT:=
 jl (N:=["self", "node"]) h.tT λaO A outer s H E hr tk hN=>(zz (YR rfl tk (show sD _ _ _ _ from(.cons (zbM h) (hr.mono (by decide)) (bA rfl h.L7) .nil)) (za 0) (za 1)))
theorem zmg(h:Fx P w K mg a):bK P w K mg base (tab K a) 1 a.walked 5 ua:=
 jl (N:=["_law_rows_here", "_law_row", "_law_start", "_law_nodes", "_law_actions", "_law_wide", "_law_met", "_law_at", "_law_outcome"]) h.ua λaO A outer s H E hr tk hN=>(zj (zU 5 hN (qO (Qt rfl) h.fy PyProof.Rows.Boot.«len» (zb (zM (qN hr tk) (za 0) zq) zk))) (zj (zU 6 hN (qk zk)) (zj (zU 7 hN (za 2)) (zj (Jr (lT rfl) rfl (xu rfl (za 1)) (jk (i:=8) hN) (zj (jg (PW.pt (rW (qg uI (za 8) zq) (GW (qg xC (za 8) (za 5))))) (zz (qM (qk (zb (by exact pz (za 6)) (zb (by exact pz (qk (zb Zf (zb (za 8) zk)))) zk))))) qc) (zj (jg (qg Hf (zM (qN hr tk) (zM (qN hr tk) (za 0) (za 7)) (za 8)) QX) (zz (qM (qk (zb (by exact pz (za 6)) (zb (by exact pz (qk (zb Zf (zb (zM (qN hr tk) (za 3) (za 7)) (zb (za 8) zk))))) zk))))) qc) (zj (Zg (pw (za 6) (zb (zM (qN hr tk) (za 4) (zM (qN hr tk) (zM (qN hr tk) (zM (qN hr tk) (za 0) (za 7)) (za 8)) zq)) zk))) (zj (zU 7 hN (zM (qN hr tk) (zM (qN hr tk) (zM (qN hr tk) (za 0) (za 7)) (za 8)) zq)) (zz (jg (qg uI (za 7) zq) (zz (qM (qk (zb (by exact pz (za 6)) (zb (by exact pz (qk (zb Zf zk))) zk))))) qc))))))) (zz (qM (qk (zb (by exact pz (za 6)) (zb (by exact pz (qk zk)) zk)))))))))
theorem zgr(h:Fx P w K mg a):bK P w K mg base (tab K a) 2 a.Fn 2 tY:=
 jl (N:=["row", "outcomes", "outcome"]) h.tY λaO A outer s H E hr tk hN=>(zz (Jr (lT rfl) rfl (xu rfl (za 0)) (jk (i:=2) hN) (zz (jg (JJ (Ct rZ uI zq (za 2) (za 1))) (zz (Z0 (C:=a.ft) rfl (fq h.eS.t).1 (fq h.eS.t).2 rfl rfl (by decide) (hr.mono (by decide):Room 1 _) tk (zb (za 2) zk))) qc))))
theorem J9(h:Fx P w K mg a):bK P w K mg base (tab K a) 2 a.wF 2 p_:=
 jl (N:=["self", "at", "node", "outcome"]) h.p_ λaO A outer s H E hr tk hN=>(zj (ZW (za 1) (xr rfl rfl (ZH (jk (i:=2) hN) (ZH (jk (i:=3) hN) xq)))) (zj (jg (qg (JL rfl hr.nA tk .nil) (za 2) (QZ 2 rfl rfl (za 0))) (zz (Z0 (C:=a.oG) rfl (fq h.iP.t).1 (fq h.iP.t).2 rfl rfl (by decide) (hr.mono (by decide):Room 1 _) tk (zb (za 2) zk))) qc) (zj (jg (JJ (Ct rZ uI zq (za 3) (QZ 0 rfl rfl (za 0)))) (zz (Z0 (C:=a.ft) rfl (fq h.eS.t).1 (fq h.eS.t).2 rfl rfl (by decide) (hr.mono (by decide):Room 1 _) tk (zb (za 3) zk))) qc) (zj (jg (qg (JL rfl hr.nA tk .nil) (ZO (zb (za 2) (zb (za 3) zk))) (QZ 3 rfl rfl (za 0))) (zz (Z0 (C:=a.gh) rfl (fq h.gL.t).1 (fq h.gL.t).2 rfl rfl (by decide) (hr.mono (by decide):Room 1 _) tk (zb (za 2) (zb (za 3) zk)))) qc) (zz (qM (zM (qN hr tk) (QZ 3 rfl rfl (za 0)) (ZO (zb (za 2) (zb (za 3) zk))))))))))
theorem zfh(h:Fx P w K mg a):bK P w K mg base (tab K a) 4 a.Fj 2 tX:=
 jl (N:=["self", "row", "actions", "node", "outcome", "name"]) h.tX λaO A outer s H E hr tk hN=>(zj (Zg (Qu (zgr h) hr tk h.Me (zb (za 1) (zb (QZ 0 rfl rfl (za 0)) zk)))) (zj (Xw 2 3 rfl hN (zb (qk zk) (zb (QZ 1 rfl rfl (za 0)) zk))) (zj (Jr (lT rfl) rfl (xu rfl (za 1)) (jk (i:=4) hN) (zj (ZW (zM (qQ rfl hr.u1 tk (show Q2 _ _ _ _ from(.cons (J9 h) (hr.mono (by decide)) (bA rfl h.E8) .nil))) (za 0) (ZO (zb (za 3) (zb (za 4) zk)))) (xr rfl rfl (ZH (jk (i:=5) hN) (ZH (jk (i:=3) hN) xq)))) (zj (Zg (pw (za 2) (zb (za 5) zk))) (zz (jg (qg Hf (za 3) QX) (zz (qM (ZO (zb (za 2) (zb xm zk))))) qc))))) (zz (qM (ZO (zb (za 2) (zb xm zk))))))))
theorem zmh(h:Fx P w K mg a):bK P w K mg base (tab K a) 5 a.called 2 uc:=
 jl (N:=["_law_chart", "_law_row", "_law_told", "_law_met", "e"]) h.uc λaO A outer s H E hr tk hN=>(zj (N4 4 (show sC _ _ _ _ from(.cons (bA rfl h.m7.em) (.cons (bA rfl h.eS.em) (.cons (bA rfl h.iP.em) (.cons (bA rfl h.gL.em) (.cons (bA rfl h.m6.em) .nil)))))) hN ⟨rfl,by decide,.inl h.Fg⟩ tk (λW pn xe tk MO=>(zj (zU 2 hN (Y3 rfl tk (show sG _ _ _ from(.cons (zfh h) (hr.mono (by decide)) (bA rfl h.Mb) .nil)) (za 0) (zb (za 1) zk))) (zj (jg (PW.pt (rW (JJ (JI rfl (HC (t:=SR) rfl (.ty "tuple") (HE rfl (by decide +kernel)) h.oC (za 2) (UO (v:=.ty "tuple") rfl h.Mr PyProof.Rows.Boot.«tuple» rfl)))) (rW (qg (o5 rfl hr.gS) (qO (Qt rfl) h.fy PyProof.Rows.Boot.«len» (zb (za 2) zk)) zq) (rW (JJ (JI rfl (HC (t:=SU) rfl (.ty "list") (HE rfl (by decide +kernel)) h.oC (zM (qN hr tk) (za 2) zq) (UO (v:=.ty "list") rfl h.uu PyProof.Rows.Boot.«list» rfl)))) (GW (JJ (JI rfl (HC (t:=SV) rfl (.ty "bool") (HE rfl (by decide +kernel)) h.oC (zM (qN hr tk) (za 2) zq) (UO (v:=.ty "bool") rfl h.MB PyProof.Rows.Boot.«bool» rfl))))))))) (zz (qM (qk (zb Zf zk)))) qc) (zj (zU 3 hN (Zb (Cz rfl) h.uu PyProof.Rows.Boot.«list» (zb (zM (qN hr tk) (za 2) zq) zk))) (zj (Zg (pw (zM (qN hr tk) (za 2) zq) (zb Zf zk))) (zz (qM (qk (zb Zf (zb (za 3) (zb (zM (qN hr tk) (za 2) zq) zk))))))))))) (λb oe C dd c fs pn hz hf hc=>(zj (jg (JI rfl (CO (Ej (v:=.ref a.ft) rfl h.Fe rfl) (λ_ h=>h) (show mB _ _ _ _ from(.cons (bA rfl ⟨h.m7.ec,h.EV⟩) (.cons (bA rfl ⟨h.eS.ec,h.ET⟩) (.cons (bA rfl ⟨h.iP.ec,h.EY⟩) (.cons (bA rfl ⟨h.gL.ec,h.EW⟩) (.cons (bA rfl ⟨h.m6.ec,h.EU⟩) .nil)))))) hc h.oC hz hf)) (zz (qM (qk (zb Zf (zb (uT (show kH _ _ _ _ from(.cons (bA rfl ⟨h.wB,h.eS.xc⟩) (.cons (bA rfl ⟨h.wC,h.gL.xc⟩) .nil))) hc rfl hz hf) zk))))) qc) (zz (jg (JI rfl (CO (Ej (v:=.ref a.gh) rfl h.Fq rfl) (λ_ h=>h) (show mB _ _ _ _ from(.cons (bA rfl ⟨h.m7.ec,h.E3⟩) (.cons (bA rfl ⟨h.eS.ec,h.EZ⟩) (.cons (bA rfl ⟨h.iP.ec,h.E5⟩) (.cons (bA rfl ⟨h.gL.ec,h.E4⟩) (.cons (bA rfl ⟨h.m6.ec,h.E2⟩) .nil)))))) hc h.oC hz hf)) (zz (qM (qk (zb Zf (zb (uT (show kH _ _ _ _ from(.cons (bA rfl ⟨h.Fc,h.iP.xc⟩) (.cons (bA rfl ⟨h.E_,h.gL.xc⟩) .nil))) hc rfl hz hf) (zb (uT (show kH _ _ _ _ from(.cons (bA rfl ⟨h.wB,h.eS.xc⟩) (.cons (bA rfl ⟨h.wC,h.gL.xc⟩) .nil))) hc rfl hz hf) zk)))))) qc))))) (zz (qM (qk (zb Zf zk)))))
theorem zd0(h:Fx P w K mg a):bK P w K mg base (tab K a) 1 a.Ff 1 tV:=
 jl (N:=["self"]) h.tV λaO A outer s H E hr tk hN=>(zz (qM (QZ 1 rfl rfl (za 0))))
theorem Uj(h:Fx P w K mg a):bK P w K mg base (tab K a) 4 a.Fm 3 rg:=
 jl (N:=["self", "node", "outcome"]) h.rg λaO A outer s H E hr tk hN=>(zz (qM (zM (qQ rfl hr.u1 tk (show Q2 _ _ _ _ from(.cons (J9 h) (hr.mono (by decide)) (bA rfl h.E8) .nil))) (za 0) (ZO (zb (za 1) (zb (za 2) zk))))))
theorem znR(h:Fx P w K mg a):Ia P w K mg base (tab K a) 5 a.trace 2 SY:=
 zmJ (N:=["walker", "row", "state", "outcome", "name"]) (ps:=["walker", "row"]) h.Ms rfl (λaO A outer L hr s0 H0 E tk hN=>⟨⟨(zU 2 hN (XM rfl (show("begin" : Str) ∉ rJ from by decide +kernel) (show Js _ _ _ _ _ from(.cons (bA rfl ⟨h.BG,qA (zd0 h) (hr.mono (by decide)) tk⟩) .nil)) (za 0))),(xu rfl (za 1))⟩,⟨(jk (i:=3) hN),(ZW (G9 rfl (show("step" : Str) ∉ rJ from by decide +kernel) (show Js _ _ _ _ _ from(.cons (bA rfl ⟨h.wG,qA (Uj h) (hr.mono (by decide)) tk⟩) .nil)) (za 0) (zb (za 2) (zb (za 3) zk))) (xr rfl rfl (ZH (jk (i:=4) hN) (ZH (jk (i:=2) hN) xq)))),(za 4),(jg (qg Hf (za 2) QX) (zz Xt) qc)⟩⟩) rfl (λ_=>rfl) (λ_ _=>rfl) ⟨rfl,rfl,rfl,by decide +kernel,rfl,by decide +kernel,by decide +kernel⟩ rfl
theorem zmi(h:Fx P w K mg a):bK P w K mg base (tab K a) 7 a.FE 2 ud:=
 jl (N:=["_law_chart", "_law_row", "_law_met", "_law_name", "e"]) h.ud λaO A outer s H E hr tk hN=>(zj (zU 2 hN (qk zk)) (zj (N4 4 (show sC _ _ _ _ from(.cons (bA rfl h.m7.em) (.cons (bA rfl h.eS.em) (.cons (bA rfl h.iP.em) (.cons (bA rfl h.gL.em) (.cons (bA rfl h.m6.em) .nil)))))) hN ⟨rfl,by decide,.inl h.Fg⟩ tk (λW pn xe tk MO=>(zz (ziP (i:=3) (j:=2) (znR h) (hr.mono (by decide)) tk MO rfl hN h.Mt (zb (za 0) (zb (za 1) zk)) (show OR _ _ from(λc C h0=>match c,h0 with|0,e0=>(kb.inj e0) ▸ h.Mf|1,e0=>(kb.inj e0) ▸ h.Ma|2,e0=>(kb.inj e0) ▸ h.L8|3,e0=>(kb.inj e0) ▸ h.Mc|4,e0=>(kb.inj e0) ▸ h.Md|5,e0=>(kb.inj e0) ▸ h.L_|_+6,e0=>nomatch e0))))) (λb oe C dd c fs pn hz hf hc=>(zj (jg (JI rfl (CO (Ej (v:=.ref a.ft) rfl h.Fe rfl) (λ_ h=>h) (show mB _ _ _ _ from(.cons (bA rfl ⟨h.m7.ec,h.EV⟩) (.cons (bA rfl ⟨h.eS.ec,h.ET⟩) (.cons (bA rfl ⟨h.iP.ec,h.EY⟩) (.cons (bA rfl ⟨h.gL.ec,h.EW⟩) (.cons (bA rfl ⟨h.m6.ec,h.EU⟩) .nil)))))) hc h.oC hz hf)) (zz (qM (qk (zb (za 2) (zb Zf (zb (uT (show kH _ _ _ _ from(.cons (bA rfl ⟨h.wB,h.eS.xc⟩) (.cons (bA rfl ⟨h.wC,h.gL.xc⟩) .nil))) hc rfl hz hf) zk)))))) qc) (zj (jg (JI rfl (CO (Ej (v:=.ref a.gh) rfl h.Fq rfl) (λ_ h=>h) (show mB _ _ _ _ from(.cons (bA rfl ⟨h.m7.ec,h.E3⟩) (.cons (bA rfl ⟨h.eS.ec,h.EZ⟩) (.cons (bA rfl ⟨h.iP.ec,h.E5⟩) (.cons (bA rfl ⟨h.gL.ec,h.E4⟩) (.cons (bA rfl ⟨h.m6.ec,h.E2⟩) .nil)))))) hc h.oC hz hf)) (zz (qM (qk (zb (za 2) (zb Zf (zb (uT (show kH _ _ _ _ from(.cons (bA rfl ⟨h.Fc,h.iP.xc⟩) (.cons (bA rfl ⟨h.E_,h.gL.xc⟩) .nil))) hc rfl hz hf) (zb (uT (show kH _ _ _ _ from(.cons (bA rfl ⟨h.wB,h.eS.xc⟩) (.cons (bA rfl ⟨h.wC,h.gL.xc⟩) .nil))) hc rfl hz hf) zk))))))) qc) (zz (qM (qk (zb Zf zk)))))))) (zz (qM (qk (zb (za 2) zk))))))
theorem Ef(h:Fx P w K mg a):bK P w K mg base (tab K a) 8 a.fits 7 uq:=
 jl (N:=["_law_chart", "_law_rows_here", "_law_row", "_law_start", "_law_bad", "_law_nodes", "_law_actions", "_law_walked_here", "_law_met", "_law_end", "_law_due", "_law_passed", "_law_turn", "_law_edge"]) h.uq λaO A outer s H E hr tk hN=>(zj (zU 7 hN (Qu (zmg h) hr tk h.Mi (zb (za 1) (zb (za 2) (zb (za 3) (zb (za 5) (zb (za 6) zk))))))) (zj (zU 8 hN (zM (qN hr tk) (za 7) zq)) (zj (Oi (zU 9 hN (zM (qN hr tk) (za 7) zq))) (zj (zU 10 hN (qk (zb Zf (zb (za 8) (zb (zev (r8 rfl hr.gS) (za 9) (qk (zb Zf zk))) zk))))) (zj (jg (qg (o5 rfl hr.gS) (za 4) (qk zk)) (zz (zU 10 hN (qk (zb Zf (zb (zM (qN hr tk) (za 4) zq) zk))))) (zz (jg (PW.pt (uD (qg (o5 rfl hr.gS) (za 9) (qk zk)) (Cc (qg (o5 rfl hr.gS) (za 9) (qk (zb Zf zk)))))) (zz (zU 10 hN (za 9))) qc))) (zj (jg (qg (r8 rfl hr.gS) (za 9) (qk (zb Zf zk))) (zz (Oi (zU 9 hN (qk zk)))) qc) (zj (zU 11 hN (Zb (Cz rfl) h.uu PyProof.Rows.Boot.«list» (zb (za 2) zk))) (zj (Jr (lT rfl) rfl (Zv h.lX (zb zq zk)) (jk (i:=12) hN) (zz (jg (PW.pt (rW (qg (o5 rfl hr.gS) (Qu (zmh h) hr tk h.Mj (zb (za 0) (zb (za 11) zk))) (za 10)) (rW (qg (o5 rfl hr.gS) (za 11) (za 2)) (rW (qg (o5 rfl hr.gS) (Qu (zmi h) hr tk h.Ml (zb (za 0) (zb (za 11) zk))) (qK (zoH rfl) (qk (zb (za 8) zk)) (za 9))) (GW (qg (o5 rfl hr.gS) (za 11) (za 2))))))) (zz (qM xm)) qc))) (zj (jg (PW.pt (uD (qg (r8 rfl hr.gS) (za 4) (qk zk)) (uD (qg Ck (qO (Qt rfl) h.fy PyProof.Rows.Boot.«len» (zb (za 2) zk)) zq) (Cc (qg xG (zM (qN hr tk) (zM (qN hr tk) (za 1) (za 3)) (zM (qN hr tk) (za 2) zq)) QX))))) (zj (zU 13 hN (zM (qN hr tk) (zM (qN hr tk) (za 1) (za 3)) (zM (qN hr tk) (za 2) zq))) (zz (qM (zev (r8 rfl hr.gS) (Y_ h.wG (Uj h) hr tk (za 0) (zb (zM (qN hr tk) (za 5) (za 3)) (zb (zM (qN hr tk) (za 2) zq) zk))) (ZO (zb (zM (qN hr tk) (za 6) (zM (qN hr tk) (za 13) zq)) (zb (Nc (qg xC (zM (qN hr tk) (za 13) zq) zq) (zM (qN hr tk) (za 5) (zM (qN hr tk) (za 13) zq)) QX) zk))))))) qc) (zz (qM xm)))))))))))
theorem zoc(h:Fx P w K mg a) {fd:oi}(F:Fun K "law" "law" (top 29) a.Ed fd):pT P w K mg base (L2N.CX P w) 9 a.Ed fd ["_law_script"] (LF (tab K a) 1 rE):=by
 refine Y5 (N:=["_law_script", "_law_pool", "_law_rows_here", "_law_wide", "_law_turn", "_law_k", "_law_place", "_law_nodes", "_law_actions", "_law_chart", "_law_order_here", "_law_start", "_law_row", "_law_bad", "_law_edge"]) (ps:=["_law_script"]) F ⟨rfl,rfl,rfl,by decide +kernel,rfl,by decide +kernel,by decide +kernel⟩ rfl λaO A outer s H E hr=>?_
 have tk:Takes (A7 (L2N.CX P w) P w K mg base ["_law_script", "_law_pool", "_law_rows_here", "_law_wide", "_law_turn", "_law_k", "_law_place", "_law_nodes", "_law_actions", "_law_chart", "_law_order_here", "_law_start", "_law_row", "_law_bad", "_law_edge"] "law" (aU (top 29)) a.Ed aO A outer s H E) (λcls d _ H=>E cls d H):=takes_of rfl rfl rfl rfl
 have hN:(["_law_script", "_law_pool", "_law_rows_here", "_law_wide", "_law_turn", "_law_k", "_law_place", "_law_nodes", "_law_actions", "_law_chart", "_law_order_here", "_law_start", "_law_row", "_law_bad", "_law_edge"]:List Str).Nodup:=by decide +kernel
 exact(zj (zU 1 hN (qk (zb (Zb (Cz rfl) h.uu PyProof.Rows.Boot.«list» (zb (za 0) zk)) (zb zq (zb zq (zb zq zk)))))) (zj (zU 2 hN (qs (qA (Ug h) (hr.mono (by decide)) tk) (Ug (base:=base) h).kp h.My (zb (za 1) (zb zq (zb zq zk))))) (zj (zU 3 hN (qO (Qt rfl) h.fy PyProof.Rows.Boot.«len» (zb (zM (qQ rfl hr.u1 tk .nil) (za 2) zq) zk))) (zj (Jr (lT rfl) rfl (Zv h.lX (zb (qs (qA (qr h) (hr.mono (by decide)) tk) (qr (base:=base) h).kp h.dz (zb (za 1) (zb zq zk))) zk)) (jk (i:=4) hN) (zj (zU 5 hN (qs (qA (qr h) (hr.mono (by decide)) tk) (qr (base:=base) h).kp h.dz (zb (za 1) (zb (qO (Qt rfl) h.fy PyProof.Rows.Boot.«len» (zb (za 2) zk)) zk)))) (zj (zU 6 hN (qs (qA (qr h) (hr.mono (by decide)) tk) (qr (base:=base) h).kp h.dz (zb (za 1) (zb (za 3) zk)))) (zz (ZW (qK (Zh rfl) (qK (Zh rfl) (Q4 rfl (zM (qQ rfl hr.u1 tk .nil) (za 2) (za 5)) JM (JN (za 6))) (qk (zb QX zk))) (Q4 rfl (zM (qQ rfl hr.u1 tk .nil) (za 2) (za 5)) (JN (qK (Zh rfl) (za 6) zq)) JM)) (JO (nv hr.u1 tk .nil) (za 2) (za 5))))))) (zj (zU 7 hN (qs (qA (Ee h) (hr.mono (by decide)) tk) (Ee (base:=base) h).kp h.Fz (zb (za 1) (zb (qO (Qt rfl) h.fy PyProof.Rows.Boot.«len» (zb (za 2) zk)) zk)))) (zj (zU 8 hN (qs (qA (Ee h) (hr.mono (by decide)) tk) (Ee (base:=base) h).kp h.Fz (zb (za 1) (zb zq zk)))) (zj (zU 9 hN (qs (qA (Uh h) (hr.mono (by decide)) tk) (Uh (base:=base) h).kp h.MA (zb (za 2) (zb (za 7) (zb (za 8) zk))))) (zj (zU 10 hN (qs (qA (Ui h) (hr.mono (by decide)) tk) (Ui (base:=base) h).kp h.Mq (zb (za 2) zk))) (zj (zU 11 hN (zM (qQ rfl hr.u1 tk .nil) (za 10) (qs (qA (qr h) (hr.mono (by decide)) tk) (qr (base:=base) h).kp h.dz (zb (za 1) (zb (qO (Qt rfl) h.fy PyProof.Rows.Boot.«len» (zb (za 10) zk)) zk))))) (zj (Zg (G9 rfl (show("start_at" : Str) ∉ rJ from by decide +kernel) (show Js _ _ _ _ _ from(.cons (bA rfl ⟨h.BF,qA (zch h) (hr.mono (by decide)) tk⟩) .nil)) (za 9) (zb (zM (qQ rfl hr.u1 tk .nil) (za 7) (za 11)) zk))) (zj (Yg 12 rfl hN (Zv h.lX (zb (qs (qA (qr h) (hr.mono (by decide)) tk) (qr (base:=base) h).kp h.dz (zb (za 1) (zb zq zk))) zk)) (own:=[("_law_turn",4)]) (LJ (N:=["_law_script", "_law_pool", "_law_rows_here", "_law_wide", "_law_turn", "_law_k", "_law_place", "_law_nodes", "_law_actions", "_law_chart", "_law_order_here", "_law_start", "_law_row", "_law_bad", "_law_edge"]) (sc:=aU (top 29)) (by decide +kernel)) (λ_ _ _ _ _=>(CB 4 hN)) (λ_ _ _ _ _=>CD) (λ_ _ _ _ _=>(qs (qA (qr h) (hr.mono (by decide)) xv) (qr (base:=base) h).kp h.dz (zb (za 1) (zb (za 3) zk))))) (zj (jg (qg (r8 rfl hr.gS) (qs (qA (qr h) (hr.mono (by decide)) tk) (qr (base:=base) h).kp h.dz (zb (za 1) (zb zq zk))) zq) (zz (zU 12 hN (Q4 rfl (qK (Co) (za 12) zq) JM (JN zq)))) qc) (zj (zU 13 hN (qk zk)) (zj (jg (qg (r8 rfl hr.gS) (qs (qA (qr h) (hr.mono (by decide)) tk) (qr (base:=base) h).kp h.dz (zb (za 1) (zb zq zk))) zq) (zj (zU 6 hN (qs (qA (qr h) (hr.mono (by decide)) tk) (qr (base:=base) h).kp h.dz (zb (za 1) (zb (qK (Zh rfl) (qO (Qt rfl) h.fy PyProof.Rows.Boot.«len» (zb (za 12) zk)) zq) zk)))) (zj (zU 13 hN (qk (zb (qK (Nl) (qK (Zh rfl) (za 3) (qs (qA (qr h) (hr.mono (by decide)) tk) (qr (base:=base) h).kp h.dz (zb (za 1) (zb zq zk)))) (qK (Co) (qK (Zh rfl) (za 3) zq) (qs (qA (qr h) (hr.mono (by decide)) tk) (qr (base:=base) h).kp h.dz (zb (za 1) (zb zq zk))))) zk))) (zz (zU 12 hN (qK (Zh rfl) (qK (Zh rfl) (qK (Zh rfl) (Q4 rfl (za 12) JM (JN (za 6))) (za 13)) (Q4 rfl (za 12) (JN (za 6)) JM)) (qk (zb (za 3) zk))))))) qc) (zj (jg (JJ (JI rfl (qs (qA (Ef h) (hr.mono (by decide)) tk) (Ef (base:=base) h).kp h.FH (zb (za 9) (zb (za 2) (zb (za 12) (zb (za 11) (zb (za 13) (zb (za 7) (zb (za 8) zk)))))))))) (zz (qM xm)) qc) (zj (zU 5 hN (zM (qQ rfl hr.u1 tk .nil) (za 10) (qs (qA (qr h) (hr.mono (by decide)) tk) (qr (base:=base) h).kp h.dz (zb (za 1) (zb (qO (Qt rfl) h.fy PyProof.Rows.Boot.«len» (zb (za 10) zk)) zk))))) (zj (zU 6 hN (qs (qA (qr h) (hr.mono (by decide)) tk) (qr (base:=base) h).kp h.dz (zb (za 1) (zb (za 3) zk)))) (zj (zU 14 hN (ZO (zb (qs (qA (qr h) (hr.mono (by decide)) tk) (qr (base:=base) h).kp h.dz (zb (za 1) (zb zq zk))) (zb (zM (qQ rfl hr.u1 tk .nil) (za 10) (qs (qA (qr h) (hr.mono (by decide)) tk) (qr (base:=base) h).kp h.dz (zb (za 1) (zb (qO (Qt rfl) h.fy PyProof.Rows.Boot.«len» (zb (za 10) zk)) zk)))) zk)))) (zj (ZW (qK (Zh rfl) (qK (Zh rfl) (Q4 rfl (zM (qQ rfl hr.u1 tk .nil) (za 2) (za 5)) JM (JN (za 6))) (qk (zb (za 14) zk))) (Q4 rfl (zM (qQ rfl hr.u1 tk .nil) (za 2) (za 5)) (JN (qK (Zh rfl) (za 6) zq)) JM)) (JO (nv hr.u1 tk .nil) (za 2) (za 5))) (zj (ZW (ZO (zb (zM (qQ rfl hr.u1 tk .nil) (za 8) (zM (qQ rfl hr.u1 tk .nil) (za 14) zq)) (zb (zM (qQ rfl hr.u1 tk .nil) (za 7) (zM (qQ rfl hr.u1 tk .nil) (za 14) zq)) zk))) (JO (nv hr.u1 tk (show Q2 _ _ _ _ from(.cons (J8 h) (hr.mono (by decide)) (bA rfl h.E7) .nil))) (za 9) (ZO (zb (zM (qQ rfl hr.u1 tk .nil) (za 7) (za 5)) (zb (za 6) zk))))) (zz (qM (qs (qA (Ef h) (hr.mono (by decide)) tk) (Ef (base:=base) h).kp h.FH (zb (za 9) (zb (za 2) (zb (za 12) (zb (za 11) (zb (za 13) (zb (za 7) (zb (za 8) zk))))))))))))))))))))))))))))))
end dq
end WL
end
set_option maxHeartbeats 0
namespace WL
namespace dq
open PySem PySem.Spec
open L2 hiding Takes XE CX PMk MkP ps_raise ps_try_as ps_try_many passAt passes_call takes_of HdsOk mk_of
open L2N (Takes XE CX PMk MkP ps_raise ps_try_as ps_try_many passAt passes_call takes_of HdsOk mk_of)
open PyProof.Rows hiding St
abbrev PP:bO:=PySem.Challenge.pw_strikeloops_k06_runs_of_charts
theorem jU{w:bS}{K:aT}{mg:Str->au az}{h:bj}{fa:aq}(X:K.In h) (G:h.Ns eP mg) (Ig:mg "law" = ah (.ref fa)) (c:Hd.lZ rQ GF K)
  (hm:∀ns:List Int,ns.length<=63->∃g,rE [.eH ns] [] = .ok (.bl aj) g) :
  ∃fd:oi,(∀(s:aK) (v:az),Lw s fd ⟨[v],[]⟩ [("_law_script",v)])/\∀base:bj,K.In base->base.Ns eP mg->pT PP w K mg base (L2N.CX PP w) 9 fa fd ["_law_script"] (HG 63 K):=by
 obtain⟨akG,r22⟩:=Hd.Vz (c.b 0);obtain⟨akJ,r55⟩:=Hd.Mm (c.b 1);obtain⟨akI,r56⟩:=Hd.Mm (c.b 2);obtain⟨akH,V2,V3⟩:=Hd.VA (c.b 3);obtain⟨akF,akE,V4⟩:=Hd.VB (c.b 4);obtain⟨_,_,_,_,_,_,_,_,_,r4,r5⟩:=c.df d0 0 5;obtain⟨_,_,_,_,_,_,_,_,_,r10,r11⟩:=c.df d1 1 6;obtain⟨_,_,_,_,_,_,_,_,_,r14,r15⟩:=c.df d2 2 7;obtain⟨_,_,_,_,_,_,_,_,_,r18,r19⟩:=c.df d3 3 8;obtain⟨_,_,_,_,_,_,_,_,_,_,_,_,_,_,r25⟩:=Hd.wK (c.b 9);obtain⟨_,_,_,_,_,_,_,_,_,_,_,_,_,_,_,_,_,_,_,r41,r42,r43,r44,r54,r45⟩:=Hd.wL (d:=d4) rfl (c.d 4) (c.b 10);obtain⟨_,_,_,_,_,_,_,_,_,r58,r59⟩:=c.df d5 5 11;obtain⟨_,_,_,_,_,_,_,_,_,_,_,_,_,_,r63⟩:=Hd.wK (c.b 12);obtain⟨_,_,_,_,_,_,_,_,_,_,_,_,_,_,_,_,_,_,_,r77,r78,r79,r80,r85,r81⟩:=Hd.wL (d:=d6) rfl (c.d 6) (c.b 13);obtain⟨_,_,_,_,_,_,_,_,_,r86,r87⟩:=c.df d7 7 14;obtain⟨_,_,_,_,_,_,_,_,_,r90,r91⟩:=c.df d8 8 15;obtain⟨_,_,_,_,_,_,_,_,_,_,_,_,_,_,V5⟩:=Hd.wK (c.b 16);obtain⟨_,_,_,_,_,_,_,_,_,_,_,_,_,_,_,_,_,_,_,V6,V7,V8,V9,V_,Wa⟩:=Hd.wL (d:=d9) rfl (c.d 9) (c.b 17);obtain⟨_,_,_,_,_,_,_,_,_,Wb,Wc⟩:=c.df Gh 10 18;obtain⟨_,_,_,_,_,_,_,_,_,Wd,We⟩:=c.df Gi 11 19;obtain⟨_,_,_,_,_,_,_,_,_,Wg,Wh⟩:=c.df Gj 12 20;obtain⟨_,_,_,_,_,_,_,_,_,_,_,_,_,_,Wi⟩:=Hd.wK (c.b 21);obtain⟨_,_,_,_,_,_,_,_,_,_,_,_,_,_,_,_,_,_,_,Wj,Wk,Wl,Wm,Wn,Wo⟩:=Hd.wL (d:=Gk) rfl (c.d 13) (c.b 22);obtain⟨_,_,_,_,_,_,_,_,_,Wq,Wr⟩:=c.df Gm 14 23;obtain⟨_,_,_,_,_,_,_,_,_,Ws,Wt⟩:=c.df Gn 15 24;obtain⟨_,_,_,_,_,_,_,_,_,Wu,Wv⟩:=c.df Gp 16 25;obtain⟨_,_,_,_,_,_,_,_,_,Ww,Wy⟩:=c.df Gq 17 26;obtain⟨_,_,_,_,_,_,_,_,_,_,_,_,_,_,Wz⟩:=Hd.wK (c.b 27);obtain⟨_,_,_,_,_,_,_,_,_,_,_,_,_,_,_,_,_,_,_,WA,WB,WC,WD,WH,WI⟩:=Hd.wL (d:=Gr) rfl (c.d 18) (c.b 28);obtain⟨_,_,_,_,_,_,_,_,_,WJ,WK⟩:=c.df Gs 19 29;obtain⟨_,_,_,_,_,_,_,_,_,WM,WN⟩:=c.df Gu 20 30;obtain⟨_,_,_,_,_,_,_,_,_,WO,WQ⟩:=c.df Gv 21 31;obtain⟨_,_,_,_,_,_,_,_,_,WR,WS⟩:=c.df Gw 22 32;obtain⟨_,_,_,_,_,_,_,_,_,WT,WU⟩:=c.df Gx 23 33;obtain⟨_,_,_,_,_,_,_,_,_,WV,WW⟩:=c.df Gy 24 34;obtain⟨_,_,_,_,_,_,_,_,_,WY,WZ⟩:=c.df Gz 25 35;obtain⟨_,_,_,_,_,_,_,_,_,W2,W3⟩:=c.df GA 26 36;obtain⟨_,_,_,_,_,_,_,_,_,MW,MX⟩:=c.df GB 27 37
 have e:(He.ga K "law")=fa:=by
  have e:=(dW X G (c.t 59)).symm.trans Ig;cases e;rfl
 subst e
 have F:Fx PP w K mg ⟨(He.ga K "_law_draw"),(He.ga K "_law_rows"),(He.ga K "_law_word"),(He.ga K "_law_words"),(He.ga K "BadOutcome"),(He.ga K "LoopError"),(He.ga K "is_name"),(He.ga K "BadName"),(He.ga K "check_name"),(He.ma K (He.ga K "Chart") "__init__"),(He.ga K "Chart"),(He.ga K "TooLarge"),(He.ma K (He.ga K "Chart") "__setitem__"),(He.ga K "_law_partial"),(He.ga K "_law_order"),(He.ga K "NoNode"),((Hd.At.xg "Chart" "start").ad K),(He.ma K (He.ga K "Chart") "start"),(He.ma K (He.ga K "Chart") "start_at"),(He.ga K "_law_walked"),(He.ga K "check_row"),(He.ga K "NoEdge"),(He.ma K (He.ga K "Chart") "__getitem__"),(He.ma K (He.ga K "Chart") "__call__"),(He.ga K "_law_called"),(He.ma K (He.ga K "Chart") "begin"),(He.ma K (He.ga K "Chart") "step"),(He.ga K "trace"),(He.ga K "_law_traced"),(He.ga K "_law_fits"),(He.ga K "law")⟩:={
  uu:=m5 X G (c.t 96),
  fy:=m5 X G (c.t 97),
  ML:=m5 X G (c.t 98),
  rF:=m5 X G (c.t 99),
  uj:=mC r4 r5 (c.b 73),
  dz:=dW X G (c.t 38),
  MM:=m5 X G (c.t 100),
  lX:=m5 X G (c.t 101),
  uk:=yl r10 r11 (c.b 74),
  My:=dW X G (c.t 39),
  um:=uZ r14 r15 (c.b 75),
  Mz:=dW X G (c.t 40),
  uf:=mC r18 r19 (c.b 76),
  Fz:=dW X G (c.t 41),
  L9:=⟨_,dW X G r22⟩,
  eS:=CQ (st:=fN (top 4) 0) X G (c.t 43) r25 (c.t 102) (c.t 103) (c.t 104) (c.t 105) (c.t 60) (c.t 106) (c.b 107) (c.t 108) (c.t 109) (c.t 110) (c.b 111) (c.t 112) (c.t 113) (c.t 114) (c.t 115) r41 r42 r43 r44 r45 (c.t 116) (c.t 117) (c.b 118) (c.t 119) (c.t 120) (c.t 121) (c.t 122) (c.t 123) rfl r54 rfl rfl rfl rfl (by decide +kernel) rfl rfl rfl (by decide +kernel) (λus hl=>match us,hl with|[_,_],_=>rfl) (by decide +kernel) (by decide) (by decide) (λ_ _ _ _ _ _=>⟨_,rfl⟩),
  Mo:=⟨_,dW X G r55⟩,
  Mh:=⟨_,dW X G r56⟩,
  MN:=m5 X G (c.t 124),
  tZ:=uZ r58 r59 (c.b 77),
  Mg:=dW X G (c.t 44),
  m7:=CQ (st:=fN (top 3) 0) X G (c.t 45) r63 (c.t 125) (c.t 126) (c.t 127) (c.t 128) (c.t 61) (c.t 129) (c.b 130) (c.t 131) (c.t 132) (c.t 133) (c.b 134) (c.t 135) (c.t 136) (c.t 114) (c.t 115) r77 r78 r79 r80 r81 (c.t 137) (c.t 117) (c.b 118) (c.t 119) (c.t 138) (c.t 121) (c.t 122) (c.t 139) rfl r85 rfl rfl rfl rfl (by decide +kernel) rfl rfl rfl (by decide +kernel) (λus hl=>match us,hl with|[_,_],_=>rfl) (by decide +kernel) (by decide) (by decide) (λ_ _ _ _ _ _=>⟨_,rfl⟩),
  tW:=uZ r86 r87 (c.b 78),
  wH:=dW X G (c.t 46),
  q_:=yl r90 r91 (c.b 79),
  Fp:=⟨(c.b 140),(c.t 62),(c.b 141),(c.b 142)⟩,
  cw_Chart:=⟨⟨(c.b 151),(c.b 152),(c.b 153),(c.t 154)⟩,(jo (c.t 150) (jo (c.t 149) (jo (c.t 148) (jo (c.t 147) (jo (c.t 146) (jo (c.t 145) (jo (c.t 144) (jo (c.t 143) HF))))))))⟩,
  Mp:=dW X G (c.t 47),
  Fd:=⟨_,V2,⟨_,rfl⟩,V3,by decide +kernel⟩,
  m6:=CQ (st:=fN (top 7) 0) X G (c.t 48) V5 (c.t 155) (c.t 156) (c.t 157) (c.t 158) (c.t 63) (c.t 159) (c.b 160) (c.t 161) (c.t 162) (c.t 163) (c.b 164) (c.t 165) (c.t 166) (c.t 114) (c.t 115) V6 V7 V8 V9 Wa (c.t 167) (c.t 117) (c.b 118) (c.t 119) (c.t 168) (c.t 121) (c.t 122) (c.t 169) rfl V_ rfl rfl rfl rfl (by decide +kernel) rfl rfl rfl (by decide +kernel) (λus hl=>match us,hl with|[_,_],_=>rfl) (by decide +kernel) (by decide) (by decide) (λ_ _ _ _ _ _=>⟨_,rfl⟩),
  tU:=yl Wb Wc (c.b 80),
  E7:=⟨(c.t 64),(c.b 170),(c.b 171),(c.b 172)⟩,
  uo:=yl Wd We (c.b 81),
  MA:=dW X G (c.t 49),
  ug:=uZ Wg Wh (c.b 82),
  Mq:=dW X G (c.t 50),
  iP:=CQ (st:=fN (top 5) 0) X G (c.t 51) Wi (c.t 173) (c.t 174) (c.t 175) (c.t 176) (c.t 65) (c.t 177) (c.b 178) (c.t 179) (c.t 180) (c.t 181) (c.b 182) (c.t 183) (c.t 184) (c.t 114) (c.t 115) Wj Wk Wl Wm Wo (c.t 185) (c.t 117) (c.b 118) (c.t 119) (c.t 186) (c.t 121) (c.t 122) (c.t 187) rfl Wn rfl rfl rfl rfl (by decide +kernel) rfl rfl rfl (by decide +kernel) (λus hl=>match us,hl with|[_,_],_=>rfl) (by decide +kernel) (by decide) (by decide) (λ_ _ _ _ _ _=>⟨_,rfl⟩),
  tS:=mC Wq Wr (c.b 83),
  L7:=⟨(c.t 154),(c.b 153),(c.t 188),(c.t 189),_,_,V4⟩,
  tT:=mC Ws Wt (c.b 84),
  BF:=⟨(c.t 67),(c.b 190),(c.b 84)⟩,
  ua:=Z_ Wu Wv (c.b 85),
  Mi:=dW X G (c.t 52),
  tY:=mC Ww Wy (c.b 86),
  Me:=dW X G (c.t 53),
  gL:=Y6 (st:=fN (top 6) 0) X G (c.t 54) Wz (c.t 191) (c.t 192) (c.t 193) (c.t 194) (c.t 195) (c.t 68) (c.t 196) (c.b 197) (c.t 198) (c.t 199) (c.t 200) (c.b 201) (c.t 202) (c.t 203) (c.t 114) (c.t 115) WA WB WC WD WI (c.t 204) (c.t 117) (c.b 118) (c.t 119) (c.t 205) (c.t 121) (c.t 122) (c.t 206) rfl WH rfl rfl rfl rfl (by decide +kernel) rfl rfl rfl (by decide +kernel) (λus hl=>match us,hl with|[_,_,_],_=>rfl) (by decide +kernel) (by decide) (by decide) (by decide) (by decide) (by decide) (λ_ _ _ _ _ _=>⟨_,rfl⟩),
  p_:=mC WJ WK (c.b 87),
  E8:=⟨(c.t 69),(c.b 207),(c.b 208),(c.b 172)⟩,
  tX:=mC WM WN (c.b 88),
  Mb:=⟨(c.t 70),(c.b 209),(c.b 210)⟩,
  Mr:=m5 X G (c.t 211),
  oC:=m5 X G (c.t 212),
  MB:=m5 X G (c.t 213),
  Fe:=dW X G (c.t 43),
  EU:=pk (c.t 232) (c.b 214) (c.t 110) (c.t 215),
  EW:=pk (c.t 233) (c.b 214) (c.t 110) (c.t 216),
  EY:=pk (c.t 234) (c.b 214) (c.t 110) (c.t 217),
  ET:=Oe,
  EV:=pk (c.t 235) (c.b 214) (c.t 110) (c.t 218),
  wC:=(c.t 195),
  wB:=(c.t 105),
  Fq:=dW X G (c.t 54),
  E2:=pk (c.t 236) (c.b 219) (c.t 200) (c.t 220),
  E4:=Oe,
  E5:=pk (c.t 237) (c.b 219) (c.t 200) (c.t 221),
  EZ:=pk (c.t 238) (c.b 219) (c.t 200) (c.t 222),
  E3:=pk (c.t 239) (c.b 219) (c.t 200) (c.t 223),
  E_:=(c.t 194),
  Fc:=(c.t 176),
  Fg:=dW X G (c.t 42),
  uc:=mC WO WQ (c.b 89),
  Mj:=dW X G (c.t 55),
  tV:=uZ WR WS (c.b 90),
  BG:=⟨(c.t 71),(c.b 224),(c.b 90)⟩,
  rg:=yl WT WU (c.b 91),
  wG:=⟨(c.t 72),(c.b 225),(c.b 91)⟩,
  Ms:=mC WV WW (c.b 92),
  Mf:=(c.t 226),
  Ma:=(c.t 227),
  L8:=(c.t 228),
  Mc:=(c.t 229),
  Md:=(c.t 230),
  L_:=(c.t 231),
  Mt:=dW X G (c.t 56),
  ud:=mC WY WZ (c.b 93),
  Ml:=dW X G (c.t 57),
  uq:=zp2 W2 W3 (c.b 94),
  FH:=dW X G (c.t 58),
  rE:=uZ MW MX (c.b 95) }
 exact⟨_,λs v=>.of_eq rfl,λbase _ _=>Y0 rfl (zoc (base:=base) F (fun_mk MW MX (c.b 95))) hm⟩
end dq
end WL
open PySem PySem.W PySem.Calls PyProof.Rows
theorem PySem.Challenge.cw_strikeloops_k06_runs_of_charts_holds : PySem.Challenge.rw_strikeloops_k06_runs_of_charts.Holds := by
 w_on;o_law
 refine HandSHeadRun.head_any (r:=OpenLaw.row PySem.Challenge.rw_strikeloops_k06_runs_of_charts) (q:=view (OpenLaw.row PySem.Challenge.rw_strikeloops_k06_runs_of_charts).prog [29]) (H:=WL.dq.hk) (ob:=WL.dq.rR) (M:=8000) (loose:=WL.dq.M4) (d:=HandSHeadRun.topDef (OpenLaw.row PySem.Challenge.rw_strikeloops_k06_runs_of_charts).prog 29) (kwd:=[]) WL.dq.Xe
  (by kernel_rfl) (λs=>by kernel_rfl) WL.dq.Xf (by kernel_rfl) (by kernel_rfl) (by kernel_rfl) (by rfl) (by first|assumption|decide +kernel) (by decide +kernel) ⟨rfl,rfl,rfl,rfl,rfl,by decide +kernel⟩ ?hw ?hc
 case hw=>w_witness2
 case hc=>
  refine WL.Hd.Vx (l:=PySem.Challenge.rw_strikeloops_k06_runs_of_charts) (n:=63) (k:=9) (x := "_law_script") rfl (by decide) (by kernel_rfl) ⟨rfl,by decide,by decide⟩ ?F
  case F=>
   intro w mg fa h Y G W4;obtain⟨K,KX,c⟩:=Y
   have HM:mg ("law" : Ez)=ah (.ref fa):=by
    have e:(HandSHeadRun.topDef (OpenLaw.row PySem.Challenge.rw_strikeloops_k06_runs_of_charts).prog 29).name=("law" : Ez):=by kernel_rfl
    rw[<- e];exact W4
   obtain⟨fd,hb,hF⟩:=WL.dq.jU (w:=w) KX G HM c WL.dq.zmd;exact⟨K,fd,KX,hb,hF⟩
