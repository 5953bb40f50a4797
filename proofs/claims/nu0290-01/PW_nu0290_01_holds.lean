import PyProof.Rows.All
import Wide.All
import OpenK.AllK
import Wide.FinOn
import PyProof.TableCode
import PyProof.ExcArgs
import PyProof.InstStoreFacts
import PyProof.ExcClass3
import PyProof.ExcBaseAll.ValueError
import KE.KDictList
import KE.KIntText
import KE.KDictAnyGet
import Lean
import PySem.Challenge.RW_nu0290_01
open PySem
set_option Elab.async false
set_option maxRecDepth 100000
set_option autoImplicit false
set_option linter.all false
namespace Mine.Internal
open _root_.Array renaming any_toList->rZ,getElem?_eq_getElem->kK,getElem?_eq_some_iff->kD,getElem?_setIfInBounds_self_of_lt->fS,getElem?_toList->ck,length_toList->ce,size_setIfInBounds->lH,toList->qS,toList_extract->oi,toList_inj->sb
open Bool renaming and_eq_true->ax,and_eq_true_iff->bN,and_false->ku,and_true->jh,eq_iff_iff->dL,false->I,false_eq_true->kB,false_ne_true->em,false_or->gC,not_eq_true'->dt,or_eq_false_iff->cO,or_eq_true->dz,or_eq_true_iff->o8,true->S
open Char renaming toNat->vk
open Decidable renaming decide->aI
open ForInStep renaming yield->eG
open Int renaming add_sub_cancel->fx,eq_ofNat_of_zero_le->eW,fmod_lt_of_pos->gU,fmod_nonneg_of_pos->fy,le_of_lt->iO,le_trans->eN,lt_of_le_of_lt->gW,max_eq_right->rU,natCast_nonneg->d8,ne_of_gt->qN,not_le->kt,not_lt->dh,ofNat_inj->pu,ofNat_le->gh,ofNat_lt->fw,sub_pos_of_lt->qM,sub_sub->sG,toNat_le->mS,toNat_of_nonneg->eT,toNat_sub->jg
open Ne renaming symm->jP
open Option renaming bind_eq_some_iff->aA,isSome_iff_exists->bL,map_eq_some_iff->aP,none->cV,none->hH,some->Y
open Option.some renaming inj->aQ
open Prod.mk renaming injEq->lC
open PyProof.Rows renaming IsTup->n5,assign_Name->gB,envOf->vw,slot_tuple_contains->jG,subscriptTail->dW,tail_any->n7
open PySem renaming Addr->bf,Arguments->oS,Around->ch,Builtin->tF,CmpOp->fQ,Comprehension->cW,DictEntry->b7,Env->pv,Flow->qP,Heap->cT,Keyword->eU,Model->vp,NameKind->dr,Obj->iS,Operator->eO,Pos->da,Program->oU,Scope->cL,Sem->o7,Shared->aF,Stmt->eD,Str->aV,Tok->qV,TypeParam->oT,Value->ar,World->sL,assign->iP,assignEach->kz,backTo->gY,backToKw->f7,behindInMarks->gz,binaryOp->ek,bindArgs->vq,bindC->vt,callWith->n9,call_meetsIn->qU,cellsFrom->eX,codeAny->oW,codeAny_call_builtin->ju,compareOp->b9,contains->vn,eval->rV,getAttr->tE,getMethod->hU,getMethod_builtin->lh,holding->qO,intText?->vv,isInstance->kE,keywordEach->dH,mainGlobals->jp,meets_dict_get_default->mV,model->cB,rawInt->pY,setFlight->oX,sizeLine->gA,sizeLine_eq->cP,sliceBounds->sJ,slicePicked->n8,sliceRange->el,slot_list_getitem->kY,spliced->oV,starEach->dF,strKind->lF,strKind_is->fz,swappedStores->gE,swapsWith->rX,swapsWithSole->lG,sysModules->fZ,testChain->rW,truthy->nZ,valueAt->tG,wpAny->bY,wpAny_Call_Name_kw->kA,wpAny_Constant_int->kx,wpAny_Constant_str->gV,wpAny_Tuple->sH,wpAny_UnaryOp->pw,wpAny_bind->ay,wpAny_bindName->oa,wpAny_call->mT,wpAny_evalAll_nil->eP,wpAny_execs_nil->jB,wpAny_field->jt,wpAny_getItem_list_slice->lD,wpAny_holding->bS,wpAny_items_cons->dC,wpAny_items_nil->gK,wpAny_loadPart->og,wpAny_loadPart_at->eQ,wpAny_mono->bu,wpAny_newObj_type->kZ,wpAny_pure->aL,wpAny_pyIter_tupleiter->mU,wpAny_setField->kC,wpAny_standAt->cX,wpAny_storeName_local->ni,wpAny_truthy_bool->dv,wpAny_with_toks->cq,wpAt_bind->sX,wpAt_of_wpAny->pb
open PySem.Builtin.ObjectAttr renaming find->wQ,newKeyGuard->r9,ownDictForStores->dX,storeInDict->eY
open PySem.Builtin.Str renaming partsBetween->qT,strSliceIndices->jR
open PySem.Code renaming quiet_builtin->p0
open PySem.EntryCells renaming newEntry->o9
open PySem.Env renaming kindOf->f6
open PySem.Expr renaming casesOn->bg
open PySem.F renaming args_dict_get_3->mn,entry_dict_get->iR,excAttr_ValueError->kF,excBase_ValueError->eo,plainAttrs_dict->mv,slot_dict_get->eA,type_dict_get->nj
open PySem.Heap renaming SameBut->jQ,dictOf_iff->m9,get?_none_of_le->oh,get?_push_of_some->cA,get?_push_size->bA,get?_update_ne->jH,get?_update_self->dA,lt_size->cz
open PySem.Heap.IsSliceOf renaming new->pZ
open PySem.Heap.Ns renaming keeps->vR
open PySem.Heap.SameBut renaming update->dw
open PySem.NameKind renaming cell->lE,free->fH
open PySem.Obj renaming cls_mapFields->qQ,data_mapFields->dD,isFreed_of_fields->iY
open PySem.PyData renaming keyHash->d9
open PySem.Stmt renaming casesOn->pX
open PySem.Str renaming empty->se,ofString->am
open PySem.StrLaws renaming occBody->gi
open PySem.Value renaming builtin->pB,isStrOf->pz
open PySem.W renaming Frag->kJ,Looks->jq,callWith_of->jr,dictOf->fJ,findIn->eF,hasDictIn->mm,instObj->tD,keepIn->lI,kitOne->iQ,looks_clsIn->sK,looks_findIn->jS,looks_subIn->hJ,plainGet->n6,specialIn->rY,subIn->pA
open PySem.W.Looks renaming ld->qR
theorem U{α:Sort _}{a:α}:a=a:=rfl
noncomputable section
section
abbrev p9:=Nat.Internal.Linear.Expr
noncomputable abbrev p9.v(i:Nat):p9:=.var i
noncomputable abbrev p9.l(i:Nat):p9:=.num i
noncomputable abbrev p9.a(x y:p9):p9:=.add x y
noncomputable abbrev p9.m(k:Nat)(x:p9):p9:=.mulL k x
noncomputable abbrev p9.n(x:p9)(k:Nat):p9:=.mulR x k
def Xk(c:List Nat):Nat->Nat:=c.rec (λ_=>0) λa _ f i=>i.rec a λj _=>f j
def HL(c:List Nat)(e:p9):Nat:=e.rec (λk=>k) (λi=>Xk c i) (λ_ _ x y=>x+y) (λk _ x=>k*x) (λ_ k x=>x*k)
def ZJ(c:List Nat)(p:p9×p9):Prop:=HL c p.1<=HL c p.2
def p7(p:List Nat):List Nat->Nat:=p.rec (λ_=>0) λk _ f c=>k*c.headD 0+f c.tail
def J3(p:List Nat):List Nat->List Nat:=p.rec (λq=>q) λk _ f q=>(k+q.headD 0)::f q.tail
def IT(k:Nat)(p:List Nat):List Nat:=p.rec [] λx _ f=>k*x::f
noncomputable def Xm(i:Nat):List Nat:=i.rec [1] λ_ f=>0::f
def Y1(p:List Nat):List Nat->Bool:=p.rec (λ_=>S) λk _ f q=>Nat.ble k (q.headD 0)&&f q.tail
theorem Kt(p:List Nat):p7 p []=0:=p.rec U λ_ _ ih=>(Nat.zero_add _).trans ih
theorem v7(p:List Nat):∀q c,p7 (J3 p q) c=p7 p c+p7 q c:=by induction p with
 |nil=>exact λq c=>(Nat.zero_add _).symm
 |cons k r ih=>intro q c;show(k+q.headD 0)*c.headD 0+p7 (J3 r q.tail) c.tail=k*c.headD 0+p7 r c.tail+p7 q c;rw[ih];cases q with
  |nil=>rfl
  |cons a q=>show(k+a)*c.headD 0+(p7 r c.tail+p7 q c.tail)=k*c.headD 0+p7 r c.tail+(a*c.headD 0+p7 q c.tail);rw[Nat.add_mul,Nat.add_add_add_comm]
theorem ww(k:Nat)(p:List Nat):∀c,p7 (IT k p) c=k*p7 p c:=by induction p with
 |nil=>exact λ_=>rfl
 |cons x r ih=>intro c;show k*x*c.headD 0+p7 (IT k r) c.tail=k*(x*c.headD 0+p7 r c.tail);rw[ih,Nat.mul_add,Nat.mul_assoc]
theorem WD(i:Nat):∀c,p7 (Xm i) c=Xk c i:=by induction i with
 |zero=>intro c;cases c with
  |nil=>rfl
  |cons a r=>exact Nat.one_mul a
 |succ i ih=>intro c;cases c with
  |nil=>exact Kt _
  |cons a r=>show 0*a+p7 (Xm i) r=Xk r i;rw[ih,Nat.zero_mul,Nat.zero_add]
theorem WM(p:List Nat):∀q c,Y1 p q=S->p7 p c<=p7 q c:=by induction p with
 |nil=>exact λ_ _ _=>Nat.zero_le _
 |cons k r ih=>intro q c h;obtain⟨h1,h2⟩:=(ax _ _).mp h;have a:=Nat.le_of_ble_eq_true h1;cases q with
  |nil=>show k*c.headD 0+p7 r c.tail<=0;have a:k<=0:=a;have b:=ih [] c.tail h2;rw[Nat.le_zero.mp a,Nat.zero_mul,Nat.zero_add];exact b
  |cons x q=>exact Nat.add_le_add (Nat.mul_le_mul_right _ a) (ih q c.tail h2)
def J0(e:p9):List Nat:=e.rec (λk=>[k]) (λi=>0::Xm i) (λ_ _ x y=>J3 x y) (λk _ x=>IT k x) (λ_ k x=>IT k x)
theorem C6(c:List Nat)(x:p9):p7 (J0 x) (1::c)=HL c x:=by induction x with
 |var i=>show 0*1+p7 (Xm i) c=Xk c i;rw[WD,Nat.zero_mul,Nat.zero_add]
 |num k=>exact Nat.mul_one k
 |add x y h1 h2=>show p7 (J3 (J0 x) (J0 y)) _=HL c x+HL c y;rw[v7,h1,h2]
 |mulL k x h=>show p7 (IT k (J0 x)) _=k*HL c x;rw[ww,h]
 |mulR x k h=>show p7 (IT k (J0 x)) _=HL c x*k;rw[ww,h,Nat.mul_comm]
def YZ(c:List Nat)(g:Prop)(l:List (p9×p9)):Prop:=l.rec g λh _ f=>ZJ c h->f
def TJ(s:p9×p9->p9)(l:List (p9×p9)):List Nat->List Nat:=l.rec (λ_=>[]) λh _ f k=>J3 (IT (k.headD 0) (J0 (s h))) (f k.tail)
theorem S4(c:List Nat){g:Prop}(hs:List (p9×p9)):∀(ks:List Nat)(A ag:Nat),(A+p7 (TJ (·.1) hs ks) (1::c)<=ag+p7 (TJ (·.2) hs ks) (1::c)->g)->A<=ag->YZ c g hs:=by induction hs with
 |nil=>exact λ_ A ag k h=>k h
 |cons p r ih=>intro ks A ag k h hp;refine ih ks.tail (A+ks.headD 0*HL c p.1) (ag+ks.headD 0*HL c p.2) (λq=>k ?_) (Nat.add_le_add h (Nat.mul_le_mul_left _ hp));show A+p7 (J3 (IT (ks.headD 0) (J0 p.1)) (TJ (·.1) r ks.tail)) _<=ag+p7 (J3 (IT (ks.headD 0) (J0 p.2)) (TJ (·.2) r ks.tail)) _;rw[v7,v7,ww,ww,C6,C6,<-Nat.add_assoc,<-Nat.add_assoc];exact q
theorem bE(c:List Nat)(hs:List (p9×p9))(k:Nat)(ks:List Nat)(x y:p9)(ok:Y1 (J3 (IT (k+1) (J0 x)) (TJ (·.2) hs ks)) (J3 (J3 [k] (IT (k+1) (J0 y))) (TJ (·.1) hs ks))=S):YZ c (HL c x<=HL c y) hs:=by have h3:=WM _ _ (1::c) ok;rw[v7,v7,v7,ww,ww,C6,C6,show p7 [k] (1::c)=k from Nat.mul_one k]at h3;refine S4 c hs ks 0 0 (λq=>?_) (Nat.le_refl 0);rw[Nat.zero_add,Nat.zero_add]at q;have h5:=Nat.le_of_add_le_add_right (Nat.le_trans h3 (Nat.add_le_add_left q _));refine Nat.le_of_lt_succ (Nat.lt_of_mul_lt_mul_left (a:=k+1) ?_);rw[Nat.mul_succ,Nat.add_comm _ (k+1),Nat.succ_add];exact Nat.lt_succ_of_le h5
theorem ZU{a b:Nat}(h:¬a<=b):b<a:=Nat.lt_of_not_le h
theorem Xi{a b:Nat}(h:¬a<b):b<=a:=Nat.le_of_not_lt h
theorem nz{a:Nat}(h:a≠0):0<a:=Nat.pos_of_ne_zero h
theorem Hk{a b:Nat}(h:a=b):a<=b:=Nat.le_of_eq h
theorem JJ{a b:Nat}(h:a=b):b<=a:=Nat.le_of_eq h.symm
theorem nf{P:Prop}(h:1<=0):P:=absurd h (Nat.not_succ_le_zero 0)
theorem leT{a b c:Nat}(h:a<=b)(k:Nat.ble b c=S):a<=c:=Nat.le_trans h (Nat.le_of_ble_eq_true k)
theorem z0(a:Nat):(0:Int)<=a:=d8 a
theorem vA{a b:Nat}(h:a<b):(a:Int)<b:=fw.mpr h
theorem yL{a b:Nat}(h:a<=b):(a:Int)<=b:=gh.mpr h
theorem SW{a b:Nat}(h:b<=a):¬(a:Int)<b:=dh.mpr (yL h)
theorem WV{a b:Nat}(h:b<a):¬(a:Int)<=b:=kt.mpr (vA h)
theorem SN{a b:Nat}(h:a≠b):(a:Int)≠b:=λe=>h (pu.mp e)
theorem zT{a b c:Int}(h:a<=b)(k:aI (b<=c)=S):a<=c:=eN h (of_decide_eq_true k)
theorem zB{a b c:Int}(k:aI (a<=b)=S)(h:b<=c):a<=c:=eN (of_decide_eq_true k) h
theorem zU{a b c:Int}(h:a<b)(k:aI (b<=c)=S):a<c:=Int.lt_of_lt_of_le h (of_decide_eq_true k)
theorem J6{w c:Int}{v:Nat}(h:w<=c):w-v<=c:=eN (Int.sub_le_self w (z0 v)) h
theorem zl{w c:Int}{v d:Nat}(h:c<=w)(hv:v<=d):c-d<=w-v:=Int.sub_le_sub h (yL hv)
theorem Xj{w:Int}{b K:Nat}(h:w<=K):(w-b).toNat<=K:=mS.mpr (J6 h)
theorem TP{w:Int}{b K:Nat}(h:w<=K)(hb:b<=K):(w-b).toNat+b<=K:=by omega
theorem ZO{w:Int}{b K:Nat}(h:w<=K)(hb:b<=K):b+(w-b).toNat<=K:=Nat.add_comm _ _▸TP h hb
theorem X5{W:Int}{n k:Nat}(h:(W-n).toNat=k+1):(n:Int)<W/\(W-((n+1:Nat):Int)).toNat=k:=by have p:0<W-(n:Int):=Int.lt_toNat.mp (h▸Nat.succ_pos k);have e:W-(n:Int)=((k+1:Nat):Int):=(eT (iO p)).symm.trans (congrArg _ h);refine⟨Int.lt_of_sub_pos p,?_⟩;rw[show((n+1:Nat):Int)=(n:Int)+1 from U,<-sG,e];exact congrArg Int.toNat (fx (k:Int) 1)
theorem ZL{W:Int}{n:Nat}(h:(W-n).toNat=0):¬(n:Int)<W:=λq=>Nat.lt_irrefl 0 (Nat.lt_of_lt_of_eq (Int.lt_toNat.mpr (qM q)) h)
theorem XO{m:Nat}{d:Int}(hm:0<m)(h:d<m):d.toNat<m:=by omega
theorem Rw(d a k:Nat)(h:d<=a+k)(h':a<=d+k):((d:Int)-a).natAbs<=k:=by omega
theorem Zy{d:Int}(h0:0<=d)(h1:d<601):(d-300).natAbs<=300:=by obtain⟨m,rfl⟩:=eW h0;exact Rw m 300 300 (Nat.le_of_lt_succ (fw.mp h1)) (Nat.le_add_left _ _)
theorem ZA{a:Int}(h:¬a<0):(a.natAbs:Int)=a:=Int.natAbs_of_nonneg (dh.mp h)
theorem ZG{a:Int}(h:a<0):-(a.natAbs:Int)=a:=by rw[Int.ofNat_natAbs_of_nonpos (iO h),Int.neg_neg]
theorem ZD{w:Int}{k:Nat}(h:0<w)(h2:w<k):¬k<=w.natAbs:=by obtain⟨m,rfl⟩:=eW (iO h);exact Nat.not_le_of_lt (fw.mp h2)
theorem CR{a:Int}{k:Nat}(h:a.natAbs<=k):a<=k/\-a<=k:=⟨eN Int.le_natAbs (yL h),eN Int.le_natAbs (yL (Int.natAbs_neg a▸h))⟩
theorem Xf{k n:Nat}(h:n<k):k=k-1+1:=(Nat.sub_add_cancel (Nat.zero_lt_of_lt h)).symm
theorem Zm{k n:Nat}(hk:k<=n):min k n+(n-k)=n:=(congrArg (·+(n-k)) (Nat.min_eq_left hk)).trans (Nat.add_sub_of_le hk)
theorem Zv{k n c:Nat}(hk:k<n)(h:n<=c):min k n+1+(n-k)<=c+1:=Nat.le_trans (Nat.le_of_eq (Nat.add_right_comm _ _ _)) (Nat.succ_le_succ (Nat.le_trans (Nat.le_of_eq (Zm (Nat.le_of_lt hk))) h))
theorem Zw{k n c:Nat}(hk:k<n)(h:n<=c):min k n+(n-k+1)<=c+1:=Nat.succ_le_succ (Nat.le_trans (Nat.le_of_eq (Zm (Nat.le_of_lt hk))) h)
theorem ZF(n:Nat):((-1:Int)+n).toNat=n-1:=(congrArg Int.toNat (Int.add_comm (-1) (n:Int))).trans (jg n 1)
theorem ZT{a d p:Nat}(c8:d<=p)(q1:p-d<=a)(q2:a<=p):a+(d-(a-(p-d)))=p:=by obtain⟨x,rfl⟩:=Nat.exists_eq_add_of_le q1;have hx:x<=d:=Nat.le_of_add_le_add_left (a:=p-d) (by rw[Nat.sub_add_cancel c8];exact q2);rw[Nat.add_sub_cancel_left,Nat.add_assoc,Nat.add_sub_of_le hx,Nat.sub_add_cancel c8]
theorem ZQ{a b n:Nat}(hb:b<=n+1)(h:b-a=n+1):a=0/\b=n+1:=by obtain rfl:=Nat.le_antisymm hb (h▸Nat.sub_le b a);cases a with
 |zero=>exact⟨U,U⟩
 |succ a=>exact absurd h (Nat.ne_of_lt (Nat.lt_succ_of_le (Nat.le_trans (Nat.le_of_eq (Nat.succ_sub_succ n a)) (Nat.sub_le n a))))
theorem ZP(n:Nat):((n:Int)-1- -1- -1-1).toNat=n:=by rw[Int.sub_neg,Int.sub_neg,Int.sub_add_cancel,fx];rfl
theorem Zu(n k:Nat):((n:Int)-1+-1*(k:Int)).toNat=n-1-k:=by rw[Int.neg_mul,Int.one_mul,Int.add_neg_eq_sub,sG,show(1:Int)+k=((1+k:Nat):Int)from U,jg,Nat.sub_sub]
theorem ZS(a b:Nat):((b:Int)-a+1-1).toNat=b-a:=by rw[fx,jg]
theorem sm2(a k:Nat):((a:Int)+1*(k:Int)).toNat=a+k:=by rw[Int.one_mul];rfl
theorem Zr{i x j:Nat}(h:i<=j)(hx:x<=j):i-x+x<=j:=Nat.sub_add_eq_max i x▸Nat.max_le.mpr ⟨h,hx⟩
theorem Zq(n:Nat){i:Int}(q:i<0):max 0 (min (i+(n:Int)) (n:Int))=((i+n).toNat:Int)/\(i+(n:Int)).toNat<=n:=by
 have ht:i+(n:Int)<=n:=by omega
 exact⟨by rw[Int.min_eq_left ht,Int.toNat_eq_max,Int.max_comm],mS.mpr ht⟩
theorem Zz(n:Nat){i:Int}(q:¬i<0):max 0 (min i (n:Int))=((min i.toNat n:Nat):Int)/\min i.toNat n<=n:=by obtain⟨m,rfl⟩:=eW (dh.mp q);refine⟨?_,Nat.min_le_right _ _⟩;show max 0 (min (m:Int) n)=((min m n:Nat):Int);cases Nat.le_total m n with
 |inl h=>rw[Int.min_eq_left (yL h),Nat.min_eq_left h];exact rU (z0 _)
 |inr h=>rw[Int.min_eq_right (yL h),Nat.min_eq_right h];exact rU (z0 _)
end
set_option genInjectivity false
set_option genSizeOf false
section
theorem nS{α:Type}{x:α}{P:Prop}(h:cV=Y x):P:=nomatch h
theorem TF{α:Type}{x:α}{P:Prop}(h:Y x=cV):P:=nomatch h
theorem nT{P:Prop}(h:I=S):P:=nomatch h
theorem nF{P:Prop}(h:S=I):P:=nomatch h
theorem sI{α:Type}{a b:α}(h:Y a=Y b):a=b:=aQ h
inductive J where
 |unb|none|bool (b:Bool)|int (i:Int)|str (s:List Nat)|sref (a:Nat)|obj (i:Nat)|bi (n:String)|ty (n:String)
inductive AO where
 |list (xs:List J)
 |tup (xs:List J)
 |dict (es:List (List Nat×J))
 |inst (C:Nat) (fs:List (Nat×J))
 |exn (C:Nat) (new:Bool) (fd:Option Nat)
 |fd (fs:List (Nat×J))
noncomputable abbrev vC{α:Type}(d:α)(unb:α:=d)(cV:α:=d)(bool:Bool->α:=λ_=>d)(int:Int->α:=λ_=>d)(str:List Nat->α:=λ_=>d)(sref:Nat->α:=λ_=>d)(obj:Nat->α:=λ_=>d)(bi:String->α:=λ_=>d)(ty:String->α:=λ_=>d)(a:J):α:=a.casesOn unb cV bool int str sref obj bi ty
noncomputable abbrev oC{α:Type}(d:α)(list:List J->α:=λ_=>d)(tup:List J->α:=λ_=>d)(dict:List (List Nat×J)->α:=λ_=>d)(inst:Nat->List (Nat×J)->α:=λ_ _=>d)(exn:Nat->Bool->Option Nat->α:=λ_ _ _=>d)(fd:List (Nat×J)->α:=λ_=>d)(a:AO):α:=a.casesOn list tup dict inst exn fd
abbrev H:=List AO
structure St where
 loc:List J
 heap:H
 hand:Bool:=I
inductive lJ(ah α:Type)where
 |ok (a:α) (s:ah)
 |exc (x:Nat) (s:ah)
 |stuck
abbrev M(α:Type):=St->lJ St α
abbrev Hv:=lJ H J
abbrev cI:=Bool->Nat->List J->List (Nat×J)->H->Hv
section
variable{α β:Type}
noncomputable def M.ret(a:α):M α:=λs=>.ok a s
noncomputable def M.no:M α:=λ_=>.stuck
noncomputable def M.bind(m:M α)(f:α->M β):M β:=λs=>match m s with
 |.ok a s'=>f a s'
 |.exc x s'=>.exc x s'
 |.stuck=>.stuck
abbrev gd(b:Bool)(m:M α):M α:=bif b then m else M.no
abbrev gO(o:Option α)(k:α->M β):M β:=match o with
 |some a=>k a
 |.none=>M.no
def gM(a:J)(k:Int->M α):M α:=vC (M.no) (a:=a) (int:=λx=>k x)
def jz(a:J)(k:List Nat->M α):M α:=vC (M.no) (a:=a) (str:=λx=>k x)
def kP(a:J)(k:Bool->M α):M α:=vC (M.no) (a:=a) (bool:=λx=>k x)
def nc(a:J)(k:Nat->M α):M α:=vC (M.no) (a:=a) (obj:=λx=>k x)
def pj(a:J)(k:M α):M α:=vC (M.no) (a:=a) (cV:=k)
abbrev rq(l:List β)(k:M α):M α:=match l with
 |[]=>k
 |_=>M.no
abbrev qH(l:List β)(k:β->M α):M α:=match l with
 |[]=>M.no
 |x::r=>rq r (k x)
abbrev Ls(l:List β)(k:β->β->M α):M α:=match l with
 |[]=>M.no
 |x::r=>qH r (k x)
def gH(i:Nat)(k:AO->M α):M α:=λs=>gO (s.heap[i]?) k s
def gL(i:Nat)(k:List J->M α):M α:=gH i λo=>oC (M.no) (a:=o) (list:=λxs=>k xs)
def gT(i:Nat)(k:List J->M α):M α:=gH i λo=>oC (M.no) (a:=o) (tup:=λxs=>k xs)
def gD(i:Nat)(k:List (List Nat×J)->M α):M α:=gH i λo=>oC (M.no) (a:=o) (dict:=λxs=>k xs)
def gX(i:Nat)(k:Nat->Bool->Option Nat->M α):M α:=gH i λo=>oC (M.no) (a:=o) (exn:=λC b fd=>k C b fd)
def gF(i:Nat)(k:List (Nat×J)->M α):M α:=gH i λo=>oC (M.no) (a:=o) (fd:=λxs=>k xs)
noncomputable def o5(o:AO):M J:=λs=>.ok (.obj s.heap.length) {s with heap:=s.heap++[o]}
noncomputable def u7(i:Nat)(o:AO):M Unit:=λs=>.ok () {s with heap:=s.heap.set i o}
noncomputable def ip:M Unit:=λs=>bif s.hand then .stuck else .ok () s
noncomputable def E2(m:M α):M α:=λs=>match m s with
 |.ok a s'=>.ok a s'
 |_=>.stuck
noncomputable def d5(k:Nat):List (Nat×α)->Option α
 |[]=>.none
 |p::r=>bif Nat.beq p.1 k then Y p.2 else d5 k r
noncomputable def lP(k:Nat)(v:α):List (Nat×α)->List (Nat×α)
 |[]=>[(k,v)]
 |p::r=>bif Nat.beq p.1 k then(k,v)::r else p::lP k v r
noncomputable def eqL:List Nat->List Nat->Bool
 |[],q=>q.isEmpty
 |a::r,q=>match q with
  |[]=>I
  |b::q=>Nat.beq a b&&eqL r q
noncomputable def fG(k:List Nat):List (List Nat×α)->Option α
 |[]=>.none
 |p::r=>bif eqL p.1 k then Y p.2 else fG k r
noncomputable def nR(k:List Nat)(v:α):List (List Nat×α)->List (List Nat×α)
 |[]=>[(k,v)]
 |p::r=>bif eqL p.1 k then(p.1,v)::r else p::nR k v r
end
def nX(a b:J):Option Bool:=vC (.none) (a:=a) (int:=λx=>(vC (.none) (a:=b) (int:=λy=>Y (aI (x=y))))) (str:=λx=>(vC (.none) (a:=b) (str:=λy=>Y (eqL x y))))
noncomputable def cj:Nat:=16777216
noncomputable def small(a:Int):Bool:=aI (a.natAbs<2^63)
def Y5(s:List Nat):M J:=gd (Nat.ble s.length cj) (M.ret (.str s))
noncomputable def Aw(s:List Nat):Nat->List Nat
 |0=>[]
 |n+1=>s++Aw s n
def Of(a b:J):M J:=vC (M.no) (a:=a) (int:=λx=>gM b λy=>M.ret (.int (x+y))) (str:=λx=>jz b λy=>Y5 (x++y)) (obj:=λi=>nc b λj=>gL i λxs=>gL j λys=>gd (Nat.ble (xs.length+ys.length) cj) (o5 (.list (xs++ys))))
def Nw(a b:J):M J:=vC (M.no) (a:=a) (int:=λx=>gM b λy=>gd (small x||small y) (M.ret (.int (x*y)))) (str:=λx=>gM b λy=>gd (Nat.beq x.length 1&&aI (y<=16777216)&&aI (-(2^62)<=y)) (M.ret (.str (Aw x y.toNat))))
def Ih(o:eO)(a b:J):M J:=match o with
 |.Add=>Of a b
 |.Sub=>gM a λx=>gM b λy=>M.ret (.int (x-y))
 |.Mult=>Nw a b
 |.FloorDiv=>gM a λx=>gM b λy=>gd (!(aI (y=0)||aI (1073741824<=y.natAbs))) (M.ret (.int (x.fdiv y)))
 |.Mod=>gM a λx=>gM b λy=>gd (!decide (y=0)) (M.ret (.int (x.fmod y)))
 |.Pow=>gM a λx=>gM b λy=>gd (small x&&aI (0<=y)&&aI (y<=64)) (M.ret (.int (x^y.toNat)))
 |_=>M.no
def TI(o:eO)(a b:J):M J:=match o with
 |.Add=>(vC (M.no) (a:=a) (int:=λx=>gM b λy=>M.ret (.int (x+y))) (str:=λx=>jz b λy=>Y5 (x++y)))
 |_=>M.no
noncomputable def tu:List J->List J->Option Bool
 |[],q=>bif q.isEmpty then Y S else .none
 |a::r,q=>match q with
  |[]=>.none
  |b::q=>(nX a b).bind λt=>(tu r q).map λu=>t&&u
def Y8(a b:J):M Bool:=vC (gO (nX a b) M.ret) (a:=a) (obj:=λi=>nc b λj=>gL i λxs=>gL j λys=>gO (bif Nat.beq xs.length ys.length then tu xs ys else Y I) M.ret)
structure aT where
 glob:List (aV×J)
 names:List aV
 meth:List (Nat×List (Nat×Nat))
 exns:List Nat
 attrs:List (Nat×List Nat)
 xattrs:List Nat
 sdict:List (Nat×List (List Nat×J))
 stup:List (Nat×List J)
 slist:List (Nat×List J):=[]
 fns:List Nat:=[]
noncomputable def lX(x:J):List J->Option Bool
 |[]=>Y I
 |v::r=>(nX v x).bind λt=>bif t then Y S else lX x r
def UL(a:J):Option Bool:=vC (Y I) (a:=a) (cV:=Y S) (unb:=.none)
section
variable(T:aT)
def Xl(a b:J):M Bool:=jz a λx=>vC (M.no) (a:=b) (str:=λy=>qH x λc=>M.ret (y.any (Nat.beq c))) (sref:=λd=>(match d5 d T.sdict with
  |some es=>M.ret (fG x es).isSome
  |.none=>gO (d5 d T.stup) λvs=>gO (lX (.str x) vs) M.ret)) (obj:=λi=>gD i λes=>M.ret (fG x es).isSome)
def UJ(a b:J):M Bool:=jz a λx=>vC (M.no) (a:=b) (str:=λy=>qH x λc=>M.ret (y.any (Nat.beq c))) (sref:=λd=>gO (d5 d T.stup) λvs=>gO (lX (.str x) vs) M.ret)
def yes(b:Bool):M J:=M.ret (.bool b)
def p8(o:fQ)(a b:J):M J:=match o with
 |.Lt=>gM a λx=>gM b λy=>yes (aI (x<y))
 |.LtE=>gM a λx=>gM b λy=>yes (aI (x<=y))
 |.Gt=>gM a λx=>gM b λy=>yes (aI (x>y))
 |.GtE=>gM a λx=>gM b λy=>yes (aI (x>=y))
 |.Eq=>(Y8 a b).bind yes
 |.NotEq=>gO (nX a b) λt=>yes (!t)
 |.In=>(Xl T a b).bind yes
 |.NotIn=>(UJ T a b).bind λt=>yes (!t)
 |.Is=>pj b (gO (UL a) yes)
 |.IsNot=>pj b (gO (UL a) λt=>yes (!t))
def D(v:J):M J:=M.ret v
def vE(a:J):Option J:=vC (Y a) (a:=a) (unb:=.none)
def B(i:Nat):M J:=λs=>gO ((s.loc[i]?).bind vE) M.ret s
def bp(o:eO)(l r:M J):M J:=l.bind λa=>r.bind λb=>Ih o a b
def rp(e:M J):M J:=e.bind λa=>gM a λx=>M.ret (.int (-x))
def KU(e:M J):M J:=e.bind λa=>kP a λt=>yes (!t)
def aW(o:fQ)(l r:M J):M J:=l.bind λa=>r.bind λb=>p8 T o a b
def pf(o p:fQ)(x y z:M J):M J:=x.bind λa=>y.bind λb=>(p8 T o a b).bind λc=>kP c λt=>bif t then z.bind λd=>p8 T p b d else yes I
def bJ(e:M J):M Bool:=e.bind λa=>kP a M.ret
def vG(t:M Bool):M Bool:=t.bind λb=>M.ret (!b)
def cQ(x y:M Bool):M Bool:=x.bind λb=>bif b then y else M.ret I
def pk(x y:M Bool):M Bool:=x.bind λb=>bif b then M.ret S else y
def Az(x y:M J):M J:=x.bind λa=>kP a λt=>bif t then y else yes I
def TZ(x y:M J):M J:=x.bind λa=>kP a λt=>bif t then yes S else y
noncomputable def fD(t:M Bool)(x y:M J):M J:=t.bind λb=>bif b then x else y
noncomputable def df:List (M J)->M (List J)
 |[]=>M.ret []
 |m::r=>m.bind λa=>(df r).bind λas=>M.ret (a::as)
def mTup(ms:List (M J)):M J:=(df ms).bind λvs=>gd (Nat.ble vs.length 1000) (o5 (.tup vs))
def dk(ms:List (M J)):M J:=(df ms).bind λvs=>gd (Nat.ble vs.length 1000) (o5 (.list vs))
def jw:M J:=o5 (.dict [])
def lm(neg:Bool)(e:M J)(ms:List (M J)):M J:=e.bind λa=>(df ms).bind λvs=>gd (Nat.ble vs.length 1000) (gO (lX a vs) λt=>yes (bif neg then !t else t))
noncomputable def mO:List Nat->List (M J)->M J
 |acc,[]=>M.ret (.str acc)
 |acc,m::r=>m.bind λv=>jz v λx=>gd (Nat.ble (acc++x).length cj) (mO (acc++x) r)
def yO(ms:List (M J)):M J:=mO [] ms
def sM(C n:Nat):Bool:=((d5 C T.attrs).getD []).any (Nat.beq n)
noncomputable def Mq(C n:Nat):Bool:=T.xattrs.any (Nat.beq n)&&T.exns.any (Nat.beq C)
def xq(a:J):Option J:=vC (Y a) (a:=a) (bi:=λ_=>.none) (unb:=.none)
def Jw(n:Nat)(a:J):M J:=nc a λi=>gH i λo=>oC (M.no) (a:=o) (inst:=λC fs=>gd (sM T C n) (gO ((d5 n fs).bind xq) M.ret)) (exn:=λC _ fd=>gd (Mq T C n) (gO fd λj=>gF j λfs=>gO ((d5 n fs).bind xq) M.ret))
def bT(e:M J)(n:Nat):M J:=e.bind (Jw T n)
noncomputable def At(i:Int)(n:Nat):Option Nat:=bif aI (0<=i)&&aI (i<n)&&aI (i<4611686018427387904)then Y i.toNat else .none
def FU{α:Type}(xs:List α)(w:Int):Option α:=(At w xs.length).bind λj=>xs[j]?
def Ws(a b:J):M J:=vC (M.no) (a:=a) (obj:=λi=>gM b λk=>gL i λxs=>gO (FU xs k) M.ret) (str:=λx=>gM b λk=>gO (FU x k) λc=>M.ret (.str [c])) (sref:=λd=>jz b λx=>gO ((d5 d T.sdict).bind (fG x)) M.ret)
def eB(e i:M J):M J:=e.bind λa=>i.bind λb=>Ws T a b
noncomputable def clip(n:Nat)(i:Int):Nat:=bif aI (i<0)then(i+n).toNat else min i.toNat n
def zA(d:Nat)(n:Nat)(a:J):Option Nat:=vC (.none) (a:=a) (cV:=Y d) (int:=λi=>Y (clip n i))
noncomputable def cut{α:Type}(xs:List α)(lo hi:Nat):List α:=(xs.take hi).drop lo
def qk{α:Type}(xs:List α)(lo hi:J):Option (List α):=(zA 0 xs.length lo).bind λl=>(zA xs.length xs.length hi).bind λh=>bif Nat.ble xs.length cj then Y (cut xs l h)else .none
def Ao(xs:List J)(lo hi:J):M J:=gO (qk xs lo hi) λys=>o5 (.list ys)
def U6(a lo hi:J):M J:=vC (M.no) (a:=a) (str:=λx=>gO (qk x lo hi) λy=>M.ret (.str y)) (obj:=λi=>gL i λxs=>Ao xs lo hi) (sref:=λd=>gO (d5 d T.slist) λxs=>Ao xs lo hi)
def fU(e lo hi:M J):M J:=e.bind λa=>lo.bind λl=>hi.bind λh=>U6 T a l h
def Kz(e:M J):M J:=e.bind λa=>nc a λi=>gL i λxs=>gd (Nat.ble xs.length cj) (o5 (.list xs.reverse))
noncomputable def Nc(k:J):List (J×J)->Option (Option J)
 |[]=>Y .none
 |p::r=>(nX p.1 k).bind λt=>bif t then Y (Y p.2)else Nc k r
def qn(kvs:List (J×J))(k d:M J):M J:=(E2 k).bind λa=>(E2 d).bind λb=>gO (Nc a kvs) λo=>M.ret (o.getD b)
noncomputable def WF(n:Nat):List Nat:=(toString n).toList.map vk
def sO(i:Int):List Nat:=bif aI (i<0)then 45::WF i.natAbs else WF i.natAbs
noncomputable def isBlank(T:List Nat)(c:Nat):Bool:=T.any (Nat.beq c)
noncomputable def ew(e:List Nat):List Nat->List Nat
 |[]=>[]
 |c::r=>bif isBlank e c then ew e r else c::r
def mH(e x:List Nat):List Nat:=(ew e (ew e x).reverse).reverse
noncomputable def bV(x:List Nat):Bool:=x.all λc=>Nat.blt c 128
noncomputable def mK(c:Nat):Nat:=bif Nat.ble 65 c&&Nat.ble c 90 then c+32 else c
noncomputable def DW(c:Nat):Nat:=bif Nat.ble 97 c&&Nat.ble c 122 then c-32 else c
noncomputable def gQ(c:Nat):Bool:=Nat.ble 48 c&&Nat.ble c 57
def uV(c:Nat):Bool:=gQ c||(Nat.ble 65 c&&Nat.ble c 90)||(Nat.ble 97 c&&Nat.ble c 122)
noncomputable def iw(c:Nat):List Nat->Nat->Int
 |[],_=>-1
 |d::r,n=>bif Nat.beq d c then(n:Int)else iw c r (n+1)
def Jc(a:J):Option (List Nat):=vC (.none) (a:=a) (str:=λx=>Y x)
noncomputable def lj:List J->Option (List (List Nat))
 |[]=>Y []
 |a::r=>(Jc a).bind λx=>(lj r).map λq=>x::q
noncomputable def fX(sep:List Nat):List (List Nat)->List Nat
 |[]=>[]
 |x::r=>match r with
  |[]=>x
  |_::_=>x++(sep++fX sep r)
noncomputable def sU(n:String):Bool:=n=="int"||n=="bool"||n=="str"
noncomputable def uB(ak C:Nat):Bool:=Nat.beq C ak||(Nat.beq C 40&&[62,82,181,228].any (Nat.beq ak))
noncomputable def wq(C:Nat):Bool:=[40,62,82,120,140,161,181,228].any (Nat.beq C)
noncomputable def pg(ak:Nat):Bool:=[40,62,82,181,228].any (Nat.beq ak)
def vF(h:H)(i:Nat):Option Nat:=match h[i]? with
 |some o=>(oC (.none) (a:=o) (inst:=λak _=>bif pg ak then Y ak else .none))
 |.none=>.none
def Po(v:J)(h:H)(n:String):Option Bool:=vC (.none) (a:=v) (int:=λ_=>Y (n=="int")) (bool:=λ_=>Y (n=="bool"||n=="int")) (str:=λ_=>Y (n=="str")) (cV:=Y I) (obj:=λi=>(vF h i).map λ_=>I)
def GG(v:J)(h:H)(C:Nat):Option Bool:=vC (.none) (a:=v) (int:=λ_=>Y I) (bool:=λ_=>Y I) (str:=λ_=>Y I) (cV:=Y I) (obj:=λi=>(vF h i).map λak=>uB ak C)
def lv(v:J)(h:H)(c:J):Option Bool:=vC (.none) (a:=c) (ty:=λn=>bif sU n then Po v h n else .none) (sref:=λC=>bif wq C then GG v h C else .none)
noncomputable def ji(v:J)(h:H):List J->Option Bool
 |[]=>Y I
 |c::r=>(lv v h c).bind λt=>bif t then Y S else ji v h r
def jy(e:M J)(cs:List J):M J:=gd (!(cs.isEmpty||Nat.blt 1000 cs.length)) (e.bind λv=>λs=>gO (ji v s.heap cs) yes s)
def TT(a:J):M J:=vC (M.no) (a:=a) (str:=λx=>gd (Nat.ble x.length cj) (M.ret (.int x.length))) (obj:=λi=>gL i λxs=>gd (Nat.ble xs.length cj) (M.ret (.int xs.length)))
def nA(n:String)(as:List J):M J:=qH as λa=>
 bif n=="len"then TT a else
 bif n=="abs"then gM a λx=>M.ret (.int x.natAbs)else
 bif n=="chr"then gM a λx=>gd (aI (0<=x)&&aI (x<128)) (M.ret (.str [x.toNat]))else
 bif n=="ord"then jz a λx=>qH x λc=>M.ret (.int c)else M.no
def T0(a:J):M J:=vC (M.no) (a:=a) (int:=λx=>gd (small x) (M.ret (.str (sO x)))) (str:=λx=>M.ret (.str x))
def DE(a:J):M J:=nc a λi=>gH i λo=>oC (M.no) (a:=o) (list:=λxs=>gd (Nat.ble xs.length cj) (o5 (.list xs))) (dict:=λes=>ip.bind λ_=>gd (Nat.ble es.length cj) (o5 (.list (es.map λp=>.str p.1))))
def pG(n:String)(as:List J):M J:=qH as λa=>
 bif n=="str"then T0 a else
 bif n=="int"then jz a λx=>qH x λc=>gd (gQ c) (M.ret (.int (c-48:Nat)))else
 bif n=="list"then DE a else M.no
def g8(n:aV)(x:List Nat)(as:List J):M J:=gd (Nat.ble x.length cj) (
 bif n=="strip"then qH as λa=>jz a λe=>M.ret (.str (mH e x))else
 bif n=="lstrip"then qH as λa=>jz a λe=>M.ret (.str (ew e x))else
 bif n=="lower"then rq as (gd (bV x) (M.ret (.str (x.map mK))))else
 bif n=="upper"then rq as (gd (bV x) (M.ret (.str (x.map DW))))else
 bif n=="find"then qH as λa=>jz a λe=>qH e λc=>M.ret (.int (iw c x 0))else
 bif n=="isdigit"then rq as (gd (bV x) (yes (!x.isEmpty&&x.all gQ)))else
 bif n=="isalnum"then rq as (gd (bV x) (yes (!x.isEmpty&&x.all uV)))else
 bif n=="join"then qH as λa=>nc a λi=>gL i λxs=>gO (lj xs) λys=>gd (Nat.ble ((fX x ys).length+x.length) cj) (M.ret (.str (fX x ys)))else M.no)
def wb(o:M J)(y z:List Nat):M J:=o.bind λa=>jz a λx=>qH y λc=>rq z (gd (Nat.ble x.length cj) (M.ret (.str (x.filter λd=>!Nat.beq d c))))
noncomputable def KS(nm:aV):Option String:=
 bif nm=="strip"then Y "str.strip"else bif nm=="lstrip"then Y "str.lstrip"else bif nm=="lower"then Y "str.lower"else bif nm=="upper"then Y "str.upper"else
 bif nm=="find"then Y "str.find"else bif nm=="isdigit"then Y "str.isdigit"else bif nm=="isalnum"then Y "str.isalnum"else bif nm=="join"then Y "str.join"else .none
noncomputable def fK(G:cI)(f:Nat)(as:List J)(ks:List (Nat×J)):M J:=λs=>match G s.hand f as ks s.heap with
 |.ok v h=>.ok v {s with heap:=h}
 |.exc x h=>.exc x {s with heap:=h}
 |.stuck=>.stuck
def fm(C n:Nat):Option Nat:=(d5 C T.meth).bind (d5 n)
noncomputable def nk(C:Nat):Bool:=T.exns.any (Nat.beq C)
def made(C:Nat):AO:=bif nk T C then .exn C S .none else .inst C []
def wE(G:cI)(C:Nat)(as:List J):M J:=gO (fm T C 0) λf=>gd (!(nk T C&&Nat.blt 100 as.length)) ((o5 (made T C)).bind λo=>(fK G f (o::as) []).bind λr=>pj r (M.ret o))
def pq(G:cI)(f:J)(as:List J)(ks:List (Nat×J)):M J:=vC (M.no) (a:=f) (bi:=λn=>rq ks (nA n as)) (ty:=λn=>rq ks (pG n as)) (sref:=λa=>bif(d5 a T.meth).isSome then rq ks (wE T G a as)else fK G a as ks)
def kr(f:J):Bool:=vC (I) (a:=f) (bi:=λ_=>S) (ty:=λ_=>S) (sref:=λa=>(d5 a T.meth).isSome||T.fns.any (Nat.beq a))
def aN(G:cI)(f:J)(ms:List (M J))(ks:List (Nat×M J)):M J:=gd (kr T f) ((df ms).bind λas=>(df (ks.map (·.2))).bind λkv=>pq T G f as ((ks.map (·.1)).zip kv))
def Il(G:cI)(i n:Nat)(nm:aV)(ms:List (M J)):M J:=gH i λo=>oC (M.no) (a:=o) (list:=λ_=>gd (nm=="append") ((df ms).bind λas=>qH as λv=>gL i λxs=>gd (Nat.blt xs.length cj) ((u7 i (.list (xs++[v]))).bind λ_=>M.ret .none))) (dict:=λ_=>gd (nm=="get") ((df ms).bind λas=>qH as λa=>jz a λk=>gD i λes=>M.ret ((fG k es).getD .none))) (inst:=λC fs=>gO (fm T C n) λf=>gd ((d5 n fs).isNone&&!nk T C) ((df ms).bind λas=>fK G f (.obj i::as) []))
def lB(G:cI)(C n:Nat)(nm:aV)(ms:List (M J)):M J:=match d5 C T.sdict with
 |some es=>gd (nm=="get") ((df ms).bind λas=>Ls as λa d=>jz a λk=>M.ret ((fG k es).getD d))
 |.none=>gO (fm T C n) λf=>(df ms).bind λas=>fK G f as []
def Ch(n:String)(nm:aV)(ms:List (M J)):M J:=gd (n=="ValueError"&&nm=="__init__") ((df ms).bind λas=>Ls as λa b=>nc a λi=>jz b λ_=>gX i λC _ _=>gd (nk T C) (M.ret .none))
def bk(G:cI)(o:M J)(n:Nat)(nm:aV)(ms:List (M J)):M J:=o.bind λa=>vC (M.no) (a:=a) (str:=λx=>gd (KS nm).isSome ((df ms).bind λas=>g8 nm x as)) (obj:=λi=>Il T G i n nm ms) (sref:=λC=>lB T G C n nm ms) (ty:=λm=>Ch T m nm ms)
inductive It where
 |vals (xs:List J)
 |live (i k:Nat)
 |liveT (i k:Nat)
def VR(a:J):M It:=vC (M.no) (a:=a) (str:=λx=>M.ret (.vals (x.map λc=>.str [c]))) (sref:=λd=>gO (d5 d T.stup) λvs=>M.ret (.vals vs)) (obj:=λi=>gH i λo=>(oC (M.no) (a:=o) (list:=λ_=>M.ret (.live i 0)) (tup:=λ_=>M.ret (.liveT i 0))))
def iU(e:M J):M It:=e.bind (VR T)
def nK(e:M J):M It:=e.bind λa=>gM a λn=>gd (aI (0<=n)&&aI (n<2^24)) (M.ret (.vals ((List.range n.toNat).map λ(i:Nat)=>.int i)))
def i7(t:It):M (Option (J×It)):=match t with
 |.vals xs=>M.ret (match xs with
  |[]=>.none
  |x::r=>Y (x,.vals r))
 |.live i k=>gL i λxs=>M.ret ((xs[k]?).map λx=>(x,.live i (k+1)))
 |.liveT i k=>gT i λxs=>M.ret ((xs[k]?).map λx=>(x,.liveT i (k+1)))
def cb(i:Nat)(v:J):M Unit:=λs=>gd (Nat.blt i s.loc.length) (λs=>.ok () {s with loc:=s.loc.set i v}) s
noncomputable def kS{α:Type}(turn:α->M (Sum α J)):Nat->α->M J
 |0,_=>M.no
 |n+1,a=>(turn a).bind λr=>match r with
  |.inl b=>kS turn n b
  |.inr v=>M.ret v
noncomputable def ff:Nat:=1000000000
def kR(elt:M J)(slot:Nat)(cond:M Bool)(i:Nat)(t:It):M (Sum It J):=(i7 t).bind λr=>match r with
 |.none=>M.ret (.inr J.none)
 |some p=>(cb slot p.1).bind λ_=>cond.bind λb=>bif b then elt.bind λv=>gL i λxs=>gd (Nat.blt xs.length cj) ((u7 i (.list (xs++[v]))).bind λ_=>M.ret (.inl p.2))else M.ret (.inl p.2)
def kT(elt:M J)(slot:Nat)(it:M It)(cond:Option (M Bool)):M J:=ip.bind λ_=>it.bind λt=>(o5 (.list [])).bind λo=>nc o λi=>(cb slot .unb).bind λ_=>E2 ((kS (kR elt slot (cond.getD (M.ret S)) i) ff t).bind λ_=>M.ret o)
inductive Fl where
 |nxt|brk|ret (v:J)
abbrev qf:=J->M Unit
def bd(i:Nat):qf:=λv=>cb i v
def AC(n:Nat)(a v:J):M Unit:=nc a λi=>gH i λo=>match o with
 |.inst C fs=>gd (sM T C n&&Nat.ble fs.length 100) (u7 i (.inst C (lP n v fs)))
 |.exn C b fd=>gd (Mq T C n) (match fd with
  |.none=>(o5 (.fd [(n,v)])).bind λd=>nc d λj=>u7 i (.exn C b (Y j))
  |some j=>gF j λfs=>gd (Nat.ble fs.length 100) (u7 j (.fd (lP n v fs))))
 |_=>M.no
def cf(o:M J)(n:Nat):qf:=λv=>o.bind λa=>AC T n a v
def VP(a b v:J):M Unit:=nc a λi=>vC (M.no) (a:=b) (int:=λk=>gL i λxs=>gO (At k xs.length) λj=>u7 i (.list (xs.set j v))) (str:=λk=>gD i λes=>gd (Nat.blt es.length cj) (u7 i (.dict (nR k v es))))
def B6(o i:M J):qf:=λv=>o.bind λa=>i.bind λb=>VP a b v
noncomputable def o0:List qf->List J->M Unit
 |[],l=>rq l (M.ret ())
 |t::ts,l=>match l with
  |[]=>M.no
  |v::vs=>(t v).bind λ_=>o0 ts vs
def jf(n:Nat)(a:J):M (List J):=ip.bind λ_=>vC (M.no) (a:=a) (obj:=λi=>gT i λxs=>gd (Nat.beq xs.length n) (M.ret xs)) (sref:=λd=>gO (d5 d T.stup) λxs=>gd (Nat.beq xs.length n) (M.ret xs))
def fg(ts:List qf):qf:=λv=>(jf T ts.length v).bind λvs=>o0 ts vs
def sAsg(t:qf)(e:M J):M Fl:=e.bind λv=>(t v).bind λ_=>M.ret .nxt
def z7(i:Nat)(o:eO)(e:M J):M Fl:=(B i).bind λa=>e.bind λb=>(TI o a b).bind λv=>(cb i v).bind λ_=>M.ret .nxt
def tT(x:M J)(n:Nat)(o:eO)(e:M J):M Fl:=x.bind λq=>(Jw T n q).bind λa=>e.bind λb=>(TI o a b).bind λv=>(AC T n q v).bind λ_=>M.ret .nxt
def bR(e:M J):M Fl:=e.bind λv=>M.ret (.ret v)
def iT(e:M J):M Fl:=e.bind λv=>pj v (M.ret .nxt)
noncomputable def eS(t:M Bool)(b o:M Fl):M Fl:=t.bind λc=>bif c then b else o
def Ae(f:Fl)(m:M Fl):M Fl:=match f with
 |.nxt=>m
 |.brk=>M.ret .brk
 |.ret v=>M.ret (.ret v)
noncomputable def aH:List (M Fl)->M Fl
 |[]=>M.ret .nxt
 |s::r=>s.bind λf=>Ae f (aH r)
def KF:M Fl:=M.ret .brk
noncomputable def dU{α:Type}(turn:α->M (Option (α×Fl))):Nat->α->M Fl
 |0,_=>M.no
 |n+1,a=>(turn a).bind λr=>match r with
  |.none=>M.ret .nxt
  |some p=>(match p.2 with
   |.nxt=>dU turn n p.1
   |.brk=>M.ret .nxt
   |.ret v=>M.ret (.ret v))
def lY(t:M Bool)(b:M Fl):Unit->M (Option (Unit×Fl)):=λ_=>t.bind λc=>bif c then b.bind λf=>M.ret (Y ((),f))else M.ret .none
def jv(t:M Bool)(b:M Fl):M Fl:=dU (lY t b) ff ()
def iV(t:qf)(b:M Fl):It->M (Option (It×Fl)):=λq=>(i7 q).bind λr=>match r with
 |.none=>M.ret .none
 |some p=>(t p.1).bind λ_=>b.bind λf=>M.ret (Y (p.2,f))
def uD(t:qf)(it:M It)(b:M Fl):M Fl:=ip.bind λ_=>it.bind λq=>E2 (dU (iV t b) ff q)
def wV(e:M J):M Fl:=e.bind λa=>ip.bind λ_=>nc a λi=>gX i λC b fd=>gd (b&&nk T C) λs=>.exc i {s with heap:=s.heap.set i (.exn C I fd)}
noncomputable def zF{α:Type}(b:Bool)(m:M α):M α:=λs=>match m {s with hand:=b}with
 |.ok a s'=>.ok a {s' with hand:=s.hand}
 |.exc x s'=>.exc x {s' with hand:=s.hand}
 |.stuck=>.stuck
def AP(C slot:Nat)(hd:M Fl)(x:Nat):M Fl:=gX x λak _ _=>gd (Nat.beq C ak) ((cb slot (.obj x)).bind λ_=>(E2 (zF S hd)).bind λf=>(cb slot .unb).bind λ_=>M.ret f)
def xD(b:M Fl)(C:Nat)(slot:Nat)(hd:M Fl):M Fl:=λs=>match b s with
 |.ok f s'=>.ok f s'
 |.stuck=>.stuck
 |.exc x s'=>AP C slot hd x s'
noncomputable def pU(n:Nat)(body:M Fl)(hand:Bool)(as:List J):H->Hv:=λh=>match body ⟨as++List.replicate (n-as.length) .unb,h,hand⟩with
 |.ok f s=>(match f with
  |.nxt=>.ok .none s.heap
  |.ret v=>.ok v s.heap
  |.brk=>.stuck)
 |.exc x s=>.exc x s.heap
 |.stuck=>.stuck
end
end
section
noncomputable abbrev eC{α:Type}(d:α)(bo:BoolOp->List Expr->da->α:=λ_ _ _=>d)(bin:Expr->eO->Expr->da->α:=λ_ _ _ _=>d)(un:UnaryOp->Expr->da->α:=λ_ _ _=>d)(ife:Expr->Expr->Expr->da->α:=λ_ _ _ _=>d)(dct:List (Option Expr)->List Expr->da->α:=λ_ _ _=>d)(set:List Expr->Nat->da->α:=λ_ _ _=>d)(lc:Expr->List cW->cL->da->α:=λ_ _ _ _=>d)(sc:Expr->List cW->cL->da->α:=λ_ _ _ _=>d)(dc:Expr->Expr->List cW->cL->da->α:=λ_ _ _ _ _=>d)(cmp:Expr->List fQ->List Expr->da->α:=λ_ _ _ _=>d)(call:Expr->List Expr->List eU->da->α:=λ_ _ _ _=>d)(fv:Expr->Int->Option Expr->da->α:=λ_ _ _ _=>d)(js:List Expr->da->α:=λ_ _=>d)(con:Const->Nat->da->α:=λ_ _ _=>d)(att:Expr->aV->da->α:=λ_ _ _=>d)(sub:Expr->Expr->da->α:=λ_ _ _=>d)(st:Expr->da->α:=λ_ _=>d)(nm:aV->da->α:=λ_ _=>d)(lst:List Expr->da->α:=λ_ _=>d)(tup:List Expr->Nat->da->α:=λ_ _ _=>d)(sl:Option Expr->Option Expr->Option Expr->da->α:=λ_ _ _ _=>d)(e:Expr):α:=e.casesOn bo (λ_ _ _=>d) bin un (λ_ _ _ _=>d) ife dct set lc sc dc (λ_ _ _ _=>d) (λ_ _=>d) (λ_ _=>d) (λ_ _=>d) cmp call fv js con att sub st nm lst tup sl
noncomputable abbrev sC{α:Type}(d:α)(fd:aV->oS->List eD->List Expr->Option Expr->List oT->cL->Option cL->aV->da->α:=λ_ _ _ _ _ _ _ _ _ _=>d)(cd:aV->List Expr->List eU->List eD->List Expr->List oT->cL->Option cL->aV->List aV->da->α:=λ_ _ _ _ _ _ _ _ _ _ _=>d)(ret:Option Expr->da->α:=λ_ _=>d)(asg:List Expr->Expr->da->α:=λ_ _ _=>d)(aug:Expr->eO->Expr->da->α:=λ_ _ _ _=>d)(fr:Expr->Expr->List eD->List eD->da->α:=λ_ _ _ _ _=>d)(wh:Expr->List eD->List eD->da->α:=λ_ _ _ _=>d)(ifs:Expr->List eD->List eD->da->α:=λ_ _ _ _=>d)(rs:Option Expr->Option Expr->da->α:=λ_ _ _=>d)(tr:List eD->List ExceptHandler->List eD->List eD->da->α:=λ_ _ _ _ _=>d)(ex:Expr->da->α:=λ_ _=>d)(brk:da->α:=λ_=>d)(s:eD):α:=s.casesOn fd (λ_ _ _ _ _ _ _ _ _ _=>d) cd ret (λ_ _=>d) asg (λ_ _ _ _ _ _ _=>d) aug (λ_ _ _ _ _=>d) fr (λ_ _ _ _ _=>d) wh ifs (λ_ _ _=>d) (λ_ _ _=>d) (λ_ _ _=>d) rs tr (λ_ _ _ _ _=>d) (λ_ _ _=>d) (λ_ _=>d) (λ_ _ _ _=>d) (λ_ _=>d) (λ_ _=>d) ex (λ_=>d) brk (λ_=>d)
section
variable{α:Type}{d y:α}{e:Expr}
theorem ns{x:α}:cV≠Y x:=λq=>nS q
theorem nt:I≠S:=λq=>nT q
def Xd(d:α)(f:UnaryOp->Expr->da->α)(y:α)(e:Expr):Prop:=eC d (un:=f) (e:=e)=y->∃a b p,e=.UnaryOp a b p/\f a b p=y
theorem Yd{f:UnaryOp->Expr->da->α}(hd:d≠y)(h:eC d (un:=f) (e:=e)=d):Xd d f y e:=λq=>absurd (h.symm.trans q) hd
theorem Zx{f:UnaryOp->Expr->da->α}(hd:d≠y):Xd d f y e:=by induction e using bg with
 |UnaryOp a b p=>exact λh=>⟨a,b,p,U,h⟩
 |_=>exact Yd hd (Eq.refl d)
def NM(d:α)(f:Const->Nat->da->α)(y:α)(e:Expr):Prop:=eC d (con:=f) (e:=e)=y->∃a b p,e=.Constant a b p/\f a b p=y
theorem VX{f:Const->Nat->da->α}(hd:d≠y)(h:eC d (con:=f) (e:=e)=d):NM d f y e:=λq=>absurd (h.symm.trans q) hd
theorem OW{f:Const->Nat->da->α}(hd:d≠y):NM d f y e:=by induction e using bg with
 |Constant a b p=>exact λh=>⟨a,b,p,U,h⟩
 |_=>exact VX hd (Eq.refl d)
def Wb(d:α)(f:aV->da->α)(y:α)(e:Expr):Prop:=eC d (nm:=f) (e:=e)=y->∃a p,e=.Name a p/\f a p=y
theorem Xp{f:aV->da->α}(hd:d≠y)(h:eC d (nm:=f) (e:=e)=d):Wb d f y e:=λq=>absurd (h.symm.trans q) hd
theorem XW{f:aV->da->α}(hd:d≠y):Wb d f y e:=by induction e using bg with
 |Name a p=>exact λh=>⟨a,p,U,h⟩
 |_=>exact Xp hd (Eq.refl d)
def N7(d:α)(f:List Expr->Nat->da->α)(y:α)(e:Expr):Prop:=eC d (tup:=f) (e:=e)=y->∃a b p,e=.Tuple a b p/\f a b p=y
theorem Xb{f:List Expr->Nat->da->α}(hd:d≠y)(h:eC d (tup:=f) (e:=e)=d):N7 d f y e:=λq=>absurd (h.symm.trans q) hd
theorem YP{f:List Expr->Nat->da->α}(hd:d≠y):N7 d f y e:=by induction e using bg with
 |Tuple a b p=>exact λh=>⟨a,b,p,U,h⟩
 |_=>exact Xb hd (Eq.refl d)
def NH(d:α)(f:List (Option Expr)->List Expr->da->α)(y:α)(e:Expr):Prop:=eC d (dct:=f) (e:=e)=y->∃a b p,e=.Dict a b p/\f a b p=y
theorem TQ{f:List (Option Expr)->List Expr->da->α}(hd:d≠y)(h:eC d (dct:=f) (e:=e)=d):NH d f y e:=λq=>absurd (h.symm.trans q) hd
theorem XA{f:List (Option Expr)->List Expr->da->α}(hd:d≠y):NH d f y e:=by induction e using bg with
 |Dict a b p=>exact λh=>⟨a,b,p,U,h⟩
 |_=>exact TQ hd (Eq.refl d)
def IN(d:α)(f:Expr->List Expr->List eU->da->α)(y:α)(e:Expr):Prop:=eC d (call:=f) (e:=e)=y->∃a b c p,e=.Call a b c p/\f a b c p=y
theorem Pc{f:Expr->List Expr->List eU->da->α}(hd:d≠y)(h:eC d (call:=f) (e:=e)=d):IN d f y e:=λq=>absurd (h.symm.trans q) hd
theorem Vu{f:Expr->List Expr->List eU->da->α}(hd:d≠y):IN d f y e:=by induction e using bg with
 |Call a b c p=>exact λh=>⟨a,b,c,p,U,h⟩
 |_=>exact Pc hd (Eq.refl d)
def VA(d:α)(f:Expr->List cW->cL->da->α)(y:α)(e:Expr):Prop:=eC d (lc:=f) (e:=e)=y->∃a b c p,e=.ListComp a b c p/\f a b c p=y
theorem Xt{f:Expr->List cW->cL->da->α}(hd:d≠y)(h:eC d (lc:=f) (e:=e)=d):VA d f y e:=λq=>absurd (h.symm.trans q) hd
theorem Zp{f:Expr->List cW->cL->da->α}(hd:d≠y):VA d f y e:=by induction e using bg with
 |ListComp a b c p=>exact λh=>⟨a,b,c,p,U,h⟩
 |_=>exact Xt hd (Eq.refl d)
def T7(d:α)(f:aV->oS->List eD->List Expr->Option Expr->List oT->cL->Option cL->aV->da->α)(y:α)(s:eD):Prop:=sC d (fd:=f) (s:=s)=y->∃a b c d e g i j k p,f a b c d e g i j k p=y
theorem Yh{f:aV->oS->List eD->List Expr->Option Expr->List oT->cL->Option cL->aV->da->α}{s:eD}(hd:d≠y)(h:sC d (fd:=f) (s:=s)=d):T7 d f y s:=λq=>absurd (h.symm.trans q) hd
theorem ZK{f:aV->oS->List eD->List Expr->Option Expr->List oT->cL->Option cL->aV->da->α}{s:eD}(hd:d≠y):T7 d f y s:=by induction s using pX with
 |FunctionDef=>exact λh=>⟨_,_,_,_,_,_,_,_,_,_,h⟩
 |_=>exact Yh hd (Eq.refl d)
end
structure VI where
 scope:cL
 vm:List (aV×Nat)
 top:Nat
noncomputable def Qa(k:dr):Bool:=k==.local||k==.cell||k==.free
def eE(V:VI)(x:aV):Option Nat:=bif((V.scope.names.lookup x).any Qa)then V.vm.lookup x else .none
noncomputable def cx(V:VI)(x:aV):Option Nat:=bif(V.scope.names.lookup x==Y .local)then V.vm.lookup x else .none
noncomputable def iM(V:VI)(x:aV):Bool:=V.scope.names.lookup x==Y .globalImplicit
noncomputable def Ba(c:Const):Option J:=match c with
 |.none=>Y .none
 |.bool b=>Y (.bool b)
 |.int i=>Y (.int i)
 |.str s=>Y (.str s.cps.toList)
 |_=>.none
noncomputable def Ir(sc outer:cL):cL:={sc with names:=sc.names.map λ(n,k)=>if(k==.free&&outer.kind==.function&&outer.names.lookup n==Y .cell)then(n,.cell)else(n,k)}
def gk(V:VI)(x:aV)(sc:cL):VI:={scope:=Ir sc V.scope,vm:=(x,V.top)::V.vm,top:=V.top+1}
noncomputable def IJ(V:VI)(x:aV)(sc:cL)(p:aV×dr):Bool:=
 !(p.2==.cell)&&(!(p.2==.local)||((p.1==x||(V.vm.lookup p.1).isNone)&&sc.names.lookup p.1==Y .local))&&(!(p.2==.free)||(V.scope.names.lookup p.1==Y .cell&&p.1 !=x))&&(p.1 !=("__debug__":aV)&&p.1 !=("__classdict__":aV))
def rg(V:VI)(x:aV)(sc:cL):Bool:=sc.kind==.function&&(sc.names.lookup x==Y .local)&&sc.names.all (IJ V x sc)
noncomputable def lA(T:aT)(x:aV):Option Nat:=T.names.findIdx? (·==x)
def zL(e:Expr):Option J:=eC .none (e:=e) (con:=λc _ _=>Ba c)
noncomputable def uy:List (Option Expr)->List Expr->Option (List (J×J))
 |[],vs=>bif vs.isEmpty then Y []else .none
 |k::ks,vs=>match vs with
  |[]=>.none
  |v::vs=>k.bind λk=>(zL k).bind λa=>(zL v).bind λb=>(uy ks vs).map λr=>(a,b)::r
noncomputable def Ul(a:J):Option aV:=match a with
 |.str l=>Y ⟨l.toArray⟩
 |_=>.none
noncomputable def Vz(a:J):Option Int:=match a with
 |.int i=>Y i
 |_=>.none
noncomputable def zQ{K:Type}[DecidableEq K](kv:J->Option K):List (J×J)->Option (List K)
 |[]=>Y []
 |p::r=>(kv p.1).bind λk=>(zQ kv r).bind λks=>bif ks.any (λx=>aI (x=k))then .none else Y (k::ks)
def YA(kvs:List (J×J)):Bool:=!kvs.isEmpty&&Nat.ble kvs.length 15&&((zQ Ul kvs).isSome||(zQ Vz kvs).isSome)
def xG(e:Expr):Option aV:=eC .none (e:=e) (nm:=λx _=>Y x)
def rt(T:aT)(V:VI)(x:aV):Option J:=bif iM V x then T.glob.lookup x else .none
noncomputable def oj(T:aT)(V:VI):List Expr->Option (List J)
 |[]=>Y []
 |e::r=>(xG e).bind λx=>(rt T V x).bind λv=>(oj T V r).map λvs=>v::vs
def Sz(e:Expr):Option (List Nat):=eC .none (e:=e) (con:=λc _ _=>match c with
  |.str s=>Y s.cps.toList
  |_=>.none)
def BI(a:aV):List Expr->Option (List Nat×List Nat)
 |[]=>.none
 |x::r=>match r with
  |[]=>.none
  |y::q=>bif a=="replace"&&q.isEmpty then(Sz x).bind λu=>(Sz y).map λw=>(u,w)else .none
def nQ(e:Expr):Bool:=eC S (e:=e) (call:=λf as ks _=>!((xG f).isSome&&as.isEmpty&&ks.isEmpty))
def fR(e:Expr):Bool:=eC I (e:=e) (st:=λ_ _=>S)
def j5(e:Expr):Bool:=eC I (e:=e) (set:=λ_ _ _=>S)
def KT(e:Expr):Bool:=eC I (e:=e) (sl:=λ_ _ _ _=>S)
def jo(es:List Expr):Bool:=!es.any fR&&Nat.ble es.length 20
noncomputable def Y2(sc:cL)(line:Nat)(e:Expr):Option aV:=match e with
 |.Name id pos=>if sc.names.lookup id==Y .local&&pos.line==line then Y id else cV
 |_=>cV
def nv(e:Expr):Bool:=eC I (e:=e) (lc:=λ_ _ _ _=>S) (sc:=λ_ _ _ _=>S) (dc:=λ_ _ _ _ _=>S)
def Gh(e:Expr):Bool:=eC I (e:=e) (nm:=λ_ _=>S)
def Vt(sc:cL)(ts vs:List Expr):Option (Option (List aV)):=
 let names:=ts.filterMap (Y2 sc ((ts.head?.map (·.pos.line)).getD 0))
 if !(ts.length==2||ts.length==3)||vs.length !=ts.length then Y .none
 else if vs.any fR then Y .none
 else if names.length !=ts.length||names.eraseDups.length !=names.length then Y .none
 else if vs.all (foldedForSure 8)then Y .none
 else if vs.all (constantsAlone 8)then .none
 else Y (Y names)
def iW(e:Expr):Option (List Expr):=eC .none (e:=e) (tup:=λes _ _=>Y es)
def yD(e:Expr):Bool:=eC I (e:=e) (lst:=λ_ _=>S)
def po(sc:cL)(t e:Expr):Option (Option (List aV)):=match iW e with
 |some vs=>(match iW t with
  |some ts=>Vt sc ts vs
  |.none=>bif yD t then .none else Y .none)
 |.none=>Y .none
noncomputable def tw:List Expr->Option (List aV)
 |[]=>Y []
 |e::r=>(xG e).bind λx=>(tw r).map (x::·)
noncomputable def lu:List aV->Bool
 |[]=>S
 |x::r=>!r.any (·==x)&&lu r
section
variable(T:aT)(G:cI)
structure Dn where
 e:VI->Expr->M J
 t:VI->Expr->M Bool
 i:VI->Expr->M It
def Dn.none:Dn:=⟨λ_ _=>M.no,λ_ _=>M.no,λ_ _=>M.no⟩
variable(ak:Dn)
def II(V:VI)(x:aV):M J:=match eE V x with
 |some i=>B i
 |.none=>gO (rt T V x) D
def dFs(V:VI)(e:Expr):M J:=eC M.no (e:=e) (fv:=λv c o _=>gd (o.isNone&&c==-1) (ak.e V v)) (con:=λc _ _=>match c with
  |.str s=>D (.str s.cps.toList)
  |_=>M.no)
def dO(V:VI)(o:Option Expr):M J:=match o with
 |.none=>D .none
 |some e=>ak.e V e
noncomputable def dK(V:VI):List eU->Option (List (Nat×M J))
 |[]=>Y []
 |k::r=>k.arg.bind λx=>(lA T x).bind λi=>(dK V r).map λq=>(i,ak.e V k.value)::q
noncomputable def Sx(o:fQ):Option Bool:=match o with
 |.In=>Y I
 |.NotIn=>Y S
 |_=>.none
def FO(V:VI)(l:Expr)(o:fQ)(r:Expr):M J:=match iW r with
 |some es=>gO (Sx o) λneg=>gd (!es.any fR) (lm neg (ak.e V l) (es.map (ak.e V)))
 |.none=>gd (!j5 r) (aW T o (ak.e V l) (ak.e V r))
def WO(V:VI)(l:Expr):List fQ->List Expr->M J
 |[],_=>M.no
 |o::os,rs=>match os with
  |[]=>qH rs λr=>FO T ak V l o r
  |p::os=>rq os (Ls rs λy z=>gd (!j5 z) (pf T o p (ak.e V l) (ak.e V y) (ak.e V z)))
def Vm(e:Expr):Bool:=eC I (e:=e) (un:=λop x _=>match op with
  |.USub=>(match zL x with
   |some v=>(match v with
    |.int i=>aI (i=1)
    |_=>I)
   |.none=>I)
  |_=>I)
def VD(V:VI)(v s:Expr):M J:=eC (eB T (ak.e V v) (ak.e V s)) (e:=s) (sl:=λlo hi st _=>match st with
  |.none=>fU T (ak.e V v) (dO ak V lo) (dO ak V hi)
  |some st=>gd (lo.isNone&&hi.isNone&&Vm st) (Kz (ak.e V v)))
def Nk(V:VI)(elt:Expr)(g:cW)(sc:cL):M J:=match g with
 |⟨t,it,ifs,ia⟩=>gO (xG t) λx=>gd (rg V x sc&&!j5 it&&!ifs.any fR&&ia==0) (match ifs with
  |[]=>kT (ak.e (gk V x sc) elt) V.top (ak.i V it) .none
  |c::r=>rq r (kT (ak.e (gk V x sc) elt) V.top (ak.i V it) (Y (ak.t (gk V x sc) c))))
def Ik(e:Expr):Option (List (Option Expr)×List Expr):=eC .none (e:=e) (dct:=λk v _=>Y (k,v))
def AB(V:VI)(o:Expr)(a:aV)(as:List Expr):M J:=match Ik o with
 |some q=>gO (uy q.1 q.2) λkvs=>gd (a=="get"&&YA kvs) (Ls as λx y=>qn kvs (ak.e V x) (ak.e V y))
 |.none=>(match BI a as with
  |some q=>wb (ak.e V o) q.1 q.2
  |.none=>gO (lA T a) λi=>bk T G (ak.e V o) i a (as.map (ak.e V)))
noncomputable def Gn(v:J):Bool:=match v with
 |.bi n=>n=="isinstance"
 |_=>I
def Hs(V:VI)(f:aV)(as:List Expr)(ks:List eU):M J:=gO (rt T V f) λv=>
 bif Gn v then rq ks (Ls as λe x=>gd (!fR e&&!fR x) (match iW x with
  |some cs=>gO (oj T V cs) (jy (ak.e V e))
  |.none=>gO (oj T V [x]) (jy (ak.e V e))))
 else gO (dK T ak V ks) λkms=>gd (jo as) (aN T G v (as.map (ak.e V)) kms)
def dE(V:VI)(e:Expr):M J:=eC M.no (e:=e)
 (con:=λc _ _=>gO (Ba c) D)
 (nm:=λx _=>II T V x)
 (bin:=λl o r _=>bp o (ak.e V l) (ak.e V r))
 (un:=λop x _=>match op with
  |.Not=>KU (ak.e V x)
  |.USub=>rp (ak.e V x)
  |_=>M.no)
 (bo:=λop es _=>Ls es λx y=>match op with
  |.And=>Az (ak.e V x) (ak.e V y)
  |.Or=>TZ (ak.e V x) (ak.e V y))
 (ife:=λt b o _=>fD (ak.t V t) (ak.e V b) (ak.e V o))
 (cmp:=λl os rs _=>WO T ak V l os rs)
 (tup:=λes _ _=>gd (!es.any fR) (mTup (es.map (ak.e V))))
 (lst:=λes _=>gd (!es.any fR) (dk (es.map (ak.e V))))
 (dct:=λks vs _=>rq ks (rq vs jw))
 (js:=λes _=>gd (Nat.blt 1 es.length) (yO (es.map (dFs ak V))))
 (att:=λv a _=>gd (nQ v) (gO (lA T a) (bT T (ak.e V v))))
 (sub:=λv s _=>VD T ak V v s)
 (lc:=λelt gs sc _=>qH gs λg=>Nk ak V elt g sc)
 (call:=λf as ks cp=>eC M.no (e:=f)
  (att:=λo a ap=>gd (ks.isEmpty&&(ap.endLine==cp.line&&nQ o&&jo as)) (AB T G ak V o a as))
  (nm:=λx _=>Hs T G ak V x as ks))
def dT(V:VI)(e:Expr):M Bool:=eC (bJ (ak.e V e)) (e:=e)
 (un:=λop x _=>match op with
  |.Not=>vG (ak.t V x)
  |_=>bJ (ak.e V e))
 (bo:=λop es _=>match op with
  |.And=>es.foldr (λe r=>cQ (ak.t V e) r) (M.ret S)
  |.Or=>es.foldr (λe r=>pk (ak.t V e) r) (M.ret I))
 (ife:=λ_ _ _ _=>M.no)
def wT(V:VI)(e:Expr):Option (List Expr):=eC .none (e:=e) (call:=λf as ks _=>(xG f).bind λx=>(rt T V x).bind λv=>(match v with
  |.ty n=>bif n=="range"&&ks.isEmpty then Y as else .none
  |_=>.none))
def dI(V:VI)(e:Expr):M It:=gd (!j5 e) (match wT T V e with
 |some as=>qH as λa=>gd (!fR a) (nK (ak.e V a))
 |.none=>iU T (ak.e V e))
def Ly:Dn:=⟨dE T G ak,dT ak,dI T ak⟩
noncomputable def X1:Nat->Dn
 |0=>Dn.none
 |n+1=>Ly T G (X1 n)
def TM(V:VI)(e:Expr):qf:=eC (λ_=>M.no) (e:=e)
 (nm:=λx _ v=>gO (cx V x) (λi=>bd i v))
 (att:=λo a _ v=>gO (lA T a) (λk=>cf T (ak.e V o) k v))
 (sub:=λo i _ v=>gd (!KT i) (B6 (ak.e V o) (ak.e V i) v))
def dG(V:VI)(e:Expr):qf:=eC (TM T ak V e) (e:=e) (tup:=λts _ _ v=>gd (!ts.any fR) (fg T (ts.map (TM T ak V)) v))
def Cv(V:VI)(t e:Expr):Bool:=!fR t&&(!Gh t||!nv e)&&(match po V.scope t e with
 |.none=>I
 |some o=>(match o with
  |.none=>S
  |some ns=>(match iW t with
   |some ts=>tw ts==Y ns&&lu ns&&ns.all (λx=>(cx V x).isSome)
   |.none=>I)))
def cmpAsg(V:VI)(t e:Expr):Bool:=eC I (e:=t) (nm:=λy py=>eC I (e:=e) (lc:=λ_ gs sc vx=>match gs with
   |[]=>I
   |g::r=>r.isEmpty&&Gh g.target&&(py.line==vx.line&&!(sc.names.any λ(n,k)=>n==y&&(k==.local||k==.cell))&&(cx V y).isSome)))
def Yv(V:VI)(ss:VI->List eD->M Fl)(b:List eD)(hd:ExceptHandler):M Fl:=match hd with
 |.ExceptHandler ty nm h _=>gO ty λty=>gO (xG ty) λc=>gO nm λx=>gO (rt T V c) λv=>(match v with
  |.sref C=>gO (cx V x) λi=>gd (nk T C) (xD (ss V b) C i (ss V h))
  |_=>M.no)
def dS(ss:VI->List eD->M Fl)(V:VI)(s:eD):M Fl:=sC M.no (s:=s)
 (asg:=λts e _=>qH ts λt=>gd (Cv V t e||cmpAsg V t e) (sAsg (dG T ak V t) (ak.e V e)))
 (aug:=λt o e _=>eC M.no (e:=t)
  (nm:=λx _=>gO (cx V x) λi=>z7 i o (ak.e V e))
  (att:=λq a _=>gO (lA T a) λk=>tT T (ak.e V q) k o (ak.e V e)))
 (ret:=λe _=>gO e λe=>bR (ak.e V e))
 (ex:=λe _=>gd (!nv e) (iT (ak.e V e)))
 (ifs:=λt b o _=>eS (ak.t V t) (ss V b) (ss V o))
 (wh:=λt b o _=>rq o (jv (ak.t V t) (ss V b)))
 (fr:=λt i b o _=>rq o (gd (!j5 i) (uD (dG T ak V t) (ak.i V i) (ss V b))))
 (brk:=λ_=>KF)
 (rs:=λe f _=>gd f.isNone (gO e λe=>wV T (ak.e V e)))
 (tr:=λb hs o f _=>rq o (rq f (qH hs λhd=>Yv T V ss b hd)))
noncomputable def ph:Nat->VI->List eD->M Fl
 |0=>λ_ _=>M.no
 |n+1=>λV l=>aH (l.map (dS T (X1 T G 30) (ph n) V))
end
noncomputable def gI:Nat->List (aV×dr)->List (aV×Nat)
 |_,[]=>[]
 |n,p::r=>bif p.2==.local||p.2==.cell then(p.1,n)::gI (n+1) r else gI n r
def f9(sc:cL):VI:=let vm:=gI 0 sc.names;{scope:=sc,vm,top:=vm.length}
end
section
structure FI where
 pn:List aV
 dfl:List J
 body:List eD
 sc:cL
noncomputable def zg(np:Nat)(dfl as:List J):Option (List J):=bif Nat.ble (np-dfl.length) as.length&&Nat.ble as.length np then Y (as++dfl.drop (as.length-(np-dfl.length)))else .none
def tN(T:aT)(fi:FI)(as:List J)(ks:List (Nat×J)):Option (List J):=match ks with
 |[]=>zg fi.pn.length fi.dfl as
 |p::r=>bif r.isEmpty&&Nat.beq fi.pn.length 3&&Nat.beq fi.dfl.length 1&&Nat.beq as.length 2&&((fi.pn[2]?).bind (lA T)==Y p.1)then Y (as++[p.2])else .none
def y7(T:aT)(G:cI)(fi:FI)(hand:Bool)(as:List J)(ks:List (Nat×J))(h:H):Hv:=match tN T fi as ks with
 |some bs=>pU ((f9 fi.sc).top+1) (ph T G 12 (f9 fi.sc) fi.body) hand bs h
 |.none=>.stuck
noncomputable def oZ(T:aT)(ft:Nat->Option FI):Nat->cI
 |0=>λ_ _ _ _ _=>.stuck
 |n+1=>λhand f as ks h=>match ft f with
  |some fi=>y7 T (oZ T ft n) fi hand as ks h
  |.none=>.stuck
end
section
noncomputable def fu:aT where
 glob:=[(am "Thing",(J.sref 40)),(am "isinstance",(J.bi "isinstance")),(am "int",(J.ty "int")),(am "bool",(J.ty "bool")),(am "str",(J.ty "str")),(am "OPERATORS",(J.sref 23)),(am "is_word",(J.sref 264)),(am "show",(J.sref 338)),(am "full_name",(J.sref 285)),(am "SIMPLE_ESCAPES",(J.sref 22)),(am "ord",(J.bi "ord")),(am "range",(J.ty "range")),(am "len",(J.bi "len")),(am "show_letter",(J.sref 292)),(am "is_plain_symbol",(J.sref 278)),(am "show_text",(J.sref 297)),(am "Text",(J.sref 62)),(am "ListThing",(J.sref 82)),(am "TableThing",(J.sref 120)),(am "RangeThing",(J.sref 140)),(am "show_range",(J.sref 318)),(am "ModuleThing",(J.sref 228)),(am "ErrorThing",(J.sref 181)),(am "show_error",(J.sref 330)),(am "ProcThing",(J.sref 161)),(am "show_pair",(J.sref 311)),(am "sort_of",(J.sref 244)),(am "show_thing",(J.sref 323)),(am "show_symbol",(J.sref 304)),(am "is_int",(J.sref 237)),(am "abs",(J.bi "abs")),(am "FIGURES",(J.str [48,49,50,51,52,53,54,55,56,57,97,98,99,100,101,102,103,104,105,106,107,108,109,110,111,112,113,114,115,116,117,118,119,120,121,122])),(am "MOST_TEXT",(J.int 20000)),(am "EDGES",(J.str [32,9,10,11,12,13,0])),(am "PREFIXES",(J.sref 363)),(am "read_int",(J.sref 386)),(am "named",(J.sref 345)),(am "figures",(J.sref 359)),(am "BASES",(J.sref 364)),(am "whole_numbers",(J.sref 352)),(am "letters",(J.sref 371)),(am "chr",(J.bi "chr")),(am "Format",(J.sref 431)),(am "integer_for",(J.sref 393)),(am "display",(J.sref 400)),(am "sized",(J.sref 378)),(am "Formatter",(J.sref 494)),(am "ValueError",(J.ty "ValueError")),(am "GemError",(J.sref 523)),(am "list",(J.ty "list")),(am "MODULES",(J.sref 560)),(am "BUILTINS",(J.sref 561)),(am "MIXED",(J.sref 564)),(am "own_module",(J.sref 559)),(am "Raised",(J.sref 543)),(am "_law_figures",(J.sref 852)),(am "_law_wide",(J.sref 859)),(am "_law_take",(J.sref 845)),(am "_law_value",(J.sref 871)),(am "_law_number",(J.sref 866)),(am "filled",(J.sref 505)),(am "_law_place",(J.sref 876)),(am "_law_told",(J.sref 883)),(am "_law_box",(J.sref 838)),(am "World",(J.sref 827)),(am "_law_places_right",(J.sref 890)),(am "_law_refused_right",(J.sref 897)),(am "_law_read_right",(J.sref 904))]
 names:=[am "__init__",am "number",am "owner",am "fields",am "own",am "frozen",am "ident",am "text",am "items",am "message",am "cause",am "name",am "is_class",am "parent",am "outer",am "methods",am "constants",am "mixed",am "ahead",am "attached",am "native",am "kept",am "isdigit",am "isalnum",am "join",am "rows",am "pairs",am "is_lambda",am "class_of",am "fail",am "append",am "strip",am "lstrip",am "lower",am "find",am "flags",am "width",am "most",am "padded",am "upper",am "world",am "values",am "place",am "used",am "value",am "letter",am "count",am "sign",am "piece",am "whole",am "reason",am "thing",am "natives",am "prelude",am "read",am "taken",am "last_number",am "last_ident",am "symbol_idents",am "made",am "version",am "const_version",am "globals",am "out",am "is_ready",am "main",am "builtin",am "give_own",am "get",am "make_builtin",am "error",am "list_of",am "strict",am "replace"]
 meth:=[(40,[(0,37)]),(62,[(0,59)]),(82,[(0,79)]),(181,[(0,178)]),(228,[(0,218)]),(431,[(0,414),(38,421),(1,428)]),(494,[(0,449),(44,456),(45,463),(46,470),(47,477),(48,484),(49,491)]),(523,[(0,520)]),(543,[(0,540)]),(827,[(0,587),(1,608),(66,629),(69,634),(67,641),(28,656),(7,691),(71,698),(70,754),(29,761)])]
 exns:=[523,543]
 attrs:=[(40,[1,2,3,4,5,6]),(62,[1,2,3,4,5,6,7]),(82,[1,2,3,4,5,6,8]),(181,[1,2,3,4,5,6,9,10]),(228,[1,2,3,4,5,6,11,12,13,14,15,16,17,18,19,20,21]),(431,[35,36,37]),(494,[40,7,41,42,43]),(827,[52,53,54,37,55,56,57,58,59,60,61,62,63,64,65])]
 xattrs:=[50,51]
 sdict:=[(22,[([92],(J.str [92,92])),([34],(J.str [92,34])),([10],(J.str [92,110])),([9],(J.str [92,116])),([13],(J.str [92,114])),([27],(J.str [92,101])),([7],(J.str [92,97])),([8],(J.str [92,98])),([11],(J.str [92,118])),([12],(J.str [92,102])),([127],(J.str [92,120,55,70]))]),(364,[([100],(J.int 10)),([105],(J.int 10)),([117],(J.int 10)),([120],(J.int 16)),([88],(J.int 16)),([111],(J.int 8)),([98],(J.int 2)),([66],(J.int 2))]),(561,[([66,97,115,105,99,79,98,106,101,99,116],J.none),([79,98,106,101,99,116],(J.str [66,97,115,105,99,79,98,106,101,99,116])),([77,111,100,117,108,101],(J.str [79,98,106,101,99,116])),([67,108,97,115,115],(J.str [77,111,100,117,108,101])),([75,101,114,110,101,108],J.none),([67,111,109,112,97,114,97,98,108,101],J.none),([69,110,117,109,101,114,97,98,108,101],J.none),([78,105,108,67,108,97,115,115],(J.str [79,98,106,101,99,116])),([84,114,117,101,67,108,97,115,115],(J.str [79,98,106,101,99,116])),([70,97,108,115,101,67,108,97,115,115],(J.str [79,98,106,101,99,116])),([78,117,109,101,114,105,99],(J.str [79,98,106,101,99,116])),([73,110,116,101,103,101,114],(J.str [78,117,109,101,114,105,99])),([83,116,114,105,110,103],(J.str [79,98,106,101,99,116])),([83,121,109,98,111,108],(J.str [79,98,106,101,99,116])),([65,114,114,97,121],(J.str [79,98,106,101,99,116])),([72,97,115,104],(J.str [79,98,106,101,99,116])),([82,97,110,103,101],(J.str [79,98,106,101,99,116])),([80,114,111,99],(J.str [79,98,106,101,99,116])),([70,105,98,101,114],(J.str [79,98,106,101,99,116])),([69,120,99,101,112,116,105,111,110],(J.str [79,98,106,101,99,116])),([83,99,114,105,112,116,69,114,114,111,114],(J.str [69,120,99,101,112,116,105,111,110])),([78,111,116,73,109,112,108,101,109,101,110,116,101,100,69,114,114,111,114],(J.str [83,99,114,105,112,116,69,114,114,111,114])),([83,121,115,116,101,109,83,116,97,99,107,69,114,114,111,114],(J.str [69,120,99,101,112,116,105,111,110])),([83,116,97,110,100,97,114,100,69,114,114,111,114],(J.str [69,120,99,101,112,116,105,111,110])),([65,114,103,117,109,101,110,116,69,114,114,111,114],(J.str [83,116,97,110,100,97,114,100,69,114,114,111,114])),([85,110,99,97,117,103,104,116,84,104,114,111,119,69,114,114,111,114],(J.str [65,114,103,117,109,101,110,116,69,114,114,111,114])),([70,105,98,101,114,69,114,114,111,114],(J.str [83,116,97,110,100,97,114,100,69,114,114,111,114])),([73,110,100,101,120,69,114,114,111,114],(J.str [83,116,97,110,100,97,114,100,69,114,114,111,114])),([75,101,121,69,114,114,111,114],(J.str [73,110,100,101,120,69,114,114,111,114])),([83,116,111,112,73,116,101,114,97,116,105,111,110],(J.str [73,110,100,101,120,69,114,114,111,114])),([76,111,99,97,108,74,117,109,112,69,114,114,111,114],(J.str [83,116,97,110,100,97,114,100,69,114,114,111,114])),([78,97,109,101,69,114,114,111,114],(J.str [83,116,97,110,100,97,114,100,69,114,114,111,114])),([78,111,77,101,116,104,111,100,69,114,114,111,114],(J.str [78,97,109,101,69,114,114,111,114])),([78,111,77,97,116,99,104,105,110,103,80,97,116,116,101,114,110,69,114,114,111,114],(J.str [83,116,97,110,100,97,114,100,69,114,114,111,114])),([78,111,77,97,116,99,104,105,110,103,80,97,116,116,101,114,110,75,101,121,69,114,114,111,114],(J.str [78,111,77,97,116,99,104,105,110,103,80,97,116,116,101,114,110,69,114,114,111,114])),([82,97,110,103,101,69,114,114,111,114],(J.str [83,116,97,110,100,97,114,100,69,114,114,111,114])),([82,117,110,116,105,109,101,69,114,114,111,114],(J.str [83,116,97,110,100,97,114,100,69,114,114,111,114])),([70,114,111,122,101,110,69,114,114,111,114],(J.str [82,117,110,116,105,109,101,69,114,114,111,114])),([84,121,112,101,69,114,114,111,114],(J.str [83,116,97,110,100,97,114,100,69,114,114,111,114])),([90,101,114,111,68,105,118,105,115,105,111,110,69,114,114,111,114],(J.str [83,116,97,110,100,97,114,100,69,114,114,111,114]))]),(564,[([79,98,106,101,99,116],(J.sref 565)),([78,117,109,101,114,105,99],(J.sref 566)),([83,116,114,105,110,103],(J.sref 567)),([83,121,109,98,111,108],(J.sref 568)),([65,114,114,97,121],(J.sref 569)),([72,97,115,104],(J.sref 570)),([82,97,110,103,101],(J.sref 571))])]
 stup:=[(23,[(J.str [43]),(J.str [45]),(J.str [42]),(J.str [47]),(J.str [37]),(J.str [42,42]),(J.str [61,61]),(J.str [33,61]),(J.str [60]),(J.str [62]),(J.str [60,61]),(J.str [62,61]),(J.str [60,61,62]),(J.str [61,61,61]),(J.str [91,93]),(J.str [91,93,61]),(J.str [60,60]),(J.str [62,62]),(J.str [33]),(J.str [126]),(J.str [43,64]),(J.str [45,64]),(J.str [38]),(J.str [124]),(J.str [94]),(J.str [61,126]),(J.str [33,126])]),(363,[(J.sref 360),(J.sref 361),(J.sref 362)]),(560,[(J.str [75,101,114,110,101,108]),(J.str [67,111,109,112,97,114,97,98,108,101]),(J.str [69,110,117,109,101,114,97,98,108,101])]),(565,[(J.str [75,101,114,110,101,108])]),(566,[(J.str [67,111,109,112,97,114,97,98,108,101])]),(567,[(J.str [67,111,109,112,97,114,97,98,108,101])]),(568,[(J.str [67,111,109,112,97,114,97,98,108,101])]),(569,[(J.str [69,110,117,109,101,114,97,98,108,101])]),(570,[(J.str [69,110,117,109,101,114,97,98,108,101])]),(571,[(J.str [69,110,117,109,101,114,97,98,108,101])]),(572,[(J.str [78,105,108,67,108,97,115,115]),(J.str [84,114,117,101,67,108,97,115,115]),(J.str [70,97,108,115,101,67,108,97,115,115]),(J.str [73,110,116,101,103,101,114]),(J.str [78,117,109,101,114,105,99]),(J.str [83,121,109,98,111,108])]),(360,[(J.str [48,120]),(J.int 16)]),(361,[(J.str [48,98]),(J.int 2)]),(362,[(J.str [48,111]),(J.int 8)])]
 fns:=[37,59,79,178,218,225,237,244,264,278,285,292,297,304,323,338,345,352,359,371,378,386,393,400,414,421,428,449,456,463,470,477,484,491,505,520,540,587,608,629,634,641,656,691,698,754,761,838,845,852,859,866,871,876,883,890,897,904,911]
end
section
structure yk where
 top:Nat
 mem:Option Nat
 dfl:List J
def OZ(dfl:List J)(s:eD):Option FI:=sC .none (s:=s) (fd:=λ_ a b _ _ _ sc _ _ _=>Y ⟨a.args.map (·.arg),dfl,b,sc⟩)
def UN(j:Nat)(s:eD):Option eD:=sC .none (s:=s) (cd:=λ_ _ _ b _ _ _ _ _ _ _=>b[j]?)
def yk.fi(p:yk):Option FI:=(PySem.Challenge.pw_nu0290_01.main.body[p.top]?).bind λs=>match p.mem with
 |some j=>(UN j s).bind (OZ p.dfl)
 |.none=>OZ p.dfl s
noncomputable def lR:List (Nat×yk):=[
 (37,⟨5,Y 0,[]⟩),
 (59,⟨6,Y 0,[.str []]⟩),
 (79,⟨7,Y 0,[.none]⟩),
 (178,⟨11,Y 0,[.none]⟩),
 (218,⟨13,Y 0,[.none,.bool I,.none,.none]⟩),
 (225,⟨13,Y 1,[]⟩),
 (237,⟨14,.none,[]⟩),
 (244,⟨15,.none,[]⟩),
 (264,⟨18,.none,[]⟩),
 (278,⟨20,.none,[]⟩),
 (285,⟨21,.none,[]⟩),
 (292,⟨22,.none,[]⟩),
 (297,⟨23,.none,[]⟩),
 (304,⟨24,.none,[]⟩),
 (323,⟨27,.none,[]⟩),
 (338,⟨29,.none,[.int 6]⟩),
 (345,⟨32,.none,[]⟩),
 (352,⟨33,.none,[]⟩),
 (359,⟨35,.none,[]⟩),
 (371,⟨42,.none,[]⟩),
 (378,⟨43,.none,[]⟩),
 (386,⟨44,.none,[.bool I]⟩),
 (393,⟨45,.none,[]⟩),
 (400,⟨46,.none,[]⟩),
 (414,⟨47,Y 0,[]⟩),
 (421,⟨47,Y 1,[]⟩),
 (428,⟨47,Y 2,[]⟩),
 (449,⟨48,Y 0,[]⟩),
 (456,⟨48,Y 1,[]⟩),
 (463,⟨48,Y 2,[]⟩),
 (470,⟨48,Y 3,[]⟩),
 (477,⟨48,Y 4,[]⟩),
 (484,⟨48,Y 5,[]⟩),
 (491,⟨48,Y 6,[]⟩),
 (505,⟨49,.none,[]⟩),
 (520,⟨51,Y 0,[.str []]⟩),
 (540,⟨52,Y 0,[]⟩),
 (587,⟨61,Y 0,[.none,.none,.int 20000]⟩),
 (608,⟨61,Y 3,[]⟩),
 (629,⟨61,Y 6,[]⟩),
 (634,⟨61,Y 7,[]⟩),
 (641,⟨61,Y 8,[]⟩),
 (656,⟨61,Y 10,[]⟩),
 (691,⟨61,Y 15,[]⟩),
 (698,⟨61,Y 16,[]⟩),
 (754,⟨61,Y 24,[]⟩),
 (761,⟨61,Y 25,[]⟩),
 (838,⟨63,.none,[]⟩),
 (845,⟨64,.none,[]⟩),
 (852,⟨65,.none,[]⟩),
 (859,⟨66,.none,[]⟩),
 (866,⟨67,.none,[]⟩),
 (871,⟨68,.none,[]⟩),
 (876,⟨69,.none,[]⟩),
 (883,⟨70,.none,[]⟩),
 (890,⟨71,.none,[]⟩),
 (897,⟨72,.none,[]⟩),
 (904,⟨73,.none,[]⟩),
 (911,⟨74,.none,[]⟩)]
def ft(f:Nat):Option FI:=(d5 f lR).bind yk.fi
end
section
abbrev Cd:=aT->cI->List (M Fl)
def Wj:Cd:=λT G=>[sAsg (cf T (B 0) 6) (D .none)]
def VT:Cd:=λT G=>sAsg (cf T (B 0) 5) (D (.bool I))::Wj T G
def U2:Cd:=λT G=>sAsg (cf T (B 0) 4) (D .none)::VT T G
def VV:Cd:=λT G=>sAsg (cf T (B 0) 3) jw::U2 T G
def WE:Cd:=λT G=>sAsg (cf T (B 0) 2) (B 2)::VV T G
def WQ:Cd:=λT G=>sAsg (cf T (B 0) 1) (B 1)::WE T G
def XS(T:aT)(G:cI):M Fl:=aH (WQ T G)
def WC:Cd:=λT G=>[sAsg (cf T (B 0) 7) (B 3)]
def TY:Cd:=λT G=>iT (bk T G (D (.sref 40)) 0 (am "__init__") [B 0,B 1,B 2])::WC T G
def Zc(T:aT)(G:cI):M Fl:=aH (TY T G)
def UP:Cd:=λT G=>[sAsg (cf T (B 0) 8) (fD (bJ (aW T .Is (B 3) (D .none))) (dk []) (B 3))]
def We:Cd:=λT G=>iT (bk T G (D (.sref 40)) 0 (am "__init__") [B 0,B 1,B 2])::UP T G
def Zg(T:aT)(G:cI):M Fl:=aH (We T G)
def Tf:Cd:=λT G=>[sAsg (cf T (B 0) 10) (D .none)]
def Q8:Cd:=λT G=>sAsg (cf T (B 0) 9) (B 3)::Tf T G
def PJ:Cd:=λT G=>iT (bk T G (D (.sref 40)) 0 (am "__init__") [B 0,B 1,B 2])::Q8 T G
def WJ(T:aT)(G:cI):M Fl:=aH (PJ T G)
def Ku:Cd:=λT G=>[sAsg (cf T (B 0) 21) (D .none)]
def KA:Cd:=λT G=>sAsg (cf T (B 0) 20) (D .none)::Ku T G
def On:Cd:=λT G=>sAsg (cf T (B 0) 19) (D .none)::KA T G
def PO:Cd:=λT G=>sAsg (cf T (B 0) 18) (dk [])::On T G
def Rt:Cd:=λT G=>sAsg (cf T (B 0) 17) (dk [])::PO T G
def OO:Cd:=λT G=>sAsg (cf T (B 0) 16) jw::Rt T G
def ON:Cd:=λT G=>sAsg (cf T (B 0) 15) jw::OO T G
def Pj:Cd:=λT G=>sAsg (cf T (B 0) 14) (B 6)::ON T G
def Qx:Cd:=λT G=>sAsg (cf T (B 0) 13) (B 5)::Pj T G
def PN:Cd:=λT G=>sAsg (cf T (B 0) 12) (B 4)::Qx T G
def QO:Cd:=λT G=>sAsg (cf T (B 0) 11) (B 3)::PN T G
def RF:Cd:=λT G=>iT (bk T G (D (.sref 40)) 0 (am "__init__") [B 0,B 1,B 2])::QO T G
def WX(T:aT)(G:cI):M Fl:=aH (RF T G)
def Pw:Cd:=λT G=>[bR (Az (jy (B 0) [.ty "int"]) (KU (jy (B 0) [.ty "bool"])))]
def UY(T:aT)(G:cI):M Fl:=aH (Pw T G)
def RA:Cd:=λT G=>[bR (fD (bJ (jy (B 0) [.ty "str"])) (D (.str [115,121,109])) (D (.str [116,104,105,110,103])))]
def RK:Cd:=λT G=>eS (bJ (jy (B 0) [.ty "int"])) (aH [bR (D (.str [105,110,116]))]) (aH [])::RA T G
def SR:Cd:=λT G=>eS (bJ (jy (B 0) [.ty "bool"])) (aH [bR (D (.str [98,111,111,108]))]) (aH [])::RK T G
def QA:Cd:=λT G=>eS (bJ (aW T .Is (B 0) (D .none))) (aH [bR (D (.str [110,105,108]))]) (aH [])::SR T G
def UX(T:aT)(G:cI):M Fl:=aH (QA T G)
def JK(T:aT)(G:cI):M Fl:=(aH [eS (vG (pk (bJ (bk T G (B 1) 23 (am "isalnum") [])) (pk (bJ (aW T .Eq (B 1) (D (.str [95])))) (M.ret I)))) (aH [bR (D (.bool I))]) (aH [])])
def Sh:Cd:=λT G=>[bR (D (.bool S))]
def Pl:Cd:=λT G=>uD (bd 1) (iU T (B 0)) (JK T G)::Sh T G
def O2:Cd:=λT G=>eS (pk (bJ (aW T .Eq (B 0) (D (.str [])))) (pk (bJ (bk T G (eB T (B 0) (D (.int 0))) 22 (am "isdigit") [])) (M.ret I))) (aH [bR (D (.bool I))]) (aH [])::Pl T G
def Vh(T:aT)(G:cI):M Fl:=aH (O2 T G)
def O9:Cd:=λT G=>[bR (aN T G (.sref 264) [(fD (bJ (lm I (fU T (B 0) (rp (D (.int 1))) (D .none)) [D (.str [63]),D (.str [33]),D (.str [61])])) (fU T (B 0) (D .none) (rp (D (.int 1)))) (B 0))] [])]
def Pp:Cd:=λT G=>eS (bJ (lm I (fU T (B 0) (D .none) (D (.int 1))) [D (.str [64]),D (.str [36])])) (aH [bR (aN T G (.sref 264) [fU T (B 0) (D (.int 1)) (D .none)] [])]) (aH [])::O9 T G
def Sw:Cd:=λT G=>eS (bJ (aW T .Eq (fU T (B 0) (D .none) (D (.int 2))) (D (.str [64,64])))) (aH [bR (aN T G (.sref 264) [fU T (B 0) (D (.int 2)) (D .none)] [])]) (aH [])::Pp T G
def O7:Cd:=λT G=>eS (bJ (aW T .In (B 0) (D (.sref 23)))) (aH [bR (D (.bool S))]) (aH [])::Sw T G
def UR(T:aT)(G:cI):M Fl:=aH (O7 T G)
def OP:Cd:=λT G=>[bR (bp .Add (bp .Add (aN T G (.sref 285) [bT T (B 0) 14] []) (D (.str [58,58]))) (bT T (B 0) 11))]
def PE:Cd:=λT G=>eS (bJ (aW T .Is (bT T (B 0) 14) (D .none))) (aH [bR (bT T (B 0) 11)]) (aH [])::OP T G
def PH:Cd:=λT G=>eS (bJ (aW T .Is (bT T (B 0) 11) (D .none))) (aH [bR (fD (bJ (bT T (B 0) 12)) (D (.str [35,60,67,108,97,115,115,62])) (D (.str [35,60,77,111,100,117,108,101,62])))]) (aH [])::PE T G
def SJ:Cd:=λT G=>eS (bJ (aW T .IsNot (bT T (B 0) 19) (D .none))) (aH [bR (bp .Add (bp .Add (D (.str [35,60,67,108,97,115,115,58])) (aN T G (.sref 338) [bT T (B 0) 19] [])) (D (.str [62])))]) (aH [])::PH T G
def WR(T:aT)(G:cI):M Fl:=aH (SJ T G)
def SQ:Cd:=λT G=>[bR (B 0)]
def Se:Cd:=λT G=>eS (pk (bJ (aW T .Lt (B 2) (D (.int 32)))) (pk (bJ (pf T .Lt .Lt (D (.int 127)) (B 2) (D (.int 160)))) (M.ret I))) (aH [sAsg (bd 3) (D (.str [48,49,50,51,52,53,54,55,56,57,65,66,67,68,69,70])),bR (bp .Add (bp .Add (D (.str [92,117,48,48])) (eB T (B 3) (bp .FloorDiv (B 2) (D (.int 16))))) (eB T (B 3) (bp .Mod (B 2) (D (.int 16)))))]) (aH [])::SQ T G
def So:Cd:=λT G=>sAsg (bd 2) (aN T G (.bi "ord") [B 0] [])::Se T G
def Pq:Cd:=λT G=>eS (cQ (bJ (aW T .Eq (B 0) (D (.str [35])))) (cQ (bJ (lm I (B 1) [D (.str [123]),D (.str [36]),D (.str [64])])) (M.ret S))) (aH [bR (D (.str [92,35]))]) (aH [])::So T G
def Tq:Cd:=λT G=>eS (bJ (aW T .In (B 0) (D (.sref 22)))) (aH [bR (eB T (D (.sref 22)) (B 0))]) (aH [])::Pq T G
def TS(T:aT)(G:cI):M Fl:=aH (Tq T G)
def OC:Cd:=λT G=>[bR (bp .Add (bp .Add (D (.str [34])) (bk T G (D (.str [])) 24 (am "join") [B 1])) (D (.str [34])))]
def QR:Cd:=λT G=>sAsg (bd 1) (kT (aN T G (.sref 292) [eB T (B 0) (B 2),fU T (B 0) (bp .Add (B 2) (D (.int 1))) (bp .Add (B 2) (D (.int 2)))] []) 2 (nK (aN T G (.bi "len") [B 0] [])) .none)::OC T G
def VQ(T:aT)(G:cI):M Fl:=aH (QR T G)
def Te:Cd:=λT G=>[bR (bp .Add (D (.str [58])) (fD (bJ (aN T G (.sref 278) [B 0] [])) (B 0) (aN T G (.sref 297) [B 0] [])))]
def Wt(T:aT)(G:cI):M Fl:=aH (Te T G)
def Qy:Cd:=λT G=>[bR (bp .Add (bp .Add (D (.str [35,60])) (B 2)) (D (.str [62])))]
def OM:Cd:=λT G=>eS (bJ (jy (B 0) [.sref 161])) (aH [bR (fD (bJ (bT T (B 0) 27)) (D (.str [35,60,80,114,111,99,32,40,108,97,109,98,100,97,41,62])) (D (.str [35,60,80,114,111,99,62])))]) (aH [])::Qy T G
def Qr:Cd:=λT G=>eS (bJ (jy (B 0) [.sref 181])) (aH [bR (aN T G (.sref 330) [B 0,B 2,B 1] [])]) (aH [])::OM T G
def Tb:Cd:=λT G=>sAsg (bd 2) (aN T G (.sref 285) [bT T (B 0) 2] [])::Qr T G
def Qv:Cd:=λT G=>eS (bJ (jy (B 0) [.sref 228])) (aH [bR (aN T G (.sref 285) [B 0] [])]) (aH [])::Tb T G
def Os:Cd:=λT G=>eS (bJ (jy (B 0) [.sref 140])) (aH [bR (fD (bJ (aW T .Gt (B 1) (D (.int 0)))) (aN T G (.sref 318) [B 0,bp .Sub (B 1) (D (.int 1))] []) (D (.str [40,46,46,46,41])))]) (aH [])::Qv T G
def Oo:Cd:=λT G=>eS (bJ (jy (B 0) [.sref 120])) (aH [eS (cQ (bJ (aW T .Lt (B 1) (D (.int 1)))) (cQ (bJ (aW T .Gt (aN T G (.bi "len") [bT T (B 0) 25] []) (D (.int 0)))) (M.ret S))) (aH [bR (D (.str [123,46,46,46,125]))]) (aH []),bR (bp .Add (bp .Add (D (.str [123])) (bk T G (D (.str [44,32])) 24 (am "join") [M.no])) (D (.str [125])))]) (aH [])::Os T G
def Pe:Cd:=λT G=>eS (bJ (jy (B 0) [.sref 82])) (aH [eS (cQ (bJ (aW T .Lt (B 1) (D (.int 1)))) (cQ (bJ (aW T .Gt (aN T G (.bi "len") [bT T (B 0) 8] []) (D (.int 0)))) (M.ret S))) (aH [bR (D (.str [91,46,46,46,93]))]) (aH []),bR (bp .Add (bp .Add (D (.str [91])) (bk T G (D (.str [44,32])) 24 (am "join") [(kT (aN T G (.sref 338) [B 3,bp .Sub (B 1) (D (.int 1))] []) 3 (iU T (bT T (B 0) 8)) .none)])) (D (.str [93])))]) (aH [])::Oo T G
def Tp:Cd:=λT G=>eS (bJ (jy (B 0) [.sref 62])) (aH [bR (aN T G (.sref 297) [bT T (B 0) 7] [])]) (aH [])::Pe T G
def UU(T:aT)(G:cI):M Fl:=aH (Tp T G)
def Q0:Cd:=λT G=>[bR (aN T G (.ty "str") [B 0] [])]
def RN:Cd:=λT G=>eS (bJ (aW T .Eq (B 2) (D (.str [98,111,111,108])))) (aH [bR (fD (bJ (B 0)) (D (.str [116,114,117,101])) (D (.str [102,97,108,115,101])))]) (aH [])::Q0 T G
def Qf:Cd:=λT G=>eS (bJ (aW T .Eq (B 2) (D (.str [110,105,108])))) (aH [bR (D (.str [110,105,108]))]) (aH [])::RN T G
def Tz:Cd:=λT G=>eS (bJ (aW T .Eq (B 2) (D (.str [115,121,109])))) (aH [bR (aN T G (.sref 304) [B 0] [])]) (aH [])::Qf T G
def PX:Cd:=λT G=>eS (bJ (aW T .Eq (B 2) (D (.str [116,104,105,110,103])))) (aH [bR (aN T G (.sref 323) [B 0,B 1] [])]) (aH [])::Tz T G
def R9:Cd:=λT G=>sAsg (bd 2) (aN T G (.sref 244) [B 0] [])::PX T G
def Wa(T:aT)(G:cI):M Fl:=aH (R9 T G)
def Pr:Cd:=λT G=>[bR (aN T G (.sref 285) [bk T G (B 0) 28 (am "class_of") [B 1]] [])]
def Rx:Cd:=λT G=>eS (pk (bJ (aW T .Is (B 1) (D .none))) (pk (bJ (jy (B 1) [.ty "bool",.ty "int",.ty "str"])) (M.ret I))) (aH [bR (aN T G (.sref 338) [B 1] [])]) (aH [])::Pr T G
def Wk(T:aT)(G:cI):M Fl:=aH (Rx T G)
def OB:Cd:=λT G=>[bR (bk T G (B 0) 29 (am "fail") [(D (.str [84,121,112,101,69,114,114,111,114])),(yO [(D (.str [110,111,32,105,109,112,108,105,99,105,116,32,99,111,110,118,101,114,115,105,111,110,32,111,102,32])),B 2,(D (.str [32,105,110,116,111,32,73,110,116,101,103,101,114]))])])]
def Pd:Cd:=λT G=>sAsg (bd 2) (fD (bJ (jy (B 1) [.ty "bool"])) (aN T G (.sref 338) [B 1] []) (aN T G (.sref 285) [bk T G (B 0) 28 (am "class_of") [B 1]] []))::OB T G
def Rp:Cd:=λT G=>eS (bJ (aW T .Is (B 1) (D .none))) (aH [bR (bk T G (B 0) 29 (am "fail") [(D (.str [84,121,112,101,69,114,114,111,114])),(D (.str [110,111,32,105,109,112,108,105,99,105,116,32,99,111,110,118,101,114,115,105,111,110,32,102,114,111,109,32,110,105,108,32,116,111,32,105,110,116,101,103,101,114]))])]) (aH [])::Pd T G
def QT:Cd:=λT G=>eS (bJ (aN T G (.sref 237) [B 1] [])) (aH [bR (B 1)]) (aH [])::Rp T G
def Ur(T:aT)(G:cI):M Fl:=aH (QT T G)
def H6(T:aT)(G:cI):M Bool:=(bJ (aW T .Gt (B 2) (D (.int 0))))
def Hq(T:aT)(G:cI):M Fl:=(aH [iT (bk T G (B 3) 30 (am "append") [(eB T (D (.str [48,49,50,51,52,53,54,55,56,57,97,98,99,100,101,102,103,104,105,106,107,108,109,110,111,112,113,114,115,116,117,118,119,120,121,122])) (bp .Mod (B 2) (B 1)))]),sAsg (bd 2) (bp .FloorDiv (B 2) (B 1))])
def Rg:Cd:=λT G=>[bR (bk T G (D (.str [])) 24 (am "join") [Kz (B 3)])]
def HZ:Cd:=λT G=>eS (bJ (aW T .Lt (B 0) (D (.int 0)))) (aH [iT (bk T G (B 3) 30 (am "append") [D (.str [45])])]) (aH [])::Rg T G
def Hn:Cd:=λT G=>eS (bJ (aW T .Eq (aN T G (.bi "len") [B 3] []) (D (.int 0)))) (aH [iT (bk T G (B 3) 30 (am "append") [D (.str [48])])]) (aH [])::HZ T G
def Sc:Cd:=λT G=>jv (H6 T G) (Hq T G)::Hn T G
def SE:Cd:=λT G=>sAsg (fg T [bd 2,bd 3]) (mTup [aN T G (.bi "abs") [B 0] [],dk []])::Sc T G
def UT(T:aT)(G:cI):M Fl:=aH (SE T G)
def O4:Cd:=λT G=>[bR (bk T G (B 0) 29 (am "fail") [(D (.str [84,121,112,101,69,114,114,111,114])),(yO [(D (.str [110,111,32,105,109,112,108,105,99,105,116,32,99,111,110,118,101,114,115,105,111,110,32,111,102,32])),B 3,(D (.str [32,105,110,116,111,32,83,116,114,105,110,103]))])])]
def OE:Cd:=λT G=>sAsg (bd 3) (fD (bJ (B 2)) (aN T G (.sref 338) [B 1] []) (aN T G (.sref 285) [bk T G (B 0) 28 (am "class_of") [B 1]] []))::O4 T G
def RE:Cd:=λT G=>sAsg (bd 2) (TZ (aW T .Is (B 1) (D .none)) (jy (B 1) [.ty "bool"]))::OE T G
def Qi:Cd:=λT G=>eS (bJ (jy (B 1) [.sref 62])) (aH [bR (bT T (B 1) 7)]) (aH [])::RE T G
def UD(T:aT)(G:cI):M Fl:=aH (Qi T G)
def Tg:Cd:=λT G=>[bR (fD (bJ (aW T .LtE (aN T G (.bi "len") [B 1] []) (D (.int 20000)))) (B 1) (bk T G (B 0) 29 (am "fail") [(D (.str [65,114,103,117,109,101,110,116,69,114,114,111,114])),(D (.str [97,114,103,117,109,101,110,116,32,116,111,111,32,98,105,103]))]))]
def WL(T:aT)(G:cI):M Fl:=aH (Tg T G)
def BH(T:aT)(G:cI):M Fl:=(aH [eS (cQ (bJ (aW T .Eq (bk T G (fU T (B 3) (D .none) (D (.int 2))) 33 (am "lower") []) (B 6))) (cQ (bJ (lm I (B 1) [D (.int 0),B 7])) (M.ret S))) (aH [sAsg (fg T [bd 5,bd 3]) (mTup [B 7,fU T (B 3) (D (.int 2)) (D .none)])]) (aH [])])
def q7(T:aT)(G:cI):M Fl:=(aH [sAsg (bd 11) (bk T G (D (.str [48,49,50,51,52,53,54,55,56,57,97,98,99,100,101,102,103,104,105,106,107,108,109,110,111,112,113,114,115,116,117,118,119,120,121,122])) 34 (am "find") [bk T G (B 10) 33 (am "lower") []]),eS (bJ (pf T .LtE .Lt (D (.int 0)) (B 11) (B 5))) (aH [sAsg (fg T [bd 8,bd 9]) (mTup [bp .Add (bp .Mult (B 8) (B 5)) (B 11),D (.bool S)])]) (aH [eS (cQ (bJ (aW T .Eq (B 10) (D (.str [95])))) (cQ (bJ (B 9)) (M.ret S))) (aH [sAsg (bd 9) (D (.bool I))]) (aH [eS (bJ (B 2)) (aH [bR (D .none)]) (aH [KF])])])])
def Rb:Cd:=λT G=>[bR (fD (bJ (B 4)) (rp (B 8)) (B 8))]
def Ry:Cd:=λT G=>eS (cQ (bJ (B 2)) (cQ (vG (bJ (B 9))) (M.ret S))) (aH [bR (D .none)]) (aH [])::Rb T G
def Jn:Cd:=λT G=>uD (bd 10) (iU T (B 3)) (q7 T G)::Ry T G
def Qk:Cd:=λT G=>sAsg (fg T [bd 8,bd 9]) (mTup [D (.int 0),D (.bool I)])::Jn T G
def Sm:Cd:=λT G=>eS (bJ (aW T .Eq (B 5) (D (.int 0)))) (aH [sAsg (bd 5) (fD (cQ (bJ (aW T .Eq (fU T (B 3) (D .none) (D (.int 1))) (D (.str [48])))) (cQ (bJ (aW T .Gt (aN T G (.bi "len") [B 3] []) (D (.int 1)))) (M.ret S))) (D (.int 8)) (D (.int 10)))]) (aH [])::Qk T G
def RX:Cd:=λT G=>uD (fg T [bd 6,bd 7]) (iU T (D (.sref 363))) (BH T G)::Sm T G
def RW:Cd:=λT G=>sAsg (bd 5) (B 1)::RX T G
def Rq:Cd:=λT G=>eS (bJ (lm I (fU T (B 3) (D .none) (D (.int 1))) [D (.str [43]),D (.str [45])])) (aH [sAsg (bd 3) (fU T (B 3) (D (.int 1)) (D .none))]) (aH [])::RW T G
def Qq:Cd:=λT G=>sAsg (bd 4) (aW T .Eq (fU T (B 3) (D .none) (D (.int 1))) (D (.str [45])))::Rq T G
def QP:Cd:=λT G=>sAsg (bd 3) (fD (bJ (B 2)) (bk T G (B 0) 31 (am "strip") [(D (.str [32,9,10,11,12,13,0]))]) (bk T G (B 0) 32 (am "lstrip") [(D (.str [32,9,10,11,12,13,0]))]))::Qq T G
def Oz(T:aT)(G:cI):M Fl:=aH (QP T G)
def G5:Cd:=λT G=>[bR (bk T G (B 0) 29 (am "fail") [(D (.str [65,114,103,117,109,101,110,116,69,114,114,111,114])),(yO [(D (.str [105,110,118,97,108,105,100,32,118,97,108,117,101,32,102,111,114,32,73,110,116,101,103,101,114,40,41,58,32])),aN T G (.sref 338) [B 1] []])])]
def IR:Cd:=λT G=>eS (bJ (aW T .IsNot (B 2) (D .none))) (aH [bR (B 2)]) (aH [])::(G5 T G)
def Jm:Cd:=λT G=>sAsg (bd 2) (aN T G (.sref 386) [bT T (B 1) 7,D (.int 0),D (.bool S)] [])::(IR T G)
def O1:Cd:=λT G=>[bR (bk T G (B 0) 29 (am "fail") [(D (.str [84,121,112,101,69,114,114,111,114])),(yO [(D (.str [99,97,110,39,116,32,99,111,110,118,101,114,116,32])),(aN T G (.sref 345) [B 0,B 1] []),(D (.str [32,105,110,116,111,32,73,110,116,101,103,101,114]))])])]
def RI:Cd:=λT G=>eS (bJ (jy (B 1) [.sref 62])) (aH (Jm T G)) (aH [])::O1 T G
def Td:Cd:=λT G=>eS (bJ (aN T G (.sref 237) [B 1] [])) (aH [bR (B 1)]) (aH [])::RI T G
def WK(T:aT)(G:cI):M Fl:=aH (Td T G)
def SM:Cd:=λT G=>[bR (fD (bJ (jy (B 0) [.ty "str"])) (B 0) (aN T G (.sref 338) [B 0] []))]
def Q2:Cd:=λT G=>eS (bJ (aW T .Is (B 0) (D .none))) (aH [bR (D (.str []))]) (aH [])::SM T G
def Rm:Cd:=λT G=>eS (bJ (jy (B 0) [.sref 62])) (aH [bR (bT T (B 0) 7)]) (aH [])::Q2 T G
def Wg(T:aT)(G:cI):M Fl:=aH (Rm T G)
def Q6:Cd:=λT G=>[sAsg (cf T (B 0) 37) (D .none)]
def Rc:Cd:=λT G=>sAsg (cf T (B 0) 36) (D (.int 0))::Q6 T G
def OI:Cd:=λT G=>sAsg (cf T (B 0) 35) (D (.str []))::Rc T G
def U8(T:aT)(G:cI):M Fl:=aH (OI T G)
def Qn:Cd:=λT G=>[bR (fD (bJ (aW T .In (D (.str [45])) (bT T (B 0) 35))) (bp .Add (B 1) (B 2)) (bp .Add (B 2) (B 1)))]
def Oj:Cd:=λT G=>sAsg (bd 2) (bp .Mult (D (.str [32])) (bp .Sub (bT T (B 0) 36) (aN T G (.bi "len") [B 1] [])))::Qn T G
def Xa(T:aT)(G:cI):M Fl:=aH (Oj T G)
def OR:Cd:=λT G=>[bR (bk T G (B 0) 38 (am "padded") [bp .Add (B 4) (fD (bJ (aW T .Eq (B 2) (D (.str [88])))) (bk T G (B 3) 39 (am "upper") []) (B 3))])]
def Tm:Cd:=λT G=>eS (cQ (bJ (aW T .In (D (.str [48])) (bT T (B 0) 35))) (cQ (bJ (aW T .NotIn (D (.str [45])) (bT T (B 0) 35))) (cQ (bJ (aW T .Is (bT T (B 0) 37) (D .none))) (M.ret S)))) (aH [sAsg (bd 3) (bp .Add (bp .Mult (D (.str [48])) (bp .Sub (bp .Sub (bT T (B 0) 36) (aN T G (.bi "len") [B 4] [])) (aN T G (.bi "len") [B 3] []))) (B 3))]) (aH [])::OR T G
def To:Cd:=λT G=>eS (cQ (bJ (aW T .In (D (.str [35])) (bT T (B 0) 35))) (cQ (bJ (aW T .In (B 2) (D (.str [120,88,98,66,111])))) (cQ (bJ (aW T .NotEq (B 1) (D (.int 0)))) (M.ret S)))) (aH [z7 4 .Add (fD (bJ (aW T .Eq (B 2) (D (.str [111])))) (D (.str [48])) (bp .Add (D (.str [48])) (B 2)))]) (aH [])::Tm T G
def QS:Cd:=λT G=>sAsg (bd 4) (fD (bJ (aW T .Lt (B 1) (D (.int 0)))) (D (.str [45])) (fD (bJ (aW T .In (D (.str [43])) (bT T (B 0) 35))) (D (.str [43])) (fD (bJ (aW T .In (D (.str [32])) (bT T (B 0) 35))) (D (.str [32])) (D (.str [])))))::To T G
def QL:Cd:=λT G=>eS (bJ (aW T .IsNot (bT T (B 0) 37) (D .none))) (aH [sAsg (bd 3) (bp .Add (bp .Mult (D (.str [48])) (bp .Sub (bT T (B 0) 37) (aN T G (.bi "len") [B 3] []))) (B 3))]) (aH [])::QS T G
def Tr:Cd:=λT G=>sAsg (bd 3) (aN T G (.sref 359) [aN T G (.bi "abs") [B 1] [],eB T (D (.sref 364)) (B 2)] [])::QL T G
def VW(T:aT)(G:cI):M Fl:=aH (Tr T G)
def RY:Cd:=λT G=>[sAsg (cf T (B 0) 43) (D (.int 0))]
def Tc:Cd:=λT G=>sAsg (cf T (B 0) 42) (D (.int 0))::RY T G
def Oi:Cd:=λT G=>sAsg (cf T (B 0) 41) (B 3)::Tc T G
def OU:Cd:=λT G=>sAsg (cf T (B 0) 7) (B 2)::Oi T G
def QE:Cd:=λT G=>sAsg (cf T (B 0) 40) (B 1)::OU T G
def TR(T:aT)(G:cI):M Fl:=aH (QE T G)
def OY:Cd:=λT G=>[bR (eB T (bT T (B 0) 41) (bp .Sub (bT T (B 0) 43) (D (.int 1))))]
def Ss:Cd:=λT G=>tT T (B 0) 43 .Add (D (.int 1))::OY T G
def Q7:Cd:=λT G=>eS (bJ (aW T .GtE (bT T (B 0) 43) (aN T G (.bi "len") [bT T (B 0) 41] []))) (aH [bR (bk T G (bT T (B 0) 40) 29 (am "fail") [(D (.str [65,114,103,117,109,101,110,116,69,114,114,111,114])),(D (.str [116,111,111,32,102,101,119,32,97,114,103,117,109,101,110,116,115]))])]) (aH [])::Ss T G
def Vv(T:aT)(G:cI):M Fl:=aH (Q7 T G)
def Tl:Cd:=λT G=>[bR (eB T (bT T (B 0) 7) (bp .Sub (bT T (B 0) 42) (D (.int 1))))]
def SS:Cd:=λT G=>tT T (B 0) 42 .Add (D (.int 1))::Tl T G
def Ov:Cd:=λT G=>eS (bJ (aW T .GtE (bT T (B 0) 42) (aN T G (.bi "len") [bT T (B 0) 7] []))) (aH [bR (bk T G (bT T (B 0) 40) 29 (am "fail") [(D (.str [65,114,103,117,109,101,110,116,69,114,114,111,114])),(D (.str [105,110,99,111,109,112,108,101,116,101,32,102,111,114,109,97,116,32,115,112,101,99,105,102,105,101,114,59,32,117,115,101,32,37,37,32,40,100,111,117,98,108,101,32,37,41,32,105,110,115,116,101,97,100]))])]) (aH [])::SS T G
def VF(T:aT)(G:cI):M Fl:=aH (Ov T G)
def Im:Cd:=λT G=>[bR (mTup [B 2,bk T G (B 0) 45 (am "letter") []])]
def FM:Cd:=λT G=>eS (bJ (aW T .Gt (aN T G (.bi "abs") [B 2] []) (D (.int 20000)))) (aH [bR (bk T G (bT T (B 0) 40) 29 (am "fail") [(D (.str [65,114,103,117,109,101,110,116,69,114,114,111,114])),(D (.str [119,105,100,116,104,32,116,111,111,32,98,105,103]))])]) (aH [])::(Im T G)
def Hf:Cd:=λT G=>sAsg (bd 2) (aN T G (.sref 352) [bT T (B 0) 40,bk T G (B 0) 44 (am "value") []] [])::(FM T G)
def GK:Cd:=λT G=>[sAsg (bd 3) (bk T G (B 0) 45 (am "letter") [])]
def Gu:Cd:=λT G=>eS (bJ (aW T .Gt (B 2) (D (.int 20000)))) (aH [bR (bk T G (bT T (B 0) 40) 29 (am "fail") [(D (.str [65,114,103,117,109,101,110,116,69,114,114,111,114])),(D (.str [119,105,100,116,104,32,116,111,111,32,98,105,103]))])]) (aH [])::(GK T G)
def Jg:Cd:=λT G=>sAsg (bd 2) (bp .Add (bp .Mult (B 2) (D (.int 10))) (aN T G (.ty "int") [B 3] []))::(Gu T G)
def IC(T:aT)(G:cI):M Bool:=(bJ (aW T .In (B 3) (D (.str [48,49,50,51,52,53,54,55,56,57]))))
def xj(T:aT)(G:cI):M Fl:=(aH (Jg T G))
def Jo:Cd:=λT G=>[bR (mTup [B 2,B 3])]
def G0:Cd:=λT G=>jv (IC T G) (xj T G)::Jo T G
def Pn:Cd:=λT G=>sAsg (fg T [bd 2,bd 3]) (mTup [D (.int 0),B 1])::G0 T G
def Pv:Cd:=λT G=>eS (bJ (aW T .Eq (B 1) (D (.str [42])))) (aH (Hf T G)) (aH [])::Pn T G
def S8(T:aT)(G:cI):M Fl:=aH (Pv T G)
def S2:Cd:=λT G=>[bR (fD (bJ (pf T .LtE .Lt (D (.int 0)) (B 1) (D (.int 1114112)))) (aN T G (.bi "chr") [B 1] []) (bk T G (bT T (B 0) 40) 29 (am "fail") [(D (.str [65,114,103,117,109,101,110,116,69,114,114,111,114])),(D (.str [105,110,118,97,108,105,100,32,99,104,97,114,97,99,116,101,114]))]))]
def R6:Cd:=λT G=>eS (vG (bJ (aN T G (.sref 237) [B 1] []))) (aH [bR (fU T (aN T G (.sref 371) [bT T (B 0) 40,B 1] []) (D .none) (D (.int 1)))]) (aH [])::S2 T G
def Wv(T:aT)(G:cI):M Fl:=aH (R6 T G)
def HG(T:aT)(G:cI):M Bool:=(bJ (aW T .In (B 2) (D (.str [45,43,32,48,35]))))
def wX(T:aT)(G:cI):M Fl:=(aH [tT T (B 1) 35 .Add (B 2),sAsg (bd 2) (bk T G (B 0) 45 (am "letter") [])])
def DD:Cd:=λT G=>[bR (bk T G (B 1) 38 (am "padded") [fD (bJ (aW T .Is (bT T (B 1) 37) (D .none))) (B 4) (fU T (B 4) (D .none) (bT T (B 1) 37))])]
def QM:Cd:=λT G=>sAsg (bd 4) (fD (bJ (aW T .Eq (B 2) (D (.str [115])))) (aN T G (.sref 400) [bk T G (B 0) 44 (am "value") []] []) (aN T G (.sref 338) [bk T G (B 0) 44 (am "value") []] []))::DD T G
def OH:Cd:=λT G=>eS (bJ (aW T .NotIn (B 2) (D (.str [115,112])))) (aH [bR (bk T G (bT T (B 0) 40) 29 (am "fail") [(D (.str [65,114,103,117,109,101,110,116,69,114,114,111,114])),(yO [(D (.str [109,97,108,102,111,114,109,101,100,32,102,111,114,109,97,116,32,115,116,114,105,110,103,32,45,32,37])),B 2])])]) (aH [])::QM T G
def SO:Cd:=λT G=>eS (bJ (aW T .Eq (B 2) (D (.str [99])))) (aH [bR (bk T G (B 1) 38 (am "padded") [bk T G (B 0) 47 (am "sign") [bk T G (B 0) 44 (am "value") []]])]) (aH [])::OH T G
def PQ:Cd:=λT G=>eS (bJ (aW T .In (B 2) (D (.sref 364)))) (aH [bR (bk T G (B 1) 1 (am "number") [(aN T G (.sref 393) [bT T (B 0) 40,bk T G (B 0) 44 (am "value") []] []),B 2])]) (aH [])::SO T G
def kh:Cd:=λT G=>eS (bJ (aW T .In (B 2) (D (.str [37,10,0])))) (aH [bR (fD (bJ (aW T .Eq (B 2) (D (.str [37])))) (D (.str [37])) (bp .Add (D (.str [37])) (B 2)))]) (aH [])::PQ T G
def pH:Cd:=λT G=>eS (bJ (aW T .Eq (B 2) (D (.str [46])))) (aH [sAsg (fg T [bd 3,bd 2]) (bk T G (B 0) 46 (am "count") [bk T G (B 0) 45 (am "letter") []]),sAsg (cf T (B 1) 37) (fD (bJ (aW T .Lt (B 3) (D (.int 0)))) (D .none) (B 3))]) (aH [])::kh T G
def BA:Cd:=λT G=>eS (bJ (aW T .Lt (bT T (B 1) 36) (D (.int 0)))) (aH [sAsg (fg T [cf T (B 1) 35,cf T (B 1) 36]) (mTup [bp .Add (bT T (B 1) 35) (D (.str [45])),rp (bT T (B 1) 36)])]) (aH [])::pH T G
def uo:Cd:=λT G=>sAsg (fg T [cf T (B 1) 36,bd 2]) (bk T G (B 0) 46 (am "count") [B 2])::BA T G
def Bt:Cd:=λT G=>jv (HG T G) (wX T G)::uo T G
def SX:Cd:=λT G=>sAsg (fg T [bd 1,bd 2]) (mTup [aN T G (.sref 431) [] [],bk T G (B 0) 45 (am "letter") []])::Bt T G
def sV(T:aT)(G:cI):M Fl:=aH (SX T G)
def AI(T:aT)(G:cI):M Bool:=(bJ (aW T .Lt (bT T (B 0) 42) (aN T G (.bi "len") [bT T (B 0) 7] [])))
def rd(T:aT)(G:cI):M Fl:=(aH [sAsg (bd 2) (bk T G (B 0) 45 (am "letter") []),iT (bk T G (B 1) 30 (am "append") [fD (bJ (aW T .Eq (B 2) (D (.str [37])))) (bk T G (B 0) 48 (am "piece") []) (B 2)])])
def RR:Cd:=λT G=>[bR (aN T G (.sref 378) [bT T (B 0) 40,bk T G (D (.str [])) 24 (am "join") [B 1]] [])]
def PP:Cd:=λT G=>jv (AI T G) (rd T G)::RR T G
def Sd:Cd:=λT G=>sAsg (bd 1) (dk [])::PP T G
def Xc(T:aT)(G:cI):M Fl:=aH (Sd T G)
def Ro:Cd:=λT G=>[bR (bk T G (aN T G (.sref 494) [B 0,B 1,B 2] []) 49 (am "whole") [])]
def VC(T:aT)(G:cI):M Fl:=aH (Ro T G)
def OX:Cd:=λT G=>[sAsg (cf T (B 0) 50) (B 1)]
def Pb:Cd:=λT G=>iT (bk T G (D (.ty "ValueError")) 0 (am "__init__") [B 0,B 1])::OX T G
def V0(T:aT)(G:cI):M Fl:=aH (Pb T G)
def Og:Cd:=λT G=>[sAsg (cf T (B 0) 51) (B 1)]
def SI:Cd:=λT G=>iT (bk T G (D (.sref 523)) 0 (am "__init__") [B 0,(D (.str [97,32,82,117,98,121,32,101,114,114,111,114]))])::Og T G
def Uu(T:aT)(G:cI):M Fl:=aH (SI T G)
def Gz(T:aT)(G:cI):M Fl:=(aH [iT (bk T G (B 0) 67 (am "give_own") [B 5])])
def Ks:Cd:=λT G=>[uD (bd 5) (iU T (aN T G (.ty "list") [bT T (B 0) 59] [])) (Gz T G)]
def Nb:Cd:=λT G=>sAsg (cf T (B 0) 64) (D (.bool S))::Ks T G
def Mp:Cd:=λT G=>sAsg (cf T (B 0) 65) (aN T G (.sref 40) [bk T G (B 0) 1 (am "number") [],(bk T G (B 0) 66 (am "builtin") [(D (.str [79,98,106,101,99,116]))])] [])::Nb T G
def J8:Cd:=λT G=>sAsg (cf T (B 0) 64) (D (.bool I))::Mp T G
def LH:Cd:=λT G=>sAsg (cf T (B 0) 63) (dk [])::J8 T G
def L5:Cd:=λT G=>sAsg (cf T (B 0) 62) jw::LH T G
def Mg:Cd:=λT G=>sAsg (cf T (B 0) 61) (D (.int 0))::L5 T G
def S6:Cd:=λT G=>sAsg (cf T (B 0) 60) (D (.int 0))::Mg T G
def Qg:Cd:=λT G=>sAsg (cf T (B 0) 59) jw::S6 T G
def Sp:Cd:=λT G=>sAsg (cf T (B 0) 58) jw::Qg T G
def Ti:Cd:=λT G=>sAsg (cf T (B 0) 57) (D (.int 8))::Sp T G
def RZ:Cd:=λT G=>sAsg (cf T (B 0) 56) (D (.int 0))::Ti T G
def Ol:Cd:=λT G=>sAsg (cf T (B 0) 55) (D (.int 0))::RZ T G
def Su:Cd:=λT G=>sAsg (cf T (B 0) 37) (B 4)::Ol T G
def PK:Cd:=λT G=>sAsg (cf T (B 0) 54) (B 3)::Su T G
def PA:Cd:=λT G=>sAsg (cf T (B 0) 53) (fD (bJ (aW T .Is (B 2) (D .none))) jw (B 2))::PK T G
def ST:Cd:=λT G=>sAsg (cf T (B 0) 52) (B 1)::PA T G
def Wp(T:aT)(G:cI):M Fl:=aH (ST T G)
def Q5:Cd:=λT G=>[bR (bT T (B 0) 56)]
def P5:Cd:=λT G=>tT T (B 0) 56 .Add (D (.int 1))::Q5 T G
def Uq(T:aT)(G:cI):M Fl:=aH (P5 T G)
def Qp:Cd:=λT G=>[bR (fD (bJ (aW T .Is (B 2) (D .none))) (bk T G (B 0) 69 (am "make_builtin") [B 1]) (B 2))]
def Ot:Cd:=λT G=>sAsg (bd 2) (bk T G (bT T (B 0) 59) 68 (am "get") [B 1])::Qp T G
def V9(T:aT)(G:cI):M Fl:=aH (Ot T G)
def RU:Cd:=λT G=>[bR (B 3)]
def TA:Cd:=λT G=>eS (bJ (bT T (B 0) 64)) (aH [iT (bk T G (B 0) 67 (am "give_own") [B 1])]) (aH [])::RU T G
def Q4:Cd:=λT G=>sAsg (cf T (B 3) 17) (kT (bk T G (B 0) 66 (am "builtin") [B 5]) 5 (iU T (bk T G (D (.sref 564)) 68 (am "get") [B 1,mTup []])) .none)::TA T G
def Ou:Cd:=λT G=>sAsg (cf T (B 3) 2) (bk T G (B 0) 66 (am "builtin") [(fD (bJ (B 2)) (D (.str [67,108,97,115,115])) (D (.str [77,111,100,117,108,101])))])::Q4 T G
def PZ:Cd:=λT G=>sAsg (cf T (B 3) 13) (fD (bJ (aW T .Is (B 4) (D .none))) (D .none) (bk T G (B 0) 66 (am "builtin") [B 4]))::Ou T G
def Sr:Cd:=λT G=>sAsg (bd 4) (eB T (D (.sref 561)) (B 1))::PZ T G
def Pm:Cd:=λT G=>sAsg (cf T (B 3) 20) (B 1)::Sr T G
def QF:Cd:=λT G=>sAsg (B6 (bT T (B 0) 59) (B 1)) (B 3)::Pm T G
def RC:Cd:=λT G=>sAsg (bd 3) (aN T G (.sref 228) [bk T G (B 0) 1 (am "number") [],D .none,B 1,B 2] [])::QF T G
def Om:Cd:=λT G=>sAsg (bd 2) (aW T .NotIn (B 1) (D (.sref 560)))::RC T G
def Ri(T:aT)(G:cI):M Fl:=aH (Om T G)
def Ty:Cd:=λT G=>[eS (pk (bJ (aW T .In (bp .Add (B 1) (D (.str [46]))) (bT T (B 0) 52))) (pk (bJ (aW T .In (bp .Add (B 1) (D (.str [46]))) (bT T (B 0) 53))) (M.ret I))) (aH [iT (aN T G (.sref 559) [B 0,eB T (bT T (B 0) 59) (B 1)] [])]) (aH [])]
def Ud(T:aT)(G:cI):M Fl:=aH (Ty T G)
def Rh:Cd:=λT G=>[bR (aN T G (.sref 62) [bk T G (B 0) 1 (am "number") [],(bk T G (B 0) 66 (am "builtin") [(D (.str [83,116,114,105,110,103]))]),B 1] [])]
def Ut(T:aT)(G:cI):M Fl:=aH (Rh T G)
def O8:Cd:=λT G=>[bR (aN T G (.sref 82) [bk T G (B 0) 1 (am "number") [],(bk T G (B 0) 66 (am "builtin") [(D (.str [65,114,114,97,121]))]),aN T G (.ty "list") [B 1] []] [])]
def V8(T:aT)(G:cI):M Fl:=aH (O8 T G)
def Rl:Cd:=λT G=>[bR (aN T G (.sref 181) [bk T G (B 0) 1 (am "number") [],bk T G (B 0) 66 (am "builtin") [B 1],bk T G (B 0) 7 (am "text") [B 2]] [])]
def UZ(T:aT)(G:cI):M Fl:=aH (Rl T G)
def Qz:Cd:=λT G=>[wV T (aN T G (.sref 543) [(bk T G (B 0) 70 (am "error") [B 1,B 2])] [])]
def VH(T:aT)(G:cI):M Fl:=aH (Qz T G)
def A7(T:aT)(G:cI):M Fl:=(aH [sAsg (fg T [bd 1,bd 3]) (mTup [bp .Mod (bp .Add (bp .Add (bp .Mult (B 1) (D (.int 48271))) (bp .Mult (B 4) (D (.int 69621)))) (D (.int 41))) (D (.int 2147483629)),Az (B 3) (aW T .Eq (B 4) (D (.int 0)))]),eS (cQ (bJ (aW T .Eq (B 2) (D (.int 0)))) (cQ (bJ (aW T .GtE (aN T G (.bi "abs") [B 4] []) (bp .Pow (D (.int 10)) (D (.int 18))))) (M.ret S))) (aH [sAsg (bd 2) (aN T G (.bi "abs") [B 4] [])]) (aH [])])
def QN:Cd:=λT G=>[bR (dk [B 2,B 1,D (.int 0),B 3])]
def SG:Cd:=λT G=>uD (bd 4) (iU T (fU T (B 0) (D .none) (D (.int 24)))) (A7 T G)::QN T G
def Qs:Cd:=λT G=>sAsg (fg T [bd 1,bd 2,bd 3]) (mTup [D (.int 47),D (.int 0),D (.bool S)])::SG T G
def Ui(T:aT)(G:cI):M Fl:=aH (Qs T G)
def Fi:Cd:=λT G=>[bR (B 2)]
def Gq:Cd:=λT G=>sAsg (B6 (B 0) (D (.int 0))) (bp .FloorDiv (eB T (B 0) (D (.int 0))) (B 1))::(Fi T G)
def H0:Cd:=λT G=>sAsg (bd 2) (bp .Mod (eB T (B 0) (D (.int 0))) (B 1))::(Gq T G)
def S0:Cd:=λT G=>[bR (bp .Mod (bp .FloorDiv (bp .Mod (bp .Pow (bp .Add (bp .Mult (B 3) (D (.int 48271))) (bp .Mult (D (.int 7879)) (eB T (B 0) (D (.int 2))))) (D (.int 3))) (D (.int 2147483587))) (D (.int 64))) (B 1))]
def Ts:Cd:=λT G=>sAsg (bd 3) (bp .Mod (bp .Pow (bp .Add (bp .Add (eB T (B 0) (D (.int 1))) (bp .Mult (D (.int 15485849)) (eB T (B 0) (D (.int 2))))) (D (.int 43))) (D (.int 5))) (D (.int 2147483647)))::S0 T G
def QW:Cd:=λT G=>sAsg (B6 (B 0) (D (.int 2))) (bp .Add (eB T (B 0) (D (.int 2))) (D (.int 1)))::Ts T G
def RQ:Cd:=λT G=>eS (bJ (aW T .Gt (eB T (B 0) (D (.int 0))) (D (.int 0)))) (aH (H0 T G)) (aH [])::QW T G
def Wn(T:aT)(G:cI):M Fl:=aH (RQ T G)
def A6(T:aT)(G:cI):M Bool:=(bJ (aW T .LtE (bp .Mult (B 2) (B 1)) (B 0)))
def HJ(T:aT)(G:cI):M Fl:=(aH [sAsg (bd 2) (bp .Mult (B 2) (B 1))])
def Bc(T:aT)(G:cI):M Bool:=(bJ (aW T .Gt (B 2) (D (.int 0))))
def Al(T:aT)(G:cI):M Fl:=(aH [sAsg (bd 3) (bp .Add (B 3) (eB T (D (.str [48,49,50,51,52,53,54,55,56,57,97,98,99,100,101,102,103,104,105,106,107,108,109,110,111,112,113,114,115,116,117,118,119,120,121,122])) (bp .Mod (bp .FloorDiv (B 0) (B 2)) (B 1)))),sAsg (bd 2) (bp .FloorDiv (B 2) (B 1))])
def OL:Cd:=λT G=>[bR (B 3)]
def OS:Cd:=λT G=>jv (Bc T G) (Al T G)::OL T G
def Rs:Cd:=λT G=>jv (A6 T G) (HJ T G)::OS T G
def Qc:Cd:=λT G=>sAsg (fg T [bd 2,bd 3]) (mTup [D (.int 1),D (.str [])])::Rs T G
def U1(T:aT)(G:cI):M Fl:=aH (Qc T G)
def Iz(T:aT)(G:cI):M Bool:=(bJ (aW T .Lt (aN T G (.bi "len") [B 0] []) (B 1)))
def JP(T:aT)(G:cI):M Fl:=(aH [sAsg (bd 0) (fD (bJ (aW T .In (D (.str [45])) (B 2))) (bp .Add (B 0) (D (.str [32]))) (bp .Add (D (.str [32])) (B 0)))])
def OK:Cd:=λT G=>[bR (B 0)]
def Ql:Cd:=λT G=>jv (Iz T G) (JP T G)::OK T G
def U0(T:aT)(G:cI):M Fl:=aH (Ql T G)
def Ho(T:aT)(G:cI):M Bool:=(cQ (bJ (aW T .IsNot (B 4) (D .none))) (cQ (bJ (aW T .Lt (aN T G (.bi "len") [B 6] []) (B 4))) (M.ret S)))
def HF(T:aT)(G:cI):M Fl:=(aH [sAsg (bd 6) (bp .Add (D (.str [48])) (B 6))])
def Hp(T:aT)(G:cI):M Bool:=(cQ (bJ (aW T .In (D (.str [48])) (B 2))) (cQ (bJ (aW T .NotIn (D (.str [45])) (B 2))) (cQ (bJ (aW T .Is (B 4) (D .none))) (cQ (bJ (aW T .Lt (aN T G (.bi "len") [bp .Add (B 7) (B 6)] []) (B 3))) (M.ret S)))))
def P8(T:aT)(G:cI):M Fl:=(aH [sAsg (bd 6) (bp .Add (D (.str [48])) (B 6))])
def OT:Cd:=λT G=>[bR (aN T G (.sref 859) [bp .Add (B 7) (B 6),B 3,B 2] [])]
def Io:Cd:=λT G=>jv (Hp T G) (P8 T G)::OT T G
def S5:Cd:=λT G=>eS (cQ (bJ (aW T .In (D (.str [35])) (B 2))) (cQ (bJ (aW T .NotEq (B 0) (D (.int 0)))) (M.ret S))) (aH [sAsg (bd 7) (bp .Add (B 7) (qn [((.str [120]),(.str [48,120])),((.str [88]),(.str [48,88])),((.str [111]),(.str [48])),((.str [98]),(.str [48,98])),((.str [66]),(.str [48,66]))] (B 1) (D (.str []))))]) (aH [])::Io T G
def Tu:Cd:=λT G=>sAsg (bd 7) (fD (bJ (aW T .Lt (B 0) (D (.int 0)))) (D (.str [45])) (fD (bJ (aW T .In (D (.str [43])) (B 2))) (D (.str [43])) (fD (bJ (aW T .In (D (.str [32])) (B 2))) (D (.str [32])) (D (.str [])))))::S5 T G
def PC:Cd:=λT G=>jv (Ho T G) (HF T G)::Tu T G
def Sk:Cd:=λT G=>sAsg (bd 6) (fD (bJ (aW T .Eq (B 1) (D (.str [88])))) (bk T G (B 6) 39 (am "upper") []) (B 6))::PC T G
def QX:Cd:=λT G=>sAsg (bd 6) (aN T G (.sref 852) [aN T G (.bi "abs") [B 0] [],B 5] [])::Sk T G
def Si:Cd:=λT G=>sAsg (bd 5) (qn [((.str [120]),(.int 16)),((.str [88]),(.int 16)),((.str [111]),(.int 8)),((.str [98]),(.int 2)),((.str [66]),(.int 2))] (B 1) (D (.int 10)))::QX T G
def WZ(T:aT)(G:cI):M Fl:=aH (Si T G)
def Ff:Cd:=λT G=>[bR (mTup [(bk T G (B 1) 7 (am "text") [(bp .Add (bp .Add (fD (bJ (aW T .Lt (B 3) (D (.int 0)))) (D (.str [32,45])) (D (.str []))) (B 4)) (aN T G (.sref 852) [aN T G (.bi "abs") [B 3] [],B 5] []))]),B 3])]
def Gr:Cd:=λT G=>sAsg (fg T [bd 4,bd 5]) (eB T (dk [(mTup [D (.str []),D (.int 10)]),(mTup [(D (.str [48,120])),D (.int 16)]),(mTup [(D (.str [48,98])),D (.int 2)]),(mTup [(D (.str [48,111])),D (.int 8)])]) (aN T G (.sref 845) [B 0,D (.int 4)] []))::(Ff T G)
def JC:Cd:=λT G=>eS (bJ (aW T .Gt (aN T G (.sref 845) [B 0,D (.int 4)] []) (D (.int 0)))) (aH [bR (mTup [B 3,B 3])]) (aH [])::(Gr T G)
def zK:Cd:=λT G=>sAsg (bd 3) (bp .Sub (aN T G (.sref 845) [B 0,D (.int 601)] []) (D (.int 300)))::(JC T G)
def Pg:Cd:=λT G=>[bR (mTup [B 7,fD (bJ (aW T .Eq (B 2) (D (.str [115])))) (B 8) (B 9)])]
def Qe:Cd:=λT G=>sAsg (fg T [bd 7,bd 8,bd 9]) (eB T (B 6) (aN T G (.sref 845) [B 0,D (.int 6)] []))::Pg T G
def Th:Cd:=λT G=>sAsg (bd 6) (bp .Add (B 6) (dk [(mTup [D (.bool S),(D (.str [116,114,117,101])),(D (.str [116,114,117,101]))]),(mTup [(bk T G (B 1) 71 (am "list_of") [(dk [D (.int 1),bk T G (B 1) 7 (am "text") [D (.str [113])]])]),(D (.str [91,49,44,32,34,113,34,93])),(D (.str [91,49,44,32,34,113,34,93]))])]))::Qe T G
def RT:Cd:=λT G=>sAsg (bd 6) (dk [(mTup [(bk T G (B 1) 7 (am "text") [(D (.str [97,98,32,99]))]),(D (.str [97,98,32,99])),(D (.str [34,97,98,32,99,34]))]),(mTup [rp (D (.int 12)),(D (.str [45,49,50])),(D (.str [45,49,50]))]),(mTup [(D (.str [115,121,109])),(D (.str [115,121,109])),(D (.str [58,115,121,109]))]),(mTup [D .none,D (.str []),(D (.str [110,105,108]))])])::Th T G
def Qu:Cd:=λT G=>eS (bJ (aW T .Eq (B 2) (D (.str [99])))) (aH [bR (fD (bJ (aW T .Eq (aN T G (.sref 845) [B 0,D (.int 2)] []) (D (.int 0)))) (eB T (kT (mTup [bp .Add (D (.int 97)) (B 10),aN T G (.bi "chr") [bp .Add (D (.int 97)) (B 10)] []]) 10 (iU T (dk [(aN T G (.sref 845) [B 0,D (.int 26)] [])])) .none) (D (.int 0))) (mTup [(bk T G (B 1) 7 (am "text") [(D (.str [122,101,100]))]),D (.str [122])]))]) (aH [])::RT T G
def SY:Cd:=λT G=>eS (bJ (aW T .In (B 2) (D (.str [100,105,117,120,88,111,98,66])))) (aH (zK T G)) (aH [])::Qu T G
def Vn(T:aT)(G:cI):M Fl:=aH (SY T G)
def zz:Cd:=λT G=>[eS (bJ (aW T .Eq (aN T G (.sref 845) [B 0,D (.int 4)] []) (D (.int 0)))) (aH [sAsg (bd 6) (bp .Sub (B 6) (D (.int 5))),sAsg (fg T [bd 4,bd 5]) (mTup [dk [B 6],D (.str [42])])]) (aH [])]
def I5:Cd:=λT G=>sAsg (bd 5) (aN T G (.ty "str") [B 6] [])::(zz T G)
def tZ:Cd:=λT G=>sAsg (fg T [bd 6,bd 5]) (mTup [(bp .Add (D (.int 1)) (aN T G (.sref 845) [B 0,D (.int 9)] [])),D (.str [])])::(I5 T G)
def zx:Cd:=λT G=>[eS (bJ (aW T .Eq (aN T G (.sref 845) [B 0,D (.int 4)] []) (D (.int 0)))) (aH [sAsg (bd 9) (eB T (dk [B 7,bp .Sub (B 7) (D (.int 5))]) (aN T G (.sref 845) [B 0,D (.int 2)] [])),sAsg (fg T [bd 4,bd 8,bd 7]) (mTup [bp .Add (B 4) (dk [B 9]),(D (.str [46,42])),fD (bJ (aW T .GtE (B 9) (D (.int 0)))) (B 9) (D .none)])]) (aH [])]
def HW:Cd:=λT G=>sAsg (bd 8) (bp .Add (D (.str [46])) (aN T G (.ty "str") [B 7] []))::(zx T G)
def tO:Cd:=λT G=>sAsg (bd 7) (aN T G (.sref 845) [B 0,D (.int 5)] [])::(HW T G)
def CT:Cd:=λT G=>[bR (mTup [B 10,bp .Add (B 4) (dk [B 11]),(aN T G (.sref 859) [B 12,B 6,B 2] [])])]
def Kh:Cd:=λT G=>eS (cQ (bJ (aW T .In (B 3) (D (.str [115,112])))) (cQ (bJ (aW T .IsNot (B 7) (D .none))) (M.ret S))) (aH [sAsg (bd 12) (fU T (B 12) (D .none) (B 7))]) (aH [])::CT T G
def qe:Cd:=λT G=>eS (bJ (aW T .In (B 3) (D (.str [100,105,117,120,88,111,98,66])))) (aH [bR (mTup [B 10,bp .Add (B 4) (dk [B 11]),(aN T G (.sref 866) [B 12,B 3,B 2,B 6,B 7] [])])]) (aH [])::Kh T G
def Tt:Cd:=λT G=>sAsg (fg T [bd 11,bd 12]) (aN T G (.sref 871) [B 0,B 1,B 3] [])::qe T G
def AG:Cd:=λT G=>eS (bJ (aW T .Eq (B 3) (D (.str [37])))) (aH [bR (mTup [B 10,B 4,D (.str [37])])]) (aH [])::Tt T G
def Oh:Cd:=λT G=>sAsg (fg T [bd 2,bd 6]) (fD (bJ (aW T .Lt (B 6) (D (.int 0)))) (mTup [bp .Add (B 2) (D (.str [45])),bp .Sub (D (.int 0)) (B 6)]) (mTup [B 2,B 6]))::AG T G
def xQ:Cd:=λT G=>sAsg (bd 10) (bp .Add (bp .Add (bp .Add (bp .Add (D (.str [37])) (B 2)) (B 5)) (B 8)) (B 3))::Oh T G
def PV:Cd:=λT G=>eS (bJ (aW T .Eq (aN T G (.sref 845) [B 0,D (.int 3)] []) (D (.int 0)))) (aH (tO T G)) (aH [])::xQ T G
def uS:Cd:=λT G=>sAsg (fg T [bd 7,bd 8]) (mTup [D .none,D (.str [])])::PV T G
def xr:Cd:=λT G=>eS (bJ (aW T .Eq (aN T G (.sref 845) [B 0,D (.int 2)] []) (D (.int 0)))) (aH (tZ T G)) (aH [])::uS T G
def O6:Cd:=λT G=>sAsg (fg T [bd 4,bd 5,bd 6]) (mTup [dk [],D (.str []),D (.int 0)])::xr T G
def RL:Cd:=λT G=>sAsg (bd 3) (eB T (D (.str [100,105,117,120,88,111,98,66,115,112,99,37])) (aN T G (.sref 845) [B 0,D (.int 12)] []))::O6 T G
def Tn:Cd:=λT G=>sAsg (bd 2) (bk T G (D (.str [])) 24 (am "join") [(kT (B 13) 13 (iU T (D (.str [45,43,32,48,35]))) (Y (bJ (aW T .Eq (aN T G (.sref 845) [B 0,D (.int 3)] []) (D (.int 0))))))])::RL T G
def My(T:aT)(G:cI):M Fl:=aH (Tn T G)
def PG:Cd:=λT G=>[xD (aH [bR (aN T G (.sref 505) [B 0,B 1,B 2] [])]) 543 3 (aH [bR (dk [aN T G (.sref 285) [bT T (bT T (B 3) 51) 2] []])])]
def Vs(T:aT)(G:cI):M Fl:=aH (PG T G)
def IE:Cd:=λT G=>[sAsg (fg T [bd 2,bd 3,bd 4]) (mTup [bp .Add (bp .Add (B 2) (B 6)) (B 7),bp .Add (B 3) (B 8),(bp .Add (bp .Add (B 4) (fD (bJ (aW T .Eq (B 6) (D (.str [37,37])))) (D (.str [37])) (B 6))) (B 9))])]
def HI:Cd:=λT G=>sAsg (fg T [bd 7,bd 8,bd 9]) (aN T G (.sref 876) [B 0,B 1] [])::(IE T G)
def JU:Cd:=λT G=>sAsg (bd 6) (eB T (dk [D (.str []),D (.str [97]),(D (.str [120,32,61,32])),(D (.str [37,37])),(D (.str [37,10]))]) (aN T G (.sref 845) [B 0,D (.int 5)] []))::(HI T G)
def A4(T:aT)(G:cI):M Fl:=(aH (JU T G))
def FN:Cd:=λT G=>[bR (TZ (aW T .Eq (B 3) (dk [])) (aW T .Eq (aN T G (.sref 883) [B 1,B 2,fU T (B 3) (D .none) (rp (D (.int 1)))] []) (dk [(D (.str [65,114,103,117,109,101,110,116,69,114,114,111,114]))])))]
def Ci:Cd:=λT G=>eS (pk (bJ (aW T .NotEq (aN T G (.sref 883) [B 1,B 2,B 3] []) (B 4))) (pk (bJ (aW T .NotEq (aN T G (.sref 883) [B 1,bp .Add (B 2) (D (.str [33])),bp .Add (B 3) (dk [D (.int 7)])] []) (bp .Add (B 4) (D (.str [33]))))) (M.ret I))) (aH [bR (D (.bool I))]) (aH [])::FN T G
def P9:Cd:=λT G=>uD (bd 5) (nK (fD (bJ (eB T (B 0) (D (.int 3)))) (D (.int 2)) (bp .Add (D (.int 1)) (aN T G (.sref 845) [B 0,D (.int 4)] [])))) (A4 T G)::Ci T G
def Tv:Cd:=λT G=>sAsg (fg T [bd 2,bd 3,bd 4]) (mTup [D (.str []),dk [],D (.str [])])::P9 T G
def WS(T:aT)(G:cI):M Fl:=aH (Tv T G)
def Sq:Cd:=λT G=>[bR (aW T .Eq (aN T G (.sref 883) [B 1,B 3,B 4] []) (dk [B 5]))]
def Pu:Cd:=λT G=>sAsg (fg T [bd 3,bd 4,bd 5]) (eB T (B 2) (aN T G (.sref 845) [B 0,D (.int 14)] []))::Sq T G
def P6:Cd:=λT G=>sAsg (bd 2) (bp .Add (B 2) (dk [(mTup [(D (.str [37,99])),dk [D .none],(D (.str [84,121,112,101,69,114,114,111,114]))]),(mTup [(D (.str [37,50,48,48,48,49,100])),dk [D (.int 1)],(D (.str [65,114,103,117,109,101,110,116,69,114,114,111,114]))]),(mTup [(D (.str [37,42,100])),(dk [D .none,D (.int 1)]),(D (.str [84,121,112,101,69,114,114,111,114]))]),(mTup [(D (.str [37,46,50,48,48,48,49,100])),dk [D (.int 1)],(D (.str [65,114,103,117,109,101,110,116,69,114,114,111,114]))])]))::Pu T G
def Qb:Cd:=λT G=>sAsg (bd 2) (bp .Add (B 2) (dk [(mTup [(D (.str [37,99])),dk [rp (D (.int 1))],(D (.str [65,114,103,117,109,101,110,116,69,114,114,111,114]))]),(mTup [(D (.str [37,42,100])),(dk [D (.int 30000),D (.int 1)]),(D (.str [65,114,103,117,109,101,110,116,69,114,114,111,114]))])]))::P6 T G
def Q1:Cd:=λT G=>sAsg (bd 2) (bp .Add (B 2) (dk [(mTup [(D (.str [37,100])),dk [D .none],(D (.str [84,121,112,101,69,114,114,111,114]))]),(mTup [(D (.str [37,100])),(dk [(bk T G (B 1) 7 (am "text") [(D (.str [120,49]))])]),(D (.str [65,114,103,117,109,101,110,116,69,114,114,111,114]))]),(mTup [(D (.str [37,120])),dk [D (.bool S)],(D (.str [84,121,112,101,69,114,114,111,114]))]),(mTup [(D (.str [37,100])),dk [D (.str [115])],(D (.str [84,121,112,101,69,114,114,111,114]))])]))::Qb T G
def S9:Cd:=λT G=>sAsg (bd 2) (dk [(mTup [(D (.str [37,121])),dk [D (.int 1)],(D (.str [65,114,103,117,109,101,110,116,69,114,114,111,114]))]),(mTup [D (.str [37]),dk [D (.int 1)],(D (.str [65,114,103,117,109,101,110,116,69,114,114,111,114]))]),(mTup [(D (.str [97,37,53])),dk [D (.int 1)],(D (.str [65,114,103,117,109,101,110,116,69,114,114,111,114]))]),(mTup [(D (.str [37,45,48])),dk [],(D (.str [65,114,103,117,109,101,110,116,69,114,114,111,114]))])])::Q1 T G
def Uw(T:aT)(G:cI):M Fl:=aH (S9 T G)
def LT:Cd:=λT G=>[bR (aW T .Is (aN T G (.sref 386) [B 9,fD (pk (bJ (aW T .NotEq (fU T (B 9) (D .none) (D (.int 1))) (D (.str [48])))) (pk (bJ (aW T .Eq (B 9) (bp .Add (B 4) (D (.str [95]))))) (M.ret I))) (D (.int 10)) (D (.int 0)),D (.bool S)] []) (D .none))]
def xB:Cd:=λT G=>sAsg (bd 9) (eB T (dk [bp .Add (B 4) (D (.str [95])),bp .Add (D (.str [95])) (B 4),(bp .Add (D (.str [49,95,95])) (B 4)),(bp .Add (B 4) (D (.str [32,49]))),bp .Add (B 4) (D (.str [45])),D (.str []),D (.str [45]),D (.str [43]),(D (.str [48,120])),(bp .Add (D (.str [45,32])) (B 4)),(D (.str [48,98,50])),(D (.str [48,111,56]))]) (aN T G (.sref 845) [B 0,D (.int 12)] []))::LT T G
def L6:Cd:=λT G=>eS (cQ (bJ (aW T .Eq (B 1) (D (.int 8)))) (cQ (bJ (aW T .NotEq (aN T G (.sref 386) [bp .Add (D (.str [48])) (wb (B 4) [95] []),D (.int 0),D (.bool S)] []) (B 2))) (M.ret S))) (aH [bR (D (.bool I))]) (aH [])::xB T G
def Kb:Cd:=λT G=>eS (pk (cQ (bJ (aW T .NotEq (B 6) (D (.str [])))) (cQ (bJ (aW T .NotEq (aN T G (.sref 386) [B 7,D (.int 0)] [(72,(D (.bool S)))]) (B 8))) (M.ret S))) (pk (cQ (bJ (aW T .Eq (B 1) (D (.int 10)))) (cQ (bJ (aW T .NotEq (aN T G (.sref 386) [bp .Add (B 3) (B 4),D (.int 0),D (.bool S)] []) (B 8))) (M.ret S))) (M.ret I))) (aH [bR (D (.bool I))]) (aH [])::L6 T G
def Bi:Cd:=λT G=>eS (pk (bJ (aW T .NotEq (aN T G (.sref 386) [B 7,B 1,D (.bool S)] []) (B 8))) (pk (bJ (aW T .NotEq (aN T G (.sref 386) [B 7,B 1] []) (B 8))) (M.ret I))) (aH [bR (D (.bool I))]) (aH [])::Kb T G
def SU:Cd:=λT G=>sAsg (bd 8) (fD (bJ (aW T .Eq (B 3) (D (.str [45])))) (bp .Sub (D (.int 0)) (B 2)) (B 2))::Bi T G
def A8:Cd:=λT G=>sAsg (bd 7) (bp .Add (bp .Add (bp .Add (bp .Add (eB T (dk [D (.str [32]),D (.str []),D (.str [10])]) (aN T G (.sref 845) [B 0,D (.int 3)] [])) (B 3)) (B 6)) (B 4)) (eB T (dk [D (.str []),D (.str [32]),D (.str [9])]) (aN T G (.sref 845) [B 0,D (.int 3)] [])))::SU T G
def QI:Cd:=λT G=>sAsg (bd 4) (fD (bJ (aW T .Eq (aN T G (.sref 845) [B 0,D (.int 3)] []) (D (.int 0)))) (bk T G (B 4) 39 (am "upper") []) (B 4))::A8 T G
def Rz:Cd:=λT G=>sAsg (bd 6) (fD (bJ (aW T .Eq (aN T G (.sref 845) [B 0,D (.int 2)] []) (D (.int 0)))) (qn [((.int 16),(.str [48,120])),((.int 2),(.str [48,98])),((.int 8),(.str [48,111]))] (B 1) (D (.str []))) (D (.str [])))::QI T G
def BL:Cd:=λT G=>sAsg (bd 4) (fD (bJ (aW T .Gt (B 5) (D (.int 0)))) (bp .Add (bp .Add (fU T (B 4) (D .none) (B 5)) (D (.str [95]))) (fU T (B 4) (B 5) (D .none))) (B 4))::Rz T G
def Pf:Cd:=λT G=>sAsg (bd 5) (aN T G (.sref 845) [B 0,aN T G (.bi "len") [B 4] []] [])::BL T G
def Qm:Cd:=λT G=>sAsg (bd 4) (aN T G (.sref 852) [B 2,B 1] [])::Pf T G
def P7:Cd:=λT G=>sAsg (fg T [bd 2,bd 3]) (mTup [(aN T G (.sref 845) [B 0,bp .Pow (D (.int 10)) (D (.int 6))] []),(eB T (dk [D (.str []),D (.str [45]),D (.str [43])]) (aN T G (.sref 845) [B 0,D (.int 3)] []))])::Qm T G
def Qo:Cd:=λT G=>sAsg (bd 1) (eB T (dk [D (.int 10),D (.int 16),D (.int 2),D (.int 8),D (.int 36)]) (aN T G (.sref 845) [B 0,D (.int 5)] []))::P7 T G
def QC(T:aT)(G:cI):M Fl:=aH (Qo T G)
def Au(T:aT)(G:cI):M Fl:=(aH [eS (pk (vG (bJ (aN T G (.sref 890) [B 1,B 2] []))) (pk (vG (bJ (aN T G (.sref 897) [B 1,B 2] []))) (pk (vG (bJ (aN T G (.sref 904) [B 1] []))) (M.ret I)))) (aH [bR (D (.bool I))]) (aH [])])
def PS:Cd:=λT G=>[bR (D (.bool S))]
def Pz:Cd:=λT G=>uD (bd 3) (nK (fD (bJ (eB T (B 1) (D (.int 3)))) (D (.int 1)) (D (.int 4)))) (Au T G)::PS T G
def Qw:Cd:=λT G=>sAsg (fg T [bd 1,bd 2]) (mTup [aN T G (.sref 838) [B 0] [],aN T G (.sref 827) [jw] []])::Pz T G
def Vd(T:aT)(G:cI):M Fl:=aH (Qw T G)
def Zi(f:Nat):Option (Nat×Nat×List J):=(ft f).map λfi=>((f9 fi.sc).top+1,fi.pn.length,fi.dfl)
def code(T:aT)(G:cI)(f:Nat):Option (M Fl):=(ft f).map λfi=>ph T G 12 (f9 fi.sc) fi.body
noncomputable def au(L:Nat)(Z:List Int):aT:={fu with slist:=[(L,Z.map J.int)]}
variable(L:Nat)(Z:List Int)(G:cI)
theorem ZB:code (au L Z) G 37=Y (XS (au L Z) G):=by kernel_rfl
theorem ZH:code (au L Z) G 59=Y (Zc (au L Z) G):=by kernel_rfl
theorem ZN:code (au L Z) G 79=Y (Zg (au L Z) G):=by kernel_rfl
theorem Ym:code (au L Z) G 178=Y (WJ (au L Z) G):=by kernel_rfl
theorem Xu:code (au L Z) G 218=Y (WX (au L Z) G):=by kernel_rfl
theorem Yb:code (au L Z) G 237=Y (UY (au L Z) G):=by kernel_rfl
theorem XN:code (au L Z) G 244=Y (UX (au L Z) G):=by kernel_rfl
theorem Yc:code (au L Z) G 264=Y (Vh (au L Z) G):=by kernel_rfl
theorem Ye:code (au L Z) G 278=Y (UR (au L Z) G):=by kernel_rfl
theorem Yg:code (au L Z) G 285=Y (WR (au L Z) G):=by kernel_rfl
theorem YM:code (au L Z) G 292=Y (TS (au L Z) G):=by kernel_rfl
theorem XF:code (au L Z) G 297=Y (VQ (au L Z) G):=by kernel_rfl
theorem XB:code (au L Z) G 304=Y (Wt (au L Z) G):=by kernel_rfl
theorem Xz:code (au L Z) G 323=Y (UU (au L Z) G):=by kernel_rfl
theorem YK:code (au L Z) G 338=Y (Wa (au L Z) G):=by kernel_rfl
theorem XE:code (au L Z) G 345=Y (Wk (au L Z) G):=by kernel_rfl
theorem Xy:code (au L Z) G 352=Y (Ur (au L Z) G):=by kernel_rfl
theorem XH:code (au L Z) G 359=Y (UT (au L Z) G):=by kernel_rfl
theorem YN:code (au L Z) G 371=Y (UD (au L Z) G):=by kernel_rfl
theorem XQ:code (au L Z) G 378=Y (WL (au L Z) G):=by kernel_rfl
theorem XM:code (au L Z) G 386=Y (Oz (au L Z) G):=by kernel_rfl
theorem Xq:code (au L Z) G 393=Y (WK (au L Z) G):=by kernel_rfl
theorem XY:code (au L Z) G 400=Y (Wg (au L Z) G):=by kernel_rfl
theorem YU:code (au L Z) G 414=Y (U8 (au L Z) G):=by kernel_rfl
theorem YR:code (au L Z) G 421=Y (Xa (au L Z) G):=by kernel_rfl
theorem XI:code (au L Z) G 428=Y (VW (au L Z) G):=by kernel_rfl
theorem Xw:code (au L Z) G 449=Y (TR (au L Z) G):=by kernel_rfl
theorem Yp:code (au L Z) G 456=Y (Vv (au L Z) G):=by kernel_rfl
theorem Yi:code (au L Z) G 463=Y (VF (au L Z) G):=by kernel_rfl
theorem XP:code (au L Z) G 470=Y (S8 (au L Z) G):=by kernel_rfl
theorem XL:code (au L Z) G 477=Y (Wv (au L Z) G):=by kernel_rfl
theorem YC:code (au L Z) G 484=Y (sV (au L Z) G):=by kernel_rfl
theorem YB:code (au L Z) G 491=Y (Xc (au L Z) G):=by kernel_rfl
theorem Yq:code (au L Z) G 505=Y (VC (au L Z) G):=by kernel_rfl
theorem YJ:code (au L Z) G 520=Y (V0 (au L Z) G):=by kernel_rfl
theorem YI:code (au L Z) G 540=Y (Uu (au L Z) G):=by kernel_rfl
theorem Xv:code (au L Z) G 587=Y (Wp (au L Z) G):=by kernel_rfl
theorem YT:code (au L Z) G 608=Y (Uq (au L Z) G):=by kernel_rfl
theorem Yy:code (au L Z) G 629=Y (V9 (au L Z) G):=by kernel_rfl
theorem YG:code (au L Z) G 634=Y (Ri (au L Z) G):=by kernel_rfl
theorem Yw:code (au L Z) G 641=Y (Ud (au L Z) G):=by kernel_rfl
theorem YS:code (au L Z) G 691=Y (Ut (au L Z) G):=by kernel_rfl
theorem Yn:code (au L Z) G 698=Y (V8 (au L Z) G):=by kernel_rfl
theorem YE:code (au L Z) G 754=Y (UZ (au L Z) G):=by kernel_rfl
theorem Yr:code (au L Z) G 761=Y (VH (au L Z) G):=by kernel_rfl
theorem X4:code (au L Z) G 838=Y (Ui (au L Z) G):=by kernel_rfl
theorem Xx:code (au L Z) G 845=Y (Wn (au L Z) G):=by kernel_rfl
theorem X6:code (au L Z) G 852=Y (U1 (au L Z) G):=by kernel_rfl
theorem XT:code (au L Z) G 859=Y (U0 (au L Z) G):=by kernel_rfl
theorem YF:code (au L Z) G 866=Y (WZ (au L Z) G):=by kernel_rfl
theorem XG:code (au L Z) G 871=Y (Vn (au L Z) G):=by kernel_rfl
theorem Yo:code (au L Z) G 876=Y (My (au L Z) G):=by kernel_rfl
theorem YV:code (au L Z) G 883=Y (Vs (au L Z) G):=by kernel_rfl
theorem X7:code (au L Z) G 890=Y (WS (au L Z) G):=by kernel_rfl
theorem YL:code (au L Z) G 897=Y (Uw (au L Z) G):=by kernel_rfl
theorem XJ:code (au L Z) G 904=Y (QC (au L Z) G):=by kernel_rfl
theorem Yl:code (au L Z) G 911=Y (Vd (au L Z) G):=by kernel_rfl
end
section
section
variable{α β:Type}{m:M α}{f:α->M β}{s s1 s2:St}{a:α}{r:lJ St β}
theorem az(h:m s=.ok a s1)(h2:f a s1=r):(m.bind f) s=r:=by unfold M.bind;exact h▸h2
theorem eL{x:Nat}(h:m s=.exc x s1):(m.bind f) s=.exc x s1:=by unfold M.bind;rw[h]
theorem b6{b:Bool}{m:M β}(h:b=S)(h2:m s=r):gd b m s=r:=by subst h;exact h2
theorem dR{o:Option α}(h:o=Y a)(h2:f a s=r):gO o f s=r:=by subst h;exact h2
theorem br{b:Bool}{x y:M β}(h:b=S)(e:x s=r):(bif b then x else y) s=r:=by subst h;exact e
theorem aM{b:Bool}{x y:M β}(h:b=I)(e:y s=r):(bif b then x else y) s=r:=by subst h;exact e
variable{i:Nat}
theorem kL{k:AO->M β}{o:AO}(h:s.heap[i]?=Y o)(h2:k o s=r):gH i k s=r:=dR h h2
theorem lM{k:List J->M β}{xs:List J}(h:s.heap[i]?=Y (.list xs))(h2:k xs s=r):gL i k s=r:=dR h h2
theorem Np{k:List J->M β}{xs:List J}(h:s.heap[i]?=Y (.tup xs))(h2:k xs s=r):gT i k s=r:=dR h h2
theorem JV{k:List (List Nat×J)->M β}{xs:List (List Nat×J)}(h:s.heap[i]?=Y (.dict xs))(h2:k xs s=r):gD i k s=r:=dR h h2
theorem N6{k:List (Nat×J)->M β}{xs:List (Nat×J)}(h:s.heap[i]?=Y (.fd xs))(h2:k xs s=r):gF i k s=r:=dR h h2
theorem I4{k:Nat->Bool->Option Nat->M β}{C:Nat}{bb:Bool}{fd:Option Nat}(h:s.heap[i]?=Y (.exn C bb fd))(h2:k C bb fd s=r):gX i k s=r:=dR h h2
end
variable{T:aT}{G:cI}{s s1 s2 s3 s4:St}{a b c d v:J}{e l r x y z:M J}{es:List (M J)}{vs:List J}{i j k n:Nat}{xs ys:List J}{h:H}{o:AO}{t u:M Bool}{p q:Bool}{R:lJ St J}{A0 A1 A2 A3:List J}{P0 P1 P2 P3:H}{B0 B1 B2 B3:Bool}
theorem ao:D v s=.ok v s:=rfl
theorem bM(h:A0[i]?=Y v)(hu:vE v=Y v):B i ⟨A0,P0,B0⟩=.ok v ⟨A0,P0,B0⟩:=dR (by rw[h];exact hu) rfl
theorem aq(h:(A0[i]?).bind vE=Y v:=by exact U):B i ⟨A0,P0,B0⟩=.ok v ⟨A0,P0,B0⟩:=dR h rfl
theorem bj{op:eO}(h1:l s=.ok a s1)(h2:r s1=.ok b s2)(h3:Ih op a b s2=R):bp op l r s=R:=az h1 (az h2 h3)
theorem y6{w:Int}(h:e s=.ok (.int w) s1):rp e s=.ok (.int (-w)) s1:=az h rfl
theorem NF(h:e s=.ok (.bool p) s1)(hq:(!p)=q):KU e s=.ok (.bool q) s1:=az h (by subst hq;rfl)
theorem aE{op:fQ}(h1:l s=.ok a s1)(h2:r s1=.ok b s2)(h3:p8 T op a b s2=R):aW T op l r s=R:=az h1 (az h2 h3)
theorem w5{o1 o2:fQ}(h1:x s=.ok a s1)(h2:y s1=.ok b s2)(h3:p8 T o1 a b s2=.ok (.bool p) s3)(h4:z s3=.ok d s3)(h5:p8 T o2 b d s3=.ok (.bool q) s3):pf T o1 o2 x y z s=.ok (.bool (p&&q)) s3:=az h1 (az h2 (az h3 (by induction p with
 |true=>exact az h4 h5
 |false=>rfl)))
theorem L8(h:x s=.ok (.bool p) s1)(h2:y s1=.ok (.bool q) s1):Az x y s=.ok (.bool (p&&q)) s1:=az h (by induction p;rfl;exact h2)
theorem cy:df [] s=.ok [] s:=rfl
theorem aB(h:e s=.ok v s1)(h2:df es s1=.ok vs s2):df (e::es) s=.ok (v::vs) s2:=az h (az h2 U)
theorem aC(h:e s=.ok v s1):df [e] s=.ok [v] s1:=aB h cy
theorem gm(h:df es s=.ok vs ⟨A1,P1,B1⟩)(hl:Nat.ble vs.length 1000=S):mTup es s=.ok (.obj P1.length) ⟨A1,P1++[.tup vs],B1⟩:=az h (b6 hl U)
theorem gj(h:df es s=.ok vs ⟨A1,P1,B1⟩)(hl:Nat.ble vs.length 1000=S):dk es s=.ok (.obj P1.length) ⟨A1,P1++[.list vs],B1⟩:=az h (b6 hl U)
theorem Lo:jw ⟨A0,P0,B0⟩=.ok (.obj P0.length) ⟨A0,P0++[.dict []],B0⟩:=rfl
theorem oH{neg:Bool}(h1:e s=.ok a s1)(h2:df es s1=.ok vs s2)(hl:Nat.ble vs.length 1000=S)(h3:lX a vs=Y p):lm neg e es s=.ok (.bool (bif neg then !p else p)) s2:=
 az h1 (az h2 (b6 hl (dR h3 U)))
theorem DB{acc:List Nat}:mO acc [] s=.ok (.str acc) s:=rfl
def rx(T:aT)(n C:Nat)(fs:List (Nat×J)):Option J:=bif sM T C n then(d5 n fs).bind xq else .none
theorem i9{C:Nat}{fs:List (Nat×J)}(h:P0[i]?=Y (.inst C fs))(hv:rx T n C fs=Y v):Jw T n (.obj i) ⟨A0,P0,B0⟩=.ok v ⟨A0,P0,B0⟩:=kL h (by unfold rx at hv;induction q:sM T C n with
 |false=>rw[q]at hv;exact nS hv
 |true=>rw[q]at hv;exact b6 q (dR hv U))
theorem bG{C:Nat}{fs:List (Nat×J)}(h1:e s=.ok (.obj i) ⟨A1,P1,B1⟩)(h:P1[i]?=Y (.inst C fs))(hv:rx T n C fs=Y v):bT T e n s=.ok v ⟨A1,P1,B1⟩:=az h1 (i9 h hv)
theorem GF{C:Nat}{bb:Bool}{fs:List (Nat×J)}(h1:e s=.ok (.obj i) ⟨A1,P1,B1⟩)(h:P1[i]?=Y (.exn C bb (Y j)))(h2:P1[j]?=Y (.fd fs))(hx:Mq T C n=S)(hv:(d5 n fs).bind xq=Y v):bT T e n s=.ok v ⟨A1,P1,B1⟩:=
 az h1 (kL h (b6 hx (N6 h2 (dR hv U))))
theorem mF{α:Type}{xs:List α}{v:α}(h:xs[k]?=Y v)(hk:k<4611686018427387904):FU xs (k:Int)=Y v:=by
 have hl:=(List.getElem?_eq_some_iff.mp h).1;have:At (k:Int) xs.length=Y k:=by unfold At;rw[decide_eq_true (d8 k),decide_eq_true (fw.mpr hl),decide_eq_true (by exact vA (b:=4611686018427387904) hk)];rfl
 unfold FU;rw[this];exact h
theorem gJ{w:Int}(h1:e s=.ok (.obj i) s1)(h2:r s1=.ok (.int w) ⟨A2,P2,B2⟩)(h:P2[i]?=Y (.list xs))(hv:FU xs w=Y v):eB T e r s=.ok v ⟨A2,P2,B2⟩:=az h1 (az h2 (kL h (dR hv U)))
theorem oK{w:Int}{m:List Nat}(h1:e s=.ok (.str m) s1)(h2:r s1=.ok (.int w) s2)(hv:FU m w=Y k):eB T e r s=.ok (.str [k]) s2:=az h1 (az h2 (dR hv U))
theorem DF{m:List Nat}{ak:Nat}(h1:e s=.ok (.sref ak) s1)(h2:r s1=.ok (.str m) s2)(hv:(d5 ak T.sdict).bind (fG m)=Y v):eB T e r s=.ok v s2:=az h1 (az h2 (dR hv U))
theorem dN{m w:List Nat}(h1:e s=.ok (.str m) s1)(h2:l s1=.ok a s2)(h3:r s2=.ok b s3)(hv:qk m a b=Y w):fU T e l r s=.ok (.str w) s3:=az h1 (az h2 (az h3 (dR hv U)))
theorem KY(h1:e s=.ok (.obj i) s1)(h2:l s1=.ok a s2)(h3:r s2=.ok b ⟨A3,P3,B3⟩)(h:P3[i]?=Y (.list xs))(hv:qk xs a b=Y ys):fU T e l r s=.ok (.obj P3.length) ⟨A3,P3++[.list ys],B3⟩:=
 az h1 (az h2 (az h3 (kL h (dR hv U))))
theorem KX{ak:Nat}(h1:e s=.ok (.sref ak) s1)(h2:l s1=.ok a s2)(h3:r s2=.ok b ⟨A3,P3,B3⟩)(h:d5 ak T.slist=Y xs)(hv:qk xs a b=Y ys):fU T e l r s=.ok (.obj P3.length) ⟨A3,P3++[.list ys],B3⟩:=
 az h1 (az h2 (az h3 (dR h (dR hv U))))
theorem Vr(h1:e s=.ok (.obj i) ⟨A1,P1,B1⟩)(h:P1[i]?=Y (.list xs))(hl:xs.length<=16777216):Kz e s=.ok (.obj P1.length) ⟨A1,P1++[.list xs.reverse],B1⟩:=az h1 (kL h (b6 (Nat.ble_eq_true_of_le hl) U))
theorem uW{α:Type}{m:M α}{w:α}(h:m s=.ok w s1):E2 m s=.ok w s1:=by unfold E2;rw[h]
theorem BG{kvs:List (J×J)}{w:Option J}(h1:x s=.ok a s1)(h2:y s1=.ok b s2)(hw:Nc a kvs=Y w):qn kvs x y s=.ok (w.getD b) s2:=az (uW h1) (az (uW h2) (dR hw U))
theorem eI{cs:List J}(hc:(!(cs.isEmpty||Nat.blt 1000 cs.length))=S)(h1:e s=.ok a ⟨A1,P1,B1⟩)(h2:ji a P1 cs=Y p):jy e cs s=.ok (.bool p) ⟨A1,P1,B1⟩:=b6 hc (az h1 (dR h2 U))
theorem CN{ak:Nat}{fs:List (Nat×J)}(h':h[i]?=Y (.inst ak fs))(hk:pg ak=S):vF h i=Y ak:=by unfold vF;rw[h'];show(bif pg ak then Y ak else .none)=_;rw[hk];rfl
theorem jj{C ak:Nat}{fs:List (Nat×J)}(h':h[i]?=Y (.inst ak fs))(hk:pg ak=S)(hc:wq C=S):lv (.obj i) h (.sref C)=Y (uB ak C):=by show(bif wq C then(vF h i).map λak=>uB ak C else .none)=_;rw[hc,CN h' hk];rfl
theorem xY{ak:Nat}{m:String}{fs:List (Nat×J)}(h':h[i]?=Y (.inst ak fs))(hk:pg ak=S)(hc:sU m=S):lv (.obj i) h (.ty m)=Y I:=by show(bif sU m then(vF h i).map λ_=>I else .none)=_;rw[hc,CN h' hk];rfl
theorem iK(h':lv a h c=Y p):ji a h [c]=Y p:=by unfold ji;rw[h'];induction p<;>rfl
theorem Sj{m w:List Nat}{k:Nat}(h:e s=.ok (.str m) s1)(hl:m.length<=16777216)(hw:m.filter (λd=>!Nat.beq d k)=w):wb e [k] [] s=.ok (.str w) s1:=az h (b6 (Nat.ble_eq_true_of_le hl) (by subst hw;rfl))
theorem S3{ks:List (Nat×M J)}{kv:List J}(hc:kr T a=S)(h1:df es s=.ok vs s1)(h2:df (ks.map (·.2)) s1=.ok kv s2)(h3:pq T G a vs ((ks.map (·.1)).zip kv) s2=R):aN T G a es ks s=R:=b6 hc (az h1 (az h2 h3))
theorem Lu(hc:kr T a=S)(h1:df es s=.ok vs s1)(h3:pq T G a vs [] s1=R):aN T G a es [] s=R:=b6 hc (az h1 (az cy h3))
theorem zW{f:Nat}{ks:List (Nat×J)}{h':H}(hf:G B0 f vs ks P0=.ok v h'):fK G f vs ks ⟨A0,P0,B0⟩=.ok v ⟨A0,h',B0⟩:=by unfold fK;rw[hf]
theorem Eo{f w:Nat}{ks:List (Nat×J)}{h':H}(hf:G B0 f vs ks P0=.exc w h'):fK G f vs ks ⟨A0,P0,B0⟩=.exc w ⟨A0,h',B0⟩:=by unfold fK;rw[hf]
theorem fM{m:List Nat}(hl:m.length<=16777216):nA "len" [.str m] s=.ok (.int m.length) s:=b6 (Nat.ble_eq_true_of_le hl) rfl
theorem tv(h:P0[i]?=Y (.list xs))(hl:xs.length<=16777216):nA "len" [.obj i] ⟨A0,P0,B0⟩=.ok (.int xs.length) ⟨A0,P0,B0⟩:=lM h (b6 (Nat.ble_eq_true_of_le hl) U)
theorem sj{w:Int}:nA "abs" [.int w] s=.ok (.int w.natAbs) s:=rfl
theorem Nh{w:Int}(h:(aI (0<=w)&&aI (w<128))=S):nA "chr" [.int w] s=.ok (.str [w.toNat]) s:=b6 h rfl
theorem Wy:nA "ord" [.str [k]] s=.ok (.int k) s:=rfl
theorem Jx{w:Int}(h:small w=S):pG "str" [.int w] s=.ok (.str (sO w)) s:=b6 h rfl
theorem TO(h:gQ k=S):pG "int" [.str [k]] s=.ok (.int (k-48:Nat)) s:=b6 h rfl
theorem J9(h:P0[i]?=Y (.list xs))(hl:xs.length<=16777216):DE (.obj i) ⟨A0,P0,B0⟩=.ok (.obj P0.length) ⟨A0,P0++[.list xs],B0⟩:=kL h (b6 (Nat.ble_eq_true_of_le hl) U)
theorem jU(hh:B0=I):ip ⟨A0,P0,B0⟩=.ok () ⟨A0,P0,B0⟩:=by unfold ip;rw[hh];rfl
theorem MF{ds:List (List Nat×J)}(h:P0[i]?=Y (.dict ds))(hl:ds.length<=16777216)(hh:B0=I):DE (.obj i) ⟨A0,P0,B0⟩=.ok (.obj P0.length) ⟨A0,P0++[.list (ds.map λp=>.str p.1)],B0⟩:=kL h (az (jU hh) (b6 (Nat.ble_eq_true_of_le hl) U))
theorem Hy(h:P0[i]?=Y (.list xs))(hl:xs.length<=16777216):pG "list" [.obj i] ⟨A0,P0,B0⟩=.ok (.obj P0.length) ⟨A0,P0++[.list xs],B0⟩:=J9 h hl
theorem Ip{ds:List (List Nat×J)}(h:P0[i]?=Y (.dict ds))(hl:ds.length<=16777216)(hh:B0=I):pG "list" [.obj i] ⟨A0,P0,B0⟩=.ok (.obj P0.length) ⟨A0,P0++[.list (ds.map λp=>.str p.1)],B0⟩:=MF h hl hh
theorem Lq{nm:aV}{C:Nat}(hd:d5 C T.sdict=.none):lB T G C n nm es=gO (fm T C n) λf=>(df es).bind λas=>fK G f as []:=by unfold lB;rw[hd]
theorem KW{nm:aV}{C:Nat}{ds:List (List Nat×J)}(hd:d5 C T.sdict=Y ds):lB T G C n nm es=gd (nm=="get") ((df es).bind λas=>Ls as λa d=>jz a λk=>M.ret ((fG k ds).getD d)):=by unfold lB;rw[hd]
theorem aK(h:e s=.ok (.bool p) s1):bJ e s=.ok p s1:=az h rfl
theorem qg(h:t s=.ok p s1)(hq:(!p)=q):vG t s=.ok q s1:=az h (by subst hq;rfl)
theorem jk:(M.ret p:M Bool) s=.ok p s:=rfl
theorem ez(h:t s=.ok p s1)(h2:u s1=.ok q s1):cQ t u s=.ok (p&&q) s1:=az h (by induction p;rfl;exact h2)
theorem Ph(h:t s=.ok p s1)(h2:u s1=.ok q s1):pk t u s=.ok (p||q) s1:=az h (by induction p;exact h2;rfl)
variable{g:qf}{gs:List qf}{w:Unit}
theorem bv(h:Nat.blt i A0.length=S):bd i v ⟨A0,P0,B0⟩=.ok () ⟨A0.set i v,P0,B0⟩:=b6 h rfl
theorem kW{C:Nat}{fs:List (Nat×J)}(h:P0[i]?=Y (.inst C fs))(hk0:sM T C n=S)(hl:Nat.ble fs.length 100=S):AC T n (.obj i) v ⟨A0,P0,B0⟩=.ok () ⟨A0,P0.set i (.inst C (lP n v fs)),B0⟩:=kL h (b6 (by rw[hk0,hl];rfl) U)
theorem ru{C:Nat}{fs:List (Nat×J)}(h1:e s=.ok (.obj i) ⟨A1,P1,B1⟩)(h:P1[i]?=Y (.inst C fs))(hk0:sM T C n=S)(hl:Nat.ble fs.length 100=S):cf T e n v s=.ok () ⟨A1,P1.set i (.inst C (lP n v fs)),B1⟩:=az h1 (kW h hk0 hl)
theorem DZ{C:Nat}{bb:Bool}(h1:e s=.ok (.obj i) ⟨A1,P1,B1⟩)(h:P1[i]?=Y (.exn C bb .none))(hk:Mq T C n=S):cf T e n v s=.ok () ⟨A1,(P1++[AO.fd [(n,v)]]).set i (.exn C bb (Y P1.length)),B1⟩:=az h1 (kL h (b6 hk U))
theorem GN{C:Nat}{bb:Bool}{fs:List (Nat×J)}(h1:e s=.ok (.obj i) ⟨A1,P1,B1⟩)(h:P1[i]?=Y (.exn C bb (Y j)))(h2:P1[j]?=Y (.fd fs))(hk:Mq T C n=S)(hl:Nat.ble fs.length 100=S):cf T e n v s=.ok () ⟨A1,P1.set j (.fd (lP n v fs)),B1⟩:=
 az h1 (kL h (b6 hk (N6 h2 (b6 hl U))))
theorem Cm{w:Int}(h1:e s=.ok (.obj i) s1)(h2:r s1=.ok (.int w) ⟨A2,P2,B2⟩)(h:P2[i]?=Y (.list xs))(hk:At w xs.length=Y k):B6 e r v s=.ok () ⟨A2,P2.set i (.list (xs.set k v)),B2⟩:=az h1 (az h2 (lM h (dR hk U)))
theorem LJ{w:List Nat}{ds:List (List Nat×J)}(h1:e s=.ok (.obj i) s1)(h2:r s1=.ok (.str w) ⟨A2,P2,B2⟩)(h:P2[i]?=Y (.dict ds))(hl:ds.length<16777216):B6 e r v s=.ok () ⟨A2,P2.set i (.dict (nR w v ds)),B2⟩:=
 az h1 (az h2 (JV h (b6 (Nat.ble_eq_true_of_le hl) U)))
theorem Rd:o0 [] [] s=.ok () s:=rfl
theorem bZ(h:g v s=.ok () s1)(h2:o0 gs vs s1=.ok () s2):o0 (g::gs) (v::vs) s=.ok () s2:=az h h2
theorem dj(h:g v s=.ok () s1):o0 [g] [v] s=.ok () s1:=bZ h Rd
theorem qo(hh:B0=I)(h:P0[i]?=Y (.tup vs))(hl:Nat.beq vs.length gs.length=S)(h2:o0 gs vs ⟨A0,P0,B0⟩=.ok () s1):fg T gs (.obj i) ⟨A0,P0,B0⟩=.ok () s1:=
 az (az (jU hh) (Np h (b6 hl U))) h2
theorem BF{ak:Nat}(hh:B0=I)(h:d5 ak T.stup=Y vs)(hl:Nat.beq vs.length gs.length=S)(h2:o0 gs vs ⟨A0,P0,B0⟩=.ok () s1):fg T gs (.sref ak) ⟨A0,P0,B0⟩=.ok () s1:=
 az (az (jU hh) (dR h (b6 hl U))) h2
variable{m m':M Fl}{ms:List (M Fl)}{f:Fl}{F:lJ St Fl}
theorem bz(h:e s=.ok v s1)(h2:g v s1=.ok () s2):sAsg g e s=.ok .nxt s2:=az h (az h2 U)
theorem oA{w:Nat}(h:e s=.exc w s1):sAsg g e s=.exc w s1:=eL h
theorem fq(h:df es s=.ok vs ⟨A1,P1,B1⟩)(hh:B1=I)(hl:Nat.ble vs.length 1000=S)(hn:Nat.beq vs.length gs.length=S)(h2:o0 gs vs ⟨A1,P1++[.tup vs],B1⟩=.ok () s2):sAsg (fg T gs) (mTup es) s=.ok .nxt s2:=
 bz (gm h hl) (qo hh (List.getElem?_concat_length) hn h2)
theorem jW(h:Nat.blt i A0.length=S):cb i v ⟨A0,P0,B0⟩=.ok () ⟨A0.set i v,P0,B0⟩:=b6 h rfl
theorem PL{op:eO}(h0:B i s=.ok a s)(h:e s=.ok b s1)(h2:TI op a b s1=.ok v ⟨A2,P2,B2⟩)(h3:Nat.blt i A2.length=S):z7 i op e s=.ok .nxt ⟨A2.set i v,P2,B2⟩:=az h0 (az h (az h2 (az (jW h3) U)))
theorem rT{op:eO}(h0:x s=.ok c s1)(h1:Jw T n c s1=.ok a s1)(h:e s1=.ok b s2)(h2:TI op a b s2=.ok v s2)(h3:AC T n c v s2=.ok () s3):tT T x n op e s=.ok .nxt s3:=az h0 (az h1 (az h (az h2 (az h3 U))))
theorem bK(h:e s=.ok v s1):bR e s=.ok (.ret v) s1:=az h rfl
theorem eK{w:Nat}(h:e s=.exc w s1):bR e s=.exc w s1:=eL h
theorem nY(h:e s=.ok .none s1):iT e s=.ok .nxt s1:=az h rfl
theorem Ij{w:Nat}(h:e s=.exc w s1):iT e s=.exc w s1:=eL h
theorem aZ:aH [] s=.ok .nxt s:=rfl
theorem aG(h:m s=.ok .nxt s1)(h2:aH ms s1=F):aH (m::ms) s=F:=az h h2
theorem bF(h:m s=.ok (.ret v) s1):aH (m::ms) s=.ok (.ret v) s1:=az h rfl
theorem cZ{w:Nat}(h:m s=.exc w s1):aH (m::ms) s=.exc w s1:=eL h
theorem bO(h:m s=F):aH [m] s=F:=by induction F with
 |ok f s1=>induction f<;>exact az h rfl
 |exc w s1=>exact eL h
 |stuck=>show M.bind _ _ _=_;unfold M.bind;rw[h]
theorem Kr{C:Nat}{fd:Option Nat}{bb:Bool}(h:e s=.ok (.obj i) ⟨A1,P1,B1⟩)(hh:B1=I)(h1:P1[i]?=Y (.exn C bb fd))(h2:(bb&&nk T C)=S):wV T e s=.exc i ⟨A1,P1.set i (.exn C I fd),B1⟩:=
 az h (az (jU hh) (I4 h1 (b6 h2 U)))
theorem I0{C k:Nat}(h:m s=.ok f s1):xD m C k m' s=.ok f s1:=by unfold xD;rw[h]
theorem MM{C k:Nat}{bb:Bool}{fd:Option Nat}(h:m s=.exc i ⟨A1,P1,B1⟩)(h1:P1[i]?=Y (.exn C bb fd))(hk:Nat.blt k A1.length=S)(h2:m' ⟨A1.set k (.obj i),P1,S⟩=.ok f ⟨A2,P2,B2⟩)(hk2:Nat.blt k A2.length=S):xD m C k m' s=.ok f ⟨A2.set k .unb,P2,B1⟩:=by unfold xD;rw[h];refine I4 h1 (b6 (Nat.beq_refl C) (az (jW hk) (az (uW (show zF S m' ⟨A1.set k (.obj i),P1,B1⟩=.ok f ⟨A2,P2,B1⟩from ?_)) (az (jW hk2) U))));unfold zF;dsimp only;rw[h2]
theorem Lb{N:Nat}{hand:Bool}{as:List J}(h1:m ⟨as++List.replicate (N-as.length) .unb,h,hand⟩=.ok (.ret v) ⟨A0,P0,B0⟩):pU N m hand as h=.ok v P0:=by unfold pU;rw[h1]
theorem Kn{N:Nat}{hand:Bool}{as:List J}(h1:m ⟨as++List.replicate (N-as.length) .unb,h,hand⟩=.ok .nxt ⟨A0,P0,B0⟩):pU N m hand as h=.ok .none P0:=by unfold pU;rw[h1]
theorem MO{N w:Nat}{hand:Bool}{as:List J}(h1:m ⟨as++List.replicate (N-as.length) .unb,h,hand⟩=.exc w ⟨A0,P0,B0⟩):pU N m hand as h=.exc w P0:=by unfold pU;rw[h1]
end
section
variable{L:Nat}{Z:List Int}
abbrev bI(L:Nat)(Z:List Int):Nat->cI:=oZ (au L Z) ft
def db(L:Nat)(Z:List Int)(f N np:Nat)(dfl:List J)(c:aT->cI->M Fl):Prop:=∀(n:Nat)(hand:Bool)(as bs:List J)(h:H),zg np dfl as=Y bs->bI L Z (n+1) hand f as [] h=pU N (c (au L Z) (bI L Z n)) hand bs h
theorem ci{f N np:Nat}{dfl:List J}{c:aT->cI->M Fl}(hs:Zi f=Y (N,np,dfl))(hc:∀G,code (au L Z) G f=Y (c (au L Z) G)):db L Z f N np dfl c:=λn hand as bs h hb=>by
 show(match ft f with
  |some fi=>y7 (au L Z) (bI L Z n) fi hand as [] h
  |.none=>.stuck)=pU N (c (au L Z) (bI L Z n)) hand bs h
 have hc:=hc (bI L Z n);unfold Zi at hs;unfold code at hc;induction q:ft f with
 |none=>rw[q]at hs;exact nS hs
 |some fi=>rw[q]at hs hc;have h1:=aQ hs;have h2:=aQ hc;dsimp only at h1 h2;rw[lC,lC]at h1;dsimp only;unfold y7 tN;dsimp only;rw[h1.2.1,h1.2.2,hb];dsimp only;exact h2▸h1.1▸rfl
theorem XX:db L Z 37 4 3 [] XS:=ci (by kernel_rfl) λG=>ZB L Z G
theorem XU:db L Z 59 5 4 [.str []] Zc:=ci (by kernel_rfl) λG=>ZH L Z G
theorem Xr:db L Z 79 5 4 [.none] Zg:=ci (by kernel_rfl) λG=>ZN L Z G
theorem Uh:db L Z 178 5 4 [.none] WJ:=ci (by kernel_rfl) λG=>Ym L Z G
theorem UA:db L Z 218 8 7 [.none,.bool I,.none,.none] WX:=ci (by kernel_rfl) λG=>Xu L Z G
theorem Jt:db L Z 237 2 1 [] UY:=ci (by kernel_rfl) λG=>Yb L Z G
theorem zt:db L Z 244 2 1 [] UX:=ci (by kernel_rfl) λG=>XN L Z G
theorem Va:db L Z 264 3 1 [] Vh:=ci (by kernel_rfl) λG=>Yc L Z G
theorem Nl:db L Z 278 2 1 [] UR:=ci (by kernel_rfl) λG=>Ye L Z G
theorem WU:db L Z 285 2 1 [] WR:=ci (by kernel_rfl) λG=>Yg L Z G
theorem UC:db L Z 292 5 2 [] TS:=ci (by kernel_rfl) λG=>YM L Z G
theorem U7:db L Z 297 3 1 [] VQ:=ci (by kernel_rfl) λG=>XF L Z G
theorem Vq:db L Z 304 2 1 [] Wt:=ci (by kernel_rfl) λG=>XB L Z G
theorem Od:db L Z 323 4 2 [] UU:=ci (by kernel_rfl) λG=>Xz L Z G
theorem wB:db L Z 338 4 2 [.int 6] Wa:=ci (by kernel_rfl) λG=>YK L Z G
theorem NV:db L Z 345 3 2 [] Wk:=ci (by kernel_rfl) λG=>XE L Z G
theorem NJ:db L Z 352 4 2 [] Ur:=ci (by kernel_rfl) λG=>Xy L Z G
theorem TX:db L Z 359 5 2 [] UT:=ci (by kernel_rfl) λG=>XH L Z G
theorem ND:db L Z 371 5 2 [] UD:=ci (by kernel_rfl) λG=>YN L Z G
theorem Uj:db L Z 378 3 2 [] WL:=ci (by kernel_rfl) λG=>XQ L Z G
theorem Dz:db L Z 386 13 3 [.bool I] Oz:=ci (by kernel_rfl) λG=>XM L Z G
theorem De:db L Z 393 4 2 [] WK:=ci (by kernel_rfl) λG=>Xq L Z G
theorem Dj:db L Z 400 2 1 [] Wg:=ci (by kernel_rfl) λG=>XY L Z G
theorem Uc:db L Z 414 2 1 [] U8:=ci (by kernel_rfl) λG=>YU L Z G
theorem Ua:db L Z 421 4 2 [] Xa:=ci (by kernel_rfl) λG=>YR L Z G
theorem Uo:db L Z 428 6 3 [] VW:=ci (by kernel_rfl) λG=>XI L Z G
theorem T5:db L Z 449 5 4 [] TR:=ci (by kernel_rfl) λG=>Xw L Z G
theorem NA:db L Z 456 2 1 [] Vv:=ci (by kernel_rfl) λG=>Yp L Z G
theorem Nd:db L Z 463 2 1 [] VF:=ci (by kernel_rfl) λG=>Yi L Z G
theorem sr:db L Z 470 5 2 [] S8:=ci (by kernel_rfl) λG=>XP L Z G
theorem Cw:db L Z 477 3 2 [] Wv:=ci (by kernel_rfl) λG=>XL L Z G
theorem NQ:db L Z 484 6 1 [] sV:=ci (by kernel_rfl) λG=>YC L Z G
theorem Oc:db L Z 491 4 1 [] Xc:=ci (by kernel_rfl) λG=>YB L Z G
theorem NY:db L Z 505 4 3 [] VC:=ci (by kernel_rfl) λG=>Yq L Z G
theorem VM:db L Z 520 3 2 [.str []] V0:=ci (by kernel_rfl) λG=>YJ L Z G
theorem Um:db L Z 540 3 2 [] Uu:=ci (by kernel_rfl) λG=>YI L Z G
theorem UF:db L Z 587 7 5 [.none,.none,.int 20000] Wp:=ci (by kernel_rfl) λG=>Xv L Z G
theorem UQ:db L Z 608 2 1 [] Uq:=ci (by kernel_rfl) λG=>YT L Z G
theorem NZ:db L Z 629 4 2 [] V9:=ci (by kernel_rfl) λG=>Yy L Z G
theorem U4:db L Z 634 6 2 [] Ri:=ci (by kernel_rfl) λG=>YG L Z G
theorem TN:db L Z 641 3 2 [] Ud:=ci (by kernel_rfl) λG=>Yw L Z G
theorem Us:db L Z 691 3 2 [] Ut:=ci (by kernel_rfl) λG=>YS L Z G
theorem VB:db L Z 698 3 2 [] V8:=ci (by kernel_rfl) λG=>Yn L Z G
theorem Ub:db L Z 754 4 3 [] UZ:=ci (by kernel_rfl) λG=>YE L Z G
theorem Ug:db L Z 761 4 3 [] VH:=ci (by kernel_rfl) λG=>Yr L Z G
theorem WP:db L Z 838 6 1 [] Ui:=ci (by kernel_rfl) λG=>X4 L Z G
theorem N4:db L Z 845 5 2 [] Wn:=ci (by kernel_rfl) λG=>Xx L Z G
theorem VZ:db L Z 852 5 2 [] U1:=ci (by kernel_rfl) λG=>X6 L Z G
theorem WY:db L Z 859 4 3 [] U0:=ci (by kernel_rfl) λG=>XT L Z G
theorem UH:db L Z 866 9 5 [] WZ:=ci (by kernel_rfl) λG=>YF L Z G
theorem yn:db L Z 871 11 3 [] Vn:=ci (by kernel_rfl) λG=>XG L Z G
theorem Nu:db L Z 876 14 2 [] My:=ci (by kernel_rfl) λG=>Yo L Z G
theorem Oa:db L Z 883 5 3 [] Vs:=ci (by kernel_rfl) λG=>YV L Z G
theorem WA:db L Z 890 11 2 [] WS:=ci (by kernel_rfl) λG=>X7 L Z G
theorem UV:db L Z 897 7 2 [] Uw:=ci (by kernel_rfl) λG=>YL L Z G
theorem Wi:db L Z 904 11 1 [] QC:=ci (by kernel_rfl) λG=>XJ L Z G
theorem VE:db L Z 911 5 1 [] Vd:=ci (by kernel_rfl) λG=>Yl L Z G
end
section
inductive vO{α:Type}(p q:α->Prop):Prop where
 |mk (a:α) (x:p a) (y:q a):vO p q
inductive J4{α:Type}(p q r:α->Prop):Prop where
 |mk (a:α) (x:p a) (y:q a) (z:r a):J4 p q r
inductive Mz{α:Type}(p q r t:α->Prop):Prop where
 |mk (a:α) (x:p a) (y:q a) (z:r a) (v:t a):Mz p q r t
inductive Oy{α β:Type}(p q:α->β->Prop):Prop where
 |mk (a:α) (b:β) (x:p a b) (y:q a b):Oy p q
inductive IX{α β:Type}(p q r:α->β->Prop):Prop where
 |mk (a:α) (b:β) (x:p a b) (y:q a b) (z:r a b):IX p q r
inductive Ai{α β:Type}(p q r t:α->β->Prop):Prop where
 |mk (a:α) (b:β) (x:p a b) (y:q a b) (z:r a b) (v:t a b):Ai p q r t
inductive TC{α β:Type}(p q r t u:α->β->Prop):Prop where
 |mk (a:α) (b:β) (x:p a b) (y:q a b) (z:r a b) (v:t a b) (w:u a b):TC p q r t u
inductive X2{α β γ:Type}(p q:α->β->γ->Prop):Prop where
 |mk (a:α) (b:β) (c:γ) (x:p a b c) (y:q a b c):X2 p q
inductive Xh{α β γ:Type}(p q r:α->β->γ->Prop):Prop where
 |mk (a:α) (b:β) (c:γ) (x:p a b c) (y:q a b c) (z:r a b c):Xh p q r
inductive UI{α β γ:Type}(p q r t:α->β->γ->Prop):Prop where
 |mk (a:α) (b:β) (c:γ) (x:p a b c) (y:q a b c) (z:r a b c) (v:t a b c):UI p q r t
inductive Yf{α β γ:Type}(p q r t u:α->β->γ->Prop):Prop where
 |mk (a:α) (b:β) (c:γ) (x:p a b c) (y:q a b c) (z:r a b c) (v:t a b c) (w:u a b c):Yf p q r t u
variable{T:aT}{G:cI}{s s1 s2 s3 s4:St}{a b c d v:J}{e l r x y z:M J}{es:List (M J)}{vs:List J}{i j k n:Nat}{xs ys:List J}{h:H}{o o':AO}{t u:M Bool}{p q:Bool}{R:lJ St J}{A0 A1 A2 A3:List J}{P0 P1 P2 P3:H}{B0 B1 B2 B3:Bool}
variable{m m':M Fl}{ms:List (M Fl)}{f:Fl}{F:lJ St Fl}{aa:lJ St Bool}
def vP(N np:Nat)(dfl as:List J):Option (List J):=(zg np dfl as).map λbs=>bs++List.replicate (N-bs.length) .unb
section
variable{L:Nat}{Z:List Int}{N np g w:Nat}{dfl as L0:List J}{C:aT->cI->M Fl}{hand:Bool}
theorem bC(ak:db L Z g N np dfl C)(hl:vP N np dfl as=Y L0)(h1:C (au L Z) (bI L Z n) ⟨L0,h,hand⟩=.ok (.ret v) ⟨A0,P0,B0⟩):bI L Z (n+1) hand g as [] h=.ok v P0:=by obtain⟨bs,e1,e2⟩:=aP.mp hl;subst e2;exact(ak n hand as bs h e1).trans (Lb h1)
theorem kg(ak:db L Z g N np dfl C)(hl:vP N np dfl as=Y L0)(h1:C (au L Z) (bI L Z n) ⟨L0,h,hand⟩=.ok .nxt ⟨A0,P0,B0⟩):bI L Z (n+1) hand g as [] h=.ok .none P0:=by obtain⟨bs,e1,e2⟩:=aP.mp hl;subst e2;exact(ak n hand as bs h e1).trans (Kn h1)
theorem fY(ak:db L Z g N np dfl C)(hl:vP N np dfl as=Y L0)(h1:C (au L Z) (bI L Z n) ⟨L0,h,hand⟩=.exc w ⟨A0,P0,B0⟩):bI L Z (n+1) hand g as [] h=.exc w P0:=by obtain⟨bs,e1,e2⟩:=aP.mp hl;subst e2;exact(ak n hand as bs h e1).trans (MO h1)
end
theorem bq(h:m s=.ok f s1)(h2:Ae f (aH ms) s1=F):aH (m::ms) s=F:=az h h2
theorem Rj(h:m s=F):Ae .nxt m s=F:=h
theorem dY:Ae (.ret v) m s=.ok (.ret v) s:=rfl
theorem VU:KF s=.ok .brk s:=rfl
theorem aY(h:t s=.ok p s1)(h2:(bif p then m else m') s1=F):eS t m m' s=F:=az h h2
theorem dy(h:t s=.ok p s1)(h2:(bif p then x else y) s1=R):fD t x y s=R:=az h h2
theorem mX(h:t s=.ok p s1)(h2:(bif p then u else M.ret I) s1=aa):cQ t u s=aa:=az h h2
theorem qJ(h:t s=.ok p s1)(h2:(bif p then M.ret S else u) s1=aa):pk t u s=aa:=az h h2
theorem HP(h:x s=.ok (.bool p) s1)(h2:(bif p then y else yes I) s1=R):Az x y s=R:=az h h2
theorem Qd(h:x s=.ok (.bool p) s1)(h2:(bif p then yes S else y) s1=R):TZ x y s=R:=az h h2
theorem Tk:yes p s=.ok (.bool p) s:=rfl
theorem rb{t:H}(e:t[k]?=Y o):(h++t)[h.length+k]?=Y o:=by rw[List.getElem?_append_right (Nat.le_add_right _ _),Nat.add_sub_cancel_left];exact e
theorem sD{t:H}:(h++(o::t))[h.length]?=Y o:=rb (k:=0) rfl
theorem ba:(h++[o])[h.length]?=Y o:=List.getElem?_concat_length
theorem bH{h':H}(e:h[i]?=Y o):(h++h')[i]?=Y o:=by rw[List.getElem?_append_left (List.getElem?_eq_some_iff.mp e).1];exact e
theorem dP(e:h[i]?=Y o'):(h.set i o)[i]?=Y o:=List.getElem?_set_self (List.getElem?_eq_some_iff.mp e).1
theorem iC(e:i≠j)(e2:h[j]?=Y o):(h.set i o')[j]?=Y o:=(List.getElem?_set_ne e).trans e2
theorem qF(e:h[i]?=Y o):i<h.length:=(List.getElem?_eq_some_iff.mp e).1
theorem iF{fs:List (Nat×J)}{C m:Nat}{v:J}(ok:sM T C m=S)(hv:d5 m fs=Y v)(nb:xq v=Y v):rx T m C fs=Y v:=by unfold rx;rw[ok,hv];exact nb
inductive xi(x:lJ St Fl)(P:J->H->Prop):Prop where
 |mk (v:J) (A:List J) (h:H) (ag:Bool) (e:x=.ok (.ret v) ⟨A,h,ag⟩) (p:P v h):xi x P
section
variable{P:J->H->Prop}{L:Nat}{Z:List Int}{N np g w:Nat}{dfl as L0:List J}{C:aT->cI->M Fl}{hand:Bool}
theorem bU(h1:m s=.ok .nxt s1)(h2:xi (aH ms s1) P):xi (aH (m::ms) s) P:=let⟨v,A,h,ag,e,p⟩:=h2;⟨v,A,h,ag,bq h1 e,p⟩
theorem nx(h1:m s=.ok (.ret v) ⟨A0,P0,B0⟩)(p:P v P0):xi (aH (m::ms) s) P:=⟨v,A0,P0,B0,bF h1,p⟩
theorem Dv(ak:db L Z g N np dfl C)(hl:vP N np dfl as=Y L0)(h1:xi (C (au L Z) (bI L Z n) ⟨L0,h,hand⟩) P):Oy (λv h'=>bI L Z (n+1) hand g as [] h=.ok v h') P:=
 let⟨v,A,h',ag,e,p⟩:=h1;⟨v,h',bC ak hl e,p⟩
end
theorem qL{w w':Int}(h:(small w||small w')=S):Ih .Mult (.int w) (.int w') s=.ok (.int (w*w')) s:=b6 h rfl
theorem zq{w w':Int}(h:0<w')(h2:w'<1073741824):Ih .FloorDiv (.int w) (.int w') s=.ok (.int (w.fdiv w')) s:=b6 (by rw[decide_eq_false (by exact qN h),decide_eq_false (by exact ZD h h2)];rfl) rfl
theorem uL{w w':Int}(h:w'≠0):Ih .Mod (.int w) (.int w') s=.ok (.int (w.fmod w')) s:=b6 (by rw[decide_eq_false h];rfl) rfl
theorem Dg{w w':Int}(h:small w=S)(h2:0<=w')(h3:w'<=64):Ih .Pow (.int w) (.int w') s=.ok (.int (w^w'.toNat)) s:=b6 (by simp only[h,decide_eq_true h2,decide_eq_true h3];rfl) rfl
theorem cC{w w':List Nat}(h:w.length+w'.length<=16777216):Ih .Add (.str w) (.str w') s=.ok (.str (w++w')) s:=b6 (Nat.ble_eq_true_of_le (by rw[List.length_append];exact h)) rfl
theorem xu{w w':List Nat}(h:w.length+w'.length<=16777216):TI .Add (.str w) (.str w') s=.ok (.str (w++w')) s:=b6 (Nat.ble_eq_true_of_le (by rw[List.length_append];exact h)) rfl
theorem Iq{k:Nat}{w':Int}(h:w'<=16777216)(h2:-(2^62)<=w'):Ih .Mult (.str [k]) (.int w') s=.ok (.str (Aw [k] w'.toNat)) s:=b6 (by simp only[decide_eq_true h,decide_eq_true h2];rfl) rfl
theorem uX(h1:P0[i]?=Y (.list xs))(h2:P0[j]?=Y (.list ys))(h:xs.length+ys.length<=16777216):Ih .Add (.obj i) (.obj j) ⟨A0,P0,B0⟩=.ok (.obj P0.length) ⟨A0,P0++[.list (xs++ys)],B0⟩:=lM h1 (lM h2 (b6 (Nat.ble_eq_true_of_le h) U))
theorem kj{w:Int}(h:w.natAbs<2^63):small w=S:=decide_eq_true h
theorem mA{w w':Int}(h:small w'=S):(small w||small w')=S:=by simp only[h,Bool.or_true]
theorem Dx{w w':Int}(h:small w=S):(small w||small w')=S:=by simp only[h,Bool.true_or]
def uF(T:aT)(G:cI)(i:Nat)(o:AO)(n:Nat)(nm:aV)(ms:List (M J)):M J:=oC M.no (a:=o)
 (list:=λ_=>gd (nm=="append") ((df ms).bind λas=>qH as λv=>gL i λxs=>gd (Nat.blt xs.length cj) ((u7 i (.list (xs++[v]))).bind λ_=>M.ret .none)))
 (dict:=λ_=>gd (nm=="get") ((df ms).bind λas=>qH as λa=>jz a λk=>gD i λes=>M.ret ((fG k es).getD .none)))
 (inst:=λC fs=>gO (fm T C n) λf=>gd ((d5 n fs).isNone&&!nk T C) ((df ms).bind λas=>fK G f (.obj i::as) []))
def u4(T:aT)(G:cI)(a:J)(n:Nat)(nm:aV)(ms:List (M J)):M J:=vC M.no (a:=a)
 (str:=λx=>gd (KS nm).isSome ((df ms).bind λas=>g8 nm x as))
 (obj:=λi=>gH i λo=>uF T G i o n nm ms)
 (sref:=λC=>lB T G C n nm ms)
 (ty:=λm=>Ch T m nm ms)
section
variable{nm:aV}{w:List Nat}{C g:Nat}{fs:List (Nat×J)}{ds:List (List Nat×J)}{h':H}{ks:List (Nat×J)}
theorem aR(h1:e s=.ok a s1)(h2:u4 T G a n nm es s1=R):bk T G e n nm es s=R:=az h1 (by induction a<;>exact h2)
theorem Cp(hn:(KS nm).isSome=S)(h2:df es s=.ok vs s1)(h3:g8 nm w vs s1=R):u4 T G (.str w) n nm es s=R:=b6 hn (az h2 h3)
theorem jN(h1:P0[i]?=Y o)(h2:uF T G i o n nm es ⟨A0,P0,B0⟩=R):u4 T G (.obj i) n nm es ⟨A0,P0,B0⟩=R:=kL h1 h2
theorem Iv(hn:(nm=="append")=S)(h2:df es s=.ok [v] ⟨A1,P1,B1⟩)(h3:P1[i]?=Y (.list xs))(hl:xs.length<16777216):uF T G i (.list ys) n nm es s=.ok .none ⟨A1,P1.set i (.list (xs++[v])),B1⟩:=
 b6 hn (az h2 (lM h3 (b6 (Nat.ble_eq_true_of_le hl) U)))
theorem FJ{ds':List (List Nat×J)}(hn:(nm=="get")=S)(h2:df es s=.ok [.str w] ⟨A1,P1,B1⟩)(h3:P1[i]?=Y (.dict ds)):uF T G i (.dict ds') n nm es s=.ok ((fG w ds).getD .none) ⟨A1,P1,B1⟩:=b6 hn (az h2 (JV h3 U))
theorem cD(hm:fm T C n=Y g)(hx:((d5 n fs).isNone&&!nk T C)=S)(h2:df es s=.ok vs s1)(h3:fK G g (.obj i::vs) [] s1=R):uF T G i (.inst C fs) n nm es s=R:=dR hm (b6 hx (az h2 h3))
theorem V2(hd:d5 C T.sdict=.none)(hm:fm T C n=Y g)(h2:df es s=.ok vs s1)(h3:fK G g vs [] s1=R):u4 T G (.sref C) n nm es s=R:=by show lB T G C n nm es s=_;rw[Lq hd];exact dR hm (az h2 h3)
theorem W9(hd:d5 C T.sdict=Y ds)(hn:(nm=="get")=S)(h2:df es s=.ok [.str w,d] s1):u4 T G (.sref C) n nm es s=.ok ((fG w ds).getD d) s1:=by show lB T G C n nm es s=_;rw[KW hd];exact b6 hn (az h2 U)
theorem Zs{q:String}{bb:Bool}{fd:Option Nat}(hn:(q=="ValueError"&&nm=="__init__")=S)(h2:df es s=.ok [.obj i,.str w] ⟨A1,P1,B1⟩)(h:P1[i]?=Y (.exn C bb fd))(hx:nk T C=S):u4 T G (.ty q) n nm es s=.ok .none ⟨A1,P1,B1⟩:=
 b6 hn (az h2 (I4 h (b6 hx U)))
theorem aO(hf:G B0 g vs ks P0=.ok v h'):fK G g vs ks ⟨A0,P0,B0⟩=.ok v ⟨A0,h',B0⟩:=zW hf
theorem dQ{w:Nat}(hf:G B0 g vs ks P0=.exc w h'):fK G g vs ks ⟨A0,P0,B0⟩=.exc w ⟨A0,h',B0⟩:=Eo hf
theorem aJ(hc:kr T a=S)(h1:df es s=.ok vs s1)(h3:pq T G a vs [] s1=R):aN T G a es [] s=R:=Lu hc h1 h3
theorem iq{m:String}(h:nA m vs s=R):pq T G (.bi m) vs [] s=R:=h
theorem DT{m:String}(h:pG m vs s=R):pq T G (.ty m) vs [] s=R:=h
theorem b4(hm:(d5 g T.meth).isSome=I)(h:fK G g vs ks s=R):pq T G (.sref g) vs ks s=R:=aM hm h
theorem nJ(hs:(d5 C T.meth).isSome=S)(hm:fm T C 0=Y g)(hx:(!(nk T C&&Nat.blt 100 vs.length))=S)(hf:G B0 g (.obj P0.length::vs) [] (P0++[made T C])=.ok .none h'):pq T G (.sref C) vs [] ⟨A0,P0,B0⟩=.ok (.obj P0.length) ⟨A0,h',B0⟩:=
 br hs (dR (f:=λf=>gd (!(nk T C&&Nat.blt 100 vs.length)) ((o5 (made T C)).bind λo=>(fK G f (o::vs) []).bind λr=>pj r (M.ret o))) hm
  (b6 hx (az (s1:=⟨A0,P0++[made T C],B0⟩) U (az (zW hf) U))))
theorem Db(h:mO [] es s=R):yO es s=R:=h
theorem jd{acc w:List Nat}(h:e s=.ok (.str w) s1)(hl:(acc++w).length<=16777216)(h2:mO (acc++w) es s1=R):mO acc (e::es) s=R:=az h (b6 (Nat.ble_eq_true_of_le hl) h2)
theorem qz{ws:List (List Nat)}(hl:w.length<=1000)(h:P0[i]?=Y (.list xs))(hs:lj xs=Y ws)(hj:(fX w ws).length+w.length<=16777216):g8 "join" w [.obj i] ⟨A0,P0,B0⟩=.ok (.str (fX w ws)) ⟨A0,P0,B0⟩:=
 b6 (Nat.ble_eq_true_of_le (Nat.le_trans hl (by decide))) (lM (k:=λxs=>gO (lj xs) λys=>gd (Nat.ble ((fX w ys).length+w.length) cj) (M.ret (J.str (fX w ys)))) h (dR hs (b6 (Nat.ble_eq_true_of_le hj) U)))
theorem zC(hl:w.length<=16777216)(ha:bV w=S):g8 "lower" w [] s=.ok (.str (w.map mK)) s:=b6 (Nat.ble_eq_true_of_le hl) (b6 ha U)
theorem zv(hl:w.length<=16777216)(ha:bV w=S):g8 "upper" w [] s=.ok (.str (w.map DW)) s:=b6 (Nat.ble_eq_true_of_le hl) (b6 ha U)
theorem Ga{w':List Nat}(hl:w.length<=16777216):g8 "strip" w [.str w'] s=.ok (.str (mH w' w)) s:=b6 (Nat.ble_eq_true_of_le hl) rfl
theorem Ep{w':List Nat}(hl:w.length<=16777216):g8 "lstrip" w [.str w'] s=.ok (.str (ew w' w)) s:=b6 (Nat.ble_eq_true_of_le hl) rfl
theorem Lh{k:Nat}(hl:w.length<=16777216):g8 "find" w [.str [k]] s=.ok (.int (iw k w 0)) s:=b6 (Nat.ble_eq_true_of_le hl) rfl
theorem Aq(hl:w.length<=16777216)(ha:bV w=S):g8 "isdigit" w [] s=.ok (.bool (!w.isEmpty&&w.all gQ)) s:=b6 (Nat.ble_eq_true_of_le hl) (b6 ha U)
theorem BX(hl:w.length<=16777216)(ha:bV w=S):g8 "isalnum" w [] s=.ok (.bool (!w.isEmpty&&w.all uV)) s:=b6 (Nat.ble_eq_true_of_le hl) (b6 ha U)
end
section
variable{r r':H}{C w:Nat}{fs:List (Nat×J)}
theorem bQ(he:e ⟨A0,h++(.inst C fs::r),B0⟩=.ok v ⟨A0,h++(.inst C fs::r'),B0⟩)(h0:A0[0]?=Y (.obj h.length))(hk:sM T C n=S)(hl:Nat.ble fs.length 100=S)(h2:aH ms ⟨A0,h++(.inst C (lP n v fs)::r'),B0⟩=F):
  aH (sAsg (cf T (B 0) n) e::ms) ⟨A0,h++(.inst C fs::r),B0⟩=F:=
 az (az he (az (az (s1:=⟨A0,h++(.inst C fs::r'),B0⟩) (bM h0 U) (kL (o:=.inst C fs) (by rw[List.getElem?_append_right (Nat.le_refl _),Nat.sub_self];rfl) (b6 (by rw[hk,hl];rfl) U))) U)) (by
  have:(h++(.inst C fs::r')).set h.length (.inst C (lP n v fs))=h++(.inst C (lP n v fs)::r'):=by rw[List.set_append_right _ _ (Nat.le_refl _),Nat.sub_self];rfl
  show aH ms ⟨A0,(h++(.inst C fs::r')).set h.length (.inst C (lP n v fs)),B0⟩=F;rw[this];exact h2)
theorem E7:(h++(o::r)).length=h.length+(r.length+1):=by simp
theorem ki:jw ⟨A0,h++(o::r),B0⟩=.ok (.obj (h.length+(r.length+1))) ⟨A0,h++(o::(r++[.dict []])),B0⟩:=by rw[<-E7 (o:=o),<-List.cons_append,<-List.append_assoc];rfl
theorem yh:dk [] ⟨A0,h++(o::r),B0⟩=.ok (.obj (h.length+(r.length+1))) ⟨A0,h++(o::(r++[.list []])),B0⟩:=by rw[<-E7 (o:=o),<-List.cons_append,<-List.append_assoc];rfl
end
theorem i5:ff=999999999+1:=rfl
theorem fL{b:M Fl}(h:dU (lY t b) ff () s=F):jv t b s=F:=h
theorem si{g:qf}{it:M It}{b:M Fl}{q:It}(hh:B0=I)(hi:it ⟨A0,P0,B0⟩=.ok q s1)(h:dU (iV g b) ff q s1=.ok f s2):uD g it b ⟨A0,P0,B0⟩=.ok f s2:=az (jU hh) (az hi (uW h))
theorem xx{w:List Nat}(h:e s=.ok (.str w) s1):iU T e s=.ok (.vals (w.map λc=>.str [c])) s1:=az h rfl
theorem Cz{ak:Nat}(h:e s=.ok (.sref ak) s1)(h2:d5 ak T.stup=Y vs):iU T e s=.ok (.vals vs) s1:=az h (dR h2 U)
theorem nE{w:Int}(h:e s=.ok (.int w) s1)(h2:(aI (0<=w)&&aI (w<2^24))=S):nK e s=.ok (.vals ((List.range w.toNat).map λ(i:Nat)=>.int i)) s1:=az h (b6 h2 U)
theorem tj(h:e s=.ok (.obj i) ⟨A1,P1,B1⟩)(h2:P1[i]?=Y (.list xs)):iU T e s=.ok (.live i 0) ⟨A1,P1,B1⟩:=az h (kL h2 U)
theorem PU(h:e s=.ok (.obj i) ⟨A1,P1,B1⟩)(h2:P1[i]?=Y (.tup xs)):iU T e s=.ok (.liveT i 0) ⟨A1,P1,B1⟩:=az h (kL h2 U)
theorem rl{α:Type}{xs:List α}{lo hi:J}{l u:Nat}(h1:zA 0 xs.length lo=Y l)(h2:zA xs.length xs.length hi=Y u)(hl:xs.length<=16777216):qk xs lo hi=Y (cut xs l u):=by unfold qk;refine h1▸h2▸?_;show(bif Nat.ble xs.length cj then Y (cut xs l u)else .none)=_;refine(Nat.ble_eq_true_of_le (show xs.length<=cj from hl))▸?_;rfl
theorem QU{α:Type}{xs:List α}{l u:Int}(hl:xs.length<=16777216):qk xs (.int l) (.int u)=Y (cut xs (clip xs.length l) (clip xs.length u)):=rl U U hl
theorem yt{n k:Nat}(h:k<=n):clip n (k:Int)=k:=by unfold clip;rw[decide_eq_false (by exact dh.mpr (z0 _))];show min k n=k;exact Nat.min_eq_left h
theorem Lm{α:Type}{xs:List α}{k:Nat}(hk:k<=xs.length)(hl:xs.length<=16777216):qk xs .none (.int (k:Int))=Y (xs.take k):=by rw[rl (l:=0) (u:=k) U (by show Y (clip _ _)=_;rw[yt hk]) hl];rfl
theorem Hi{α:Type}{xs:List α}{k:Nat}(hk:k<=xs.length)(hl:xs.length<=16777216):qk xs (.int (k:Int)) .none=Y (xs.drop k):=by rw[rl (l:=k) (u:=xs.length) (by show Y (clip _ _)=_;rw[yt hk]) U hl];unfold cut;rw[List.take_of_length_le (Nat.le_refl _)]
section
variable{elt:M J}{x':J}{i' slot fl:Nat}{it:M It}{cond:Option (M Bool)}{cd:M Bool}{q:It}{bX:List J}
theorem ol(hh:B0=I)(hi:it ⟨A0,P0,B0⟩=.ok q ⟨A1,P1,B1⟩)(hs:slot<A1.length)(hl:kS (kR elt slot (cond.getD (M.ret S)) P1.length) ff q ⟨A1.set slot .unb,P1++[.list []],B1⟩=.ok v s2):kT elt slot it cond ⟨A0,P0,B0⟩=.ok (.obj P1.length) s2:=
 az (jU hh) (az hi (az (m:=o5 (.list [])) (f:=λo=>nc o λi=>(cb slot .unb).bind λ_=>E2 ((kS (kR elt slot (cond.getD (M.ret S)) i) ff q).bind λ_=>M.ret o)) (a:=.obj P1.length) (s1:=⟨A1,P1++[.list []],B1⟩) rfl
  (az (m:=cb slot .unb) (f:=λ_=>E2 ((kS (kR elt slot (cond.getD (M.ret S)) P1.length) ff q).bind λ_=>M.ret (J.obj P1.length))) (jW (Nat.ble_eq_true_of_le hs)) (uW (az hl U)))))
theorem lK(h:i7 q s=.ok .none s):kR elt slot cd i q s=.ok (.inr .none) s:=az h rfl
theorem oz{q':It}(h0:i7 q ⟨A0,P0,B0⟩=.ok (Y (x',q')) ⟨A0,P0,B0⟩)(hs:slot<A0.length)(hc:cd ⟨A0.set slot x',P0,B0⟩=.ok p ⟨A1,P1,B1⟩)(hp:p=S)(he:elt ⟨A1,P1,B1⟩=.ok v ⟨A2,P2,B2⟩)(h:P2[i]?=Y (.list xs))(hl:xs.length<16777216):
  kR elt slot cd i q ⟨A0,P0,B0⟩=.ok (.inl q') ⟨A2,P2.set i (.list (xs++[v])),B2⟩:=
 az h0 (az (jW (Nat.ble_eq_true_of_le hs)) (az hc (br hp (az he (lM h (b6 (Nat.ble_eq_true_of_le hl) (az (s1:=⟨A2,P2.set i (.list (xs++[v])),B2⟩) U U)))))))
theorem Ml{q':It}(h0:i7 q ⟨A0,P0,B0⟩=.ok (Y (x',q')) ⟨A0,P0,B0⟩)(hs:slot<A0.length)(hc:cd ⟨A0.set slot x',P0,B0⟩=.ok p s1)(hp:p=I):kR elt slot cd i q ⟨A0,P0,B0⟩=.ok (.inl q') s1:=
 az h0 (az (jW (Nat.ble_eq_true_of_le hs)) (az hc (aM hp U)))
theorem rR{α:Type}{turn:α->M (Sum α J)}{a:α}(h:turn a s=.ok (.inr v) s1):kS turn (fl+1) a s=.ok v s1:=az h rfl
theorem ur{α:Type}{turn:α->M (Sum α J)}{a b:α}(h:turn a s=.ok (.inl b) s1)(h2:kS turn fl b s1=R):kS turn (fl+1) a s=R:=az h h2
theorem BE:i7 (.vals []) s=.ok .none s:=rfl
theorem kO:i7 (.vals (x'::bX)) s=.ok (Y (x',.vals bX)) s:=rfl
theorem Vy(h:P0[i']?=Y (.tup xs))(h2:xs[k]?=.none):i7 (.liveT i' k) ⟨A0,P0,B0⟩=.ok .none ⟨A0,P0,B0⟩:=Np h (by rw[h2];rfl)
theorem Dl(h:P0[i']?=Y (.list xs))(h2:xs[k]?=.none):i7 (.live i' k) ⟨A0,P0,B0⟩=.ok .none ⟨A0,P0,B0⟩:=lM h (by rw[h2];rfl)
theorem E4(h:P0[i']?=Y (.list xs))(h2:xs[k]?=Y x'):i7 (.live i' k) ⟨A0,P0,B0⟩=.ok (Y (x',.live i' (k+1))) ⟨A0,P0,B0⟩:=lM h (by rw[h2];rfl)
end
end
section
def aD(X:List Nat)(h h':H):Prop:=h.length<=h'.length/\∀i,i<h.length->i∉X->h'[i]?=h[i]?
section
variable{X ae:List Nat}{h h1 h2:H}{i j:Nat}{o o':AO}
theorem aD.refl:aD X h h:=⟨Nat.le_refl _,λ_ _ _=>rfl⟩
theorem aD.trans(a:aD X h h1)(b:aD X h1 h2):aD X h h2:=⟨Nat.le_trans a.1 b.1,λi hi hx=>(b.2 i (Nat.lt_of_lt_of_le hi a.1) hx).trans (a.2 i hi hx)⟩
theorem aD.mono(a:aD X h h1)(s:∀i,i<h.length->i∈X->i∈ae):aD ae h h1:=⟨a.1,λi hi hy=>a.2 i hi λhx=>hy (s i hi hx)⟩
theorem aD.app{t:H}:aD X h (h++t):=⟨by simp only[List.length_append];exact bE [_,_] [] 0 [] (.v 0) (.a (.v 0) (.v 1)) U,λi hi _=>List.getElem?_append_left hi⟩
theorem aD.set(hi:i∈X):aD X h (h.set i o):=⟨by simp only[List.length_set];exact Nat.le_refl _,λj _ hj=>List.getElem?_set_ne (λe=>hj (by rw[<-e];exact hi))⟩
theorem aD.setNew(a:aD X h h1)(hi:h.length<=i):aD X h (h1.set i o):=⟨by simp only[List.length_set];exact a.1,λj hj hx=>(List.getElem?_set_ne (by exact Nat.ne_of_gt (bE [_,_,_] [(.v 0,.v 1),(.a (.v 2) (.l 1),.v 0)] 0 [1,1] (.a (.v 2) (.l 1)) (.v 1) U hi hj))).trans (a.2 j hj hx)⟩
theorem aD.get(a:aD X h h1)(e:h[i]?=Y o)(hx:i∉X):h1[i]?=Y o:=(a.2 i (qF e) hx).trans e
noncomputable def v9(o:AO):Nat:=match o with
 |.list _=>0
 |.tup _=>1
 |.dict _=>2
 |.inst C _=>C+10
 |.exn _ _ _=>3
 |.fd _=>4
theorem eZ(e:h[i]?=Y o)(e2:h[j]?=Y o')(k:Nat.beq (v9 o) (v9 o')=I):i≠j:=λq=>by subst q;rw[e]at e2;obtain rfl:=sI e2;rw[Nat.beq_refl]at k;exact nF k
theorem hY{a:Nat}(h:i≠a):i∉[a]:=by simpa using h
theorem Mv{a b:Nat}(h:i≠a)(h2:i≠b):i∉[a,b]:=by simp;exact⟨h,h2⟩
theorem qp{a b:Nat}(h:i∉[a,b]):i≠a/\i≠b:=⟨λe=>h (e▸.head _),λe=>h (e▸.tail _ (.head _))⟩
theorem Ek{a b c:Nat}(h:i≠a)(h2:i≠b)(h3:i≠c):i∉[a,b,c]:=by simp;exact⟨h,h2,h3⟩
end
variable{L:Nat}{Z:List Int}{n:Nat}{hd:Bool}{h:H}{b:Nat}
inductive im(h:H)(b N:Nat):Prop where
 |mk (g sd:Int) (c:Nat) (sm:Bool) (e:h[b]?=Y (.list [.int g,.int sd,.int c,.bool sm])) (h1:0<=g) (h2:0<=sd) (h3:sd<2147483629) (h4:c<=N):im h b N
theorem Bu{g sd c:Int}{sm:J}{m:Int}(hb:h[b]?=Y (.list [.int g,.int sd,.int c,sm]))(hg:0<g)(hm:0<m)(hm2:m<1073741824):
  bI L Z (n+1) hd 845 [.obj b,.int m] [] h=.ok (.int (g.fmod m)) (h.set b (.list [.int (g.fdiv m),.int sd,.int c,sm])):=by
 apply bC N4 (L0:=[.obj b,.int m,.unb,.unb,.unb]) rfl;have ix:∀{ah:List J},ah[0]?=Y (.obj b)->eB (au L Z) (B 0) (D (.int 0)) ⟨ah,h,hd⟩=.ok (.int g) ⟨ah,h,hd⟩:=λe=>gJ (bM e U) ao hb rfl;exact bF (aY (aK (aE (ix U) ao U)) (br (decide_eq_true hg) (aG (bz (bj (ix U) aq (uL (by exact qN hm))) (bv U)) (aG (bz (bj (ix U) aq (zq hm hm2)) (Cm aq ao hb U)) (bF (bK aq))))))
noncomputable def CO(sd c:Int):Int:=((sd+15485849*(c+1)+43)^5).fmod 2147483647
def W8(sd c m:Int):Int:=((((CO sd c*48271+7879*(c+1))^3).fmod 2147483587).fdiv 64).fmod m
theorem DP(sd c:Int):0<=CO sd c/\CO sd c<2147483647:=⟨fy _ (by decide),gU _ (by decide)⟩
theorem AK{g sd:Int}{c:Nat}{sm:J}{m:Int}(hb:h[b]?=Y (.list [.int g,.int sd,.int c,sm]))(hg:¬0<g)(h1:0<=sd)(h2:sd<2147483629)(hc:c<100000)(hm:0<m):
  bI L Z (n+1) hd 845 [.obj b,.int m] [] h=.ok (.int (W8 sd c m)) (h.set b (.list [.int g,.int sd,.int ((c:Int)+1),sm])):=by
 apply bC N4 (L0:=[.obj b,.int m,.unb,.unb,.unb]) rfl;have hx:=DP sd c;have s1:small (sd+15485849*((c:Int)+1)+43)=S:=kj (by omega);have s2:small (CO sd c*48271+7879*((c:Int)+1))=S:=kj (by omega);have hb2:=dP (o:=.list [.int g,.int sd,.int ((c:Int)+1),sm]) hb;have i2:∀{ah:List J},ah[0]?=Y (.obj b)->eB (au L Z) (B 0) (D (.int 2)) ⟨ah,h.set b (.list [.int g,.int sd,.int ((c:Int)+1),sm]),hd⟩=.ok (.int ((c:Int)+1)) ⟨ah,h.set b (.list [.int g,.int sd,.int ((c:Int)+1),sm]),hd⟩:=λe=>gJ (bM e U) ao hb2 rfl;exact aG (aY (aK (aE (gJ aq ao hb U) ao U)) (aM (decide_eq_false hg) aZ)) (aG (bz (bj (gJ aq ao hb U) ao U) (Cm aq ao hb U))
  (aG (bz (bj (bj (bj (bj (gJ aq ao hb2 U) (bj ao (i2 U) (qL (Dx U))) U) ao U) ao (Dg s1 (by decide) (by decide))) ao (uL (by decide))) (bv U))
   (bF (bK (bj (bj (bj (bj (bj (bj aq ao (qL (mA U))) (bj ao (i2 U) (qL (Dx U))) U) ao (Dg s2 (by decide) (by decide))) ao (uL (by decide))) ao (zq (by decide) (by decide))) aq (uL (by exact qN hm)))))))
theorem CJ{N:Nat}{m:Int}(ag:im h b N)(hN:N<100000)(hm:0<m)(hm2:m<1073741824):TC (λd h'=>bI L Z (n+1) hd 845 [.obj b,.int m] [] h=.ok (.int d) h') (λd _=>0<=d) (λd _=>d<m) (λ_ h'=>im h' b (N+1)) (λ_ h'=>aD [b] h h'):=by
 obtain⟨g,sd,c,sm,hb,h1,h2,h3,h4⟩:=ag
 by_cases hg:0<g
 ·exact⟨_,_,Bu hb hg hm hm2,fy _ hm,gU _ hm,⟨_,sd,c,sm,dP hb,Int.fdiv_nonneg h1 (by exact iO hm),h2,h3,by exact bE [_,_] [(.v 0,.v 1)] 0 [1] (.v 0) (.a (.v 1) (.l 1)) U h4⟩,aD.set (.head _)⟩
 ·exact⟨_,_,AK hb hg h2 h3 (by exact bE [_,_] [(.a (.v 0) (.l 1),.l 100000),(.v 1,.v 0)] 0 [1,1] (.a (.v 1) (.l 1)) (.l 100000) U hN h4) hm,fy _ hm,gU _ hm,⟨g,sd,c+1,sm,dP hb,h1,h2,h3,by exact bE [_,_] [(.v 0,.v 1)] 0 [1] (.a (.v 0) (.l 1)) (.a (.v 1) (.l 1)) U h4⟩,aD.set (.head _)⟩
end
section
variable{L:Nat}{Z:List Int}{n:Nat}{hd:Bool}{h:H}{a b c d:J}
theorem u8{A0:List J}{P P':H}{ag:Bool}(e:P=P'):aH [] ⟨A0,P,ag⟩=.ok .nxt ⟨A0,P',ag⟩:=by subst e;rfl
theorem FG{C:Nat}(ha:vE a=Y a)(hb:vE b=Y b)(h1:sM (au L Z) C 1=S)(h2:sM (au L Z) C 2=S)(h3:sM (au L Z) C 3=S)(h4:sM (au L Z) C 4=S)(h5:sM (au L Z) C 5=S)(h6:sM (au L Z) C 6=S):
  bI L Z (n+1) hd 37 [.obj h.length,a,b] [] (h++[.inst C []])=.ok .none (h++[.inst C [(1,a),(2,b),(3,.obj (h.length+1)),(4,.none),(5,.bool I),(6,.none)],.dict []]):=by
 apply kg XX (L0:=[.obj h.length,a,b,.unb]) rfl;unfold XS;exact bQ (bM U ha) U h1 U (bQ (bM U hb) U h2 U (bQ ki U h3 U (bQ ao U h4 U (bQ ao U h5 U (bQ ao U h6 U (u8 (by kernel_rfl)))))))
theorem LS{C:Nat}{A0:List J}{ms:List (M Fl)}{F:lJ St Fl}(hA0:A0[0]?=Y (.obj h.length))(hA1:A0[1]?=Y a)(hA2:A0[2]?=Y b)(ha:vE a=Y a)(hb:vE b=Y b)(h1:sM (au L Z) C 1=S)(h2:sM (au L Z) C 2=S)(h3:sM (au L Z) C 3=S)(h4:sM (au L Z) C 4=S)(h5:sM (au L Z) C 5=S)(h6:sM (au L Z) C 6=S)
  (k:aH ms ⟨A0,h++[.inst C [(1,a),(2,b),(3,.obj (h.length+1)),(4,.none),(5,.bool I),(6,.none)],.dict []],hd⟩=F):
  aH (iT (bk (au L Z) (bI L Z (n+1)) (D (.sref 40)) 0 (am "__init__") [B 0,B 1,B 2])::ms) ⟨A0,h++[.inst C []],hd⟩=F:=
 bq (nY (aR ao (V2 U U (aB (bM hA0 U) (aB (bM hA1 ha) (aC (bM hA2 hb)))) (aO (FG ha hb h1 h2 h3 h4 h5 h6))))) k
theorem Ta{k:Int}{o:Nat}{x:List Nat}:bI L Z (n+2) hd 59 [.obj h.length,.int k,.obj o,.str x] [] (h++[.inst 62 []])=
  .ok .none (h++[.inst 62 [(1,.int k),(2,.obj o),(3,.obj (h.length+1)),(4,.none),(5,.bool I),(6,.none),(7,.str x)],.dict []]):=by
 apply kg XU (L0:=[.obj h.length,.int k,.obj o,.str x,.unb]) rfl;exact LS U U U U U U U U U U U (bQ aq U U U (u8 (by kernel_rfl)))
theorem M0{k:Int}{o m:Nat}:bI L Z (n+2) hd 178 [.obj h.length,.int k,.obj o,.obj m] [] (h++[.inst 181 []])=
  .ok .none (h++[.inst 181 [(1,.int k),(2,.obj o),(3,.obj (h.length+1)),(4,.none),(5,.bool I),(6,.none),(9,.obj m),(10,.none)],.dict []]):=by
 apply kg Uh (L0:=[.obj h.length,.int k,.obj o,.obj m,.unb]) rfl;exact LS U U U U U U U U U U U (bQ aq U U U (bQ ao U U U (u8 (by kernel_rfl))))
theorem Qj{k:Int}{o m:Nat}:bI L Z (n+2) hd 79 [.obj h.length,.int k,.obj o,.obj m] [] (h++[.inst 82 []])=
  .ok .none (h++[.inst 82 [(1,.int k),(2,.obj o),(3,.obj (h.length+1)),(4,.none),(5,.bool I),(6,.none),(8,.obj m)],.dict []]):=by
 apply kg Xr (L0:=[.obj h.length,.int k,.obj o,.obj m,.unb]) rfl;exact LS U U U U U U U U U U U (bQ (dy (aK (aE aq ao U)) (aM U aq)) U U U (u8 (by kernel_rfl)))
theorem Kk{k:Int}{x:List Nat}{ic:Bool}:bI L Z (n+2) hd 218 [.obj h.length,.int k,.none,.str x,.bool ic] [] (h++[.inst 228 []])=
  .ok .none (h++[.inst 228 [(1,.int k),(2,.none),(3,.obj (h.length+1)),(4,.none),(5,.bool I),(6,.none),(11,.str x),(12,.bool ic),(13,.none),(14,.none),(15,.obj (h.length+2)),(16,.obj (h.length+3)),(17,.obj (h.length+4)),(18,.obj (h.length+5)),(19,.none),(20,.none),(21,.none)],.dict [],.dict [],.dict [],.list [],.list []]):=by
 apply kg UA (L0:=[.obj h.length,.int k,.none,.str x,.bool ic,.none,.none,.unb]) rfl;exact LS U U U U U U U U U U U (bQ aq U U (by kernel_rfl) (bQ aq U U (by kernel_rfl) (bQ aq U U (by kernel_rfl) (bQ aq U U (by kernel_rfl)
  (bQ ki U U (by kernel_rfl) (bQ ki U U (by kernel_rfl) (bQ yh U U (by kernel_rfl) (bQ yh U U (by kernel_rfl) (bQ ao U U (by kernel_rfl) (bQ ao U U (by kernel_rfl) (bQ ao U U (by kernel_rfl) (u8 (by kernel_rfl)))))))))))))
theorem Df:bI L Z (n+1) hd 414 [.obj h.length] [] (h++[.inst 431 []])=.ok .none (h++[.inst 431 [(35,.str []),(36,.int 0),(37,.none)]]):=by apply kg Uc (L0:=[.obj h.length,.unb]) rfl;exact bQ ao U U U (bQ ao U U U (bQ ao U U U (u8 (by kernel_rfl))))
theorem CL{w l:Nat}{x:List Nat}:bI L Z (n+1) hd 449 [.obj h.length,.obj w,.str x,.obj l] [] (h++[.inst 494 []])=.ok .none (h++[.inst 494 [(40,.obj w),(7,.str x),(41,.obj l),(42,.int 0),(43,.int 0)]]):=by apply kg T5 (L0:=[.obj h.length,.obj w,.str x,.obj l,.unb]) rfl;exact bQ aq U U U (bQ aq U U U (bQ aq U U U (bQ ao U U U (bQ ao U U U (u8 (by kernel_rfl))))))
noncomputable def yG(nt pr y mo gl ou:Nat)(k:Int)(rdy:Bool)(bX:List (Nat×J)):List (Nat×J):=
 (52,.obj nt)::(53,.obj pr)::(54,.none)::(37,.int 20000)::(55,.int 0)::(56,.int k)::(57,.int 8)::(58,.obj y)::(59,.obj mo)::(60,.int 0)::(61,.int 0)::(62,.obj gl)::(63,.obj ou)::(64,.bool rdy)::bX
def ri(bX:List (Nat×J)):Prop:=bX=[]\/∃v,bX=[(65,v)]
theorem ri.len{bX:List (Nat×J)}(hr:ri bX):bX.length<=1:=by
 rcases hr with rfl|⟨v,rfl⟩
 ·exact Nat.zero_le _
 ·exact Nat.le_refl _
theorem Iy{nt pr y mo gl ou:Nat}{k:Int}{rdy:Bool}{bX:List (Nat×J)}(hr:ri bX):Nat.ble (yG nt pr y mo gl ou k rdy bX).length 100=S:=Nat.ble_eq_true_of_le (Nat.le_trans (Nat.add_le_add_right hr.len 14) (by decide))
theorem yy{α:Type}{m:Nat}:∀{fs:List (Nat×α)},((fs.map (·.1)).all λk=>!Nat.beq k m)=S->(d5 m fs).isNone=S
 |[],_=>rfl
 |p::r,h=>by
  rw[List.map_cons,List.all_cons,ax]at h;unfold d5;have q:Nat.beq p.1 m=I:=by induction q:Nat.beq p.1 m with|true=>rw[q]at h;exact nT h.1|false=>rfl
  exact q▸yy h.2
theorem YD{nt pr y mo gl ou m:Nat}{k:Int}{rdy:Bool}{bX:List (Nat×J)}(hr:ri bX)(hq:([52,53,54,37,55,56,57,58,59,60,61,62,63,64,65].all λk=>!Nat.beq k m)=S)(hx:nk fu 827=I):((d5 m (yG nt pr y mo gl ou k rdy bX)).isNone&&!nk (au L Z) 827)=S:=by
 have h1:(d5 m (yG nt pr y mo gl ou k rdy bX)).isNone=S:=by
  refine yy ?_;rcases hr with rfl|⟨v,rfl⟩
  ·have:([52,53,54,37,55,56,57,58,59,60,61,62,63,64]++[65]).all (λk=>!Nat.beq k m)=S:=hq
   rw[List.all_append,ax]at this;exact this.1
  ·exact hq
 have h2:nk (au L Z) 827=I:=hx;simp only[h1,h2];rfl
inductive oY(h:H)(i:Nat)(nm:List Nat)(N:Nat):Prop where
 |mk (fs:List (Nat×J)) (a:h[i]?=Y (.inst 228 fs)) (b:d5 11 fs=Y (.str nm)) (c:d5 14 fs=Y .none) (d:d5 19 fs=Y .none) (e:fs.length<=N):oY h i nm N
abbrev Mod(h:H)(i:Nat)(nm:List Nat):Prop:=oY h i nm 30
def iA:List (List Nat×J):=(d5 561 fu.sdict).getD []
structure Vg(h:H)(w mo nt pr:Nat)(fs:List (Nat×J))(es:List (List Nat×J)):Prop where
 at':h[w]?=Y (.inst 827 fs)
 nat:h[nt]?=Y (.dict [])
 pre:h[pr]?=Y (.dict [])
 made:h[mo]?=Y (.dict es)
 n1:nt≠mo
 n2:pr≠mo
 nd:(es.map (·.1)).Nodup
 known:∀p∈es,(fG p.1 iA).isSome=S
 mods:∀p∈es,vO (λi=>p.2=.obj i) (λi=>Mod h i p.1)
inductive tg(h:H)(w mo:Nat)(rdy:Bool):Prop where
 |mk (nt pr y gl ou:Nat) (k:Int) (bX:List (Nat×J)) (es:List (List Nat×J)) (hr:ri bX) (W:Vg h w mo nt pr (yG nt pr y mo gl ou k rdy bX) es):tg h w mo rdy
inductive oL(h:H)(mo:Nat)(nm:List Nat):Prop where
 |mk (es:List (List Nat×J)) (v:J) (a:h[mo]?=Y (.dict es)) (b:fG nm es=Y v):oL h mo nm
theorem rH{w mo:Nat}{rdy:Bool}(W:tg h w mo rdy):IX (λk h'=>bI L Z (n+1) hd 608 [.obj w] [] h=.ok (.int k) h') (λ_ h'=>tg h' w mo rdy) (λ_ h'=>aD [w] h h'):=by
 obtain⟨nt,pr,y,gl,ou,k,bX,es,hr,W⟩:=W;refine⟨k+1,h.set w (.inst 827 (yG nt pr y mo gl ou (k+1) rdy bX)),?_,⟨nt,pr,y,gl,ou,k+1,bX,es,hr,dP W.at',iC (eZ W.at' W.nat U) W.nat,iC (eZ W.at' W.pre U) W.pre,iC (eZ W.at' W.made U) W.made,W.n1,W.n2,W.nd,W.known,λp hp=>?_⟩,aD.set (.head _)⟩
 ·apply bC UQ (L0:=[.obj w,.unb]) rfl
  exact bq (rT aq (i9 W.at' U) ao U (kW W.at' U (Iy hr))) (bF (bK (bG aq (dP W.at') U)))
 ·obtain⟨i,e,fs,h1,h2,h3,h4,h5⟩:=W.mods p hp
  exact⟨i,e,fs,iC (eZ W.at' h1 U) h1,h2,h3,h4,h5⟩
theorem o4{w mo m g:Nat}{rdy:Bool}{nm:aV}{es:List (M J)}{vs A:List J}{ag:Bool}{s1:St}{R:lJ St J}{G:cI}(W:tg h w mo rdy)(hm:fm (au L Z) 827 m=Y g)(hq:([52,53,54,37,55,56,57,58,59,60,61,62,63,64,65].all λk=>!Nat.beq k m)=S)(h2:df es ⟨A,h,ag⟩=.ok vs s1)(h3:fK G g (.obj w::vs) [] s1=R):
  u4 (au L Z) G (.obj w) m nm es ⟨A,h,ag⟩=R:=
 let⟨_,_,_,_,_,_,_,_,hr,W⟩:=W;jN W.at' (cD hm (YD hr hq U) h2 h3)
end
section
variable{L:Nat}{Z:List Int}{n:Nat}{hd:Bool}{h:H}{a b c d:J}
theorem nW:∀l:List Nat,eqL l l=S
 |[]=>rfl
 |a::r=>by show(Nat.beq a a&&eqL r r)=S;rw[Nat.beq_refl,nW r];rfl
theorem xf:∀{l m:List Nat},eqL l m=S->l=m
 |[],[],_=>rfl
 |[],_::_,h=>by exact nT h
 |_::_,[],h=>by exact nT h
 |a::r,b::q,h=>by have h2:=bN.mp h;exact(Nat.eq_of_beq_eq_true h2.1)▸(xf h2.2)▸rfl
theorem tf{α:Type}{k:List Nat}{v:α}:∀{es:List (List Nat×α)},fG k es=Y v->(k,v)∈es
 |[],h=>by exact nS h
 |p::r,h=>by unfold fG at h;induction q:eqL p.1 k with
  |true=>rw[q]at h;obtain rfl:=sI h;refine(xf q)▸?_;exact .head _
  |false=>rw[q]at h;exact .tail _ (tf h)
theorem Gv{α:Type}{k:List Nat}:∀{es:List (List Nat×α)},fG k es=.none->k∉es.map (·.1)
 |[],_,m=>by cases m
 |p::r,h,m=>by unfold fG at h;induction q:eqL p.1 k with
  |true=>replace h:=q▸h;cases h
  |false=>
   replace h:=q▸h;rcases List.mem_cons.mp m with e|m
   ·have e:k=p.1:=e
    rw[e,nW]at q;exact nF q
   ·exact Gv h m
theorem mN{α:Type}{k:List Nat}{v:α}:∀{es:List (List Nat×α)},fG k es=.none->nR k v es=es++[(k,v)]
 |[],_=>rfl
 |p::r,h=>by unfold fG at h;unfold nR;induction q:eqL p.1 k with
  |true=>rw[q]at h;exact TF h
  |false=>rw[q]at h;rw[mN (by exact h)];rfl
theorem CV{α:Type}{k:List Nat}{v:α}{fs:List (List Nat×α)}:∀{es:List (List Nat×α)},fG k es=Y v->fG k (es++fs)=Y v
 |[],h=>by exact nS h
 |p::r,h=>by refine List.cons_append▸?_;unfold fG at h⊢;induction q:eqL p.1 k with
  |true=>rw[q]at h;exact h
  |false=>rw[q]at h;exact CV h
theorem DA{α:Type}{k:List Nat}{v:α}:∀{es:List (List Nat×α)},fG k es=.none->fG k (es++[(k,v)])=Y v
 |[],_=>by show(bif eqL k k then Y v else .none)=_;rw[nW];rfl
 |p::r,h=>by rw[List.cons_append];unfold fG at h⊢;induction q:eqL p.1 k with
  |true=>rw[q]at h;exact TF h
  |false=>rw[q]at h;exact DA h
theorem wa:∀{l m:List (List Nat)},l.Nodup->(∀x∈l,x∈m)->l.length<=m.length
 |[],_,_,_=>Nat.zero_le _
 |x::l,m,nd,s=>by have nd:=List.nodup_cons.mp nd;have h1:=s x (.head _);have h2:l.length<=(m.erase x).length:=wa nd.2 λy hy=>(List.mem_erase_of_ne λe=>nd.1 (by exact e▸hy)).mpr (s y (.tail _ hy));rw[List.length_erase_of_mem h1]at h2;have:=List.length_pos_of_mem h1;refine List.length_cons▸?_;exact Nat.le_trans (Nat.succ_le_succ h2) (Nat.le_of_eq (Nat.sub_add_cancel this))
theorem As:iA.length=40:=by kernel_rfl
theorem rB{es:List (List Nat×J)}(nd:(es.map (·.1)).Nodup)(k:∀p∈es,(fG p.1 iA).isSome=S):es.length<=40:=by refine As▸(List.length_map (f:=(·.1)) (as:=es))▸(List.length_map (f:=(·.1)) (as:=iA))▸?_;refine wa nd λx hx=>?_;obtain⟨p,hp,rfl⟩:=List.mem_map.mp hx;obtain⟨v,hv⟩:=bL.mp (k p hp);exact List.mem_map_of_mem (f:=(·.1)) (tf hv)
theorem oY.get{h':H}{i N:Nat}{nm:List Nat}(M:oY h i nm N){X:List Nat}(K:aD X h h')(hx:i∉X):oY h' i nm N:=let⟨fs,a,b,c,d,e⟩:=M;⟨fs,K.get a hx,b,c,d,e⟩
theorem oY.ne{i j N:Nat}{nm:List Nat}{o:AO}(M:oY h i nm N)(e:h[j]?=Y o)(k:Nat.beq 238 (v9 o)=I):i≠j:=let⟨_,a,_,_,_,_⟩:=M;eZ a e k
theorem tq{α:Type}{k m:Nat}{v:α}(q:Nat.beq m k=I):∀{fs:List (Nat×α)},d5 k (lP m v fs)=d5 k fs
 |[]=>by show(bif Nat.beq m k then Y v else .none)=_;refine q▸?_;rfl
 |p::r=>by unfold lP;induction z:Nat.beq p.1 m with
  |true=>have z:=Nat.eq_of_beq_eq_true z;show(bif Nat.beq m k then Y v else d5 k r)=(bif Nat.beq p.1 k then Y p.2 else d5 k r);rw[z,q];rfl
  |false=>show(bif Nat.beq p.1 k then Y p.2 else d5 k (lP m v r))=(bif Nat.beq p.1 k then Y p.2 else d5 k r);rw[tq q]
theorem zX{α:Type}{m:Nat}{v:α}:∀{fs:List (Nat×α)},(lP m v fs).length<=fs.length+1
 |[]=>by show 1<=0+1;lia
 |p::r=>by unfold lP;induction z:Nat.beq p.1 m with
  |true=>exact Nat.le_succ _
  |false=>exact Nat.succ_le_succ zX
theorem oY.ok{i N:Nat}{nm:List Nat}(M:oY h i nm N)(hN:N<=30):Mod h i nm:=let⟨fs,a,b,c,d,e⟩:=M;⟨fs,a,b,c,d,Nat.le_trans e hN⟩
theorem EJ{i k N:Nat}{nm:List Nat}{v:J}{A:List J}{hd:Bool}(M:oY h i nm N)(hN:N<=60)(hk:sM (au L Z) 228 k=S)(h11:Nat.beq k 11=I)(h14:Nat.beq k 14=I)(h19:Nat.beq k 19=I):
  J4 (λh'=>AC (au L Z) k (.obj i) v ⟨A,h,hd⟩=.ok () ⟨A,h',hd⟩) (λh'=>oY h' i nm (N+1)) (λh'=>aD [i] h h'):=
 let⟨fs,a,b,c,d,e⟩:=M
 ⟨h.set i (.inst 228 (lP k v fs)),kW a hk (Nat.ble_eq_true_of_le (by lia)),⟨_,dP a,(tq h11).trans b,(tq h14).trans c,(tq h19).trans d,Nat.le_trans zX (Nat.succ_le_succ e)⟩,aD.set (.head _)⟩
def rC(o:AO):Bool:=!(Nat.beq (v9 o) 2||Nat.beq (v9 o) 837||Nat.beq (v9 o) 238)
theorem tg.keep{X:List Nat}{h':H}{w mo:Nat}{rdy:Bool}(W:tg h w mo rdy)(K:aD X h h')(hx:∀i o,h[i]?=Y o->rC o=I->i∉X):tg h' w mo rdy:=by obtain⟨nt,pr,y,gl,ou,k,bX,es,hr,W⟩:=W;exact⟨nt,pr,y,gl,ou,k,bX,es,hr,K.get W.at' (hx _ _ W.at' U),K.get W.nat (hx _ _ W.nat U),K.get W.pre (hx _ _ W.pre U),K.get W.made (hx _ _ W.made U),W.n1,W.n2,W.nd,W.known,λp hp=>by obtain⟨i,e,fs,a,b,c,d,e2⟩:=W.mods p hp;exact⟨i,e,fs,K.get a (hx _ _ a U),b,c,d,e2⟩⟩
theorem oL.keep{X:List Nat}{h':H}{mo:Nat}{nm:List Nat}(A:oL h mo nm)(K:aD X h h')(hx:mo∉X):oL h' mo nm:=let⟨es,v,a,b⟩:=A;⟨es,v,K.get a hx,b⟩
theorem tg.app{t:H}{w mo:Nat}{rdy:Bool}(W:tg h w mo rdy):tg (h++t) w mo rdy:=W.keep (aD.app (X:=[])) λ_ _ _ _ m=>by cases m
def Cl(h:H)(mo:Nat):Prop:=oL h mo [67,108,97,115,115]->oL h mo [77,111,100,117,108,101]
structure Cu(h h':H)(w mo:Nat)(rdy:Bool)(nm:List Nat)(i:Nat):Prop where
 mod:Mod h' i nm
 ok:tg h' w mo rdy
 keep:aD [w,mo] h h'
 has:∀k,oL h mo k->oL h' mo k
 new:oL h' mo nm
 cl:Cl h mo->Cl h' mo
def Bs(L:Nat)(Z:List Int)(w mo:Nat)(rdy:Bool)(N:Nat)(nm:List Nat)(ah:List (List Nat)):Prop:=
 ∀n h,tg h w mo rdy->(∀k∈ah,oL h mo k)->Oy (λi h'=>bI L Z (n+N) I 629 [.obj w,.str nm] [] h=.ok (.obj i) h') (λi h'=>Cu h h' w mo rdy nm i)
theorem pc{w mo:Nat}{rdy:Bool}{nm:List Nat}(W:tg h w mo rdy)(A:oL h mo nm):vO (λi=>bI L Z (n+1) hd 629 [.obj w,.str nm] [] h=.ok (.obj i) h) (λi=>Cu h h w mo rdy nm i):=by
 obtain⟨nt,pr,y,gl,ou,k,bX,es,hr,W'⟩:=id W;obtain⟨es',v,a,b⟩:=id A;have:es'=es:=by replace a:=W'.made▸a;cases a;rfl
 subst this;obtain⟨i,e,M⟩:=W'.mods _ (tf b);have e0:(fG nm es').getD .none=.obj i:=by rw[b];exact e
 refine⟨i,?_,M,W,aD.refl,λ_ x=>x,A,λc=>c⟩;apply bC NZ (L0:=[.obj w,.str nm,.unb,.unb]) rfl;exact bq (s1:=⟨[.obj w,.str nm,.obj i,.unb],h,hd⟩) (bz (aR (bG aq W'.at' U) (jN W'.made (FJ U (aC aq) W'.made))) (by rw[e0];rfl)) (bF (bK (dy (aK (aE aq ao U)) (aM U aq))))
theorem xS{w mo i:Nat}{rdy:Bool}{nm:List Nat}{h':H}{es:List (List Nat×J)}(W:tg h w mo rdy)(ha:h[mo]?=Y (.dict es))(hl:fG nm es=.none)(e:bI L Z n hd 634 [.obj w,.str nm] [] h=.ok (.obj i) h'):bI L Z (n+1) hd 629 [.obj w,.str nm] [] h=.ok (.obj i) h':=by
 obtain⟨nt,pr,y,gl,ou,k,bX,es',hr,W'⟩:=id W;have e0:(fG nm es).getD .none=.none:=by rw[hl];rfl
 refine bC (A0:=[.obj w,.str nm,.none,.unb]) (B0:=hd) NZ (L0:=[.obj w,.str nm,.unb,.unb]) U ?_;exact bq (s1:=⟨[.obj w,.str nm,.none,.unb],h,hd⟩) (bz (aR (bG aq W'.at' U) (jN ha (FJ U (aC aq) ha))) (by rw[e0];rfl)) (bF (bK (dy (aK (aE aq ao U)) (br U (aR aq (o4 W U U (aC aq) (aO e)))))))
end
section
variable{L:Nat}{Z:List Int}{n:Nat}{hd:Bool}{h h0:H}{w mo i N:Nat}{rdy:Bool}{nm:List Nat}
theorem Bs.up{ah:List (List Nat)}{N':Nat}(ag:Bs L Z w mo rdy N nm ah)(hN:N<=N'):Bs L Z w mo rdy N' nm ah:=λn h W A=>by have:=ag (n+(N'-N)) h W A;replace this:=(show n+(N'-N)+N=n+N' by exact(Nat.add_assoc _ _ _).trans (congrArg _ (Nat.sub_add_cancel hN)))▸this;exact this
theorem Bs.more{ah S':List (List Nat)}(ag:Bs L Z w mo rdy N nm ah)(hS:∀k∈ah,k∈S'):Bs L Z w mo rdy N nm S':=λn h W A=>ag n h W λk hk=>A k (hS k hk)
theorem sq(W:tg h w mo rdy)(hn:nm.length<=1000):bI L Z (n+1) hd 641 [.obj w,.str nm] [] h=.ok .none h:=by obtain⟨nt,pr,y,gl,ou,k,bX,es,hr,W⟩:=W;have h1:∀{x:Nat},h[x]?=Y (.dict [])->∀A ag,p8 (au L Z) .In (.str (nm++[46])) (.obj x) ⟨A,h,ag⟩=.ok (.bool I) ⟨A,h,ag⟩:=λe A ag=>az (JV e U) rfl;have hz:nm.length+[46].length<=16777216:=Nat.le_trans (Nat.add_le_add_right hn 1) (by decide);apply kg TN (L0:=[.obj w,.str nm,.unb]) rfl;refine bO (aY (qJ (aK (aE (bj aq ao (cC hz)) (bG aq W.at' U) (h1 W.nat _ _))) (aM U (qJ (aK (aE (bj aq ao (cC hz)) (bG aq W.at' U) (h1 W.pre _ _))) (aM U jk)))) (aM U aZ))
structure Mk(h0 h:H)(w mo:Nat)(rdy:Bool)(nm:List Nat)(i N:Nat):Prop where
 mod:oY h i nm N
 ok:tg h w mo rdy
 keep:aD [w,mo] h0 h
 has:∀k,oL h0 mo k->oL h mo k
 new:oL h mo nm
 fresh:h0.length<=i
theorem Mk.nin(M:Mk h0 h w mo rdy nm i N):i∉[w,mo]:=
 let⟨_,_,_,_,_,_,_,_,_,W⟩:=M.ok;let⟨_,a,_,_,_,_⟩:=M.mod;Mv (eZ a W.at' U) (eZ a W.made U)
theorem tg.list_nin{j:Nat}{xs:List J}(W:tg h w mo rdy)(e:h[j]?=Y (.list xs)):j∉[w,mo]:=
 let⟨_,_,_,_,_,_,_,_,_,W⟩:=W;Mv (eZ e W.at' U) (eZ e W.made U)
theorem Mk.apart{X:List Nat}{h':H}(M:Mk h0 h w mo rdy nm i N)(K:aD X h h')(hx:∀i o,h[i]?=Y o->rC o=I->i∉X)(hf:∀x∈X,h0.length<=x):Mk h0 h' w mo rdy nm i N:=
 have hm:mo∉X:=let⟨_,_,_,_,_,_,_,_,_,W⟩:=M.ok;hx _ _ W.made rfl
 ⟨let⟨fs,a,b,c,d,e⟩:=M.mod;⟨fs,K.get a (hx _ _ a U),b,c,d,e⟩,M.ok.keep K hx,⟨Nat.le_trans M.keep.1 K.1,λj hj hn=>(K.2 j (Nat.lt_of_lt_of_le hj M.keep.1) (λm=>absurd (hf j m) (Nat.not_le.mpr hj))).trans (M.keep.2 j hj hn)⟩,λk A=>(M.has k A).keep K hm,M.new.keep K hm,M.fresh⟩
theorem Mk.app{t:H}(M:Mk h0 h w mo rdy nm i N):Mk h0 (h++t) w mo rdy nm i N:=M.apart (aD.app (X:=[])) (λ_ _ _ _ m=>by cases m) λ_ m=>by cases m
theorem Mk.set{j:Nat}{o p:AO}(M:Mk h0 h w mo rdy nm i N)(e:h[j]?=Y p)(hp:rC p=S)(hj:h0.length<=j):Mk h0 (h.set j o) w mo rdy nm i N:=M.apart (aD.set (.head _)) (λk q e2 hk m=>by rw[List.mem_singleton.mp m,e]at e2;obtain rfl:=sI e2;rw[hp]at hk;exact nF hk) λx m=>by simp only[List.mem_singleton.mp m];exact hj
theorem Mk.store{k:Nat}{v:J}{A:List J}(M:Mk h0 h w mo rdy nm i N)(hN:N<=29)(hk:sM (au L Z) 228 k=S)(h11:Nat.beq k 11=I)(h14:Nat.beq k 14=I)(h19:Nat.beq k 19=I):
  J4 (λh'=>AC (au L Z) k (.obj i) v ⟨A,h,hd⟩=.ok () ⟨A,h',hd⟩) (λh'=>Mk h0 h' w mo rdy nm i (N+1)) (λh'=>∀k,oL h mo k↔oL h' mo k):=by
 obtain⟨h',e,M2,K⟩:=EJ (L:=L) (Z:=Z) (v:=v) (A:=A) (hd:=hd) M.mod (Nat.le_trans hN (by decide)) hk h11 h14 h19;have hi:=qp M.nin;have hm:=hY (jP hi.2);refine⟨h',e,⟨M2,?_,⟨Nat.le_trans M.keep.1 K.1,λj hj hn=>(K.2 j (Nat.lt_of_lt_of_le hj M.keep.1) (λm=>by replace hj:=(List.mem_singleton.mp m)▸hj;exact absurd M.fresh (Nat.not_le.mpr hj))).trans (M.keep.2 j hj hn)⟩,λk A=>(M.has k A).keep K hm,M.new.keep K hm,M.fresh⟩,λk=>⟨λA=>A.keep K hm,λ⟨es,v,a,b⟩=>⟨es,v,by obtain⟨_,_,_,_,_,_,_,_,_,W⟩:=M.ok;have:=(K.get W.made hm).symm.trans a;exact this▸W.made,b⟩⟩⟩;obtain⟨nt,pr,y,gl,ou,kk,bX,es,hr,W⟩:=M.ok;obtain⟨fs,a,a1,_,_,_⟩:=M.mod;refine⟨nt,pr,y,gl,ou,kk,bX,es,hr,K.get W.at' (hY (jP hi.1)),K.get W.nat (hY (eZ W.nat a U)),K.get W.pre (hY (eZ W.pre a U)),K.get W.made hm,W.n1,W.n2,W.nd,W.known,λp hp=>?_⟩;obtain⟨j,ej,Mj⟩:=W.mods p hp;refine⟨j,ej,?_⟩
 by_cases hj:j=i
 ·obtain rfl:=Eq.symm hj
  obtain⟨fs2,a2,b2,_,_,_⟩:=Mj;replace a2:=a▸a2;cases a2;obtain⟨f3,a3,b3,c3,d3,e3⟩:=M2;replace a1:=b2▸a1;cases a1;exact⟨f3,a3,b3,c3,d3,Nat.le_trans e3 (Nat.succ_le_succ hN)⟩
 ·exact Mj.get K (hY hj)
theorem Mk.call{p:List Nat}{ah:List (List Nat)}{N':Nat}(M:Mk h0 h w mo rdy nm i N)(ag:Bs L Z w mo rdy N' p ah)(A:∀k∈ah,oL h mo k):TC (λj h'=>bI L Z (n+N') I 629 [.obj w,.str p] [] h=.ok (.obj j) h') (λ_ h'=>Mk h0 h' w mo rdy nm i N) (λ_ h'=>oL h' mo p/\(Cl h mo->Cl h' mo)) (λ_ h'=>aD [w,mo] h h') (λ_ h'=>∀k,oL h mo k->oL h' mo k):=by obtain⟨j,h',e,P⟩:=ag n h M.ok A;exact⟨j,h',e,⟨M.mod.get P.keep M.nin,P.ok,M.keep.trans P.keep,λk A=>P.has k (M.has k A),P.has _ M.new,M.fresh⟩,⟨P.new,P.cl⟩,P.keep,P.has⟩
end
section
variable{L:Nat}{Z:List Int}{n:Nat}{hd:Bool}{h h0:H}{w mo i N N':Nat}{rdy:Bool}{nm:List Nat}
noncomputable def vB(p:Option (List Nat)):J:=match p with
 |some x=>.str x
 |.none=>.none
def o3:List (List Nat×J):=(d5 564 fu.sdict).getD []
def Gl(nm:List Nat)(mix:Option (List Nat)):Prop:=match mix with
 |.none=>fG nm o3=.none
 |some o=>∃q,fG nm o3=Y (.sref q)/\d5 q fu.stup=Y [.str o]
theorem IA{es:List (List Nat×J)}{fs:List (Nat×J)}{t:H}{k:Int}{bX:List (Nat×J)}{nt pr y gl ou:Nat}(hr:ri bX)(W:Vg h w mo nt pr (yG nt pr y mo gl ou k rdy bX) es)(hh:aD [w] h0 h)(hl:fG nm es=.none)(hk:(fG nm iA).isSome=S)(h0m:h0[mo]?=Y (.dict es))
  (f11:d5 11 fs=Y (.str nm)) (f14:d5 14 fs=Y .none) (f19:d5 19 fs=Y .none) (fl:fs.length<=17):Mk h0 ((h++.inst 228 fs::t).set mo (.dict (nR nm (.obj h.length) es))) w mo rdy nm h.length 17:=by
 have hmo:h.length≠mo:=jP (Nat.ne_of_lt (qF W.made));have M:oY ((h++.inst 228 fs::t).set mo (.dict (nR nm (.obj h.length) es))) h.length nm 17:=⟨fs,iC (jP hmo) sD,f11,f14,f19,fl⟩;have K:aD [mo] h ((h++.inst 228 fs::t).set mo (.dict (nR nm (.obj h.length) es))):=aD.app.trans (aD.set (.head _));have e1:((h++.inst 228 fs::t).set mo (.dict (nR nm (.obj h.length) es)))[mo]?=Y (.dict (nR nm (.obj h.length) es)):=dP (bH W.made);have hn:=Gv hl;refine⟨M,⟨nt,pr,y,gl,ou,k,bX,_,hr,K.get W.at' (hY (eZ W.at' W.made U)),K.get W.nat (hY W.n1),K.get W.pre (hY W.n2),e1,W.n1,W.n2,?_,?_,?_⟩,?_,?_,⟨_,_,e1,by exact(mN hl)▸DA hl⟩,?_⟩
 ·exact(mN hl)▸List.map_append▸List.nodup_append.mpr ⟨W.nd,List.nodup_cons.mpr ⟨List.not_mem_nil,List.nodup_nil⟩,λa ha b hb e=>hn (by have hb:b=nm:=List.mem_singleton.mp hb;exact hb▸e▸ha)⟩
 ·intro p hp
  replace hp:=(mN hl)▸hp;rcases List.mem_append.mp hp with hp|hp
  ·exact W.known p hp
  ·exact(List.mem_singleton.mp hp)▸hk
 ·intro p hp
  replace hp:=(mN hl)▸hp;rcases List.mem_append.mp hp with hp|hp
  ·obtain⟨j,ej,Mj⟩:=W.mods p hp
   exact⟨j,ej,Mj.get K (hY (Mj.ne W.made U))⟩
  ·exact(List.mem_singleton.mp hp)▸⟨h.length,U,M.ok (by decide)⟩
 ·exact(hh.mono λi _ m=>by exact(List.mem_singleton.mp m)▸.head _).trans (K.mono λi _ m=>by exact(List.mem_singleton.mp m)▸.tail _ (.head _))
 ·rintro k' ⟨es',v,a,b⟩
  replace a:=h0m▸a;cases a;exact⟨_,v,e1,by exact(mN hl)▸CV b⟩
 ·exact hh.1
theorem DO:d5 561 (au L Z).sdict=Y iA:=by kernel_rfl
theorem C0:d5 564 (au L Z).sdict=Y o3:=by kernel_rfl
theorem Cl.keep{X:List Nat}(c:Cl h mo)(W:tg h w mo rdy){h':H}(K:aD X h h')(hx:mo∉X:=by exact List.not_mem_nil):Cl h' mo:=by obtain⟨_,_,_,_,_,_,_,_,_,W⟩:=W;have e:=K.get W.made hx;rintro⟨es,v,a,b⟩;have:=e.symm.trans a;cases this;exact(c ⟨_,v,W.made,b⟩).keep K hx
theorem Ok{mix:Option (List Nat)}{ah:List (List Nat)}{A0:List J}{a3 a4 a2 a5:J}(hA0:A0=[.obj w,.str nm,a2,a3,a4,a5])(hm:Gl nm mix)(M:Mk h0 h w mo rdy nm i N)(Bm:∀o,mix=Y o->Bs L Z w mo rdy N' o ah)(hS:∀k∈ah,oL h mo k)(hf:h0.length<=h.length):
  Yf (λj A h'=>kT (bk (au L Z) (bI L Z (n+N')) (B 0) 66 (am "builtin") [B 5]) 5 (iU (au L Z) (bk (au L Z) (bI L Z (n+N')) (D (.sref 564)) 68 (am "get") [B 1,mTup []])) .none ⟨A0,h,I⟩=.ok (.obj j) ⟨A,h',I⟩) (λ_ A _=>A[3]?=Y a3) (λ_ A _=>A[0]?=Y (.obj w)) (λ_ A _=>A[1]?=Y (.str nm)) (λ_ _ h'=>Mk h0 h' w mo rdy nm i N/\(Cl h mo->Cl h' mo)/\∀k,oL h mo k->oL h' mo k):=by
 subst hA0;induction mix with
 |none=>
  have e0:(fG nm o3).getD (.obj h.length)=.obj h.length:=by refine(show fG nm o3=.none from hm)▸?_;rfl
  refine⟨_,_,_,ol U (PU (i:=h.length) (aR ao (by have:=W9 (T:=au L Z) (G:=bI L Z (n+N')) (n:=68) (nm:=am "get") (es:=[B 1,mTup []]) (C0 (L:=L) (Z:=Z)) U (aB (bM (A0:=[.obj w,.str nm,a2,a3,a4,a5]) (P0:=h) (B0:=I) (i:=1) U U) (aC (gm cy U)));replace this:=e0▸this;exact this)) ba) (by show 5<6;decide) (rR (lK (Vy (bH ba) U))),U,U,U,M.app.app,λc=>c.keep M.ok (aD.app.trans aD.app),λk A=>A.keep (aD.app.trans aD.app) (X:=[]) List.not_mem_nil⟩
 |some o=>
  obtain⟨q,hq,hq2⟩:=hm;have e0:(fG nm o3).getD (.obj h.length)=.sref q:=by refine hq▸?_;rfl
  have M1:Mk h0 ((h++[.tup []])++[.list []]) w mo rdy nm i N:=M.app.app;have hK:aD [] h ((h++[.tup []])++[.list []]):=aD.app.trans aD.app;obtain⟨m,h1,e1,M2,⟨_,C2⟩,K2,H2⟩:=M1.call (n:=n) (Bm o U) λk hk=>(hS k hk).keep hK List.not_mem_nil;have hL:h1[(h++[AO.tup []]).length]?=Y (.list []):=K2.get ba (M1.ok.list_nin ba);have nL:mo∉[(h++[AO.tup []]).length]:=λq=>M2.ok.list_nin hL (by exact(List.mem_singleton.mp q)▸.tail _ (.head _));refine⟨_,_,_,ol U (Cz (ak:=q) (aR ao (by have:=W9 (T:=au L Z) (G:=bI L Z (n+N')) (n:=68) (nm:=am "get") (es:=[B 1,mTup []]) (C0 (L:=L) (Z:=Z)) U (aB (bM (A0:=[.obj w,.str nm,a2,a3,a4,a5]) (P0:=h) (B0:=I) (i:=1) U U) (aC (gm cy U)));replace this:=e0▸this;exact this)) hq2) (by show 5<6;decide) (ur (oz kO (by show 5<6;decide) U U (aR aq (o4 M1.ok U U (aC aq) (aO e1))) hL (by decide)) (rR (lK BE))),U,U,U,M2.set hL U (by refine List.length_append▸?_;exact bE [_,_] [(.v 0,.v 1)] 0 [1] (.v 0) (.a (.v 1) (.a (.l 0) (.l 1))) U hf),λc=>(C2 (c.keep M.ok hK)).keep M2.ok (aD.set (X:=[(h++[AO.tup []]).length]) (.head _)) nL,λk A=>(H2 k (A.keep hK List.not_mem_nil)).keep (aD.set (X:=[(h++[AO.tup []]).length]) (.head _)) nL⟩
end
section
variable{L:Nat}{Z:List Int}{n:Nat}{hd:Bool}{h h0:H}{w mo i N N':Nat}{rdy:Bool}{nm:List Nat}
noncomputable def mE(ic:Bool):List Nat:=bif ic then[67,108,97,115,115]else[77,111,100,117,108,101]
theorem Cl.iff{h':H}(e:∀k,oL h mo k↔oL h' mo k)(c:Cl h mo):Cl h' mo:=λa=>(e _).mp (c ((e _).mpr a))
theorem yA{k:List Nat}{v:J}(q:nm≠k):∀{es:List (List Nat×J)},fG k (es++[(nm,v)])=fG k es
 |[]=>by show(bif eqL nm k then Y v else .none)=_;induction z:eqL nm k with
  |true=>exact absurd (xf z) q
  |false=>rfl
 |p::r=>by show(bif eqL p.1 k then Y p.2 else fG k (r++[(nm,v)]))=(bif eqL p.1 k then Y p.2 else fG k r);rw[yA q]
theorem Md{x y:List Nat}(h:Y (J.str x)=Y (J.str y)):x=y:=by cases h;rfl
theorem sA{ic:Bool}{par mix:Option (List Nat)}{ah:List (List Nat)}(hic:∀s,p8 (au L Z) .NotIn (.str nm) (.sref 560) s=.ok (.bool ic) s)(hk:(fG nm iA).isSome=S)(hp:fG nm iA=Y (vB par))(hm:Gl nm mix)(hn:nm.length<=1000)
  (Bp:∀p,par=Y p->Bs L Z w mo rdy (N+2) p (nm::ah)) (Bo:Bs L Z w mo rdy (N+2) (mE ic) (nm::(par.toList++ah))) (Bm:∀o,mix=Y o->Bs L Z w mo rdy (N+2) o (nm::mE ic::(par.toList++ah))) {n:Nat} {h:H} (W:tg h w mo rdy) (A:∀k∈ah,oL h mo k) (hl0:∀es,h[mo]?=Y (.dict es)->fG nm es=.none):Oy (λi h'=>bI L Z (n+(N+4)) I 629 [.obj w,.str nm] [] h=.ok (.obj i) h') (λi h'=>Cu h h' w mo rdy nm i/\(∀p∈par.toList,oL h' mo p)/\oL h' mo (mE ic)):=by
 obtain⟨nt,pr,y,gl,ou,k0,bX,es,hr,W0⟩:=id W;have hl:=hl0 es W0.made
 suffices hs:Oy (λv h'=>bI L Z (n+(N+2)+1) I 634 [.obj w,.str nm] [] h=.ok v h') (λv h'=>∃i,v=.obj i/\Cu h h' w mo rdy nm i/\(∀p∈par.toList,oL h' mo p)/\oL h' mo (mE ic)) by obtain⟨v,h',e,i,rfl,P⟩:=hs;exact⟨i,h',xS (n:=n+(N+3)) W W0.made hl e,P⟩
 obtain⟨k,h1,e1,W1,K1⟩:=rH (L:=L) (Z:=Z) (n:=n+(N+1)) (hd:=I) W;obtain⟨nt1,pr1,y1,gl1,ou1,k1,rest1,es1,hr1,W1'⟩:=id W1;have hmow:mo≠w:=eZ W0.made W0.at' rfl;have e3:es1=es:=by have:=(K1.get W0.made (hY hmow)).symm.trans W1'.made;cases this;rfl
 subst e3;have e2:=Kk (L:=L) (Z:=Z) (n:=n+N) (hd:=I) (h:=h1) (k:=k) (x:=nm) (ic:=ic);have M3:=IA (rdy:=rdy) (t:=[.dict [],.dict [],.dict [],.list [],.list []]) (fs:=[(1,.int k),(2,.none),(3,.obj (h1.length+1)),(4,.none),(5,.bool I),(6,.none),(11,.str nm),(12,.bool ic),(13,.none),(14,.none),(15,.obj (h1.length+2)),(16,.obj (h1.length+3)),(17,.obj (h1.length+4)),(18,.obj (h1.length+5)),(19,.none),(20,.none),(21,.none)]) hr1 W1' K1 hl hk W0.made U U U (Nat.le_refl _);have hS0:∀{h':H}{N},Mk h h' w mo rdy nm h1.length N->∀k∈nm::ah,oL h' mo k:=λM k hk=>by
  rcases List.mem_cons.mp hk with e|hk
  ·exact e▸M.new
  ·exact M.has k (A k hk)
 refine Dv U4 (L0:=[.obj w,.str nm,.unb,.unb,.unb,.unb]) U ?_;unfold Ri;refine bU (s1:=⟨[.obj w,.str nm,.bool ic,.unb,.unb,.unb],h,I⟩) (bz (aE aq ao (hic _)) U) ?_;refine bU (s1:=⟨[.obj w,.str nm,.bool ic,.obj h1.length,.unb,.unb],_,I⟩) (bz (aJ U (aB (aR aq (o4 W U U cy (aO e1))) (aB ao (aB aq (aC aq)))) (nJ U U U e2)) U) ?_;refine bU (s1:=⟨[.obj w,.str nm,.bool ic,.obj h1.length,.unb,.unb],_,I⟩) (bz aq (LJ (bG aq (bH W1'.at') U) aq (bH W1'.made) (Nat.lt_of_le_of_lt (rB W1'.nd W1'.known) (by decide)))) ?_;obtain⟨h4,e4,M4,H34⟩:=M3.store (hd:=I) (L:=L) (Z:=Z) (k:=20) (v:=.str nm) (A:=[.obj w,.str nm,.bool ic,.obj h1.length,.unb,.unb]) (by decide) U U U rfl;refine bU (s1:=⟨[.obj w,.str nm,.bool ic,.obj h1.length,.unb,.unb],h4,I⟩) (bz aq (az aq e4)) ?_;refine bU (s1:=⟨[.obj w,.str nm,.bool ic,.obj h1.length,vB par,.unb],h4,I⟩) (bz (DF ao aq (by exact DO▸hp)) U) ?_;have C4:nm≠[67,108,97,115,115]->Cl h mo->Cl h4 mo:=λq c a=>by
  have a3:=(H34 _).mpr a;obtain⟨es',v,x,y⟩:=a3;have:es'=nR nm (.obj h1.length) es1:=by have:=x.symm.trans (dP (bH W1'.made));cases this;rfl
  subst this;replace y:=(mN hl)▸y;induction z:fG [67,108,97,115,115] es1 with
  |some v2=>exact(H34 _).mp (M3.has _ (c ⟨_,v2,W0.made,z⟩))
  |none=>replace y:=(yA q)▸y;replace y:=z▸y;cases y
 have hpar:IX (λv h5=>fD (bJ (aW (au L Z) .Is (B 4) (D .none))) (D .none) (bk (au L Z) (bI L Z (n+(N+2))) (B 0) 66 (am "builtin") [B 4]) ⟨[.obj w,.str nm,.bool ic,.obj h1.length,vB par,.unb],h4,I⟩=.ok v ⟨[.obj w,.str nm,.bool ic,.obj h1.length,vB par,.unb],h5,I⟩) (λ_ h5=>Mk h h5 w mo rdy nm h1.length 18) (λ_ h5=>(∀p∈par.toList,oL h5 mo p)/\(Cl h mo->Cl h5 mo)):=by clear Bo Bm;induction par with
  |none=>exact⟨.none,h4,dy (aK (aE aq ao U)) (br U ao),M4,(λp hp=>by cases hp),λc=>C4 (λe=>by replace hp:=e▸hp;have:=hp.symm.trans (show fG [67,108,97,115,115] iA=Y (.str [77,111,100,117,108,101]) by kernel_rfl);cases this) c⟩
  |some p=>
   obtain⟨j,h5,e5,M5,⟨H5,C5⟩,_⟩:=M4.call (n:=n) (Bp p U) (hS0 M4);refine⟨.obj j,h5,dy (aK (aE aq ao U)) (aM U (aR aq (o4 M4.ok U U (aC aq) (aO e5)))),M5,(λq hq=>by exact(List.mem_singleton.mp hq)▸H5),λc=>?_⟩
   by_cases q:nm=[67,108,97,115,115]
   ·have e2:p=[77,111,100,117,108,101]:=Md (hp.symm.trans ((congrArg (fG · iA) q).trans (by kernel_rfl)))
    exact λ_=>e2▸H5
   ·exact C5 (C4 q c)
 obtain⟨v5,h5,e5,M5,H5,C5⟩:=hpar;obtain⟨h6,e6,M6,H56⟩:=M5.store (hd:=I) (L:=L) (Z:=Z) (k:=13) (v:=v5) (A:=[.obj w,.str nm,.bool ic,.obj h1.length,vB par,.unb]) (by decide) U U U rfl;refine bU (bz e5 (az aq e6)) ?_;obtain⟨j7,h7,e7,M7,⟨H7,C7⟩,_,H67⟩:=M6.call (n:=n) Bo (λk hk=>by
  rcases List.mem_cons.mp hk with e|hk
  ·exact e▸M6.new
  ·rcases List.mem_append.mp hk with hk|hk
   ·exact(H56 _).mp (H5 k hk)
   ·exact M6.has k (A k hk))
 obtain⟨h8,e8,M8,H78⟩:=M7.store (hd:=I) (L:=L) (Z:=Z) (k:=2) (v:=.obj j7) (A:=[.obj w,.str nm,.bool ic,.obj h1.length,vB par,.unb]) (by decide) U U U rfl;have hon:fD (bJ (B 2)) (D (.str [67,108,97,115,115])) (D (.str [77,111,100,117,108,101])) ⟨[.obj w,.str nm,.bool ic,.obj h1.length,vB par,.unb],h6,I⟩=.ok (.str (mE ic)) ⟨[.obj w,.str nm,.bool ic,.obj h1.length,vB par,.unb],h6,I⟩:=by induction ic<;>rfl
 refine bU (bz (aR aq (o4 M6.ok U U (aC hon) (aO e7))) (az aq e8)) ?_;obtain⟨j9,A9,h9,e9,a3,a0,a1,M9,C9,H89⟩:=Ok (n:=n) (N':=N+2) (A0:=[.obj w,.str nm,.bool ic,.obj h1.length,vB par,.unb]) U hm M8 Bm (λk hk=>by
  rcases List.mem_cons.mp hk with e|hk
  ·exact e▸M8.new
  ·rcases List.mem_cons.mp hk with e|hk
   ·exact e▸(H78 _).mp H7
   ·rcases List.mem_append.mp hk with hk|hk
    ·exact(H78 _).mp (H67 _ ((H56 _).mp (H5 k hk)))
    ·exact M8.has k (A k hk)) M8.keep.1
 obtain⟨h10,e10,M10,H910⟩:=M9.store (hd:=I) (L:=L) (Z:=Z) (k:=17) (v:=.obj j9) (A:=A9) (by decide) U U U rfl;refine bU (bz e9 (az (bM a3 U) e10)) ?_;obtain⟨_,_,_,_,_,_,_,_,_,W10⟩:=id M10.ok;have e11:=sq (L:=L) (Z:=Z) (n:=n+(N+1)) (hd:=I) M10.ok hn;refine bU (s1:=⟨A9,h10,I⟩) (aY (aK (bG (bM a0 U) W10.at' U)) ?_) (nx (bK (bM a3 U)) ⟨_,U,⟨M10.mod.ok (by decide),M10.ok,M10.keep,M10.has,M10.new,λc=>Cl.iff (λk=>H910 k) (C9 (Cl.iff (λk=>H78 k) (C7 (Cl.iff (λk=>H56 k) (C5 c)))))⟩,λp hp=>(H910 _).mp (H89 _ ((H78 _).mp (H67 _ ((H56 _).mp (H5 p hp))))),(H910 _).mp (H89 _ ((H78 _).mp H7))⟩);exact(Bool.eq_false_or_eq_true rdy).elim (λe=>br e (bO (nY (aR (bM a0 U) (o4 M10.ok U U (aC (bM a1 U)) (aO e11)))))) λe=>aM e aZ
theorem gG{ic:Bool}{par mix:Option (List Nat)}{ah:List (List Nat)}(hic:∀s,p8 (au L Z) .NotIn (.str nm) (.sref 560) s=.ok (.bool ic) s)(hk:(fG nm iA).isSome=S)(hp:fG nm iA=Y (vB par))(hm:Gl nm mix)(hn:nm.length<=1000)
  (Bp:∀p,par=Y p->Bs L Z w mo rdy (N+2) p (nm::ah)) (Bo:Bs L Z w mo rdy (N+2) (mE ic) (nm::(par.toList++ah))) (Bm:∀o,mix=Y o->Bs L Z w mo rdy (N+2) o (nm::mE ic::(par.toList++ah))):Bs L Z w mo rdy (N+4) nm ah:=λn h W A=>by
 obtain⟨nt,pr,y,gl,ou,k0,bX,es,hr,W0⟩:=id W;cases hl:fG nm es with
 |some v=>obtain⟨i,e,P⟩:=pc (L:=L) (Z:=Z) (n:=n+(N+3)) (hd:=I) W ⟨es,v,W0.made,hl⟩;exact⟨i,h,e,P⟩
 |none=>obtain⟨i,h',e,P,_⟩:=sA (n:=n) hic hk hp hm hn Bp Bo Bm W A (λes2 e2=>by have:=e2.symm.trans W0.made;cases this;exact hl);exact⟨i,h',e,P⟩
end
section
variable{L:Nat}{Z:List Int}{n:Nat}{hd:Bool}{h h0:H}{w mo i N N':Nat}{rdy:Bool}{nm:List Nat}
noncomputable abbrev ja:List Nat:=[79,98,106,101,99,116]
noncomputable abbrev f8:List Nat:=[66,97,115,105,99,79,98,106,101,99,116]
noncomputable abbrev wR:List Nat:=[67,108,97,115,115]
noncomputable abbrev xw:List Nat:=[77,111,100,117,108,101]
noncomputable abbrev Du:List Nat:=[75,101,114,110,101,108]
noncomputable abbrev sp:List Nat:=[67,111,109,112,97,114,97,98,108,101]
noncomputable abbrev sh:List Nat:=[69,110,117,109,101,114,97,98,108,101]
noncomputable abbrev Mt:List Nat:=[83,116,114,105,110,103]
noncomputable abbrev RB:List Nat:=[65,114,114,97,121]
noncomputable abbrev uJ:List Nat:=[69,120,99,101,112,116,105,111,110]
noncomputable abbrev j6:List Nat:=[83,116,97,110,100,97,114,100,69,114,114,111,114]
noncomputable abbrev aU:List Nat:=[65,114,103,117,109,101,110,116,69,114,114,111,114]
noncomputable abbrev dZ:List Nat:=[84,121,112,101,69,114,114,111,114]
abbrev base:List (List Nat):=[ja,f8,wR,xw]
theorem qb{ah:List (List Nat)}(hS:nm∈ah):Bs L Z w mo rdy 2 nm ah:=λn h W A=>let⟨i,e,P⟩:=pc (n:=n+1) W (A nm hS);⟨i,h,e,P⟩
theorem DJ:Bs L Z w mo rdy 4 xw [ja,f8,wR]:=gG (N:=0) (ic:=S) (par:=(Y ja)) (mix:=.none) (λ_=>rfl) (by kernel_rfl) (by kernel_rfl) (show fG _ o3=.none by kernel_rfl) (by decide) (λ_ e=>by cases e;exact qb (by decide)) (qb (by decide)) (λ_ e=>by cases e)
theorem Hx:Bs L Z w mo rdy 6 wR [ja,f8]:=gG (N:=2) (ic:=S) (par:=(Y xw)) (mix:=.none) (λ_=>rfl) (by kernel_rfl) (by kernel_rfl) (show fG _ o3=.none by kernel_rfl) (by decide) (λ_ e=>by obtain rfl:=sI e;exact DJ.more (by decide)) ((qb (by decide)).up (by decide)) (λ_ e=>by cases e)
theorem ye:Bs L Z w mo rdy 8 f8 [ja]:=gG (N:=4) (ic:=S) (par:=.none) (mix:=.none) (λ_=>rfl) (by kernel_rfl) (by kernel_rfl) (show fG _ o3=.none by kernel_rfl) (by decide) (λ_ e=>by exact nS e) (Hx.more (by decide)) (λ_ e=>by exact nS e)
theorem MH:Bs L Z w mo rdy 6 Du [ja,f8,wR]:=gG (N:=2) (ic:=I) (par:=.none) (mix:=.none) (λ_=>rfl) (by kernel_rfl) (by kernel_rfl) (show fG _ o3=.none by kernel_rfl) (by decide) (λ_ e=>by exact nS e) (DJ.more (by decide)) (λ_ e=>by exact nS e)
theorem zc:Bs L Z w mo rdy 4 sp base:=gG (N:=0) (ic:=I) (par:=.none) (mix:=.none) (λ_=>rfl) (by kernel_rfl) (by kernel_rfl) (show fG _ o3=.none by kernel_rfl) (by decide) (λ_ e=>by exact nS e) (qb (by decide)) (λ_ e=>by exact nS e)
theorem zR:Bs L Z w mo rdy 4 sh base:=gG (N:=0) (ic:=I) (par:=.none) (mix:=.none) (λ_=>rfl) (by kernel_rfl) (by kernel_rfl) (show fG _ o3=.none by kernel_rfl) (by decide) (λ_ e=>by exact nS e) (qb (by decide)) (λ_ e=>by exact nS e)
theorem BV:Bs L Z w mo rdy 4 uJ base:=gG (N:=0) (ic:=S) (par:=(Y ja)) (mix:=.none) (λ_=>rfl) (by kernel_rfl) (by kernel_rfl) (show fG _ o3=.none by kernel_rfl) (by decide) (λ_ e=>by obtain rfl:=sI e;exact qb (by decide)) (qb (by decide)) (λ_ e=>by cases e)
theorem Le:Bs L Z w mo rdy 6 Mt base:=gG (N:=2) (ic:=S) (par:=(Y ja)) (mix:=(Y sp)) (λ_=>rfl) (by kernel_rfl) (by kernel_rfl) (⟨567,by kernel_rfl,by kernel_rfl⟩) (by decide) (λ_ e=>by obtain rfl:=sI e;exact(qb (by decide)).up (by decide)) ((qb (by decide)).up (by decide)) (λ_ e=>by obtain rfl:=sI e;exact zc.more (by decide))
theorem Py:Bs L Z w mo rdy 6 RB base:=gG (N:=2) (ic:=S) (par:=(Y ja)) (mix:=(Y sh)) (λ_=>rfl) (by kernel_rfl) (by kernel_rfl) (⟨569,by kernel_rfl,by kernel_rfl⟩) (by decide) (λ_ e=>by obtain rfl:=sI e;exact(qb (by decide)).up (by decide)) ((qb (by decide)).up (by decide)) (λ_ e=>by obtain rfl:=sI e;exact zR.more (by decide))
theorem nM:Bs L Z w mo rdy 6 j6 base:=gG (N:=2) (ic:=S) (par:=(Y uJ)) (mix:=.none) (λ_=>rfl) (by kernel_rfl) (by kernel_rfl) (show fG _ o3=.none by kernel_rfl) (by decide) (λ_ e=>by obtain rfl:=sI e;exact BV.more (by decide)) ((qb (by decide)).up (by decide)) (λ_ e=>by cases e)
theorem d6:Bs L Z w mo rdy 8 aU base:=gG (N:=4) (ic:=S) (par:=(Y j6)) (mix:=.none) (λ_=>rfl) (by kernel_rfl) (by kernel_rfl) (show fG _ o3=.none by kernel_rfl) (by decide) (λ_ e=>by obtain rfl:=sI e;exact nM.more (by decide)) ((qb (by decide)).up (by decide)) (λ_ e=>by cases e)
theorem pN:Bs L Z w mo rdy 8 dZ base:=gG (N:=4) (ic:=S) (par:=(Y j6)) (mix:=.none) (λ_=>rfl) (by kernel_rfl) (by kernel_rfl) (show fG _ o3=.none by kernel_rfl) (by decide) (λ_ e=>by obtain rfl:=sI e;exact nM.more (by decide)) ((qb (by decide)).up (by decide)) (λ_ e=>by cases e)
end
section
variable{L:Nat}{Z:List Int}{n:Nat}{hd:Bool}{h h':H}{w mo i N:Nat}{nm:List Nat}
structure Wo(h:H)(w mo:Nat):Prop where
 ok:tg h w mo S
 has:∀k∈base,oL h mo k
theorem Wo.keep{X:List Nat}(W:Wo h w mo)(K:aD X h h')(hx:∀i o,h[i]?=Y o->rC o=I->i∉X):Wo h' w mo:=
 ⟨W.ok.keep K hx,λk hk=>(W.has k hk).keep K (let⟨_,_,_,_,_,_,_,_,_,W⟩:=W.ok;hx _ _ W.made U)⟩
theorem Wo.app{t:H}(W:Wo h w mo):Wo (h++t) w mo:=W.keep (aD.app (X:=[])) λ_ _ _ _ m=>by cases m
theorem Wo.set{o p:AO}(W:Wo h w mo)(e:h[i]?=Y p)(hp:rC p=S):Wo (h.set i o) w mo:=W.keep (aD.set (.head _)) λk q e2 hk m=>by rw[List.mem_singleton.mp m,e]at e2;obtain rfl:=sI e2;rw[hp]at hk;exact nF hk
theorem Wo.nin{p:AO}(W:Wo h w mo)(e:h[i]?=Y p)(hp:rC p=S):i∉[w,mo]:=
 let⟨_,_,_,_,_,_,_,_,_,W⟩:=W.ok
 Mv (λq=>by obtain rfl:=Eq.symm q;rw[W.at']at e;obtain rfl:=sI e;cases hp) (λq=>by obtain rfl:=Eq.symm q;rw[W.made]at e;obtain rfl:=sI e;cases hp)
theorem Wo.lt(W:Wo h w mo):w<h.length/\mo<h.length:=let⟨_,_,_,_,_,_,_,_,_,W⟩:=W.ok;⟨qF W.at',qF W.made⟩
theorem Wo.number(W:Wo h w mo):IX (λk h'=>bI L Z (n+1) hd 608 [.obj w] [] h=.ok (.int k) h') (λ_ h'=>Wo h' w mo) (λ_ h'=>aD [w,mo] h h'):=by obtain⟨k,h',e,W1,K⟩:=rH (L:=L) (Z:=Z) (n:=n) (hd:=hd) W.ok;exact⟨k,h',e,⟨W1,λk hk=>(W.has k hk).keep K (hY (let⟨_,_,_,_,_,_,_,_,_,W⟩:=W.ok;eZ W.made W.at' U))⟩,K.mono λi _ m=>by rw[List.mem_singleton.mp m];exact .head _⟩
theorem Wo.builtin(W:Wo h w mo)(ag:Bs L Z w mo S N nm base):Ai (λi h'=>bI L Z (n+N) I 629 [.obj w,.str nm] [] h=.ok (.obj i) h') (λi h'=>Mod h' i nm) (λ_ h'=>Wo h' w mo) (λ_ h'=>aD [w,mo] h h'):=
 let⟨i,h',e,P⟩:=ag n h W.ok W.has;⟨i,h',e,P.mod,⟨P.ok,λk hk=>P.has k (W.has k hk)⟩,P.keep⟩
inductive d7(h:H)(i:Nat)(x:List Nat):Prop where
 |mk (fs:List (Nat×J)) (a:h[i]?=Y (.inst 62 fs)) (b:d5 7 fs=Y (.str x)):d7 h i x
inductive AA(h:H)(i:Nat)(xs:List J):Prop where
 |mk (fs:List (Nat×J)) (j:Nat) (a:h[i]?=Y (.inst 82 fs)) (b:d5 8 fs=Y (.obj j)) (c:h[j]?=Y (.list xs)):AA h i xs
inductive Ia(h:H)(i:Nat)(nm:List Nat):Prop where
 |mk (fs:List (Nat×J)) (o:Nat) (a:h[i]?=Y (.inst 181 fs)) (b:d5 2 fs=Y (.obj o)) (c:Mod h o nm):Ia h i nm
inductive fA(h:H)(x:Nat)(nm:List Nat):Prop where
 |mk (fs:List (Nat×J)) (d t:Nat) (a:h[x]?=Y (.exn 543 I (Y d))) (b:h[d]?=Y (.fd fs)) (c:d5 51 fs=Y (.obj t)) (e:Ia h t nm):fA h x nm
abbrev TE(w mo:Nat)(h h':H):Prop:=aD [w,mo] h h'
theorem oY.app{t:H}(M:oY h i nm N):oY (h++t) i nm N:=let⟨fs,a,b,c,d,e⟩:=M;⟨fs,bH a,b,c,d,e⟩
noncomputable def PM(k:Int)(o d:Nat)(r:List (Nat×J)):List (Nat×J):=(1,.int k)::(2,.obj o)::(3,.obj (d+1))::(4,.none)::(5,.bool I)::(6,.none)::r
theorem oF{x:List Nat}(W:Wo h w mo):TC (λi h'=>bI L Z (n+7) I 691 [.obj w,.str x] [] h=.ok (.obj i) h') (λi h'=>d7 h' i x) (λ_ h'=>Wo h' w mo) (λ_ h'=>TE w mo h h') (λi _=>h.length<=i):=by obtain⟨k,h1,e1,W1,K1⟩:=W.number (L:=L) (Z:=Z) (n:=n+5) (hd:=I);obtain⟨o,h2,e2,M2,W2,K2⟩:=W1.builtin (n:=n) (Le (L:=L) (Z:=Z));refine⟨h2.length,h2++[.inst 62 (PM k o h2.length [(7,.str x)]),.dict []],?_,⟨_,sD,U⟩,W2.app,(K1.trans K2).trans aD.app,Nat.le_trans K1.1 K2.1⟩;apply bC Us (L0:=[.obj w,.str x,.unb]) rfl;exact bF (bK (aJ U (aB (aR aq (o4 W.ok U U cy (aO e1))) (aB (aR aq (o4 W1.ok U U (aC ao) (aO e2))) (aC aq))) (nJ U U U (Ta (n:=n+4)))))
theorem K9{j:Nat}{xs:List J}(W:Wo h w mo)(hj:h[j]?=Y (.list xs))(hl:xs.length<=1000):TC (λi h'=>bI L Z (n+7) I 698 [.obj w,.obj j] [] h=.ok (.obj i) h') (λi h'=>AA h' i xs) (λ_ h'=>Wo h' w mo) (λ_ h'=>TE w mo h h') (λi _=>h.length<=i):=by
 obtain⟨k,h1,e1,W1,K1⟩:=W.number (L:=L) (Z:=Z) (n:=n+5) (hd:=I);obtain⟨o,h2,e2,M2,W2,K2⟩:=W1.builtin (n:=n) (Py (L:=L) (Z:=Z));have hj2:=(K1.trans K2).get hj (W.nin hj U);refine⟨(h2++[AO.list xs]).length,(h2++[AO.list xs])++[.inst 82 (PM k o (h2++[AO.list xs]).length [(8,.obj h2.length)]),.dict []],?_,⟨_,h2.length,sD,U,bH ba⟩,W2.app.app,((K1.trans K2).trans aD.app).trans aD.app,?_⟩
 ·apply bC VB (L0:=[.obj w,.obj j,.unb]) rfl
  exact bF (bK (aJ U (aB (aR aq (o4 W.ok U U cy (aO e1))) (aB (aR aq (o4 W1.ok U U (aC ao) (aO e2))) (aC (aJ U (aC aq) (DT (Hy hj2 (Nat.le_trans hl (by decide)))))))) (nJ U U U (Qj (n:=n+4)))))
 ·rw[List.length_append];exact Nat.le_trans (Nat.le_trans K1.1 K2.1) (Nat.le_add_right _ _)
theorem Jz{x:List Nat}(W:Wo h w mo)(ag:Bs L Z w mo S 8 nm base):Ai (λi h'=>bI L Z (n+9) I 754 [.obj w,.str nm,.str x] [] h=.ok (.obj i) h') (λi h'=>Ia h' i nm) (λ_ h'=>Wo h' w mo) (λ_ h'=>TE w mo h h'):=by obtain⟨k,h1,e1,W1,K1⟩:=W.number (L:=L) (Z:=Z) (n:=n+7) (hd:=I);obtain⟨o,h2,e2,M2,W2,K2⟩:=W1.builtin (n:=n) ag;obtain⟨t,h3,e3,T3,W3,K3,_⟩:=oF (L:=L) (Z:=Z) (n:=n+1) (x:=x) W2;have M3:Mod h3 o nm:=M2.get K3 (let⟨_,_,_,_,_,_,_,_,_,V⟩:=W2.ok;let⟨_,a,_,_,_,_⟩:=M2;Mv (eZ a V.at' U) (eZ a V.made U));refine⟨h3.length,h3++[.inst 181 (PM k o h3.length [(9,.obj t),(10,.none)]),.dict []],?_,⟨_,o,sD,U,M3.app⟩,W3.app,((K1.trans K2).trans K3).trans aD.app⟩;apply bC Ub (L0:=[.obj w,.str nm,.str x,.unb]) rfl;exact bF (bK (aJ U (aB (aR aq (o4 W.ok U U cy (aO e1))) (aB (aR aq (o4 W1.ok U U (aC aq) (aO e2))) (aC (aR aq (o4 W2.ok U U (aC aq) (aO e3)))))) (nJ U U U (M0 (n:=n+6)))))
theorem K7{x:List Nat}:bI L Z (n+1) hd 520 [.obj h.length,.str x] [] (h++[.exn 543 S .none])=.ok .none (h++[.exn 543 S (Y (h.length+1)),.fd [(50,.str x)]]):=by
 have e:((h++[AO.exn 543 S .none])++[AO.fd [(50,.str x)]]).set h.length (.exn 543 S (Y (h++[AO.exn 543 S .none]).length))=h++[.exn 543 S (Y (h.length+1)),.fd [(50,.str x)]]:=by rw[List.append_assoc,List.set_append_right _ _ (Nat.le_refl _),Nat.sub_self,List.length_append];rfl
 rw[<-e];apply kg VM (L0:=[.obj h.length,.str x,.unb]) rfl;exact bq (nY (aR ao (Zs U (aB aq (aC aq)) ba U))) (bq (bz aq (DZ aq ba U)) aZ)
theorem MD{t:Nat}:bI L Z (n+2) hd 540 [.obj h.length,.obj t] [] (h++[.exn 543 S .none])=.ok .none (h++[.exn 543 S (Y (h.length+1)),.fd [(50,.str [97,32,82,117,98,121,32,101,114,114,111,114]),(51,.obj t)]]):=by
 have e:∀{a b c:AO},(h++[a,b]).set (h.length+1) c=h++[a,c]:=by intro a b c;rw[List.set_append_right _ _ (Nat.le_succ _),show h.length.succ-h.length=1 from Nat.add_sub_cancel_left h.length 1];rfl
 rw[<-e];apply kg Um (L0:=[.obj h.length,.obj t,.unb]) rfl;exact bq (nY (aR ao (V2 U U (aB aq (aC ao)) (aO K7)))) (bq (bz aq (GN aq sD (rb (k:=1) U) U U)) aZ)
theorem jc{x:List Nat}(W:Wo h w mo)(ag:Bs L Z w mo S 8 nm base):Ai (λi h'=>bI L Z (n+10) I 761 [.obj w,.str nm,.str x] [] h=.exc i h') (λi h'=>fA h' i nm) (λ_ h'=>Wo h' w mo) (λ_ h'=>TE w mo h h'):=by
 obtain⟨t,h1,e1,E1,W1,K1⟩:=Jz (n:=n) (x:=x) W ag;have e:∀{a b c:AO},(h1++[a,b]).set h1.length c=h1++[c,b]:=by intro a b c;rw[List.set_append_right _ _ (Nat.le_refl _),Nat.sub_self];rfl
 obtain⟨fs,o,a,b,c⟩:=E1;refine⟨h1.length,h1++[.exn 543 I (Y (h1.length+1)),.fd [(50,.str [97,32,82,117,98,121,32,101,114,114,111,114]),(51,.obj t)]],?_,⟨_,h1.length+1,t,sD,rb (k:=1) U,U,fs,o,bH a,b,c.app⟩,W1.app,K1.trans aD.app⟩;refine(e (a:=.exn 543 S (Y (h1.length+1))))▸?_;apply fY Ug (L0:=[.obj w,.str nm,.str x,.unb]) rfl;exact cZ (Kr (aJ U (aC (aR aq (o4 W.ok U U (aB aq (aC aq)) (aO e1)))) (nJ U U U (MD (n:=n+7)))) U sD U)
theorem xU(M:Mod h i nm):bI L Z (n+1) hd 285 [.obj i] [] h=.ok (.str nm) h:=by obtain⟨fs,a,b,c,d,_⟩:=M;apply bC WU (L0:=[.obj i,.unb]) rfl;exact bq (aY (aK (aE (bG aq a (iF U d U)) ao U)) (aM U aZ)) (bq (aY (aK (aE (bG aq a (iF U b U)) ao U)) (aM U aZ)) (bq (aY (aK (aE (bG aq a (iF U c U)) ao U)) (br U (bF (bK (bG aq a (iF U b U)))))) dY))
end
section
variable{L:Nat}{Z:List Int}{n:Nat}{hd:Bool}{h h':H}{w mo i N:Nat}{nm x:List Nat}
theorem mM{k:Int}:bI L Z (n+1) hd 237 [.int k] [] h=.ok (.bool S) h:=by apply bC Jt (L0:=[.int k,.unb]) rfl;exact bF (bK (HP (eI U aq U) (br U (NF (eI U aq U) U))))
theorem mf{v:J}(hv:vE v=Y v)(hi:ji v h [.ty "int"]=Y I):bI L Z (n+1) hd 237 [v] [] h=.ok (.bool I) h:=by apply bC Jt (L0:=[v,.unb]) rfl;exact bF (bK (HP (eI U (bM U hv) hi) (aM U Tk)))
theorem zZ{p:Bool}:bI L Z (n+1) hd 237 [.bool p] [] h=.ok (.bool I) h:=by apply bC Jt (L0:=[.bool p,.unb]) rfl;exact bF (bK (HP (eI U aq U) (br U (NF (eI U aq U) U))))
theorem Hw:bI L Z (n+1) hd 244 [.none] [] h=.ok (.str [110,105,108]) h:=by apply bC zt (L0:=[.none,.unb]) rfl;exact bF (aY (aK (aE aq ao U)) (br U (bF (bK ao))))
theorem Em{p:Bool}:bI L Z (n+1) hd 244 [.bool p] [] h=.ok (.str [98,111,111,108]) h:=by apply bC zt (L0:=[.bool p,.unb]) rfl;exact aG (aY (aK (aE aq ao U)) (aM U aZ)) (bF (aY (aK (eI U aq U)) (br U (bF (bK ao)))))
theorem HO{k:Int}:bI L Z (n+1) hd 244 [.int k] [] h=.ok (.str [105,110,116]) h:=by apply bC zt (L0:=[.int k,.unb]) rfl;exact aG (aY (aK (aE aq ao U)) (aM U aZ)) (aG (aY (aK (eI U aq U)) (aM U aZ)) (bF (aY (aK (eI U aq U)) (br U (bF (bK ao))))))
theorem ID:bI L Z (n+1) hd 244 [.str x] [] h=.ok (.str [115,121,109]) h:=by apply bC zt (L0:=[.str x,.unb]) rfl;exact aG (aY (aK (aE aq ao U)) (aM U aZ)) (aG (aY (aK (eI U aq U)) (aM U aZ)) (aG (aY (aK (eI U aq U)) (aM U aZ)) (bF (bK (dy (aK (eI U aq U)) (br U ao))))))
theorem uq{C:Nat}{fs:List (Nat×J)}(hC:pg C=S)(a:h[i]?=Y (.inst C fs)):bI L Z (n+1) hd 244 [.obj i] [] h=.ok (.str [116,104,105,110,103]) h:=by have t1:∀m,sU m=S->ji (.obj i) h [.ty m]=Y I:=λm hm=>iK (xY a hC hm);apply bC zt (L0:=[.obj i,.unb]) rfl;exact bq (aY (aK (aE aq ao U)) (aM U aZ)) (bq (aY (aK (eI U aq (t1 _ U))) (aM U aZ)) (bq (aY (aK (eI U aq (t1 _ U))) (aM U aZ)) (bF (bK (dy (aK (eI U aq (t1 _ U))) (aM U ao))))))
noncomputable def ko(c:Nat):Bool:=Nat.ble 32 c&&Nat.ble c 126&&!([92,34,35].any (Nat.beq c))
theorem QD{c:Nat}(hc:ko c=S):(match d5 22 fu.sdict with|some es=>(fG [c] es).isSome|.none=>S)=I:=by
 unfold ko at hc;simp only[ax]at hc;have h1:=Nat.le_of_ble_eq_true hc.1.1;have h2:=Nat.le_of_ble_eq_true hc.1.2;have key:∀c:Fin 127,(Nat.ble 32 c&&!([92,34,35].any (Nat.beq c)))=S->(match d5 22 fu.sdict with|some es=>(fG [c.1] es).isSome|.none=>S)=I:=by decide+kernel
 exact key ⟨c,by omega⟩ (by rw[hc.1.1,hc.2];rfl)
theorem uw{c:Nat}{f:List Nat}(hc:ko c=S):bI L Z (n+1) hd 292 [.str [c],.str f] [] h=.ok (.str [c]) h:=by
 have e1:∀s,p8 (au L Z) .In (.str [c]) (.sref 22) s=.ok (.bool I) s:=λs=>by have:=QD hc;show M.bind (Xl (au L Z) (.str [c]) (.sref 22)) yes s=_;refine az (a:=I) (s1:=s) ?_ rfl;unfold Xl jz vC;dsimp only;rw[show d5 22 (au L Z).sdict=d5 22 fu.sdict from rfl];induction q:d5 22 fu.sdict with
  |none=>rw[q]at this;exact nF this
  |some es=>rw[q]at this;have this:(fG [c] es).isSome=I:=this;show M.ret (fG [c] es).isSome s=_;rw[this];rfl
 unfold ko at hc;simp only[ax]at hc;have h1:=Nat.le_of_ble_eq_true hc.1.1;have h2:=Nat.le_of_ble_eq_true hc.1.2;have h3:(J.bool (eqL [c] [35]))=.bool I:=by
  have:=hc.2;simp only[List.any_cons,List.any_nil,Bool.or_false,Bool.not_or,ax]at this;have h4:Nat.beq c 35=I:=by induction q:Nat.beq c 35 with|true=>rw[q]at this;exact nT this.2.2|false=>rfl
  show J.bool (Nat.beq c 35&&eqL [] [])=_;rw[h4];rfl
 apply bC UC (L0:=[.str [c],.str f,.unb,.unb,.unb]) rfl;refine bq (aY (aK (aE aq ao (e1 _))) (aM U aZ)) (bq (aY (mX (aK (p:=I) (aE aq ao (by rw[<-h3];rfl))) (aM U jk)) (aM U aZ)) (bq (bz (aJ U (aC aq) (iq Wy)) U) (bq (aY (p:=I) (s1:=⟨[.str [c],.str f,.int c,.unb,.unb],h,hd⟩) ?_ (aM U aZ)) (bF (bK aq)))));refine qJ (aK (aE aq ao U)) (aM (decide_eq_false (by lia)) (qJ (aK (w5 ao aq U ao U)) (aM ?_ jk)));rw[decide_eq_false (by lia)];rfl
end
section
variable{L:Nat}{Z:List Int}{n:Nat}{hd:Bool}{h h':H}{w mo i N:Nat}{nm x:List Nat}
noncomputable abbrev sg(c:Nat):J:=.str [c]
theorem w3:∀{x:List Nat},lj (x.map sg)=Y (x.map λc=>[c])
 |[]=>rfl
 |c::r=>by show(Jc (sg c)).bind (λy=>(lj (r.map sg)).map λq=>y::q)=_;rw[w3];rfl
theorem oR:∀{x:List Nat},fX [] (x.map λc=>[c])=x
 |[]=>rfl
 |[c]=>rfl
 |c::d::r=>by show[c]++([]++fX [] ((d::r).map λc=>[c]))=_;rw[oR];rfl
theorem uf{o o':AO}:(h++[o]).set h.length o'=h++[o']:=by rw[List.set_append_right _ _ (Nat.le_refl _),Nat.sub_self];rfl
abbrev Sy(T:aT)(G:cI):M J:=aN T G (.sref 292) [(eB T (B 0) (B 2)),(fU T (B 0) (bp .Add (B 2) (D (.int 1))) (bp .Add (B 2) (D (.int 2))))] []
theorem wk(hx:x.all ko=S)(hl:x.length<=1000000):∀(r pre:List Nat)(l2:J)(fl:Nat),x=pre++r->r.length<fl->
  ∃l2',kS (kR (Sy (au L Z) (bI L Z (n+1))) 2 (M.ret S) h.length) fl (.vals ((List.range' pre.length r.length).map λ(i:Nat)=>.int i)) ⟨[.str x,.unb,l2],h++[.list (pre.map sg)],hd⟩=.ok .none ⟨[.str x,.unb,l2'],h++[.list (x.map sg)],hd⟩
 |_,_,_,0,_,hf=>absurd hf (Nat.not_lt_zero _)
 |[],pre,l2,fl+1,e,_=>⟨l2,by rw[e,List.append_nil];exact rR (lK BE)⟩
 |c::r,pre,l2,fl+1,e,hf=>by
  have hc:ko c=S:=List.all_eq_true.mp hx c (by rw[e];exact List.mem_append_right _ (.head _));have hk:x[pre.length]?=Y c:=by rw[e,List.getElem?_append_right (Nat.le_refl _),Nat.sub_self];rfl
  have jC:pre.length<x.length:=(List.getElem?_eq_some_iff.mp hk).1;obtain⟨l2',e2⟩:=wk hx hl r (pre++[c]) (.int pre.length) fl (by rw[e,List.append_assoc];rfl) (Nat.lt_of_succ_lt_succ hf);refine⟨l2',?_⟩;rw[List.length_cons,List.range'_succ,List.map_cons];rw[List.length_append,List.map_append]at e2;refine ur (oz kO (by show 2<3;decide) U U (aJ U (aB (oK aq aq (mF hk (by exact bE [_,_] [(.v 0,.l 1000000),(.a (.v 1) (.l 1),.v 0)] 0 [1,1] (.a (.v 1) (.l 1)) (.l 4611686018427387904) U hl jC))) (aC (dN aq (bj aq ao U) (bj aq ao U) (QU (by exact leT hl U))))) (b4 U (aO (uw hc)))) ba (by rw[List.length_map];exact bE [_,_] [(.v 0,.l 1000000),(.a (.v 1) (.l 1),.v 0)] 0 [1,1] (.a (.v 1) (.l 1)) (.l 16777216) U hl jC)) ?_;rw[uf];exact e2
theorem xn(hx:x.all ko=S)(hl:x.length<=1000000):vO (λh'=>bI L Z (n+2) I 297 [.str x] [] h=.ok (.str ((34::x)++[34])) h') (λh'=>∀X,aD X h h'):=by
 obtain⟨l2,e⟩:=wk (L:=L) (Z:=Z) (n:=n) (hd:=I) (h:=h) hx hl x [] .unb ff U (by unfold ff;exact bE [_] [(.v 0,.l 1000000)] 0 [1] (.a (.v 0) (.l 1)) (.l 1000000000) U hl);refine⟨_,?_,λX=>aD.app (t:=[.list (x.map sg)])⟩;apply bC U7 (L0:=[.str x,.unb,.unb]) rfl;refine bq (bz (ol U (nE (aJ U (aC aq) (iq (fM (by exact leT hl U)))) ?_) (by show 2<3;decide) (by simp only[Int.toNat_natCast,List.range_eq_range'];exact e)) U) ?_
 ·rw[decide_eq_true (by exact z0 _),decide_eq_true (by exact vA (b:=16777216) (leT (Nat.succ_le_succ hl) U))];rfl
 ·refine bF (bK (bj (bj ao (aR ao (Cp U (aC aq) (qz (ws:=x.map λc=>[c]) (by decide) ba w3 (by simp only[oR,List.length_nil];exact leT hl U)))) (cC (by simp only[oR,List.length_cons,List.length_nil];exact bE [_] [(.v 0,.l 1000000)] 0 [1] (.a (.a (.l 0) (.l 1)) (.v 0)) (.l 16777216) U hl))) ao ?_))
  simp only[oR];exact cC (by simp only[List.length_append];exact(by exact bE [_] [(.v 0,.l 1000000)] 0 [1] (.a (.a (.l 1) (.v 0)) (.l 1)) (.l 16777216) U hl:1+x.length+1<=16777216))
theorem sf{b:List Nat}{G:cI}:∀(r:List Nat)(l1:J)(fl:Nat),(r.all λc=>uV c&&Nat.blt c 128)=S->r.length<fl->∃l1',dU (iV (bd 1) (JK (au L Z) G)) fl (.vals (r.map sg)) ⟨[.str b,l1,.unb],h,hd⟩=.ok .nxt ⟨[.str b,l1',.unb],h,hd⟩
 |_,_,0,_,hf=>absurd hf (Nat.not_lt_zero _)
 |[],l1,fl+1,_,_=>⟨l1,U⟩
 |c::r,l1,fl+1,ha,hf=>by
  rw[List.all_cons,ax,ax]at ha;obtain⟨l1',e⟩:=sf r (sg c) fl ha.2 (Nat.lt_of_succ_lt_succ hf);have h1:(!([c]:List Nat).isEmpty&&[c].all uV)=S:=by rw[List.all_cons,ha.1.1];rfl
  have h2:bV [c]=S:=by show((Nat.blt c 128&&S):Bool)=S;rw[ha.1.2];rfl
  refine⟨l1',az (az kO (az (bv U) (az (bO (aY (qg (qJ (aK (aR (aq U) (Cp U cy (BX (show 1<=16777216 by decide) h2)))) (br h1 jk)) U) (aM U aZ))) U))) e⟩
theorem uO(hx:(x.all λc=>uV c&&Nat.blt c 128)=S){c:Nat}(h0:x[0]?=Y c)(hc:gQ c=I)(hl:x.length<=1000):bI L Z (n+1) I 264 [.str x] [] h=.ok (.bool S) h:=by
 have hne:x≠[]:=λe=>by subst e;exact nS h0
 obtain⟨l1,e⟩:=sf (L:=L) (Z:=Z) (h:=h) (hd:=I) (b:=x) (G:=bI L Z n) x .unb ff hx (by unfold ff;exact bE [_] [(.v 0,.l 1000)] 0 [1] (.a (.v 0) (.l 1)) (.l 1000000000) U hl);have hc2:uV c=S/\Nat.blt c 128=S:=bN.mp (List.all_eq_true.mp hx c (List.mem_of_getElem? h0));have h1:(!([c]:List Nat).isEmpty&&[c].all gQ)=I:=by rw[List.all_cons,hc];rfl
 have h2:bV [c]=S:=by show((Nat.blt c 128&&S):Bool)=S;rw[hc2.2];rfl
 have h3:eqL x []=I:=by induction x with|nil=>exact absurd U hne|cons _ _=>rfl
 apply bC Va (L0:=[.str x,.unb,.unb]) rfl;exact bq (aY (qJ (aK (aE aq ao U)) (aM h3 (qJ (aK (aR (oK aq ao (mF (k:=0) h0 (by decide))) (Cp U cy (Aq (show 1<=16777216 by decide) h2)))) (aM h1 jk)))) (aM U aZ)) (bq (si U (xx aq) e) (bF (bK ao)))
theorem Sn:bI L Z (n+2) I 278 [.str [115,121,109]] [] h=.ok (.bool S) h:=by
 have e:=uO (L:=L) (Z:=Z) (n:=n) (h:=h) (x:=[115,121,109]) U U U (by decide);apply bC Nl (L0:=[.str [115,121,109],.unb]) rfl;exact bq (aY (aK (aE aq ao U)) (aM U aZ)) (bq (aY (aK (aE (dN aq ao ao U) ao U)) (aM U aZ)) (bq (aY (aK (oH (dN aq ao ao U) (aB ao (aC ao)) U U)) (aM U aZ))
  (bF (bK (aJ U (aC (dy (aK (oH (dN aq (y6 ao) ao U) (aB ao (aB ao (aC ao))) U U)) (aM U aq))) (b4 U (aO e)))))))
theorem Mr:bI L Z (n+2) I 278 [.str [115]] [] h=.ok (.bool S) h:=by
 have e:=uO (L:=L) (Z:=Z) (n:=n) (h:=h) (x:=[115]) U U U (by decide);apply bC Nl (L0:=[.str [115],.unb]) rfl;exact bq (aY (aK (aE aq ao U)) (aM U aZ)) (bq (aY (aK (aE (dN aq ao ao U) ao U)) (aM U aZ)) (bq (aY (aK (oH (dN aq ao ao U) (aB ao (aC ao)) U U)) (aM U aZ))
  (bF (bK (aJ U (aC (dy (aK (oH (dN aq (y6 ao) ao U) (aB ao (aB ao (aC ao))) U U)) (aM U aq))) (b4 U (aO e)))))))
end
section
variable{L:Nat}{Z:List Int}{n:Nat}{hd:Bool}{h h':H}{w mo i N:Nat}{nm x:List Nat}{as:List J}{d:Int}
theorem u6(e:bI L Z (n+2) I 278 [.str x] [] h=.ok (.bool S) h)(hl:x.length<=1000):bI L Z (n+3) I 304 [.str x] [] h=.ok (.str (58::x)) h:=by apply bC Vq (L0:=[.str x,.unb]) rfl;exact bF (bK (bj ao (dy (aK (aJ U (aC aq) (b4 U (aO e)))) (br U aq)) (cC (by simp only[List.length_cons,List.length_nil];exact bE [_] [(.v 0,.l 1000)] 0 [1] (.a (.a (.l 0) (.l 1)) (.v 0)) (.l 16777216) U hl))))
theorem uP(hl:vP 4 2 [.int 6] as=Y [.none,.int d,.unb,.unb]):bI L Z (n+2) hd 338 as [] h=.ok (.str [110,105,108]) h:=by apply bC wB hl;exact bq (bz (aJ U (aC aq) (b4 U (aO Hw))) U) (bq (aY (aK (aE aq ao U)) (aM U aZ)) (bq (aY (aK (aE aq ao U)) (aM U aZ)) (bq (aY (aK (aE aq ao U)) (br U (bF (bK ao)))) dY)))
theorem wn(hl:vP 4 2 [.int 6] as=Y [.bool S,.int d,.unb,.unb]):bI L Z (n+2) hd 338 as [] h=.ok (.str [116,114,117,101]) h:=by apply bC wB hl;exact bq (bz (aJ U (aC aq) (b4 U (aO Em))) U) (bq (aY (aK (aE aq ao U)) (aM U aZ)) (bq (aY (aK (aE aq ao U)) (aM U aZ)) (bq (aY (aK (aE aq ao U)) (aM U aZ)) (bq (aY (aK (aE aq ao U)) (br U (bF (bK (dy (aK aq) (br U ao)))))) dY))))
theorem zr{k:Int}(hk:small k=S)(hl:vP 4 2 [.int 6] as=Y [.int k,.int d,.unb,.unb]):bI L Z (n+2) hd 338 as [] h=.ok (.str (sO k)) h:=by apply bC wB hl;exact bq (bz (aJ U (aC aq) (b4 U (aO HO))) U) (bq (aY (aK (aE aq ao U)) (aM U aZ)) (bq (aY (aK (aE aq ao U)) (aM U aZ)) (bq (aY (aK (aE aq ao U)) (aM U aZ)) (bq (aY (aK (aE aq ao U)) (aM U aZ)) (bF (bK (aJ U (aC aq) (DT (Jx hk)))))))))
theorem z6(e:bI L Z (n+2) I 278 [.str x] [] h=.ok (.bool S) h)(hx:x.length<=1000)(hl:vP 4 2 [.int 6] as=Y [.str x,.int d,.unb,.unb]):bI L Z (n+4) I 338 as [] h=.ok (.str (58::x)) h:=by apply bC wB hl;exact bq (bz (aJ U (aC aq) (b4 U (aO (ID (n:=n+2))))) U) (bq (aY (aK (aE aq ao U)) (aM U aZ)) (bq (aY (aK (aE aq ao U)) (br U (bF (bK (aJ U (aC aq) (b4 U (aO (u6 e hx)))))))) dY))
theorem sN(T:d7 h i x)(hx:x.all ko=S)(hl:x.length<=1000000):vO (λh'=>bI L Z (n+3) I 323 [.obj i,.int d] [] h=.ok (.str ((34::x)++[34])) h') (λh'=>∀X,aD X h h'):=by obtain⟨fs,a,b⟩:=T;obtain⟨h1,e,K⟩:=xn (L:=L) (Z:=Z) (n:=n) (h:=h) hx hl;refine⟨h1,?_,K⟩;apply bC Od (L0:=[.obj i,.int d,.unb,.unb]) rfl;exact bq (aY (aK (eI U aq (iK (jj a U U)))) (br U (bF (bK (aJ U (aC (bG aq a (iF U b U))) (b4 U (aO e))))))) dY
theorem jx(T:d7 h i x)(hx:x.all ko=S)(hl:x.length<=1000000)(ha:vP 4 2 [.int 6] as=Y [.obj i,.int d,.unb,.unb]):vO (λh'=>bI L Z (n+4) I 338 as [] h=.ok (.str ((34::x)++[34])) h') (λh'=>∀X,aD X h h'):=by obtain⟨h1,e,K⟩:=sN (L:=L) (Z:=Z) (n:=n) (d:=d) T hx hl;obtain⟨fs,a,b⟩:=T;have e1:=uq (L:=L) (Z:=Z) (n:=n+2) (hd:=I) (hC:=rfl) a;refine⟨h1,?_,K⟩;apply bC wB ha;exact bq (bz (aJ U (aC aq) (b4 U (aO e1))) U) (bq (aY (aK (aE aq ao U)) (br U (bF (bK (aJ U (aB aq (aC aq)) (b4 U (aO e))))))) dY)
theorem Qh:3<4:=by decide
noncomputable abbrev EW(x:List Nat):J:=.str x
theorem sS{t:Nat}(A:AA h i [.int 1,.obj t])(T:d7 h t [113]):vO (λh'=>bI L Z (n+6) I 338 [.obj i] [] h=.ok (.str [91,49,44,32,34,113,34,93]) h') (λh'=>∀X,aD X h h'):=by
 obtain⟨fs,j,a,b,c⟩:=A;have e0:=uq (L:=L) (Z:=Z) (n:=n+4) (hd:=I) (hC:=rfl) a;have e1:=zr (L:=L) (Z:=Z) (n:=n+2) (hd:=I) (h:=h++[.list []]) (k:=1) (d:=5) (as:=[.int 1,.int 5]) U rfl;have T1:d7 (h++[.list [EW [49]]]) t [113]:=let⟨fs,a,b⟩:=T;⟨fs,bH a,b⟩;obtain⟨h2,e2,K2⟩:=jx (L:=L) (Z:=Z) (n:=n) (d:=5) (as:=[.obj t,.int 5]) T1 U (by decide) rfl;have hj:(h++[AO.list []])[j]?=Y (.list [.int 1,.obj t]):=bH c;have hj1:(h++[AO.list [EW [49]]])[j]?=Y (.list [.int 1,.obj t]):=bH c;have hm:h2[h.length]?=Y (.list [EW [49]]):=(K2 []).get ba List.not_mem_nil;have hne:h.length≠j:=jP (Nat.ne_of_lt (qF c));have hj2:(h2.set h.length (.list ([EW [49]]++[EW [34,113,34]])))[j]?=Y (.list [.int 1,.obj t]):=iC hne ((K2 []).get hj1 List.not_mem_nil);have hm3:(h2.set h.length (.list ([EW [49]]++[EW [34,113,34]])))[h.length]?=Y (.list [EW [49],EW [34,113,34]]):=dP hm;have e3:bI L Z (n+5) I 323 [.obj i,.int 6] [] h=.ok (.str [91,49,44,32,34,113,34,93]) (h2.set h.length (.list ([EW [49]]++[EW [34,113,34]]))):=by
  apply bC Od (L0:=[.obj i,.int 6,.unb,.unb]) rfl;exact bq (aY (aK (eI U (aq U) (iK (jj a U U)))) (aM U aZ)) (bq (aY (aK (eI U (aq U) (iK (jj a U U)))) (br rfl
   (bq (aY (mX (aK (aE (aq U) ao U)) (aM U jk)) (aM U aZ))
    (bF (bK (bj (bj ao (aR ao (Cp U (aC (ol U (tj (bG (aq U) a (iF U b U)) c) Qh
     (ur (oz (E4 hj U) Qh U U (aJ U (aB (aq U) (aC (bj (aq U) ao U))) (b4 U (aO e1))) ba (by decide)) (by rw[uf];exact ur (oz (E4 hj1 U) Qh U U (aJ U (aB (aq U) (aC (bj (aq U) ao U))) (b4 U (aO e2))) hm (by decide)) (rR (lK (Dl hj2 U))))))) (qz (ws:=[[49],[34,113,34]]) (by decide) hm3 U (by decide)))) (cC (by decide))) ao (cC (by decide)))))))) dY)
 refine⟨h2.set h.length (.list ([EW [49]]++[EW [34,113,34]])),?_,λX=>((aD.app.trans (K2 X)).setNew (Nat.le_refl _))⟩;apply bC wB (L0:=[.obj i,.int 6,.unb,.unb]) rfl;exact bq (bz (aJ U (aC (aq U)) (b4 U (aO e0))) U) (bq (aY (aK (aE (aq U) ao U)) (br U (bF (bK (aJ U (aB (aq U) (aC (aq U))) (b4 U (aO e3))))))) dY)
end
section
variable{L:Nat}{Z:List Int}{n:Nat}{hd:Bool}{h h':H}
noncomputable def digs(b:Nat):Nat->Nat->List Nat
 |0,_=>[]
 |f+1,n=>if n<b then[n]else digs b f (n/b)++[n%b]
noncomputable def NT(b:Nat)(l:List Nat):Nat:=l.foldl (λa d=>a*b+d) 0
theorem qI{b:Nat}(hb:2<=b):∀{f n:Nat},n<f->NT b (digs b f n)=n
 |0,_,h=>absurd h (Nat.not_lt_zero _)
 |f+1,n,h=>by
  unfold digs
  split
  ·show 0*b+n=n
   simp only[Nat.zero_mul,Nat.zero_add]
  ·have h1:n/b<n:=Nat.div_lt_self (by lia) (by exact hb)
   have ih:=qI hb (f:=f) (n:=n/b) (by exact bE [_,_,_] [(.a (.v 0) (.l 1),.a (.v 1) (.l 1)),(.a (.v 2) (.l 1),.v 0)] 0 [1,1] (.a (.v 2) (.l 1)) (.v 1) U h h1);unfold NT at ih⊢;simp only[List.foldl_append,ih];show n/b*b+n%b=n;simp only[Nat.mul_comm];exact Nat.div_add_mod n b
theorem on{b:Nat}(hb:2<=b):∀{f n:Nat},∀d∈digs b f n,d<b
 |0,_,d,h=>by cases h
 |f+1,n,d,h=>by
  unfold digs at h
  split at h
  ·rename_i q
   refine(List.mem_singleton.mp h)▸?_;exact q
  ·rcases List.mem_append.mp h with h|h
   ·exact on hb d h
   ·refine(List.mem_singleton.mp h)▸?_;exact Nat.mod_lt _ (by exact bE [_] [(.l 2,.v 0)] 1 [1] (.l 1) (.v 0) U hb)
theorem oq{b:Nat}(hb:2<=b):∀{f n:Nat},n<f->∃d r,digs b f n=d::r/\(d=0->r=[]/\n=0)
 |0,_,h=>absurd h (Nat.not_lt_zero _)
 |f+1,n,h=>by
  unfold digs
  split
  ·exact⟨n,[],U,λe=>⟨U,e⟩⟩
  ·have h1:n/b<n:=Nat.div_lt_self (by lia) (by exact hb)
   obtain⟨d,r,e,k⟩:=oq hb (f:=f) (n:=n/b) (by exact bE [_,_,_] [(.a (.v 0) (.l 1),.a (.v 1) (.l 1)),(.a (.v 2) (.l 1),.v 0)] 0 [1,1] (.a (.v 2) (.l 1)) (.v 1) U h h1);refine⟨d,r++[n%b],by refine e▸?_;rfl,λz=>?_⟩;have:=(k z).2;have:n/b>=1:=(Nat.le_div_iff_mul_le (by exact bE [_] [(.l 2,.v 0)] 1 [1] (.l 1) (.v 0) U hb)).mpr (by lia);lia
theorem yZ{b:Nat}(hb:2<=b):∀{k f n:Nat},n<b^(k+1)->(digs b f n).length<=k+1
 |_,0,_,_=>Nat.zero_le _
 |0,f+1,n,h=>by unfold digs;rw[if_pos (by rw[Nat.zero_add,Nat.pow_one]at h;exact h)];exact Nat.le_refl _
 |k+1,f+1,n,h=>by
  unfold digs
  split
  ·exact Nat.le_add_left _ _
  ·simp only[List.length_append]
   exact Nat.succ_le_succ (yZ hb (k:=k) (f:=f) ((Nat.div_lt_iff_lt_mul (by lia)).mpr (by rw[<-Nat.pow_succ];exact h)))
noncomputable def sQ(b:Nat):Nat->Nat->List Nat
 |0,_=>[]
 |f+1,n=>if n=0 then[]else n%b::sQ b f (n/b)
theorem CY{b:Nat}(hb:2<=b):∀{f n:Nat},n<f->0<n->(sQ b f n).reverse=digs b f n
 |0,_,h,_=>absurd h (Nat.not_lt_zero _)
 |f+1,n,h,h0=>by
  unfold sQ digs;rw[if_neg (by exact Nat.ne_of_gt (h0)),List.reverse_cons]
  split
  ·rename_i q
   rw[Nat.div_eq_of_lt q,Nat.mod_eq_of_lt q];induction f with
   |zero=>rfl
   |succ f=>unfold sQ;rw[if_pos rfl];rfl
  ·have h1:n/b<n:=Nat.div_lt_self (by exact h0) (by exact hb)
   rw[CY hb (by exact bE [_,_,_] [(.a (.v 0) (.l 1),.a (.v 1) (.l 1)),(.a (.v 2) (.l 1),.v 0)] 0 [1,1] (.a (.v 2) (.l 1)) (.v 1) U h h1) ((Nat.le_div_iff_mul_le (by exact bE [_] [(.l 2,.v 0)] 1 [1] (.l 1) (.v 0) U hb)).mpr (by lia))]
noncomputable def pD(b n:Nat):Nat->List Nat
 |0=>[n%b]
 |k+1=>n/b^(k+1)%b::pD b n k
theorem HU{b n:Nat}:∀k,pD b n (k+1)=pD b (n/b) k++[n%b]
 |0=>by show[n/b^1%b,n%b]=_;rw[Nat.pow_one];rfl
 |k+1=>by show n/b^(k+2)%b::pD b n (k+1)=_;rw[HU k];show _=(n/b/b^(k+1)%b::pD b (n/b) k)++[n%b];rw[Nat.div_div_eq_div_mul,<-Nat.pow_succ'];rfl
theorem Dk{b:Nat}(hb:2<=b):∀{k f n:Nat},n<f->b^k<=n\/k=0->n<b^(k+1)->pD b n k=digs b f n
 |_,0,_,h,_,_=>absurd h (Nat.not_lt_zero _)
 |0,f+1,n,_,_,h2=>by rw[Nat.zero_add,Nat.pow_one]at h2;unfold digs;rw[if_pos h2];show[n%b]=_;rw[Nat.mod_eq_of_lt h2]
 |k+1,f+1,n,h,h1,h2=>by
  have h1:b^(k+1)<=n:=by rcases h1 with h1|h1;exact h1;lia
  have hbn:¬n<b:=by have:b^1<=b^(k+1):=Nat.pow_le_pow_right (by exact bE [_] [(.l 2,.v 0)] 1 [1] (.l 1) (.v 0) U hb) (by exact bE [_] [] 0 [] (.l 1) (.a (.v 0) (.l 1)) U);rw[Nat.pow_one]at this;lia
  unfold digs;rw[if_neg hbn,HU];have h3:n/b<n:=Nat.div_lt_self (by exact bE [_,_] [(.l 2,.v 0),(.v 0,.v 1)] 1 [1,1] (.l 1) (.v 1) U hb (Xi hbn)) (by exact hb);rw[Dk hb (k:=k) (f:=f) (n:=n/b) (by exact bE [_,_,_] [(.a (.v 0) (.l 1),.a (.v 1) (.l 1)),(.a (.v 2) (.l 1),.v 0)] 0 [1,1] (.a (.v 2) (.l 1)) (.v 1) U h h3) (.inl ((Nat.le_div_iff_mul_le (by exact bE [_] [(.l 2,.v 0)] 1 [1] (.l 1) (.v 0) U hb)).mpr (by rw[<-Nat.pow_succ];exact h1))) ((Nat.div_lt_iff_lt_mul (by exact bE [_] [(.l 2,.v 0)] 1 [1] (.l 1) (.v 0) U hb)).mpr (by rw[<-Nat.pow_succ];exact h2))]
noncomputable def jO(d:Nat):Nat:=bif Nat.blt d 10 then 48+d else 87+d
def cY(b n:Nat):List Nat:=(digs b (n+1) n).map jO
noncomputable abbrev AD:List Nat:=[48,49,50,51,52,53,54,55,56,57,97,98,99,100,101,102,103,104,105,106,107,108,109,110,111,112,113,114,115,116,117,118,119,120,121,122]
theorem Kq{d:Nat}(h:d<36):AD[d]?=Y (jO d):=by
 have key:∀d:Fin 36,AD[d.1]?=Y (jO d.1):=by decide+kernel
 exact key ⟨d,h⟩
theorem Gf{d:Nat}(h:d<36):FU AD (d:Int)=Y (jO d):=mF (Kq h) (by exact leT h U)
theorem HY(a b:Nat):(a:Int).fmod (b:Int)=((a%b:Nat):Int):=by rw[Int.fmod_eq_emod_of_nonneg _ (d8 b)];rfl
theorem xE(a b:Nat):(a:Int).fdiv (b:Int)=((a/b:Nat):Int):=by rw[Int.fdiv_eq_ediv_of_nonneg _ (d8 b)];rfl
theorem Q9{o o':AO}{t:H}:((h++[o])++t).set h.length o'=(h++[o'])++t:=by rw[List.set_append_left _ _ (by rw[List.length_append];exact Nat.lt_succ_self _),uf]
theorem Nr{T:aT}{G:cI}{m:Nat}{nm:aV}{es:List (M J)}{s:St}{v:J}{A1 xs ys:List J}{B1:Bool}{t:H}(hn:(nm=="append")=S)(h2:df es s=.ok [v] ⟨A1,(h++[.list xs])++t,B1⟩)(hl:xs.length<16777216):uF T G h.length (.list ys) m nm es s=.ok .none ⟨A1,(h++[.list (xs++[v])])++t,B1⟩:=by rw[<-Q9 (o:=.list xs)];exact Iv hn h2 (bH ba) hl
theorem nI{t:M Bool}{b:M Fl}{s s1 s2:St}{p:Bool}{fl:Nat}{F:lJ St Fl}(h1:t s=.ok p s1)(hp:p=S)(h2:b s1=.ok .nxt s2)(h3:dU (lY t b) fl () s2=F):dU (lY t b) (fl+1) () s=F:=az (a:=Y ((),Fl.nxt)) (az h1 (br hp (az h2 U))) h3
theorem pp{t:M Bool}{b:M Fl}{s s1:St}{p:Bool}{fl:Nat}(h1:t s=.ok p s1)(hp:p=I):dU (lY t b) (fl+1) () s=.ok .nxt s1:=az (az h1 (aM hp U)) rfl
theorem vV{t:M Bool}{b:M Fl}{s s1 s2:St}{p:Bool}{fl x:Nat}(h1:t s=.ok p s1)(hp:p=S)(h2:b s1=.exc x s2):dU (lY t b) (fl+1) () s=.exc x s2:=eL ((az h1 (br hp (eL h2))))
theorem yN{a b:Nat}{t:H}{G:cI}(hb:2<=b)(hb2:b<=36):∀(f m:Nat)(acc:List J)(fl:Nat),m<f->f<=fl->acc.length+f<=16000000->
  dU (lY (H6 (au L Z) G) (Hq (au L Z) G)) fl () ⟨[.int (a:Int),.int (b:Int),.int (m:Int),.obj h.length,.unb],(h++[.list acc])++t,hd⟩=.ok .nxt ⟨[.int (a:Int),.int (b:Int),.int (0:Int),.obj h.length,.unb],(h++[.list (acc++(sQ b f m).map λd=>sg (jO d))])++t,hd⟩
 |0,_,_,_,h,_,_=>absurd h (Nat.not_lt_zero _)
 |_+1,_,_,0,_,h,_=>absurd h (Nat.not_succ_le_zero _)
 |f+1,m,acc,fl+1,h1,h2,h3=>by
  by_cases hm:m=0
  ·subst hm
   unfold sQ;rw[if_pos U,List.map_nil,List.append_nil];exact pp (aK (aE aq ao U)) rfl
  ·have hd1:m/b<m:=Nat.div_lt_self (by exact(nz hm)) (by exact hb)
   have ih:=yN (a:=a) (t:=t) (G:=G) hb hb2 f (m/b) (acc++[sg (jO (m%b))]) fl (by exact bE [_,_,_] [(.a (.v 0) (.l 1),.a (.v 1) (.l 1)),(.a (.v 2) (.l 1),.v 0)] 0 [1,1] (.a (.v 2) (.l 1)) (.v 1) U h1 hd1) (Nat.le_of_succ_le_succ h2) (by rw[List.length_append,List.length_cons,List.length_nil];lia);unfold sQ;refine(if_neg hm)▸List.map_cons▸?_;rw[List.append_assoc acc]at ih;have hl:∀{o:AO},((h++[o])++t)[h.length]?=Y o:=bH ba;refine nI (s2:=⟨[.int (a:Int),.int (b:Int),.int ((m/b:Nat):Int),.obj h.length,.unb],(h++[.list (acc++[sg (jO (m%b))])])++t,hd⟩) (aK (aE aq ao U)) (decide_eq_true (by exact vA (a:=0) (Nat.pos_of_ne_zero hm))) ?_ ih;refine bq (s1:=⟨[.int (a:Int),.int (b:Int),.int (m:Int),.obj h.length,.unb],(h++[.list (acc++[sg (jO (m%b))])])++t,hd⟩) (nY ?_) (bO (bz (bj aq aq (zq (by exact vA (a:=0) (Nat.lt_of_lt_of_le Nat.two_pos hb)) (by exact vA (b:=1073741824) (leT (Nat.succ_le_succ hb2) U)))) (by rw[xE];rfl)));exact aR aq (jN hl (Nr U (aC (oK ao (bj aq aq (uL (by exact SN (b:=0) (Nat.ne_of_gt (Nat.lt_of_lt_of_le Nat.two_pos hb))))) (by rw[HY];exact Gf (Nat.lt_of_lt_of_le (Nat.mod_lt _ (by exact bE [_] [(.l 2,.v 0)] 1 [1] (.l 1) (.v 0) U hb)) hb2)))) (by exact bE [_,_] [(.a (.v 0) (.a (.v 1) (.l 1)),.l 16000000)] 0 [1] (.a (.v 0) (.l 1)) (.l 16777216) U h3)))
theorem Kv{l:List Nat}:(l.map λd=>sg (jO d))=(l.map jO).map sg:=by simp only[List.map_map];rfl
theorem qx{b m:Nat}:(digs b (m+1) m).length<=m+1:=by
 have:∀f k,(digs b f k).length<=f:=by intro f;induction f with
  |zero=>intro k;exact Nat.zero_le _
  |succ f ih=>
   intro k;unfold digs
   split
   ·exact Nat.succ_le_succ (Nat.zero_le _)
   ·simp only[List.length_append];exact Nat.succ_le_succ (ih _)
 exact this _ _
theorem BQ{b m:Nat}(hb:2<=b)(hb2:b<=36)(hm:m<=1000000):vO (λh'=>bI L Z (n+1) I 359 [.int (m:Int),.int (b:Int)] [] h=.ok (.str (cY b m)) h') (λh'=>∀X,aD X h h'):=by
 have hl:∀{o:AO}{t:H},((h++[o])++t)[h.length]?=Y o:=bH ba;have e1:=yN (L:=L) (Z:=Z) (h:=h) (hd:=I) (a:=m) (t:=[.tup [.int (m:Int),.obj h.length]]) (G:=bI L Z n) hb hb2 (m+1) m [] ff (Nat.lt_succ_self m) (by unfold ff;exact bE [_] [(.v 0,.l 1000000)] 0 [1] (.a (.v 0) (.l 1)) (.l 1000000000) U hm) (by show 0+(m+1)<=16000000;exact bE [_] [(.v 0,.l 1000000)] 0 [1] (.a (.l 0) (.a (.v 0) (.l 1))) (.l 16000000) U hm);rw[List.nil_append,Kv]at e1;have e2:∃xs,xs.reverse=(cY b m).map sg/\xs.length<=1000001/\aH (Hn (au L Z) (bI L Z n)) ⟨[.int (m:Int),.int (b:Int),.int (0:Int),.obj h.length,.unb],(h++[.list (((sQ b (m+1) m).map jO).map sg)])++[.tup [.int (m:Int),.obj h.length]],I⟩=aH (HZ (au L Z) (bI L Z n)) ⟨[.int (m:Int),.int (b:Int),.int (0:Int),.obj h.length,.unb],(h++[.list xs])++[.tup [.int (m:Int),.obj h.length]],I⟩:=by
  by_cases hz:m=0
  ·subst hz
   refine⟨[sg 48],?_,by decide,?_⟩
   ·unfold cY digs
    rw[if_pos (by exact bE [_] [(.l 2,.v 0)] 1 [1] (.l 1) (.v 0) U hb)];rfl
   ·have e0:sQ b (0+1) 0=[]:=by unfold sQ;rw[if_pos rfl]
    rw[e0];exact bq (aY (aK (aE (aJ U (aC aq) (iq (tv (xs:=[]) hl (by decide)))) ao U)) (br U (bO (nY (aR aq (jN hl (Nr (xs:=[]) U (aC ao) (by decide)))))))) rfl
  ·have hr:=CY hb (f:=m+1) (n:=m) (by exact bE [_] [] 0 [] (.a (.v 0) (.l 1)) (.a (.v 0) (.l 1)) U) (by exact(nz hz))
   have jC:(((sQ b (m+1) m).map jO).map sg).length<=1000001:=by rw[List.length_map,List.length_map,<-List.length_reverse,hr];exact Nat.le_trans qx (by exact bE [_] [(.v 0,.l 1000000)] 0 [1] (.a (.v 0) (.l 1)) (.l 1000001) U hm)
   have hne:(((sQ b (m+1) m).map jO).map sg).length≠0:=by rw[List.length_map,List.length_map,<-List.length_reverse,hr];obtain⟨d,r,e,_⟩:=oq hb (f:=m+1) (n:=m) (by exact bE [_] [] 0 [] (.a (.v 0) (.l 1)) (.a (.v 0) (.l 1)) U);rw[e];exact Nat.succ_ne_zero _
   refine⟨_,?_,jC,bq (aY (aK (aE (aJ U (aC aq) (iq (tv hl (by exact leT jC U)))) ao U)) (aM ?_ aZ)) U⟩
   ·rw[<-List.map_reverse,<-List.map_reverse,hr];rfl
   ·exact decide_eq_false (by exact SN (b:=0) hne)
 obtain⟨xs,x1,x2,e2⟩:=e2;refine⟨((h++[.list xs])++[.tup [.int (m:Int),.obj h.length]])++[.list ((cY b m).map sg)],?_,λX=>(aD.app.trans aD.app).trans aD.app⟩;apply bC TX (L0:=[.int (m:Int),.int (b:Int),.unb,.unb,.unb]) rfl;refine bq (s1:=⟨[.int (m:Int),.int (b:Int),.int (m:Int),.obj h.length,.unb],(h++[.list []])++[.tup [.int (m:Int),.obj h.length]],I⟩) (fq (aB (aJ U (aC aq) (iq sj)) (aC (gj cy U))) U U U (bZ (bv U) (dj (bv U)))) (bq (fL e1) (Rj (e2.trans (bq (aY (aK (aE aq ao U)) (aM (decide_eq_false (by exact dh.mpr (z0 _))) aZ)) (bF (bK ?_))))));rw[<-x1];refine aR ao (Cp U (aC (Vr aq hl (by exact leT x2 U))) ?_);have:=qz (A0:=[.int (m:Int),.int (b:Int),.int (0:Int),.obj h.length,.unb]) (B0:=I) (w:=[]) (ws:=(cY b m).map λc=>[c]) (by decide) (ba (h:=(h++[.list xs])++[.tup [.int (m:Int),.obj h.length]]) (o:=.list xs.reverse)) (by rw[x1];exact w3) (by rw[oR];unfold cY;rw[List.length_map];have:=qx (b:=b) (m:=m);show _+0<=_;exact bE [_,_] [(.v 0,.l 1000000),(.v 1,.a (.v 0) (.l 1))] 0 [1,1] (.a (.v 1) (.l 0)) (.l 16777216) U hm this);rw[oR]at this;exact this
end
section
variable{L:Nat}{Z:List Int}{n:Nat}{hd:Bool}{h h':H}{b m:Nat}{G:cI}
theorem Fy{j:Nat}:((b^j:Nat):Int)*(b:Int)=((b^(j+1):Nat):Int):=by simp only[Nat.pow_succ,Int.natCast_mul]
theorem Nn(hb:2<=b)(hb2:b<=36):∀(f j fl:Nat),m+1<=b^j+f->(b^j<=m\/j=0)->f<fl->J4 (λk=>dU (lY (A6 (au L Z) G) (HJ (au L Z) G)) fl () ⟨[.int (m:Int),.int (b:Int),.int ((b^j:Nat):Int),.str [],.unb],h,hd⟩=.ok .nxt ⟨[.int (m:Int),.int (b:Int),.int ((b^k:Nat):Int),.str [],.unb],h,hd⟩) (λk=>b^k<=m\/k=0) (λk=>m<b^(k+1))
 |_,_,0,_,_,hf=>absurd hf (Nat.not_lt_zero _)
 |f,j,fl+1,h1,h2,hf=>by
  have ht:∀p,aI (((b^(j+1):Nat):Int)<=(m:Int))=p->A6 (au L Z) G ⟨[.int (m:Int),.int (b:Int),.int ((b^j:Nat):Int),.str [],.unb],h,hd⟩=.ok p ⟨[.int (m:Int),.int (b:Int),.int ((b^j:Nat):Int),.str [],.unb],h,hd⟩:=λp hp=>aK (aE (bj aq aq (qL (mA (kj (by exact(leT (Nat.succ_le_succ hb2) rfl:b<2^63)))))) aq (by rw[Fy,<-hp];rfl))
  by_cases q:b^(j+1)<=m
  ·have hpos:0<b^j:=Nat.pow_pos (by exact bE [_] [(.l 2,.v 0)] 1 [1] (.l 1) (.v 0) U hb)
   have hup:b^j<b^(j+1):=by simp only[Nat.pow_succ];have:=Nat.mul_le_mul_left (b^j) hb;exact bE [_,_] [(.l 1,.v 0),(.n (.v 0) 2,.v 1)] 0 [1,1] (.a (.v 0) (.l 1)) (.v 1) U hpos this
   induction f with
   |zero=>lia
   |succ f=>obtain⟨k,e,k1,k2⟩:=Nn hb hb2 f (j+1) fl (by exact bE [_,_,_,_] [(.a (.v 0) (.l 1),.v 1),(.a (.v 2) (.l 1),.a (.v 0) (.a (.v 3) (.l 1)))] 0 [1,1] (.a (.v 2) (.l 1)) (.a (.v 1) (.v 3)) U hup h1) (.inl q) (Nat.lt_of_succ_lt_succ hf);exact⟨k,nI (s2:=⟨[.int (m:Int),.int (b:Int),.int ((b^(j+1):Nat):Int),.str [],.unb],h,hd⟩) (ht S (decide_eq_true (gh.mpr q))) U (bO (bz (bj aq aq (qL (mA (kj (by exact(leT (Nat.succ_le_succ hb2) rfl:b<2^63)))))) (by simp only[Fy];rfl))) e,k1,k2⟩
  ·exact⟨j,pp (ht I (decide_eq_false λz=>q (gh.mp z))) U,h2,Nat.lt_of_not_le q⟩
theorem DI(hb:2<=b)(hb2:b<=36):∀(k:Nat)(w:List Nat)(fl:Nat),b^k<1073741824->w.length+k<=1000000->k+1<fl->dU (lY (Bc (au L Z) G) (Al (au L Z) G)) fl () ⟨[.int (m:Int),.int (b:Int),.int ((b^k:Nat):Int),.str w,.unb],h,hd⟩=.ok .nxt ⟨[.int (m:Int),.int (b:Int),.int (0:Int),.str (w++(pD b m k).map jO),.unb],h,hd⟩
 |_,_,0,_,_,hf=>absurd hf (Nat.not_lt_zero _)
 |k,w,fl+1,h1,h2,hf=>by
  have hpos:0<b^k:=Nat.pow_pos (by exact bE [_] [(.l 2,.v 0)] 1 [1] (.l 1) (.v 0) U hb);have hd36:m/b^k%b<36:=Nat.lt_of_lt_of_le (Nat.mod_lt _ (by exact bE [_] [(.l 2,.v 0)] 1 [1] (.l 1) (.v 0) U hb)) hb2;have ht:Bc (au L Z) G ⟨[.int (m:Int),.int (b:Int),.int ((b^k:Nat):Int),.str w,.unb],h,hd⟩=.ok S ⟨[.int (m:Int),.int (b:Int),.int ((b^k:Nat):Int),.str w,.unb],h,hd⟩:=aK (aE aq ao (by rw[<-decide_eq_true (show((b^k:Nat):Int)>0 from fw.mpr hpos)];rfl));have hb1:∀u,((b^k:Nat):Int).fdiv (b:Int)=u->Al (au L Z) G ⟨[.int (m:Int),.int (b:Int),.int ((b^k:Nat):Int),.str w,.unb],h,hd⟩=.ok .nxt ⟨[.int (m:Int),.int (b:Int),.int u,.str (w++[jO (m/b^k%b)]),.unb],h,hd⟩:=λu hu=>by refine bq (s1:=⟨[.int (m:Int),.int (b:Int),.int ((b^k:Nat):Int),.str (w++[jO (m/b^k%b)]),.unb],h,hd⟩) (bz (bj aq (oK ao (bj (bj aq aq (zq (by exact vA (a:=0) hpos) (by exact vA (b:=1073741824) h1))) aq (uL (by exact SN (b:=0) (Nat.ne_of_gt (Nat.lt_of_lt_of_le Nat.two_pos hb))))) (by simp only[xE,HY];exact Gf hd36)) (cC (show w.length+1<=16777216 by exact bE [_,_] [(.a (.v 0) (.v 1),.l 1000000)] 0 [1] (.a (.v 0) (.l 1)) (.l 16777216) U h2))) U) (bO (bz (bj aq aq (zq (by exact vA (a:=0) (Nat.lt_of_lt_of_le Nat.two_pos hb)) (by exact vA (b:=1073741824) (leT (Nat.succ_le_succ hb2) U)))) (by simp only[hu];rfl)))
  induction k with
  |zero=>induction fl with
   |zero=>lia
   |succ fl=>exact nI ht U (hb1 0 (by simp only[xE,Nat.pow_zero,Nat.div_eq_of_lt (by exact hb)];rfl)) (by simp only[Nat.pow_zero,Nat.div_one];exact pp (aK (aE aq ao U)) U)
  |succ k=>
   have hk:b^(k+1)/b=b^k:=by simp only[Nat.pow_succ];exact Nat.mul_div_cancel _ (by exact bE [_] [(.l 2,.v 0)] 1 [1] (.l 1) (.v 0) U hb)
   have ih:=DI hb hb2 k (w++[jO (m/b^(k+1)%b)]) fl (Nat.lt_of_le_of_lt (Nat.pow_le_pow_right (by exact bE [_] [(.l 2,.v 0)] 1 [1] (.l 1) (.v 0) U hb) (Nat.le_succ k)) h1) (by simp only[List.length_append,List.length_cons,List.length_nil];lia) (Nat.lt_of_succ_lt_succ hf);rw[List.append_assoc]at ih;exact nI ht U (hb1 _ (by simp only[xE,hk])) ih
theorem ka(hb:2<=b)(hb2:b<=36)(hm:m<=1000000):vO (λh'=>bI L Z (n+1) I 852 [.int (m:Int),.int (b:Int)] [] h=.ok (.str (cY b m)) h') (λh'=>∀X,aD X h h'):=by
 obtain⟨k,e1,k1,k2⟩:=Nn (m:=m) (L:=L) (Z:=Z) (h:=h++[.tup [.int 1,.str []]]) (hd:=I) (G:=bI L Z n) hb hb2 (m+1) 0 ff (by exact bE [_,_] [] 0 [] (.a (.v 0) (.l 1)) (.a (.v 1) (.a (.v 0) (.l 1))) U) (.inr U) (by unfold ff;exact bE [_] [(.v 0,.l 1000000)] 0 [1] (.a (.a (.v 0) (.l 1)) (.l 1)) (.l 1000000000) U hm);have hk:b^k<=1000000:=by rcases k1 with k1|rfl;exact bE [_,_] [(.v 0,.l 1000000),(.v 1,.v 0)] 0 [1,1] (.v 1) (.l 1000000) rfl hm k1;simp only[Nat.pow_zero];exact bE [] [] 0 [] (.l 1) (.l 1000000) rfl
 have hkk:k<=1000000:=by have:k<2^k:=Nat.lt_two_pow_self;have:2^k<=b^k:=Nat.pow_le_pow_left hb k;lia
 have e2:=DI (L:=L) (Z:=Z) (h:=h++[.tup [.int 1,.str []]]) (hd:=I) (m:=m) (G:=bI L Z n) hb hb2 k [] ff (by exact bE [_] [(.v 0,.l 1000000)] 0 [1] (.a (.v 0) (.l 1)) (.l 1073741824) U hk) (show 0+k<=1000000 by lia) (by unfold ff;exact bE [_] [(.v 0,.l 1000000)] 0 [1] (.a (.a (.v 0) (.l 1)) (.l 1)) (.l 1000000000) U hkk);rw[Dk hb (Nat.lt_succ_self m) k1 k2]at e2;refine⟨_,?_,λX=>aD.app (t:=[.tup [.int 1,.str []]])⟩;apply bC VZ (L0:=[.int (m:Int),.int (b:Int),.unb,.unb,.unb]) rfl;exact bq (s1:=⟨[.int (m:Int),.int (b:Int),.int ((b^0:Nat):Int),.str [],.unb],_,I⟩) (fq (aB ao (aC ao)) U U U (bZ (bv U) (dj (bv U)))) (bq (fL e1) (bq (fL e2) (bF (bK aq))))
end
section
variable{L:Nat}{Z:List Int}{n:Nat}{hd:Bool}{h h':H}{T:aT}{G:cI}{fl x:List Nat}{s:St}
noncomputable def iter(f:List Nat->List Nat):Nat->List Nat->List Nat
 |0,x=>x
 |k+1,x=>iter f k (f x)
theorem oJ{c:Nat}:∀(k:Nat)(x:List Nat),iter (c::·) k x=List.replicate k c++x
 |0,x=>rfl
 |k+1,x=>by show iter (c::·) k (c::x)=_;simp only[oJ k,List.replicate_succ'];simp only[List.append_assoc];rfl
theorem wK{c:Nat}:∀(k:Nat)(x:List Nat),iter (·++[c]) k x=x++List.replicate k c
 |0,x=>(List.append_nil x).symm
 |k+1,x=>by show iter (·++[c]) k (x++[c])=_;simp only[wK k,List.append_assoc];rfl
theorem oM{t:M Bool}{b:M Fl}(ah:List Nat->St)(f:List Nat->List Nat)(W:Int)(hf:∀x,(f x).length=x.length+1)(hW:W<=1000000)
  (ht:∀x,x.length<=1000000->t (ah x)=.ok (aI ((x.length:Int)<W)) (ah x)) (hb:∀x,x.length<=1000000->b (ah x)=.ok .nxt (ah (f x))):
  ∀(k fl:Nat)(x:List Nat),(W-x.length).toNat=k->x.length<=1000000->k<fl->dU (lY t b) fl () (ah x)=.ok .nxt (ah (iter f k x))
 |_,0,_,_,_,h=>absurd h (Nat.not_lt_zero _)
 |0,fl+1,x,hk,hx,_=>pp (ht x hx) (decide_eq_false (by exact ZL hk))
 |k+1,fl+1,x,hk,hx,h=>nI (ht x hx) (decide_eq_true (by exact(X5 hk).1)) (hb x hx) (oM ah f W hf hW ht hb k fl (f x) (by rw[hf];exact(X5 hk).2) (by rw[hf];exact gh.mp (eN (Int.add_one_le_of_lt (X5 hk).1) hW)) (Nat.lt_of_succ_lt_succ h))
noncomputable def iD(x:List Nat)(w:Int)(fl:List Nat):List Nat:=bif fl.any (Nat.beq 45)then x++List.replicate (w-x.length).toNat 32 else List.replicate (w-x.length).toNat 32++x
theorem sx{w:Int}(hx:x.length<=1000000)(hw:w<=1000000):bI L Z (n+1) hd 859 [.str x,.int w,.str fl] [] h=.ok (.str (iD x w fl)) h:=by
 have ht:∀y:List Nat,y.length<=1000000->Iz (au L Z) (bI L Z n) ⟨[.str y,.int w,.str fl,.unb],h,hd⟩=.ok (aI ((y.length:Int)<w)) ⟨[.str y,.int w,.str fl,.unb],h,hd⟩:=λy hy=>aK (aE (aJ U (aC aq) (iq (fM (by exact leT hy U)))) aq U);have key:∀f:List Nat->List Nat,(∀y:List Nat,(f y).length=y.length+1)->(∀y:List Nat,y.length<=1000000->JP (au L Z) (bI L Z n) ⟨[.str y,.int w,.str fl,.unb],h,hd⟩=.ok .nxt ⟨[.str (f y),.int w,.str fl,.unb],h,hd⟩)->bI L Z (n+1) hd 859 [.str x,.int w,.str fl] [] h=.ok (.str (iter f (w-x.length).toNat x)) h:=λf h1 h2=>by apply bC WY (L0:=[.str x,.int w,.str fl,.unb]) rfl;exact bq (fL (oM (λy=>⟨[.str y,.int w,.str fl,.unb],h,hd⟩) f w h1 hw ht h2 _ ff x U hx (by unfold ff;exact leT (Nat.succ_le_succ (Xj (K:=1000000) hw)) U))) (bF (bK aq))
 unfold iD;induction q:fl.any (Nat.beq 45)with
 |true=>rw[cond_true,<-wK];exact key _ (λy=>by rw[List.length_append];rfl) λy hy=>bO (bz (dy (aK (aE ao aq U)) (br q (bj aq ao (cC (show y.length+1<=16777216 by exact bE [_] [(.v 0,.l 1000000)] 0 [1] (.a (.v 0) (.l 1)) (.l 16777216) U hy))))) U)
 |false=>rw[cond_false,<-oJ];exact key _ (λy=>rfl) λy hy=>bO (bz (dy (aK (aE ao aq U)) (aM q (bj ao aq (cC (show 1+y.length<=16777216 by exact bE [_] [(.v 0,.l 1000000)] 0 [1] (.a (.l 1) (.v 0)) (.l 16777216) U hy))))) U)
theorem oB(c:Nat):∀k,Aw [c] k=List.replicate k c
 |0=>rfl
 |k+1=>by show[c]++Aw [c] k=_;rw[oB c k];rfl
noncomputable def dM(m:Option Nat):J:=match m with
 |some k=>.int (k:Int)
 |.none=>.none
def cN(h:H)(i:Nat)(fl:List Nat)(w:Int)(m:Option Nat):Prop:=h[i]?=Y (.inst 431 [(35,.str fl),(36,.int w),(37,dM m)])
theorem rj{i:Nat}{w:Int}{m:Option Nat}(F:cN h i fl w m)(hx:x.length<=1000000)(hw:w<=1000000)(hw2:-1000000<=w):bI L Z (n+1) hd 421 [.obj i,.str x] [] h=.ok (.str (iD x w fl)) h:=by
 have hr:(List.replicate (w-x.length).toNat 32).length<=1000000:=by rw[List.length_replicate];exact Xj (K:=1000000) hw
 apply bC Ua (L0:=[.obj i,.str x,.unb,.unb]) rfl;refine bq (s1:=⟨[.obj i,.str x,.str (List.replicate (w-x.length).toNat 32),.unb],h,hd⟩) (bz (bj ao (bj (bG aq F U) (aJ U (aC aq) (iq (fM (by exact leT hx U)))) U) (Iq (by exact zT (J6 hw) U) (by exact zB U (zl hw2 hx)))) (by rw[oB];rfl)) ?_;unfold iD;induction q:fl.any (Nat.beq 45)with
 |true=>exact bF (bK (dy (aK (aE ao (bG aq F U) U)) (br q (bj aq aq (cC (by exact bE [_,_] [(.v 0,.l 1000000),(.v 1,.l 1000000)] 0 [1,1] (.a (.v 0) (.v 1)) (.l 16777216) U hx hr))))))
 |false=>exact bF (bK (dy (aK (aE ao (bG aq F U) U)) (aM q (bj aq aq (cC (by exact bE [_,_] [(.v 0,.l 1000000),(.v 1,.l 1000000)] 0 [1,1] (.a (.v 1) (.v 0)) (.l 16777216) U hx hr))))))
noncomputable def gp(a:Int)(fl:List Nat):List Nat:=bif aI (a<0)then[45]else bif fl.any (Nat.beq 43)then[43]else bif fl.any (Nat.beq 32)then[32]else[]
theorem CU{a:Int}{e1 e2:M J}(h1:e1 s=.ok (.int a) s)(h2:e2 s=.ok (.str fl) s):fD (bJ (aW T .Lt e1 (D (.int 0)))) (D (.str [45])) (fD (bJ (aW T .In (D (.str [43])) e2)) (D (.str [43])) (fD (bJ (aW T .In (D (.str [32])) e2)) (D (.str [32])) (D (.str [])))) s=.ok (.str (gp a fl)) s:=by have t0:bJ (aW T .Lt e1 (D (.int 0))) s=.ok (aI (a<0)) s:=aK (aE h1 ao U);have t1:bJ (aW T .In (D (.str [43])) e2) s=.ok (fl.any (Nat.beq 43)) s:=aK (aE ao h2 U);have t2:bJ (aW T .In (D (.str [32])) e2) s=.ok (fl.any (Nat.beq 32)) s:=aK (aE ao h2 U);refine dy t0 ?_;unfold gp;cases aI (a<0)with
 |true=>exact ao
 |false=>refine dy t1 ?_;cases fl.any (Nat.beq 43)with
  |true=>exact ao
  |false=>refine dy t2 ?_;cases fl.any (Nat.beq 32)<;>exact ao
theorem rE{a:Int}:(gp a fl).length<=1:=by unfold gp;cases aI (a<0)<;>cases fl.any (Nat.beq 43)<;>cases fl.any (Nat.beq 32)<;>decide
noncomputable abbrev kinds:List Nat:=[100,105,117,120,88,111,98,66]
theorem fE{P:Nat->Prop}(h1:P 100)(h2:P 105)(h3:P 117)(h4:P 120)(h5:P 88)(h6:P 111)(h7:P 98)(h8:P 66):∀k∈kinds,P k:=by intro k hk;simp only[kinds,List.mem_cons,List.not_mem_nil,or_false]at hk;rcases hk with rfl|rfl|rfl|rfl|rfl|rfl|rfl|rfl<;>assumption
noncomputable def baseOf(k:Nat):Nat:=bif Nat.beq k 120||Nat.beq k 88 then 16 else bif Nat.beq k 111 then 8 else bif Nat.beq k 98||Nat.beq k 66 then 2 else 10
theorem t4:∀k∈kinds,2<=baseOf k/\baseOf k<=36:=fE (by decide) (by decide) (by decide) (by decide) (by decide) (by decide) (by decide) (by decide)
noncomputable def AJ(k:Nat):List Nat:=bif Nat.beq k 111 then[48]else bif[120,88,98,66].any (Nat.beq k)then[48,k]else[]
def gr(a:Int)(k:Nat)(fl:List Nat):List Nat:=bif fl.any (Nat.beq 35)&&!decide (a=0)then AJ k else[]
def sP(k:Nat)(x:List Nat):List Nat:=bif Nat.beq k 88 then x.map DW else x
noncomputable def jF(m:Option Nat)(x:List Nat):List Nat:=match m with
 |some k=>List.replicate (k-x.length) 48++x
 |.none=>x
noncomputable def iX(m:Option Nat)(fl lead x:List Nat)(w:Int):List Nat:=bif fl.any (Nat.beq 48)&&(!fl.any (Nat.beq 45)&&m.isNone)then List.replicate (w-lead.length-x.length).toNat 48++x else x
def vK(a:Int)(k:Nat)(fl:List Nat)(w:Int)(m:Option Nat):List Nat:=
 iD ((gp a fl++gr a k fl)++iX m fl (gp a fl++gr a k fl) (jF m (sP k (cY (baseOf k) a.natAbs))) w) w fl
end
section
variable{L:Nat}{Z:List Int}{n:Nat}{hd:Bool}{h h':H}{T:aT}{G:cI}{fl x:List Nat}{s:St}{k:Nat}{a w:Int}{m:Option Nat}
theorem rk{A:List J}{ag:Bool}:p8 T .Is (dM m) .none ⟨A,h,ag⟩=.ok (.bool m.isNone) ⟨A,h,ag⟩:=by induction m<;>rfl
theorem qK{A:List J}{ag:Bool}:p8 T .IsNot (dM m) .none ⟨A,h,ag⟩=.ok (.bool m.isSome) ⟨A,h,ag⟩:=by induction m<;>rfl
theorem rL:vE (dM m)=Y (dM m):=by induction m<;>rfl
theorem JY:∀k∈kinds,∃o,Nc (.str [k]) [((.str [120]),(.int 16)),((.str [88]),(.int 16)),((.str [111]),(.int 8)),((.str [98]),(.int 2)),((.str [66]),(.int 2))]=Y o/\o.getD (.int 10)=.int (baseOf k:Nat):=
 fE ⟨_,U,U⟩ ⟨_,U,U⟩ ⟨_,U,U⟩ ⟨_,U,U⟩ ⟨_,U,U⟩ ⟨_,U,U⟩ ⟨_,U,U⟩ ⟨_,U,U⟩
theorem Na:∀k∈kinds,∃o,Nc (.str [k]) [((.str [120]),(.str [48,120])),((.str [88]),(.str [48,88])),((.str [111]),(.str [48])),((.str [98]),(.str [48,98])),((.str [66]),(.str [48,66]))]=Y o/\o.getD (.str [])=.str (AJ k):=
 fE ⟨_,U,U⟩ ⟨_,U,U⟩ ⟨_,U,U⟩ ⟨_,U,U⟩ ⟨_,U,U⟩ ⟨_,U,U⟩ ⟨_,U,U⟩ ⟨_,U,U⟩
theorem EP:∀k∈kinds,(d5 364 (au L Z).sdict).bind (fG [k])=Y (.int (baseOf k:Nat)):=fE U U U U U U U rfl
theorem RJ:∀k∈kinds,[120,88,98,66,111].any (Nat.beq k)=I->AJ k=[]:=
 fE (λ_=>rfl) (λ_=>rfl) (λ_=>rfl) (λe=>absurd e (by decide)) (λe=>absurd e (by decide)) (λe=>absurd e (by decide)) (λe=>absurd e (by decide)) (λe=>absurd e (by decide))
theorem MR:∀k∈kinds,[120,88,98,66,111].any (Nat.beq k)=S->AJ k=bif Nat.beq k 111 then[48]else[48,k]:=
 fE (λe=>absurd e (by decide)) (λe=>absurd e (by decide)) (λe=>absurd e (by decide)) (λ_=>rfl) (λ_=>rfl) (λ_=>rfl) (λ_=>rfl) (λ_=>rfl)
theorem x6:rx (au L Z) 37 431 [(35,.str fl),(36,.int w),(37,dM m)]=Y (dM m):=by induction m<;>rfl
theorem Ag:(AJ k).length<=2:=by unfold AJ;cases Nat.beq k 111<;>cases[120,88,98,66].any (Nat.beq k)<;>first|exact Nat.le_refl 2|exact Nat.le_succ 1|exact Nat.zero_le 2
theorem rh:(gr a k fl).length<=2:=by unfold gr;cases fl.any (Nat.beq 35)&&!decide (a=0)with
 |true=>exact Ag
 |false=>exact Nat.zero_le _
theorem oQ:(sP k x).length=x.length:=by unfold sP;cases Nat.beq k 88 with
 |true=>exact List.length_map _
 |false=>rfl
theorem rA{j:Nat}(hm:∀i,m=Y i->i<=j)(hx:x.length<=j):(jF m x).length<=j:=by induction m with
 |none=>exact hx
 |some i=>have:=hm i rfl;show(List.replicate (i-x.length) 48++x).length<=j;rw[List.length_append,List.length_replicate];exact Zr this hx
theorem FE{j:Nat}:sP k (List.replicate j 48++x)=List.replicate j 48++sP k x:=by unfold sP;cases Nat.beq k 88 with
 |true=>show(List.replicate j 48++x).map DW=List.replicate j 48++x.map DW;rw[List.map_append,List.map_replicate];rfl
 |false=>rfl
theorem Mx:jF m (sP k x)=sP k (jF m x):=by induction m with
 |none=>rfl
 |some i=>show List.replicate (i-(sP k x).length) 48++sP k x=sP k (List.replicate (i-x.length) 48++x);rw[FE,oQ]
theorem LI{lead:List Nat}:iX m fl lead (sP k x) w=sP k (iX m fl lead x w):=by unfold iX;cases fl.any (Nat.beq 48)&&(!fl.any (Nat.beq 45)&&m.isNone)with
 |true=>show List.replicate _ 48++sP k x=sP k (List.replicate _ 48++x);rw[FE,oQ]
 |false=>rfl
theorem Cb{d:Nat}(hd:d<36):Nat.blt (jO d) 128=S:=by
 have key:∀d:Fin 36,Nat.blt (jO d.1) 128=S:=by decide+kernel
 exact key ⟨d,hd⟩
theorem um{b m:Nat}(hb:2<=b)(hb2:b<=36):bV (cY b m)=S:=by unfold bV cY;rw[List.all_map,List.all_eq_true];intro d hd;exact Cb (Nat.lt_of_lt_of_le (on hb d hd) hb2)
theorem vZ{j:Nat}(hx:bV x=S):bV (List.replicate j 48++x)=S:=by
 unfold bV at hx⊢;rw[List.all_append,hx,List.all_replicate,jh]
 by_cases q:j=0
 ·rw[if_pos q]
 ·rw[if_neg q];rfl
theorem BN(hx:bV x=S):bV (jF m x)=S:=by induction m with
 |none=>exact hx
 |some i=>exact vZ hx
theorem AX{lead:List Nat}(hx:bV x=S):bV (iX m fl lead x w)=S:=by unfold iX;cases fl.any (Nat.beq 48)&&(!fl.any (Nat.beq 45)&&m.isNone)with
 |true=>exact vZ hx
 |false=>exact hx
theorem rG{lead:List Nat}{j:Nat}(hw:w<=j)(hx:x.length<=j):(iX m fl lead x w).length<=j:=by unfold iX;cases fl.any (Nat.beq 48)&&(!fl.any (Nat.beq 45)&&m.isNone)with
 |true=>show(List.replicate _ 48++x).length<=j;refine List.length_append▸List.length_replicate▸?_;exact TP (J6 hw) hx
 |false=>exact hx
theorem cU{c:Nat}:p8 T .Eq (.str [k]) (.str [c]) s=.ok (.bool (Nat.beq k c)) s:=by show lJ.ok (J.bool (Nat.beq k c&&S)) s=_;rw[jh]
theorem zE{e:M J}{A:List J}{ag:Bool}(he:e ⟨A,h,ag⟩=.ok (.str x) ⟨A,h,ag⟩){e2:M J}(h2:e2 ⟨A,h,ag⟩=.ok (.str [k]) ⟨A,h,ag⟩)(hx:bV x=S)(hl:x.length<=16000000):fD (bJ (aW T .Eq e2 (D (.str [88])))) (bk T G e 39 (am "upper") []) e ⟨A,h,ag⟩=.ok (.str (sP k x)) ⟨A,h,ag⟩:=by have e0:bJ (aW T .Eq e2 (D (.str [88]))) ⟨A,h,ag⟩=.ok (Nat.beq k 88) ⟨A,h,ag⟩:=aK (aE h2 ao cU);refine dy e0 ?_;unfold sP;cases Nat.beq k 88 with
 |true=>exact aR he (Cp U cy (zv (by exact leT hl U) hx))
 |false=>exact he
theorem zj{A:List J}{i:Nat}{v:J}(e:A[i]?=Y v):A.set i v=A:=by
 refine List.ext_getElem? λj=>?_
 by_cases q:i=j
 ·subst q
  rw[List.getElem?_set_self (List.getElem?_eq_some_iff.mp e).1,e]
 ·rw[List.getElem?_set_ne q]
theorem Mu{A:List J}{ag:Bool}{e1:M J}(hk:k∈kinds)(hx:x.length<=1000)(a1:A[1]?=Y (.int a))(a2:A[2]?=Y (.str [k]))(a4:A[4]?=Y (.str x))(he:e1 ⟨A,h,ag⟩=.ok (.str fl) ⟨A,h,ag⟩):
  eS (cQ (bJ (aW T .In (D (.str [35])) e1)) (cQ (bJ (aW T .In (B 2) (D (.str [120,88,98,66,111])))) (cQ (bJ (aW T .NotEq (B 1) (D (.int 0)))) (M.ret S)))) (aH [z7 4 .Add (fD (bJ (aW T .Eq (B 2) (D (.str [111])))) (D (.str [48])) (bp .Add (D (.str [48])) (B 2)))]) (aH []) ⟨A,h,ag⟩=.ok .nxt ⟨A.set 4 (.str (x++gr a k fl)),h,ag⟩:=by
 have hA:A.set 4 (.str (x++[]))=A:=by rw[List.append_nil];exact zj a4
 have h4:Nat.blt 4 A.length=S:=Nat.ble_eq_true_of_le (List.getElem?_eq_some_iff.mp a4).1;have t1:cQ (bJ (aW T .In (D (.str [35])) e1)) (cQ (bJ (aW T .In (B 2) (D (.str [120,88,98,66,111])))) (cQ (bJ (aW T .NotEq (B 1) (D (.int 0)))) (M.ret S))) ⟨A,h,ag⟩=.ok (fl.any (Nat.beq 35)&&([120,88,98,66,111].any (Nat.beq k)&&(!decide (a=0)&&S))) ⟨A,h,ag⟩:=
  ez (aK (aE ao he U)) (ez (aK (aE (bM a2 U) ao U)) (ez (aK (aE (bM a1 U) ao U)) jk))
 refine aY t1 ?_;unfold gr;cases fl.any (Nat.beq 35)with
 |false=>rw[show(bif I&&!decide (a=0)then AJ k else[])=[]from U,hA];exact aZ
 |true=>induction q:[120,88,98,66,111].any (Nat.beq k)with
  |false=>rw[RJ k hk q,show(bif S&&!decide (a=0)then([]:List Nat)else[])=[] by cases aI (a=0)<;>rfl,hA];exact aZ
  |true=>refine(MR k hk q)▸?_;cases aI (a=0)with
   |true=>rw[show(bif S&&!true then(bif Nat.beq k 111 then[48]else[48,k])else[])=[]from U,hA];exact aZ
   |false=>
    refine br U (bO (PL (bM a4 U) (dy (aK (aE (bM a2 U) ao cU)) ?_) (v:=.str (x++bif Nat.beq k 111 then[48]else[48,k])) (b:=.str (bif Nat.beq k 111 then[48]else[48,k])) (xu ?_) h4))
    ·cases Nat.beq k 111 with
     |true=>exact ao
     |false=>exact bj ao (bM a2 U) rfl
    ·cases Nat.beq k 111 with
     |true=>exact(by exact bE [_] [(.v 0,.l 1000)] 0 [1] (.a (.v 0) (.l 1)) (.l 16777216) U hx:x.length+1<=16777216)
     |false=>exact(by exact bE [_] [(.v 0,.l 1000)] 0 [1] (.a (.v 0) (.l 2)) (.l 16777216) U hx:x.length+2<=16777216)
theorem ya{N np g:Nat}{dfl as L0:List J}{C:aT->cI->M Fl}{v:J}{h2:H}(ak:db L Z g N np dfl C)(hl:vP N np dfl as=Y L0)(h1:xi (C (au L Z) (bI L Z n) ⟨L0,h,hd⟩) (λv' h''=>v'=v/\h''=h2)):bI L Z (n+1) hd g as [] h=.ok v h2:=by obtain⟨v',h'',e,p⟩:=Dv ak hl h1;exact e▸p.1▸p.2▸rfl
theorem Bd{i:Nat}(F:cN h i fl w m)(hk:k∈kinds)(ha:a.natAbs<=1000)(hw:w<=1000)(hw2:-1000<=w)(hm:∀j,m=Y j->j<=1000):
  vO (λh'=>bI L Z (n+2) I 428 [.obj i,.int a,.str [k]] [] h=.ok (.str (vK a k fl w m)) h') (λh'=>∀X,aD X h h'):=by
 obtain⟨b1,b2⟩:=t4 k hk;obtain⟨h1,e1,K⟩:=BQ (L:=L) (Z:=Z) (n:=n) (h:=h) (m:=a.natAbs) b1 b2 (by exact leT ha U);have F1:cN h1 i fl w m:=(K []).get F List.not_mem_nil;have hl:(cY (baseOf k) a.natAbs).length<=1001:=by unfold cY;rw[List.length_map];exact Nat.le_trans qx (by exact bE [_] [(.v 0,.l 1000)] 0 [1] (.a (.v 0) (.l 1)) (.l 1001) U ha)
 refine⟨h1,?_,K⟩;refine ya Uo (L0:=[.obj i,.int a,.str [k],.unb,.unb,.unb]) U ?_;refine bU (s1:=⟨[.obj i,.int a,.str [k],.str (cY (baseOf k) a.natAbs),.unb,.unb],h1,I⟩) (bz (aJ U (aB (aJ U (aC aq) (iq sj)) (aC (DF ao aq (EP k hk)))) (b4 U (aO e1))) U) ?_;refine bU (s1:=⟨[.obj i,.int a,.str [k],.str (jF m (cY (baseOf k) a.natAbs)),.unb,.unb],h1,I⟩) (aY (aK (aE (bG aq F1 x6) ao qK)) ?_) ?_
 ·induction m with
  |none=>exact aZ
  |some j=>have:=hm j rfl;refine bO (bz (bj (bj ao (bj (bG aq F1 U) (aJ U (aC aq) (iq (fM (by exact leT hl U)))) U) (Iq (by exact zT (J6 (yL this)) U) (by exact zB U (zl (z0 _) hl)))) aq (cC (by rw[oB,List.length_replicate];exact leT (TP (K:=1001) (zT (yL this) U) hl) U))) ?_);rw[oB,show((j:Int)-((cY (baseOf k) a.natAbs).length:Nat)).toNat=j-(cY (baseOf k) a.natAbs).length by exact jg _ _];rfl
 have hx:(jF m (cY (baseOf k) a.natAbs)).length<=1001:=rA (λi e=>by have:=hm i e;exact leT this U) hl;have hXa:bV (jF m (cY (baseOf k) a.natAbs))=S:=BN (um b1 b2);have hN:vK a k fl w m=iD ((gp a fl++gr a k fl)++sP k (iX m fl (gp a fl++gr a k fl) (jF m (cY (baseOf k) a.natAbs)) w)) w fl:=by unfold vK;rw[Mx,LI]
 rw[hN]
 generalize jF m (cY (baseOf k) a.natAbs)=X at hx hXa
 have hs:(gp a fl).length<=1:=rE;have hh:(gr a k fl).length<=2:=rh;refine bU (s1:=⟨[.obj i,.int a,.str [k],.str X,.str (gp a fl),.unb],h1,I⟩) (bz (CU aq (bG aq F1 U)) U) ?_;refine bU (Mu hk (by exact leT hs U) U U U (bG aq F1 U)) ?_;have hld:(gp a fl++gr a k fl).length<=3:=by rw[List.length_append];exact bE [_,_] [(.v 0,.l 1),(.v 1,.l 2)] 0 [1,1] (.a (.v 0) (.v 1)) (.l 3) U hs hh
 generalize gp a fl++gr a k fl=ld at hld
 have t1:cQ (bJ (aW (au L Z) .In (D (.str [48])) (bT (au L Z) (B 0) 35))) (cQ (bJ (aW (au L Z) .NotIn (D (.str [45])) (bT (au L Z) (B 0) 35))) (cQ (bJ (aW (au L Z) .Is (bT (au L Z) (B 0) 37) (D .none))) (M.ret S))) ⟨[.obj i,.int a,.str [k],.str X,.str ld,.unb],h1,I⟩=.ok (fl.any (Nat.beq 48)&&(!fl.any (Nat.beq 45)&&(m.isNone&&S))) ⟨[.obj i,.int a,.str [k],.str X,.str ld,.unb],h1,I⟩:=
  ez (aK (aE ao (bG aq F1 U) U)) (ez (aK (aE ao (bG aq F1 U) U)) (ez (aK (aE (bG aq F1 x6) ao rk)) jk))
 refine bU (s1:=⟨[.obj i,.int a,.str [k],.str (iX m fl ld X w),.str ld,.unb],h1,I⟩) (aY t1 ?_) ?_
 ·unfold iX
  rw[jh];cases fl.any (Nat.beq 48)&&(!fl.any (Nat.beq 45)&&m.isNone)with
  |false=>exact aZ
  |true=>refine br U (bO (bz (bj (bj ao (bj (bj (bG aq F1 U) (aJ U (aC aq) (iq (fM (by exact leT hld U)))) U) (aJ U (aC aq) (iq (fM (by exact leT hx U)))) U) (Iq (by exact zT (J6 (J6 hw)) U) (by exact zB U (zl (zl hw2 hld) hx)))) aq (cC (by rw[oB,List.length_replicate];exact leT (TP (K:=1001) (zT (J6 hw) U) hx) U))) ?_));rw[oB];rfl
 have hZ:(iX m fl ld X w).length<=1001:=rG (by exact zT hw U) hx;have hZa:bV (iX m fl ld X w)=S:=AX hXa;have e9:=rj (L:=L) (Z:=Z) (n:=n) (hd:=I) (x:=ld++sP k (iX m fl ld X w)) F1 (by rw[List.length_append,oQ];exact bE [_,_] [(.v 0,.l 3),(.v 1,.l 1001)] 0 [1,1] (.a (.v 0) (.v 1)) (.l 1000000) U hld hZ) (by exact zT hw U) (by exact zB U hw2);refine nx (bK (aR aq (jN F1 (cD (g:=421) U U (aC (bj aq (zE aq aq hZa (by exact leT hZ U)) (cC (by rw[oQ];exact bE [_,_] [(.v 0,.l 3),(.v 1,.l 1001)] 0 [1,1] (.a (.v 0) (.v 1)) (.l 16777216) U hld hZ)))) (aO e9))))) ⟨U,U⟩
end
section
variable{L:Nat}{Z:List Int}{n:Nat}{hd:Bool}{h h':H}{T:aT}{G:cI}{fl x:List Nat}{s:St}{k:Nat}{a w:Int}{m:Option Nat}
theorem mR{t:M Bool}{p:Bool}{s1:St}(e:t s=.ok p s1):cQ t (M.ret S) s=.ok p s1:=az e (by induction p<;>rfl)
theorem qX{t:M Bool}{p:Bool}{s1:St}(e:t s=.ok p s1):pk t (M.ret I) s=.ok p s1:=az e (by induction p<;>rfl)
theorem zS{A:List J}{ag:Bool}(hk:k∈kinds)(hx:x.length<=1000)(a0:A[0]?=Y (.int a))(a1:A[1]?=Y (.str [k]))(a2:A[2]?=Y (.str fl))(a7:A[7]?=Y (.str x)):
  eS (cQ (bJ (aW T .In (D (.str [35])) (B 2))) (cQ (bJ (aW T .NotEq (B 0) (D (.int 0)))) (M.ret S))) (aH [sAsg (bd 7) (bp .Add (B 7) (qn [((.str [120]),(.str [48,120])),((.str [88]),(.str [48,88])),((.str [111]),(.str [48])),((.str [98]),(.str [48,98])),((.str [66]),(.str [48,66]))] (B 1) (D (.str []))))]) (aH []) ⟨A,h,ag⟩=.ok .nxt ⟨A.set 7 (.str (x++gr a k fl)),h,ag⟩:=by
 have hA:A.set 7 (.str (x++[]))=A:=by rw[List.append_nil];exact zj a7
 have h7:Nat.blt 7 A.length=S:=Nat.ble_eq_true_of_le (List.getElem?_eq_some_iff.mp a7).1;have t1:cQ (bJ (aW T .In (D (.str [35])) (B 2))) (cQ (bJ (aW T .NotEq (B 0) (D (.int 0)))) (M.ret S)) ⟨A,h,ag⟩=.ok (fl.any (Nat.beq 35)&&(!decide (a=0)&&S)) ⟨A,h,ag⟩:=
  ez (aK (aE ao (bM a2 U) U)) (ez (aK (aE (bM a0 U) ao U)) jk)
 refine aY t1 ?_;unfold gr;rw[jh];cases fl.any (Nat.beq 35)&&!decide (a=0)with
 |false=>show _=lJ.ok Fl.nxt (St.mk (A.set 7 (.str (x++[]))) h ag);rw[hA];exact aZ
 |true=>obtain⟨o,o1,o2⟩:=Na k hk;refine br U (bO (bz (bj (bM a7 U) (BG (bM a1 U) ao o1) (by rw[o2];exact cC (by have:=Ag (k:=k);exact bE [_,_] [(.v 0,.l 1000),(.v 1,.l 2)] 0 [1,1] (.a (.v 0) (.v 1)) (.l 16777216) U hx this))) (bv h7)))
theorem vQ(hk:k∈kinds)(ha:a.natAbs<=1000)(hw:w<=1000)(hm:∀j,m=Y j->j<=1000):
  vO (λh'=>bI L Z (n+2) I 866 [.int a,.str [k],.str fl,.int w,dM m] [] h=.ok (.str (vK a k fl w m)) h') (λh'=>∀X,aD X h h'):=by
 obtain⟨b1,b2⟩:=t4 k hk;obtain⟨h1,e1,K⟩:=ka (L:=L) (Z:=Z) (n:=n) (h:=h) (m:=a.natAbs) b1 b2 (by exact leT ha U);obtain⟨o,o1,o2⟩:=JY k hk;have hl:(cY (baseOf k) a.natAbs).length<=1001:=by unfold cY;simp only[List.length_map];exact Nat.le_trans qx (by exact bE [_] [(.v 0,.l 1000)] 0 [1] (.a (.v 0) (.l 1)) (.l 1001) U ha)
 refine⟨h1,?_,K⟩;refine ya UH (L0:=[.int a,.str [k],.str fl,.int w,dM m,.unb,.unb,.unb,.unb]) U ?_;refine bU (s1:=⟨[.int a,.str [k],.str fl,.int w,dM m,.int (baseOf k:Nat),.unb,.unb,.unb],h,I⟩) (bz (BG aq ao o1) (by simp only[o2];rfl)) ?_;refine bU (s1:=⟨[.int a,.str [k],.str fl,.int w,dM m,.int (baseOf k:Nat),.str (cY (baseOf k) a.natAbs),.unb,.unb],h1,I⟩) (bz (aJ U (aB (aJ U (aC aq) (iq sj)) (aC aq)) (b4 U (aO e1))) U) ?_;have hfa:=um (b:=baseOf k) (m:=a.natAbs) b1 b2;refine bU (s1:=⟨[.int a,.str [k],.str fl,.int w,dM m,.int (baseOf k:Nat),.str (sP k (cY (baseOf k) a.natAbs)),.unb,.unb],h1,I⟩) (bz (zE aq aq hfa (by exact leT hl U)) U) ?_;have hu:(sP k (cY (baseOf k) a.natAbs)).length<=1001:=by simp only[oQ];exact hl
 have hN:vK a k fl w m=iD ((gp a fl++gr a k fl)++iX m fl (gp a fl++gr a k fl) (jF m (sP k (cY (baseOf k) a.natAbs))) w) w fl:=rfl;simp only[hN]
 generalize sP k (cY (baseOf k) a.natAbs)=X at hu
 refine bU (s1:=⟨[.int a,.str [k],.str fl,.int w,dM m,.int (baseOf k:Nat),.str (jF m X),.unb,.unb],h1,I⟩) (fL ?_) ?_
 ·induction m with
  |none=>exact pp (fl:=999999999) (mX (aK (aE aq ao U)) (aM U jk)) rfl
  |some j=>
   have hj:=hm j rfl;have ht:∀y:List Nat,y.length<=1000000->Ho (au L Z) (bI L Z (n+1)) ⟨[.int a,.str [k],.str fl,.int w,dM (Y j),.int (baseOf k:Nat),.str y,.unb,.unb],h1,I⟩=.ok (aI ((y.length:Int)<(j:Int))) ⟨[.int a,.str [k],.str fl,.int w,dM (Y j),.int (baseOf k:Nat),.str y,.unb,.unb],h1,I⟩:=λy hy=>by exact mX (aK (aE aq ao U)) (br U (mR (aK (aE (aJ U (aC aq) (iq (fM (by exact leT hy U)))) aq U))))
   have:=oM (b:=HF (au L Z) (bI L Z (n+1))) (λy=>⟨[.int a,.str [k],.str fl,.int w,dM (Y j),.int (baseOf k:Nat),.str y,.unb,.unb],h1,I⟩) (48::·) j (λy=>rfl) (by exact zT (yL hj) U) ht (λy hy=>bO (bz (bj ao aq (cC (w:=[48]) (w':=y) (by show 1+y.length<=16777216;exact bE [_] [(.v 0,.l 1000000)] 0 [1] (.a (.l 1) (.v 0)) (.l 16777216) U hy))) U)) _ ff X U (by exact leT hu U) (by unfold ff;exact leT (Nat.succ_le_succ (Xj (yL hj))) U);rw[oJ]at this;simp only[show jF (Y j) X=List.replicate ((j:Int)-X.length).toNat 48++X by show List.replicate (j-X.length) 48++X=_;rw[show((j:Int)-X.length).toNat=j-X.length by exact jg _ _]];exact this
 have hx:(jF m X).length<=1001:=rA (λi e=>by have:=hm i e;exact leT this U) hu
 generalize jF m X=ae at hx
 have hs:(gp a fl).length<=1:=rE;have hh:(gr a k fl).length<=2:=rh;refine bU (s1:=⟨[.int a,.str [k],.str fl,.int w,dM m,.int (baseOf k:Nat),.str ae,.str (gp a fl),.unb],h1,I⟩) (bz (CU aq aq) U) ?_;refine bU (zS hk (by exact leT hs U) U U U U) ?_;have hld:(gp a fl++gr a k fl).length<=3:=by simp only[List.length_append];exact bE [_,_] [(.v 0,.l 1),(.v 1,.l 2)] 0 [1,1] (.a (.v 0) (.v 1)) (.l 3) U hs hh
 show xi (aH (Io (au L Z) (bI L Z (n+1))) ⟨[.int a,.str [k],.str fl,.int w,dM m,.int (baseOf k:Nat),.str ae,.str (gp a fl++gr a k fl),.unb],h1,I⟩) _
 generalize gp a fl++gr a k fl=ld at hld
 refine bU (s1:=⟨[.int a,.str [k],.str fl,.int w,dM m,.int (baseOf k:Nat),.str (iX m fl ld ae w),.str ld,.unb],h1,I⟩) (fL ?_) ?_
 ·have ht:∀y:List Nat,y.length<=1000000->Hp (au L Z) (bI L Z (n+1)) ⟨[.int a,.str [k],.str fl,.int w,dM m,.int (baseOf k:Nat),.str y,.str ld,.unb],h1,I⟩=.ok (fl.any (Nat.beq 48)&&(!fl.any (Nat.beq 45)&&(m.isNone&&(aI (((ld++y).length:Int)<w)&&S)))) ⟨[.int a,.str [k],.str fl,.int w,dM m,.int (baseOf k:Nat),.str y,.str ld,.unb],h1,I⟩:=λy hy=>ez (aK (aE ao aq U)) (ez (aK (aE ao aq U)) (ez (aK (aE (bM U rL) ao rk)) (ez (aK (aE (aJ U (aC (bj aq aq (cC (by exact bE [_,_] [(.v 0,.l 3),(.v 1,.l 1000000)] 0 [1,1] (.a (.v 0) (.v 1)) (.l 16777216) U hld hy)))) (iq (fM (by simp only[List.length_append];exact bE [_,_] [(.v 0,.l 3),(.v 1,.l 1000000)] 0 [1,1] (.a (.v 0) (.v 1)) (.l 16777216) U hld hy)))) aq U)) jk)))
  unfold iX;have hb:∀y:List Nat,(fl.any (Nat.beq 48)&&(!fl.any (Nat.beq 45)&&(m.isNone&&(aI (((ld++y).length:Int)<w)&&S))))=((fl.any (Nat.beq 48)&&(!fl.any (Nat.beq 45)&&m.isNone))&&aI ((y.length:Int)<w-ld.length)):=λy=>by simp only[jh,List.length_append,show aI (((ld.length+y.length:Nat):Int)<w)=aI ((y.length:Int)<w-ld.length)from decide_eq_decide.mpr (by lia),Bool.and_assoc,Bool.and_assoc]
  induction q:fl.any (Nat.beq 48)&&(!fl.any (Nat.beq 45)&&m.isNone)with
  |false=>exact pp (fl:=999999999) (ht ae (by exact leT hx U)) (by simp only[hb,q];rfl)
  |true=>rw[cond_true,<-oJ];exact oM (λy=>⟨[.int a,.str [k],.str fl,.int w,dM m,.int (baseOf k:Nat),.str y,.str ld,.unb],h1,I⟩) (48::·) (w-ld.length) (λy=>rfl) (by exact zT (J6 hw) U) (λy hy=>by simp only[ht y hy,hb,q,Bool.true_and]) (λy hy=>bO (bz (bj ao aq (cC (w:=[48]) (w':=y) (by show 1+y.length<=16777216;exact bE [_] [(.v 0,.l 1000000)] 0 [1] (.a (.l 1) (.v 0)) (.l 16777216) U hy))) U)) _ ff ae U (by exact leT hx U) (by unfold ff;exact leT (Nat.succ_le_succ (Xj (K:=1000) (J6 hw))) U)
 have hZ:(iX m fl ld ae w).length<=1001:=rG (by exact zT hw U) hx;exact nx (bK (aJ U (aB (bj aq aq (cC (by exact bE [_,_] [(.v 0,.l 3),(.v 1,.l 1001)] 0 [1,1] (.a (.v 0) (.v 1)) (.l 16777216) U hld hZ))) (aB aq (aC aq))) (b4 U (aO (sx (by simp only[List.length_append];exact bE [_,_] [(.v 0,.l 3),(.v 1,.l 1001)] 0 [1,1] (.a (.v 0) (.v 1)) (.l 1000000) U hld hZ) (by exact zT hw U)))))) ⟨U,U⟩
end
section
variable{L:Nat}{Z:List Int}{n:Nat}{hd:Bool}{h h':H}{T:aT}{G:cI}
section
variable{g:qf}{b:M Fl}{s s1 s2:St}{x v:J}{bX:List J}{fl:Nat}{F:lJ St Fl}
theorem Fh:dU (iV g b) (fl+1) (.vals []) s=.ok .nxt s:=rfl
theorem Ce(h1:g x s=.ok () s1)(h2:b s1=.ok .nxt s2)(h3:dU (iV g b) fl (.vals bX) s2=F):dU (iV g b) (fl+1) (.vals (x::bX)) s=F:=az (a:=Y (It.vals bX,Fl.nxt)) (az kO (az h1 (az h2 U))) h3
theorem Wf(h1:g x s=.ok () s1)(h2:b s1=.ok (.ret v) s2):dU (iV g b) (fl+1) (.vals (x::bX)) s=.ok (.ret v) s2:=az (a:=Y (It.vals bX,Fl.ret v)) (az kO (az h1 (az h2 U))) rfl
theorem Uk(h1:g x s=.ok () s1)(h2:b s1=.ok .brk s2):dU (iV g b) (fl+1) (.vals (x::bX)) s=.ok .nxt s2:=az (a:=Y (It.vals bX,Fl.brk)) (az kO (az h1 (az h2 U))) rfl
end
theorem gn{α:Type}{xs:List α}{k:Nat}(hl:xs.length<=16777216):qk xs .none (.int (k:Int))=Y (xs.take k):=by
 by_cases q:k<=xs.length
 ·exact Lm q hl
 ·rw[rl (l:=0) (u:=xs.length) U (by show Y (clip _ _)=_;unfold clip;rw[decide_eq_false (by exact dh.mpr (z0 _))];show Y (min k xs.length)=_;rw[Nat.min_eq_right (by exact Nat.le_of_lt (Nat.lt_of_not_le q))]) hl]
  show Y ((xs.take xs.length).drop 0)=_;rw[List.drop_zero,List.take_of_length_le (Nat.le_refl _),List.take_of_length_le (by exact Nat.le_of_lt (Nat.lt_of_not_le q))]
theorem tJ{α:Type}{xs:List α}{k:Nat}(hl:xs.length<=16777216):qk xs (.int (k:Int)) .none=Y (xs.drop k):=by
 by_cases q:k<=xs.length
 ·exact Hi q hl
 ·rw[rl (l:=xs.length) (u:=xs.length) (by show Y (clip _ _)=_;unfold clip;rw[decide_eq_false (by exact dh.mpr (z0 _))];show Y (min k xs.length)=_;rw[Nat.min_eq_right (by exact Nat.le_of_lt (Nat.lt_of_not_le q))]) U hl]
  show Y ((xs.take xs.length).drop xs.length)=_;rw[List.drop_of_length_le (by rw[List.length_take];exact Nat.min_le_left _ _),List.drop_of_length_le (by exact Nat.le_of_lt (Nat.lt_of_not_le q))]
noncomputable abbrev jD:List Nat:=[32,9,10,11,12,13,0]
noncomputable def TG(base own:Int):Bool:=bif aI (0=base)then S else bif aI (own=base)then S else I
def di(base:Int)(p:List Nat)(own:Int)(q:Int×List Nat):Int×List Nat:=bif eqL ((q.2.take 2).map mK) p&&TG base own then(own,q.2.drop 2)else q
def jl(q:Int×List Nat):Int:=bif aI (q.1=0)then(bif eqL (q.2.take 1) [48]&&aI ((q.2.length:Int)>1)then 8 else 10)else q.1
def cG(c:Nat):Int:=iw (mK c) AD 0
noncomputable def ij(sz:Int)(aS:Bool):List Nat->Int->Bool->Option (Int×Bool)
 |[],f,j=>Y (f,j)
 |c::r,f,j=>bif aI (0<=cG c)&&aI (cG c<sz)then ij sz aS r (f*sz+cG c) S else bif Nat.beq c 95&&j then ij sz aS r f I else bif aS then .none else Y (f,j)
noncomputable def y8(aS neg:Bool)(o:Option (Int×Bool)):J:=match o with
 |.none=>.none
 |some p=>bif aS&&!p.2 then .none else bif neg then .int (-p.1)else .int p.1
def lN(aS:Bool)(x:List Nat):List Nat:=bif aS then mH jD x else ew jD x
def w9(y:List Nat):Bool:=bif eqL [43] (y.take 1)then S else bif eqL [45] (y.take 1)then S else I
def fh(y:List Nat):List Nat:=bif w9 y then y.drop 1 else y
def o6(base:Int)(y:List Nat):Int×List Nat:=di base [48,111] 8 (di base [48,98] 2 (di base [48,120] 16 (base,fh y)))
def fN(x:List Nat)(base:Int)(aS:Bool):J:=y8 aS (eqL ((lN aS x).take 1) [45]) (ij (jl (o6 base (lN aS x))) aS (o6 base (lN aS x)).2 0 I)
noncomputable abbrev rS(a0 a1 a3 a4 a6 a7:J)(aS:Bool)(sz f:Int)(j:Bool)(l10 l11:J):List J:=[a0,a1,.bool aS,a3,a4,.int sz,a6,a7,.int f,.bool j,l10,l11,.unb]
def tP(h:H)(ah:Int->Bool->J->J->List J)(x:lJ St Fl)(o:Option (Int×Bool)):Prop:=match o with
 |.none=>Oy (λA h'=>x=.ok (.ret .none) ⟨A,h',I⟩) (λ_ h'=>∀X,aD X h h')
 |some p=>X2 (λh' l10 l11=>x=.ok .nxt ⟨ah p.1 p.2 l10 l11,h',I⟩) (λh' _ _=>∀X,aD X h h')
theorem tP.mono{h2:H}{ah:Int->Bool->J->J->List J}{x:lJ St Fl}{o:Option (Int×Bool)}(k:∀X,aD X h h2)(a:tP h2 ah x o):tP h ah x o:=by induction o with
 |none=>obtain⟨A,h3,e,K⟩:=a;exact⟨A,h3,e,λX=>(k X).trans (K X)⟩
 |some p=>obtain⟨h3,a,b,e,K⟩:=a;exact⟨h3,a,b,e,λX=>(k X).trans (K X)⟩
theorem rf{a0 a1 a3 a4 a6 a7:J}{aS:Bool}{sz:Int}(hsz:small sz=S):∀(r:List Nat)(f:Int)(j:Bool)(l10 l11:J)(h:H)(fl:Nat),bV r=S->r.length<fl->
  tP h (rS a0 a1 a3 a4 a6 a7 aS sz) (dU (iV (bd 10) (q7 (au L Z) G)) fl (.vals (r.map sg)) ⟨rS a0 a1 a3 a4 a6 a7 aS sz f j l10 l11,h,I⟩) (ij sz aS r f j)
 |_,_,_,_,_,_,0,_,hf=>absurd hf (Nat.not_lt_zero _)
 |[],f,j,l10,l11,h,fl+1,_,_=>⟨h,l10,l11,U,λX=>aD.refl⟩
 |c::r,f,j,l10,l11,h,fl+1,ha,hf=>by
  have ha:(Nat.blt c 128&&bV r)=S:=ha;rw[ax]at ha;have hc:bV [c]=S:=by show(Nat.blt c 128&&S)=S;simp only[ha.1];rfl
  have hf:=Nat.lt_of_succ_lt_succ hf;have hfind:bk (au L Z) G (D (.str AD)) 34 (am "find") [(bk (au L Z) G (B 10) 33 (am "lower") [])] ⟨rS a0 a1 a3 a4 a6 a7 aS sz f j (sg c) l11,h,I⟩=.ok (.int (cG c)) ⟨rS a0 a1 a3 a4 a6 a7 aS sz f j (sg c) l11,h,I⟩:=
   aR ao (Cp U (aC (aR (aq U) (Cp U cy (zC (show 1<=16777216 by decide) hc)))) (Lh (by decide)))
  have hst:sAsg (bd 11) (bk (au L Z) G (D (.str AD)) 34 (am "find") [(bk (au L Z) G (B 10) 33 (am "lower") [])]) ⟨rS a0 a1 a3 a4 a6 a7 aS sz f j (sg c) l11,h,I⟩=.ok .nxt ⟨rS a0 a1 a3 a4 a6 a7 aS sz f j (sg c) (.int (cG c)),h,I⟩:=bz hfind rfl;have t1:bJ (pf (au L Z) .LtE .Lt (D (.int 0)) (B 11) (B 5)) ⟨rS a0 a1 a3 a4 a6 a7 aS sz f j (sg c) (.int (cG c)),h,I⟩=.ok (aI (0<=cG c)&&aI (cG c<sz)) ⟨rS a0 a1 a3 a4 a6 a7 aS sz f j (sg c) (.int (cG c)),h,I⟩:=
   aK (w5 ao (aq U) U (aq U) U)
  have t2:cQ (bJ (aW (au L Z) .Eq (B 10) (D (.str [95])))) (cQ (bJ (B 9)) (M.ret S)) ⟨rS a0 a1 a3 a4 a6 a7 aS sz f j (sg c) (.int (cG c)),h,I⟩=.ok (Nat.beq c 95&&j) ⟨rS a0 a1 a3 a4 a6 a7 aS sz f j (sg c) (.int (cG c)),h,I⟩:=
   ez (aK (aE (aq U) ao cU)) (mR (aK (aq U)))
  unfold ij;induction q1:aI (0<=cG c)&&aI (cG c<sz)with
  |true=>
   have ih:=rf (a0:=a0) (a1:=a1) (a3:=a3) (a4:=a4) (a6:=a6) (a7:=a7) (aS:=aS) hsz r (f*sz+cG c) S (sg c) (.int (cG c)) (h++[.tup [.int (f*sz+cG c),.bool S]]) fl ha.2 hf;have e1:dU (iV (bd 10) (q7 (au L Z) G)) (fl+1) (.vals ((c::r).map sg)) ⟨rS a0 a1 a3 a4 a6 a7 aS sz f j l10 l11,h,I⟩=dU (iV (bd 10) (q7 (au L Z) G)) fl (.vals (r.map sg)) ⟨rS a0 a1 a3 a4 a6 a7 aS sz (f*sz+cG c) S (sg c) (.int (cG c)),h++[.tup [.int (f*sz+cG c),.bool S]],I⟩:=
    Ce (bv U) (aG hst (bO (aY t1 (br q1 (bO (fq (aB (bj (bj (aq U) (aq U) (qL (mA hsz))) (aq U) U) (aC ao)) U U U (bZ (bv U) (dj (bv U))))))))) rfl
   simp only[e1,cond_true];exact tP.mono (λX=>aD.app) ih
  |false=>simp only[cond_false];induction q2:Nat.beq c 95&&j with
   |true=>
    have ih:=rf (a0:=a0) (a1:=a1) (a3:=a3) (a4:=a4) (a6:=a6) (a7:=a7) (aS:=aS) hsz r f I (sg c) (.int (cG c)) h fl ha.2 hf;have e1:dU (iV (bd 10) (q7 (au L Z) G)) (fl+1) (.vals ((c::r).map sg)) ⟨rS a0 a1 a3 a4 a6 a7 aS sz f j l10 l11,h,I⟩=dU (iV (bd 10) (q7 (au L Z) G)) fl (.vals (r.map sg)) ⟨rS a0 a1 a3 a4 a6 a7 aS sz f I (sg c) (.int (cG c)),h,I⟩:=
     Ce (bv U) (aG hst (bO (aY t1 (aM q1 (bO (aY t2 (br q2 (bO (bz ao U))))))))) rfl
    simp only[e1];exact ih
   |false=>induction aS with
    |true=>exact⟨_,h,Wf (bv U) (aG hst (bO (aY t1 (aM q1 (bO (aY t2 (aM q2 (bO (aY (aK (aq U)) (br U (bO (bK ao)))))))))))),λX=>aD.refl⟩
    |false=>exact⟨h,_,_,Uk (bv U) (aG hst (bO (aY t1 (aM q1 (bO (aY t2 (aM q2 (bO (aY (aK (aq U)) (aM U (bO VU))))))))))),λX=>aD.refl⟩
end
section
variable{L:Nat}{Z:List Int}{n:Nat}{hd:Bool}{h h':H}{T:aT}{G:cI}{x y:List Nat}{base:Int}{aS:Bool}
noncomputable abbrev rP(x:List Nat)(base:Int)(aS:Bool)(neg:Bool)(q:Int×List Nat)(p o:J):List J:=[.str x,.int base,.bool aS,.str q.2,.bool neg,.int q.1,p,o,.unb,.unb,.unb,.unb,.unb]
theorem mI{e:List Nat}:∀{x:List Nat},(ew e x).length<=x.length
 |[]=>Nat.le_refl _
 |c::r=>by unfold ew;cases isBlank e c with
  |true=>exact Nat.le_succ_of_le mI
  |false=>exact Nat.le_refl _
theorem jL{e:List Nat}:∀{x:List Nat},bV x=S->bV (ew e x)=S
 |[],_=>rfl
 |c::r,h=>by unfold ew;cases isBlank e c with
  |true=>exact jL (bN.mp (show(Nat.blt c 128&&bV r)=S from h)).2
  |false=>exact h
theorem wA(hx:bV x=S):bV x.reverse=S:=by unfold bV at hx⊢;rw[List.all_reverse];exact hx
theorem EQ:(lN aS x).length<=x.length:=by induction aS with
 |false=>exact mI
 |true=>show((ew jD (ew jD x).reverse).reverse).length<=_;rw[List.length_reverse];exact Nat.le_trans mI (by rw[List.length_reverse];exact mI)
theorem yC(hx:bV x=S):bV (lN aS x)=S:=by induction aS with
 |false=>exact jL hx
 |true=>exact wA (jL (wA (jL hx)))
theorem t5{k:Nat}(hx:bV x=S):bV (x.drop k)=S:=by unfold bV at hx⊢;rw[List.all_eq_true]at hx⊢;exact λc hc=>hx c (List.mem_of_mem_drop hc)
theorem AE{k:Nat}(hx:bV x=S):bV (x.take k)=S:=by unfold bV at hx⊢;rw[List.all_eq_true]at hx⊢;exact λc hc=>hx c (List.mem_of_mem_take hc)
theorem Ed(hx:bV y=S):bV (fh y)=S/\(fh y).length<=y.length:=by unfold fh;cases w9 y with
 |true=>exact⟨t5 hx,by simp only[cond_true,List.length_drop];exact Nat.sub_le _ _⟩
 |false=>exact⟨hx,Nat.le_refl _⟩
theorem Br{p:List Nat}{own:Int}{q:Int×List Nat}(ha:bV q.2=S)(hq:q.1.natAbs<=100)(ho:own.natAbs<=100):bV (di base p own q).2=S/\(di base p own q).2.length<=q.2.length/\(di base p own q).1.natAbs<=100:=by unfold di;cases eqL ((q.2.take 2).map mK) p&&TG base own with
 |true=>exact⟨t5 ha,by simp only[cond_true,List.length_drop];exact Nat.sub_le _ _,ho⟩
 |false=>exact⟨ha,Nat.le_refl _,hq⟩
theorem Pk{own:Int}:lX (.int base) [.int 0,.int own]=Y (TG base own):=by show((Y (aI (0=base))).bind λt=>bif t then Y S else(Y (aI (own=base))).bind λt=>bif t then Y S else Y I)=Y (bif aI (0=base)then S else bif aI (own=base)then S else I);cases aI (0=base)<;>cases aI (own=base)<;>rfl
theorem tK{neg:Bool}{p:List Nat}{own:Int}{q:Int×List Nat}(ha:bV q.2=S)(hl:q.2.length<=1000000):vO (λh'=>BH (au L Z) G ⟨rP x base aS neg q (.str p) (.int own),h,I⟩=.ok .nxt ⟨rP x base aS neg (di base p own q) (.str p) (.int own),h',I⟩) (λh'=>∀X,aD X h h'):=by
 have t1:cQ (bJ (aW (au L Z) .Eq (bk (au L Z) G (fU (au L Z) (B 3) (D .none) (D (.int 2))) 33 (am "lower") []) (B 6))) (cQ (bJ (lm I (B 1) [(D (.int 0)),(B 7)])) (M.ret S)) ⟨rP x base aS neg q (.str p) (.int own),h,I⟩=.ok (eqL ((q.2.take 2).map mK) p&&TG base own) ⟨rP x base aS neg q (.str p) (.int own),h,I⟩:=
  ez (aK (aE (aR (dN aq ao ao (gn (k:=2) (by exact leT hl U))) (Cp U cy (zC (by rw[List.length_take];exact leT (Nat.min_le_left _ _) U) (AE ha)))) aq U)) (mR (aK (oH aq (aB ao (aC aq)) U Pk)))
 unfold di;induction qq:eqL ((q.2.take 2).map mK) p&&TG base own with
 |false=>exact⟨h,bO (aY t1 (aM qq aZ)),λX=>aD.refl⟩
 |true=>exact⟨_,bO (aY t1 (br qq (bO (fq (aB aq (aC (dN aq ao ao (tJ (k:=2) (by exact leT hl U))))) U U U (bZ (bv U) (dj (bv U))))))),λX=>aD.app⟩
theorem kM(hx:bV x=S)(hl:x.length<=1000000)(hb:base.natAbs<=100):vO (λh'=>bI L Z (n+1) I 386 [.str x,.int base,.bool aS] [] h=.ok (fN x base aS) h') (λh'=>∀X,aD X h h'):=by
 have ey:=yC (aS:=aS) hx;have ly:=EQ (aS:=aS) (x:=x);have hre:fN x base aS=y8 aS (eqL ((lN aS x).take 1) [45]) (ij (jl (o6 base (lN aS x))) aS (o6 base (lN aS x)).2 0 I):=rfl;refine hre▸?_;have e0:∀A:List J,A[2]?=Y (.bool aS)->A[0]?=Y (.str x)->fD (bJ (B 2)) (bk (au L Z) (bI L Z n) (B 0) 31 (am "strip") [(D (.str [32,9,10,11,12,13,0]))]) (bk (au L Z) (bI L Z n) (B 0) 32 (am "lstrip") [(D (.str [32,9,10,11,12,13,0]))]) ⟨A,h,I⟩=.ok (.str (lN aS x)) ⟨A,h,I⟩:=λA a2 a0=>by refine dy (aK (bM a2 U)) ?_;induction aS with
  |true=>exact aR (bM a0 U) (Cp U (aC ao) (Ga (by exact leT hl U)))
  |false=>exact aR (bM a0 U) (Cp U (aC ao) (Ep (by exact leT hl U)))
 generalize lN aS x=y at ey ly e0
 obtain⟨u1,u2⟩:=Ed ey;obtain⟨a1,a2,a3⟩:=Br (base:=base) (p:=[48,120]) (own:=16) (q:=(base,fh y)) u1 hb (by decide);have a2:_<=(fh y).length:=a2;obtain⟨b1,b2,b3⟩:=Br (base:=base) (p:=[48,98]) (own:=2) a1 a3 (by decide);obtain⟨c1,c2,c3⟩:=Br (base:=base) (p:=[48,111]) (own:=8) b1 b3 (by decide);obtain⟨h1,e1,K1⟩:=tK (L:=L) (Z:=Z) (G:=bI L Z n) (h:=h) (x:=x) (base:=base) (aS:=aS) (neg:=eqL (y.take 1) [45]) (p:=[48,120]) (own:=16) (q:=(base,fh y)) u1 (show(fh y).length<=1000000 by exact bE [_,_,_] [(.v 0,.l 1000000),(.v 1,.v 0),(.v 2,.v 1)] 0 [1,1,1] (.v 2) (.l 1000000) U hl ly u2);obtain⟨h2,e2,K2⟩:=tK (L:=L) (Z:=Z) (G:=bI L Z n) (h:=h1) (x:=x) (base:=base) (aS:=aS) (neg:=eqL (y.take 1) [45]) (p:=[48,98]) (own:=2) a1 (by exact bE [_,_,_,_] [(.v 0,.l 1000000),(.v 1,.v 0),(.v 2,.v 1),(.v 3,.v 2)] 0 [1,1,1,1] (.v 3) (.l 1000000) U hl ly u2 a2);obtain⟨h3,e3,K3⟩:=tK (L:=L) (Z:=Z) (G:=bI L Z n) (h:=h2) (x:=x) (base:=base) (aS:=aS) (neg:=eqL (y.take 1) [45]) (p:=[48,111]) (own:=8) b1 (by exact bE [_,_,_,_,_] [(.v 0,.l 1000000),(.v 1,.v 0),(.v 2,.v 1),(.v 3,.v 2),(.v 4,.v 3)] 0 [1,1,1,1,1] (.v 4) (.l 1000000) U hl ly u2 a2 b2);have hq:o6 base y=di base [48,111] 8 (di base [48,98] 2 (di base [48,120] 16 (base,fh y))):=rfl;have hfor:uD (fg (au L Z) [(bd 6),(bd 7)]) (iU (au L Z) (D (.sref 363))) (BH (au L Z) (bI L Z n)) ⟨rP x base aS (eqL (y.take 1) [45]) (base,fh y) .unb .unb,h,I⟩=.ok .nxt ⟨rP x base aS (eqL (y.take 1) [45]) (o6 base y) (.str [48,111]) (.int 8),h3,I⟩:=by refine hq▸?_;exact si U (Cz ao U) (Ce (fl:=999999999) (BF U U U (bZ (bv U) (dj (bv U)))) e1 (Ce (fl:=999999998) (BF U U U (bZ (bv U) (dj (bv U)))) e2 (Ce (fl:=999999997) (BF U U U (bZ (bv U) (dj (bv U)))) e3 (Fh (fl:=999999996)))))
 rw[<-hq]at c1 c2 c3
 generalize o6 base y=q at c1 c2 c3 hfor
 have hql:q.2.length<=1000000:=by exact bE [_,_,_,_,_,_] [(.v 0,.l 1000000),(.v 1,.v 0),(.v 2,.v 1),(.v 3,.v 2),(.v 4,.v 3),(.v 5,.v 4)] 0 [1,1,1,1,1,1] (.v 5) (.l 1000000) U hl ly u2 a2 b2 c2
 have hsz:(jl q).natAbs<=100:=by unfold jl;cases aI (q.1=0)with
  |false=>exact c3
  |true=>simp only[cond_true];cases eqL (q.2.take 1) [48]&&aI ((q.2.length:Int)>1)<;>decide
 have hsl:=rf (L:=L) (Z:=Z) (G:=bI L Z n) (a0:=.str x) (a1:=.int base) (a3:=.str q.2) (a4:=.bool (eqL (y.take 1) [45])) (a6:=.str [48,111]) (a7:=.int 8) (aS:=aS) (sz:=jl q) (kj (by exact bE [_] [(.v 0,.l 100)] 0 [1] (.a (.v 0) (.l 1)) (.l 9223372036854775808) U hsz)) q.2 0 I .unb .unb (h3++[.tup [.int 0,.bool I]]) ff c1 (by unfold ff;exact bE [_,_,_,_,_,_] [(.v 0,.l 1000000),(.v 1,.v 0),(.v 2,.v 1),(.v 3,.v 2),(.v 4,.v 3),(.v 5,.v 4)] 0 [1,1,1,1,1,1] (.a (.v 5) (.l 1)) (.l 1000000000) U hl ly u2 a2 b2 c2);have K:∀X,aD X h (h3++[.tup [.int 0,.bool I]]):=λX=>(((K1 X).trans (K2 X)).trans (K3 X)).trans aD.app;have start:∀{P:J->H->Prop},xi (aH (Jn (au L Z) (bI L Z n)) ⟨rS (.str x) (.int base) (.str q.2) (.bool (eqL (y.take 1) [45])) (.str [48,111]) (.int 8) aS (jl q) 0 I .unb .unb,h3++[.tup [.int 0,.bool I]],I⟩) P->xi (Oz (au L Z) (bI L Z n) ⟨[.str x,.int base,.bool aS,.unb,.unb,.unb,.unb,.unb,.unb,.unb,.unb,.unb,.unb],h,I⟩) P:=λE=>by
  refine bU (s1:=⟨[.str x,.int base,.bool aS,.str y,.unb,.unb,.unb,.unb,.unb,.unb,.unb,.unb,.unb],h,I⟩) (bz (e0 _ U U) U) ?_;refine bU (s1:=⟨[.str x,.int base,.bool aS,.str y,.bool (eqL (y.take 1) [45]),.unb,.unb,.unb,.unb,.unb,.unb,.unb,.unb],h,I⟩) (bz (aE (dN aq ao ao (gn (k:=1) (by exact bE [_,_] [(.v 0,.l 1000000),(.v 1,.v 0)] 0 [1,1] (.v 1) (.l 16777216) U hl ly))) ao U) U) ?_;have t2:bJ (lm I (fU (au L Z) (B 3) (D .none) (D (.int 1))) [(D (.str [43])),(D (.str [45]))]) ⟨[.str x,.int base,.bool aS,.str y,.bool (eqL (y.take 1) [45]),.unb,.unb,.unb,.unb,.unb,.unb,.unb,.unb],h,I⟩=.ok (w9 y) ⟨[.str x,.int base,.bool aS,.str y,.bool (eqL (y.take 1) [45]),.unb,.unb,.unb,.unb,.unb,.unb,.unb,.unb],h,I⟩:=
   aK (oH (dN aq ao ao (gn (k:=1) (by exact bE [_,_] [(.v 0,.l 1000000),(.v 1,.v 0)] 0 [1,1] (.v 1) (.l 16777216) U hl ly))) (aB ao (aC ao)) U (by show((Y (eqL [43] (y.take 1))).bind λt=>bif t then Y S else(Y (eqL [45] (y.take 1))).bind λt=>bif t then Y S else Y I)=Y (bif eqL [43] (y.take 1)then S else bif eqL [45] (y.take 1)then S else I);cases eqL [43] (y.take 1)<;>cases eqL [45] (y.take 1)<;>rfl))
  refine bU (s1:=⟨[.str x,.int base,.bool aS,.str (fh y),.bool (eqL (y.take 1) [45]),.unb,.unb,.unb,.unb,.unb,.unb,.unb,.unb],h,I⟩) (aY t2 ?_) ?_
  ·unfold fh
   cases w9 y with
   |false=>exact aZ
   |true=>exact br U (bO (bz (dN aq ao ao (tJ (k:=1) (by exact bE [_,_] [(.v 0,.l 1000000),(.v 1,.v 0)] 0 [1,1] (.v 1) (.l 16777216) U hl ly))) U))
  refine bU (s1:=⟨rP x base aS (eqL (y.take 1) [45]) (base,fh y) .unb .unb,h,I⟩) (bz aq U) ?_;refine bU hfor ?_;refine bU (s1:=⟨[.str x,.int base,.bool aS,.str q.2,.bool (eqL (y.take 1) [45]),.int (jl q),.str [48,111],.int 8,.unb,.unb,.unb,.unb,.unb],h3,I⟩) (aY (aK (aE aq ao U)) ?_) ?_
  ·unfold jl
   cases aI (q.1=0)with
   |false=>exact aZ
   |true=>refine br U (bO (bz (s1:=⟨rP x base aS (eqL (y.take 1) [45]) q (.str [48,111]) (.int 8),h3,I⟩) (v:=.int (bif eqL (q.2.take 1) [48]&&aI ((q.2.length:Int)>1)then 8 else 10)) (dy (ez (aK (aE (dN aq ao ao (gn (k:=1) (by exact bE [_,_,_,_,_,_] [(.v 0,.l 1000000),(.v 1,.v 0),(.v 2,.v 1),(.v 3,.v 2),(.v 4,.v 3),(.v 5,.v 4)] 0 [1,1,1,1,1,1] (.v 5) (.l 16777216) U hl ly u2 a2 b2 c2))) ao U)) (mR (aK (aE (aJ U (aC aq) (iq (fM (by exact bE [_,_,_,_,_,_] [(.v 0,.l 1000000),(.v 1,.v 0),(.v 2,.v 1),(.v 3,.v 2),(.v 4,.v 3),(.v 5,.v 4)] 0 [1,1,1,1,1,1] (.v 5) (.l 16777216) U hl ly u2 a2 b2 c2)))) ao U)))) ?_) U));cases eqL (q.2.take 1) [48]&&aI ((q.2.length:Int)>1)<;>exact ao
  exact bU (fq (aB ao (aC ao)) U U U (bZ (bv U) (dj (bv U)))) E
 induction ho:ij (jl q) aS q.2 0 I with
 |none=>rw[ho]at hsl;obtain⟨A,h4,e4,K4⟩:=hsl;exact⟨h4,ya Dz U (start ⟨_,_,_,_,bF (si U (xx aq) e4),U,U⟩),λX=>(K X).trans (K4 X)⟩
 |some p=>rw[ho]at hsl;obtain⟨h4,l10,l11,e4,K4⟩:=hsl;refine⟨h4,ya Dz U (start (bU (si U (xx aq) e4) ?_)),λX=>(K X).trans (K4 X)⟩;have t8:cQ (bJ (B 2)) (cQ (vG (bJ (B 9))) (M.ret S)) ⟨rS (.str x) (.int base) (.str q.2) (.bool (eqL (y.take 1) [45])) (.str [48,111]) (.int 8) aS (jl q) p.1 p.2 l10 l11,h4,I⟩=.ok (aS&&!p.2) ⟨rS (.str x) (.int base) (.str q.2) (.bool (eqL (y.take 1) [45])) (.str [48,111]) (.int 8) aS (jl q) p.1 p.2 l10 l11,h4,I⟩:=ez (aK aq) (mR (qg (aK aq) U));unfold y8;induction hs:aS&&!p.2 with
  |true=>exact nx (aY t8 (br hs (bO (bK ao)))) ⟨by show _=(bif aS&&!p.2 then J.none else _);refine hs▸?_;rfl,U⟩
  |false=>
   have e9:fD (bJ (B 4)) (rp (B 8)) (B 8) ⟨rS (.str x) (.int base) (.str q.2) (.bool (eqL (y.take 1) [45])) (.str [48,111]) (.int 8) aS (jl q) p.1 p.2 l10 l11,h4,I⟩=.ok (bif eqL (y.take 1) [45]then .int (-p.1)else .int p.1) ⟨rS (.str x) (.int base) (.str q.2) (.bool (eqL (y.take 1) [45])) (.str [48,111]) (.int 8) aS (jl q) p.1 p.2 l10 l11,h4,I⟩:=by refine dy (aK aq) ?_;cases eqL (y.take 1) [45]with
    |true=>exact br U (y6 aq)
    |false=>exact aM U (bM (v:=.int p.1) U U)
   exact bU (aY t8 (aM hs aZ)) (nx (bK e9) ⟨by show _=(bif aS&&!p.2 then J.none else _);refine hs▸?_;rfl,U⟩)
end
section
variable{L:Nat}{Z:List Int}{n:Nat}{hd:Bool}{h h':H}{T:aT}{G:cI}{f w mo vi p u:Nat}{t r:List Nat}{vs:List J}{v:J}
section
variable{e:M J}{es:List (M J)}{s s1 s2:St}{x:Nat}{a:J}
theorem Iu(h1:e s=.exc x s1):df (e::es) s=.exc x s1:=eL h1
theorem tQ(h1:e s=.ok a s1)(h2:df es s1=.exc x s2):df (e::es) s=.exc x s2:=az h1 (eL h2)
theorem yd{b:J}{ks:List (Nat×M J)}(hc:kr T b=S)(h1:df es s=.exc x s1):aN T G b es ks s=.exc x s1:=b6 hc (eL h1)
theorem uH{C g i m:Nat}{fs:List (Nat×J)}{nm:aV}(hm:fm T C m=Y g)(hx:((d5 m fs).isNone&&!nk T C)=S)(h2:df es s=.exc x s1):uF T G i (.inst C fs) m nm es s=.exc x s1:=dR hm (b6 hx (eL h2))
theorem UO(h1:df es s=.exc x s1):mTup es s=.exc x s1:=eL h1
end
noncomputable def yW(w vi:Nat)(t:List Nat)(p u:Nat):List (Nat×J):=[(40,.obj w),(7,.str t),(41,.obj vi),(42,.int (p:Int)),(43,.int (u:Int))]
structure Fs(h:H)(f w mo vi:Nat)(t:List Nat)(vs:List J)(p u:Nat):Prop where
 at':h[f]?=Y (.inst 494 (yW w vi t p u))
 li:h[vi]?=Y (.list vs)
 wo:Wo h w mo
 tl:t.length<=1000000
 vl:vs.length<=1000000
theorem Fs.keep{X:List Nat}(F:Fs h f w mo vi t vs p u)(K:aD X h h')(W:Wo h' w mo)(h1:f∉X)(h2:vi∉X):Fs h' f w mo vi t vs p u:=⟨K.get F.at' h1,K.get F.li h2,W,F.tl,F.vl⟩
theorem Fs.all(F:Fs h f w mo vi t vs p u)(K:∀X,aD X h h'):Fs h' f w mo vi t vs p u:=F.keep (K []) (F.wo.keep (K []) λ_ _ _ _=>List.not_mem_nil) List.not_mem_nil List.not_mem_nil
theorem Fs.step{p' u':Nat}(F:Fs h f w mo vi t vs p u):Fs (h.set f (.inst 494 (yW w vi t p' u'))) f w mo vi t vs p' u':=⟨dP F.at',iC (eZ F.at' F.li U) F.li,F.wo.set F.at' U,F.tl,F.vl⟩
abbrev FK(f w mo:Nat)(h h':H):Prop:=aD [f,w,mo] h h'
theorem FK.ofF(k:aD [f] h h'):FK f w mo h h':=k.mono λi _ m=>by refine(List.mem_singleton.mp m)▸?_;exact .head _
theorem FK.ofW(k:aD [w,mo] h h'):FK f w mo h h':=k.mono λi _ m=>.tail _ m
abbrev jE(L:Nat)(Z:List Int)(k g:Nat)(as:List J)(f w mo:Nat)(h:H)(nm:List Nat):Prop:=Ai (λx h'=>bI L Z k I g as [] h=.exc x h') (λx h'=>fA h' x nm) (λ_ h'=>Wo h' w mo) (λ_ h'=>FK f w mo h h')
theorem gf{c:Nat}(F:Fs h f w mo vi t vs p u)(hr:t.drop p=c::r):bI L Z (n+1) hd 463 [.obj f] [] h=.ok (.str [c]) (h.set f (.inst 494 (yW w vi t (p+1) u))):=by
 have hp:t[p]?=Y c:=by rw[<-Nat.add_zero p,<-List.getElem?_drop,hr];rfl
 have hlt:p<t.length:=(List.getElem?_eq_some_iff.mp hp).1;have htl:=F.tl;apply bC Nd (L0:=[.obj f,.unb]) rfl;exact aG (aY (aK (aE (bG aq F.at' U) (aJ U (aC (bG aq F.at' U)) (iq (fM (by exact leT htl U)))) U)) (aM (decide_eq_false (by exact WV hlt)) aZ)) (aG (rT aq (i9 F.at' U) ao U (kW F.at' U U))
  (bF (bK (oK (bG aq (dP F.at') U) (bj (bG aq (dP F.at') U) ao U) (by show FU t ((p:Int)+1-1)=Y c;rw[fx];exact mF hp (by exact bE [_,_] [(.a (.v 0) (.l 1),.v 1),(.v 1,.l 1000000)] 0 [1,1] (.a (.v 0) (.l 1)) (.l 4611686018427387904) U hlt htl))))))
theorem nq(F:Fs h f w mo vi t vs p u)(hr:t.drop p=[]):jE L Z (n+11) 463 [.obj f] f w mo h aU:=by have hlt:t.length<=p:=List.drop_eq_nil_iff.mp hr;have htl:=F.tl;obtain⟨x,h1,e,R,W,K⟩:=jc (L:=L) (Z:=Z) (n:=n) (x:=[105,110,99,111,109,112,108,101,116,101,32,102,111,114,109,97,116,32,115,112,101,99,105,102,105,101,114,59,32,117,115,101,32,37,37,32,40,100,111,117,98,108,101,32,37,41,32,105,110,115,116,101,97,100]) F.wo d6;refine⟨x,h1,?_,R,W,FK.ofW K⟩;apply fY Nd (L0:=[.obj f,.unb]) rfl;exact cZ (aY (aK (aE (bG aq F.at' U) (aJ U (aC (bG aq F.at' U)) (iq (fM (by exact leT htl U)))) U)) (br (decide_eq_true (by exact yL hlt)) (cZ (eK (aR (bG aq F.at' U) (o4 F.wo.ok U U (aB ao (aC ao)) (dQ e)))))))
theorem iE(F:Fs h f w mo vi t vs p u)(hv:vs[u]?=Y v):bI L Z (n+1) hd 456 [.obj f] [] h=.ok v (h.set f (.inst 494 (yW w vi t p (u+1)))):=by
 have hlt:u<vs.length:=(List.getElem?_eq_some_iff.mp hv).1;have hvl:=F.vl;have hli:(h.set f (.inst 494 (yW w vi t p (u+1))))[vi]?=Y (.list vs):=iC (eZ F.at' F.li U) F.li;apply bC NA (L0:=[.obj f,.unb]) rfl;exact aG (aY (aK (aE (bG aq F.at' U) (aJ U (aC (bG aq F.at' U)) (iq (tv F.li (by exact leT hvl U)))) U)) (aM (decide_eq_false (by exact WV hlt)) aZ)) (aG (rT aq (i9 F.at' U) ao U (kW F.at' U U))
  (bF (bK (gJ (bG aq (dP F.at') U) (bj (bG aq (dP F.at') U) ao U) hli (by show FU vs ((u:Int)+1-1)=Y v;rw[fx];exact mF hv (by exact bE [_,_] [(.a (.v 0) (.l 1),.v 1),(.v 1,.l 1000000)] 0 [1,1] (.a (.v 0) (.l 1)) (.l 4611686018427387904) U hlt hvl))))))
theorem uM(F:Fs h f w mo vi t vs p u)(hv:vs.length<=u):jE L Z (n+11) 456 [.obj f] f w mo h aU:=by have hvl:=F.vl;obtain⟨x,h1,e,R,W,K⟩:=jc (L:=L) (Z:=Z) (n:=n) (x:=[116,111,111,32,102,101,119,32,97,114,103,117,109,101,110,116,115]) F.wo d6;refine⟨x,h1,?_,R,W,FK.ofW K⟩;apply fY NA (L0:=[.obj f,.unb]) rfl;exact cZ (aY (aK (aE (bG aq F.at' U) (aJ U (aC (bG aq F.at' U)) (iq (tv F.li (by exact leT hvl U)))) U)) (br (decide_eq_true (by exact yL hv)) (cZ (eK (aR (bG aq F.at' U) (o4 F.wo.ok U U (aB ao (aC ao)) (dQ e)))))))
theorem wz{k:Int}{w:Nat}:bI L Z (n+2) hd 352 [.obj w,.int k] [] h=.ok (.int k) h:=by apply bC NJ (L0:=[.obj w,.int k,.unb,.unb]) rfl;exact bq (aY (aK (aJ U (aC aq) (b4 U (aO mM)))) (br U (bF (bK aq)))) dY
theorem DS(W:Wo h w mo):Ai (λx h'=>bI L Z (n+11) I 352 [.obj w,.none] [] h=.exc x h') (λx h'=>fA h' x dZ) (λ_ h'=>Wo h' w mo) (λ_ h'=>TE w mo h h'):=by obtain⟨x,h1,e,R,W1,K⟩:=jc (L:=L) (Z:=Z) (n:=n) (x:=[110,111,32,105,109,112,108,105,99,105,116,32,99,111,110,118,101,114,115,105,111,110,32,102,114,111,109,32,110,105,108,32,116,111,32,105,110,116,101,103,101,114]) W pN;refine⟨x,h1,?_,R,W1,K⟩;apply fY NJ (L0:=[.obj w,.none,.unb,.unb]) rfl;exact aG (aY (aK (aJ U (aC aq) (b4 U (aO (mf U U))))) (aM U aZ)) (cZ (aY (aK (aE aq ao U)) (br U (cZ (eK (aR aq (o4 W.ok U U (aB ao (aC ao)) (dQ e))))))))
abbrev YO(h:H)(j:Nat)(k:Int)(c:Nat):Prop:=h[j]?=Y (.tup [.int k,.str [c]])
end
section
variable{L:Nat}{Z:List Int}{n:Nat}{hd:Bool}{h h':H}{T:aT}{G:cI}{f w mo vi p u:Nat}{t r:List Nat}{vs:List J}{v:J}{c c':Nat}
theorem KM(hc:gQ c=S):[48,49,50,51,52,53,54,55,56,57].any (Nat.beq c)=S:=by
 unfold gQ at hc;rw[ax]at hc;have h1:=Nat.le_of_ble_eq_true hc.1;have h2:=Nat.le_of_ble_eq_true hc.2;have key:∀d:Fin 58,Nat.ble 48 d.1=S->[48,49,50,51,52,53,54,55,56,57].any (Nat.beq d.1)=S:=by decide
 exact key ⟨c,by lia⟩ hc.1
theorem v0(hc:gQ c=I):[48,49,50,51,52,53,54,55,56,57].any (Nat.beq c)=I:=by induction q:[48,49,50,51,52,53,54,55,56,57].any (Nat.beq c)with
 |false=>rfl
 |true=>
  obtain⟨d,hm,hd2⟩:=List.any_eq_true.mp q;rw[Nat.eq_of_beq_eq_true hd2]at hc;have:∀d∈[48,49,50,51,52,53,54,55,56,57],gQ d=S:=by decide
  rw[this d hm]at hc;exact nF hc
noncomputable abbrev cS(f:Nat)(l1:J)(k:Nat)(c:Nat):List J:=[.obj f,l1,.int (k:Int),.str [c],.unb]
theorem iJ{l1:J}{k:Nat}{b:Bool}(hb:[48,49,50,51,52,53,54,55,56,57].any (Nat.beq c)=b):IC (au L Z) G ⟨cS f l1 k c,h,I⟩=.ok b ⟨cS f l1 k c,h,I⟩:=aK (aE aq ao (by rw[<-hb];rfl))
theorem wY{l1:J}{k:Nat}(hc:gQ c=S):sAsg (bd 2) (bp .Add (bp .Mult (B 2) (D (.int 10))) (aN (au L Z) G (.ty "int") [(B 3)] [])) ⟨cS f l1 k c,h,I⟩=.ok .nxt ⟨cS f l1 (k*10+(c-48)) c,h,I⟩:=
 bz (bj (bj aq ao (qL (mA U))) (aJ U (aC aq) (DT (TO hc))) U) rfl
theorem nP{l1:J}{k:Nat}(F:Fs h f w mo vi t vs p u)(hr:t.drop p=c'::r)(hc:gQ c=S)(hk:k*10+(c-48)<=20000):xj (au L Z) (bI L Z (n+1)) ⟨cS f l1 k c,h,I⟩=.ok .nxt ⟨cS f l1 (k*10+(c-48)) c',h.set f (.inst 494 (yW w vi t (p+1) u)),I⟩:=
 aG (wY hc) (aG (aY (aK (aE aq ao U)) (aM (decide_eq_false (by exact SW (a:=20000) hk)) aZ)) (bO (bz (aR aq (jN F.at' (cD U U cy (aO (gf F hr))))) U)))
theorem Ma{l1:J}{k:Nat}(F:Fs h f w mo vi t vs p u)(hc:gQ c=S)(hk:20000<k*10+(c-48)):Ai (λx h'=>xj (au L Z) (bI L Z (n+11)) ⟨cS f l1 k c,h,I⟩=.exc x ⟨cS f l1 (k*10+(c-48)) c,h',I⟩) (λx h'=>fA h' x aU) (λ_ h'=>Wo h' w mo) (λ_ h'=>FK f w mo h h'):=by obtain⟨x,h1,e,R,W,K⟩:=jc (L:=L) (Z:=Z) (n:=n+1) (x:=[119,105,100,116,104,32,116,111,111,32,98,105,103]) F.wo d6;exact⟨x,h1,aG (wY hc) (cZ (aY (aK (aE aq ao U)) (br (decide_eq_true (by exact vA (a:=20000) hk)) (cZ (eK (aR (bG aq F.at' U) (o4 F.wo.ok U U (aB ao (aC ao)) (dQ e)))))))),R,W,FK.ofW K⟩
theorem Lx{l1:J}{k:Nat}(F:Fs h f w mo vi t vs p u)(hr:t.drop p=[])(hc:gQ c=S)(hk:k*10+(c-48)<=20000):Ai (λx h'=>xj (au L Z) (bI L Z (n+11)) ⟨cS f l1 k c,h,I⟩=.exc x ⟨cS f l1 (k*10+(c-48)) c,h',I⟩) (λx h'=>fA h' x aU) (λ_ h'=>Wo h' w mo) (λ_ h'=>FK f w mo h h'):=by obtain⟨x,h1,e,R,W,K⟩:=nq (L:=L) (Z:=Z) (n:=n) F hr;exact⟨x,h1,aG (wY hc) (aG (aY (aK (aE aq ao U)) (aM (decide_eq_false (by exact SW (a:=20000) hk)) aZ)) (bO (oA (aR aq (jN F.at' (cD U U cy (dQ e))))))),R,W,K⟩
theorem oE(hc:Nat.beq c 42=I):S8 (au L Z) G ⟨[.obj f,.str [c],.unb,.unb,.unb],h,I⟩=aH (G0 (au L Z) G) ⟨cS f (.str [c]) 0 c,h++[.tup [.int 0,.str [c]]],I⟩:=
 aG (aY (aK (aE aq ao cU)) (aM hc aZ)) (aG (fq (aB ao (aC aq)) U U U (bZ (bv U) (dj (bv U)))) U)
theorem zh{l1:J}{k:Nat}(hc:gQ c=I):aH (Jo (au L Z) G) ⟨cS f l1 k c,h,I⟩=.ok (.ret (.obj h.length)) ⟨cS f l1 k c,h++[.tup [.int (k:Int),.str [c]]],I⟩:=bF (bK (gm (aB aq (aC aq)) U))
abbrev qW(L:Nat)(Z:List Int)(k:Nat)(c:Nat)(h:H)(f w mo vi:Nat)(t:List Nat)(vs:List J)(p u:Nat)(q:Int)(c':Nat):Prop:=
 Ai (λj h'=>bI L Z k I 470 [.obj f,.str [c]] [] h=.ok (.obj j) h') (λj h'=>YO h' j q c') (λ_ h'=>Fs h' f w mo vi t vs p u) (λ_ h'=>FK f w mo h h')
theorem FR(F:Fs h f w mo vi t vs p u)(hc:Nat.beq c 42=I)(hd':gQ c=I):qW L Z (n+1) c h f w mo vi t vs p u 0 c:=
 ⟨_,_,by apply bC sr (L0:=[.obj f,.str [c],.unb,.unb,.unb]) rfl;rw[oE hc];exact aG (fL (pp (fl:=999999999) (iJ (v0 hd')) U)) (zh hd'),ba,F.all λX=>(aD.app.trans aD.app),aD.app.trans aD.app⟩
theorem vW(F:Fs h f w mo vi t vs p u)(hc:Nat.beq c 42=I)(hd':gQ c=S)(hr:t.drop p=c'::r)(hc':gQ c'=I):qW L Z (n+2) c h f w mo vi t vs (p+1) u ((c-48:Nat):Int) c':=by
 have F1:Fs (h++[.tup [.int 0,.str [c]]]) f w mo vi t vs p u:=F.all λX=>aD.app;have hz:0*10+(c-48)<=20000:=by unfold gQ at hd';have:=Nat.le_of_ble_eq_true (bN.mp hd').2;lia
 have e1:=nP (L:=L) (Z:=Z) (n:=n) (l1:=.str [c]) F1 hr hd' hz;rw[Nat.zero_mul,Nat.zero_add]at e1;refine⟨_,_,?_,ba,(F1.step (p':=p+1) (u':=u)).all λX=>aD.app,(aD.app.trans (FK.ofF (aD.set (.head _)))).trans aD.app⟩;apply bC sr (L0:=[.obj f,.str [c],.unb,.unb,.unb]) rfl;rw[oE hc];exact aG (fL (nI (fl:=999999999) (iJ (KM hd')) U e1 (pp (fl:=999999998) (iJ (v0 hc')) U))) (zh hc')
theorem uZ{k:Int}(F:Fs h f w mo vi t vs p u)(hv:vs[u]?=Y (.int k))(hk:k.natAbs<=20000)(hr:t.drop p=c'::r):qW L Z (n+3) 42 h f w mo vi t vs (p+1) (u+1) k c':=by
 have F1:=F.step (p':=p) (u':=u+1);refine⟨_,_,?_,ba,(F1.step (p':=p+1) (u':=u+1)).all λX=>aD.app,((FK.ofF (aD.set (.head _))).trans (FK.ofF (aD.set (.head _)))).trans aD.app⟩;apply bC sr (L0:=[.obj f,.str [42],.unb,.unb,.unb]) rfl;exact bq (aY (aK (aE aq ao cU)) (br U (aG (bz (aJ U (aB (bG aq F.at' U) (aC (aR aq (jN F.at' (cD U U cy (aO (iE (n:=n+1) F hv))))))) (b4 U (aO wz))) U)
  (aG (aY (aK (aE (aJ U (aC aq) (iq sj)) ao U)) (aM (decide_eq_false (by exact SW (a:=20000) hk)) aZ))
   (bF (bK (gm (aB aq (aC (aR aq (jN F1.at' (cD U U cy (aO (gf (n:=n+1) F1 hr))))))) U))))))) dY
theorem jA(F:Fs h f w mo vi t vs p u)(hv:vs.length<=u):jE L Z (n+12) 470 [.obj f,.str [42]] f w mo h aU:=by obtain⟨x,h1,e,R,W,K⟩:=uM (L:=L) (Z:=Z) (n:=n) F hv;refine⟨x,h1,?_,R,W,K⟩;apply fY sr (L0:=[.obj f,.str [42],.unb,.unb,.unb]) rfl;exact cZ (aY (aK (aE aq ao cU)) (br U (cZ (oA (yd U (tQ (bG aq F.at' U) (Iu (aR aq (jN F.at' (cD U U cy (dQ e)))))))))))
theorem ui(F:Fs h f w mo vi t vs p u)(hv:vs[u]?=Y .none):jE L Z (n+12) 470 [.obj f,.str [42]] f w mo h dZ:=by have F1:=F.step (p':=p) (u':=u+1);obtain⟨x,h1,e,R,W,K⟩:=DS (L:=L) (Z:=Z) (n:=n) F1.wo;refine⟨x,h1,?_,R,W,(FK.ofF (aD.set (.head _))).trans (FK.ofW K)⟩;apply fY sr (L0:=[.obj f,.str [42],.unb,.unb,.unb]) rfl;exact cZ (aY (aK (aE aq ao cU)) (br U (cZ (oA (aJ U (aB (bG aq F.at' U) (aC (aR aq (jN F.at' (cD U U cy (aO (iE (n:=n+10) F hv))))))) (b4 U (dQ e)))))))
theorem tL{k:Int}(F:Fs h f w mo vi t vs p u)(hv:vs[u]?=Y (.int k))(hk:20000<k.natAbs):jE L Z (n+12) 470 [.obj f,.str [42]] f w mo h aU:=by
 have F1:=F.step (p':=p) (u':=u+1);obtain⟨x,h1,e,R,W,K⟩:=jc (L:=L) (Z:=Z) (n:=n+1) (x:=[119,105,100,116,104,32,116,111,111,32,98,105,103]) F1.wo d6;refine⟨x,h1,?_,R,W,(FK.ofF (aD.set (.head _))).trans (FK.ofW K)⟩;apply fY sr (L0:=[.obj f,.str [42],.unb,.unb,.unb]) rfl;exact cZ (aY (aK (aE aq ao cU)) (br U (aG (bz (aJ U (aB (bG aq F.at' U) (aC (aR aq (jN F.at' (cD U U cy (aO (iE (n:=n+10) F hv))))))) (b4 U (aO (wz (n:=n+9))))) U)
  (cZ (aY (aK (aE (aJ U (aC aq) (iq sj)) ao U)) (br (decide_eq_true (by exact vA (a:=20000) hk)) (cZ (eK (aR (bG aq F1.at' U) (o4 F1.wo.ok U U (aB ao (aC ao)) (dQ e)))))))))))
end
section
variable{L:Nat}{Z:List Int}{n:Nat}{hd:Bool}{h h':H}{T:aT}{G:cI}{f w mo vi p u i:Nat}{t r x:List Nat}{vs:List J}{v:J}{c c':Nat}{k:Int}
theorem PY:bI L Z (n+2) hd 393 [.obj w,.int k] [] h=.ok (.int k) h:=by apply bC De (L0:=[.obj w,.int k,.unb,.unb]) rfl;exact bq (aY (aK (aJ U (aC aq) (b4 U (aO mM)))) (br U (bF (bK aq)))) dY
theorem nD{ak:Nat}{fs:List (Nat×J)}(hD:pg ak=S)(a:h[i]?=Y (.inst ak fs)):bI L Z (n+1) hd 237 [.obj i] [] h=.ok (.bool I) h:=mf U (iK (xY a hD U))
theorem Ld(A:d7 h i x)(hx:bV x=S)(hl:x.length<=1000000)(hr:fN x 0 S=.int k):vO (λh'=>bI L Z (n+2) I 393 [.obj w,.obj i] [] h=.ok (.int k) h') (λh'=>∀X,aD X h h'):=by
 obtain⟨fs,a,b⟩:=A;obtain⟨h1,e1,K⟩:=kM (L:=L) (Z:=Z) (n:=n) (h:=h) (base:=0) (aS:=S) hx hl (by decide);rw[hr]at e1;refine⟨h1,?_,K⟩;apply bC De (L0:=[.obj w,.obj i,.unb,.unb]) rfl;exact aG (aY (aK (aJ U (aC aq) (b4 U (aO (nD U a))))) (aM U aZ)) (bq (aY (aK (eI U aq (iK (jj a U U)))) (br rfl
  (aG (bz (aJ U (aB (bG aq a (iF U b U)) (aB ao (aC ao))) (b4 U (aO e1))) U) (bq (aY (aK (aE aq ao U)) (br U (bF (bK aq)))) dY)))) dY)
abbrev xe(L:Nat)(Z:List Int)(k g:Nat)(as:List J)(w mo:Nat)(h:H)(nm:List Nat):Prop:=Ai (λx h'=>bI L Z k I g as [] h=.exc x h') (λx h'=>fA h' x nm) (λ_ h'=>Wo h' w mo) (λ_ h'=>TE w mo h h')
theorem Ab(W:Wo h w mo)(A:d7 h i x)(hx:bV x=S)(hp:x.all ko=S)(hl:x.length<=1000)(hr:fN x 0 S=.none):xe L Z (n+11) 393 [.obj w,.obj i] w mo h aU:=by
 obtain⟨fs,a,b⟩:=A;obtain⟨h1,e1,K⟩:=kM (L:=L) (Z:=Z) (n:=n+9) (h:=h) (base:=0) (aS:=S) hx (by exact leT hl U) (by decide);rw[hr]at e1;have a1:=(K []).get a List.not_mem_nil;obtain⟨h2,e2,K2⟩:=jx (L:=L) (Z:=Z) (n:=n+6) (d:=6) (as:=[.obj i]) ⟨fs,a1,b⟩ hp (by exact leT hl U) rfl;have W2:Wo h2 w mo:=(W.keep (K []) λ_ _ _ _=>List.not_mem_nil).keep (K2 []) λ_ _ _ _=>List.not_mem_nil;obtain⟨y,h3,e3,R,W3,K3⟩:=jc (L:=L) (Z:=Z) (n:=n) (x:=[105,110,118,97,108,105,100,32,118,97,108,117,101,32,102,111,114,32,73,110,116,101,103,101,114,40,41,58,32]++((34::x)++[34])) W2 d6;have W1:Wo h1 w mo:=W.keep (K []) λ_ _ _ _=>List.not_mem_nil;have jC:((34::x)++[34]).length<=1002:=by rw[List.length_append];show x.length+1+1<=1002;exact bE [_] [(.v 0,.l 1000)] 0 [1] (.a (.a (.v 0) (.l 1)) (.l 1)) (.l 1002) U hl
 refine⟨y,h3,?_,R,W3,((K _).trans (K2 _)).trans K3⟩;apply fY De (L0:=[.obj w,.obj i,.unb,.unb]) rfl;exact aG (aY (aK (aJ U (aC aq) (b4 U (aO (nD (n:=n+9) U a))))) (aM U aZ)) (cZ (aY (aK (eI U aq (iK (jj a U U)))) (br rfl
  (aG (bz (aJ U (aB (bG aq a (iF U b U)) (aB ao (aC ao))) (b4 U (aO e1))) U) (aG (aY (aK (aE aq ao U)) (aM U aZ))
   (cZ (eK (aR aq (o4 W1.ok U U (aB ao (aC (Db (jd ao (by decide) (jd (aJ U (aC aq) (b4 U (aO e2))) (by rw[List.length_append];exact Nat.le_trans (Nat.add_le_add_left jC _) (by decide)) DB))))) (dQ e3))))))))))
theorem Af{x:List Nat}(hv:vE v=Y v)(h0:∀s,p8 (au L Z) .Is v .none s=.ok (.bool I) s)(e:bI L Z (n+4) I 338 [v] [] h=.ok (.str x) h)(hi:ji v h [.ty "bool",.ty "int",.ty "str"]=Y S):bI L Z (n+5) I 345 [.obj w,v] [] h=.ok (.str x) h:=by apply bC NV (L0:=[.obj w,v,.unb]) rfl;exact bq (aY (qJ (aK (aE (bM U hv) ao (h0 _))) (aM U (qX (aK (eI U (bM U hv) hi))))) (br U (bF (bK (aJ U (aC (bM U hv)) (b4 U (aO e))))))) dY
theorem DU:bI L Z (n+5) I 345 [.obj w,.none] [] h=.ok (.str [110,105,108]) h:=by apply bC NV (L0:=[.obj w,.none,.unb]) rfl;exact bq (aY (qJ (aK (aE aq ao U)) (br U jk)) (br U (bF (bK (aJ U (aC aq) (b4 U (aO (uP (n:=n+2) U)))))))) dY
theorem A5(W:Wo h w mo)(hv:vE v=Y v)(hi:bI L Z (n+10) I 237 [v] [] h=.ok (.bool I) h)(ht:ji v h [.sref 62]=Y I)(hn:bI L Z (n+10) I 345 [.obj w,v] [] h=.ok (.str x) h)(hl:x.length<=1000):xe L Z (n+11) 393 [.obj w,v] w mo h dZ:=by
 obtain⟨y,h3,e3,R,W3,K3⟩:=jc (L:=L) (Z:=Z) (n:=n) (x:=([99,97,110,39,116,32,99,111,110,118,101,114,116,32]++x)++[32,105,110,116,111,32,73,110,116,101,103,101,114]) W pN;refine⟨y,h3,?_,R,W3,K3⟩;apply fY De (L0:=[.obj w,v,.unb,.unb]) rfl;have l1:([99,97,110,39,116,32,99,111,110,118,101,114,116,32]++x).length<=16777216:=by rw[List.length_append];exact Nat.le_trans (Nat.add_le_add_left hl _) (by decide)
 have l2:(([99,97,110,39,116,32,99,111,110,118,101,114,116,32]++x)++[32,105,110,116,111,32,73,110,116,101,103,101,114]).length<=16777216:=by rw[List.length_append,List.length_append];exact Nat.le_trans (Nat.add_le_add_right (Nat.add_le_add_left hl _) _) (by decide)
 exact aG (aY (aK (aJ U (aC (bM U hv)) (b4 U (aO hi)))) (aM U aZ)) (aG (aY (aK (eI U (bM U hv) ht)) (aM U aZ))
  (cZ (eK (aR aq (o4 W.ok U U (aB ao (aC (Db (jd ao (by decide) (jd (aJ U (aB aq (aC (bM U hv))) (b4 U (aO hn))) l1 (jd ao l2 DB)))))) (dQ e3))))))
theorem xv(A:d7 h i x):bI L Z (n+1) hd 371 [.obj w,.obj i] [] h=.ok (.str x) h:=by obtain⟨fs,a,b⟩:=A;apply bC ND (L0:=[.obj w,.obj i,.unb,.unb,.unb]) rfl;exact bq (aY (aK (eI U aq (iK (jj a U U)))) (br U (bF (bK (bG aq a (iF U b U)))))) dY
theorem ym(W:Wo h w mo):xe L Z (n+11) 371 [.obj w,.none] w mo h dZ:=by
 obtain⟨y,h3,e3,R,W3,K3⟩:=jc (L:=L) (Z:=Z) (n:=n) (x:=[110,111,32,105,109,112,108,105,99,105,116,32,99,111,110,118,101,114,115,105,111,110,32,111,102,32,110,105,108,32,105,110,116,111,32,83,116,114,105,110,103]) W pN;refine⟨y,h3,?_,R,W3,K3⟩;apply fY ND (L0:=[.obj w,.none,.unb,.unb,.unb]) rfl;exact aG (aY (aK (eI U (aq U) U)) (aM U aZ)) (aG (bz (Qd (aE (aq U) ao U) (br U Tk)) U) (aG (bz (dy (aK (aq U)) (br U (aJ U (aC (aq U)) (b4 U (aO (uP (n:=n+8) U)))))) U)
  (cZ (eK (aR (aq U) (o4 W.ok U U (aB ao (aC (Db (jd ao (by decide) (jd (aq U) (by decide) (jd ao (by decide) DB)))))) (dQ e3)))))))
end
section
variable{L:Nat}{Z:List Int}{n:Nat}{hd:Bool}{h h':H}{T:aT}{G:cI}{f w mo vi p u i b:Nat}{t r x d s:List Nat}{vs:List J}{v:J}{c c':Nat}{k:Int}
inductive V6(b:Nat)(h:H):J->List Nat->List Nat->Prop where
 |text (i:Nat) (x:List Nat) (A:d7 h i x) (q:x.all ko=S) (l:x.length<=1000):V6 b h (.obj i) x ((34::x)++[34])
 |int (k:Int) (q:small k=S):V6 b h (.int k) (sO k) (sO k)
 |sym:V6 b h (.str [115,121,109]) [115,121,109] [58,115,121,109]
 |nil:V6 b h .none [] [110,105,108]
 |tru:V6 b h (.bool S) [116,114,117,101] [116,114,117,101]
 |list (i j t:Nat) (fs:List (Nat×J)) (a:h[i]?=Y (.inst 82 fs)) (e:d5 8 fs=Y (.obj j)) (c:h[j]?=Y (.list [.int 1,.obj t])) (A:d7 h t [113]) (q:j≠b):V6 b h (.obj i) [91,49,44,32,34,113,34,93] [91,49,44,32,34,113,34,93]
structure sZ(b:Nat)(h:H)(X:List Nat):Prop where
 th:∀i C fs,h[i]?=Y (.inst C fs)->(Nat.beq C 62||Nat.beq C 82)=S->i∉X
 li:∀i xs,h[i]?=Y (.list xs)->i≠b->i∉X
theorem d7.keep{X:List Nat}(A:d7 h i x)(K:aD X h h')(O:sZ b h X):d7 h' i x:=let⟨fs,a,e⟩:=A;⟨fs,K.get a (O.th _ _ _ a U),e⟩
theorem V6.keep{X:List Nat}(V:V6 b h v d s)(K:aD X h h')(O:sZ b h X):V6 b h' v d s:=by cases V with
 |text i x A q l=>exact .text i d (A.keep K O) q l
 |int k q=>exact .int k q
 |sym=>exact .sym
 |nil=>exact .nil
 |tru=>exact .tru
 |list i j t fs a e c A q=>exact .list i j t fs (K.get a (O.th _ _ _ a U)) e (K.get c (O.li _ _ c q)) (A.keep K O) q
theorem sZ.all:sZ b h []:=⟨λ_ _ _ _ _=>List.not_mem_nil,λ_ _ _ _=>List.not_mem_nil⟩
theorem Fs.off(F:Fs h f w mo vi t vs p u):sZ b h [f,w,mo]:=
 ⟨λi C fs e q m=>by
  have hw:=F.wo.nin e (by show(!(Nat.beq (C+10) 2||Nat.beq (C+10) 837||Nat.beq (C+10) 238))=S;rw[dz]at q;rcases q with q|q<;>(rw[Nat.eq_of_beq_eq_true q];rfl));rcases List.mem_cons.mp m with rfl|m
  ·have:=e.symm.trans F.at'
   cases this;cases q
  ·exact hw m,
 λi xs e _ m=>by
  rcases List.mem_cons.mp m with rfl|m
  ·have:=e.symm.trans F.at'
   cases this
  ·exact F.wo.nin e U m⟩
theorem sZ.sub{X ae:List Nat}(O:sZ b h X)(s:∀x∈ae,x∈X):sZ b h ae:=⟨λi C fs e q m=>O.th i C fs e q (s _ m),λi xs e q m=>O.li i xs e q (s _ m)⟩
theorem sZ.ofF(O:sZ b h [f,w,mo]):sZ b h [f]:=O.sub λx m=>by simp only[List.mem_singleton.mp m];exact .head _
theorem V6.nou(V:V6 b h v d s):vE v=Y v:=by induction V<;>rfl
theorem V6.show(V:V6 b h v d s):vO (λh'=>bI L Z (n+6) I 338 [v] [] h=.ok (.str s) h') (λh'=>∀X,aD X h h'):=by induction V with
 |text i x A q l=>exact jx (n:=n+2) (d:=6) A q (by exact leT l U) rfl
 |int k q=>exact⟨h,zr (n:=n+4) (d:=6) q U,λX=>aD.refl⟩
 |sym=>exact⟨h,z6 (n:=n+2) (d:=6) Sn (by decide) U,λX=>aD.refl⟩
 |nil=>exact⟨h,uP (n:=n+4) (d:=6) U,λX=>aD.refl⟩
 |tru=>exact⟨h,wn (n:=n+4) (d:=6) U,λX=>aD.refl⟩
 |list i j t fs a e c A q=>exact sS ⟨fs,j,a,e,c⟩ A
theorem V6.disp(V:V6 b h v d s):vO (λh'=>bI L Z (n+7) I 400 [v] [] h=.ok (.str d) h') (λh'=>∀X,aD X h h'):=by
 obtain⟨h1,e1,K⟩:=V.show (L:=L) (Z:=Z) (n:=n);have go:vE v=Y v->ji v h [.sref 62]=Y I->(∀s,p8 (au L Z) .Is v .none s=.ok (.bool I) s)->ji v h [.ty "str"]=Y I->bI L Z (n+7) I 400 [v] [] h=.ok (.str s) h1:=λa1 a2 a3 a4=>by apply bC Dj (L0:=[v,.unb]) rfl;exact aG (aY (aK (eI U (bM U a1) a2)) (aM U aZ)) (aG (aY (aK (aE (bM U a1) ao (a3 _))) (aM U aZ)) (bF (bK (dy (aK (eI U (bM U a1) a4)) (aM U (aJ U (aC (bM U a1)) (b4 U (aO e1))))))))
 induction V with
 |text i x A q l=>obtain⟨fs,a,e⟩:=A;refine⟨h,?_,λX=>aD.refl⟩;apply bC Dj (L0:=[.obj i,.unb]) rfl;exact bq (aY (aK (eI U aq (iK (jj a U U)))) (br U (bF (bK (bG aq a (iF U e U)))))) dY
 |int k q=>exact⟨h1,go U U (λ_=>rfl) U,K⟩
 |sym=>refine⟨h,?_,λX=>aD.refl⟩;apply bC Dj (L0:=[.str [115,121,109],.unb]) rfl;exact aG (aY (aK (eI U aq U)) (aM U aZ)) (aG (aY (aK (aE aq ao U)) (aM U aZ)) (bF (bK (dy (aK (eI U aq U)) (br U aq)))))
 |nil=>refine⟨h,?_,λX=>aD.refl⟩;apply bC Dj (L0:=[.none,.unb]) rfl;exact aG (aY (aK (eI U aq U)) (aM U aZ)) (bq (aY (aK (aE aq ao U)) (br U (bF (bK ao)))) dY)
 |tru=>exact⟨h1,go U U (λ_=>rfl) U,K⟩
 |list i j t fs a e c A q=>exact⟨h1,go U (iK (jj a U U)) (λ_=>rfl) (iK (xY a U U)),K⟩
inductive Sg(h:H):J->Nat->Prop where
 |int (k:Nat) (q:k<128):Sg h (.int (k:Int)) k
 |text (i c:Nat) (r:List Nat) (A:d7 h i (c::r)) (l:r.length<=1000):Sg h (.obj i) c
theorem Sg.keep{X:List Nat}(V:Sg h v c)(K:aD X h h')(O:sZ b h X):Sg h' v c:=by cases V with
 |int k q=>exact .int c q
 |text i c r A l=>exact .text i c r (A.keep K O) l
theorem GY(F:Fs h f w mo vi t vs p u)(V:Sg h v c):bI L Z (n+2) I 477 [.obj f,v] [] h=.ok (.str [c]) h:=by cases V with
 |int k q=>apply bC Cw (L0:=[.obj f,.int (c:Int),.unb]) rfl;exact aG (aY (qg (aK (aJ U (aC (aq U)) (b4 U (aO mM)))) U) (aM U aZ)) (bF (bK (dy (aK (w5 ao (aq U) U ao U)) (br (by rw[decide_eq_true (by exact z0 _),decide_eq_true (by exact vA (b:=1114112) (leT q U))];rfl) (aJ U (aC (aq U)) (iq (Nh (by rw[decide_eq_true (by exact z0 _),decide_eq_true (by exact vA (b:=128) q)];rfl))))))))
 |text i c r A l=>have e1:=xv (L:=L) (Z:=Z) (n:=n) (hd:=I) (w:=w) A;obtain⟨fs,a,e⟩:=A;apply bC Cw (L0:=[.obj f,.obj i,.unb]) rfl;exact bq (aY (qg (aK (aJ U (aC (aq U)) (b4 U (aO (nD U a))))) U) (br U (bF (bK (dN (aJ U (aB (bG (aq U) F.at' U) (aC (aq U))) (b4 U (aO e1))) ao ao (gn (k:=1) (by simp only[List.length_cons];exact bE [_] [(.v 0,.l 1000)] 0 [1] (.a (.v 0) (.l 1)) (.l 16777216) U l))))))) dY
theorem JT(F:Fs h f w mo vi t vs p u)(hk:k<0):jE L Z (n+11) 477 [.obj f,.int k] f w mo h aU:=by obtain⟨x,h1,e,R,W,K⟩:=jc (L:=L) (Z:=Z) (n:=n) (x:=[105,110,118,97,108,105,100,32,99,104,97,114,97,99,116,101,114]) F.wo d6;refine⟨x,h1,?_,R,W,FK.ofW K⟩;apply fY Cw (L0:=[.obj f,.int k,.unb]) rfl;exact aG (aY (qg (aK (aJ U (aC aq) (b4 U (aO (mM (n:=n+9)))))) U) (aM U aZ)) (cZ (eK (dy (aK (w5 ao aq U ao U)) (aM (by rw[decide_eq_false (by exact kt.mpr hk)];rfl) (aR (bG aq F.at' U) (o4 F.wo.ok U U (aB ao (aC ao)) (dQ e)))))))
theorem Wu{e l r:M J}{s s1:St}{x:Nat}(h1:e s=.exc x s1):fU T e l r s=.exc x s1:=eL h1
theorem IU(F:Fs h f w mo vi t vs p u):jE L Z (n+12) 477 [.obj f,.none] f w mo h dZ:=by obtain⟨x,h1,e,R,W,K⟩:=ym (L:=L) (Z:=Z) (n:=n) F.wo;refine⟨x,h1,?_,R,W,FK.ofW K⟩;apply fY Cw (L0:=[.obj f,.none,.unb]) rfl;exact cZ (aY (qg (aK (aJ U (aC aq) (b4 U (aO (mf (n:=n+10) U U))))) U) (br U (cZ (eK (Wu (aJ U (aB (bG aq F.at' U) (aC aq)) (b4 U (dQ e))))))))
end
section
variable{L:Nat}{Z:List Int}{n:Nat}{hd:Bool}{h h':H}{T:aT}{G:cI}{f w mo vi p u i b:Nat}{t r x d s fl:List Nat}{vs:List J}{v l3:J}{c c':Nat}{k W:Int}{m:Option Nat}
noncomputable abbrev pS(f i:Nat)(c:Nat)(l3 l4:J):List J:=[.obj f,.obj i,.str [c],l3,l4,.unb]
abbrev BU(L:Nat)(Z:List Int)(n:Nat)(f i k:Nat)(l3:J)(h:H)(w mo vi:Nat)(t:List Nat)(vs:List J)(p u:Nat)(d:List Nat):Prop:=
 IX (λA h'=>aH (kh (au L Z) (bI L Z (n+20))) ⟨pS f i k l3 .unb,h,I⟩=.ok (.ret (.str d)) ⟨A,h',I⟩) (λ_ h'=>Fs h' f w mo vi t vs p u) (λ_ h'=>FK f w mo h h')
theorem cN.keep{X:List Nat}(F:cN h i fl W m)(K:aD X h h')(hi:i∉X):cN h' i fl W m:=K.get F hi
theorem cN.fs(M:cN h i fl W m)(F:Fs h f w mo vi t vs p u):i∉[f,w,mo]:=λq=>by
 rcases List.mem_cons.mp q with rfl|q
 ·have:h[i]?=_:=M
  replace this:=F.at'▸this;cases this
 ·exact F.wo.nin (show h[i]?=_ from M) U q
theorem IF(F:Fs h f w mo vi t vs p u):BU L Z n f i 37 l3 h w mo vi t vs p u [37]:=
 ⟨_,h,bq (aY (aK (aE aq ao U)) (br U (bF (bK (dy (aK (aE aq ao cU)) (br U ao)))))) dY,F,aD.refl⟩
theorem KO(F:Fs h f w mo vi t vs p u):BU L Z n f i 10 l3 h w mo vi t vs p u [37,10]:=
 ⟨_,h,bq (aY (aK (aE aq ao U)) (br U (bF (bK (dy (aK (aE aq ao cU)) (aM U (bj ao aq (cC (by decide))))))))) dY,F,aD.refl⟩
inductive Nm(h:H):J->Int->Prop where
 |int (k:Int):Nm h (.int k) k
 |text (i:Nat) (x:List Nat) (k:Int) (A:d7 h i x) (a:bV x=S) (l:x.length<=1000) (e:fN x 0 S=.int k):Nm h (.obj i) k
theorem Nm.keep{X:List Nat}(V:Nm h v k)(K:aD X h h')(O:sZ b h X):Nm h' v k:=by induction V with
 |int k=>exact .int k
 |text i x k A a l e=>exact .text i x k (A.keep K O) a l e
theorem Nm.nou(V:Nm h v k):vE v=Y v:=by induction V<;>rfl
theorem Nm.read(V:Nm h v k):vO (λh'=>bI L Z (n+2) I 393 [.obj w,v] [] h=.ok (.int k) h') (λh'=>∀X,aD X h h'):=by induction V with
 |int k=>exact⟨h,PY,λX=>aD.refl⟩
 |text i x k A a l e=>exact Ld A a (by exact leT l U) e
theorem rN{q:Nat}(hk:q∈kinds):[37,10,0].any (Nat.beq q)=I/\∀s,p8 (au L Z) .In (.str [q]) (.sref 364) s=.ok (.bool S) s:=
 fE (P:=λq=>[37,10,0].any (Nat.beq q)=I/\∀s,p8 (au L Z) .In (.str [q]) (.sref 364) s=.ok (.bool S) s) ⟨U,λ_=>rfl⟩ ⟨U,λ_=>rfl⟩ ⟨U,λ_=>rfl⟩ ⟨U,λ_=>rfl⟩ ⟨U,λ_=>rfl⟩ ⟨U,λ_=>rfl⟩ ⟨U,λ_=>rfl⟩ ⟨U,λ_=>rfl⟩ q hk
theorem FD{q:Nat}(F:Fs h f w mo vi t vs p u)(M:cN h i fl W m)(hk:q∈kinds)(hv:vs[u]?=Y v)(V:Nm h v k)(ha:k.natAbs<=1000)(hw:W<=1000)(hw2:-1000<=W)(hm:∀j,m=Y j->j<=1000):BU L Z n f i q l3 h w mo vi t vs p (u+1) (vK k q fl W m):=by have F1:=F.step (p':=p) (u':=u+1);have K1:aD [f] h (h.set f (.inst 494 (yW w vi t p (u+1)))):=aD.set (.head _);have M1:=M.keep K1 (λe=>M.fs F (by simp only[List.mem_singleton.mp e];exact .head _));have V1:=V.keep K1 (F.off (b:=0)).ofF;obtain⟨h2,e2,K2⟩:=V1.read (L:=L) (Z:=Z) (n:=n+18) (w:=w);have M2:=M1.keep (K2 []) List.not_mem_nil;obtain⟨h3,e3,K3⟩:=Bd (L:=L) (Z:=Z) (n:=n+18) (a:=k) M2 hk ha hw hw2 hm;obtain⟨t1,t2⟩:=rN (L:=L) (Z:=Z) hk;refine⟨pS f i q l3 .unb,h3,?_,(F1.all K2).all K3,((FK.ofF K1).trans (K2 _)).trans (K3 _)⟩;exact aG (aY (aK (aE aq ao U)) (aM t1 aZ)) (bq (aY (aK (aE aq ao (t2 _))) (br U (bF (bK (aR aq (jN M (cD U U (aB (aJ U (aB (bG aq F.at' U) (aC (aR aq (jN F.at' (cD U U cy (aO (iE (n:=n+19) F hv))))))) (b4 U (aO e2))) (aC aq)) (aO e3)))))))) dY)
theorem RM(F:Fs h f w mo vi t vs p u)(M:cN h i fl W m)(hv:vs[u]?=Y v)(V:Sg h v c)(hw:W<=1000)(hw2:-1000<=W):BU L Z n f i 99 l3 h w mo vi t vs p (u+1) (iD [c] W fl):=by have F1:=F.step (p':=p) (u':=u+1);have K1:aD [f] h (h.set f (.inst 494 (yW w vi t p (u+1)))):=aD.set (.head _);have M1:=M.keep K1 (λe=>M.fs F (by simp only[List.mem_singleton.mp e];exact .head _));have V1:=V.keep K1 (F.off (b:=0)).ofF;have e2:=GY (L:=L) (Z:=Z) (n:=n+18) F1 V1;have e3:=rj (L:=L) (Z:=Z) (n:=n+19) (hd:=I) (x:=[c]) M1 (show 1<=1000000 by decide) (by exact zT hw U) (by exact zB U hw2);refine⟨pS f i 99 l3 .unb,_,?_,F1,FK.ofF K1⟩;exact aG (aY (aK (aE aq ao U)) (aM U aZ)) (aG (aY (aK (aE aq ao U)) (aM U aZ)) (bq (aY (aK (aE aq ao cU)) (br U (bF (bK (aR aq (jN M (cD U U (aC (aR aq (jN F.at' (cD U U (aC (aR aq (jN F.at' (cD U U cy (aO (iE (n:=n+19) F hv)))))) (aO e2))))) (aO e3)))))))) dY))
noncomputable def uN(m:Option Nat)(x:List Nat):List Nat:=match m with
 |.none=>x
 |some j=>x.take j
theorem qv:(uN m x).length<=x.length:=by induction m with
 |none=>exact Nat.le_refl _
 |some j=>exact(by rw[List.length_take];exact Nat.min_le_right _ _:(x.take j).length<=x.length)
theorem zk{q:Nat}(F:Fs h f w mo vi t vs p u)(M:cN h i fl W m)(hx:x.length<=10000)(hw:W<=1000)(hw2:-1000<=W):aH (DD (au L Z) (bI L Z (n+20))) ⟨pS f i q l3 (.str x),h,I⟩=.ok (.ret (.str (iD (uN m x) W fl))) ⟨pS f i q l3 (.str x),h,I⟩:=by
 have hl:(uN m x).length<=10000:=Nat.le_trans qv hx;have e3:=rj (L:=L) (Z:=Z) (n:=n+19) (hd:=I) (x:=uN m x) M (by exact leT hl U) (by lia) (by lia);have e1:fD (bJ (aW (au L Z) .Is (bT (au L Z) (B 1) 37) (D .none))) (B 4) (fU (au L Z) (B 4) (D .none) (bT (au L Z) (B 1) 37)) ⟨pS f i q l3 (.str x),h,I⟩=.ok (.str (uN m x)) ⟨pS f i q l3 (.str x),h,I⟩:=by refine dy (aK (aE (bG aq M x6) ao rk)) ?_;induction m with
  |none=>exact br U aq
  |some j=>exact aM U (dN aq ao (bG aq M x6) (gn (by exact leT hx U)))
 exact bF (bK (aR aq (jN M (cD U U (aC e1) (aO e3)))))
theorem PT(F:Fs h f w mo vi t vs p u)(M:cN h i fl W m)(hv:vs[u]?=Y v)(V:V6 b h v d s)(hx:d.length<=10000)(hw:W<=1000)(hw2:-1000<=W):BU L Z n f i 115 l3 h w mo vi t vs p (u+1) (iD (uN m d) W fl):=by
 have F1:=F.step (p':=p) (u':=u+1);have K1:aD [f] h (h.set f (.inst 494 (yW w vi t p (u+1)))):=aD.set (.head _);have M1:=M.keep K1 (λe=>M.fs F (by rw[List.mem_singleton.mp e];exact .head _));have V1:=V.keep K1 F.off.ofF;obtain⟨h2,e2,K2⟩:=V1.disp (L:=L) (Z:=Z) (n:=n+13);refine⟨pS f i 115 l3 (.str d),h2,?_,F1.all K2,(FK.ofF K1).trans (K2 _)⟩;exact aG (aY (aK (aE aq ao U)) (aM U aZ)) (aG (aY (aK (aE aq ao U)) (aM U aZ)) (aG (aY (aK (aE aq ao cU)) (aM U aZ)) (aG (aY (aK (aE aq ao U)) (aM U aZ))
  (aG (bz (dy (aK (aE aq ao cU)) (br U (aJ U (aC (aR aq (jN F.at' (cD U U cy (aO (iE (n:=n+19) F hv)))))) (b4 U (aO e2))))) U) (zk (F1.all K2) (M1.keep (K2 []) List.not_mem_nil) hx hw hw2)))))
theorem S7(F:Fs h f w mo vi t vs p u)(M:cN h i fl W m)(hv:vs[u]?=Y v)(V:V6 b h v d s)(hx:s.length<=10000)(hw:W<=1000)(hw2:-1000<=W):BU L Z n f i 112 l3 h w mo vi t vs p (u+1) (iD (uN m s) W fl):=by
 have F1:=F.step (p':=p) (u':=u+1);have K1:aD [f] h (h.set f (.inst 494 (yW w vi t p (u+1)))):=aD.set (.head _);have M1:=M.keep K1 (λe=>M.fs F (by simp only[List.mem_singleton.mp e];exact .head _));have V1:=V.keep K1 F.off.ofF;obtain⟨h2,e2,K2⟩:=V1.show (L:=L) (Z:=Z) (n:=n+14);refine⟨pS f i 112 l3 (.str s),h2,?_,F1.all K2,(FK.ofF K1).trans (K2 _)⟩;exact aG (aY (aK (aE aq ao U)) (aM U aZ)) (aG (aY (aK (aE aq ao U)) (aM U aZ)) (aG (aY (aK (aE aq ao cU)) (aM U aZ)) (aG (aY (aK (aE aq ao U)) (aM U aZ))
  (aG (bz (dy (aK (aE aq ao cU)) (aM U (aJ U (aC (aR aq (jN F.at' (cD U U cy (aO (iE (n:=n+19) F hv)))))) (b4 U (aO e2))))) U) (zk (F1.all K2) (M1.keep (K2 []) List.not_mem_nil) hx hw hw2)))))
end
section
variable{L:Nat}{Z:List Int}{n:Nat}{hd:Bool}{h h':H}{T:aT}{G:cI}{f w mo vi p u i b p' u':Nat}{t r x d s fl:List Nat}{vs:List J}{v l3:J}{c c':Nat}{k W:Int}{m:Option Nat}
abbrev NC(L:Nat)(Z:List Int)(n:Nat)(x:lJ St Fl)(k:aT->cI->List (M Fl))(f i c:Nat)(h:H)(w mo vi:Nat)(t:List Nat)(vs:List J)(p u:Nat)(fl:List Nat)(W:Int)(m:Option Nat):Prop:=
 Ai (λl3 h'=>x=aH (k (au L Z) (bI L Z (n+20))) ⟨pS f i c l3 .unb,h',I⟩) (λ_ h'=>cN h' i fl W m) (λ_ h'=>Fs h' f w mo vi t vs p u) (λ_ h'=>FK f w mo h h')
abbrev Bf(L:Nat)(Z:List Int)(n:Nat)(x:lJ St Fl)(k:aT->cI->List (M Fl))(f i c:Nat)(h:H)(X:List Nat)(w mo vi:Nat)(t:List Nat)(vs:List J)(p u:Nat)(fl:List Nat):Prop:=
 Mz (λh'=>x=aH (k (au L Z) (bI L Z (n+20))) ⟨pS f i c .unb .unb,h',I⟩) (λh'=>cN h' i fl 0 .none) (λh'=>Fs h' f w mo vi t vs p u) (λh'=>aD X h h')
theorem NI(F:Fs h f w mo vi t vs p u)(hr:t.drop p=c::r):Bf L Z n (sV (au L Z) (bI L Z (n+20)) ⟨[.obj f,.unb,.unb,.unb,.unb,.unb],h,I⟩) Bt f h.length c h [f,w,mo] w mo vi t vs (p+1) u []:=by
 have F1:Fs (h++[.inst 431 [(35,.str []),(36,.int 0),(37,.none)]]) f w mo vi t vs p u:=F.all λX=>aD.app;have F2:=F1.step (p':=p+1) (u':=u);have hne:f≠h.length:=Nat.ne_of_lt (qF F.at');exact⟨_,aG (fq (aB (aJ U cy (nJ U U U (Df (n:=n+19)))) (aC (aR aq (jN F1.at' (cD U U cy (aO (gf (n:=n+19) F1 hr))))))) U U U (bZ (bv U) (dj (bv U)))) U,
  bH (iC hne ba),F2.all λX=>aD.app,(aD.app.trans (FK.ofF (aD.set (.head _)))).trans aD.app⟩
noncomputable def jm(c:Nat):Bool:=[45,43,32,48,35].any (Nat.beq c)
theorem v8:∀(fs acc:List Nat)(c0:Nat)(r0:List Nat)(p:Nat)(h:H)(g:Nat),c0::r0=fs++c::r->fs.all jm=S->jm c=I->Fs h f w mo vi t vs p u->t.drop p=r0->cN h i acc 0 .none->acc.length+fs.length<=1000->fs.length<g->
  Mz (λh'=>dU (lY (HG (au L Z) (bI L Z (n+20))) (wX (au L Z) (bI L Z (n+20)))) g () ⟨pS f i c0 .unb .unb,h,I⟩=.ok .nxt ⟨pS f i c .unb .unb,h',I⟩) (λh'=>cN h' i (acc++fs) 0 .none) (λh'=>Fs h' f w mo vi t vs (p+fs.length) u) (λh'=>aD [i,f,w,mo] h h')
 |_,_,_,_,_,_,0,_,_,_,_,_,_,_,hg=>absurd hg (Nat.not_lt_zero _)
 |[],acc,c0,r0,p,h,g+1,e,_,hc,F,hr,M,_,_=>by cases e;exact⟨h,pp (aK (aE (aq U) ao U)) hc,by simp only[List.append_nil];exact M,F,aD.refl⟩
 |a::fs,acc,c0,r0,p,h,g+1,e,ha,hc,F,hr,M,hl,hg=>by
  rw[List.cons_append,List.cons.injEq]at e;obtain⟨e1,e2⟩:=e;subst e1;rw[List.all_cons,ax]at ha;rw[List.length_cons]at hl hg;obtain⟨c1,r1,er⟩:∃c1 r1,fs++c::r=c1::r1:=by induction fs with|nil=>exact⟨_,_,U⟩|cons a q=>exact⟨_,_,U⟩
  have hM:h[i]?=Y (.inst 431 [(35,.str acc),(36,.int 0),(37,.none)]):=M;have M1:cN (h.set i (.inst 431 [(35,.str (acc++[c0])),(36,.int 0),(37,.none)])) i (acc++[c0]) 0 .none:=dP hM;have F1:Fs (h.set i (.inst 431 [(35,.str (acc++[c0])),(36,.int 0),(37,.none)])) f w mo vi t vs p u:=F.keep (aD.set (X:=[i]) (.head _)) (F.wo.set hM U) (hY (eZ F.at' hM U)) (hY (eZ F.li hM U));have hd1:t.drop p=c1::r1:=hr.trans (e2.trans er);have F2:=F1.step (p':=p+1) (u':=u);have M2:cN ((h.set i (.inst 431 [(35,.str (acc++[c0])),(36,.int 0),(37,.none)])).set f (.inst 494 (yW w vi t (p+1) u))) i (acc++[c0]) 0 .none:=iC (eZ F.at' hM U) M1;obtain⟨h3,e3,M3,F3,K3⟩:=v8 fs (acc++[c0]) c1 r1 (p+1) _ g er.symm ha.2 hc F2 (by rw[<-List.drop_drop,hd1];rfl) M2 (by simp only[List.length_append,List.length_cons,List.length_nil];lia) (by exact bE [_,_] [(.a (.a (.v 0) (.l 1)) (.l 1),.a (.v 1) (.l 1))] 0 [1] (.a (.v 0) (.l 1)) (.v 1) U hg);refine⟨h3,nI (aK (aE (aq U) ao U)) ha.1 (aG (rT (aq U) (i9 hM U) (aq U) (xu (show acc.length+1<=16777216 by exact bE [_,_] [(.a (.v 0) (.a (.v 1) (.l 1)),.l 1000)] 0 [1] (.a (.v 0) (.l 1)) (.l 16777216) U hl)) (kW hM U U)) (bO (bz (aR (aq U) (jN F1.at' (cD U U cy (aO (gf (n:=n+19) F1 hd1))))) U))) e3,?_,?_,?_⟩
  ·rw[List.append_assoc]at M3;exact M3
  ·exact(show p+(c0::fs).length=p+1+fs.length by simp only[List.length_cons];exact Nat.le_antisymm (bE [_,_] [] 0 [] (.a (.v 0) (.a (.v 1) (.l 1))) (.a (.a (.v 0) (.l 1)) (.v 1)) U) (bE [_,_] [] 0 [] (.a (.a (.v 0) (.l 1)) (.v 1)) (.a (.v 0) (.a (.v 1) (.l 1))) U))▸F3
  ·exact((aD.set (.head _)).trans (aD.set (.tail _ (.head _)))).trans K3
abbrev LD(i f w mo:Nat)(h h':H):Prop:=aD [i,f,w,mo] h h'
theorem LD.old(K:LD i f w mo h h'){h0:H}(hi:h0.length<=i)(k:FK f w mo h0 h):FK f w mo h0 h':=⟨Nat.le_trans k.1 K.1,λj hj hn=>(K.2 j (Nat.lt_of_lt_of_le hj k.1) λq=>by
 rcases List.mem_cons.mp q with q|q
 ·exact nf (bE [_,_,_] [(.v 0,.v 1),(.a (.v 2) (.l 1),.v 0),(.v 1,.v 2)] 0 [1,1,1] (.l 1) (.l 0) U hi hj (JJ q))
 ·exact hn q).trans (k.2 j hj hn)⟩
theorem FK.toI(K:FK f w mo h h'):LD i f w mo h h':=K.mono λ_ _ m=>.tail _ m
abbrev tR(L:Nat)(Z:List Int)(n:Nat)(x:lJ St Fl)(k:aT->cI->List (M Fl))(f i c:Nat)(h:H)(w mo vi:Nat)(t:List Nat)(vs:List J)(p u:Nat)(fl:List Nat)(W:Int)(m:Option Nat):Prop:=
 Ai (λl3 h'=>x=aH (k (au L Z) (bI L Z (n+20))) ⟨pS f i c l3 .unb,h',I⟩) (λ_ h'=>cN h' i fl W m) (λ_ h'=>Fs h' f w mo vi t vs p u) (λ_ h'=>LD i f w mo h h')
theorem U5{fs r0:List Nat}{c0:Nat}(F:Fs h f w mo vi t vs p u)(M:cN h i [] 0 .none)(hr:t.drop p=r0)(e:c0::r0=fs++c::r)(ha:fs.all jm=S)(hc:jm c=I)(hl:fs.length<=1000):Bf L Z n (aH (Bt (au L Z) (bI L Z (n+20))) ⟨pS f i c0 .unb .unb,h,I⟩) uo f i c h [i,f,w,mo] w mo vi t vs (p+fs.length) u fs:=by obtain⟨h1,e1,M1,F1,K1⟩:=v8 (L:=L) (Z:=Z) (n:=n) fs [] c0 r0 p h ff e ha hc F hr M (by simp only[List.length_nil];lia) (by unfold ff;exact bE [_] [(.v 0,.l 1000)] 0 [1] (.a (.v 0) (.l 1)) (.l 1000000000) U hl);exact⟨h1,aG (fL e1) U,M1,F1,K1⟩
theorem Vl{q:Int}(F:Fs h f w mo vi t vs p u)(M:cN h i fl 0 .none)(C:qW L Z (n+20) c h f w mo vi t vs p' u' q c'):tR L Z n (aH (uo (au L Z) (bI L Z (n+20))) ⟨pS f i c .unb .unb,h,I⟩) BA f i c' h w mo vi t vs p' u' fl q .none:=by
 obtain⟨j,h1,e1,P,F1,K1⟩:=C;have M1:h1[i]?=Y (.inst 431 [(35,.str fl),(36,.int 0),(37,.none)]):=M.keep K1 (M.fs F);exact⟨.unb,_,aG (bz (aR aq (jN F.at' (cD U U (aC aq) (aO e1)))) (qo U P U (bZ (ru aq M1 U U) (dj (bv U))))) U,dP M1,
  F1.keep (aD.set (X:=[i]) (.head _)) (F1.wo.set M1 U) (hY (eZ F1.at' M1 U)) (hY (eZ F1.li M1 U)),K1.toI.trans (aD.set (.head _))⟩
noncomputable def Ax(fl:List Nat)(q:Int):List Nat:=bif aI (q<0)then fl++[45]else fl
noncomputable def nh(q:Int):Int:=bif aI (q<0)then-q else q
theorem VO{q:Int}{l3:J}(F:Fs h f w mo vi t vs p u)(M:cN h i fl q .none)(hl:fl.length<=1000):tR L Z n (aH (BA (au L Z) (bI L Z (n+20))) ⟨pS f i c l3 .unb,h,I⟩) pH f i c h w mo vi t vs p u (Ax fl q) (nh q) .none:=by have hM:h[i]?=Y (.inst 431 [(35,.str fl),(36,.int q),(37,.none)]):=M;unfold Ax nh;induction z:aI (q<0)with
 |false=>exact⟨l3,h,aG (aY (aK (aE (bG aq hM U) ao U)) (aM z aZ)) U,M,F,aD.refl⟩
 |true=>have hM1:(h++[AO.tup [.str (fl++[45]),.int (-q)]])[i]?=Y (.inst 431 [(35,.str fl),(36,.int q),(37,.none)]):=bH hM;have F1:Fs (h++[AO.tup [.str (fl++[45]),.int (-q)]]) f w mo vi t vs p u:=F.all λX=>aD.app;have hM2:=dP (o:=.inst 431 (lP 35 (.str (fl++[45])) [(35,.str fl),(36,.int q),(37,.none)])) hM1;refine⟨l3,_,aG (aY (aK (aE (bG aq hM U) ao U)) (br z (bO (fq (aB (bj (bG aq hM U) ao (cC (show fl.length+1<=16777216 by exact bE [_] [(.v 0,.l 1000)] 0 [1] (.a (.v 0) (.l 1)) (.l 16777216) U hl))) (aC (y6 (bG aq hM U)))) U U U (bZ (ru aq hM1 U U) (dj (ru aq hM2 U U))))))) U,dP hM2,?_,(aD.app.trans (aD.set (.head _))).trans (aD.set (.head _))⟩;refine F1.keep (X:=[i]) ((aD.set (.head _)).trans (aD.set (.head _))) ?_ (hY (eZ F1.at' hM1 U)) (hY (eZ F1.li hM1 U));exact(F1.wo.set hM1 U).set hM2 rfl
noncomputable def m8(q:Int):Option Nat:=bif aI (q<0)then .none else Y q.toNat
theorem Da{q:Int}:dM (m8 q)=bif aI (q<0)then J.none else .int q:=by unfold m8;induction z:aI (q<0)with
 |true=>rfl
 |false=>have:=of_decide_eq_false z;show J.int ((q.toNat:Nat):Int)=.int q;rw[eT (by exact dh.mp (of_decide_eq_false z))]
theorem JA{l3:J}(F:Fs h f w mo vi t vs p u)(M:cN h i fl W .none)(hc:Nat.beq c 46=I):tR L Z n (aH (pH (au L Z) (bI L Z (n+20))) ⟨pS f i c l3 .unb,h,I⟩) kh f i c h w mo vi t vs p u fl W .none:=
 ⟨l3,h,aG (aY (aK (aE aq ao cU)) (aM hc aZ)) U,M,F,aD.refl⟩
theorem NB{q:Int}{l3:J}(F:Fs h f w mo vi t vs p u)(M:cN h i fl W .none)(hr:t.drop p=c::r)(C:∀h1,Fs h1 f w mo vi t vs (p+1) u->qW L Z (n+20) c h1 f w mo vi t vs p' u' q c'):tR L Z n (aH (pH (au L Z) (bI L Z (n+20))) ⟨pS f i 46 l3 .unb,h,I⟩) kh f i c' h w mo vi t vs p' u' fl W (m8 q):=by
 have hM:h[i]?=Y (.inst 431 [(35,.str fl),(36,.int W),(37,.none)]):=M;have F1:=F.step (p':=p+1) (u':=u);have M1:cN (h.set f (.inst 494 (yW w vi t (p+1) u))) i fl W .none:=iC (eZ F.at' hM U) hM;obtain⟨j,h1,e1,P,F2,K2⟩:=C _ F1;have M2:h1[i]?=Y (.inst 431 [(35,.str fl),(36,.int W),(37,.none)]):=M1.keep K2 (M1.fs F1);have e2:fD (bJ (aW (au L Z) .Lt (B 3) (D (.int 0)))) (D .none) (B 3) ⟨pS f i c' (.int q) .unb,h1,I⟩=.ok (dM (m8 q)) ⟨pS f i c' (.int q) .unb,h1,I⟩:=by rw[Da];refine dy (aK (aE aq ao U)) ?_;cases aI (q<0)with
  |true=>exact br U ao
  |false=>exact aM U (bM (v:=.int q) U U)
 refine⟨.int q,h1.set i (.inst 431 (lP 37 (dM (m8 q)) [(35,.str fl),(36,.int W),(37,.none)])),aG (aY (aK (aE aq ao cU)) (br U (aG (bz (aR aq (jN F.at' (cD U U (aC (aR aq (jN F.at' (cD U U cy (aO (gf (n:=n+19) F hr)))))) (aO e1)))) (qo U P U (bZ (bv U) (dj (bv U))))) (bO (bz e2 (ru aq M2 U U)))))) U,dP M2,?_,?_⟩
 ·exact F2.keep (aD.set (X:=[i]) (.head _)) (F2.wo.set M2 U) (hY (eZ F2.at' M2 U)) (hY (eZ F2.li M2 U))
 ·exact(FK.toI (aD.trans (FK.ofF (aD.set (.head _))) K2)).trans (aD.set (.head _))
end
section
variable{L:Nat}{Z:List Int}{n:Nat}{hd:Bool}{h h' h0:H}{T:aT}{G:cI}{f w mo vi p u i b p' u':Nat}{t r x d s fl fs wt mt:List Nat}{vs f1 f2 bX:List J}{v l3:J}{c c':Nat}{k W q:Int}{m:Option Nat}
inductive fO:List Nat->List J->Int->Prop where
 |no:fO [] [] 0
 |told (d:Nat) (h:Nat.ble 49 d&&Nat.ble d 57):fO [d] [] ((d-48:Nat):Int)
 |star (q:Int) (h:q.natAbs<=20000):fO [42] [.int q] q
inductive i6:List Nat->List J->Option Nat->Prop where
 |no:i6 [] [] .none
 |told (d:Nat) (h:gQ d=S):i6 [46,d] [] (Y (d-48))
 |star (q:Int) (h:q.natAbs<=20000):i6 [46,42] [.int q] (m8 q)
structure na(c:Nat):Prop where
 fl:jm c=I
 dg:gQ c=I
 st:Nat.beq c 42=I
theorem na.dot:na 46:=⟨U,U,U⟩
theorem bD{α:Type}{l:List α}{j:Nat}{a:α}{r:List α}(e:l.drop j=a::r):l[j]?=Y a/\l.drop (j+1)=r:=⟨by rw[<-Nat.add_zero j,<-List.getElem?_drop,e];rfl,by rw[<-List.drop_drop,e];rfl⟩
theorem EY{j:Nat}:m8 (j:Int)=Y j:=by unfold m8;rw[decide_eq_false (by exact dh.mpr (z0 _))];rfl
theorem Gj(WI:fO wt f1 q)(F:Fs h f w mo vi t vs p u){c0:Nat}{r0:List Nat}(e:c0::r0=wt++c::r)(hc:na c)(hr:t.drop p=r0)(hv:vs.drop u=f1++bX):jm c0=I/\IX (λp' u'=>qW L Z (n+20) c0 h f w mo vi t vs p' u' q c) (λp' _=>t.drop p'=r) (λ_ u'=>vs.drop u'=bX):=by induction WI with
 |no=>cases e;exact⟨hc.fl,p,u,FR (n:=n+19) F hc.st hc.dg,hr,hv⟩
 |told d hd'=>
  cases e;rw[ax]at hd';have h1:=Nat.le_of_ble_eq_true hd'.1;have h2:=Nat.le_of_ble_eq_true hd'.2;have key:∀d:Fin 58,Nat.ble 49 d.1=S->jm d.1=I/\Nat.beq d.1 42=I/\gQ d.1=S:=by decide
  obtain⟨k1,k2,k3⟩:=key ⟨c0,by lia⟩ hd'.1;exact⟨k1,p+1,u,vW (n:=n+18) F k2 k3 hr hc.dg,(bD hr).2,hv⟩
 |star q hq=>cases e;exact⟨U,p+1,u+1,uZ (n:=n+17) F (bD hv).1 hq hr,(bD hr).2,(bD hv).2⟩
theorem K8(MI:i6 mt f2 m)(F:Fs h f w mo vi t vs p u)(M:cN h i fl W .none){c0:Nat}{r0:List Nat}(e:c0::r0=mt++c::r)(hc:na c)(hc2:Nat.beq c 46=I)(hr:t.drop p=r0)(hv:vs.drop u=f2++bX):IX (λp' u'=>tR L Z n (aH (pH (au L Z) (bI L Z (n+20))) ⟨pS f i c0 l3 .unb,h,I⟩) kh f i c h w mo vi t vs p' u' fl W m) (λp' _=>t.drop p'=r) (λ_ u'=>vs.drop u'=bX):=by induction MI with
 |no=>cases e;exact⟨p,u,JA F M hc2,hr,hv⟩
 |told d hd'=>
  cases e;have hd2:=bD hr;have:=NB (L:=L) (Z:=Z) (n:=n) (l3:=l3) (q:=((d-48:Nat):Int)) (p':=p+1+1) (u':=u) (c':=c) F M hr λh1 F1=>vW (n:=n+18) F1 (by unfold gQ at hd';rw[ax]at hd';have:=Nat.le_of_ble_eq_true hd'.1;induction z:Nat.beq d 42 with
   |true=>have:=Nat.eq_of_beq_eq_true z;lia
   |false=>rfl) hd' hd2.2 hc.dg
  rw[EY]at this;exact⟨p+1+1,u,this,(bD hd2.2).2,hv⟩
 |star q hq=>cases e;have hd2:=bD hr;exact⟨p+1+1,u+1,NB (L:=L) (Z:=Z) (n:=n) (l3:=l3) (q:=q) (c':=c) F M hr λh1 F1=>uZ (n:=n+17) F1 (bD hv).1 hq hd2.2,(bD hd2.2).2,(bD hv).2⟩
theorem KJ{wt':List Nat}:∃c0 r0,wt'++c::r=c0::r0:=by induction wt' with|nil=>exact⟨_,_,U⟩|cons a q=>exact⟨_,_,U⟩
theorem AN(MI:i6 mt f2 m)(hc:na c):∃c0 r0,mt++c::r=c0::r0/\na c0:=by induction MI with
 |no=>exact⟨_,_,U,hc⟩
 |told d hd'=>exact⟨_,_,U,na.dot⟩
 |star q hq=>exact⟨_,_,U,na.dot⟩
theorem xR(F:Fs h f w mo vi t vs p u)(hr:t.drop p=fs++c::r)(ha:fs.all jm=S)(hl:fs.length<=100)(hc:jm c=I):vO (λp'=>Bf L Z n (sV (au L Z) (bI L Z (n+20)) ⟨[.obj f,.unb,.unb,.unb,.unb,.unb],h,I⟩) uo f h.length c h [f,w,mo] w mo vi t vs p' u fs) (λp'=>t.drop p'=r):=by
 obtain⟨c1,r1,e1⟩:=KJ (c:=c) (r:=r) (wt':=fs);rw[e1]at hr;obtain⟨h1,s1,M1,F1,K1⟩:=NI (L:=L) (Z:=Z) (n:=n) F hr;obtain⟨h2,s2,M2,F2,K2⟩:=U5 (L:=L) (Z:=Z) (n:=n) F1 M1 (bD hr).2 e1.symm ha hc (by exact leT hl U);refine⟨p+1+fs.length,⟨h2,s1.trans s2,M2,F2,LD.old K2 (Nat.le_refl _) K1⟩,?_⟩;have:(c1::r1).drop (fs.length+1)=r:=by refine e1▸List.drop_drop▸List.drop_left▸?_;rfl
 rw[<-hr,List.drop_drop]at this;refine this▸?_;congr 1;lia
theorem zn(WI:fO wt f1 q)(hc:na c):∃c0 r0,wt++c::r=c0::r0/\jm c0=I:=by induction WI with
 |no=>exact⟨_,_,U,hc.fl⟩
 |told d hd'=>
  rw[ax]at hd';have h2:=Nat.le_of_ble_eq_true hd'.2;have key:∀d:Fin 58,Nat.ble 49 d.1=S->jm d.1=I:=by decide
  exact⟨_,_,U,key ⟨d,by lia⟩ hd'.1⟩
 |star q hq=>exact⟨_,_,U,U⟩
theorem AZ(F:Fs h f w mo vi t vs p u)(hr:t.drop p=fs++(wt++c::r))(ha:fs.all jm=S)(hl:fs.length<=100)(WI:fO wt f1 q)(hc:na c)(hv:vs.drop u=f1++bX):
  IX (λp' u'=>NC L Z n (sV (au L Z) (bI L Z (n+20)) ⟨[.obj f,.unb,.unb,.unb,.unb,.unb],h,I⟩) pH f h.length c h w mo vi t vs p' u' (Ax fs q) (nh q) .none) (λp' _=>t.drop p'=r) (λ_ u'=>vs.drop u'=bX):=by
 obtain⟨c2,r2,e2,hfl⟩:=zn (r:=r) WI hc;rw[e2]at hr;obtain⟨p2,⟨h2,s2,M2,F2,K2⟩,hr2⟩:=xR (L:=L) (Z:=Z) (n:=n) F hr ha hl hfl;obtain⟨_,p3,u3,C3,hp3,hu3⟩:=Gj (L:=L) (Z:=Z) (n:=n) WI F2 e2.symm hc hr2 hv;obtain⟨l3,h3,s3,M3,F3,K3⟩:=Vl F2 M2 C3;obtain⟨l4,h4,s4,M4,F4,K4⟩:=VO (l3:=l3) F3 M3 (by lia);exact⟨p3,u3,⟨l4,h4,s2.trans (s3.trans s4),M4,F4,LD.old (K3.trans K4) (Nat.le_refl _) K2⟩,hp3,hu3⟩
theorem x5(F:Fs h f w mo vi t vs p u)(hr:t.drop p=fs++(wt++(mt++c::r)))(ha:fs.all jm=S)(hl:fs.length<=100)(WI:fO wt f1 q)(MI:i6 mt f2 m)(hc:na c)(hc2:Nat.beq c 46=I)(hv:vs.drop u=f1++(f2++bX)):
  IX (λp' u'=>NC L Z n (sV (au L Z) (bI L Z (n+20)) ⟨[.obj f,.unb,.unb,.unb,.unb,.unb],h,I⟩) kh f h.length c h w mo vi t vs p' u' (Ax fs q) (nh q) m) (λp' _=>t.drop p'=r) (λ_ u'=>vs.drop u'=bX):=by
 obtain⟨c3,r3,e3,hc3⟩:=AN (r:=r) MI hc;rw[e3]at hr;obtain⟨p3,u3,⟨l4,h4,s4,M4,F4,K4⟩,hp3,hu3⟩:=AZ (L:=L) (Z:=Z) (n:=n) F hr ha hl WI hc3 hv;obtain⟨p5,u5,⟨l5,h5,s5,M5,F5,K5⟩,hp5,hu5⟩:=K8 (L:=L) (Z:=Z) (n:=n) (l3:=l4) MI F4 M4 e3.symm hc hc2 hp3 hu3;exact⟨p5,u5,⟨l5,h5,s4.trans s5,M5,F5,LD.old K5 (Nat.le_refl _) K4⟩,hp5,hu5⟩
end
section
variable{L:Nat}{Z:List Int}{n:Nat}{hd:Bool}{h h' h0 h1:H}{T:aT}{G:cI}{f w mo vi p u i b p' u':Nat}{t r x d s fl fs wt mt:List Nat}{vs f1 f2 f3 bX:List J}{v l3:J}{c c':Nat}{k W q:Int}{m:Option Nat}
structure tc(b:Nat)(h h':H):Prop where
 th:∀(i C:Nat)(fs:List (Nat×J)),h[i]?=Y (AO.inst C fs)->(Nat.beq C 62||Nat.beq C 82)=S->h'[i]?=Y (AO.inst C fs)
 li:∀(i:Nat)(xs:List J),h[i]?=Y (AO.list xs)->i≠b->h'[i]?=Y (AO.list xs)
theorem tc.of{X:List Nat}(K:aD X h h')(O:sZ b h X):tc b h h':=⟨λi C fs e q=>K.get e (O.th i C fs e q),λi xs e q=>K.get e (O.li i xs e q)⟩
theorem d7.ext(A:d7 h i x)(E:tc b h h'):d7 h' i x:=let⟨fs,a,e⟩:=A;⟨fs,E.th _ _ _ a U,e⟩
theorem V6.ext(V:V6 b h v d s)(E:tc b h h'):V6 b h' v d s:=by cases V with
 |text i x A q l=>exact .text i d (A.ext E) q l
 |int k q=>exact .int k q
 |sym=>exact .sym
 |nil=>exact .nil
 |tru=>exact .tru
 |list i j t fs a e c A q=>exact .list i j t fs (E.th _ _ _ a U) e (E.li _ _ c q) (A.ext E) q
inductive gP(b:Nat)(h:H):Nat->List J->(List Nat->Int->Option Nat->List Nat)->Prop where
 |pct:gP b h 37 [] (λ_ _ _=>[37])
 |nl:gP b h 10 [] (λ_ _ _=>[37,10])
 |num (q:Nat) (v:J) (k:Int) (hk:q∈kinds) (V:Nm h v k) (hb:k.natAbs<=1000):gP b h q [v] (λfl W m=>vK k q fl W m)
 |chr (v:J) (c:Nat) (V:Sg h v c):gP b h 99 [v] (λfl W _=>iD [c] W fl)
 |plain (v:J) (d s:List Nat) (V:V6 b h v d s) (l:d.length<=1000):gP b h 115 [v] (λfl W m=>iD (uN m d) W fl)
 |shown (v:J) (d s:List Nat) (V:V6 b h v d s) (l:s.length<=1000):gP b h 112 [v] (λfl W m=>iD (uN m s) W fl)
variable{ak:List Nat->Int->Option Nat->List Nat}
theorem gP.ext(K:gP b h c f3 ak)(E:tc b h h'):gP b h' c f3 ak:=by induction K with
 |pct=>exact .pct
 |nl=>exact .nl
 |num q v k hk V hb=>refine .num _ v k hk ?_ hb;induction V with
  |int k=>exact .int k
  |text i x k A a l e=>exact .text i x k (A.ext E) a l e
 |chr v c V=>refine .chr v c ?_;cases V with
  |int k q=>exact .int c q
  |text i c r A l=>exact .text i c r (A.ext E) l
 |plain v d s V l=>exact .plain v d s (V.ext E) l
 |shown v d s V l=>exact .shown v d s (V.ext E) l
theorem gP.endc(K:gP b h c f3 ak):na c/\Nat.beq c 46=I:=by induction K with
 |pct=>exact⟨⟨U,U,U⟩,U⟩
 |nl=>exact⟨⟨U,U,U⟩,U⟩
 |num q v k hk V hb=>exact fE (P:=λc=>na c/\Nat.beq c 46=I) ⟨⟨U,U,U⟩,U⟩ ⟨⟨U,U,U⟩,U⟩ ⟨⟨U,U,U⟩,U⟩ ⟨⟨U,U,U⟩,U⟩ ⟨⟨U,U,U⟩,U⟩ ⟨⟨U,U,U⟩,U⟩ ⟨⟨U,U,U⟩,U⟩ ⟨⟨U,U,U⟩,U⟩ _ hk
 |chr v c V=>exact⟨⟨U,U,U⟩,U⟩
 |plain v d s V l=>exact⟨⟨U,U,U⟩,U⟩
 |shown v d s V l=>exact⟨⟨U,U,U⟩,U⟩
theorem Kp(K:gP b h c f3 ak)(F:Fs h f w mo vi t vs p u)(M:cN h i fl W m)(hv:vs.drop u=f3++bX)(hw:W<=1000)(hw2:-1000<=W)(hm:∀j,m=Y j->j<=1000):vO (λu'=>BU L Z n f i c l3 h w mo vi t vs p u' (ak fl W m)) (λu'=>vs.drop u'=bX):=by induction K with
 |pct=>exact⟨u,IF F,hv⟩
 |nl=>exact⟨u,KO F,hv⟩
 |num q v k hk V hb=>exact⟨u+1,FD F M hk (bD hv).1 V hb hw hw2 hm,(bD hv).2⟩
 |chr v c V=>exact⟨u+1,RM F M (bD hv).1 V hw hw2,(bD hv).2⟩
 |plain v d s V l=>exact⟨u+1,PT F M (bD hv).1 V (by exact leT l U) hw hw2,(bD hv).2⟩
 |shown v d s V l=>exact⟨u+1,S7 F M (bD hv).1 V (by exact leT l U) hw hw2,(bD hv).2⟩
inductive fj(b:Nat)(h:H):List Nat->List J->List Nat->Prop where
 |mk (fs wt mt:List Nat) (c:Nat) (f1 f2 f3:List J) (q:Int) (m:Option Nat) (ak:List Nat->Int->Option Nat->List Nat) (ha:fs.all jm=S) (hl:fs.length<=100) (WI:fO wt f1 q) (MI:i6 mt f2 m) (K:gP b h c f3 ak) (hq:q.natAbs<=1000) (hm:∀j,m=Y j->j<=1000):fj b h (fs++(wt++(mt++[c]))) (f1++(f2++f3)) (ak (Ax fs q) (nh q) m)
theorem fj.ext(P:fj b h x f1 d)(E:tc b h h'):fj b h' x f1 d:=let⟨fs,wt,mt,c,g1,g2,g3,q,m,ak,ha,hl,WI,MI,K,hq,hm⟩:=P;.mk fs wt mt c g1 g2 g3 q m ak ha hl WI MI (K.ext E) hq hm
theorem xp(hq:q.natAbs<=1000):nh q<=1000/\-1000<=nh q:=by unfold nh;induction z:aI (q<0)with
 |true=>exact⟨by simp only[cond_true];exact(CR (k:=1000) hq).2,by simp only[cond_true];exact zB U (iO (Int.neg_pos_of_neg (of_decide_eq_true z)))⟩
 |false=>exact⟨by simp only[cond_false];exact(CR (k:=1000) hq).1,by simp only[cond_false];exact zB U (dh.mp (of_decide_eq_false z))⟩
abbrev LU(L:Nat)(Z:List Int)(n f w mo vi:Nat)(t:List Nat)(vs:List J)(h:H)(d r:List Nat)(bX:List J):Prop:=
 Yf (λp' u' h'=>bI L Z (n+21) I 484 [.obj f] [] h=.ok (.str d) h') (λp' _ _=>t.drop p'=r) (λ_ u' _=>vs.drop u'=bX) (λp' u' h'=>Fs h' f w mo vi t vs p' u') (λ_ _ h'=>FK f w mo h h')
theorem Id(P:fj b h x f1 d)(F:Fs h f w mo vi t vs p u)(hr:t.drop p=x++r)(hv:vs.drop u=f1++bX):LU L Z n f w mo vi t vs h d r bX:=by obtain⟨fs,wt,mt,c,g1,g2,g3,q,m,ak,ha,hb,WI,MI,K,hq,hm⟩:=P;obtain⟨ec,ec2⟩:=K.endc;obtain⟨p1,u1,⟨l3,h1,s1,M1,F1,K1⟩,hp1,hu1⟩:=x5 (L:=L) (Z:=Z) (n:=n) (r:=r) (bX:=g3++bX) F (by simp only[hr];simp only[List.append_assoc,List.cons_append,List.nil_append]) ha hb WI MI ec ec2 (by simp only[hv];simp only[List.append_assoc]);have E1:tc b h h1:=tc.of K1 F.off;obtain⟨u2,⟨A,h2,s2,F2,K2⟩,hu2⟩:=Kp (L:=L) (Z:=Z) (n:=n) (l3:=l3) (K.ext E1) F1 M1 hu1 (xp hq).1 (xp hq).2 hm;exact⟨p1,u2,h2,bC NQ (L0:=[.obj f,.unb,.unb,.unb,.unb,.unb]) U (s1.trans s2),hp1,hu2,F2,K1.trans K2⟩
theorem xC{e:M J}{g:qf}{ms:List (M Fl)}{st st':St}{y:Nat}(h1:e st=.exc y st'):aH (sAsg g e::ms) st=.exc y st':=cZ (oA h1)
abbrev dm(x:lJ St Fl)(f w mo:Nat)(h:H)(nm:List Nat):Prop:=UI (λy A h'=>x=.exc y ⟨A,h',I⟩) (λy _ h'=>fA h' y nm) (λ_ _ h'=>Wo h' w mo) (λ_ _ h'=>FK f w mo h h')
theorem dm.old{x:lJ St Fl}{nm:List Nat}(K:FK f w mo h h1)(a:dm x f w mo h1 nm):dm x f w mo h nm:=let⟨y,A,h2,e,R,W,k⟩:=a;⟨y,A,h2,e,R,W,K.trans k⟩
theorem Eb(K:gP b h0 c f3 ak)(h3:f3≠[])(F:Fs h f w mo vi t vs p u)(M:cN h i fl W m)(hv:vs.drop u=[]):dm (aH (kh (au L Z) (bI L Z (n+20))) ⟨pS f i c l3 .unb,h,I⟩) f w mo h aU:=by obtain⟨y,h1,e,R,Wd,k⟩:=uM (L:=L) (Z:=Z) (n:=n+9) F (List.drop_eq_nil_iff.mp hv);have ev:∀A:List J,A[0]?=Y (.obj f)->bk (au L Z) (bI L Z (n+20)) (B 0) 44 (am "value") [] ⟨A,h,I⟩=.exc y ⟨A,h1,I⟩:=λA a=>aR (bM a U) (jN F.at' (cD U U cy (dQ e)));refine⟨y,pS f i c l3 .unb,h1,?_,R,Wd,k⟩;induction K with
 |pct=>exact absurd U h3
 |nl=>exact absurd U h3
 |num q v k hk V hb=>obtain⟨t1,t2⟩:=rN (L:=L) (Z:=Z) hk;exact aG (aY (aK (aE aq ao U)) (aM t1 aZ)) (cZ (aY (aK (aE aq ao (t2 _))) (br U (cZ (eK (aR aq (jN M (uH U U (Iu (yd U (tQ (bG aq F.at' U) (Iu (ev _ U)))))))))))))
 |chr v c V=>exact aG (aY (aK (aE aq ao U)) (aM U aZ)) (aG (aY (aK (aE aq ao U)) (aM U aZ)) (cZ (aY (aK (aE aq ao cU)) (br U (cZ (eK (aR aq (jN M (uH U U (Iu (aR aq (jN F.at' (uH U U (Iu (ev _ U)))))))))))))))
 |plain v d s V l=>exact aG (aY (aK (aE aq ao U)) (aM U aZ)) (aG (aY (aK (aE aq ao U)) (aM U aZ)) (aG (aY (aK (aE aq ao cU)) (aM U aZ)) (aG (aY (aK (aE aq ao U)) (aM U aZ))
   (xC (dy (aK (aE aq ao cU)) (br U (yd U (Iu (ev _ U)))))))))
 |shown v d s V l=>exact aG (aY (aK (aE aq ao U)) (aM U aZ)) (aG (aY (aK (aE aq ao U)) (aM U aZ)) (aG (aY (aK (aE aq ao cU)) (aM U aZ)) (aG (aY (aK (aE aq ao U)) (aM U aZ))
   (xC (dy (aK (aE aq ao cU)) (aM U (yd U (Iu (ev _ U)))))))))
theorem x9{nm:List Nat}(F:Fs h f w mo vi t vs p u)(C:jE L Z (n+20) 470 [.obj f,.str [c]] f w mo h nm):dm (aH (uo (au L Z) (bI L Z (n+20))) ⟨pS f i c .unb .unb,h,I⟩) f w mo h nm:=by obtain⟨y,h1,e,R,Wd,k⟩:=C;exact⟨y,_,h1,xC (aR aq (jN F.at' (cD U U (aC aq) (dQ e)))),R,Wd,k⟩
theorem C8{nm:List Nat}(F:Fs h f w mo vi t vs p u)(hr:t.drop p=c::r)(C:∀h1,Fs h1 f w mo vi t vs (p+1) u->jE L Z (n+20) 470 [.obj f,.str [c]] f w mo h1 nm):dm (aH (pH (au L Z) (bI L Z (n+20))) ⟨pS f i 46 l3 .unb,h,I⟩) f w mo h nm:=by obtain⟨y,h1,e,R,Wd,k⟩:=C _ (F.step (p':=p+1) (u':=u));exact⟨y,_,h1,cZ (aY (aK (aE aq ao cU)) (br U (xC (aR aq (jN F.at' (cD U U (aC (aR aq (jN F.at' (cD U U cy (aO (gf (n:=n+19) F hr)))))) (dQ e))))))),R,Wd,aD.trans (FK.ofF (aD.set (.head _))) k⟩
theorem nH{nm:List Nat}(a:dm (sV (au L Z) (bI L Z (n+20)) ⟨[.obj f,.unb,.unb,.unb,.unb,.unb],h,I⟩) f w mo h nm):jE L Z (n+21) 484 [.obj f] f w mo h nm:=
 let⟨y,_,h1,e,R,W,k⟩:=a;⟨y,h1,fY NQ (L0:=[.obj f,.unb,.unb,.unb,.unb,.unb]) U e,R,W,k⟩
theorem Ap(P:fj b h x f1 d)(hf:f1≠[])(F:Fs h f w mo vi t vs p u)(hr:t.drop p=x++r)(hv:vs.drop u=f1.dropLast):jE L Z (n+21) 484 [.obj f] f w mo h aU:=by
 obtain⟨fs,wt,mt,c,g1,g2,g3,q,m,ak,ha,hb,WI,MI,K,hq,hm⟩:=P;obtain⟨ec,ec2⟩:=K.endc;have hr:t.drop p=fs++(wt++(mt++c::r)):=by rw[hr];simp only[List.append_assoc,List.cons_append,List.nil_append]
 refine nH ?_;have h3:g3=[]\/∃v,g3=[v]:=by induction K with|pct=>exact .inl U|nl=>exact .inl U|num=>exact .inr ⟨_,U⟩|chr=>exact .inr ⟨_,U⟩|plain=>exact .inr ⟨_,U⟩|shown=>exact .inr ⟨_,U⟩
 rcases h3 with e3|⟨v,e3⟩
 ·subst e3
  rw[List.append_nil]at hf hv;induction MI with
  |star q2 hq2=>rw[List.dropLast_concat]at hv;obtain⟨p1,u1,⟨l3,h1,s1,M1,F1,K1⟩,hp1,hu1⟩:=AZ (L:=L) (Z:=Z) (n:=n) (bX:=[]) F hr ha hb WI na.dot (by rw[List.append_nil];exact hv);rw[s1];exact dm.old K1 (C8 F1 hp1 λh2 F2=>jA (n:=n+8) F2 (List.drop_eq_nil_iff.mp hu1))
  |no=>rw[List.append_nil]at hf hv;induction WI with
   |no=>exact absurd U hf
   |told d hd'=>exact absurd U hf
   |star q hq'=>obtain⟨p2,⟨h2,s2,M2,F2,K2⟩,hr2⟩:=xR (L:=L) (Z:=Z) (n:=n) F hr ha hb rfl;rw[s2];exact dm.old K2 (x9 F2 (jA (n:=n+8) F2 (List.drop_eq_nil_iff.mp hv)))
  |told d hd'=>rw[List.append_nil]at hf hv;induction WI with
   |no=>exact absurd U hf
   |told d hd'=>exact absurd U hf
   |star q hq'=>obtain⟨p2,⟨h2,s2,M2,F2,K2⟩,hr2⟩:=xR (L:=L) (Z:=Z) (n:=n) F hr ha hb rfl;rw[s2];exact dm.old K2 (x9 F2 (jA (n:=n+8) F2 (List.drop_eq_nil_iff.mp hv)))
 ·subst e3
  rw[<-List.append_assoc,List.dropLast_concat]at hv;obtain⟨p1,u1,⟨l3,h1,s1,M1,F1,K1⟩,hp1,hu1⟩:=x5 (L:=L) (Z:=Z) (n:=n) (r:=r) (bX:=[]) F hr ha hb WI MI ec ec2 (by rw[hv,List.append_nil]);rw[s1];exact dm.old K1 (Eb K (List.cons_ne_nil _ _) F1 M1 hu1)
end
section
variable{L:Nat}{Z:List Int}{n:Nat}{hd:Bool}{h h' h0 h1:H}{T:aT}{G:cI}{f w mo vi p u i b p' u' j:Nat}{t r x y d e s fl fs wt mt:List Nat}{vs f1 f2 f3 bX acc:List J}{v l3:J}{c c':Nat}{k W q:Int}{m:Option Nat}
inductive eJ(b:Nat)(h:H):List Nat->List J->List Nat->Prop where
 |nil:eJ b h [] [] []
 |lit (c:Nat) (hc:Nat.beq c 37=I) (x:List Nat) (g:List J) (d:List Nat) (P:eJ b h x g d):eJ b h (c::x) g (c::d)
 |place (y:List Nat) (f:List J) (e:List Nat) (A:fj b h y f e) (x:List Nat) (g:List J) (d:List Nat) (P:eJ b h x g d):eJ b h (37::(y++x)) (f++g) (e++d)
theorem eJ.ext(P:eJ b h x f1 d)(E:tc b h h'):eJ b h' x f1 d:=by induction P with
 |nil=>exact .nil
 |lit c hc x g d P ih=>exact .lit c hc x g d ih
 |place y f e A x g d P ih=>exact .place y f e (A.ext E) x g d ih
theorem eJ.app(P:eJ b h x f1 d)(Q:eJ b h y f2 e):eJ b h (x++y) (f1++f2) (d++e):=by induction P with
 |nil=>exact Q
 |lit c hc x g d P ih=>exact .lit c hc _ _ _ ih
 |place z f e' A x g d P ih=>have:=eJ.place z f e' A _ _ _ ih;rw[List.append_assoc,List.append_assoc,<-List.append_assoc z x y]at*;exact this
theorem aD.newer(K:aD [w,mo] h0 h)(k:aD [f,w,mo] h h')(hf:h0.length<=f):aD [w,mo] h0 h':=
 ⟨Nat.le_trans K.1 k.1,λi hi hx=>(k.2 i (Nat.lt_of_lt_of_le hi K.1) (λm=>by
  rcases List.mem_cons.mp m with rfl|m
  ·exact nf (bE [_,_] [(.a (.v 0) (.l 1),.v 1),(.v 1,.v 0)] 0 [1,1] (.l 1) (.l 0) U hi hf)
  ·exact hx m)).trans (K.2 i hi hx)⟩
theorem Wo.off(W:Wo h w mo):sZ b h [w,mo]:=⟨λi C fs e q=>W.nin e (by show(!(Nat.beq (C+10) 2||Nat.beq (C+10) 837||Nat.beq (C+10) 238))=S;rw[dz]at q;rcases q with q|q<;>(rw[Nat.eq_of_beq_eq_true q];rfl)),λi xs e _=>W.nin e U⟩
structure Wh(h0 h:H)(f w mo vi j:Nat)(t:List Nat)(vs:List J)(p u:Nat)(acc:List (List Nat)):Prop where
 fs:Fs h f w mo vi t vs p u
 kp:aD [w,mo] h0 h
 at':h[j]?=Y (.list (acc.map .str))
 fn:h0.length<=f
 jn:h0.length<=j
 jb:j≠vi
variable{ac:List (List Nat)}
theorem Wh.put(A:Wh h0 h f w mo vi j t vs p u ac):Wh h0 (h.set j (.list (ac.map .str++[.str x]))) f w mo vi j t vs p u (ac++[x]):=
 ⟨A.fs.keep (aD.set (.head _)) (A.fs.wo.set A.at' U) (hY (eZ A.fs.at' A.at' U)) (hY (jP A.jb)),A.kp.setNew A.jn,by rw[dP A.at',List.map_append];rfl,A.fn,A.jn,A.jb⟩
theorem Wh.go(A:Wh h0 h f w mo vi j t vs p u ac)(F:Fs h' f w mo vi t vs p' u')(K:FK f w mo h h'):Wh h0 h' f w mo vi j t vs p' u' ac:=
 ⟨F,A.kp.newer K A.fn,K.get A.at' (λm=>by
  rcases List.mem_cons.mp m with rfl|m
  ·have:=A.at'.symm.trans A.fs.at';cases this
  ·exact A.fs.wo.nin A.at' U m),A.fn,A.jn,A.jb⟩
theorem mD(F:Fs h f w mo vi t vs p u){l1 l2 l3:J}:AI (au L Z) (bI L Z (n+21)) ⟨[.obj f,l1,l2,l3],h,I⟩=.ok (aI (p<t.length)) ⟨[.obj f,l1,l2,l3],h,I⟩:=by have htl:=F.tl;have e:aI ((p:Int)<(t.length:Int))=aI (p<t.length):=decide_eq_decide.mpr fw;rw[<-e];exact aK (aE (bG aq F.at' U) (aJ U (aC (bG aq F.at' U)) (iq (fM (by exact leT htl U)))) U)
theorem kN{α:Type}{l:List α}{j:Nat}{a:α}{r:List α}(e:l.drop j=a::r):aI (j<l.length)=S:=decide_eq_true (List.getElem?_eq_some_iff.mp (bD e).1).1
theorem NK{X:J}(A:Wh h0 h f w mo vi j t vs p u ac)(hr:t.drop p=c::r)(hl:ac.length<=1000000)
  (hx:∀h1,Wh h0 h1 f w mo vi j t vs (p+1) u ac->∃p' u' h2,(fD (bJ (aW (au L Z) .Eq (B 2) (D (.str [37])))) (bk (au L Z) (bI L Z (n+21)) (B 0) 48 (am "piece") []) (B 2)) ⟨[.obj f,.obj j,.str [c],.unb],h1,I⟩=.ok (.str x) ⟨[.obj f,.obj j,.str [c],.unb],h2,I⟩/\Wh h0 h2 f w mo vi j t vs p' u' ac/\t.drop p'=y/\vs.drop u'=bX):
  Xh (λp' u' h'=>rd (au L Z) (bI L Z (n+21)) ⟨[.obj f,.obj j,X,.unb],h,I⟩=.ok .nxt ⟨[.obj f,.obj j,.str [c],.unb],h',I⟩) (λp' u' h'=>Wh h0 h' f w mo vi j t vs p' u' (ac++[x])) (λp' u' _=>t.drop p'=y/\vs.drop u'=bX):=by
 have A1:=A.go (A.fs.step (p':=p+1) (u':=u)) (FK.ofF (aD.set (.head _)));obtain⟨p',u',h2,e2,A2,e3⟩:=hx _ A1;have e1:=gf (L:=L) (Z:=Z) (n:=n+20) (hd:=I) A.fs hr;exact⟨p',u',_,aG (bz (aR aq (jN A.fs.at' (cD U U cy (aO e1)))) (bv U)) (bO (nY (aR aq (jN A1.at' (Iv U (aC e2) A2.at' (by rw[List.length_map];exact bE [_] [(.v 0,.l 1000000)] 0 [1] (.a (.v 0) (.l 1)) (.l 16777216) U hl)))))),A2.put,e3⟩
end
section
variable{L:Nat}{Z:List Int}{n:Nat}{hd:Bool}{h h' h0 h1:H}{T:aT}{G:cI}{f w mo vi p u i b p' u' j fl:Nat}{t r x y d e s:List Nat}{vs f1 f2 g bX acc:List J}{v X:J}{c c':Nat}{ac:List (List Nat)}
theorem Wo.ext(W:Wo h0 w mo)(K:aD [w,mo] h0 h):tc b h0 h:=tc.of K W.off
theorem Fj(A:Wh h0 h f w mo vi j t vs p u ac)(hr:t.drop p=c::r)(hc:Nat.beq c 37=I)(hl:ac.length<=1000000):
  Xh (λp' u' h'=>rd (au L Z) (bI L Z (n+21)) ⟨[.obj f,.obj j,X,.unb],h,I⟩=.ok .nxt ⟨[.obj f,.obj j,.str [c],.unb],h',I⟩) (λp' u' h'=>Wh h0 h' f w mo vi j t vs p' u' (ac++[[c]])) (λp' u' _=>t.drop p'=r/\vs.drop u'=vs.drop u):=
 NK A hr hl λh1 A1=>⟨p+1,u,h1,dy (aK (aE aq ao cU)) (aM hc aq),A1,(bD hr).2,U⟩
theorem DL(A:Wh h0 h f w mo vi j t vs p u ac)(W0:Wo h0 w mo)(P:fj b h0 y g e)(hr:t.drop p=37::(y++r))(hv:vs.drop u=g++bX)(hl:ac.length<=1000000):
  Xh (λp' u' h'=>rd (au L Z) (bI L Z (n+21)) ⟨[.obj f,.obj j,X,.unb],h,I⟩=.ok .nxt ⟨[.obj f,.obj j,.str [37],.unb],h',I⟩) (λp' u' h'=>Wh h0 h' f w mo vi j t vs p' u' (ac++[e])) (λp' u' _=>t.drop p'=r/\vs.drop u'=bX):=
 NK A hr hl λh1 A1=>by obtain⟨p',u',h2,e2,hp,hu,F2,K2⟩:=Id (L:=L) (Z:=Z) (n:=n) (P.ext (W0.ext A1.kp)) A1.fs (bD hr).2 hv;exact⟨p',u',h2,dy (aK (aE aq ao cU)) (br U (aR aq (jN A1.fs.at' (cD U U cy (aO e2))))),A1.go F2 K2,hp,hu⟩
abbrev Nz(L:Nat)(Z:List Int)(n fl f j:Nat)(X:J)(h:H):lJ St Fl:=dU (lY (AI (au L Z) (bI L Z (n+21))) (rd (au L Z) (bI L Z (n+21)))) fl () ⟨[.obj f,.obj j,X,.unb],h,I⟩
theorem GD(W0:Wo h0 w mo)(P:eJ b h0 x g d):∀{h:H}{p u fl:Nat}{X:J}{ac:List (List Nat)},Wh h0 h f w mo vi j t vs p u ac->t.drop p=x->vs.drop u=g++bX->x.length<fl->ac.length+x.length<=1000000->
  X2 (λX' ac' h'=>Nz L Z n fl f j X h=.ok .nxt ⟨[.obj f,.obj j,X',.unb],h',I⟩/\ac'.flatten=ac.flatten++d) (λ_ ac' h'=>∃p' u',Wh h0 h' f w mo vi j t vs p' u' ac'):=by
 induction P with
 |nil=>intro h p u fl X ac A hr hv hf hl;obtain⟨fl,rfl⟩:∃k,fl=k+1:=⟨fl-1,by exact Xf hf⟩;exact⟨X,ac,h,⟨pp (mD A.fs) (decide_eq_false (by have:=List.drop_eq_nil_iff.mp hr;lia)),(List.append_nil _).symm⟩,p,u,A⟩
 |lit c hc x g d P ih=>intro h p u fl X ac A hr hv hf hl;obtain⟨fl,rfl⟩:∃k,fl=k+1:=⟨fl-1,by exact Xf hf⟩;rw[List.length_cons]at hf hl;obtain⟨p',u',h1,e1,A1,hr1,hu1⟩:=Fj (L:=L) (Z:=Z) (n:=n) (X:=X) A hr hc (by lia);obtain⟨X',ac',h2,⟨e2,e3⟩,A2⟩:=ih (fl:=fl) (X:=.str [c]) A1 hr1 (hu1.trans hv) (by exact Nat.lt_of_succ_lt_succ hf) (by rw[List.length_append];show _+1+_<=_;lia);exact⟨X',ac',h2,⟨nI (mD A.fs) (kN hr) e1 e2,by rw[e3,List.flatten_append,List.append_assoc];rfl⟩,A2⟩
 |place y f' e ag x g d P ih=>intro h p u fl X ac A hr hv hf hl;obtain⟨fl,rfl⟩:∃k,fl=k+1:=⟨fl-1,by exact Xf hf⟩;rw[List.length_cons,List.length_append]at hf hl;obtain⟨p',u',h1,e1,A1,hr1,hu1⟩:=DL (L:=L) (Z:=Z) (n:=n) (X:=X) A W0 ag hr (hv.trans (List.append_assoc ..)) (by lia);obtain⟨X',ac',h2,⟨e2,e3⟩,A2⟩:=ih (fl:=fl) (X:=.str [37]) A1 hr1 hu1 (by lia) (by rw[List.length_append];show _+1+_<=_;lia);exact⟨X',ac',h2,⟨nI (mD A.fs) (kN hr) e1 e2,by rw[e3,List.flatten_append,List.append_assoc,List.flatten_singleton]⟩,A2⟩
theorem wU{nm:List Nat}(A:Wh h0 h f w mo vi j t vs p u ac)(hr:t.drop p=37::r)(C:∀h1,Wh h0 h1 f w mo vi j t vs (p+1) u ac->jE L Z (n+21) 484 [.obj f] f w mo h1 nm):
  UI (λy ag h'=>rd (au L Z) (bI L Z (n+21)) ⟨[.obj f,.obj j,X,.unb],h,I⟩=.exc y ⟨ag,h',I⟩) (λy _ h'=>fA h' y nm) (λ_ _ h'=>Wo h' w mo) (λ_ _ h'=>aD [w,mo] h0 h'):=by
 have A1:=A.go (A.fs.step (p':=p+1) (u':=u)) (FK.ofF (aD.set (.head _)));obtain⟨y,h2,e2,R,W,K⟩:=C _ A1;have e1:=gf (L:=L) (Z:=Z) (n:=n+20) (hd:=I) A.fs hr;exact⟨y,_,h2,aG (bz (aR aq (jN A.fs.at' (cD U U cy (aO e1)))) (bv U)) (bO (Ij (aR aq (jN A1.at' (b6 U (eL (Iu (dy (aK (aE aq ao cU)) (br U (aR aq (jN A1.fs.at' (cD U U cy (dQ e2))))))))))))),R,W,A1.kp.newer K A.fn⟩
abbrev Hg(L:Nat)(Z:List Int)(n fl f j:Nat)(X:J)(h h0:H)(w mo:Nat)(nm:List Nat):Prop:=UI (λy ag h'=>Nz L Z n fl f j X h=.exc y ⟨ag,h',I⟩) (λy _ h'=>fA h' y nm) (λ_ _ h'=>Wo h' w mo) (λ_ _ h'=>aD [w,mo] h0 h')
theorem AS(W0:Wo h0 w mo)(P:eJ b h0 x g d):g≠[]->∀{h:H}{p u fl:Nat}{X:J}{ac:List (List Nat)},Wh h0 h f w mo vi j t vs p u ac->t.drop p=x->vs.drop u=g.dropLast->x.length<fl->ac.length+x.length<=1000000->
  Hg L Z n fl f j X h h0 w mo aU:=by
 induction P with
 |nil=>intro h;exact absurd U h
 |lit c hc x g d P ih=>intro hg h p u fl X ac A hr hv hf hl;obtain⟨fl,rfl⟩:∃k,fl=k+1:=⟨fl-1,by lia⟩;rw[List.length_cons]at hf hl;obtain⟨p',u',h1,e1,A1,hr1,hu1⟩:=Fj (L:=L) (Z:=Z) (n:=n) (X:=X) A hr hc (by lia);obtain⟨y,ag,h2,e2,R1,R2,R3⟩:=ih hg (fl:=fl) (X:=.str [c]) A1 hr1 (hu1.trans hv) (by lia) (by rw[List.length_append];show _+1+_<=_;lia);exact⟨y,ag,h2,nI (mD A.fs) (kN hr) e1 e2,R1,R2,R3⟩
 |place y f' e ag x g d P ih=>
  intro hg h p u fl X ac A hr hv hf hl;obtain⟨fl,rfl⟩:∃k,fl=k+1:=⟨fl-1,by lia⟩;rw[List.length_cons,List.length_append]at hf hl
  by_cases q:g=[]
  ·obtain rfl:=Eq.symm q
   rw[List.append_nil]at hg hv;obtain⟨y,C,h2,e2,R1,R2,R3⟩:=wU (L:=L) (Z:=Z) (n:=n) (X:=X) A hr λh1 A1=>Ap (ag.ext (W0.ext A1.kp)) hg A1.fs (bD hr).2 hv;exact⟨y,C,h2,vV (mD A.fs) (kN hr) e2,R1,R2,R3⟩
  ·rw[List.dropLast_append_of_ne_nil q]at hv
   obtain⟨p',u',h1,e1,A1,hr1,hu1⟩:=DL (L:=L) (Z:=Z) (n:=n) (X:=X) A W0 ag hr hv (by lia);obtain⟨y,ag,h2,e2,R1,R2,R3⟩:=ih q (fl:=fl) (X:=.str [37]) A1 hr1 hu1 (by lia) (by rw[List.length_append];show _+1+_<=_;lia);exact⟨y,ag,h2,nI (mD A.fs) (kN hr) e1 e2,R1,R2,R3⟩
end
section
variable{L:Nat}{Z:List Int}{n:Nat}{hd:Bool}{h h' h0 h1:H}{T:aT}{G:cI}{f w mo vi p u i b p' u' j fl y:Nat}{t r x d e s nm:List Nat}{vs f1 f2 g bX acc:List J}{v X:J}{c c':Nat}{ac:List (List Nat)}
theorem uT:∀{ac:List (List Nat)},lj (ac.map .str)=Y ac
 |[]=>rfl
 |x::r=>by show(Jc (.str x)).bind (λy=>(lj (r.map .str)).map λq=>y::q)=_;rw[uT];rfl
theorem lL:∀{ac:List (List Nat)},fX [] ac=ac.flatten
 |[]=>rfl
 |[x]=>by rw[List.flatten_singleton];rfl
 |x::y::r=>by show x++([]++fX [] (y::r))=_;rw[lL];rfl
theorem H9(hd':d.length<=20000):bI L Z (n+1) hd 378 [.obj w,.str d] [] h=.ok (.str d) h:=by apply bC Uj (L0:=[.obj w,.str d,.unb]) rfl;exact bF (bK (dy (aK (aE (aJ U (aC aq) (iq (fM (by exact leT hd' U)))) ao U)) (br (decide_eq_true (by exact yL (b:=20000) hd')) aq)))
theorem Wh.start(F:Fs h f w mo vi t vs p u)(K:aD [w,mo] h0 h)(hf:h0.length<=f):Wh h0 (h++[.list []]) f w mo vi h.length t vs p u []:=
 ⟨F.keep (aD.app (X:=[])) F.wo.app List.not_mem_nil List.not_mem_nil,K.trans aD.app,ba,hf,K.1,λe=>by have:=qF F.li;exact nf (bE [_,_] [(.v 0,.v 1),(.a (.v 1) (.l 1),.v 0)] 0 [1,1] (.l 1) (.l 0) U (Hk e) this)⟩
theorem FW(W0:Wo h0 w mo)(P:eJ b h0 t g d)(F:Fs h f w mo vi t (g++bX) 0 0)(K:aD [w,mo] h0 h)(hf:h0.length<=f)(hd':d.length<=20000):J4 (λh'=>bI L Z (n+22) I 491 [.obj f] [] h=.ok (.str d) h') (λh'=>Wo h' w mo) (λh'=>aD [w,mo] h0 h'):=by have htl:=F.tl;obtain⟨X',ac',h1,⟨e1,e2⟩,p',u',A⟩:=GD (L:=L) (Z:=Z) (n:=n) (fl:=ff) (X:=.unb) (bX:=bX) W0 P (Wh.start F K hf) U U (by rw[i5];exact bE [_] [(.v 0,.l 1000000)] 0 [1] (.a (.v 0) (.l 1)) (.a (.l 999999999) (.l 1)) U htl) (by show 0+_<=_;lia);have e2:ac'.flatten=d:=e2;refine⟨h1,?_,A.fs.wo,A.kp⟩;apply bC Oc (L0:=[.obj f,.unb,.unb,.unb]) rfl;exact aG (bz (gj cy U) (bv U)) (aG (fL e1) (bF (bK (aJ U (aB (bG aq A.fs.at' U) (aC (aR ao (Cp U (aC aq) (qz (by decide) A.at' uT (by rw[lL,e2];show d.length+0<=_;exact leT hd' U)))))) (b4 U (aO (by rw[lL,e2];exact H9 (n:=n+20) hd')))))))
abbrev R5(L:Nat)(Z:List Int)(k:Nat)(f:Nat)(as:List J)(w mo:Nat)(h0 h:H)(nm:List Nat):Prop:=Ai (λy h'=>bI L Z k I f as [] h=.exc y h') (λy h'=>fA h' y nm) (λ_ h'=>Wo h' w mo) (λ_ h'=>aD [w,mo] h0 h')
theorem LP(F:Fs h f w mo vi t vs p u)(C:Hg L Z n ff f h.length .unb (h++[.list []]) h0 w mo nm):R5 L Z (n+22) 491 [.obj f] w mo h0 h nm:=by obtain⟨y,ag,h1,e1,R,W,K⟩:=C;exact⟨y,h1,fY Oc (L0:=[.obj f,.unb,.unb,.unb]) U (aG (bz (gj cy U) (bv U)) (cZ (fL e1))),R,W,K⟩
theorem Fs.start(W:Wo h w mo)(hl:h[vi]?=Y (.list vs))(ht:t.length<=1000000)(hv:vs.length<=1000000):Fs (h++[.inst 494 (yW w vi t 0 0)]) h.length w mo vi t vs 0 0:=⟨ba,bH hl,W.app,ht,hv⟩
theorem EX(W:Wo h w mo)(P:eJ b h t g d)(hl:h[vi]?=Y (.list (g++bX)))(ht:t.length<=20000)(hv:(g++bX).length<=20000)(hd':d.length<=20000):J4 (λh'=>bI L Z (n+23) I 505 [.obj w,.str t,.obj vi] [] h=.ok (.str d) h') (λh'=>Wo h' w mo) (λh'=>aD [w,mo] h h'):=by have F:=Fs.start (t:=t) W hl (by exact leT ht U) (by exact leT hv U);obtain⟨h1,e1,W1,K1⟩:=FW (L:=L) (Z:=Z) (n:=n) W P F aD.app (Nat.le_refl _) hd';refine⟨h1,?_,W1,K1⟩;apply bC NY (L0:=[.obj w,.str t,.obj vi,.unb]) rfl;exact bF (bK (aR (aJ U (aB aq (aB aq (aC aq))) (nJ U U U (CL (n:=n+21)))) (jN F.at' (cD U U cy (aO e1)))))
theorem tV(W:Wo h w mo)(hl:h[vi]?=Y (.list vs))(ht:t.length<=20000)(hv:vs.length<=20000)(C:Fs (h++[AO.inst 494 (yW w vi t 0 0)]) h.length w mo vi t vs 0 0->Hg L Z n ff h.length (h++[AO.inst 494 (yW w vi t 0 0)]).length .unb ((h++[AO.inst 494 (yW w vi t 0 0)])++[AO.list []]) h w mo nm):R5 L Z (n+23) 505 [.obj w,.str t,.obj vi] w mo h h nm:=by have F:=Fs.start (t:=t) W hl (by exact leT ht U) (by exact leT hv U);obtain⟨y,h1,e1,R,W1,K1⟩:=LP (h0:=h) F (C F);refine⟨y,h1,?_,R,W1,K1⟩;apply fY NY (L0:=[.obj w,.str t,.obj vi,.unb]) rfl;exact cZ (eK (aR (aJ U (aB aq (aB aq (aC aq))) (nJ U U U (CL (n:=n+21)))) (jN F.at' (cD U U cy (dQ e1)))))
abbrev CK(L:Nat)(Z:List Int)(k w vi:Nat)(t:List Nat)(mo:Nat)(h:H)(nm:List Nat):Prop:=Ai (λi h'=>bI L Z k I 883 [.obj w,.str t,.obj vi] [] h=.ok (.obj i) h') (λi h'=>h'[i]?=Y (.list [.str nm])) (λ_ h'=>Wo h' w mo) (λ_ h'=>aD [w,mo] h h')
theorem Cj(W:Wo h w mo)(P:eJ b h t g d)(hl:h[vi]?=Y (.list (g++bX)))(ht:t.length<=20000)(hv:(g++bX).length<=20000)(hd':d.length<=20000):J4 (λh'=>bI L Z (n+24) I 883 [.obj w,.str t,.obj vi] [] h=.ok (.str d) h') (λh'=>Wo h' w mo) (λh'=>aD [w,mo] h h'):=by obtain⟨h1,e1,W1,K1⟩:=EX (L:=L) (Z:=Z) (n:=n) W P hl ht hv hd';exact⟨h1,bC Oa (L0:=[.obj w,.str t,.obj vi,.unb,.unb]) U (bF (I0 (bF (bK (aJ U (aB aq (aB aq (aC aq))) (b4 U (aO e1))))))),W1,K1⟩
theorem BR(C:R5 L Z (n+23) 505 [.obj w,.str t,.obj vi] w mo h h nm):CK L Z (n+24) w vi t mo h nm:=by
 obtain⟨y,h1,e1,⟨fs,d,t',a,b,c,fs2,o,a2,b2,c2⟩,W1,K1⟩:=C;refine⟨h1.length,h1++[.list [.str nm]],?_,ba,W1.app,K1.trans aD.app⟩;apply bC Oa (L0:=[.obj w,.str t,.obj vi,.unb,.unb]) rfl;exact bF (MM (cZ (eK (aJ U (aB aq (aB aq (aC aq))) (b4 U (dQ e1))))) a rfl
  (bF (bK (gj (aC (aJ U (aC (bG (GF aq a b U (by rw[c];rfl)) a2 (iF U b2 U))) (b4 U (aO (xU (n:=n+22) c2))))) U))) U)
theorem Eg(W:Wo h w mo)(P:eJ b h t g d)(hg:g≠[])(hl:h[vi]?=Y (.list g.dropLast))(ht:t.length<=20000)(hv:g.dropLast.length<=20000):CK L Z (n+24) w vi t mo h aU:=
 BR (tV W hl ht hv λF=>AS (ac:=[]) W P hg (Wh.start F aD.app (Nat.le_refl _)) U U (by simp only[i5];exact bE [_] [(.v 0,.l 20000)] 0 [1] (.a (.v 0) (.l 1)) (.a (.l 999999999) (.l 1)) U ht) (by show 0+_<=_;lia))
end
section
variable{L:Nat}{Z:List Int}{n:Nat}{hd:Bool}{h h' h0 h1:H}{T:aT}{G:cI}{f w mo vi p u i b p' u' j fl y:Nat}{t r x d e s nm:List Nat}{vs:List J}{v X l3:J}{c c' c0 c1:Nat}{W:Int}{m:Option Nat}
theorem mQ{q:Nat}(F:Fs h f w mo vi t vs p u)(M:cN h i d W m)(hk:q∈kinds)(hv:vs[u]?=Y v)(C:∀h1,aD [f] h h1->Wo h1 w mo->xe L Z (n+20) 393 [.obj w,v] w mo h1 nm):dm (aH (kh (au L Z) (bI L Z (n+20))) ⟨pS f i q l3 .unb,h,I⟩) f w mo h nm:=by have F1:=F.step (p':=p) (u':=u+1);have K1:aD [f] h (h.set f (.inst 494 (yW w vi t p (u+1)))):=aD.set (.head _);obtain⟨y,h2,e2,R,W2,K2⟩:=C _ K1 F1.wo;obtain⟨t1,t2⟩:=rN (L:=L) (Z:=Z) hk;refine⟨y,pS f i q l3 .unb,h2,?_,R,W2,aD.trans (FK.ofF K1) (FK.ofW K2)⟩;exact aG (aY (aK (aE aq ao U)) (aM t1 aZ)) (cZ (aY (aK (aE aq ao (t2 _))) (br U (cZ (eK (aR aq (jN M (uH U U (Iu (aJ U (aB (bG aq F.at' U) (aC (aR aq (jN F.at' (cD U U cy (aO (iE (n:=n+19) F hv))))))) (b4 U (dQ e2))))))))))))
theorem yM(F:Fs h f w mo vi t vs p u)(M:cN h i d W m)(hv:vs[u]?=Y v)(C:∀h1,Fs h1 f w mo vi t vs p (u+1)->jE L Z (n+20) 477 [.obj f,v] f w mo h1 nm):dm (aH (kh (au L Z) (bI L Z (n+20))) ⟨pS f i 99 l3 .unb,h,I⟩) f w mo h nm:=by have F1:=F.step (p':=p) (u':=u+1);obtain⟨y,h2,e2,R,W2,K2⟩:=C _ F1;refine⟨y,pS f i 99 l3 .unb,h2,?_,R,W2,aD.trans (FK.ofF (aD.set (.head _))) K2⟩;exact aG (aY (aK (aE aq ao U)) (aM U aZ)) (aG (aY (aK (aE aq ao U)) (aM U aZ)) (cZ (aY (aK (aE aq ao cU)) (br U (cZ (eK (aR aq (jN M (uH U U (Iu (aR aq (jN F.at' (cD U U (aC (aR aq (jN F.at' (cD U U cy (aO (iE (n:=n+19) F hv)))))) (dQ e2))))))))))))))
theorem PB(F:Fs h f w mo vi t vs p u):dm (aH (kh (au L Z) (bI L Z (n+20))) ⟨pS f i 121 l3 .unb,h,I⟩) f w mo h aU:=by obtain⟨y,h2,e2,R,W2,K2⟩:=jc (L:=L) (Z:=Z) (n:=n+10) (x:=[109,97,108,102,111,114,109,101,100,32,102,111,114,109,97,116,32,115,116,114,105,110,103,32,45,32,37,121]) F.wo d6;refine⟨y,pS f i 121 l3 .unb,h2,?_,R,W2,FK.ofW K2⟩;exact aG (aY (aK (aE aq ao U)) (aM U aZ)) (aG (aY (aK (aE aq ao U)) (aM U aZ)) (aG (aY (aK (aE aq ao cU)) (aM U aZ)) (cZ (aY (aK (aE aq ao U)) (br U (cZ (eK (aR (bG aq F.at' U) (o4 F.wo.ok U U (aB ao (aC (Db (jd ao (by decide) (jd aq (by decide) DB))))) (dQ e2))))))))))
theorem Kw(F:Fs h f w mo vi t vs p u)(hr:t.drop p=[]):dm (sV (au L Z) (bI L Z (n+20)) ⟨[.obj f,.unb,.unb,.unb,.unb,.unb],h,I⟩) f w mo h aU:=by have F1:Fs (h++[.inst 431 [(35,.str []),(36,.int 0),(37,.none)]]) f w mo vi t vs p u:=F.all λX=>aD.app;obtain⟨y,h2,e2,R,W2,K2⟩:=nq (L:=L) (Z:=Z) (n:=n+9) F1 hr;exact⟨y,[.obj f,.unb,.unb,.unb,.unb,.unb],h2,cZ (oA (UO (tQ (aJ U cy (nJ U U U (Df (n:=n+19)))) (Iu (aR aq (jN F1.at' (cD U U cy (dQ e2)))))))),R,W2,aD.trans aD.app K2⟩
theorem HA{acc:List Nat}(F:Fs h f w mo vi t vs p u)(M:cN h i acc 0 .none)(hr:t.drop p=c1::r)(hl:acc.length<=1000):Mz (λh'=>wX (au L Z) (bI L Z (n+20)) ⟨pS f i c0 .unb .unb,h,I⟩=.ok .nxt ⟨pS f i c1 .unb .unb,h',I⟩) (λh'=>cN h' i (acc++[c0]) 0 .none) (λh'=>Fs h' f w mo vi t vs (p+1) u) (λh'=>aD [i,f,w,mo] h h'):=by have hM:h[i]?=Y (.inst 431 [(35,.str acc),(36,.int 0),(37,.none)]):=M;have F1:Fs (h.set i (.inst 431 [(35,.str (acc++[c0])),(36,.int 0),(37,.none)])) f w mo vi t vs p u:=F.keep (aD.set (X:=[i]) (.head _)) (F.wo.set hM U) (hY (eZ F.at' hM U)) (hY (eZ F.li hM U));exact⟨_,aG (rT (aq U) (i9 hM U) (aq U) (xu (show acc.length+1<=16777216 by lia)) (kW hM U U)) (bO (bz (aR (aq U) (jN F1.at' (cD U U cy (aO (gf (n:=n+19) F1 hr))))) U)),iC (eZ F.at' hM U) (dP hM),F1.step,(aD.set (.head _)).trans (aD.set (.tail _ (.head _)))⟩
theorem RO{acc:List Nat}(F:Fs h f w mo vi t vs p u)(M:cN h i acc 0 .none)(hr:t.drop p=[])(hl:acc.length<=1000):UI (λy A h'=>wX (au L Z) (bI L Z (n+20)) ⟨pS f i c0 .unb .unb,h,I⟩=.exc y ⟨A,h',I⟩) (λy _ h'=>fA h' y aU) (λ_ _ h'=>Wo h' w mo) (λ_ _ h'=>LD i f w mo h h'):=by have hM:h[i]?=Y (.inst 431 [(35,.str acc),(36,.int 0),(37,.none)]):=M;have F1:Fs (h.set i (.inst 431 [(35,.str (acc++[c0])),(36,.int 0),(37,.none)])) f w mo vi t vs p u:=F.keep (aD.set (X:=[i]) (.head _)) (F.wo.set hM U) (hY (eZ F.at' hM U)) (hY (eZ F.li hM U));obtain⟨y,h2,e2,R,W2,K2⟩:=nq (L:=L) (Z:=Z) (n:=n+9) F1 hr;exact⟨y,_,h2,aG (rT (aq U) (i9 hM U) (aq U) (xu (show acc.length+1<=16777216 by lia)) (kW hM U U)) (bO (oA (aR (aq U) (jN F1.at' (cD U U cy (dQ e2)))))),R,W2,aD.trans (aD.set (.head _)) (FK.toI K2)⟩
theorem MZ(F:Fs h f w mo vi t vs p u)(hr:t.drop p=[45,48]):dm (sV (au L Z) (bI L Z (n+20)) ⟨[.obj f,.unb,.unb,.unb,.unb,.unb],h,I⟩) f w mo h aU:=by obtain⟨h1,e1,M1,F1,K1⟩:=NI (L:=L) (Z:=Z) (n:=n) F hr;have r1:=(bD hr).2;obtain⟨h2,e2,M2,F2,K2⟩:=HA (L:=L) (Z:=Z) (n:=n) (c0:=45) F1 M1 r1 (by decide);obtain⟨y,A,h3,e3,R,W3,K3⟩:=RO (L:=L) (Z:=Z) (n:=n) (c0:=48) F2 M2 (bD r1).2 (by decide);refine⟨y,A,h3,?_,R,W3,LD.old (K2.trans K3) (Nat.le_refl _) K1⟩;rw[e1];exact cZ (fL (nI (fl:=999999999) (aK (aE aq ao U)) U e2 (vV (fl:=999999998) (aK (aE aq ao U)) U e3)))
theorem EF(F:Fs h f w mo vi t vs p u)(hr:t.drop p=[]):jE L Z (n+12) 470 [.obj f,.str [53]] f w mo h aU:=by have F1:Fs (h++[.tup [.int 0,.str [53]]]) f w mo vi t vs p u:=F.all λX=>aD.app;obtain⟨y,h2,e2,R,W2,K2⟩:=Lx (L:=L) (Z:=Z) (n:=n) (l1:=.str [53]) (k:=0) (c:=53) F1 hr U (by decide);refine⟨y,h2,?_,R,W2,aD.trans aD.app K2⟩;apply fY sr (L0:=[.obj f,.str [53],.unb,.unb,.unb]) rfl;rw[oE rfl];exact cZ (fL (vV (fl:=999999999) (iJ U) U e2))
theorem ux(F:Fs h f w mo vi t vs p u)(hr:t.drop p=48::48::48::49::r):jE L Z (n+12) 470 [.obj f,.str [50]] f w mo h aU:=by have F1:Fs (h++[.tup [.int 0,.str [50]]]) f w mo vi t vs p u:=F.all λX=>aD.app;have r1:=(bD hr).2;have r2:=(bD r1).2;have r3:=(bD r2).2;have e1:=nP (L:=L) (Z:=Z) (n:=n+10) (l1:=.str [50]) (k:=0) (c:=50) F1 hr U (by decide);have F2:=F1.step (p':=p+1) (u':=u);have e2:=nP (L:=L) (Z:=Z) (n:=n+10) (l1:=.str [50]) (k:=2) (c:=48) F2 r1 U (by decide);have F3:=F2.step (p':=p+1+1) (u':=u);have e3:=nP (L:=L) (Z:=Z) (n:=n+10) (l1:=.str [50]) (k:=20) (c:=48) F3 r2 U (by decide);have F4:=F3.step (p':=p+1+1+1) (u':=u);have e4:=nP (L:=L) (Z:=Z) (n:=n+10) (l1:=.str [50]) (k:=200) (c:=48) F4 r3 U (by decide);have F5:=F4.step (p':=p+1+1+1+1) (u':=u);obtain⟨y,h2,e5,R,W2,K2⟩:=Ma (L:=L) (Z:=Z) (n:=n) (l1:=.str [50]) (k:=2000) (c:=49) F5 U (by decide);refine⟨y,h2,?_,R,W2,aD.trans ((((aD.app.trans (FK.ofF (aD.set (.head _)))).trans (FK.ofF (aD.set (.head _)))).trans (FK.ofF (aD.set (.head _)))).trans (FK.ofF (aD.set (.head _)))) K2⟩;apply fY sr (L0:=[.obj f,.str [50],.unb,.unb,.unb]) rfl;rw[oE rfl];exact cZ (fL (nI (fl:=999999999) (iJ U) U e1 (nI (fl:=999999998) (iJ U) U e2 (nI (fl:=999999997) (iJ U) U e3 (nI (fl:=999999996) (iJ U) U e4 (vV (fl:=999999995) (iJ U) U e5))))))
end
section
variable{L:Nat}{Z:List Int}{n:Nat}{hd:Bool}{h h' h0 h1:H}{T:aT}{G:cI}{f w mo vi p u i b p' u' j fl y:Nat}{t r x d e s nm:List Nat}{vs:List J}{v X l3:J}{c c' c0 c1:Nat}{W:Int}{m:Option Nat}
inductive nG(h:H):List Nat->List J->List Nat->Prop where
 |y:nG h [37,121] [.int 1] aU
 |cut:nG h [37] [.int 1] aU
 |five:nG h [97,37,53] [.int 1] aU
 |flags:nG h [37,45,48] [] aU
 |dnil:nG h [37,100] [.none] dZ
 |dtext (x:Nat) (A:d7 h x [120,49]):nG h [37,100] [.obj x] aU
 |xtrue:nG h [37,120] [.bool S] dZ
 |dsym:nG h [37,100] [.str [115]] dZ
 |cneg:nG h [37,99] [.int (-1)] aU
 |sbig:nG h [37,42,100] [.int 30000,.int 1] aU
 |cnil:nG h [37,99] [.none] dZ
 |wbig:nG h [37,50,48,48,48,49,100] [.int 1] aU
 |snil:nG h [37,42,100] [.none,.int 1] dZ
 |mbig:nG h [37,46,50,48,48,48,49,100] [.int 1] aU
theorem nG.keep{ae:List Nat}(ag:nG h t vs nm)(O:sZ b h ae)(K:aD ae h h'):nG h' t vs nm:=by induction ag with
 |dtext x A=>exact .dtext x (A.keep K O)
 |y=>exact .y
 |cut=>exact .cut
 |five=>exact .five
 |flags=>exact .flags
 |dnil=>exact .dnil
 |xtrue=>exact .xtrue
 |dsym=>exact .dsym
 |cneg=>exact .cneg
 |sbig=>exact .sbig
 |cnil=>exact .cnil
 |wbig=>exact .wbig
 |snil=>exact .snil
 |mbig=>exact .mbig
theorem nG.two(ag:nG h t vs nm):vs.length<=2/\t.length<=100:=by induction ag<;>exact⟨Nat.le_of_ble_eq_true U,Nat.le_of_ble_eq_true U⟩
theorem i8{y:List Nat}(W:Wo h w mo)(hl:h[vi]?=Y (.list vs))(ht:(37::y).length<=20000)(hv:vs.length<=20000)(C:∀f h2,Fs h2 f w mo vi (37::y) vs 1 0->aD [w,mo] h h2->dm (sV (au L Z) (bI L Z (n+20)) ⟨[.obj f,.unb,.unb,.unb,.unb,.unb],h2,I⟩) f w mo h2 nm):CK L Z (n+24) w vi (37::y) mo h nm:=
 BR (tV W hl ht hv λF=>by obtain⟨z,ag,h2,e2,R,W2,K2⟩:=wU (L:=L) (Z:=Z) (n:=n) (X:=.unb) (ac:=[]) (Wh.start F aD.app (Nat.le_refl _)) (r:=y) U λh1 A1=>nH (C _ _ A1.fs A1.kp);exact⟨z,ag,h2,vV (fl:=999999999) (mD (Wh.start F aD.app (Nat.le_refl _)).fs) (kN (l:=37::y) (j:=0) U) e2,R,W2,K2⟩)
theorem Ay(F:Fs h f w mo vi t vs p u)(hr:t.drop p=c::r)(hc:na c)(hc2:Nat.beq c 46=I)(C:∀i l3 h3 p1 u1,Fs h3 f w mo vi t vs p1 u1->cN h3 i [] 0 .none->FK f w mo h h3->vs.drop u1=vs.drop u->dm (aH (kh (au L Z) (bI L Z (n+20))) ⟨pS f i c l3 .unb,h3,I⟩) f w mo h3 nm):dm (sV (au L Z) (bI L Z (n+20)) ⟨[.obj f,.unb,.unb,.unb,.unb,.unb],h,I⟩) f w mo h nm:=by obtain⟨p1,u1,⟨l3,h1,s1,M1,F1,K1⟩,hp1,hu1⟩:=x5 (L:=L) (Z:=Z) (n:=n) (fs:=[]) (wt:=[]) (mt:=[]) (f1:=[]) (f2:=[]) (bX:=vs.drop u) F hr U (by decide) .no .no hc hc2 rfl;rw[s1];exact dm.old K1 (C _ _ _ _ _ F1 M1 K1 hu1)
theorem xM(F:Fs h f w mo vi t vs p u)(hr:t.drop p=c::r)(hc:jm c=I)(C:∀h1 p1,Fs h1 f w mo vi t vs p1 u->t.drop p1=r->jE L Z (n+20) 470 [.obj f,.str [c]] f w mo h1 nm):dm (sV (au L Z) (bI L Z (n+20)) ⟨[.obj f,.unb,.unb,.unb,.unb,.unb],h,I⟩) f w mo h nm:=by obtain⟨p2,⟨h2,s2,M2,F2,K2⟩,hr2⟩:=xR (L:=L) (Z:=Z) (n:=n) (fs:=[]) F hr U (by decide) hc;rw[s2];exact dm.old K2 (x9 F2 (C _ _ F2 hr2))
theorem EE(ag:nG h t vs nm)(W:Wo h w mo)(hl:h[vi]?=Y (.list vs)):CK L Z (n+24) w vi t mo h nm:=by have e100:na 100:=⟨U,U,U⟩;have e99:na 99:=⟨U,U,U⟩;induction ag with
 |y=>exact i8 W hl (by decide) (Nat.le_of_ble_eq_true U) λf h2 F K=>Ay F U ⟨U,U,U⟩ U λi l3 h3 p1 u1 F3 M3 K3 hu=>PB F3
 |cut=>exact i8 W hl (by decide) (Nat.le_of_ble_eq_true U) λf h2 F K=>Kw F rfl
 |five=>refine BR (tV W hl (by decide) (Nat.le_of_ble_eq_true U) λF=>?_);have A:=Wh.start F aD.app (Nat.le_refl _);obtain⟨p',u',h1,e1,A1,hr1,hu1⟩:=Fj (L:=L) (Z:=Z) (n:=n) (X:=.unb) A (r:=[37,53]) (c:=97) U U (by decide);obtain⟨z,ag,h2,e2,R,W2,K2⟩:=wU (L:=L) (Z:=Z) (n:=n) (X:=.str [97]) A1 hr1 λh1 A2=>nH (xM A2.fs (bD hr1).2 U λh3 p3 F3 hr3=>EF (n:=n+8) F3 hr3);exact⟨z,ag,h2,nI (fl:=999999999) (mD A.fs) (kN (l:=[97,37,53]) (j:=0) U) e1 (vV (fl:=999999998) (mD A1.fs) (kN hr1) e2),R,W2,K2⟩
 |flags=>exact i8 W hl (by decide) (Nat.le_of_ble_eq_true U) λf h2 F K=>MZ F rfl
 |dnil=>exact i8 W hl (by decide) (Nat.le_of_ble_eq_true U) λf h2 F K=>Ay F U e100 U λi l3 h3 p1 u1 F3 M3 K3 hu=>mQ F3 M3 (.head _) (bD hu).1 λh4 K4 W4=>A5 (n:=n+9) W4 U (mf (n:=n+18) U U) U (DU (n:=n+14)) (by decide)
 |dtext x A=>exact i8 W hl (by decide) (Nat.le_of_ble_eq_true U) λf h2 F K=>Ay F U e100 U λi l3 h3 p1 u1 F3 M3 K3 hu=>mQ F3 M3 (.head _) (bD hu).1 λh4 K4 W4=>Ab (n:=n+9) W4 (((A.keep K (W.off (b:=0))).keep K3 (F.off (b:=0))).keep K4 (F3.off (b:=0)).ofF) U U (by decide) rfl
 |xtrue=>exact i8 W hl (by decide) (Nat.le_of_ble_eq_true U) λf h2 F K=>Ay F U ⟨U,U,U⟩ U λi l3 h3 p1 u1 F3 M3 K3 hu=>mQ F3 M3 (by decide) (bD hu).1 λh4 K4 W4=>A5 (n:=n+9) W4 U (zZ (n:=n+18)) U (Af (n:=n+14) U (λ_=>rfl) (wn (n:=n+16) (d:=6) U) U) (by decide)
 |dsym=>exact i8 W hl (by decide) (Nat.le_of_ble_eq_true U) λf h2 F K=>Ay F U e100 U λi l3 h3 p1 u1 F3 M3 K3 hu=>mQ F3 M3 (.head _) (bD hu).1 λh4 K4 W4=>A5 (n:=n+9) W4 U (mf (n:=n+18) U U) U (Af (n:=n+14) U (λ_=>rfl) (z6 (n:=n+14) (d:=6) Mr (by decide) U) U) (by decide)
 |cneg=>exact i8 W hl (by decide) (Nat.le_of_ble_eq_true U) λf h2 F K=>Ay F U e99 U λi l3 h3 p1 u1 F3 M3 K3 hu=>yM F3 M3 (bD hu).1 λh4 F4=>JT (n:=n+9) F4 (by decide)
 |cnil=>exact i8 W hl (by decide) (Nat.le_of_ble_eq_true U) λf h2 F K=>Ay F U e99 U λi l3 h3 p1 u1 F3 M3 K3 hu=>yM F3 M3 (bD hu).1 λh4 F4=>IU (n:=n+8) F4
 |sbig=>exact i8 W hl (by decide) (Nat.le_of_ble_eq_true U) λf h2 F K=>xM F (c:=42) (r:=[100]) U U λh3 p3 F3 hr3=>tL (n:=n+8) F3 U (by decide)
 |snil=>exact i8 W hl (by decide) (Nat.le_of_ble_eq_true U) λf h2 F K=>xM F (c:=42) (r:=[100]) U U λh3 p3 F3 hr3=>ui (n:=n+8) F3 rfl
 |wbig=>exact i8 W hl (by decide) (Nat.le_of_ble_eq_true U) λf h2 F K=>xM F (c:=50) (r:=[48,48,48,49,100]) U U λh3 p3 F3 hr3=>ux (n:=n+8) F3 hr3
 |mbig=>refine i8 W hl (by decide) (Nat.le_of_ble_eq_true U) λf h2 F K=>?_;obtain⟨p1,u1,⟨l3,h1,s1,M1,F1,K1⟩,hp1,hu1⟩:=AZ (L:=L) (Z:=Z) (n:=n) (fs:=[]) (wt:=[]) (f1:=[]) (c:=46) (r:=[50,48,48,48,49,100]) (bX:=[.int 1]) F U U (by decide) .no na.dot rfl;rw[s1];exact dm.old K1 (C8 F1 hp1 λh3 F3=>ux (n:=n+8) F3 (bD hp1).2)
end
section
variable{b:Nat}{L:Nat}{Z:List Int}{n:Nat}{hd:Bool}{h h' h0 h1:H}{T:aT}{G:cI}{f w mo vi p u i p' u' j fl y N k:Nat}{t r x d s nm:List Nat}{vs A ys:List J}{v X l3:J}{e:M J}{es:List (M J)}
inductive iB(h:H)(v:J):Prop where
 |mk (i vi:Nat) (t:List Nat) (vs:List J) (nm:List Nat) (e:v=.obj i) (a:h[i]?=Y (.tup [.str t,.obj vi,.str nm])) (b:h[vi]?=Y (.list vs)) (ag:nG h t vs nm):iB h v
theorem iB.keep(g:iB h v)(W:Wo h w mo)(K:aD [w,mo] h h'):iB h' v:=let⟨i,vi,t,vs,nm,e,a,b,ag⟩:=g;⟨i,vi,t,vs,nm,e,K.get a (W.nin a U),K.get b (W.nin b U),ag.keep (W.off (b:=0)) K⟩
abbrev KP(P:H->J->Prop)(w mo:Nat):Prop:=∀h h' v,P h v->Wo h w mo->aD [w,mo] h h'->P h' v
theorem iB.kp:KP iB w mo:=λ_ _ _ g W K=>g.keep W K
def rM(h:H)(b:Nat):Prop:=∃vs:List J,h[b]?=Y (.list vs)/\vs.length=4
theorem rM.keep(F:rM h b)(W:Wo h w mo)(K:aD [w,mo] h h'):rM h' b:=let⟨vs,a,l⟩:=F;⟨vs,K.get a (W.nin a U),l⟩
theorem rM.ne(F:rM h b)(a:h[j]?=Y (.list vs))(hl:vs.length≠4):j≠b:=λq=>by subst q;obtain⟨us,a2,l⟩:=F;have:=a.symm.trans a2;cases this;exact hl l
abbrev D2(P:H->J->Prop)(e:M J)(b w mo:Nat):Prop:=∀(A:List J)(h:H),A[1]?=Y (.obj w)->Wo h w mo->rM h b->Ai (λv h'=>e ⟨A,h,I⟩=.ok v ⟨A,h',I⟩) (λv h'=>P h' v) (λ_ h'=>Wo h' w mo) (λ_ h'=>aD [w,mo] h h')
abbrev IS(P:H->J->Prop)(es:List (M J))(b w mo k:Nat):Prop:=∀(A:List J)(h:H),A[1]?=Y (.obj w)->Wo h w mo->rM h b->Ai (λvs h'=>df es ⟨A,h,I⟩=.ok vs ⟨A,h',I⟩) (λvs h'=>(∀v∈vs,P h' v)/\vs.length=k) (λ_ h'=>Wo h' w mo) (λ_ h'=>aD [w,mo] h h')
theorem lU{P:H->J->Prop}:IS P [] b w mo 0:=λ_ h _ W _=>⟨[],h,cy,⟨λ_ m=>(List.not_mem_nil m).elim,U⟩,W,aD.refl⟩
theorem cK{P:H->J->Prop}(kp:KP P w mo)(a:D2 P e b w mo)(c:IS P es b w mo k):IS P (e::es) b w mo (k+1):=λA h hA W F=>by
 obtain⟨v,h1,e1,g1,W1,K1⟩:=a A h hA W F;obtain⟨vs,h2,e2,⟨g2,l2⟩,W2,K2⟩:=c A h1 hA W1 (F.keep W K1);refine⟨v::vs,h2,aB e1 e2,⟨λx m=>?_,by simp only[List.length_cons,l2]⟩,W2,K1.trans K2⟩;rcases List.mem_cons.mp m with e0|m
 ·exact e0▸kp _ _ _ g1 W1 K2
 ·exact g2 x m
theorem gc(hv:∀s,df es s=.ok vs s)(ag:∀h,nG h t vs nm)(hl:Nat.ble vs.length 1000=S):D2 iB (mTup [D (.str t),dk es,D (.str nm)]) b w mo:=λA h hA W _=>⟨.obj (h++[AO.list vs]).length,(h++[AO.list vs])++[.tup [.str t,.obj h.length,.str nm]],gm (aB ao (aB (gj (hv _) hl) (aC ao))) U,⟨_,h.length,t,vs,nm,U,ba,bH ba,ag _⟩,W.app.app,aD.app.trans aD.app⟩
theorem Fz:D2 iB (mTup [D (.str [37,100]),dk [bk (au L Z) (bI L Z (n+24)) (B 1) 7 (am "text") [D (.str [120,49])]],D (.str aU)]) b w mo:=λA h hA W _=>by obtain⟨i,h1,e1,T1,W1,K1,_⟩:=oF (L:=L) (Z:=Z) (n:=n+17) (x:=[120,49]) W;refine⟨.obj (h1++[AO.list [.obj i]]).length,(h1++[AO.list [.obj i]])++[.tup [.str [37,100],.obj h1.length,.str aU]],gm (aB ao (aB (gj (aC (aR (bM hA U) (o4 W.ok U U (aC ao) (aO e1)))) U) (aC ao))) U,⟨_,h1.length,_,_,_,U,ba,bH ba,.dtext i ?_⟩,W1.app.app,(K1.trans aD.app).trans aD.app⟩;obtain⟨fs,a,b⟩:=T1;exact⟨fs,bH (bH a),b⟩
theorem Gb:∀s,df [] s=.ok [] s:=λ_=>rfl
theorem iG:∀s,df [D v] s=.ok [v] s:=λ_=>rfl
theorem yQ:∀s,df [D v,D X] s=.ok [v,X] s:=λ_=>rfl
theorem IY{q:Int}:∀s,df [rp (D (.int q))] s=.ok [.int (-q)] s:=λ_=>rfl
noncomputable abbrev Xg(b w:Nat)(l2:J):List J:=[.obj b,.obj w,l2,.unb,.unb,.unb,.unb]
structure Yx(P:H->J->Prop)(h:H)(w mo j k:Nat):Prop where
 wo:Wo h w mo
 ex:∃vs,h[j]?=Y (.list vs)/\vs.length=k/\∀v∈vs,P h v
theorem vX{P:H->J->Prop}{l:Nat}(kp:KP P w mo)(hA:A[1]?=Y (.obj w))(hl:Nat.blt l A.length=S)(W:Wo h w mo)(F:rM h b)(R:IS P es b w mo k)(hk:k<=100):IX (λj h'=>sAsg (bd l) (dk es) ⟨A,h,I⟩=.ok .nxt ⟨A.set l (.obj j),h',I⟩) (λj h'=>Yx P h' w mo j k) (λ_ h'=>aD [w,mo] h h'):=by obtain⟨vs,h1,e1,⟨g1,l1⟩,W1,K1⟩:=R A h hA W F;exact⟨h1.length,_,bz (gj e1 (Nat.ble_eq_true_of_le (by lia))) (bv hl),⟨W1.app,vs,ba,l1,λv m=>kp _ _ _ (g1 v m) W1 aD.app⟩,K1.trans aD.app⟩
theorem qE{P:H->J->Prop}{j k' l:Nat}(kp:KP P w mo)(hA:A[1]?=Y (.obj w))(hl:Nat.blt l A.length=S)(hj:A[l]?=Y (.obj j))(R0:Yx P h w mo j k)(F:rM h b)(R:IS P es b w mo k')(hk:k<=100)(hk':k'<=100):IX (λj' h'=>sAsg (bd l) (bp .Add (B l) (dk es)) ⟨A,h,I⟩=.ok .nxt ⟨A.set l (.obj j'),h',I⟩) (λj' h'=>Yx P h' w mo j' (k+k')) (λ_ h'=>aD [w,mo] h h'):=by
 obtain⟨W,xs,a,l0,g0⟩:=R0;obtain⟨vs,h1,e1,⟨g1,l1⟩,W1,K1⟩:=R A h hA W F;have a1:(h1++[AO.list vs])[j]?=Y (.list xs):=bH (K1.get a (W.nin a U));refine⟨_,_,bz (bj (bM hj U) (gj e1 (Nat.ble_eq_true_of_le (by lia))) (uX a1 ba (by exact bE [_,_,_,_] [(.v 0,.l 100),(.v 1,.l 100),(.v 2,.v 0),(.v 3,.v 1)] 0 [1,1,1,1] (.a (.v 2) (.v 3)) (.l 16777216) U hk hk' (Hk l0) (Hk l1)))) (bv hl),⟨W1.app.app,xs++vs,ba,by simp only[List.length_append,l0,l1],λv m=>?_⟩,(K1.trans aD.app).trans aD.app⟩;rcases List.mem_append.mp m with m|m
 ·exact kp _ _ _ (kp _ _ _ (g0 v m) W K1) W1 (aD.app.trans aD.app)
 ·exact kp _ _ _ (g1 v m) W1 (aD.app.trans aD.app)
theorem im.keep(ag:im h b N)(W:Wo h w mo)(K:aD [w,mo] h h'):im h' b N:=by obtain⟨g,s,c,sm,a,r1,r2,r3,r4⟩:=ag;exact⟨g,s,c,sm,K.get a (W.nin a U),r1,r2,r3,r4⟩
theorem im.four(ag:im h b N):rM h b:=let⟨_,_,_,_,a,_,_,_,_⟩:=ag;⟨_,a,U⟩
theorem im.off(ag:im h b N):sZ b h [b]:=by obtain⟨g,s,c,sm,a,r1,r2,r3,r4⟩:=ag;exact⟨λi C fs e q m=>(by rw[List.mem_singleton.mp m]at e;have:=e.symm.trans a;cases this),λi xs e q m=>q (List.mem_singleton.mp m)⟩
theorem im.wo(ag:im h b N)(W:Wo h w mo)(K:aD [b] h h'):Wo h' w mo:=by obtain⟨g,s,c,sm,a,r1,r2,r3,r4⟩:=ag;exact W.keep K λi o e hk m=>by rw[List.mem_singleton.mp m]at e;have:=e.symm.trans a;obtain rfl:=sI this;cases hk
theorem im.lt(ag:im h b N):b<h.length:=by obtain⟨g,s,c,sm,a,r1,r2,r3,r4⟩:=ag;exact qF a
theorem im.ne4(ag:im h b N)(a:h[j]?=Y (.list vs))(hl:vs.length≠4):j≠b:=λq=>by subst q;obtain⟨g,s,c,sm,a2,r1,r2,r3,r4⟩:=ag;have:=a.symm.trans a2;cases this;exact hl rfl
theorem iB.box(g:iB h v)(ag:im h b N)(K:aD [b] h h'):iB h' v:=by have O:=ag.off;obtain⟨i,vi,t,vs,nm,e,a,c,ak⟩:=g;have l2:=ak.two.1;have nb:=ag.ne4 c (by exact Nat.ne_of_lt (bE [_] [(.v 0,.l 2)] 0 [1] (.a (.v 0) (.l 1)) (.l 4) U l2));obtain⟨g,s,k,sm,a2,r1,r2,r3,r4⟩:=ag;exact⟨i,vi,t,vs,nm,e,K.get a (hY (eZ a a2 U)),K.get c (O.li _ _ c nb),ak.keep O K⟩
theorem aD.tob(K:aD [w,mo] h h'):aD [b,w,mo] h h':=K.mono λ_ _ m=>.tail _ m
theorem aD.bb(K:aD [b] h h'):aD [b,w,mo] h h':=K.mono λ_ _ m=>by rw[List.mem_singleton.mp m];exact .head _
theorem H8{i j:Nat}{x:List Nat}{A0:List J}{B0:Bool}(h1:h[i]?=Y (.list [.str x]))(h2:h[j]?=Y (.list [.str x])):p8 T .Eq (.obj i) (.obj j) ⟨A0,h,B0⟩=.ok (.bool S) ⟨A0,h,B0⟩:=by
 have q:∀x:List Nat,eqL x x=S:=λx=>by induction x with
  |nil=>rfl
  |cons a r ih=>show(Nat.beq a a&&eqL r r)=S;rw[ih,Nat.beq_refl];rfl
 refine az (lM h1 (lM h2 (dR (a:=S) ?_ U))) rfl;show(Y (eqL x x)).bind (λt=>(Y S).map λu=>t&&u)=Y S;rw[q];rfl
theorem AM(W:Wo h w mo)(ag:im h b N)(hN:N<100000):Mz (λh'=>bI L Z (n+25) I 897 [.obj b,.obj w] [] h=.ok (.bool S) h') (λh'=>Wo h' w mo) (λh'=>im h' b (N+1)) (λh'=>aD [b,w,mo] h h'):=by
 obtain⟨j1,h1,e1,R1,K1⟩:=vX (A:=Xg b w .unb) (l:=2) iB.kp U U W ag.four (cK iB.kp (gc iG (λ_=>nG.y) U) (cK iB.kp (gc iG (λ_=>nG.cut) U) (cK iB.kp (gc iG (λ_=>nG.five) U) (cK iB.kp (gc Gb (λ_=>nG.flags) U) lU)))) (by decide);have F1:=ag.four.keep W K1;obtain⟨j2,h2,e2,R2,K2⟩:=qE (A:=Xg b w (.obj j1)) (l:=2) iB.kp U U U R1 F1 (cK iB.kp (gc iG (λ_=>nG.dnil) U) (cK iB.kp (Fz (L:=L) (Z:=Z) (n:=n)) (cK iB.kp (gc iG (λ_=>nG.xtrue) U) (cK iB.kp (gc iG (λ_=>nG.dsym) U) lU)))) (by decide) (by decide);have F2:=F1.keep R1.wo K2;obtain⟨j3,h3,e3,R3,K3⟩:=qE (A:=Xg b w (.obj j2)) (l:=2) iB.kp U U U R2 F2 (cK iB.kp (gc IY (λ_=>nG.cneg) U) (cK iB.kp (gc yQ (λ_=>nG.sbig) U) lU)) (by decide) (by decide);have F3:=F2.keep R2.wo K3;obtain⟨j4,h4,e4,⟨W4,vs,a4,l4,g4⟩,K4⟩:=qE (A:=Xg b w (.obj j3)) (l:=2) iB.kp U U U R3 F3 (cK iB.kp (gc iG (λ_=>nG.cnil) U) (cK iB.kp (gc iG (λ_=>nG.wbig) U) (cK iB.kp (gc yQ (λ_=>nG.snil) U) (cK iB.kp (gc iG (λ_=>nG.mbig) U) lU)))) (by decide) (by decide);have K04:=((K1.trans K2).trans K3).trans K4;have B4:=ag.keep W K04;obtain⟨d,h5,e5,d0,d1,B5,K5⟩:=CJ (L:=L) (Z:=Z) (n:=n+23) (m:=14) B4 hN (by decide) (by decide);have W5:=B4.wo W4 K5;have hd1:d.toNat<vs.length:=by rw[l4];show d.toNat<14;exact XO (m:=14) (Nat.succ_pos 13) d1
 have ev:vs[d.toNat]?=Y vs[d.toNat]:=List.getElem?_eq_getElem hd1;have ed:((d.toNat:Nat):Int)=d:=eT d0;have jb:j4≠b:=B4.ne4 a4 (by rw[l4];decide);have a5:h5[j4]?=Y (.list vs):=K5.get a4 (hY jb);have ix:FU vs d=Y vs[d.toNat]:=by
  have:=mF ev (by exact leT (XO (m:=14) (Nat.succ_pos 13) d1) U)
  rwa[ed]at this
 obtain⟨i,vi,t,xs,nm,ei,ai,al,ak⟩:=(g4 _ (List.getElem_mem hd1)).box B4 K5;obtain⟨r,h6,e6,r6,W6,K6⟩:=EE (L:=L) (Z:=Z) (n:=n) ak W5 al;refine⟨h6++[.list [.str nm]],?_,W6.app,(B5.keep W5 K6).keep W6 aD.app,(((K04.tob).trans K5.bb).trans K6.tob).trans aD.app⟩;apply bC UV (L0:=[.obj b,.obj w,.unb,.unb,.unb,.unb,.unb]) rfl;exact aG e1 (aG e2 (aG e3 (aG e4 (aG (bz (gJ aq (aJ U (aB aq (aC ao)) (b4 U (aO e5))) a5 (ix.trans (congrArg Y ei))) (qo U ai U (bZ (bv U) (bZ (bv U) (dj (bv U))))))
  (bF (bK (aE (aJ U (aB aq (aB aq (aC aq))) (b4 U (aO e6))) (gj (aC aq) U) (H8 (bH r6) ba))))))))
end
section
variable{L:Nat}{Z:List Int}{n:Nat}{h h' h0 h1:H}{w mo nt pr y gl ou i:Nat}{k:Int}{rdy:Bool}{fs fs':List (Nat×J)}{es:List (List Nat×J)}
theorem Vg.put(W:Vg h w mo nt pr fs es):Vg (h.set w (.inst 827 fs')) w mo nt pr fs' es:=
 ⟨dP W.at',iC (eZ W.at' W.nat U) W.nat,iC (eZ W.at' W.pre U) W.pre,iC (eZ W.at' W.made U) W.made,W.n1,W.n2,W.nd,W.known,λp hp=>by obtain⟨i,e,fs,h1,h2,h3,h4,h5⟩:=W.mods p hp;exact⟨i,e,fs,iC (eZ W.at' h1 U) h1,h2,h3,h4,h5⟩⟩
theorem zp{A:List J}{xs:List J}(hA:A[0]?=Y (.obj w))(hA5:5<A.length)(W:tg h w mo S)(hl:h[i]?=Y (.list xs))(hx:∀x∈xs,∃nm:List Nat,x=.str nm/\nm.length<=1000):∀(r:List J)(k fl:Nat)(a:J),xs.drop k=r->r.length<fl->
  ∃A',dU (iV (bd 5) (Gz (au L Z) (bI L Z (n+1)))) fl (.live i k) ⟨A.set 5 a,h,I⟩=.ok .nxt ⟨A',h,I⟩
 |_,_,0,_,_,h=>absurd h (Nat.not_lt_zero _)
 |[],k,fl+1,a,e,_=>⟨_,az (az (Dl hl (List.getElem?_eq_none (List.drop_eq_nil_iff.mp e))) U) U⟩
 |x::r,k,fl+1,a,e,hf=>by
  have ex:=(bD e).1;obtain⟨nm,rfl,hn⟩:=hx x (List.mem_of_getElem? ex);obtain⟨A',e2⟩:=zp hA hA5 W hl hx r (k+1) fl (.str nm) (bD e).2 (by rw[List.length_cons]at hf;exact bE [_,_] [(.a (.a (.v 0) (.l 1)) (.l 1),.a (.v 1) (.l 1))] 0 [1] (.a (.v 0) (.l 1)) (.v 1) U hf);have e3:=sq (L:=L) (Z:=Z) (n:=n) (hd:=I) W hn;have s0:(A.set 5 (.str nm))[0]?=Y (.obj w):=by rw[List.getElem?_set_ne (by decide)];exact hA
  have s5:(A.set 5 (.str nm))[5]?=Y (.str nm):=List.getElem?_set_self hA5;refine⟨A',az (a:=Y (It.live i (k+1),Fl.nxt)) (az (E4 hl ex) (az (bv (A0:=A.set 5 a) (Nat.ble_eq_true_of_le (by rw[List.length_set];exact hA5))) (az (s1:=⟨A.set 5 (.str nm),h,I⟩) (a:=Fl.nxt) ?_ U))) e2⟩;rw[List.set_set];exact bO (nY (aR (bM s0 U) (o4 W U U (aC (bM s5 U)) (aO e3))))
theorem zY:∀{nm:List Nat},(fG nm iA).isSome=S->nm.length<=1000:=λ{nm} e=>by
 obtain⟨v,hv⟩:=bL.mp e;have key:(iA.all λp=>Nat.ble p.1.length 1000)=S:=by kernel_rfl
 exact Nat.le_of_ble_eq_true (List.all_eq_true.mp key _ (tf hv))
theorem Tx{A0:List J}{P P':H}{ag:Bool}{ms:List (M Fl)}{F:lJ St Fl}(e:P=P')(h1:aH ms ⟨A0,P',ag⟩=F):aH ms ⟨A0,P,ag⟩=F:=by subst e;exact h1
theorem HX(hn:h[nt]?=Y (.dict [])):J4 (λp=>bI L Z (n+11) I 587 [.obj h.length,.obj nt] [] (h++[.inst 827 []])=.ok .none p.2) (λp=>Wo p.2 h.length p.1) (λ(p:Nat×H)=>aD [] h p.2):=by
 have W0:tg (h++[.inst 827 (yG nt (h.length+1) (h.length+2) (h.length+3) (h.length+4) (h.length+5) 0 I []),.dict [],.dict [],.dict [],.dict [],.list []]) h.length (h.length+3) I:=
  ⟨nt,h.length+1,h.length+2,h.length+4,h.length+5,0,[],[],.inl U,sD,bH hn,rb (k:=1) U,rb (k:=3) U,by have:=qF hn;exact Nat.ne_of_lt (bE [_,_] [(.a (.v 0) (.l 1),.v 1)] 0 [1] (.a (.v 0) (.l 1)) (.a (.v 1) (.l 3)) U this),by exact Nat.ne_of_lt (bE [_] [] 0 [] (.a (.a (.v 0) (.l 1)) (.l 1)) (.a (.v 0) (.l 3)) U),List.nodup_nil,λp m=>(List.not_mem_nil m).elim,λp m=>(List.not_mem_nil m).elim⟩
 obtain⟨k,h2,e2,W2,K2⟩:=rH (L:=L) (Z:=Z) (n:=n+9) (hd:=I) W0;have d2:h2[h.length+3]?=Y (.dict []):=K2.get (rb (k:=3) U) (hY (by exact Nat.ne_of_gt (bE [_] [] 0 [] (.a (.v 0) (.l 1)) (.a (.v 0) (.l 3)) U)));have c2:Cl h2 (h.length+3):=λ⟨es,v,a,b⟩=>by have:=a.symm.trans d2;cases this;cases b
 obtain⟨o,h3,e3,P3,hpar,hown⟩:=sA (L:=L) (Z:=Z) (n:=n) (N:=6) (nm:=ja) (ic:=S) (par:=(Y f8)) (mix:=(Y Du)) (ah:=[]) (λ_=>rfl) (by kernel_rfl) (by kernel_rfl) (⟨565,by kernel_rfl,by kernel_rfl⟩) (by decide) (λ_ e=>by exact(sI e)▸ye) ((Hx.more (by decide)).up (by decide)) (λ_ e=>by exact(sI e)▸(MH.more (by decide)).up (by decide)) W2 (λk m=>(List.not_mem_nil m).elim) (λes e=>by have:=e.symm.trans d2;cases this;rfl);have hbase:∀k∈base,oL h3 (h.length+3) k:=λk m=>by
  rcases List.mem_cons.mp m with e0|m
  ·exact e0▸P3.new
  rcases List.mem_cons.mp m with e0|m
  ·exact e0▸hpar _ (.head _)
  rcases List.mem_cons.mp m with e0|m
  ·exact e0▸hown
  ·rw[List.mem_singleton.mp m];exact P3.cl c2 hown
 have e4:=FG (L:=L) (Z:=Z) (n:=n+9) (hd:=I) (h:=h3) (C:=40) (a:=.int k) (b:=.obj o) U U U U U U U rfl;obtain⟨nt3,pr3,y3,gl3,ou3,k3,rest3,es3,hr3,W4⟩:=id (P3.ok.app (t:=[.inst 40 [(1,.int k),(2,.obj o),(3,.obj (h3.length+1)),(4,.none),(5,.bool I),(6,.none)],.dict []]));have W5:=W4.put (fs':=yG nt3 pr3 y3 (h.length+3) gl3 ou3 k3 I [(65,.obj h3.length)]);have W6:=W5.put (fs':=yG nt3 pr3 y3 (h.length+3) gl3 ou3 k3 S [(65,.obj h3.length)]);have V6:tg _ h.length (h.length+3) S:=⟨nt3,pr3,y3,gl3,ou3,k3,_,es3,.inr ⟨_,U⟩,W6⟩;have p5:lP 65 (.obj h3.length) (yG nt3 pr3 y3 (h.length+3) gl3 ou3 k3 I rest3)=yG nt3 pr3 y3 (h.length+3) gl3 ou3 k3 I [(65,.obj h3.length)]:=by rcases hr3 with rfl|⟨v,rfl⟩<;>rfl
 have p6:lP 64 (.bool S) (yG nt3 pr3 y3 (h.length+3) gl3 ou3 k3 I [(65,.obj h3.length)])=yG nt3 pr3 y3 (h.length+3) gl3 ou3 k3 S [(65,.obj h3.length)]:=rfl;have KK:aD [h.length] h3 _:=((aD.app (t:=[.inst 40 [(1,.int k),(2,.obj o),(3,.obj (h3.length+1)),(4,.none),(5,.bool I),(6,.none)],.dict []])).trans (aD.set (o:=.inst 827 (yG nt3 pr3 y3 (h.length+3) gl3 ou3 k3 I [(65,.obj h3.length)])) (.head _))).trans (aD.set (o:=.inst 827 (yG nt3 pr3 y3 (h.length+3) gl3 ou3 k3 S [(65,.obj h3.length)])) (.head _));obtain⟨A',e7⟩:=zp (L:=L) (Z:=Z) (n:=n+9) (A:=[.obj h.length,.obj nt,.none,.none,.int 20000,.unb,.unb]) (xs:=es3.map λp=>.str p.1) U (by show 5<7;decide) V6.app ba (λx m=>by
  obtain⟨p,hp,rfl⟩:=List.mem_map.mp m;exact⟨p.1,U,zY (W6.known p hp)⟩) _ 0 ff .unb U (by
  have:=rB W6.nd W6.known;rw[List.drop_zero,List.length_map];exact Nat.lt_of_le_of_lt this (by rw[i5];decide))
 have V7:=V6.app (t:=[AO.list (es3.map λp=>.str p.1)]);have B7:=λk m=>((hbase k m).keep KK (hY (by exact Nat.ne_of_gt (bE [_] [] 0 [] (.a (.v 0) (.l 1)) (.a (.v 0) (.l 3)) U)))).keep (aD.app (X:=[]) (t:=[AO.list (es3.map λp=>.str p.1)])) List.not_mem_nil;refine⟨(h.length+3,_),?_,⟨V7,B7⟩,?_⟩
 ·apply kg UF (L0:=[.obj h.length,.obj nt,.none,.none,.int 20000,.unb,.unb]) rfl
  refine bQ aq U U U (bQ (dy (aK (aE aq ao U)) (br U ki)) U U U (bQ aq U U U (bQ aq U U U (bQ ao U U U (bQ ao U U U (bQ ao U U U (bQ ki U U U (bQ ki U U U (bQ ao U U U (bQ ao U U U (bQ ki U U U (bQ yh U U U (bQ ao U U U (Tx (P':=h++[.inst 827 (yG nt (h.length+1) (h.length+2) (h.length+3) (h.length+4) (h.length+5) 0 I []),.dict [],.dict [],.dict [],.dict [],.list []]) (by kernel_rfl) ?_))))))))))))));refine aG (bz (aJ U (aB (aR aq (o4 W0 U U cy (aO e2))) (aC (aR aq (o4 W2 U U (aC ao) (aO e3))))) (nJ U U U e4)) (ru aq W4.at' U (Iy hr3))) ?_;rw[p5];refine aG (bz ao (ru aq W5.at' U (Iy (.inr ⟨_,U⟩)))) ?_;rw[p6];exact bO (si U (tj (aJ U (aC (bG aq W6.at' U)) (DT (Ip W6.made (Nat.le_trans (rB W6.nd W6.known) (by decide)) U))) ba) e7)
 ·have Kall:aD [h.length,h.length+3] (h++[.inst 827 (yG nt (h.length+1) (h.length+2) (h.length+3) (h.length+4) (h.length+5) 0 I []),.dict [],.dict [],.dict [],.dict [],.list []]) _:=(((K2.mono λ_ _ m=>by rw[List.mem_singleton.mp m];exact .head _).trans P3.keep).trans (KK.mono λ_ _ m=>by rw[List.mem_singleton.mp m];exact .head _)).trans (aD.app (t:=[AO.list (es3.map λp=>.str p.1)]))
  have K0:=aD.trans (aD.app (h:=h)) Kall;exact K0.mono λi hi m=>by
   rcases List.mem_cons.mp m with rfl|m
   ·lia
   ·have:=List.mem_singleton.mp m;lia
end
section
variable{L:Nat}{Z:List Int}{n:Nat}{h h' h0 h1:H}{i:Nat}
noncomputable abbrev TK(L:Nat)(sd g:Int)(sm:Bool)(v:J):List J:=[.sref L,.int sd,.int g,.bool sm,v,.unb]
theorem GI{sd g c:Int}{sm:Bool}(h1:0<=g):∃sd' g' sm' h',A7 (au L Z) (bI L Z n) ⟨TK L sd g sm (.int c),h,I⟩=.ok .nxt ⟨TK L sd' g' sm' (.int c),h',I⟩/\aD [] h h'/\0<=sd'/\sd'<2147483629/\0<=g':=by
 have e1:sAsg (fg (au L Z) [(bd 1),(bd 3)]) (mTup [bp .Mod (bp .Add (bp .Add (bp .Mult (B 1) (D (.int 48271))) (bp .Mult (B 4) (D (.int 69621)))) (D (.int 41))) (D (.int 2147483629)),Az (B 3) (aW (au L Z) .Eq (B 4) (D (.int 0)))]) ⟨TK L sd g sm (.int c),h,I⟩=.ok .nxt ⟨TK L ((sd*48271+c*69621+41).fmod 2147483629) g (sm&&aI (c=0)) (.int c),h++[.tup [.int ((sd*48271+c*69621+41).fmod 2147483629),.bool (sm&&aI (c=0))]],I⟩:=
  fq (aB (bj (bj (bj (bj aq ao (qL (mA U))) (bj aq ao (qL (mA U))) U) ao U) ao (uL (by decide))) (aC (L8 aq (aE aq ao U)))) U U U (bZ (bv U) (dj (bv U)))
 have a1:=fy (sd*48271+c*69621+41) (show(0:Int)<2147483629 by decide);have a2:=gU (sd*48271+c*69621+41) (show(0:Int)<2147483629 by decide);have e2:∃p,∀ah:List J,ah[2]?=Y (.int g)->ah[4]?=Y (.int c)->∀P,(cQ (bJ (aW (au L Z) .Eq (B 2) (D (.int 0)))) (cQ (bJ (aW (au L Z) .GtE (aN (au L Z) (bI L Z n) (.bi "abs") [(B 4)] []) (bp .Pow (D (.int 10)) (D (.int 18))))) (M.ret S))) ⟨ah,P,I⟩=.ok p ⟨ah,P,I⟩:=
  ⟨_,λah s2 s4 P=>ez (aK (aE (bM s2 U) ao U)) (ez (aK (aE (aJ U (aC (bM s4 U)) (iq sj)) (bj ao ao (Dg U (by decide) (by decide))) U)) jk)⟩
 obtain⟨p,e2⟩:=e2;induction p with
 |true=>exact⟨_,_,_,_,aG e1 (bO (aY (e2 _ U U _) (br U (bO (bz (aJ U (aC aq) (iq sj)) (bv U)))))),aD.app,a1,a2,d8 _⟩
 |false=>exact⟨_,_,_,_,aG e1 (bO (aY (e2 _ U U _) (aM U aZ))),aD.app,a1,a2,h1⟩
theorem zH{xs:List J}(hx:∀x∈xs,∃c:Int,x=.int c):∀(r:List J)(k fl:Nat)(h:H)(sd g:Int)(sm:Bool)(v:J),xs.drop k=r->r.length<fl->h[i]?=Y (.list xs)->0<=g->0<=sd->sd<2147483629->
  ∃sd' g' sm' v' h',dU (iV (bd 4) (A7 (au L Z) (bI L Z n))) fl (.live i k) ⟨TK L sd g sm v,h,I⟩=.ok .nxt ⟨TK L sd' g' sm' v',h',I⟩/\aD [] h h'/\0<=sd'/\sd'<2147483629/\0<=g'
 |_,_,0,_,_,_,_,_,_,h,_,_,_,_=>absurd h (Nat.not_lt_zero _)
 |[],k,fl+1,h,sd,g,sm,v,e,_,hl,g0,s0,s1=>⟨sd,g,sm,v,h,az (az (Dl hl (List.getElem?_eq_none (List.drop_eq_nil_iff.mp e))) U) U,aD.refl,s0,s1,g0⟩
 |x::r,k,fl+1,h,sd,g,sm,v,e,hf,hl,g0,s0,s1=>by have ex:=(bD e).1;obtain⟨c,rfl⟩:=hx x (List.mem_of_getElem? ex);obtain⟨sd1,g1,sm1,h1,e1,K1,a1,a2,a3⟩:=GI (L:=L) (Z:=Z) (n:=n) (h:=h) (sd:=sd) (g:=g) (c:=c) (sm:=sm) g0;obtain⟨sd2,g2,sm2,v2,h2,e2,K2,b1,b2,b3⟩:=zH hx r (k+1) fl h1 sd1 g1 sm1 (.int c) (bD e).2 (by rw[List.length_cons]at hf;exact bE [_,_] [(.a (.a (.v 0) (.l 1)) (.l 1),.a (.v 1) (.l 1))] 0 [1] (.a (.v 0) (.l 1)) (.v 1) U hf) (K1.get hl List.not_mem_nil) a3 a1 a2;exact⟨sd2,g2,sm2,v2,h2,az (a:=Y (It.live i (k+1),Fl.nxt)) (az (E4 hl ex) (az (bv U) (az e1 U))) e2,K1.trans K2,b1,b2,b3⟩
theorem SH(hL:d5 L (au L Z).slist=Y (Z.map .int))(hs:Z.length<=1000):J4 (λp=>bI L Z (n+1) I 838 [.sref L] [] h=.ok (.obj p.1) p.2) (λp=>im p.2 p.1 0) (λ(p:Nat×H)=>aD [] h p.2/\h.length<=p.1):=by obtain⟨sd,g,sm,v,h',e,K,b1,b2,b3⟩:=zH (L:=L) (Z:=Z) (n:=n) (i:=(h++[AO.tup [.int 47,.int 0,.bool S]]).length) (xs:=(Z.map J.int).take 24) (λx m=>by obtain⟨c,_,rfl⟩:=List.mem_map.mp (List.mem_of_mem_take m);exact⟨c,U⟩) _ 0 ff ((h++[AO.tup [.int 47,.int 0,.bool S]])++[.list ((Z.map J.int).take 24)]) 47 0 S .unb U (by simp only[List.drop_zero,List.length_take,i5];exact Nat.lt_succ_of_le (leT (Nat.min_le_left _ _) U)) ba (by decide) (by decide) (by decide);refine⟨(h'.length,h'++[.list [.int g,.int sd,.int 0,.bool sm]]),?_,⟨g,sd,0,sm,ba,b3,b1,b2,Nat.le_refl _⟩,((aD.app.trans aD.app).trans K).trans aD.app,Nat.le_trans (by simp only[List.length_append,List.length_append];exact bE [_] [] 0 [] (.v 0) (.a (.a (.v 0) (.a (.l 0) (.l 1))) (.a (.l 0) (.l 1))) U) K.1⟩;apply bC WP (L0:=[.sref L,.unb,.unb,.unb,.unb,.unb]) rfl;exact aG (fq (aB ao (aB ao (aC ao))) U U U (bZ (bv U) (bZ (bv U) (dj (bv U))))) (aG (si U (tj (KX aq ao ao hL (gn (k:=24) (by simp only[List.length_map];exact leT hs U))) ba) e) (bF (bK (gj (aB aq (aB aq (aB ao (aC aq)))) U))))
end
section
variable{b a k:Nat}{g:Nat->Nat}{x y z p q r:List Nat}{s:Bool}{c:Nat}
def gu(c:Nat):Bool:=uV c||Nat.beq c 95
structure J5(g:Nat->Nat):Prop where
 f:∀d,d<36->cG (g d)=(d:Int)
 w:∀d,d<36->gu (g d)=S
 z:∀d,d<36->g d=48->d=0
def Ny(g:Nat->Nat)(d:Nat):Bool:=aI (cG (g d)=(d:Int))&&(gu (g d)&&(Nat.beq d 0||!Nat.beq (g d) 48))
theorem JL(h:((List.range 36).all (Ny g))=S):J5 g:=by
 have t:∀d,d<36->cG (g d)=(d:Int)/\gu (g d)=S/\(g d=48->d=0):=λd hd=>by have:=List.all_eq_true.mp h d (List.mem_range.mpr hd);unfold Ny at this;rw[ax,ax]at this;refine⟨of_decide_eq_true this.1,this.2.1,λe=>?_⟩;have h2:=this.2.2;rw[e]at h2;induction z:Nat.beq d 0 with
  |true=>exact Nat.eq_of_beq_eq_true z
  |false=>rw[z]at h2;exact nT h2
 exact⟨λd h=>(t d h).1,λd h=>(t d h).2.1,λd h=>(t d h).2.2⟩
theorem Ds:J5 jO:=JL (by kernel_rfl)
theorem QJ:J5 (λd=>DW (jO d)):=JL (by kernel_rfl)
theorem lZ(G:J5 g)(hb:b<=36):∀(ds:List Nat)(f:Nat)(j:Bool),(∀d∈ds,d<b)->ij (b:Int) s (ds.map g++r) (f:Int) j=ij (b:Int) s r ((ds.foldl (λa d=>a*b+d) f:Nat):Int) (j||!ds.isEmpty)
 |[],f,j,_=>by simp only[List.map_nil,List.nil_append,List.foldl_nil];simp
 |d::ds,f,j,h=>by
  have hd:=h d (.head _);have e:((f:Int)*(b:Int)+(d:Int))=((f*b+d:Nat):Int):=by push_cast;rfl
  simp only[List.map_cons,List.cons_append,List.foldl_cons];show(bif aI (0<=cG (g d))&&aI (cG (g d)<(b:Int))then ij (b:Int) s (ds.map g++r) ((f:Int)*(b:Int)+cG (g d)) S else _)=_;rw[G.f d (by exact bE [_,_] [(.v 0,.l 36),(.a (.v 1) (.l 1),.v 0)] 0 [1,1] (.a (.v 1) (.l 1)) (.l 36) U hb hd),decide_eq_true (by exact z0 _),decide_eq_true (by exact vA hd),e];show ij (b:Int) s (ds.map g++r) ((f*b+d:Nat):Int) S=_;simp only[lZ G hb ds _ S λx m=>h x (.tail _ m)];simp
theorem Kg{f:Int}:ij (b:Int) s (95::r) f S=ij (b:Int) s r f I:=rfl
structure gq(b a:Nat)(x:List Nat):Prop where
 sc:∀(s:Bool)(r:List Nat),ij (b:Int) s (x++r) 0 I=ij (b:Int) s r (a:Int) S
 hd:∃c r,x=c::r/\(c=48->r=[])
 ok:x.all gu=S
 ln:x.length<=60
theorem mP(hb:2<=b)(ha:a<1000000):(digs b (a+1) a).length<=20:=yZ (k:=19) hb (by
 have:2^20<=b^20:=Nat.pow_le_pow_left hb 20;show a<b^20;have:(2:Nat)^20=1048576:=by decide
 lia)
theorem uu(G:J5 g){ds:List Nat}(h:∀d∈ds,d<36):(ds.map g).all gu=S:=by rw[List.all_map];exact List.all_eq_true.mpr λd m=>G.w d (h d m)
theorem rz(G:J5 g)(hb:2<=b)(hb2:b<=36)(ha:a<1000000):gq b a ((digs b (a+1) a).map g):=by
 have lt:∀d∈digs b (a+1) a,d<b:=on hb;obtain⟨d,r,e,hz⟩:=oq hb (Nat.lt_succ_self a);refine⟨λs r'=>?_,?_,uu G λd m=>Nat.lt_of_lt_of_le (lt d m) hb2,by rw[List.length_map];exact Nat.le_trans (mP hb ha) (by decide)⟩
 ·have:=lZ (s:=s) (r:=r') G hb2 _ 0 I lt
  rw[show(digs b (a+1) a).foldl (λa d=>a*b+d) 0=a from qI hb (Nat.lt_succ_self a)]at this;rw[show(0:Int)=((0:Nat):Int)from U,this,e];rfl
 ·refine⟨g d,r.map g,by rw[e];rfl,λh=>?_⟩
  rw[(hz (G.z d (Nat.lt_of_lt_of_le (lt d (by rw[e];exact .head _)) hb2) h)).1];rfl
theorem KN(G:J5 g)(hb:2<=b)(hb2:b<=36)(ha:a<1000000)(h0:0<k)(hk:k<(digs b (a+1) a).length):gq b a (((digs b (a+1) a).take k).map g++95::((digs b (a+1) a).drop k).map g):=by
 have lt:∀d∈digs b (a+1) a,d<b:=on hb;have lt1:∀d∈(digs b (a+1) a).take k,d<b:=λd m=>lt d (List.mem_of_mem_take m);have lt2:∀d∈(digs b (a+1) a).drop k,d<b:=λd m=>lt d (List.mem_of_mem_drop m);have ls:=mP hb ha;obtain⟨d,r,e,hz⟩:=oq hb (Nat.lt_succ_self a);have n1:(digs b (a+1) a).take k≠[]:=λq=>by have:=congrArg List.length q;rw[List.length_take,List.length_nil]at this;exact absurd ((Nat.min_eq_left (Nat.le_of_lt hk)).symm.trans this) (Nat.ne_of_gt h0)
 have n2:(digs b (a+1) a).drop k≠[]:=λq=>by have:=congrArg List.length q;rw[List.length_drop,List.length_nil]at this;exact Nat.sub_ne_zero_of_lt hk this
 have i1:((digs b (a+1) a).take k).isEmpty=I:=by induction q:(digs b (a+1) a).take k with|nil=>exact absurd q n1|cons _ _=>rfl
 have i2:((digs b (a+1) a).drop k).isEmpty=I:=by induction q:(digs b (a+1) a).drop k with|nil=>exact absurd q n2|cons _ _=>rfl
 refine⟨λs r'=>?_,?_,?_,?_⟩
 ·simp only[List.append_assoc,List.cons_append,show(0:Int)=((0:Nat):Int)from U,lZ G hb2 _ 0 I lt1,i1]
  show ij (b:Int) s (95::_) _ S=_;rw[Kg,lZ G hb2 _ _ I lt2,i2,<-List.foldl_append,List.take_append_drop,show(digs b (a+1) a).foldl (λa d=>a*b+d) 0=a from qI hb (Nat.lt_succ_self a)];rfl
 ·obtain⟨k',rfl⟩:∃k',k=k'+1:=⟨k-1,by exact Xf h0⟩
  refine⟨g d,(r.take k').map g++95::((digs b (a+1) a).drop (k'+1)).map g,by simp only[e];rfl,λh=>?_⟩;have:=(hz (G.z d (Nat.lt_of_lt_of_le (lt d (by simp only[e];exact .head _)) hb2) h)).1;rw[e,this]at hk;exact absurd hk (by show¬k'+1<1;exact Nat.not_lt_of_le (Nat.le_add_left 1 _))
 ·simp only[List.all_append,List.all_cons,uu G λd m=>Nat.lt_of_lt_of_le (lt1 d m) hb2,uu G λd m=>Nat.lt_of_lt_of_le (lt2 d m) hb2];rfl
 ·simp only[List.length_append,List.length_cons,List.length_map,List.length_map,List.length_take,List.length_drop];exact leT (Zw hk ls) rfl
theorem mL{E:List Nat}:∀{p:List Nat},(∀c∈p,isBlank E c=S)->c::z=y->isBlank E c=I->ew E (p++y)=y
 |[],_,e,h=>by subst e;show(bif isBlank E c then _ else c::z)=_;simp only[h];rfl
 |d::p,hp,e,h=>by show(bif isBlank E d then ew E (p++y)else _)=_;simp only[hp d (.head _),cond_true];exact mL (λc m=>hp c (.tail _ m)) e h
theorem EU{E:List Nat}{c':Nat}{r':List Nat}(hp:∀c∈p,isBlank E c=S)(hq:∀c∈q,isBlank E c=S)(e:z=c::r)(hc:isBlank E c=I)(e':z.reverse=c'::r')(hc':isBlank E c'=I):mH E (p++(z++q))=z:=by unfold mH;simp only[mL (y:=z++q) (z:=r++q) (c:=c) hp (by rw[e];rfl) hc,List.reverse_append,mL (y:=z.reverse) (z:=r') (c:=c') (λc m=>hq c (List.mem_reverse.mp m)) e'.symm hc',List.reverse_reverse]
end
section
variable{b a k:Nat}{g:Nat->Nat}{x y z p q r u w sg fr:List Nat}{s:Bool}{c d:Nat}{base sz f:Int}
theorem nN{k:Nat}{P:Nat->Bool}(hc:P c=S)(hk:P k=I):Nat.beq c k=I:=by induction e:Nat.beq c k with
 |false=>rfl
 |true=>rw[Nat.eq_of_beq_eq_true e,hk]at hc;exact nT hc
theorem Dy{k:Nat}{P:Nat->Bool}(hc:P c=S)(hk:P k=I):Nat.beq k c=I:=by induction e:Nat.beq k c with
 |false=>rfl
 |true=>rw[<-Nat.eq_of_beq_eq_true e,hk]at hc;exact nT hc
theorem jY(hc:gu c=S):isBlank jD c=I:=by show(Nat.beq c 32||(Nat.beq c 9||(Nat.beq c 10||(Nat.beq c 11||(Nat.beq c 12||(Nat.beq c 13||(Nat.beq c 0||false)))))))=I;simp only[nN hc (k:=32) U,nN hc (k:=9) U,nN hc (k:=10) U,nN hc (k:=11) U,nN hc (k:=12) U,nN hc (k:=13) U,nN hc (k:=0) rfl];rfl
theorem iZ(h:x.all gu=S):bV x=S:=List.all_eq_true.mpr λc m=>by have:=List.all_eq_true.mp h c m;unfold gu uV gQ at this;induction e:Nat.blt c 128 with
 |true=>rfl
 |false=>
  have hc:128<=c:=by
   have:¬c<128:=λq=>by replace e:=(show Nat.blt c 128=S from Nat.ble_eq_true_of_le q)▸e;exact nF e
   exact(Xi this)
  replace this:=(show Nat.beq c 95=I by induction t:Nat.beq c 95 with|false=>rfl|true=>exact absurd (Nat.eq_of_beq_eq_true t) (by exact Nat.ne_of_gt (bE [_] [(.l 128,.v 0)] 3 [3] (.l 96) (.v 0) U hc)))▸(show Nat.ble c 122=I by induction t:Nat.ble c 122 with|false=>rfl|true=>exact absurd (Nat.le_of_ble_eq_true t) (by lia))▸(show Nat.ble c 90=I by induction t:Nat.ble c 90 with|false=>rfl|true=>exact absurd (Nat.le_of_ble_eq_true t) (by lia))▸(show Nat.ble c 57=I by induction t:Nat.ble c 57 with|false=>rfl|true=>exact absurd (Nat.le_of_ble_eq_true t) (by lia))▸this;simp at this
abbrev gN(sg:List Nat):Prop:=sg=[]\/sg=[45]\/sg=[43]
theorem rF(hu:gu c=S)(hs:gN sg):fh (sg++c::r)=c::r/\eqL ((sg++c::r).take 1) [45]=eqL sg [45]:=by
 rcases hs with rfl|rfl|rfl
 ·constructor
  ·show(bif(bif(Nat.beq 43 c&&S)then S else bif(Nat.beq 45 c&&S)then S else I)then _ else c::r)=_
   rw[Dy hu (k:=43) U,Dy hu (k:=45) rfl];rfl
  ·show(Nat.beq c 45&&S)=I
   rw[nN hu (k:=45) rfl];rfl
 ·exact⟨U,U⟩
 ·exact⟨U,U⟩
theorem WN(h:mK c=48):c=48:=by unfold mK at h;induction e:Nat.ble 65 c&&Nat.ble c 90 with
 |false=>rw[e]at h;exact h
 |true=>rw[e,cond_true]at h;rw[ax]at e;have:=Nat.le_of_ble_eq_true e.1;lia
def NP(r:List Nat):Prop:=∀d r',r=d::r'->cG d≠33/\cG d≠11/\cG d≠24
theorem gR{own:Int}(hk:k=120\/k=98\/k=111)(h:c=48->NP r):di base [48,k] own (sz,c::r)=(sz,c::r):=by
 have e:eqL ((((c::r):List Nat).take 2).map mK) [48,k]=I:=by induction r using List.casesOn with
  |nil=>show(Nat.beq (mK c) 48&&I)=I;exact ku _
  |cons d r=>show(Nat.beq (mK c) 48&&(Nat.beq (mK d) k&&S))=I;induction e1:Nat.beq (mK c) 48 with
   |false=>rfl
   |true=>have n:=h (WN (Nat.eq_of_beq_eq_true e1)) d r rfl;induction e2:Nat.beq (mK d) k with
    |false=>rfl
    |true=>
     have e3:cG d=iw k AD 0:=by unfold cG;exact(Nat.eq_of_beq_eq_true e2)▸rfl
     rcases hk with rfl|rfl|rfl
     ·exact absurd e3 n.1
     ·exact absurd e3 n.2.1
     ·exact absurd e3 n.2.2
 show(bif eqL ((((c::r):List Nat).take 2).map mK) [48,k]&&_ then _ else(sz,c::r))=_;rw[e];rfl
inductive dJ:Nat->List Nat->Prop where
 |no (b:Nat):dJ b []
 |x:dJ 16 [48,120]
 |b:dJ 2 [48,98]
 |o:dJ 8 [48,111]
theorem pO(F:dJ b fr)(hc:gu c=S):∃c' r',fr++c::r=c'::r'/\gu c'=S:=by induction F with
 |no=>exact⟨c,r,U,hc⟩
 |x=>exact⟨48,_,U,U⟩
 |b=>exact⟨48,_,U,U⟩
 |o=>exact⟨48,_,U,U⟩
theorem CX(hw:gu c=S)(F:dJ b fr)(hs:gN sg):o6 base (sg++(fr++c::r))=di base [48,111] 8 (di base [48,98] 2 (di base [48,120] 16 (base,fr++c::r))):=by obtain⟨c',r',e,hc'⟩:=pO (r:=r) F hw;unfold o6;rw[e,(rF hc' hs).1]
theorem KR(hw:gu c=S)(hn:c=48->NP r)(F:dJ b fr)(hs:gN sg):o6 (b:Int) (sg++(fr++c::r))=((b:Int),c::r):=by rw[CX hw F hs];induction F with
 |no=>rw[List.nil_append,gR (.inl U) hn,gR (.inr (.inl U)) hn,gR (.inr (.inr U)) hn]
 |x=>show di _ [48,111] 8 (di _ [48,98] 2 (16,c::r))=_;rw[gR (.inr (.inl U)) hn,gR (.inr (.inr U)) hn];rfl
 |b=>show di _ [48,111] 8 (2,c::r)=_;rw[gR (.inr (.inr U)) hn];rfl
 |o=>rfl
theorem GV(hw:gu c=S)(hn:c=48->NP r)(F:dJ b fr)(hs:gN sg)(hf:fr≠[]):o6 0 (sg++(fr++c::r))=((b:Int),c::r):=by rw[CX hw F hs];induction F with
 |no=>exact absurd U hf
 |x=>show di _ [48,111] 8 (di _ [48,98] 2 (16,c::r))=_;rw[gR (.inr (.inl U)) hn,gR (.inr (.inr U)) hn];rfl
 |b=>show di _ [48,111] 8 (2,c::r)=_;rw[gR (.inr (.inr U)) hn];rfl
 |o=>rfl
abbrev dl(q:List Nat):Prop:=q=[]\/q=[32]\/q=[9]\/q=[10]
theorem JZ(hq:dl q):NP q:=λd r' e=>by rcases hq with rfl|rfl|rfl|rfl<;>cases e<;>exact⟨by decide,by decide,by decide⟩
theorem pM(hq:dl q):∀c∈q,isBlank jD c=S:=by
 rcases hq with rfl|rfl|rfl|rfl<;>intro c m
 ·exact(List.not_mem_nil m).elim
 all_goals(rw[List.mem_singleton.mp m];rfl)
theorem G6{v:Int}(hq:dl q)(hs:s=S->q=[]):ij sz s q v S=Y (v,S):=by induction s with
 |true=>refine(hs U)▸?_;rfl
 |false=>rcases hq with rfl|rfl|rfl|rfl<;>rfl
theorem Ck(h:b≠0){x:List Nat}:jl ((b:Int),x)=(b:Int):=by unfold jl;rw[decide_eq_false (by exact SN (b:=0) h)];rfl
def kG(sg:List Nat)(a:Nat):Int:=bif eqL sg [45]then-(a:Int)else(a:Int)
theorem uR(hp:dl p)(hq:dl q){z:List Nat}{c c':Nat}{r r':List Nat}(e:z=c::r)(hc:isBlank jD c=I)(e':z.reverse=c'::r')(hc':isBlank jD c'=I):lN s (p++(z++q))=z++(bif s then[]else q):=by induction s with
 |true=>show mH jD _=z++[];rw[EU (pM hp) (pM hq) e hc e' hc',List.append_nil]
 |false=>exact mL (pM hp) (by rw[e];rfl) hc
theorem gq.last(R:gq b a x){y:List Nat}:∃c' r',(y++x).reverse=c'::r'/\gu c'=S:=by obtain⟨c,r,e,_⟩:=R.hd;induction h:x.reverse with
 |nil=>rw[List.reverse_eq_nil_iff]at h;replace e:=h▸e;cases e
 |cons c' r'=>exact⟨c',r'++y.reverse,by refine List.reverse_append▸h▸?_;rfl,List.all_eq_true.mp R.ok c' (List.mem_reverse.mp (by refine h▸?_;exact .head _))⟩
theorem gq.first(R:gq b a x):∃c r,x=c::r/\(c=48->r=[])/\gu c=S:=by obtain⟨c,r,e,h⟩:=R.hd;exact⟨c,r,e,h,List.all_eq_true.mp R.ok c (by refine e▸?_;exact .head _)⟩
theorem D6(hs:gN sg){c:Nat}{r:List Nat}(hc:gu c=S):∃c' r',sg++c::r=c'::r'/\isBlank jD c'=I:=by
 rcases hs with rfl|rfl|rfl
 ·exact⟨c,r,U,jY hc⟩
 ·exact⟨45,_,U,U⟩
 ·exact⟨43,_,U,U⟩
theorem xb(R:gq b a x)(F:dJ b fr)(hs:gN sg)(hp:dl p)(hq:dl q)(hQ:∀r,dl r->(s=S->r=[])->jl (o6 base (sg++(fr++(x++r))))=(b:Int)/\(o6 base (sg++(fr++(x++r)))).2=x++r):fN (p++((sg++(fr++x))++q)) base s=.int (kG sg a):=by
 obtain⟨c,r,e,h0,hw⟩:=R.first;obtain⟨c1,r1,e1,hw1⟩:=pO (r:=r) F hw;obtain⟨c2,r2,e2,n2⟩:=D6 (r:=r1) hs hw1;obtain⟨c3,r3,e3,hw3⟩:=R.last (y:=sg++fr);unfold fN;rw[uR (s:=s) hp hq (z:=sg++(fr++x)) (c:=c2) (r:=r2) (c':=c3) (r':=r3) (by rw[e,e1,e2]) n2 (by rw[<-List.append_assoc];exact e3) (jY hw3),List.append_assoc,List.append_assoc];have hb:dl (bif s then[]else q):=by induction s;exact hq;exact .inl rfl
 have hb2:s=S->(bif s then[]else q)=[]:=λh=>by refine h▸?_;rfl
 generalize (bif s then[]else q)=q' at hb hb2
 rw[(hQ q' hb hb2).1,(hQ q' hb hb2).2,R.sc,G6 hb hb2];obtain⟨c4,r4,e4,hw4⟩:=pO (b:=b) (fr:=fr) (r:=r++q') F hw;refine e▸List.cons_append▸e4▸((rF hw4 hs).2)▸?_;unfold y8 kG;induction s<;>cases eqL sg [45]<;>rfl
theorem NP.of(R:gq b a x)(hq:dl q):∃c r,x++q=c::r/\gu c=S/\(c=48->NP r):=by obtain⟨c,r,e,h0,hw⟩:=R.first;exact⟨c,r++q,by refine e▸?_;rfl,hw,λh=>by refine(h0 h)▸?_;exact JZ hq⟩
theorem Hl(R:gq b a x)(F:dJ b fr)(hs:gN sg)(hp:dl p)(hq:dl q)(hb:b≠0):fN (p++((sg++(fr++x))++q)) (b:Int) s=.int (kG sg a):=xb R F hs hp hq λr hr _=>by obtain⟨c,r',e,hw,hn⟩:=NP.of R hr;exact e▸(KR hw hn F hs)▸⟨Ck hb,U⟩
theorem wC(R:gq b a x)(F:dJ b fr)(hs:gN sg)(hp:dl p)(hq:dl q)(hb:b≠0)(hf:fr≠[]):fN (p++((sg++(fr++x))++q)) 0 s=.int (kG sg a):=xb R F hs hp hq λr hr _=>by obtain⟨c,r',e,hw,hn⟩:=NP.of R hr;exact e▸(GV hw hn F hs hf)▸⟨Ck hb,U⟩
theorem yV(R:gq 10 a x)(hs:gN sg)(hp:dl p):fN (p++((sg++([]++x))++[])) 0 S=.int (kG sg a):=by
 obtain⟨c,r,e,h0,hw⟩:=R.first;exact xb (base:=0) (s:=S) (fr:=[]) (q:=[]) R (.no 10) hs hp (.inl U) λq hq h1=>by
  rw[h1 U,List.append_nil,e];have hn:c=48->NP r:=λh d r' e'=>by replace e':=(h0 h)▸e';cases e'
  have e1:o6 0 (sg++([]++(c::r)))=(0,c::r):=by rw[CX hw (.no 10) hs,List.nil_append,gR (.inl U) hn,gR (.inr (.inl U)) hn,gR (.inr (.inr U)) hn]
  refine e1▸?_;refine⟨?_,U⟩;show(bif(Nat.beq c 48&&S)&&aI (((c::r).length:Int)>1)then(8:Int)else 10)=10;induction t:Nat.beq c 48 with
  |false=>rfl
  |true=>refine(h0 (Nat.eq_of_beq_eq_true t))▸?_;rfl
theorem yY(G:J5 g)(g0:g 0=48)(ha:a<1000000):fN (48::(digs 8 (a+1) a).map g) 0 S=.int (a:Int):=by
 have R:=rz (a:=a) G (by decide) (by decide:8<=36) ha;have lt:∀d∈digs 8 (a+1) a,d<8:=on (by decide);obtain⟨c3,r3,e3,hw3⟩:=R.last (y:=[48]);obtain⟨d,ds,ed,_⟩:=oq (b:=8) (by decide) (Nat.lt_succ_self a);have hn:NP ((digs 8 (a+1) a).map g):=λc r' e=>by rw[ed]at e;cases e;have:=lt d (by exact ed▸.head _);exact(G.f d (by exact leT this U))▸⟨by exact SN (b:=33) (Nat.ne_of_lt (leT this U)),by exact SN (b:=11) (Nat.ne_of_lt (leT this U)),by exact SN (b:=24) (Nat.ne_of_lt (leT this U))⟩
 unfold fN;have e1:=uR (s:=S) (p:=[]) (q:=[]) (.inl U) (.inl U) (z:=48::(digs 8 (a+1) a).map g) (c:=48) U U e3 (jY hw3);rw[List.nil_append,List.append_nil,cond_true,List.append_nil]at e1;rw[e1];have e2:=CX (sg:=[]) (b:=8) (fr:=[]) (base:=0) (r:=(digs 8 (a+1) a).map g) (show gu 48=S from U) (.no 8) (.inl U);rw[List.nil_append,List.nil_append,gR (.inl U) λ_=>hn,gR (.inr (.inl U)) λ_=>hn,gR (.inr (.inr U)) λ_=>hn]at e2;rw[e2];have e4:jl (0,48::(digs 8 (a+1) a).map g)=((8:Nat):Int):=by rw[ed];show(bif aI (((48::g d::ds.map g).length:Int)>1)then(8:Int)else 10)=8;rw[decide_eq_true (by rw[List.length_cons,List.length_cons];exact vA (a:=1) (Nat.le_add_left 2 _))];rfl
 rw[e4];have e5:=lZ (s:=S) (r:=[]) G (by decide:8<=36) (0::digs 8 (a+1) a) 0 I (λd m=>by
  rcases List.mem_cons.mp m with rfl|m
  ·decide
  ·exact lt d m)
 rw[List.map_cons,g0,List.append_nil,List.foldl_cons,show(digs 8 (a+1) a).foldl (λa d=>a*8+d) (0*8+0)=a from qI (by decide) (Nat.lt_succ_self a)]at e5;rw[show ij ((8:Nat):Int) S ((0:Int),48::(digs 8 (a+1) a).map g).2 0 I=_ from e5];rfl
end
section
noncomputable def fronts:List (List Nat×Nat):=[([],10),([48,120],16),([48,98],2),([48,111],8)]
def jM(k:Int)(front:List Nat)(base:Nat):List Nat:=((bif aI (k<0)then[32,45]else[])++front)++cY base k.natAbs
theorem FX{p:List Nat×Nat}(hp:p∈fronts):dJ p.2 p.1/\(p.1=[]->p.2=10)/\2<=p.2/\p.2<=36:=by
 rcases List.mem_cons.mp hp with e0|hp
 ·exact e0▸⟨.no 10,λ_=>rfl,by decide,by decide⟩
 rcases List.mem_cons.mp hp with e0|hp
 ·exact e0▸⟨.x,(λh=>by cases h),by decide,by decide⟩
 rcases List.mem_cons.mp hp with e0|hp
 ·exact e0▸⟨.b,(λh=>by cases h),by decide,by decide⟩
 ·exact(List.mem_singleton.mp hp)▸⟨.o,(λh=>by cases h),by decide,by decide⟩
theorem Go{k:Int}{fr:List Nat}{b:Nat}(hp:(fr,b)∈fronts)(hk:k.natAbs<1000000):fN (jM k fr b) 0 S=.int k/\bV (jM k fr b)=S/\(jM k fr b).length<=1000:=by
 obtain⟨F,f0,b1,b2⟩:dJ b fr/\(fr=[]->b=10)/\2<=b/\b<=36:=FX hp;have R:gq b k.natAbs (cY b k.natAbs):=rz Ds b1 b2 hk;have fo:bV fr=S/\fr.length<=2:=by induction F<;>exact⟨U,Nat.le_of_ble_eq_true U⟩
 have go:∀(q sg:List Nat),dl q->gN sg->fN (q++((sg++(fr++cY b k.natAbs))++[])) 0 S=.int (kG sg k.natAbs):=λq sg hq hs=>by
  by_cases z:fr=[]
  ·have e:=f0 z
   subst z e;exact yV R hs hq
  ·exact wC R F hs hq (.inl U) (by exact Nat.ne_of_gt (Nat.lt_of_lt_of_le Nat.two_pos b1)) z
 refine⟨?_,?_,?_⟩
 ·unfold jM
  induction z:aI (k<0)with
  |true=>have:=go [32] [45] (.inr (.inl U)) (.inr (.inl U));rw[List.append_nil]at this;simp only[show((bif S then[32,45]else[])++fr)++cY b k.natAbs=[32]++([45]++(fr++cY b k.natAbs)) by simp only[cond_true,List.append_assoc];rfl,this,show kG [45] k.natAbs=-(k.natAbs:Int)from rfl];exact congrArg J.int (by have:=of_decide_eq_true z;exact ZG (of_decide_eq_true z))
  |false=>have:=go [] [] (.inl U) (.inl U);rw[List.append_nil,List.nil_append,List.nil_append]at this;simp only[cond_false,List.nil_append,this,show kG [] k.natAbs=(k.natAbs:Int)from rfl];exact congrArg J.int (by have:=of_decide_eq_false z;exact ZA this)
 ·refine List.all_eq_true.mpr λc m=>?_
  have ra:=List.all_eq_true.mp (iZ R.ok);rcases List.mem_append.mp m with m|m
  ·rcases List.mem_append.mp m with m|m
   ·induction z:aI (k<0)with
    |true=>replace m:=z▸m;exact List.all_eq_true.mp (show bV [32,45]=S from U) c m
    |false=>replace m:=z▸m;cases m
   ·exact List.all_eq_true.mp fo.1 c m
  ·exact ra c m
 ·have lr:(cY b k.natAbs).length<=60:=R.ln
  have:(bif aI (k<0)then[32,45]else([]:List Nat)).length<=2:=by cases aI (k<0)<;>decide
  unfold jM;simp only[List.length_append,List.length_append];lia
end
section
variable{L:Nat}{Z:List Int}{n:Nat}{h h' h0 h1:H}{w mo b N q:Nat}{v l3 l4:J}{k:Int}
theorem OQ{d:Int}(h0:0<=d)(h1:d<601){p:List Nat×Nat}(hp:p∈fronts):fN (jM (d-300) p.1 p.2) 0 S=.int (d-300)/\bV (jM (d-300) p.1 p.2)=S/\(jM (d-300) p.1 p.2).length<=1000:=Go hp (by exact leT (Nat.succ_le_succ (Zy h0 h1)) U)
inductive NX(L:Nat)(Z:List Int)(k b w mo N:Nat)(m:Nat)(h:H):Prop where
 |mk (d:Nat) (hd:d<m) (h':H) (e:bI L Z k I 845 [.obj b,.int (m:Int)] [] h=.ok (.int (d:Int)) h') (W:Wo h' w mo) (ag:im h' b (N+1)) (K:aD [b,w,mo] h h'):NX L Z k b w mo N m h
theorem mw{m:Nat}(W:Wo h w mo)(ag:im h b N)(hN:N<100000)(hm:0<m)(hm2:m<1073741824):NX L Z (n+1) b w mo N m h:=by obtain⟨d,h',e,d0,d1,B1,K1⟩:=CJ (L:=L) (Z:=Z) (n:=n) (hd:=I) (m:=(m:Int)) ag hN (by exact vA (a:=0) hm) (by exact vA (b:=1073741824) hm2);exact⟨d.toNat,by exact XO hm d1,h',by rw[eT d0];exact e,ag.wo W K1,B1,K1.bb⟩
theorem im.up{N':Nat}(ag:im h b N)(hN:N<=N'):im h b N':=let⟨g,s,c,sm,a,r1,r2,r3,r4⟩:=ag;⟨g,s,c,sm,a,r1,r2,r3,Nat.le_trans r4 hN⟩
theorem im.app{t:H}(ag:im h b N):im (h++t) b N:=let⟨g,s,c,sm,a,r1,r2,r3,r4⟩:=ag;⟨g,s,c,sm,bH a,r1,r2,r3,r4⟩
inductive F8(L:Nat)(Z:List Int)(k b w mo N:Nat)(e:M J)(os A:List J)(h h1:H):Prop where
 |mk (d:Nat) (v:J) (hd:os[d]?=Y v) (h':H) (e':e ⟨A,h,I⟩=.ok v ⟨A,h',I⟩) (W:Wo h' w mo) (ag:im h' b (N+1)) (K:aD [b,w,mo] h1 h'):F8 L Z k b w mo N e os A h h1
theorem yx{es:List (M J)}{os A:List J}{m:Nat}(e:df es ⟨A,h,I⟩=.ok os ⟨A,h1,I⟩)(W:Wo h1 w mo)(ag:im h1 b N)(hN:N<99999)(hA:A[0]?=Y (.obj b))(hl:os.length=m)(hm:0<m)(hm2:m<=1000):
  F8 L Z (n+1) b w mo N (eB (au L Z) (dk es) (aN (au L Z) (bI L Z (n+1)) (.sref 845) [B 0,D (.int (m:Int))] [])) os A h h1:=by
 obtain⟨d,hd,h',e2,W2,B2,K2⟩:=mw (L:=L) (Z:=Z) (n:=n) (m:=m) (W.app (t:=[.list os])) (ag.app (t:=[.list os])) (by exact leT hN U) hm (by exact bE [_] [(.v 0,.l 1000)] 0 [1] (.a (.v 0) (.l 1)) (.l 1073741824) U hm2);have ev:os[d]?=Y os[d]:=List.getElem?_eq_getElem (by exact bE [_,_,_] [(.v 1,.v 0),(.a (.v 2) (.l 1),.v 1)] 0 [1,1] (.a (.v 2) (.l 1)) (.v 0) U (JJ hl) hd);have lb:=ag.lt;have lw:=W.lt;have a2:h'[h1.length]?=Y (.list os):=K2.get ba (Ek (by exact Nat.ne_of_gt (lb)) (by exact Nat.ne_of_gt (lw.1)) (by exact Nat.ne_of_gt (lw.2)));exact⟨d,_,ev,h',gJ (gj e (Nat.ble_eq_true_of_le (by lia))) (aJ U (aB (bM hA U) (aC ao)) (b4 U (aO e2))) a2 (mF ev (by exact bE [_,_] [(.v 0,.l 1000),(.a (.v 1) (.l 1),.v 0)] 0 [1,1] (.a (.v 1) (.l 1)) (.l 4611686018427387904) U hm2 hd)),W2,B2,aD.app.trans K2⟩
inductive Xe(es:List (M J))(rows:List (List J))(A:List J)(h:H):Prop where
 |mk (os:List J) (h':H) (e:df es ⟨A,h,I⟩=.ok os ⟨A,h',I⟩) (K:∀X,aD X h h') (l:os.length=rows.length) (g:∀(d:Nat)(v:J),os[d]?=Y v->vO (λp:Nat×List J=>v=.obj p.1/\rows[d]?=Y p.2) (λp:Nat×List J=>h'[p.1]?=Y (.tup p.2)/\h.length<=p.1)):Xe es rows A h
theorem Mi{A:List J}:Xe [] [] A h:=⟨[],h,cy,λ_=>aD.refl,U,λd v e=>by exact nS e⟩
theorem qG{A vs:List J}{es fs:List (M J)}{rows:List (List J)}(e:∀s,df fs s=.ok vs s)(hl:Nat.ble vs.length 1000=S)(T:Xe es rows A (h++[.tup vs])):Xe (mTup fs::es) (vs::rows) A h:=by obtain⟨os,h',e2,K,l,g⟩:=T;refine⟨.obj h.length::os,h',aB (gm (e _) hl) e2,λX=>aD.app.trans (K X),by simp only[List.length_cons,List.length_cons,l],λd v ev=>?_⟩;induction d with
 |zero=>obtain rfl:=sI ev;exact⟨(h.length,vs),⟨U,U⟩,(K []).get ba List.not_mem_nil,Nat.le_refl _⟩
 |succ d=>obtain⟨p,e3,e4,e5⟩:=g d v ev;exact⟨p,e3,e4,Nat.le_trans (by simp only[List.length_append];exact bE [_] [] 0 [] (.v 0) (.a (.v 0) (.a (.l 0) (.l 1))) U) e5⟩
theorem MP{a c:J}:∀s,df [D a,D c] s=.ok [a,c] s:=λ_=>rfl
noncomputable abbrev vS(b w q:Nat)(l3 l4 l5:J):List J:=[.obj b,.obj w,.str [q],l3,l4,l5,.unb,.unb,.unb,.unb,.unb]
abbrev Jf(L:Nat)(Z:List Int)(k b w q mo N:Nat)(h:H)(P:H->J->J->Prop):Prop:=
 TC (λi h'=>bI L Z k I 871 [.obj b,.obj w,.str [q]] [] h=.ok (.obj i) h') (λi h'=>Oy (λv a=>h'[i]?=Y (.tup [v,a])) (λv a=>P h' v a)) (λ_ h'=>Wo h' w mo) (λ_ h'=>im h' b N) (λi h'=>aD [b,w,mo] h h')
inductive W7(h:H)(v a:J):Prop where
 |mk (k:Int) (e:a=.int k) (V:Nm h v k) (l:k.natAbs<=300):W7 h v a
theorem x7{q:Nat}(hk:q∈kinds):∀s,p8 (au L Z) .In (.str [q]) (.str [100,105,117,120,88,111,98,66]) s=.ok (.bool S) s:=
 fE (P:=λq=>∀s,p8 (au L Z) .In (.str [q]) (.str [100,105,117,120,88,111,98,66]) s=.ok (.bool S) s) (λ_=>rfl) (λ_=>rfl) (λ_=>rfl) (λ_=>rfl) (λ_=>rfl) (λ_=>rfl) (λ_=>rfl) (λ_=>rfl) q hk
theorem d7.app{i:Nat}{x:List Nat}{t:H}(A:d7 h i x):d7 (h++t) i x:=let⟨fs,a,b⟩:=A;⟨fs,bH a,b⟩
theorem D1{d:Nat}(hd:d<4):∃p∈fronts,fronts[d]?=Y p/\2<=p.2/\p.2<=36/\p.1.length<=2:=by
 have key:∀d:Fin 4,∃p∈fronts,fronts[d.1]?=Y p/\2<=p.2/\p.2<=36/\p.1.length<=2:=λd=>by
  rcases d with⟨_|_|_|_|d,h⟩
  ·exact⟨_,.head _,U,by decide,by decide,by decide⟩
  ·exact⟨_,.tail _ (.head _),U,by decide,by decide,by decide⟩
  ·exact⟨_,.tail _ (.tail _ (.head _)),U,by decide,by decide,by decide⟩
  ·exact⟨_,.tail _ (.tail _ (.tail _ (.head _))),U,by decide,by decide,by decide⟩
  ·lia
 exact key ⟨d,hd⟩
theorem DN(hk:q∈kinds)(W:Wo h w mo)(ag:im h b N)(hN:N<99000):Jf L Z (n+8) b w q mo (N+3) h W7:=by obtain⟨d,hd,h1,e1,W1,B1,K1⟩:=mw (L:=L) (Z:=Z) (n:=n+6) (m:=601) W ag (by exact leT hN U) (by decide) (by decide);obtain⟨d2,hd2,h2,e2,W2,B2,K2⟩:=mw (L:=L) (Z:=Z) (n:=n+6) (m:=4) W1 B1 (by exact bE [_] [(.a (.v 0) (.l 1),.l 99000)] 0 [1] (.a (.a (.v 0) (.l 1)) (.l 1)) (.l 100000) U hN) (by decide) (by decide);induction z:aI ((d2:Int)>0)with
 |true=>refine⟨h2.length,h2++[.tup [.int ((d:Int)-300),.int ((d:Int)-300)]],?_,⟨_,_,ba,⟨_,U,.int _,by exact Rw d 300 300 (Nat.le_of_lt_succ hd) (Nat.le_add_left _ _)⟩⟩,W2.app,B2.app.up (by exact bE [_] [] 0 [] (.a (.a (.v 0) (.l 1)) (.l 1)) (.a (.v 0) (.l 3)) U),(K1.trans K2).trans aD.app⟩;apply bC yn (L0:=vS b w q .unb .unb .unb) rfl;exact bF (aY (aK (aE aq ao (x7 hk _))) (br U (aG (bz (bj (aJ U (aB aq (aC ao)) (b4 U (aO e1))) ao U) (bv U)) (bF (aY (aK (aE (aJ U (aB aq (aC ao)) (b4 U (aO e2))) ao U)) (br z (bF (bK (gm (aB aq (aC aq)) U)))))))))
 |false=>
  obtain⟨os,h3,e3,K3,l3',g3⟩:=qG (h:=h2) (A:=vS b w q (.int ((d:Int)-300)) .unb .unb) (MP (a:=.str []) (c:=.int 10)) U (qG (MP (a:=.str [48,120]) (c:=.int 16)) U (qG (MP (a:=.str [48,98]) (c:=.int 2)) U (qG (MP (a:=.str [48,111]) (c:=.int 8)) U Mi)));obtain⟨d4,v4,hd4,h4,e4,W4,B4,K4⟩:=yx (L:=L) (Z:=Z) (n:=n+6) (m:=4) e3 (W2.keep (K3 []) λ_ _ _ _=>List.not_mem_nil) (B2.keep W2 (K3 _)) (by exact bE [_] [(.a (.v 0) (.l 1),.l 99000)] 0 [1] (.a (.a (.a (.v 0) (.l 1)) (.l 1)) (.l 1)) (.l 99999) U hN) U l3' (by decide) (by decide);obtain⟨⟨i,row⟩,⟨rfl,hr⟩,hi,hlt⟩:=g3 d4 v4 hd4;have lb:=B2.lt;have lw:=W2.lt;have hi4:h4[i]?=Y (.tup row):=K4.get hi (Ek (by have:h2.length<=i:=hlt;exact Nat.ne_of_gt (bE [_,_,_] [(.v 0,.v 1),(.a (.v 2) (.l 1),.v 0)] 0 [1,1] (.a (.v 2) (.l 1)) (.v 1) U hlt lb)) (by have:h2.length<=i:=hlt;exact Nat.ne_of_gt (bE [_,_,_] [(.v 0,.v 1),(.a (.v 2) (.l 1),.v 0)] 0 [1,1] (.a (.v 2) (.l 1)) (.v 1) U hlt lw.1)) (by have:h2.length<=i:=hlt;exact Nat.ne_of_gt (bE [_,_,_] [(.v 0,.v 1),(.a (.v 2) (.l 1),.v 0)] 0 [1,1] (.a (.v 2) (.l 1)) (.v 1) U hlt lw.2)));obtain⟨p,hp,hp2,b2,b36,fl⟩:=D1 (d:=d4) (by have:=(List.getElem?_eq_some_iff.mp hr).1;exact this);have hrow:row=[.str p.1,.int (p.2:Int)]:=by
   have:∀d:Fin 4,([[.str [],.int 10],[.str [48,120],.int 16],[.str [48,98],.int 2],[.str [48,111],.int 8]]:List (List J))[d.1]?=(fronts[d.1]?).map λp=>[.str p.1,.int (p.2:Int)]:=λd=>by rcases d with⟨_|_|_|_|d,h⟩<;>first|rfl|lia
   have:=(this ⟨d4,(List.getElem?_eq_some_iff.mp hr).1⟩).symm.trans hr;rw[hp2]at this;obtain rfl:=sI this;rfl
  subst hrow;obtain⟨r1,r2,r3⟩:=OQ (d:=(d:Int)) (by exact z0 _) (by exact vA (b:=601) hd) hp;obtain⟨h5,e5,K5⟩:=ka (L:=L) (Z:=Z) (n:=n+6) (h:=h4) (b:=p.2) (m:=((d:Int)-300).natAbs) b2 b36 (by exact leT (Rw d 300 300 (Nat.le_of_lt_succ hd) (Nat.le_add_left _ _)) U);have W5:Wo h5 w mo:=W4.keep (K5 []) λ_ _ _ _=>List.not_mem_nil;obtain⟨t,h6,e6,T6,W6,K6,_⟩:=oF (L:=L) (Z:=Z) (n:=n) (x:=jM ((d:Int)-300) p.1 p.2) W5;have lsg:(bif aI ((d:Int)-300<0)then[32,45]else([]:List Nat)).length<=2:=by cases aI ((d:Int)-300<0)<;>decide
  have lfg:((bif aI ((d:Int)-300<0)then[32,45]else([]:List Nat))++p.1).length+(cY p.2 ((d:Int)-300).natAbs).length<=1000:=by rw[<-List.length_append];exact r3
  have esg:∀(ah:List J)(P:H),ah[3]?=Y (.int ((d:Int)-300))->fD (bJ (aW (au L Z) .Lt (B 3) (D (.int 0)))) (D (.str [32,45])) (D (.str [])) ⟨ah,P,I⟩=.ok (.str (bif aI ((d:Int)-300<0)then[32,45]else[])) ⟨ah,P,I⟩:=λah P hS=>by refine dy (aK (aE (bM hS U) ao U)) ?_;cases aI ((d:Int)-300<0)<;>exact ao
  refine⟨h6.length,h6++[.tup [.obj t,.int ((d:Int)-300)]],?_,⟨_,_,ba,⟨_,U,.text t _ _ T6.app r2 r3 r1,by exact Rw d 300 300 (Nat.le_of_lt_succ hd) (Nat.le_add_left _ _)⟩⟩,W6.app,(((B4.keep W4 (K5 _)).keep W5 K6)).app.up (by exact bE [_] [] 0 [] (.a (.a (.a (.v 0) (.l 1)) (.l 1)) (.l 1)) (.a (.v 0) (.l 3)) U),(((((K1.trans K2).trans (K3 _)).trans K4).trans (K5 _)).trans K6.tob).trans aD.app⟩;apply bC yn (L0:=vS b w q .unb .unb .unb) rfl;exact bF (aY (aK (aE aq ao (x7 hk _))) (br U (aG (bz (bj (aJ U (aB aq (aC ao)) (b4 U (aO e1))) ao U) (bv U)) (aG (aY (aK (aE (aJ U (aB aq (aC ao)) (b4 U (aO e2))) ao U)) (aM z aZ))
   (aG (bz e4 (qo U hi4 U (bZ (bv U) (dj (bv U))))) (bF (bK (gm (aB (aR aq (o4 W4.ok U U (aC (bj (bj (esg _ _ U) aq (cC (by exact bE [_,_] [(.v 0,.l 2),(.v 1,.l 2)] 0 [1,1] (.a (.v 1) (.v 0)) (.l 16777216) U fl lsg))) (aJ U (aB (aJ U (aC aq) (iq sj)) (aC aq)) (b4 U (aO e5))) (cC (by exact leT lfg U)))) (aO e6))) (aC aq)) U))))))))
end
section
variable{L:Nat}{Z:List Int}{n:Nat}{h h' h0 h1:H}{w mo b N q k:Nat}{v X l2:J}{d s:List Nat}{es:List (M J)}{e:M J}
inductive Y7(h:H)(v a:J):Prop where
 |mk (c:Nat) (e:a=.str [c]) (V:Sg h v c):Y7 h v a
theorem Tj{a c:AO}:(h++[a]).length≠((h++[a])++[c]).length:=by simp only[List.length_append,List.length_cons,List.length_nil];exact Nat.ne_of_lt (bE [_] [] 0 [] (.a (.a (.v 0) (.a (.l 0) (.l 1))) (.l 1)) (.a (.a (.v 0) (.a (.l 0) (.l 1))) (.a (.l 0) (.l 1))) U)
theorem Lg{a:AO}:(h++[a]).length≠h.length:=by simp only[List.length_append,List.length_cons,List.length_nil];exact Nat.ne_of_gt (bE [_] [] 0 [] (.a (.v 0) (.l 1)) (.a (.v 0) (.a (.l 0) (.l 1))) U)
noncomputable abbrev cH(h2:H)(d2:Nat):H:=(((h2++[AO.list [.int (d2:Int)]])++[AO.list []])++[AO.tup [.int (97+(d2:Int)),.str [97+d2]]]).set (h2++[AO.list [.int (d2:Int)]]).length (AO.list [.obj ((h2++[AO.list [.int (d2:Int)]])++[AO.list []]).length])
theorem MJ(W:Wo h w mo)(ag:im h b N)(hN:N<99000):Jf L Z (n+8) b w 99 mo (N+2) h Y7:=by obtain⟨d,hd,h1,e1,W1,B1,K1⟩:=mw (L:=L) (Z:=Z) (n:=n+6) (m:=2) W ag (by exact leT hN U) (by decide) (by decide);have s1:eS (bJ (aW (au L Z) .In (B 2) (D (.str [100,105,117,120,88,111,98,66])))) (aH (zK (au L Z) (bI L Z (n+7)))) (aH []) ⟨vS b w 99 .unb .unb .unb,h,I⟩=.ok .nxt ⟨vS b w 99 .unb .unb .unb,h,I⟩:=aY (aK (aE aq ao U)) (aM U aZ);induction z:aI ((d:Int)=0)with
 |true=>
  obtain⟨d2,hd2,h2,e2,W2,B2,K2⟩:=mw (L:=L) (Z:=Z) (n:=n+6) (m:=26) W1 B1 (by exact bE [_] [(.a (.v 0) (.l 1),.l 99000)] 0 [1] (.a (.a (.v 0) (.l 1)) (.l 1)) (.l 100000) U hN) (by decide) (by decide);have lb:=B2.lt;have lw:=W2.lt;have W5:Wo (cH h2 d2) w mo:=W2.app.app.app.set (bH ba) rfl;have at5:(cH h2 d2)[((h2++[AO.list [.int (d2:Int)]])++[AO.list []]).length]?=Y (.tup [.int (97+(d2:Int)),.str [97+d2]]):=iC Tj ba;have K25:aD [b,w,mo] h2 (cH h2 d2):=(aD.app.trans (aD.app.trans aD.app)).setNew (by simp only[List.length_append];exact bE [_] [] 0 [] (.v 0) (.a (.v 0) (.a (.l 0) (.l 1))) U);have B5:im (cH h2 d2) b (N+1+1):=by obtain⟨g,s,c,sm,a,r1,r2,r3,r4⟩:=B2;exact⟨g,s,c,sm,iC (by simp only[List.length_append];exact Nat.ne_of_gt (bE [_,_] [(.a (.v 0) (.l 1),.v 1)] 0 [1] (.a (.v 0) (.l 1)) (.a (.v 1) (.a (.l 0) (.l 1))) U lb)) (bH (bH (bH a))),r1,r2,r3,r4⟩
  refine⟨_,_,?_,⟨_,_,at5,97+d2,U,.int (97+d2) (by exact bE [_] [(.a (.v 0) (.l 1),.l 26)] 0 [1] (.a (.a (.l 97) (.v 0)) (.l 1)) (.l 128) U hd2)⟩,W5,B5,(K1.trans K2).trans K25⟩;apply bC yn (L0:=vS b w 99 .unb .unb .unb) rfl;exact aG s1 (bF (aY (aK (aE aq ao cU)) (br U (bF (bK (dy (aK (aE (aJ U (aB aq (aC ao)) (b4 U (aO e1))) ao U)) (br z (gJ (ol U (tj (gj (aC (aJ U (aB aq (aC ao)) (b4 U (aO e2)))) U) ba) (by show 10<11;decide)
   (ur (fl:=999999999) (oz (E4 (bH ba) U) (by show 10<11;decide) U U (gm (aB (bj ao aq U) (aC (aJ U (aC (bj ao aq U)) (iq (Nh (w:=97+(d2:Int)) (by rw[decide_eq_true (by exact z0 (97+d2)),decide_eq_true (by exact vA (a:=97+d2) (b:=128) (leT (Nat.add_le_add_left hd2 97) U))];rfl)))))) U) (bH ba) (by decide)) (rR (fl:=999999998) (lK (Dl (iC Lg (bH (bH ba))) U))))) ao (dP (bH ba)) U))))))))
 |false=>obtain⟨t,h6,e6,T6,W6,K6,_⟩:=oF (L:=L) (Z:=Z) (n:=n) (x:=[122,101,100]) W1;refine⟨h6.length,h6++[.tup [.obj t,.str [122]]],?_,⟨_,_,ba,122,U,.text t 122 [101,100] T6.app (by decide)⟩,W6.app,(B1.keep W1 K6).app.up (by exact bE [_] [] 0 [] (.a (.v 0) (.l 1)) (.a (.v 0) (.l 2)) U),(K1.trans K6.tob).trans aD.app⟩;apply bC yn (L0:=vS b w 99 .unb .unb .unb) rfl;exact aG s1 (bF (aY (aK (aE aq ao cU)) (br U (bF (bK (dy (aK (aE (aJ U (aB aq (aC ao)) (b4 U (aO e1))) ao U)) (aM z (gm (aB (aR aq (o4 W1.ok U U (aC ao) (aO e6))) (aC ao)) U))))))))
end
section
variable{L:Nat}{Z:List Int}{n:Nat}{h h' h0 h1:H}{w mo b N q k i:Nat}{v X l2:J}{d s:List Nat}{es:List (M J)}{e:M J}
inductive BY(b:Nat)(h:H)(v:J):Prop where
 |mk (i:Nat) (x:J) (d s:List Nat) (e:v=.obj i) (a:h[i]?=Y (.tup [x,.str d,.str s])) (V:V6 b h x d s) (ld:d.length<=1000) (ls:s.length<=1000):BY b h v
theorem BY.kp:KP (BY b) w mo:=λ_ _ _ g W K=>let⟨i,x,d,s,e,a,V,ld,ls⟩:=g;⟨i,x,d,s,e,K.get a (W.nin a U),V.ext (tc.of K W.off),ld,ls⟩
theorem xH{x:J}(V:V6 b h x d s)(ld:d.length<=1000)(ls:s.length<=1000):BY b (h++[.tup [x,.str d,.str s]]) (.obj h.length):=
 ⟨_,x,d,s,U,ba,V.ext (tc.of (aD.app (X:=[])) sZ.all),ld,ls⟩
theorem s7{x:J}(he:∀s,e s=.ok x s)(V:∀h,V6 b h x d s)(ld:d.length<=1000)(ls:s.length<=1000):D2 (BY b) (mTup [e,D (.str d),D (.str s)]) b w mo:=λA h hA W _=>⟨_,_,gm (aB (he _) (aB ao (aC ao))) U,xH (V h) ld ls,W.app,aD.app⟩
theorem HK:D2 (BY b) (mTup [bk (au L Z) (bI L Z (n+7)) (B 1) 7 (am "text") [D (.str [97,98,32,99])],D (.str [97,98,32,99]),D (.str [34,97,98,32,99,34])]) b w mo:=λA h hA W _=>by obtain⟨i,h1,e1,T1,W1,K1,_⟩:=oF (L:=L) (Z:=Z) (n:=n) (x:=[97,98,32,99]) W;exact⟨_,_,gm (aB (aR (bM hA U) (o4 W.ok U U (aC ao) (aO e1))) (aB ao (aC ao))) U,xH (.text i _ T1 U (by decide)) (by decide) (by decide),W1.app,K1.trans aD.app⟩
theorem E8:D2 (BY b) (mTup [bk (au L Z) (bI L Z (n+7)) (B 1) 71 (am "list_of") [dk [D (.int 1),bk (au L Z) (bI L Z (n+7)) (B 1) 7 (am "text") [D (.str [113])]]],D (.str [91,49,44,32,34,113,34,93]),D (.str [91,49,44,32,34,113,34,93])]) b w mo:=λA h hA W F=>by obtain⟨t,h1,e1,T1,W1,K1,_⟩:=oF (L:=L) (Z:=Z) (n:=n) (x:=[113]) W;obtain⟨i,h2,e2,⟨fs,j,a,c,g⟩,W2,K2,_⟩:=K9 (L:=L) (Z:=Z) (n:=n) (W1.app (t:=[.list [.int 1,.obj t]])) ba (Nat.le_of_ble_eq_true U);have F2:=F.keep W ((K1.trans aD.app).trans K2);have T2:=(T1.app (t:=[.list [.int 1,.obj t]])).ext (tc.of (b:=b) K2 W1.app.off);exact⟨_,_,gm (aB (aR (bM hA U) (o4 W.ok U U (aC (gj (aB ao (aC (aR (bM hA U) (o4 W.ok U U (aC ao) (aO e1))))) U)) (aO e2))) (aB ao (aC ao))) U,xH (.list i j t fs a c g T2 (F2.ne g λq=>by cases q)) (by decide) (by decide),W2.app,((K1.trans aD.app).trans K2).trans aD.app⟩
inductive Zo(q b:Nat)(h:H)(v a:J):Prop where
 |mk (d s:List Nat) (e:a=.str (bif Nat.beq q 115 then d else s)) (V:V6 b h v d s) (ld:d.length<=1000) (ls:s.length<=1000):Zo q b h v a
theorem rM.off(F:rM h b):sZ b h [b]:=by obtain⟨vs,a,_⟩:=F;exact⟨λi C fs e q m=>(by rw[List.mem_singleton.mp m]at e;have:=e.symm.trans a;cases this),λi xs e q m=>q (List.mem_singleton.mp m)⟩
theorem ZR:V6 b h (.int (-12)) [45,49,50] [45,49,50]:=by
 have e:sO (-12)=[45,49,50]:=by decide
 have:=V6.int (b:=b) (h:=h) (-12) rfl
 rwa[e]at this
theorem CD(hq:q=115\/q=112)(W:Wo h w mo)(ag:im h b N)(hN:N<99000):Jf L Z (n+8) b w q mo (N+1) h (Zo q b):=by
 obtain⟨j1,h1,e1,R1,K1⟩:=vX (A:=vS b w q .unb .unb .unb) (l:=6) (b:=b) BY.kp U U W ag.four (cK BY.kp (HK (L:=L) (Z:=Z) (n:=n)) (cK BY.kp (s7 (e:=rp (D (.int 12))) (λ_=>rfl) (λ_=>ZR) (by decide) (by decide)) (cK BY.kp (s7 (e:=D _) (λ_=>ao) (λ_=>.sym) (by decide) (by decide)) (cK BY.kp (s7 (e:=D _) (λ_=>ao) (λ_=>.nil) (by decide) (by decide)) lU)))) (by decide);obtain⟨j2,h2,e2,⟨W2,vs,a2,l2,g2⟩,K2⟩:=qE (A:=(vS b w q .unb .unb .unb).set 6 (.obj j1)) (l:=6) (b:=b) BY.kp U U U R1 (ag.four.keep W K1) (cK BY.kp (s7 (e:=D _) (λ_=>ao) (λ_=>.tru) (by decide) (by decide)) (cK BY.kp (E8 (L:=L) (Z:=Z) (n:=n)) lU)) (by decide) (by decide);have K02:=K1.trans K2;have B2:=ag.keep W K02;have F2:=B2.four;obtain⟨d,hd,h3,e3,W3,B3,K3⟩:=mw (L:=L) (Z:=Z) (n:=n+6) (m:=6) W2 B2 (by exact leT hN U) (by decide) (by decide);have hd1:d<vs.length:=by refine l2▸?_;exact hd
 have ev:vs[d]?=Y vs[d]:=List.getElem?_eq_getElem hd1;obtain⟨i,x,p,s,ei,ai,V,ld,ls⟩:=g2 _ (List.getElem_mem hd1);have nb:=F2.ne a2 (by refine l2▸?_;decide);have nw:=qp (W2.nin a2 U);have a3:h3[j2]?=Y (.list vs):=K3.get a2 (Ek nb nw.1 nw.2);have nw2:=qp (W2.nin ai U);have ai3:h3[i]?=Y (.tup [x,.str p,.str s]):=by obtain⟨us,c,_⟩:=F2;exact K3.get ai (Ek (eZ ai c U) nw2.1 nw2.2)
 have O3:sZ b h2 [b,w,mo]:=⟨λi C fs e q m=>by
  rcases List.mem_cons.mp m with rfl|m
  ·exact F2.off.th _ _ _ e q (.head _)
  ·exact W2.off (b:=b)|>.th _ _ _ e q m,λi xs e q m=>by
  rcases List.mem_cons.mp m with rfl|m
  ·exact q rfl
  ·exact W2.off (b:=b)|>.li _ _ e q m⟩
 have V3:V6 b h3 x p s:=V.keep K3 O3;refine⟨h3.length,h3++[.tup [x,.str (bif Nat.beq q 115 then p else s)]],?_,⟨_,_,ba,p,s,U,V3.ext (tc.of (aD.app (X:=[])) sZ.all),ld,ls⟩,W3.app,B3.app,((K02.tob).trans K3).trans aD.app⟩;have t1:∀s,p8 (au L Z) .In (.str [q]) (.str [100,105,117,120,88,111,98,66]) s=.ok (.bool I) s:=by rcases hq with rfl|rfl<;>exact λ_=>rfl
 have t2:∀s,p8 (au L Z) .Eq (.str [q]) (.str [99]) s=.ok (.bool I) s:=by rcases hq with rfl|rfl<;>exact λ_=>rfl
 have ix:FU vs (d:Int)=Y (.obj i):=(mF ev (by exact leT hd U)).trans (congrArg Y ei);have ee:∀(ah:List J)(P:H),ah[2]?=Y (.str [q])->ah[8]?=Y (.str p)->ah[9]?=Y (.str s)->fD (bJ (aW (au L Z) .Eq (B 2) (D (.str [115])))) (B 8) (B 9) ⟨ah,P,I⟩=.ok (.str (bif Nat.beq q 115 then p else s)) ⟨ah,P,I⟩:=λah P a b c=>by
  refine dy (aK (aE (bM a U) ao cU)) ?_;cases Nat.beq q 115
  ·exact bM c rfl
  ·exact bM b rfl
 apply bC yn (L0:=vS b w q .unb .unb .unb) rfl;exact aG (aY (aK (aE aq ao (t1 _))) (aM U aZ)) (aG (aY (aK (aE aq ao (t2 _))) (aM U aZ)) (aG e1 (aG e2
  (aG (bz (gJ aq (aJ U (aB aq (aC ao)) (b4 U (aO e3))) a3 ix) (qo U ai3 U (bZ (bv U) (bZ (bv U) (dj (bv U))))))
   (bF (bK (gm (aB (bM U V3.nou) (aC (ee _ _ U U U))) U)))))))
end
section
variable{L:Nat}{Z:List Int}{n:Nat}{h h' h0 h1:H}{w mo b N q k i c:Nat}{v X l2 l9 l10 l11 l12 l13:J}{d s fs wt mt:List Nat}{es:List (M J)}{e:M J}
theorem im.any{ae:List Nat}(ag:im h b N)(K:aD ae h h')(hb:b∉ae):im h' b N:=let⟨g,s,c,sm,a,r1,r2,r3,r4⟩:=ag;⟨g,s,c,sm,K.get a hb,r1,r2,r3,r4⟩
noncomputable abbrev Lf(b w:Nat)(l2 l3 l4 l5 l6 l7 l8 l9 l10 l11 l12 l13:J):List J:=[.obj b,.obj w,l2,l3,l4,l5,l6,l7,l8,l9,l10,l11,l12,l13]
abbrev LV(b w:Nat)(l:J):List J:=Lf b w .unb .unb .unb .unb .unb .unb .unb .unb .unb .unb .unb l
inductive Zf(x:lJ St J)(b w mo N i:Nat)(h:H)(r acc:List Nat):Prop where
 |mk (l:J) (fs:List Nat) (h':H) (e:x=.ok .none ⟨LV b w l,h',I⟩) (a:h'[i]?=Y (.list ((acc++fs).map λc=>.str [c]))) (W:Wo h' w mo) (ag:im h' b N) (K:aD [i,b,w,mo] h h') (m:∀c∈fs,c∈r) (ll:fs.length<=r.length):Zf x b w mo N i h r acc
abbrev ZI(L:Nat)(Z:List Int)(n i fl:Nat)(r:List Nat)(A:List J)(h:H):lJ St J:=kS (kR (B 13) 13 (bJ (aW (au L Z) .Eq (aN (au L Z) (bI L Z (n+8)) (.sref 845) [B 0,D (.int 3)] []) (D (.int 0)))) i) fl (.vals (r.map λc=>.str [c])) ⟨A,h,I⟩
theorem ul:∀(r acc:List Nat)(fl N:Nat)(l:J)(h:H),r.length<fl->Wo h w mo->im h b N->N+r.length<100000->h[i]?=Y (.list (acc.map λc=>.str [c]))->acc.length+r.length<=1000->i≠b->Zf (ZI L Z n i fl r (LV b w l) h) b w mo (N+r.length) i h r acc
 |_,_,0,_,_,_,hf,_,_,_,_,_,_=>absurd hf (Nat.not_lt_zero _)
 |[],acc,fl+1,N,l,h,_,W,ag,_,a,_,_=>⟨l,[],h,rR (lK BE),by simp only[List.append_nil];exact a,W,ag,aD.refl,λ_ m=>(List.not_mem_nil m).elim,Nat.le_refl _⟩
 |c::r,acc,fl+1,N,l,h,hf,W,ag,hN,a,hl,ib=>by rw[List.length_cons]at hf hN hl;obtain⟨d,hd,h1,e1,W1,B1,K1⟩:=mw (L:=L) (Z:=Z) (n:=n+7) (m:=3) W ag (by exact bE [_,_] [(.a (.a (.v 0) (.a (.v 1) (.l 1))) (.l 1),.l 100000)] 0 [1] (.a (.v 0) (.l 1)) (.l 100000) U hN) (by decide) (by decide);have nw:=qp (W.nin a U);have a1:=K1.get a (Ek ib nw.1 nw.2);have K1':aD [i,b,w,mo] h h1:=K1.mono λ_ _ m=>.tail _ m;induction z:aI ((d:Int)=0)with
  |true=>
   obtain⟨l2,fs,h2,e2,a2,W2,B2,K2,m2,l2'⟩:=ul r (acc++[c]) fl (N+1) (.str [c]) (h1.set i (.list ((acc.map λc=>.str [c])++[.str [c]]))) (by exact bE [_,_] [(.a (.a (.v 0) (.l 1)) (.l 1),.a (.v 1) (.l 1))] 0 [1] (.a (.v 0) (.l 1)) (.v 1) U hf) (W1.set a1 U) (B1.any (aD.set (.head _)) (hY (jP ib))) (by lia) (by simp only[dP a1,List.map_append];rfl) (by simp only[List.length_append];show _+1+_<=_;lia) ib;refine⟨l2,c::fs,h2,ur (oz kO (by show 13<14;decide) (aK (aE (aJ U (aB aq (aC ao)) (b4 U (aO e1))) ao U)) z aq a1 (by simp only[List.length_map];exact bE [_,_] [(.a (.v 0) (.a (.v 1) (.l 1)),.l 1000)] 0 [1] (.a (.v 0) (.l 1)) (.l 16777216) U hl)) e2,by rw[List.append_assoc]at a2;exact a2,W2,B2.up (by simp only[List.length_cons];exact bE [_,_] [] 0 [] (.a (.a (.v 0) (.l 1)) (.v 1)) (.a (.v 0) (.a (.v 1) (.l 1))) U),(K1'.trans (aD.set (.head _))).trans K2,λx m=>?_,by simp only[List.length_cons,List.length_cons];exact bE [_,_] [(.v 0,.v 1)] 0 [1] (.a (.v 0) (.l 1)) (.a (.v 1) (.l 1)) U l2'⟩;rcases List.mem_cons.mp m with e0|m
   ·exact e0▸.head _
   ·exact .tail _ (m2 x m)
  |false=>obtain⟨l2,fs,h2,e2,a2,W2,B2,K2,m2,l2'⟩:=ul r acc fl (N+1) (.str [c]) h1 (by exact bE [_,_] [(.a (.a (.v 0) (.l 1)) (.l 1),.a (.v 1) (.l 1))] 0 [1] (.a (.v 0) (.l 1)) (.v 1) U hf) W1 B1 (by lia) a1 (by exact bE [_,_] [(.a (.v 0) (.a (.v 1) (.l 1)),.l 1000)] 0 [1] (.a (.v 0) (.v 1)) (.l 1000) U hl) ib;exact⟨l2,fs,h2,ur (Ml kO (by show 13<14;decide) (aK (aE (aJ U (aB aq (aC ao)) (b4 U (aO e1))) ao U)) z) e2,a2,W2,B2.up (by simp only[List.length_cons];exact bE [_,_] [] 0 [] (.a (.a (.v 0) (.l 1)) (.v 1)) (.a (.v 0) (.a (.v 1) (.l 1))) U),K1'.trans K2,λx m=>.tail _ (m2 x m),by simp only[List.length_cons];exact bE [_,_] [(.v 0,.v 1)] 0 [1] (.v 0) (.a (.v 1) (.l 1)) U l2'⟩
theorem aD.new1{ae:List Nat}(K0:aD ae h0 h)(K:aD (i::ae) h h')(hi:h0.length<=i):aD ae h0 h':=
 ⟨Nat.le_trans K0.1 K.1,λj hj hn=>(K.2 j (Nat.lt_of_lt_of_le hj K0.1) λm=>by
  rcases List.mem_cons.mp m with rfl|m
  ·exact nf (bE [_,_] [(.a (.v 0) (.l 1),.v 1),(.v 1,.v 0)] 0 [1,1] (.l 1) (.l 0) U hj hi)
  ·exact hn m).trans (K0.2 j hj hn)⟩
theorem qY:∀{fs:List Nat},(fs.map λc=>[c]).flatten=fs
 |[]=>rfl
 |c::r=>by simp only[List.map_cons,List.flatten_cons,qY];rfl
abbrev NL(c:Nat):Prop:=c∈kinds\/c=115\/c=112\/c=99\/c=37
theorem GZ:∀c∈[100,105,117,120,88,111,98,66,115,112,99,37],NL c:=by decide
abbrev BO(b w:Nat)(fs:List Nat)(c i:Nat)(wt:List Nat)(W:Int)(l7 l8 l9 l10 l11 l12 l13:J):List J:=Lf b w (.str fs) (.str [c]) (.obj i) (.str wt) (.int W) l7 l8 l9 l10 l11 l12 l13
structure vN(h0 h:H)(b w mo N i:Nat)(f:List J):Prop where
 wo:Wo h w mo
 bx:im h b N
 kp:aD [b,w,mo] h0 h
 li:h[i]?=Y (.list f)
 ge:h0.length<=i
abbrev xh(x:lJ St Fl)(ms:List (M Fl))(A:List J)(h':H):Prop:=x=aH ms ⟨A,h',I⟩
inductive Zd(x:lJ St Fl)(ms:List (M Fl))(h0:H)(b w mo N:Nat):Prop where
 |mk (fs:List Nat) (c i:Nat) (l13:J) (h':H) (e:xh x ms (BO b w fs c i [] 0 .unb .unb .unb .unb .unb .unb l13) h') (ha:fs.all jm=S) (hl:fs.length<=5) (hc:NL c) (P:vN h0 h' b w mo N i []):Zd x ms h0 b w mo N
theorem O0(W:Wo h w mo)(ag:im h b N)(hN:N<99000):Zd (My (au L Z) (bI L Z (n+8)) ⟨LV b w .unb,h,I⟩) (xr (au L Z) (bI L Z (n+8))) h b w mo (N+6):=by
 have lb:=ag.lt;obtain⟨l,fs,h1,e1,a1,W1,B1,K1,m1,l1⟩:=ul (L:=L) (Z:=Z) (n:=n) (i:=h.length) [45,43,32,48,35] [] ff N .unb (h++[.list []]) (by simp only[i5];show 5<_;exact bE [] [] 0 [] (.l 6) (.a (.l 999999999) (.l 1)) U) W.app ag.app (by show N+5<_;exact bE [_] [(.a (.v 0) (.l 1),.l 99000)] 0 [1] (.a (.a (.v 0) (.l 5)) (.l 1)) (.l 100000) U hN) ba (by decide) (by exact Nat.ne_of_gt (lb));have K01:aD [b,w,mo] h h1:=aD.new1 aD.app K1 (Nat.le_refl _);obtain⟨d,hd,h2,e2,W2,B2,K2⟩:=mw (L:=L) (Z:=Z) (n:=n+7) (m:=12) W1 B1 (by show N+5<_;exact bE [_] [(.a (.v 0) (.l 1),.l 99000)] 0 [1] (.a (.a (.v 0) (.l 5)) (.l 1)) (.l 100000) U hN) (by decide) (by decide);have l1:fs.length<=5:=l1;have ev:([100,105,117,120,88,111,98,66,115,112,99,37]:List Nat)[d]?=Y ([100,105,117,120,88,111,98,66,115,112,99,37]:List Nat)[d]:=List.getElem?_eq_getElem hd;have ej:(bk (au L Z) (bI L Z (n+8)) (D (.str [])) 24 (am "join") [(kT (B 13) 13 (iU (au L Z) (D (.str [45,43,32,48,35]))) (Y (bJ (aW (au L Z) .Eq (aN (au L Z) (bI L Z (n+8)) (.sref 845) [(B 0),(D (.int 3))] []) (D (.int 0))))))]) ⟨LV b w .unb,h,I⟩=.ok (.str (fX [] (fs.map λc=>[c]))) ⟨LV b w l,h1,I⟩:=
  aR ao (Cp (nm:=am "join") (w:=[]) U (aC (ol (A1:=LV b w .unb) U (xx ao) (by show 13<14;decide) e1)) (qz (ws:=fs.map λc=>[c]) (by decide) a1 (by simp only[List.nil_append,show(fs.map λc=>J.str [c])=(fs.map λc=>[c]).map .str by simp only[List.map_map];rfl];exact uT) (by simp only[lL,qY];show fs.length+0<=_;exact leT l1 U)))
 rw[lL,qY]at ej;refine⟨fs,_,h2.length,l,(h2++[.list []])++[.tup [.obj h2.length,.str [],.int 0]],?_,List.all_eq_true.mpr λc m=>List.any_eq_true.mpr ⟨c,m1 c m,Nat.beq_refl c⟩,l1,GZ _ (List.getElem_mem hd),⟨W2.app.app,B2.app.app,((K01.trans K2).trans aD.app).trans aD.app,bH ba,Nat.le_trans K01.1 K2.1⟩⟩;exact aG (bz ej (bv U)) (aG (bz (oK ao (aJ U (aB aq (aC ao)) (b4 U (aO e2))) (mF ev (by exact leT hd U))) (bv U)) (aG (fq (aB (gj cy U) (aB ao (aC ao))) U U U (bZ (bv U) (bZ (bv U) (dj (bv U))))) U))
end
section
variable{L:Nat}{Z:List Int}{n:Nat}{h h' h0 h1:H}{w mo b N q k i c:Nat}{v X l2 l7 l8 l9 l10 l11 l12 l13:J}{d s fs wt mt:List Nat}{es:List (M J)}{e:M J}{f f1 f2:List J}{W:Int}
theorem zV{d:Nat}(hd:d<10):sO (d:Int)=[48+d]:=by
 have t:((List.range 10).all λd=>eqL (sO (d:Int)) [48+d])=S:=by kernel_rfl
 exact xf (List.all_eq_true.mp t d (List.mem_range.mpr hd))
theorem vN.app{t:H}(P:vN h0 h b w mo N i f):vN h0 (h++t) b w mo N i f:=⟨P.wo.app,P.bx.app,P.kp.trans aD.app,bH P.li,P.ge⟩
theorem vN.nin(P:vN h0 h b w mo N i f)(hb:b<h0.length):i∉[b,w,mo]:=let q:=qp (P.wo.nin P.li U);Ek (by have:=P.ge;exact Nat.ne_of_gt (bE [_,_,_] [(.a (.v 0) (.l 1),.v 1),(.v 1,.v 2)] 0 [1,1] (.a (.v 0) (.l 1)) (.v 2) U hb this)) q.1 q.2
theorem vN.go(P:vN h0 h b w mo N i f)(hb:b<h0.length)(W:Wo h' w mo)(ag:im h' b k)(K:aD [b,w,mo] h h'):vN h0 h' b w mo k i f:=⟨W,ag,P.kp.trans K,K.get P.li (P.nin hb),P.ge⟩
theorem vN.re{N':Nat}(P:vN h0 h b w mo N i f)(hi:h[k]?=Y (.list f1))(hk:h0.length<=k)(hN:N<=N'):vN h0 h b w mo N' k f1:=⟨P.wo,P.bx.up hN,P.kp,hi,hk⟩
theorem vN.up{N':Nat}(P:vN h0 h b w mo N i f)(hN:N<=N'):vN h0 h b w mo N' i f:=P.re P.li P.ge hN
inductive YW(x:lJ St Fl)(ms:List (M Fl))(h0:H)(b w mo N:Nat)(fs:List Nat)(c:Nat)(l7 l8 l9 l10 l11 l12 l13:J):Prop where
 |mk (i:Nat) (wt:List Nat) (f:List J) (W:Int) (h':H) (e:xh x ms (BO b w fs c i wt W l7 l8 l9 l10 l11 l12 l13) h') (WI:fO wt f W) (hW:W.natAbs<=9) (P:vN h0 h' b w mo N i f) (l1:f.length<=1):YW x ms h0 b w mo N fs c l7 l8 l9 l10 l11 l12 l13
theorem Q3(P:vN h0 h b w mo N i [])(hb:b<h0.length)(hN:N<99000):YW (aH (xr (au L Z) (bI L Z (n+8))) ⟨BO b w fs c i [] 0 l7 l8 l9 l10 l11 l12 l13,h,I⟩) (uS (au L Z) (bI L Z (n+8))) h0 b w mo (N+3) fs c l7 l8 l9 l10 l11 l12 l13:=by obtain⟨d1,hd1,h1,e1,W1,B1,K1⟩:=mw (L:=L) (Z:=Z) (n:=n+7) (m:=2) P.wo P.bx (by exact leT hN U) (by decide) (by decide);have P1:=P.go hb W1 B1 K1;induction z1:aI ((d1:Int)=0)with
 |false=>exact⟨i,[],[],0,h1,aG (aY (aK (aE (aJ U (aB aq (aC ao)) (b4 U (aO e1))) ao U)) (aM z1 aZ)) U,.no,by decide,P1.up (by exact bE [_] [] 0 [] (.a (.v 0) (.l 1)) (.a (.v 0) (.l 3)) U),by decide⟩
 |true=>
  obtain⟨d2,hd2,h2,e2,W2,B2,K2⟩:=mw (L:=L) (Z:=Z) (n:=n+7) (m:=9) W1 B1 (by exact bE [_] [(.a (.v 0) (.l 1),.l 99000)] 0 [1] (.a (.a (.v 0) (.l 1)) (.l 1)) (.l 100000) U hN) (by decide) (by decide);have P2:=(P1.go hb W2 B2 K2).app (t:=[.tup [.int (1+(d2:Int)),.str []]]);obtain⟨d3,hd3,h3,e3,W3,B3,K3⟩:=mw (L:=L) (Z:=Z) (n:=n+7) (m:=4) P2.wo P2.bx (by exact bE [_] [(.a (.v 0) (.l 1),.l 99000)] 0 [1] (.a (.a (.a (.v 0) (.l 1)) (.l 1)) (.l 1)) (.l 100000) U hN) (by decide) (by decide);have P3:=P2.go hb W3 B3 K3;have es:sO (1+(d2:Int))=[49+d2]:=by have:=zV (d:=1+d2) (by exact bE [_] [(.a (.v 0) (.l 1),.l 9)] 0 [1] (.a (.a (.l 1) (.v 0)) (.l 1)) (.l 10) U hd2);rw[show((1+d2:Nat):Int)=1+(d2:Int) by exact U,show 48+(1+d2)=49+d2 by exact Nat.le_antisymm (bE [_] [] 0 [] (.a (.l 48) (.a (.l 1) (.v 0))) (.a (.l 49) (.v 0)) U) (bE [_] [] 0 [] (.a (.l 49) (.v 0)) (.a (.l 48) (.a (.l 1) (.v 0))) U)]at this;exact this
  have s1:∀{F:lJ St Fl},aH (zz (au L Z) (bI L Z (n+8))) ⟨BO b w fs c i [49+d2] (1+(d2:Int)) l7 l8 l9 l10 l11 l12 l13,h2++[.tup [.int (1+(d2:Int)),.str []]],I⟩=F->aH (tZ (au L Z) (bI L Z (n+8))) ⟨BO b w fs c i [] 0 l7 l8 l9 l10 l11 l12 l13,h1,I⟩=F:=λ{F} e=>aG (fq (aB (bj ao (aJ U (aB aq (aC ao)) (b4 U (aO e2))) U) (aC ao)) U U U (bZ (bv U) (dj (bv U)))) (aG (bz (aJ U (aC aq) (DT (Jx (kj (by exact(leT (Nat.succ_le_succ (Nat.add_le_add_left (Nat.le_of_lt hd2) 1)) rfl:1+d2<2^63)))))) (bv U)) (by exact es▸e));have go:∀{A:List J}{h':H},aH (tZ (au L Z) (bI L Z (n+8))) ⟨BO b w fs c i [] 0 l7 l8 l9 l10 l11 l12 l13,h1,I⟩=.ok .nxt ⟨A,h',I⟩->aH (xr (au L Z) (bI L Z (n+8))) ⟨BO b w fs c i [] 0 l7 l8 l9 l10 l11 l12 l13,h,I⟩=aH (uS (au L Z) (bI L Z (n+8))) ⟨A,h',I⟩:=λe=>aG (aY (aK (aE (aJ U (aB aq (aC ao)) (b4 U (aO e1))) ao U)) (br z1 e)) rfl;induction z3:aI ((d3:Int)=0)with
  |false=>
   have WI:fO [49+d2] [] (1+(d2:Int)):=by
    have:=fO.told (49+d2) (by rw[Nat.ble_eq_true_of_le (by lia),Nat.ble_eq_true_of_le (by lia)];rfl)
    rwa[show((49+d2-48:Nat):Int)=1+(d2:Int) by lia]at this
   exact⟨i,_,_,_,h3,go (s1 (bO (aY (aK (aE (aJ U (aB aq (aC ao)) (b4 U (aO e3))) ao U)) (aM z3 aZ)))),WI,by exact(Nat.add_le_add_left (Nat.le_of_lt_succ hd2) 1:1+d2<=9),P3,by decide⟩
  |true=>refine⟨h3.length,[42],[.int (1+(d2:Int)-5)],1+(d2:Int)-5,(h3++[AO.list [.int (1+(d2:Int)-5)]])++[AO.tup [.obj h3.length,.str [42]]],go (s1 (bO (aY (aK (aE (aJ U (aB aq (aC ao)) (b4 U (aO e3))) ao U)) (br z3 ?_)))),.star _ (by exact leT (Rw (1+d2) 5 9 (leT (Nat.add_le_add_left (Nat.le_of_lt hd2) 1) U) (Nat.le_trans (Nat.le_of_ble_eq_true U) (Nat.le_add_left 9 _))) U),by exact Rw (1+d2) 5 9 (leT (Nat.add_le_add_left (Nat.le_of_lt hd2) 1) U) (Nat.le_trans (Nat.le_of_ble_eq_true U) (Nat.le_add_left 9 _)),P3.app.app.re (bH ba) P3.kp.1 (by exact bE [_] [] 0 [] (.a (.a (.a (.v 0) (.l 1)) (.l 1)) (.l 1)) (.a (.v 0) (.l 3)) U),by exact Nat.le_refl 1⟩;exact aG (bz (bj aq ao U) (bv U)) (bO (fq (aB (gj (aC aq) U) (aC ao)) U U U (bZ (bv U) (dj (bv U)))))
inductive Y9(x:lJ St Fl)(ms:List (M Fl))(h0:H)(b w mo N:Nat)(fs:List Nat)(c:Nat)(wt:List Nat)(W:Int)(f1:List J)(l10 l11 l12 l13:J):Prop where
 |mk (i:Nat) (mt:List Nat) (f2:List J) (m:Option Nat) (l9:J) (h':H) (e:xh x ms (BO b w fs c i wt W (dM m) (.str mt) l9 l10 l11 l12 l13) h') (MI:i6 mt f2 m) (hm:∀j,m=Y j->j<=9) (P:vN h0 h' b w mo N i (f1++f2)) (l1:f2.length<=1):Y9 x ms h0 b w mo N fs c wt W f1 l10 l11 l12 l13
theorem El{ah:List J}{q:Int}(hS:ah[9]?=Y (.int q)):fD (bJ (aW (au L Z) .GtE (B 9) (D (.int 0)))) (B 9) (D .none) ⟨ah,h,I⟩=.ok (dM (m8 q)) ⟨ah,h,I⟩:=by refine dy (aK (aE (bM hS U) ao U)) ?_;refine Da▸?_;induction z:aI (q<0)with
 |true=>rw[decide_eq_false (by have:=of_decide_eq_true z;exact kt.mpr (of_decide_eq_true z))];exact ao
 |false=>rw[decide_eq_true (by have:=of_decide_eq_false z;exact dh.mp (of_decide_eq_false z))];exact bM hS rfl
theorem Oq(P:vN h0 h b w mo N i f1)(hb:b<h0.length)(hN:N<99000)(hf:f1.length<=1):Y9 (aH (uS (au L Z) (bI L Z (n+8))) ⟨BO b w fs c i wt W l7 l8 .unb l10 l11 l12 l13,h,I⟩) (xQ (au L Z) (bI L Z (n+8))) h0 b w mo (N+4) fs c wt W f1 l10 l11 l12 l13:=by have P0:=P.app (t:=[.tup [.none,.str []]]);obtain⟨d1,hd1,h1,e1,W1,B1,K1⟩:=mw (L:=L) (Z:=Z) (n:=n+7) (m:=3) P0.wo P0.bx (by exact leT hN U) (by decide) (by decide);have P1:=P0.go hb W1 B1 K1;have go:∀{A:List J}{h':H},(bif aI ((d1:Int)=0)then aH (tO (au L Z) (bI L Z (n+8)))else aH []) ⟨BO b w fs c i wt W .none (.str []) .unb l10 l11 l12 l13,h1,I⟩=.ok .nxt ⟨A,h',I⟩->aH (uS (au L Z) (bI L Z (n+8))) ⟨BO b w fs c i wt W l7 l8 .unb l10 l11 l12 l13,h,I⟩=aH (xQ (au L Z) (bI L Z (n+8))) ⟨A,h',I⟩:=λe=>aG (fq (aB ao (aC ao)) U U U (bZ (bv U) (dj (bv U)))) (aG (aY (aK (aE (aJ U (aB aq (aC ao)) (b4 U (aO e1))) ao U)) e) U);induction z1:aI ((d1:Int)=0)with
 |false=>rw[z1]at go;exact⟨i,[],[],.none,.unb,h1,go aZ,.no,(λj e=>by cases e),P1.re (f1:=f1++[]) (by rw[List.append_nil];exact P1.li) P1.ge (by exact bE [_] [] 0 [] (.a (.v 0) (.l 1)) (.a (.v 0) (.l 4)) U),by decide⟩
 |true=>rw[z1]at go;obtain⟨d2,hd2,h2,e2,W2,B2,K2⟩:=mw (L:=L) (Z:=Z) (n:=n+7) (m:=5) W1 B1 (by exact bE [_] [(.a (.v 0) (.l 1),.l 99000)] 0 [1] (.a (.a (.v 0) (.l 1)) (.l 1)) (.l 100000) U hN) (by decide) (by decide);have P2:=P1.go hb W2 B2 K2;obtain⟨d3,hd3,h3,e3,W3,B3,K3⟩:=mw (L:=L) (Z:=Z) (n:=n+7) (m:=4) P2.wo P2.bx (by exact bE [_] [(.a (.v 0) (.l 1),.l 99000)] 0 [1] (.a (.a (.a (.v 0) (.l 1)) (.l 1)) (.l 1)) (.l 100000) U hN) (by decide) (by decide);have P3:=P2.go hb W3 B3 K3;have es:sO (d2:Int)=[48+d2]:=zV (by exact leT hd2 U);have s1:∀{F:lJ St Fl},aH (zx (au L Z) (bI L Z (n+8))) ⟨BO b w fs c i wt W (.int (d2:Int)) (.str [46,48+d2]) .unb l10 l11 l12 l13,h2,I⟩=F->aH (tO (au L Z) (bI L Z (n+8))) ⟨BO b w fs c i wt W .none (.str []) .unb l10 l11 l12 l13,h1,I⟩=F:=λ{F} e=>aG (bz (aJ U (aB aq (aC ao)) (b4 U (aO e2))) (bv U)) (aG (bz (bj ao (aJ U (aC aq) (DT (Jx (kj (by exact(leT hd2 rfl:d2<2^63)))))) (cC (by exact es▸Nat.le_of_ble_eq_true U))) (bv U)) (by exact es▸e));induction z3:aI ((d3:Int)=0)with
  |false=>
   have MI:i6 [46,48+d2] [] (Y d2):=by
    have:=i6.told (48+d2) (by unfold gQ;rw[Nat.ble_eq_true_of_le (by lia),Nat.ble_eq_true_of_le (by lia)];rfl)
    rwa[show 48+d2-48=d2 by lia]at this
   exact⟨i,_,_,Y d2,.unb,h3,go (s1 (bO (aY (aK (aE (aJ U (aB aq (aC ao)) (b4 U (aO e3))) ao U)) (aM z3 aZ)))),MI,(λj e=>by exact(sI e)▸bE [_] [(.a (.v 0) (.l 1),.l 5)] 0 [1] (.v 0) (.l 9) U hd2),P3.re (f1:=f1++[]) (by rw[List.append_nil];exact P3.li) P3.ge (by exact bE [_] [] 0 [] (.a (.a (.a (.v 0) (.l 1)) (.l 1)) (.l 1)) (.a (.v 0) (.l 4)) U),by decide⟩
  |true=>
   obtain⟨d4,v,hv,h4,e4,W4,B4,K4⟩:=yx (L:=L) (Z:=Z) (n:=n+7) (m:=2) (A:=BO b w fs c i wt W (.int (d2:Int)) (.str [46,48+d2]) .unb l10 l11 l12 l13) (h1:=h3) (h:=h3) (es:=[B 7,bp .Sub (B 7) (D (.int 5))]) (os:=[.int (d2:Int),.int ((d2:Int)-5)]) (aB aq (aC (bj aq ao U))) W3 B3 (by exact bE [_] [(.a (.v 0) (.l 1),.l 99000)] 0 [1] (.a (.a (.a (.a (.v 0) (.l 1)) (.l 1)) (.l 1)) (.l 1)) (.l 99999) U hN) U U (by decide) (by decide);have P4:=P3.go hb W4 B4 K4;obtain⟨q,rfl,hq⟩:∃q:Int,v=.int q/\q.natAbs<=9/\q<=9:=by
    match d4,hv with
    |0,e=>exact(sI e)▸⟨_,U,by exact(leT (Nat.le_of_lt hd2) rfl:d2<=9),by exact yL (b:=9) (leT (Nat.le_of_lt hd2) U)⟩
    |1,e=>exact(sI e)▸⟨_,U,by exact Rw d2 5 9 (leT (Nat.le_of_lt hd2) U) (Nat.le_trans (Nat.le_of_ble_eq_true U) (Nat.le_add_left 9 _)),by exact zT (J6 (v:=5) (yL (Nat.le_of_lt hd2))) U⟩
    |_+2,e=>exact nS e
   refine⟨(h4++[AO.list [.int q]]).length,[46,42],[.int q],m8 q,.int q,((h4++[AO.list [.int q]])++[AO.list (f1++[.int q])])++[AO.tup [.obj (h4++[AO.list [.int q]]).length,.str [46,42],dM (m8 q)]],go (s1 (bO (aY (aK (aE (aJ U (aB aq (aC ao)) (b4 U (aO e3))) ao U)) (br z3 ?_)))),.star _ (by exact leT hq.1 U),λj e=>?_,P4.app.app.app.re (bH ba) P4.app.kp.1 (by exact bE [_] [] 0 [] (.a (.a (.a (.a (.v 0) (.l 1)) (.l 1)) (.l 1)) (.l 1)) (.a (.v 0) (.l 4)) U),by exact Nat.le_refl 1⟩
   ·exact aG (bz e4 (bv U)) (bO (fq (aB (bj aq (gj (aC aq) U) (uX (bH P4.li) ba (by show f1.length+1<=_;exact bE [_] [(.v 0,.l 1)] 0 [1] (.a (.v 0) (.l 1)) (.l 16777216) U hf))) (aB ao (aC (El U)))) U U U (bZ (bv U) (bZ (bv U) (dj (bv U))))))
   ·unfold m8 at e
    induction z:aI (q<0)with
    |true=>rw[z]at e;exact nS e
    |false=>rw[z]at e;exact(sI e)▸mS.mpr hq.2
end
section
variable{L:Nat}{Z:List Int}{n:Nat}{h h' h0 h1:H}{w mo b N q i c:Nat}{v X l2 l5 l7 l8 l9 l10 l11 l12 l13:J}{d s fs wt mt t x fl p:List Nat}{es:List (M J)}{e:M J}{f f1 f2:List J}{W k:Int}{m:Option Nat}
theorem oo{j:Nat}(hx:x.length<=j)(hw:W<=j):(iD x W fl).length<=j:=by unfold iD;cases fl.any (Nat.beq 45)with
 |true=>simp only[cond_true,List.length_append,List.length_replicate];exact ZO hw hx
 |false=>simp only[cond_false,List.length_append,List.length_replicate];exact TP hw hx
theorem GC(hk:k.natAbs<=1000)(hw:W<=1000)(hm:∀j,m=Y j->j<=1000):(vK k q fl W m).length<=1004:=by
 have hl:(cY (baseOf q) k.natAbs).length<=1001:=by unfold cY;simp only[List.length_map];exact Nat.le_trans qx (by exact bE [_] [(.v 0,.l 1000)] 0 [1] (.a (.v 0) (.l 1)) (.l 1001) U hk)
 have hu:(sP q (cY (baseOf q) k.natAbs)).length<=1001:=by simp only[oQ];exact hl
 have hx:(jF m (sP q (cY (baseOf q) k.natAbs))).length<=1001:=rA (λi e=>by have:=hm i e;exact leT this U) hu;have hz:=rG (m:=m) (fl:=fl) (w:=W) (lead:=gp k fl++gr k q fl) (j:=1001) (by exact zT hw U) hx;have hs:(gp k fl).length<=1:=rE;have hh:(gr k q fl).length<=2:=rh;refine oo ?_ (by exact zT hw U);simp only[List.length_append,List.length_append];exact bE [_,_,_] [(.v 0,.l 1001),(.v 1,.l 1),(.v 2,.l 2)] 0 [1,1,1] (.a (.a (.v 1) (.v 2)) (.v 0)) (.l 1004) U hz hs hh
inductive ro(x:lJ St Fl)(h:H)(t:List Nat)(f:List J)(d:List Nat):Prop where
 |mk (i fi:Nat) (A:List J) (h':H) (e:x=.ok (.ret (.obj i)) ⟨A,h',I⟩) (a:h'[i]?=Y (.tup [.str t,.obj fi,.str d])) (c:h'[fi]?=Y (.list f)) (K:∀X,aD X h h'):ro x h t f d
theorem wD{ah:List J}(hf:f.length<=100)(li:h[i]?=Y (.list f))(s4:ah[4]?=Y (.obj i))(s11:ah[11]?=Y v)(nu:vE v=Y v):bp .Add (B 4) (dk [B 11]) ⟨ah,h,I⟩=.ok (.obj (h++[AO.list [v]]).length) ⟨ah,(h++[AO.list [v]])++[AO.list (f++[v])],I⟩:=
 bj (bM s4 U) (gj (aC (bM s11 nu)) U) (uX (bH li) ba (by show f.length+1<=_;exact bE [_] [(.v 0,.l 100)] 0 [1] (.a (.v 0) (.l 1)) (.l 16777216) U hf))
theorem FL{s:St}(hq:q=115\/q=112\/q=99):p8 (au L Z) .In (.str [q]) (.str [100,105,117,120,88,111,98,66]) s=.ok (.bool I) s:=by rcases hq with rfl|rfl|rfl<;>rfl
theorem FB(hq:q∈kinds)(li:h[i]?=Y (.list f))(hf:f.length<=100)(nu:vE v=Y v)(ha:k.natAbs<=1000)(hw:W<=1000)(hm:∀j,m=Y j->j<=1000):ro (aH (qe (au L Z) (bI L Z (n+8))) ⟨Lf b w (.str fl) (.str [q]) (.obj i) l5 (.int W) (dM m) l8 l9 (.str t) v (.int k) l13,h,I⟩) h t (f++[v]) (vK k q fl W m):=by obtain⟨h2,e2,K2⟩:=vQ (L:=L) (Z:=Z) (n:=n+6) (h:=(h++[AO.list [v]])++[AO.list (f++[v])]) (a:=k) (fl:=fl) (w:=W) (m:=m) hq ha hw hm;exact⟨h2.length,(h++[AO.list [v]]).length,_,h2++[.tup [.str t,.obj (h++[AO.list [v]]).length,.str (vK k q fl W m)]],bF (aY (aK (aE aq ao (x7 hq _))) (br U (bF (bK (gm (aB aq (aB (wD hf li U U nu) (aC (aJ U (aB aq (aB aq (aB aq (aB aq (aC (bM U rL)))))) (b4 U (aO e2)))))) U))))),ba,bH ((K2 []).get ba List.not_mem_nil),λX=>((aD.app.trans aD.app).trans (K2 X)).trans aD.app⟩
theorem wL(li:h[i]?=Y (.list f))(hf:f.length<=100)(nu:vE v=Y v)(hx:x.length<=1000)(hw:W<=1000):ro (aH (CT (au L Z) (bI L Z (n+8))) ⟨Lf b w (.str fl) (.str [q]) (.obj i) l5 (.int W) l7 l8 l9 (.str t) v (.str x) l13,h,I⟩) h t (f++[v]) (iD x W fl):=
 ⟨_,(h++[AO.list [v]]).length,_,_,bF (bK (gm (aB aq (aB (wD hf li U U nu) (aC (aJ U (aB aq (aB aq (aC aq))) (b4 U (aO (sx (n:=n+7) (by exact leT hx U) (by exact zT hw U)))))))) U)),ba,bH ba,λX=>(aD.app.trans aD.app).trans aD.app⟩
theorem FH(li:h[i]?=Y (.list f))(hf:f.length<=100)(nu:vE v=Y v)(hw:W<=1000):ro (aH (qe (au L Z) (bI L Z (n+8))) ⟨Lf b w (.str fl) (.str [99]) (.obj i) l5 (.int W) l7 l8 l9 (.str t) v (.str [c]) l13,h,I⟩) h t (f++[v]) (iD [c] W fl):=by obtain⟨j,fi,A,h1,e1,a1,c1,K1⟩:=wL (L:=L) (Z:=Z) (n:=n) (b:=b) (w:=w) (q:=99) (l5:=l5) (l7:=l7) (l8:=l8) (l9:=l9) (l13:=l13) (fl:=fl) (t:=t) (x:=[c]) (W:=W) li hf nu (by decide:[0].length<=1000) hw;exact⟨j,fi,A,h1,aG (aY (aK (aE aq ao (FL (.inr (.inr U))))) (aM U aZ)) (aG (aY (mX (aK (aE aq ao U)) (aM U jk)) (aM U aZ)) e1),a1,c1,K1⟩
theorem CA(hq:q=115\/q=112)(li:h[i]?=Y (.list f))(hf:f.length<=100)(nu:vE v=Y v)(hx:x.length<=1000)(hw:W<=1000):ro (aH (qe (au L Z) (bI L Z (n+8))) ⟨Lf b w (.str fl) (.str [q]) (.obj i) l5 (.int W) (dM m) l8 l9 (.str t) v (.str x) l13,h,I⟩) h t (f++[v]) (iD (uN m x) W fl):=by
 obtain⟨j,fi,A,h1,e1,a1,c1,K1⟩:=wL (L:=L) (Z:=Z) (n:=n) (b:=b) (w:=w) (q:=q) (l5:=l5) (l7:=dM m) (l8:=l8) (l9:=l9) (l13:=l13) (fl:=fl) (t:=t) (x:=uN m x) (W:=W) li hf nu (Nat.le_trans qv hx) hw;have i2:∀s,p8 (au L Z) .In (.str [q]) (.str [115,112]) s=.ok (.bool S) s:=by rcases hq with rfl|rfl<;>exact λ_=>rfl
 refine⟨j,fi,A,h1,aG (aY (aK (aE aq ao (FL (by rcases hq with rfl|rfl;exact .inl rfl;exact .inr (.inl rfl))))) (aM rfl aZ)) (aG (aY (mX (aK (aE aq ao (i2 _))) (br rfl (mR (aK (aE (bM rfl rL) ao qK))))) ?_) e1),a1,c1,K1⟩;induction m with
 |none=>exact aZ
 |some j=>exact bO (bz (dN aq ao aq (gn (by exact leT hx U))) (bv U))
end
section
variable{L:Nat}{Z:List Int}{n:Nat}{h h' h0 h1:H}{w mo b N q i c:Nat}{v X l2 l5 l7 l8 l9 l10 l11 l12 l13:J}{d s fs wt mt t x fl p:List Nat}{es:List (M J)}{e:M J}{f f1 f2:List J}{W k:Int}{m:Option Nat}
inductive BC(L:Nat)(Z:List Int)(k b w mo N:Nat)(h:H):Prop where
 |mk (i fi:Nat) (y:List Nat) (f:List J) (d:List Nat) (h':H) (e:bI L Z k I 876 [.obj b,.obj w] [] h=.ok (.obj i) h') (a:h'[i]?=Y (.tup [.str (37::y),.obj fi,.str d])) (c:h'[fi]?=Y (.list f)) (P:fj b h' y f d) (W:Wo h' w mo) (ag:im h' b N) (K:aD [b,w,mo] h h') (lf:f.length<=3) (ly:y.length<=9) (ld:d.length<=1004):BC L Z k b w mo N h
noncomputable abbrev TD(fs wt mt:List Nat)(c:Nat):List Nat:=37::(fs++(wt++(mt++[c])))
theorem OG(hl:fs.length<=5)(l1:wt.length<=1)(l2:mt.length<=2):xh (aH (xQ (au L Z) (bI L Z (n+8))) ⟨BO b w fs c i wt W (dM m) (.str mt) l9 l10 l11 l12 l13,h,I⟩) (AG (au L Z) (bI L Z (n+8))) (Lf b w (.str (Ax fs W)) (.str [c]) (.obj i) (.str wt) (.int (nh W)) (dM m) (.str mt) l9 (.str (TD fs wt mt c)) l11 l12 l13) (h++[.tup [.str (Ax fs W),.int (nh W)]]):=by
 have et:((([37]++fs)++wt)++mt)++[c]=TD fs wt mt c:=by simp only[List.append_assoc,List.cons_append,List.nil_append]
 rw[<-et];refine aG (bz (bj (bj (bj (bj ao aq (cC (by show 1+fs.length<=_;exact bE [_] [(.v 0,.l 5)] 0 [1] (.a (.l 1) (.v 0)) (.l 16777216) U hl))) aq (cC (by simp only[List.length_append];show 1+fs.length+_<=_;exact bE [_,_] [(.v 0,.l 5),(.v 1,.l 1)] 0 [1,1] (.a (.a (.l 1) (.v 0)) (.v 1)) (.l 16777216) U hl l1))) aq (cC (by simp only[List.length_append,List.length_append];show 1+fs.length+_+_<=_;exact bE [_,_,_] [(.v 0,.l 5),(.v 1,.l 1),(.v 2,.l 2)] 0 [1,1,1] (.a (.a (.a (.l 1) (.v 0)) (.v 1)) (.v 2)) (.l 16777216) U hl l1 l2))) aq (cC (by simp only[List.length_append,List.length_append,List.length_append];show 1+fs.length+_+_+1<=_;exact bE [_,_,_] [(.v 0,.l 5),(.v 1,.l 1),(.v 2,.l 2)] 0 [1,1,1] (.a (.a (.a (.a (.l 1) (.v 0)) (.v 1)) (.v 2)) (.l 1)) (.l 16777216) U hl l1 l2))) (bv U)) ?_;have e:∀(ah:List J)(P:H),ah[2]?=Y (.str fs)->ah[6]?=Y (.int W)->fD (bJ (aW (au L Z) .Lt (B 6) (D (.int 0)))) (mTup [(bp .Add (B 2) (D (.str [45]))),(bp .Sub (D (.int 0)) (B 6))]) (mTup [(B 2),(B 6)]) ⟨ah,P,I⟩=.ok (.obj P.length) ⟨ah,P++[.tup [.str (Ax fs W),.int (nh W)]],I⟩:=λah P a b=>by refine dy (aK (aE (bM b U) ao U)) ?_;unfold Ax nh;induction z:aI (W<0)with
  |true=>simp only[cond_true,cond_true,cond_true,show-W=0-W by exact(Int.zero_sub _).symm];exact gm (aB (bj (bM a U) ao (cC (by show fs.length+1<=_;exact bE [_] [(.v 0,.l 5)] 0 [1] (.a (.v 0) (.l 1)) (.l 16777216) U hl))) (aC (bj ao (bM b U) U))) rfl
  |false=>exact gm (aB (bM a U) (aC (bM b U))) rfl
 exact aG (bz (e _ _ U U) (qo U ba U (bZ (bv U) (dj (bv U))))) rfl
theorem fO.len(WI:fO wt f W):wt.length<=1/\f.length<=1:=by induction WI with
 |no=>exact⟨Nat.zero_le _,Nat.zero_le _⟩
 |told d h=>exact⟨Nat.le_refl _,Nat.zero_le _⟩
 |star q h=>exact⟨Nat.le_refl _,Nat.le_refl _⟩
theorem i6.len(MI:i6 mt f m):mt.length<=2/\f.length<=1:=by induction MI with
 |no=>exact⟨Nat.zero_le _,Nat.zero_le _⟩
 |told d h=>exact⟨Nat.le_refl _,Nat.zero_le _⟩
 |star q h=>exact⟨Nat.le_refl _,Nat.le_refl _⟩
theorem oN{iv N2:Nat}{a:J}{ak:List Nat->Int->Option Nat->List Nat}{h2:H}(e0:xh (My (au L Z) (bI L Z (n+8)) ⟨LV b w .unb,h,I⟩) (AG (au L Z) (bI L Z (n+8))) (Lf b w (.str (Ax fs W)) (.str [c]) (.obj i) l5 (.int (nh W)) l7 l8 l9 (.str (TD fs wt mt c)) l11 l12 l13) h1)
  (P:vN h h1 b w mo N i (f1++f2)) (ha:fs.all jm=S) (hl:fs.length<=5) (WI:fO wt f1 W) (MI:i6 mt f2 m) (hq:W.natAbs<=1000) (hm:∀j,m=Y j->j<=1000)
  (e1:bI L Z (n+8) I 871 [.obj b,.obj w,.str [c]] [] h1=.ok (.obj iv) h2) (av:h2[iv]?=Y (.tup [v,a])) (W2:Wo h2 w mo) (B2:im h2 b N2) (K2:aD [b,w,mo] h1 h2) (hc:Nat.beq c 37=I) (KI:gP b h2 c [v] ak)
  (dn:ro (aH (qe (au L Z) (bI L Z (n+8))) ⟨Lf b w (.str (Ax fs W)) (.str [c]) (.obj i) l5 (.int (nh W)) l7 l8 l9 (.str (TD fs wt mt c)) v a l13,h2,I⟩) h2 (TD fs wt mt c) ((f1++f2)++[v]) (ak (Ax fs W) (nh W) m)) (ld:(ak (Ax fs W) (nh W) m).length<=1004):BC L Z (n+9) b w mo N2 h:=by
 obtain⟨j,fi,A,h3,e3,a3,c3,K3⟩:=dn;have l1:=WI.len;have l2:=MI.len;rw[List.append_assoc]at c3;refine⟨j,fi,_,_,_,h3,?_,a3,c3,fj.mk fs wt mt c f1 f2 [v] W m ak ha (by exact leT hl U) WI MI (KI.ext (tc.of (K3 []) sZ.all)) hq hm,W2.keep (K3 []) λ_ _ _ _=>List.not_mem_nil,B2.any (K3 []) List.not_mem_nil,(P.kp.trans K2).trans (K3 _),?_,?_,ld⟩
 ·exact bC Nu (L0:=LV b w .unb) U (e0.trans (aG (aY (aK (aE aq ao cU)) (aM hc aZ)) (aG (bz (aJ U (aB aq (aB aq (aC aq))) (b4 U (aO e1))) (qo U av U (bZ (bv U) (dj (bv U))))) e3)))
 ·simp only[List.length_append,List.length_append];show _+(_+1)<=3;exact bE [_,_] [(.v 0,.l 1),(.v 1,.l 1)] 0 [1,1] (.a (.v 0) (.a (.v 1) (.l 1))) (.l 3) U l1.2 l2.2
 ·simp only[List.length_append,List.length_append,List.length_append];show _+(_+(_+1))<=9;exact bE [_,_,_] [(.v 0,.l 5),(.v 1,.l 1),(.v 2,.l 2)] 0 [1,1,1] (.a (.v 0) (.a (.v 1) (.a (.v 2) (.l 1)))) (.l 9) U hl l1.1 l2.1
theorem I8(W0:Wo h w mo)(B0:im h b N)(hN:N<98000):BC L Z (n+9) b w mo (N+16) h:=by
 have lb:=B0.lt;obtain⟨fs,c,i1,l13,h1,e1,ha,hl,hc,P1⟩:=O0 (L:=L) (Z:=Z) (n:=n) W0 B0 (by exact leT hN U);obtain⟨i2,wt,f1,W,h2,e2,WI,hW,P2,l1⟩:=Q3 (L:=L) (Z:=Z) (n:=n) (fs:=fs) (c:=c) (l7:=.unb) (l8:=.unb) (l9:=.unb) (l10:=.unb) (l11:=.unb) (l12:=.unb) (l13:=l13) P1 lb (by exact bE [_] [(.a (.v 0) (.l 1),.l 98000)] 0 [1] (.a (.a (.v 0) (.l 6)) (.l 1)) (.l 99000) U hN);obtain⟨i,mt,f2,m,l9,h3,e3,MI,hm,P3,l2⟩:=Oq (L:=L) (Z:=Z) (n:=n) (fs:=fs) (c:=c) (wt:=wt) (W:=W) (l7:=.unb) (l8:=.unb) (l10:=.unb) (l11:=.unb) (l12:=.unb) (l13:=l13) P2 lb (by exact bE [_] [(.a (.v 0) (.l 1),.l 98000)] 0 [1] (.a (.a (.a (.v 0) (.l 6)) (.l 3)) (.l 1)) (.l 99000) U hN) l1;have e4:=OG (L:=L) (Z:=Z) (n:=n) (b:=b) (w:=w) (c:=c) (i:=i) (W:=W) (m:=m) (l9:=l9) (l10:=.unb) (l11:=.unb) (l12:=.unb) (l13:=l13) (h:=h3) hl WI.len.1 MI.len.1;have e0:=((e1.trans e2).trans e3).trans e4;have P:=P3.app (t:=[.tup [.str (Ax fs W),.int (nh W)]]);have hq:W.natAbs<=1000:=by exact leT hW rfl
 have hm':∀j,m=Y j->j<=1000:=λj e=>Nat.le_trans (hm j e) (by decide);have aw:=(xp hq).1;have lf:(f1++f2).length<=100:=by simp only[List.length_append];exact bE [_,_] [(.v 0,.l 1),(.v 1,.l 1)] 0 [1,1] (.a (.v 0) (.v 1)) (.l 100) U l1 l2
 rcases hc with hk|rfl|rfl|rfl|rfl
 ·obtain⟨iv,h5,e5,⟨v,a,av,k,rfl,V,hk3⟩,W5,B5,K5⟩:=DN (L:=L) (Z:=Z) (n:=n) hk P.wo P.bx (by exact bE [_] [(.a (.v 0) (.l 1),.l 98000)] 0 [1] (.a (.a (.a (.a (.v 0) (.l 6)) (.l 3)) (.l 4)) (.l 1)) (.l 99000) U hN)
  exact oN e0 P ha hl WI MI hq hm' e5 av W5 (B5.up (by exact bE [_] [] 0 [] (.a (.a (.a (.a (.v 0) (.l 6)) (.l 3)) (.l 4)) (.l 3)) (.a (.v 0) (.l 16)) U)) K5 (fE (P:=λc=>Nat.beq c 37=I) U U U U U U U U c hk) (.num c v k hk V (by exact leT hk3 U)) (FB hk (K5.get P.li (P.nin lb)) lf V.nou (by exact leT hk3 U) aw hm') (GC (by exact leT hk3 U) aw hm')
 ·obtain⟨iv,h5,e5,⟨v,a,av,p,s,rfl,V,l3,l4⟩,W5,B5,K5⟩:=CD (L:=L) (Z:=Z) (n:=n) (.inl U) P.wo P.bx (by exact bE [_] [(.a (.v 0) (.l 1),.l 98000)] 0 [1] (.a (.a (.a (.a (.v 0) (.l 6)) (.l 3)) (.l 4)) (.l 1)) (.l 99000) U hN)
  exact oN e0 P ha hl WI MI hq hm' e5 av W5 (B5.up (by exact bE [_] [] 0 [] (.a (.a (.a (.a (.v 0) (.l 6)) (.l 3)) (.l 4)) (.l 1)) (.a (.v 0) (.l 16)) U)) K5 U (.plain v p s V l3) (CA (.inl U) (K5.get P.li (P.nin lb)) lf V.nou l3 aw) (Nat.le_trans (oo (Nat.le_trans qv l3) aw) (by decide))
 ·obtain⟨iv,h5,e5,⟨v,a,av,p,s,rfl,V,l3,l4⟩,W5,B5,K5⟩:=CD (L:=L) (Z:=Z) (n:=n) (.inr U) P.wo P.bx (by exact bE [_] [(.a (.v 0) (.l 1),.l 98000)] 0 [1] (.a (.a (.a (.a (.v 0) (.l 6)) (.l 3)) (.l 4)) (.l 1)) (.l 99000) U hN)
  exact oN e0 P ha hl WI MI hq hm' e5 av W5 (B5.up (by exact bE [_] [] 0 [] (.a (.a (.a (.a (.v 0) (.l 6)) (.l 3)) (.l 4)) (.l 1)) (.a (.v 0) (.l 16)) U)) K5 U (.shown v p s V l4) (CA (.inr U) (K5.get P.li (P.nin lb)) lf V.nou l4 aw) (Nat.le_trans (oo (Nat.le_trans qv l4) aw) (by decide))
 ·obtain⟨iv,h5,e5,⟨v,a,av,c,rfl,V⟩,W5,B5,K5⟩:=MJ (L:=L) (Z:=Z) (n:=n) P.wo P.bx (by exact bE [_] [(.a (.v 0) (.l 1),.l 98000)] 0 [1] (.a (.a (.a (.a (.v 0) (.l 6)) (.l 3)) (.l 4)) (.l 1)) (.l 99000) U hN)
  exact oN e0 P ha hl WI MI hq hm' e5 av W5 (B5.up (by exact bE [_] [] 0 [] (.a (.a (.a (.a (.v 0) (.l 6)) (.l 3)) (.l 4)) (.l 2)) (.a (.v 0) (.l 16)) U)) K5 U (.chr v c V) (FH (K5.get P.li (P.nin lb)) lf (by induction V<;>rfl) aw) (Nat.le_trans (oo (j:=1000) (Nat.le_of_ble_eq_true U) aw) (by decide))
 ·have PI:fj b (h3++[.tup [.str (Ax fs W),.int (nh W)]]++[.tup [.str (TD fs wt mt 37),.obj i,.str [37]]]) (fs++(wt++(mt++[37]))) (f1++(f2++[])) [37]:=fj.mk fs wt mt 37 f1 f2 [] W m (λ_ _ _=>[37]) ha (by exact leT hl U) WI MI .pct hq hm'
  rw[List.append_nil]at PI;refine⟨_,i,_,_,_,_,bC Nu (L0:=LV b w .unb) U (e0.trans (bF (aY (aK (aE aq ao cU)) (br U (bF (bK (gm (aB aq (aB aq (aC ao))) U))))))),ba,bH P.li,PI,P.wo.app,(P.bx.app).up (by exact bE [_] [] 0 [] (.a (.a (.a (.v 0) (.l 6)) (.l 3)) (.l 4)) (.a (.v 0) (.l 16)) U),P.kp.trans aD.app,by simp only[List.length_append];exact bE [_,_] [(.v 0,.l 1),(.v 1,.l 1)] 0 [1,1] (.a (.v 0) (.v 1)) (.l 3) U l1 l2,?_,by decide⟩;simp only[List.length_append,List.length_append,List.length_append];have:=WI.len.1;have:=MI.len.1;show _+(_+(_+1))<=9;lia
end
section
variable{L:Nat}{Z:List Int}{n:Nat}{h h' h0 h1:H}{w mo b N q i j:Nat}{v X l2 l5 l6 l7 l8 l9:J}{d s t x y e:List Nat}{f g:List J}
theorem UE(W:Wo h w mo)(F:rM h b):sZ b h [b,w,mo]:=⟨λi C fs e q m=>by
 rcases List.mem_cons.mp m with rfl|m
 ·exact F.off.th _ _ _ e q (.head _)
 ·exact W.off (b:=b)|>.th _ _ _ e q m,λi xs e q m=>by
 rcases List.mem_cons.mp m with rfl|m
 ·exact q rfl
 ·exact W.off (b:=b)|>.li _ _ e q m⟩
theorem eJ.one(A:fj b h y f e):eJ b h (37::y) f e:=by
 have:=eJ.place y f e A [] [] [] .nil
 rwa[List.append_nil,List.append_nil,List.append_nil]at this
theorem FS:eJ b h [37,37] [] [37]:=eJ.one (fj.mk [] [] [] 37 [] [] [] 0 .none (λ_ _ _=>[37]) U (by decide) .no .no .pct (by decide) (λj e=>by exact nS e))
theorem KG:eJ b h [37,10] [] [37,10]:=eJ.one (fj.mk [] [] [] 10 [] [] [] 0 .none (λ_ _ _=>[37,10]) U (by decide) .no .no .nl (by decide) (λj e=>by exact nS e))
structure XZ(x d:List Nat):Prop where
 p:∀(b:Nat)(h:H),eJ b h x [] d
 e:(bif eqL x [37,37]then[37]else x)=d
 lx:x.length<=4
 ld:d.length<=4
theorem MC{k:Nat}(e:([.str [],.str [97],.str [120,32,61,32],.str [37,37],.str [37,10]]:List J)[k]?=Y v):∃x d,v=.str x/\XZ x d:=by
 match k,e with
 |0,e=>exact(sI e)▸⟨_,[],U,λ_ _=>.nil,U,by decide,by decide⟩
 |1,e=>exact(sI e)▸⟨_,[97],U,λ_ _=>.lit 97 U _ _ _ .nil,U,by decide,by decide⟩
 |2,e=>exact(sI e)▸⟨_,[120,32,61,32],U,λ_ _=>.lit 120 U _ _ _ (.lit 32 U _ _ _ (.lit 61 U _ _ _ (.lit 32 U _ _ _ .nil))),U,by decide,by decide⟩
 |3,e=>exact(sI e)▸⟨_,[37],U,λ_ _=>FS,U,by decide,by decide⟩
 |4,e=>exact(sI e)▸⟨_,[37,10],U,λ_ _=>KG,U,by decide,by decide⟩
 |_+5,e=>exact nS e
noncomputable abbrev IZ(b w:Nat)(t:List Nat)(i:Nat)(d:List Nat)(l5 l6 l7 l8 l9:J):List J:=[.obj b,.obj w,.str t,.obj i,.str d,l5,l6,l7,l8,l9,.unb]
structure PR(h0 h:H)(b w mo N i:Nat)(t:List Nat)(g:List J)(d:List Nat)(j:Nat):Prop where
 p:vN h0 h b w mo N i g
 pt:eJ b h t g d
 lt:t.length<=20*j
 lg:g.length<=3*j
 ld:d.length<=1010*j
inductive Yu(x:List J->H->Prop)(h0:H)(b w mo N j:Nat):Prop where
 |mk (t:List Nat) (i:Nat) (g:List J) (d:List Nat) (l5 l6 l7 l8 l9:J) (h':H) (e:x (IZ b w t i d l5 l6 l7 l8 l9) h') (A:PR h0 h' b w mo N i t g d j):Yu x h0 b w mo N j
theorem Me(A:PR h0 h b w mo N i t g d j)(hb:b<h0.length)(hN:N<97000)(hj:j<=100):Yu (λah h'=>A4 (au L Z) (bI L Z (n+9)) ⟨IZ b w t i d l5 l6 l7 l8 l9,h,I⟩=.ok .nxt ⟨ah,h',I⟩) h0 b w mo (N+17) (j+1):=by
 obtain⟨k,v,hv,h1,e1,W1,B1,K1⟩:=yx (L:=L) (Z:=Z) (n:=n+8) (m:=5) (A:=IZ b w t i d l5 l6 l7 l8 l9) (h1:=h) (h:=h) (es:=[D (.str []),D (.str [97]),D (.str [120,32,61,32]),D (.str [37,37]),D (.str [37,10])]) (os:=[.str [],.str [97],.str [120,32,61,32],.str [37,37],.str [37,10]]) U A.p.wo A.p.bx (by exact leT hN U) U U (by decide) (by decide);obtain⟨x,du,rfl,BT⟩:=MC hv;have P1:=A.p.go hb W1 B1 K1;obtain⟨pi,fi,y,f,dp,h2,e2,a2,c2,P,W2,B2,K2,lf,ly,ldp⟩:=I8 (L:=L) (Z:=Z) (n:=n) W1 B1 (by exact bE [_] [(.a (.v 0) (.l 1),.l 97000)] 0 [1] (.a (.a (.v 0) (.l 1)) (.l 1)) (.l 98000) U hN);have P2:=P1.go hb W2 B2 K2;have E:tc b h h2:=tc.of (K1.trans K2) (UE A.p.wo A.p.bx.four);have hlt:=A.lt;have hlg:=A.lg;have hld:=A.ld;have lx:=BT.lx;have ldu:=BT.ld;have ex:∀(ah:List J)(P:H),ah[6]?=Y (.str x)->fD (bJ (aW (au L Z) .Eq (B 6) (D (.str [37,37])))) (D (.str [37])) (B 6) ⟨ah,P,I⟩=.ok (.str du) ⟨ah,P,I⟩:=λah P a=>by refine dy (p:=eqL x [37,37]) (aK (aE (bM a U) ao U)) ?_;refine BT.e▸?_;cases eqL x [37,37]with
  |true=>exact ao
  |false=>exact bM a rfl
 refine⟨(t++x)++(37::y),h2.length,g++f,(d++du)++dp,l5,.str x,.str (37::y),.obj fi,.str dp,(h2++[.list (g++f)])++[.tup [.str ((t++x)++(37::y)),.obj h2.length,.str ((d++du)++dp)]],?_,⟨P2.app.app.re (bH ba) P2.kp.1 (by exact bE [_] [] 0 [] (.a (.a (.v 0) (.l 1)) (.l 16)) (.a (.v 0) (.l 17)) U),?_,?_,?_,?_⟩⟩
 ·exact aG (bz e1 (bv U)) (aG (bz (aJ U (aB aq (aC aq)) (b4 U (aO e2))) (qo U a2 U (bZ (bv U) (bZ (bv U) (dj (bv U))))))
   (bO (fq (aB (bj (bj aq aq (cC (by exact bE [_,_,_] [(.v 0,.l 100),(.v 1,.m 20 (.v 0)),(.v 2,.l 4)] 0 [20,1,1] (.a (.v 1) (.v 2)) (.l 16777216) U hj hlt lx))) aq (cC (by simp only[List.length_append,List.length_cons];exact bE [_,_,_,_] [(.v 0,.l 100),(.v 1,.l 9),(.v 2,.m 20 (.v 0)),(.v 3,.l 4)] 0 [20,1,1,1] (.a (.a (.v 2) (.v 3)) (.a (.v 1) (.l 1))) (.l 16777216) U hj ly hlt lx))) (aB (bj aq aq (uX P2.li c2 (by exact bE [_,_,_] [(.v 0,.l 100),(.v 1,.l 3),(.v 2,.m 3 (.v 0))] 0 [3,1,1] (.a (.v 2) (.v 1)) (.l 16777216) U hj lf hlg))) (aC (bj (bj aq (ex _ _ U) (cC (by exact bE [_,_,_] [(.v 0,.l 100),(.v 1,.m 1010 (.v 0)),(.v 2,.l 4)] 0 [1010,1,1] (.a (.v 1) (.v 2)) (.l 16777216) U hj hld ldu))) aq (cC (by simp only[List.length_append];exact bE [_,_,_,_] [(.v 0,.l 100),(.v 1,.l 1004),(.v 2,.m 1010 (.v 0)),(.v 3,.l 4)] 0 [1010,1,1,1] (.a (.a (.v 2) (.v 3)) (.v 1)) (.l 16777216) U hj ldp hld ldu)))))) U U U (bZ (bv U) (bZ (bv U) (dj (bv U)))))))
 ·have:=((A.pt.ext E).app (BT.p b h2)).app (eJ.one P)
  rw[List.append_nil]at this;exact this.ext (tc.of (aD.app.trans aD.app) (sZ.all))
 ·simp only[List.length_append,List.length_append,List.length_cons];exact bE [_,_,_,_] [(.v 0,.l 9),(.v 1,.m 20 (.v 2)),(.v 3,.l 4)] 0 [1,1,1] (.a (.a (.v 1) (.v 3)) (.a (.v 0) (.l 1))) (.m 20 (.a (.v 2) (.l 1))) U ly hlt lx
 ·refine List.length_append▸?_;exact bE [_,_,_] [(.v 0,.l 3),(.v 1,.m 3 (.v 2))] 0 [1,1] (.a (.v 1) (.v 0)) (.m 3 (.a (.v 2) (.l 1))) U lf hlg
 ·simp only[List.length_append,List.length_append];exact bE [_,_,_,_] [(.v 0,.l 1004),(.v 1,.m 1010 (.v 2)),(.v 3,.l 4)] 0 [1,1,1] (.a (.a (.v 1) (.v 3)) (.v 0)) (.m 1010 (.a (.v 2) (.l 1))) U ldp hld ldu
theorem DH(hb:b<h0.length):∀(r:List J)(fl N i j:Nat)(t:List Nat)(g:List J)(d:List Nat)(l5 l6 l7 l8 l9:J)(h:H),r.length<fl->j+r.length<=50->N+17*r.length<97000->PR h0 h b w mo N i t g d j->Yu (λah h'=>dU (iV (bd 5) (A4 (au L Z) (bI L Z (n+9)))) fl (.vals r) ⟨IZ b w t i d l5 l6 l7 l8 l9,h,I⟩=.ok .nxt ⟨ah,h',I⟩) h0 b w mo (N+17*r.length) (j+r.length)
 |_,0,_,_,_,_,_,_,_,_,_,_,_,_,hf,_,_,_=>absurd hf (Nat.not_lt_zero _)
 |[],fl+1,N,i,j,t,g,d,l5,l6,l7,l8,l9,h,_,_,_,A=>⟨t,i,g,d,l5,l6,l7,l8,l9,h,Fh,A⟩
 |v::r,fl+1,N,i,j,t,g,d,l5,l6,l7,l8,l9,h,hf,hj,hN,A=>by rw[List.length_cons]at hf hj hN⊢;obtain⟨t1,i1,g1,d1,a5,a6,a7,a8,a9,h1,e1,A1⟩:=Me (L:=L) (Z:=Z) (n:=n) (l5:=v) (l6:=l6) (l7:=l7) (l8:=l8) (l9:=l9) A hb (by exact bE [_,_] [(.a (.a (.v 0) (.m 17 (.a (.v 1) (.l 1)))) (.l 1),.l 97000)] 0 [1] (.a (.v 0) (.l 1)) (.l 97000) U hN) (by exact bE [_,_] [(.a (.v 0) (.a (.v 1) (.l 1)),.l 50)] 0 [1] (.v 0) (.l 100) U hj);obtain⟨t2,i2,g2,d2,c5,c6,c7,c8,c9,h2,e2,A2⟩:=DH hb r fl (N+17) i1 (j+1) t1 g1 d1 a5 a6 a7 a8 a9 h1 (by exact bE [_,_] [(.a (.a (.v 0) (.l 1)) (.l 1),.a (.v 1) (.l 1))] 0 [1] (.a (.v 0) (.l 1)) (.v 1) U hf) (by lia) (by lia) A1;simp only[show N+17*(r.length+1)=N+17+17*r.length by exact Nat.le_antisymm (bE [_,_] [] 0 [] (.a (.v 0) (.m 17 (.a (.v 1) (.l 1)))) (.a (.a (.v 0) (.l 17)) (.m 17 (.v 1))) U) (bE [_,_] [] 0 [] (.a (.a (.v 0) (.l 17)) (.m 17 (.v 1))) (.a (.v 0) (.m 17 (.a (.v 1) (.l 1)))) U),show j+(r.length+1)=j+1+r.length by exact Nat.le_antisymm (bE [_,_] [] 0 [] (.a (.v 0) (.a (.v 1) (.l 1))) (.a (.a (.v 0) (.l 1)) (.v 1)) U) (bE [_,_] [] 0 [] (.a (.a (.v 0) (.l 1)) (.v 1)) (.a (.v 0) (.a (.v 1) (.l 1))) U)];exact⟨t2,i2,g2,d2,c5,c6,c7,c8,c9,h2,Ce (bv U) e1 e2,A2⟩
end
section
variable{L:Nat}{Z:List Int}{n:Nat}{h h' h0 h1:H}{w mo b N q i j:Nat}{v X l2 l5 l6 l7 l8 l9:J}{d s t x y e:List Nat}{f g:List J}
theorem Bl{T:aT}{s:St}:p8 T .NotEq (.str d) (.str d) s=.ok (.bool I) s:=
 dR (o:=nX (.str d) (.str d)) (f:=λt=>yes (!t)) (a:=S) (by show Y (eqL d d)=Y S;rw[nW]) rfl
theorem CI{T:aT}{A:List J}{ag:Bool}(h1:h[i]?=Y (.list g))(h2:h[j]?=Y (.list [])):p8 T .Eq (.obj i) (.obj j) ⟨A,h,ag⟩=.ok (.bool g.isEmpty) ⟨A,h,ag⟩:=by refine az (lM h1 (lM h2 (dR (a:=g.isEmpty) ?_ U))) rfl;induction g<;>rfl
theorem Hh(hl:g.length<=16777216):qk g .none (.int (-1))=Y g.dropLast:=by rw[rl (l:=0) (u:=g.length-1) U (by show Y (clip _ _)=_;unfold clip;rw[decide_eq_true (by decide),cond_true,show((-1:Int)+(g.length:Int)).toNat=g.length-1 by exact ZF _]) hl,List.dropLast_eq_take];rfl
theorem PR.go{h2:H}{N2:Nat}(A:PR h0 h b w mo N i t g d j)(hb:b<h0.length)(W2:Wo h2 w mo)(B2:im h2 b N2)(K:aD [b,w,mo] h h2):PR h0 h2 b w mo N2 i t g d j:=⟨A.p.go hb W2 B2 K,A.pt.ext (tc.of K (UE A.p.wo A.p.bx.four)),A.lt,A.lg,A.ld⟩
theorem H4(A:PR h0 h b w mo N i t g d 0)(hb:b<h0.length)(hN:N<97000):∃k h2,k<=4/\nK (fD (bJ (eB (au L Z) (B 0) (D (.int 3)))) (D (.int 2)) (bp .Add (D (.int 1)) (aN (au L Z) (bI L Z (n+24)) (.sref 845) [(B 0),(D (.int 4))] []))) ⟨IZ b w t i d .unb .unb .unb .unb .unb,h,I⟩=.ok (.vals ((List.range k).map λ(i:Nat)=>.int i)) ⟨IZ b w t i d .unb .unb .unb .unb .unb,h2,I⟩/\PR h0 h2 b w mo (N+1) i t g d 0:=by obtain⟨z,s,c,sm,a,r1,r2,r3,r4⟩:=A.p.bx;have t0:bJ (eB (au L Z) (B 0) (D (.int 3))) ⟨IZ b w t i d .unb .unb .unb .unb .unb,h,I⟩=.ok sm ⟨IZ b w t i d .unb .unb .unb .unb .unb,h,I⟩:=aK (gJ aq ao a U);induction sm with
 |true=>exact⟨2,h,by decide,nE (dy t0 (br U ao)) U,⟨A.p.up (by exact bE [_] [] 0 [] (.v 0) (.a (.v 0) (.l 1)) U),A.pt,A.lt,A.lg,A.ld⟩⟩
 |false=>obtain⟨d1,hd1,h2,e2,W2,B2,K2⟩:=mw (L:=L) (Z:=Z) (n:=n+23) (m:=4) A.p.wo A.p.bx (by exact leT hN U) (by decide) (by decide);exact⟨(1+(d1:Int)).toNat,h2,by exact(Nat.add_le_add_left (Nat.le_of_lt_succ hd1) 1:1+d1<=4),nE (dy t0 (aM U (bj ao (aJ U (aB aq (aC ao)) (b4 U (aO e2))) U))) (by rw[decide_eq_true (by exact z0 (1+d1)),decide_eq_true (by exact vA (a:=1+d1) (b:=16777216) (leT (Nat.add_le_add_left hd1 1) U))];rfl),A.go hb W2 B2 K2⟩
theorem Be(A:PR h0 h b w mo N i t g d j)(hj:j<=10)(hb:b<h0.length):Mz (λh'=>∃ah,aH (Ci (au L Z) (bI L Z (n+24))) ⟨IZ b w t i d l5 l6 l7 l8 l9,h,I⟩=.ok (.ret (.bool S)) ⟨ah,h',I⟩) (λh'=>Wo h' w mo) (λh'=>im h' b N) (λh'=>aD [b,w,mo] h0 h'):=by obtain⟨⟨W,ag,K,li,ge⟩,pt,lt,lg,ld⟩:=A;obtain⟨h1,e1,W1,K1⟩:=Cj (L:=L) (Z:=Z) (n:=n) (bX:=[]) W pt (by rw[List.append_nil];exact li) (by exact bE [_,_] [(.v 0,.l 10),(.v 1,.m 20 (.v 0))] 0 [20,1] (.v 1) (.l 20000) U hj lt) (by rw[List.append_nil];exact bE [_,_] [(.v 0,.l 10),(.v 1,.m 3 (.v 0))] 0 [3,1] (.v 1) (.l 20000) U hj lg) (by exact bE [_,_] [(.v 0,.l 10),(.v 1,.m 1010 (.v 0))] 0 [1010,1] (.v 1) (.l 20000) U hj ld);have li1:=K1.get li (W.nin li U);have pt1:=pt.ext (tc.of K1 W.off);have W2:Wo ((h1++[AO.list [.int 7]])++[AO.list (g++[.int 7])]) w mo:=W1.app.app;have K2:aD [w,mo] h1 ((h1++[AO.list [.int 7]])++[AO.list (g++[.int 7])]):=aD.app.trans aD.app;have pt2:=(pt1.ext (tc.of K2 W1.off)).app (.lit 33 U _ _ _ .nil);rw[List.append_nil]at pt2;obtain⟨h3,e3,W3,K3⟩:=Cj (L:=L) (Z:=Z) (n:=n) (bX:=[.int 7]) W2 pt2 ba (by rw[List.length_append];show _+1<=_;exact bE [_,_] [(.v 0,.l 10),(.v 1,.m 20 (.v 0))] 0 [20,1] (.a (.v 1) (.l 1)) (.l 20000) U hj lt) (by rw[List.length_append];show _+1<=_;exact bE [_,_] [(.v 0,.l 10),(.v 1,.m 3 (.v 0))] 0 [3,1] (.a (.v 1) (.l 1)) (.l 20000) U hj lg) (by rw[List.length_append];show _+1<=_;exact bE [_,_] [(.v 0,.l 10),(.v 1,.m 1010 (.v 0))] 0 [1010,1] (.a (.v 1) (.l 1)) (.l 20000) U hj ld);have K13:=K2.trans K3;have li3:=K13.get li1 (W1.nin li1 U);have pt3:=pt1.ext (tc.of K13 W1.off);have s1:∀{F:lJ St Fl},aH (FN (au L Z) (bI L Z (n+24))) ⟨IZ b w t i d l5 l6 l7 l8 l9,h3,I⟩=F->aH (Ci (au L Z) (bI L Z (n+24))) ⟨IZ b w t i d l5 l6 l7 l8 l9,h,I⟩=F:=λe=>aG (aY (qJ (aK (aE (aJ U (aB aq (aB aq (aC aq))) (b4 U (aO e1))) aq Bl)) (aM U (qX (aK (aE (aJ U (aB aq (aB (bj aq ao (cC (by show _+1<=_;exact bE [_,_] [(.v 0,.l 10),(.v 1,.m 20 (.v 0))] 0 [20,1] (.a (.v 1) (.l 1)) (.l 16777216) U hj lt))) (aC (bj aq (gj (aC ao) U) (uX (bH li1) ba (by show _+1<=_;exact bE [_,_] [(.v 0,.l 10),(.v 1,.m 3 (.v 0))] 0 [3,1] (.a (.v 1) (.l 1)) (.l 16777216) U hj lg)))))) (b4 U (aO e3))) (bj aq ao (cC (by show _+1<=_;exact bE [_,_] [(.v 0,.l 10),(.v 1,.m 1010 (.v 0))] 0 [1010,1] (.a (.v 1) (.l 1)) (.l 16777216) U hj ld))) Bl))))) (aM U aZ)) e;have K0:=(K1.trans K13).tob (b:=b);have BK:∀{h2:H},aD [w,mo] h3 h2->im h2 b N:=λk=>((ag.keep W K1).keep W1 K13).keep W3 k;induction ge0:g.isEmpty with
 |true=>refine⟨h3++[.list []],⟨_,s1 (bF (bK (Qd (aE aq (gj cy U) (CI (bH li3) ba)) (br ge0 Tk))))⟩,W3.app,BK aD.app,(K.trans K0).trans aD.app⟩
 |false=>
  have hg:g≠[]:=λe=>by rw[e]at ge0;exact nF ge0
  have K4:aD [w,mo] h3 ((h3++[AO.list []])++[AO.list g.dropLast]):=aD.app.trans aD.app;obtain⟨k,h5,e5,a5,W5,K5⟩:=Eg (L:=L) (Z:=Z) (n:=n) (vi:=(h3++[AO.list []]).length) (W3.app.app:Wo ((h3++[AO.list []])++[AO.list g.dropLast]) w mo) (pt3.ext (tc.of K4 W3.off)) hg ba (by exact bE [_,_] [(.v 0,.l 10),(.v 1,.m 20 (.v 0))] 0 [20,1] (.v 1) (.l 20000) U hj lt) (by rw[List.length_dropLast];exact Nat.le_trans (Nat.sub_le _ _) (Nat.le_trans lg (leT (Nat.mul_le_mul_left 3 hj) U)));refine⟨h5++[.list [.str aU]],⟨_,s1 (bF (bK (Qd (aE aq (gj cy U) (CI (bH li3) ba)) (aM ge0 (aE (aJ U (aB aq (aB aq (aC (KY aq ao (y6 ao) (bH li3) (Hh (by exact bE [_,_] [(.v 0,.l 10),(.v 1,.m 3 (.v 0))] 0 [3,1] (.v 1) (.l 16777216) U hj lg)))))) (b4 U (aO e5))) (gj (aC ao) U) (H8 (bH a5) ba))))))⟩,W5.app,BK ((K4.trans K5).trans aD.app),((K.trans K0).trans (K4.trans K5).tob).trans aD.app⟩
theorem ED(W:Wo h w mo)(ag:im h b N)(hN:N<90000):Mz (λh'=>bI L Z (n+25) I 890 [.obj b,.obj w] [] h=.ok (.bool S) h') (λh'=>Wo h' w mo) (λh'=>im h' b (N+100)) (λh'=>aD [b,w,mo] h h'):=by
 have lb:=ag.lt;have A0:PR h ((h++[AO.list []])++[AO.tup [.str [],.obj h.length,.str []]]) b w mo N h.length [] [] [] 0:=⟨⟨W.app.app,ag.app.app,aD.app.trans aD.app,bH ba,Nat.le_refl _⟩,.nil,by decide,by decide,by decide⟩;obtain⟨k,h1,hk,e1,A1⟩:=H4 (L:=L) (Z:=Z) (n:=n) A0 lb (by exact leT hN U);have lr:((List.range k).map λ(i:Nat)=>J.int i).length=k:=by rw[List.length_map,List.length_range]
 obtain⟨t,i,g,d,l5,l6,l7,l8,l9,h2,e2,A2⟩:=DH (L:=L) (Z:=Z) (n:=n+15) lb ((List.range k).map λ(i:Nat)=>.int i) ff (N+1) h.length 0 [] [] [] .unb .unb .unb .unb .unb h1 (by rw[lr,i5];exact bE [_] [(.v 0,.l 4)] 0 [1] (.a (.v 0) (.l 1)) (.a (.l 999999999) (.l 1)) U hk) (by rw[lr];lia) (by rw[lr];exact bE [_,_] [(.a (.v 0) (.l 1),.l 90000),(.v 1,.l 4)] 0 [1,17] (.a (.a (.a (.v 0) (.l 1)) (.m 17 (.v 1))) (.l 1)) (.l 97000) U hN hk) A1;rw[lr]at A2;obtain⟨h3,⟨ah,e3⟩,W3,B3,K3⟩:=Be (L:=L) (Z:=Z) (n:=n) (l5:=l5) (l6:=l6) (l7:=l7) (l8:=l8) (l9:=l9) A2 (by lia) lb;exact⟨h3,bC WA (L0:=[.obj b,.obj w,.unb,.unb,.unb,.unb,.unb,.unb,.unb,.unb,.unb]) U (aG (fq (aB ao (aB (gj cy U) (aC ao))) U U U (bZ (bv U) (bZ (bv U) (dj (bv U))))) (aG (si U e1 e2) e3)),W3,B3.up (by exact bE [_,_] [(.v 0,.l 4)] 0 [17] (.a (.a (.v 1) (.l 1)) (.m 17 (.v 0))) (.a (.v 1) (.l 100)) U hk),K3⟩
end
section
variable{b a k:Nat}{x y z p q r w:List Nat}{c d:Nat}{base sz:Int}{v:J}
theorem nC:∀(y:List Nat)(f:Int)(j:Bool),ij sz S (y++[95]) f j=.none\/∃f',ij sz S (y++[95]) f j=Y (f',I)
 |[],f,j=>by induction j with
  |true=>exact .inr ⟨f,U⟩
  |false=>exact .inl rfl
 |c::y,f,j=>by show(bif aI (0<=cG c)&&aI (cG c<sz)then ij sz S (y++[95]) (f*sz+cG c) S else bif Nat.beq c 95&&j then ij sz S (y++[95]) f I else hH)=hH\/∃f',(bif aI (0<=cG c)&&aI (cG c<sz)then ij sz S (y++[95]) (f*sz+cG c) S else bif Nat.beq c 95&&j then ij sz S (y++[95]) f I else hH)=Y (f',I);cases aI (0<=cG c)&&aI (cG c<sz)with
  |true=>exact nC y _ S
  |false=>cases Nat.beq c 95&&j with
   |true=>exact nC y _ I
   |false=>exact .inl rfl
theorem ut(hf:aI (0<=cG c)=I)(h95:Nat.beq c 95=I):∀(y:List Nat)(f:Int)(j:Bool),ij sz S (y++c::r) f j=.none
 |[],f,j=>by show(bif aI (0<=cG c)&&_ then _ else bif Nat.beq c 95&&j then _ else hH)=hH;rw[hf,h95];rfl
 |d::y,f,j=>by show(bif aI (0<=cG d)&&aI (cG d<sz)then ij sz S (y++c::r) (f*sz+cG d) S else bif Nat.beq d 95&&j then ij sz S (y++c::r) f I else hH)=hH;cases aI (0<=cG d)&&aI (cG d<sz)with
  |true=>exact ut hf h95 y _ S
  |false=>cases Nat.beq d 95&&j with
   |true=>exact ut hf h95 y _ I
   |false=>rfl
theorem MG:o6 10 y=(10,fh y):=by
 have e:∀p own,TG 10 own=I->∀q,di 10 p own q=q:=λp own h q=>by unfold di;rw[h,ku];rfl
 unfold o6;rw[e _ 16 (by decide),e _ 2 (by decide),e _ 8 (by decide)]
theorem nU(e:lN S w=y):fN w 10 S=y8 S (eqL (y.take 1) [45]) (ij 10 S (fh y) 0 I):=by unfold fN;rw[e,MG];rfl
theorem FY{neg:Bool}{o:Option (Int×Bool)}(h:o=.none\/∃f,o=Y (f,I)):y8 S neg o=.none:=by rcases h with rfl|⟨f,rfl⟩<;>rfl
theorem rJ{c c':Nat}{r r':List Nat}(e:z=c::r)(hc:isBlank jD c=I)(e':z.reverse=c'::r')(hc':isBlank jD c'=I):lN S z=z:=by
 have:=uR (s:=S) (p:=[]) (q:=[]) (.inl U) (.inl U) e hc e' hc'
 rwa[List.nil_append,List.append_nil,cond_true,List.append_nil]at this
theorem sB(hc:gu c=S):fh (c::r)=c::r:=(rF (sg:=[]) hc (.inl U)).1
theorem Jl(R:gq b a x):fN (x++[95]) 10 S=.none:=by obtain⟨c,r,e,h0,hw⟩:=R.first;rw[nU (rJ (z:=x++[95]) (c:=c) (r:=r++[95]) (c':=95) (r':=x.reverse) (by rw[e];rfl) (jY hw) (by rw[List.reverse_append];rfl) U),e,List.cons_append,sB hw,<-List.cons_append];exact FY (nC _ 0 I)
theorem ES(R:gq b a x){t:List Nat}{c':Nat}(hf:aI (0<=cG c')=I)(h95:Nat.beq c' 95=I){d':Nat}{r':List Nat}(ht:(c'::t).reverse=d'::r')(hd:isBlank jD d'=I):fN (x++c'::t) 10 S=.none:=by obtain⟨c,r,e,h0,hw⟩:=R.first;rw[nU (rJ (z:=x++c'::t) (c:=c) (r:=r++c'::t) (c':=d') (r':=r'++x.reverse) (by rw[e];rfl) (jY hw) (by rw[List.reverse_append,ht];rfl) hd),e,List.cons_append,sB hw,<-List.cons_append,ut hf h95];rfl
theorem DR(R:gq b a x){t:List Nat}{c:Nat}(hc:isBlank jD c=I)(hs:∀neg,y8 S neg (ij 10 S (fh (c::t++x)) 0 I)=.none):fN (c::t++x) 10 S=.none:=by obtain⟨c3,r3,e3,hw3⟩:=R.last (y:=c::t);rw[nU (rJ (z:=c::t++x) U hc e3 (jY hw3))];exact hs _
def jZ(w x:List Nat):Int:=bif !eqL (w.take 1) [48]then 10 else bif eqL w (x++[95])then 10 else 0
theorem tM(h:eqL (w.take 1) [48]=I):jZ w x=10:=by unfold jZ;rw[h];rfl
theorem Ea:jZ (x++[95]) x=10:=by unfold jZ;rw[nW];cases eqL ((x++[95]).take 1) [48]<;>rfl
theorem kQ(R:gq b a x)(hd:Nat.beq d 95=I):jZ (48::d::r) x=0:=by
 obtain⟨c,r',e,h0,hw⟩:=R.first;have:eqL (48::d::r) (x++[95])=I:=by rw[e];show(Nat.beq 48 c&&eqL (d::r) (r'++[95]))=I;induction t:Nat.beq 48 c with
  |false=>rfl
  |true=>rw[h0 (Nat.eq_of_beq_eq_true t).symm];show(Nat.beq d 95&&_)=I;rw[hd];rfl
 unfold jZ;rw[this];rfl
structure Ii(w x:List Nat):Prop where
 r:fN w (jZ w x) S=.none
 a:bV w=S
 l:w.length<=100
theorem jK(h1:bV x=S)(h2:bV y=S):bV (x++y)=S:=by unfold bV at*;simp only[List.all_append,h1,h2];rfl
noncomputable abbrev GL(x:List Nat):List (List Nat):=[x++[95],95::([]++x),49::([95,95]++x),x++32::[49],x++45::[],[],[45],[43],[48,120],45::([32]++x),[48,98,50],[48,111,56]]
theorem wI(R:gq b a x){t:List Nat}{c':Nat}(hf:aI (0<=cG c')=I)(h95:Nat.beq c' 95=I){d':Nat}{r':List Nat}(ht:(c'::t).reverse=d'::r')(hd:isBlank jD d'=I)(h48:fN (48::c'::t) 0 S=.none)(ha:bV (c'::t)=S)(hl:t.length<=10):Ii (x++c'::t) x:=by obtain⟨c,r,e,h0,hw⟩:=R.first;refine⟨?_,jK (iZ R.ok) ha,by have:=R.ln;simp only[List.length_append,List.length_cons];exact bE [_,_] [(.v 0,.l 10),(.v 1,.l 60)] 0 [1,1] (.a (.v 1) (.a (.v 0) (.l 1))) (.l 100) U hl this⟩;induction z:Nat.beq c 48 with
 |true=>
  have ec:=Nat.eq_of_beq_eq_true z;have ex:x=[48]:=by exact e▸(h0 ec)▸ec▸rfl
  have w0:=kQ (d:=c') (r:=t) R h95;rw[ex]at w0⊢;simp only[List.cons_append,List.nil_append,w0];exact h48
 |false=>rw[tM (by rw[e];show(Nat.beq c 48&&S)=I;simp only[z];rfl)];exact ES R hf h95 ht hd
theorem rm(R:gq b a x){t:List Nat}{c:Nat}(hc:isBlank jD c=I)(h48:Nat.beq c 48=I)(hs:∀neg,y8 S neg (ij 10 S (fh (c::t++x)) 0 I)=.none)(ha:bV (c::t)=S)(hl:t.length<=10):Ii (c::t++x) x:=
 ⟨by rw[tM (by show(Nat.beq c 48&&S)=I;rw[h48];rfl)];exact DR R hc hs,jK ha (iZ R.ok),by have:=R.ln;simp only[List.length_append,List.length_cons];exact bE [_,_] [(.v 0,.l 10),(.v 1,.l 60)] 0 [1,1] (.a (.a (.v 0) (.l 1)) (.v 1)) (.l 100) U hl this⟩
theorem HD(R:gq b a x){k:Nat}(e:(GL x)[k]?=Y w):Ii w x:=by
 match k,e with
 |0,e=>exact(sI e)▸⟨by rw[Ea];exact Jl R,jK (iZ R.ok) U,by have:=R.ln;rw[List.length_append];show _+1<=_;exact bE [_] [(.v 0,.l 60)] 0 [1] (.a (.v 0) (.l 1)) (.l 100) U this⟩
 |1,e=>exact(sI e)▸rm R U U (λneg=>rfl) U (by decide)
 |2,e=>exact(sI e)▸rm R U U (λneg=>rfl) U (by decide)
 |3,e=>exact(sI e)▸wI R (by decide) U U U U U (by decide)
 |4,e=>exact(sI e)▸wI R (by decide) U U U U U (by decide)
 |5,e=>exact(sI e)▸⟨U,U,by decide⟩
 |6,e=>exact(sI e)▸⟨U,U,by decide⟩
 |7,e=>exact(sI e)▸⟨U,U,by decide⟩
 |8,e=>exact(sI e)▸⟨by rw[kQ R rfl];rfl,U,by decide⟩
 |9,e=>exact(sI e)▸rm R U U (λneg=>rfl) U (by decide)
 |10,e=>exact(sI e)▸⟨by rw[kQ R rfl];rfl,U,by decide⟩
 |11,e=>exact(sI e)▸⟨by rw[kQ R rfl];rfl,U,by decide⟩
 |_+12,e=>exact nS e
end
section
variable{L:Nat}{Z:List Int}{n:Nat}{hd:Bool}{h h' h0 h1:H}{w mo b N i k a bs:Nat}{v l1 l2 l3 l4 l5 l6 l7 l8 l9:J}{x y sg fr p q:List Nat}{g:Nat->Nat}
noncomputable def rD(k:Nat)(r:List Nat):List Nat:=bif aI ((k:Int)>0)then(r.take k++[95])++r.drop k else r
def Ev(up:Bool)(r:List Nat):List Nat:=bif up then r.map DW else r
structure MS(b a:Nat)(x:List Nat):Prop where
 row:gq b a x
 oct:b=8->fN (48::x.filter (λd=>!Nat.beq d 95)) 0 S=.int (a:Int)
theorem JB(G:J5 g){ds:List Nat}(h:∀d∈ds,d<36):(ds.map g).filter (λd=>!Nat.beq d 95)=ds.map g:=List.filter_eq_self.mpr λc m=>by obtain⟨d,hd,rfl⟩:=List.mem_map.mp m;induction z:Nat.beq (g d) 95 with
 |false=>rfl
 |true=>
  have:=G.f d (h d hd);rw[Nat.eq_of_beq_eq_true z]at this;have e:cG 95=-1:=by decide
  lia
theorem Nx(G:J5 g)(g0:g 0=48)(hb:2<=b)(hb2:b<=36)(ha:a<1000000)(hk:k<(digs b (a+1) a).length):MS b a (bif aI ((k:Int)>0)then((digs b (a+1) a).take k).map g++95::((digs b (a+1) a).drop k).map g else(digs b (a+1) a).map g):=by have lt:∀d∈digs b (a+1) a,d<b:=on hb;induction z:aI ((k:Int)>0)with
 |false=>exact⟨rz G hb hb2 ha,λe=>by subst e;simp only[cond_false,JB G λd m=>Nat.lt_of_lt_of_le (lt d m) hb2];exact yY G g0 ha⟩
 |true=>
  have hk0:=of_decide_eq_true z;refine⟨KN G hb hb2 ha (by exact fw.mp (of_decide_eq_true z)) hk,λe=>?_⟩;subst e;simp only[cond_true,List.filter_append,List.filter_cons,JB G λd m=>Nat.lt_of_lt_of_le (lt d (List.mem_of_mem_take m)) hb2,JB G λd m=>Nat.lt_of_lt_of_le (lt d (List.mem_of_mem_drop m)) hb2];have:(((digs 8 (a+1) a).take k).map g++if(!Nat.beq 95 95)=S then 95::((digs 8 (a+1) a).drop k).map g else((digs 8 (a+1) a).drop k).map g)=(digs 8 (a+1) a).map g:=by rw[if_neg (by decide),<-List.map_append,List.take_append_drop]
  exact this▸yY G g0 ha
theorem N1(hb:2<=b)(hb2:b<=36)(ha:a<1000000)(hk:k<(cY b a).length)(up:Bool):MS b a (Ev up (rD k (cY b a))):=by
 have hk:k<(digs b (a+1) a).length:=by unfold cY at hk;rwa[List.length_map]at hk
 induction up with
 |false=>have:=Nx Ds U hb hb2 ha hk;unfold Ev rD cY;rw[cond_false,<-List.map_take,<-List.map_drop,List.append_assoc];exact this
 |true=>
  have:=Nx QJ U hb hb2 ha hk;have e:Ev S (rD k (cY b a))=bif aI ((k:Int)>0)then((digs b (a+1) a).take k).map (λd=>DW (jO d))++95::((digs b (a+1) a).drop k).map (λd=>DW (jO d))else(digs b (a+1) a).map (λd=>DW (jO d)):=by unfold Ev rD cY;simp only[cond_true];cases aI ((k:Int)>0)with
   |true=>rw[cond_true,cond_true,List.map_append,List.map_append,<-List.map_take,<-List.map_drop,List.map_map,List.map_map,List.append_assoc];rfl
   |false=>simp only[cond_false,cond_false,List.map_map];rfl
  exact e▸this
noncomputable abbrev pP(b:Nat)(l1 l2 l3 l4 l5 l6 l7 l8 l9:J):List J:=[.obj b,l1,l2,l3,l4,l5,l6,l7,l8,l9,.unb]
structure RH(h0 h:H)(b w mo N:Nat):Prop where
 wo:Wo h w mo
 bx:im h b N
 kp:aD [b,w,mo] h0 h
theorem RH.go{N2:Nat}(R:RH h0 h b w mo N)(W:Wo h' w mo)(ag:im h' b N2)(K:aD [b,w,mo] h h'):RH h0 h' b w mo N2:=⟨W,ag,R.kp.trans K⟩
theorem RH.all(R:RH h0 h b w mo N)(K:∀X,aD X h h'):RH h0 h' b w mo N:=⟨R.wo.keep (K []) λ_ _ _ _=>List.not_mem_nil,R.bx.any (K []) List.not_mem_nil,R.kp.trans (K _)⟩
abbrev pQ(bs:Nat):Prop:=bs=10\/bs=16\/bs=2\/bs=8\/bs=36
theorem pQ.le(ag:pQ bs):2<=bs/\bs<=36:=by rcases ag with rfl|rfl|rfl|rfl|rfl<;>decide
theorem Ke{d:Nat}(e:([.int 10,.int 16,.int 2,.int 8,.int 36]:List J)[d]?=Y v):∃bs:Nat,v=.int (bs:Int)/\pQ bs:=by
 match d,e with
 |0,e=>exact(sI e)▸⟨10,U,.inl U⟩
 |1,e=>exact(sI e)▸⟨16,U,.inr (.inl U)⟩
 |2,e=>exact(sI e)▸⟨2,U,.inr (.inr (.inl U))⟩
 |3,e=>exact(sI e)▸⟨8,U,.inr (.inr (.inr (.inl U)))⟩
 |4,e=>exact(sI e)▸⟨36,U,.inr (.inr (.inr (.inr U)))⟩
 |_+5,e=>exact nS e
theorem LZ{d:Nat}(e:([.str [],.str [45],.str [43]]:List J)[d]?=Y v):∃sg,v=.str sg/\gN sg:=by
 match d,e with
 |0,e=>exact(sI e)▸⟨_,U,.inl U⟩
 |1,e=>exact(sI e)▸⟨_,U,.inr (.inl U)⟩
 |2,e=>exact(sI e)▸⟨_,U,.inr (.inr U)⟩
 |_+3,e=>exact nS e
theorem SV{d:Nat}(e:([.str [32],.str [],.str [10]]:List J)[d]?=Y v):∃q,v=.str q/\dl q:=by
 match d,e with
 |0,e=>obtain rfl:=sI e;exact⟨_,U,.inr (.inl U)⟩
 |1,e=>obtain rfl:=sI e;exact⟨_,U,.inl U⟩
 |2,e=>obtain rfl:=sI e;exact⟨_,U,.inr (.inr (.inr U))⟩
 |_+3,e=>exact nS e
theorem LY{d:Nat}(e:([.str [],.str [32],.str [9]]:List J)[d]?=Y v):∃q,v=.str q/\dl q:=by
 match d,e with
 |0,e=>exact(sI e)▸⟨_,U,.inl U⟩
 |1,e=>exact(sI e)▸⟨_,U,.inr (.inl U)⟩
 |2,e=>exact(sI e)▸⟨_,U,.inr (.inr (.inl U))⟩
 |_+3,e=>exact nS e
theorem MT{s:St}:Ih .Pow (.int 10) (.int 6) s=.ok (.int ((1000000:Nat):Int)) s:=Dg U (by decide) (by decide)
inductive Za(x:lJ St Fl)(ms:List (M Fl))(h0:H)(b w mo N:Nat):Prop where
 |mk (bs a k:Nat) (sg:List Nat) (h':H) (e:xh x ms (pP b (.int (bs:Int)) (.int (a:Int)) (.str sg) (.str (cY bs a)) (.int (k:Int)) .unb .unb .unb .unb) h') (hb:pQ bs) (ha:a<1000000) (hs:gN sg) (hk:k<(cY bs a).length) (R:RH h0 h' b w mo N):Za x ms h0 b w mo N
theorem Wr(R:RH h0 h b w mo N)(hN:N<90000):Za (QC (au L Z) (bI L Z (n+24)) ⟨pP b .unb .unb .unb .unb .unb .unb .unb .unb .unb,h,I⟩) (BL (au L Z) (bI L Z (n+24))) h0 b w mo (N+4):=by
 obtain⟨d1,v,hv,h1,e1,W1,B1,K1⟩:=yx (L:=L) (Z:=Z) (n:=n+23) (m:=5) (A:=pP b .unb .unb .unb .unb .unb .unb .unb .unb .unb) (h1:=h) (h:=h) (es:=[D (.int 10),D (.int 16),D (.int 2),D (.int 8),D (.int 36)]) (os:=[.int 10,.int 16,.int 2,.int 8,.int 36]) U R.wo R.bx (by exact leT hN U) U U (by decide) (by decide);obtain⟨bs,rfl,hb⟩:=Ke hv;obtain⟨a,ha,h2,e2,W2,B2,K2⟩:=mw (L:=L) (Z:=Z) (n:=n+23) (m:=1000000) W1 B1 (by exact bE [_] [(.a (.v 0) (.l 1),.l 90000)] 0 [1] (.a (.a (.v 0) (.l 1)) (.l 1)) (.l 100000) U hN) (by decide) (by decide);obtain⟨d3,v3,hv3,h3,e3,W3,B3,K3⟩:=yx (L:=L) (Z:=Z) (n:=n+23) (m:=3) (A:=pP b (.int (bs:Int)) .unb .unb .unb .unb .unb .unb .unb .unb) (h1:=h2) (h:=h2) (es:=[D (.str []),D (.str [45]),D (.str [43])]) (os:=[.str [],.str [45],.str [43]]) U W2 B2 (by exact bE [_] [(.a (.v 0) (.l 1),.l 90000)] 0 [1] (.a (.a (.a (.v 0) (.l 1)) (.l 1)) (.l 1)) (.l 99999) U hN) U U (by decide) (by decide);obtain⟨sg,rfl,hs⟩:=LZ hv3;have R3:=((((R.go W1 B1 K1).go W2 B2 K2).go W3 B3 K3).all (λX=>aD.app (t:=[.tup [.int (a:Int),.str sg]])));obtain⟨h4,e4,K4⟩:=ka (L:=L) (Z:=Z) (n:=n+23) (h:=h3++[.tup [.int (a:Int),.str sg]]) (b:=bs) (m:=a) hb.le.1 hb.le.2 (by exact bE [_] [(.a (.v 0) (.l 1),.l 1000000)] 0 [1] (.v 0) (.l 1000000) U ha);have R4:=R3.all K4;have lf:(cY bs a).length<=20:=by unfold cY;rw[List.length_map];exact mP hb.le.1 ha
 have lp:0<(cY bs a).length:=by obtain⟨d,r,e,_⟩:=oq hb.le.1 (Nat.lt_succ_self a);unfold cY;exact e▸Nat.succ_pos _
 obtain⟨k,hk,h5,e5,W5,B5,K5⟩:=mw (L:=L) (Z:=Z) (n:=n+23) (m:=(cY bs a).length) R4.wo R4.bx (by exact bE [_] [(.a (.v 0) (.l 1),.l 90000)] 0 [1] (.a (.a (.a (.a (.v 0) (.l 1)) (.l 1)) (.l 1)) (.l 1)) (.l 100000) U hN) lp (by exact bE [_] [(.v 0,.l 20)] 0 [1] (.a (.v 0) (.l 1)) (.l 1073741824) U lf);refine⟨bs,a,k,sg,h5,?_,hb,ha,hs,hk,R4.go W5 B5 K5⟩;exact aG (bz e1 (bv U)) (aG (fq (aB (aJ U (aB aq (aC (bj ao ao MT))) (b4 U (aO e2))) (aC e3)) U U U (bZ (bv U) (dj (bv U))))
  (aG (bz (aJ U (aB aq (aC aq)) (b4 U (aO e4))) (bv U)) (aG (bz (aJ U (aB aq (aC (aJ U (aC aq) (iq (fM (by exact leT lf U)))))) (b4 U (aO e5))) (bv U)) U)))
inductive Zn(x:lJ St Fl)(ms:List (M Fl))(h0:H)(b w mo N bs a:Nat)(l2 l3 l5:J):Prop where
 |mk (r fr:List Nat) (h':H) (e:xh x ms (pP b (.int (bs:Int)) l2 l3 (.str r) l5 (.str fr) .unb .unb .unb) h') (F:dJ bs fr) (X:MS bs a r) (R:RH h0 h' b w mo N):Zn x ms h0 b w mo N bs a l2 l3 l5
theorem D9(hb:pQ bs):∃o fr,Nc (.int (bs:Int)) [((.int 16),(.str [48,120])),((.int 2),(.str [48,98])),((.int 8),(.str [48,111]))]=Y o/\o.getD (.str [])=.str fr/\dJ bs fr:=by
 rcases hb with rfl|rfl|rfl|rfl|rfl
 ·exact⟨_,_,U,U,.no _⟩
 ·exact⟨_,_,U,U,.x⟩
 ·exact⟨_,_,U,U,.b⟩
 ·exact⟨_,_,U,U,.o⟩
 ·exact⟨_,_,U,U,.no _⟩
theorem VG(R:RH h0 h b w mo N)(hN:N<90000)(hb:pQ bs)(ha:a<1000000)(hk:k<(cY bs a).length):Zn (aH (BL (au L Z) (bI L Z (n+24))) ⟨pP b (.int (bs:Int)) l2 l3 (.str (cY bs a)) (.int (k:Int)) .unb .unb .unb .unb,h,I⟩) (A8 (au L Z) (bI L Z (n+24))) h0 b w mo (N+2) bs a l2 l3 (.int (k:Int)):=by
 have lf:(cY bs a).length<=20:=by unfold cY;simp only[List.length_map];exact mP hb.le.1 ha
 obtain⟨d1,hd1,h1,e1,W1,B1,K1⟩:=mw (L:=L) (Z:=Z) (n:=n+23) (m:=2) R.wo R.bx (by exact leT hN U) (by decide) (by decide);obtain⟨d2,hd2,h2,e2,W2,B2,K2⟩:=mw (L:=L) (Z:=Z) (n:=n+23) (m:=3) W1 B1 (by exact bE [_] [(.a (.v 0) (.l 1),.l 90000)] 0 [1] (.a (.a (.v 0) (.l 1)) (.l 1)) (.l 100000) U hN) (by decide) (by decide);have s4:∀(ah:List J)(P:H),ah[4]?=Y (.str (cY bs a))->ah[5]?=Y (.int (k:Int))->fD (bJ (aW (au L Z) .Gt (B 5) (D (.int 0)))) (bp .Add (bp .Add (fU (au L Z) (B 4) (D .none) (B 5)) (D (.str [95]))) (fU (au L Z) (B 4) (B 5) (D .none))) (B 4) ⟨ah,P,I⟩=.ok (.str (rD k (cY bs a))) ⟨ah,P,I⟩:=λah P a4 a5=>by refine dy (aK (aE (bM a5 U) ao U)) ?_;unfold rD;cases aI ((k:Int)>0)with
  |true=>exact bj (bj (dN (bM a4 U) ao (bM a5 U) (gn (by exact leT lf U))) ao (cC (by simp only[List.length_take];show _+1<=_;exact leT (Nat.succ_le_succ (Nat.le_trans (Nat.min_le_right _ _) lf)) U))) (dN (bM a4 U) (bM a5 U) ao (tJ (by exact leT lf U))) (cC (by simp only[List.length_append,List.length_take,List.length_drop];show _+1+_<=_;exact leT (Zv hk lf) U))
  |false=>exact bM a4 rfl
 obtain⟨o,fr0,f1,f2,F0⟩:=D9 hb;have s5:∃fr,dJ bs fr/\fD (bJ (aW (au L Z) .Eq (aN (au L Z) (bI L Z (n+24)) (.sref 845) [(B 0),(D (.int 2))] []) (D (.int 0)))) (qn [((.int 16),(.str [48,120])),((.int 2),(.str [48,98])),((.int 8),(.str [48,111]))] (B 1) (D (.str []))) (D (.str [])) ⟨pP b (.int (bs:Int)) l2 l3 (.str (rD k (cY bs a))) (.int (k:Int)) .unb .unb .unb .unb,h,I⟩=.ok (.str fr) ⟨pP b (.int (bs:Int)) l2 l3 (.str (rD k (cY bs a))) (.int (k:Int)) .unb .unb .unb .unb,h1,I⟩:=by induction z:aI ((d1:Int)=0)with
  |true=>exact⟨fr0,F0,dy (aK (aE (aJ U (aB aq (aC ao)) (b4 U (aO e1))) ao U)) (br z (by exact f2▸BG aq ao f1))⟩
  |false=>exact⟨[],.no _,dy (aK (aE (aJ U (aB aq (aC ao)) (b4 U (aO e1))) ao U)) (aM z ao)⟩
 obtain⟨fr,F,e5⟩:=s5;have X:=N1 hb.le.1 hb.le.2 ha hk (aI ((d2:Int)=0));have X0:=(N1 hb.le.1 hb.le.2 ha hk I).row;have X0:(rD k (cY bs a)).all gu=S/\(rD k (cY bs a)).length<=60:=⟨X0.ok,X0.ln⟩;have s6:fD (bJ (aW (au L Z) .Eq (aN (au L Z) (bI L Z (n+24)) (.sref 845) [(B 0),(D (.int 3))] []) (D (.int 0)))) (bk (au L Z) (bI L Z (n+24)) (B 4) 39 (am "upper") []) (B 4) ⟨pP b (.int (bs:Int)) l2 l3 (.str (rD k (cY bs a))) (.int (k:Int)) (.str fr) .unb .unb .unb,h1,I⟩=.ok (.str (Ev (aI ((d2:Int)=0)) (rD k (cY bs a)))) ⟨pP b (.int (bs:Int)) l2 l3 (.str (rD k (cY bs a))) (.int (k:Int)) (.str fr) .unb .unb .unb,h2,I⟩:=by refine dy (aK (aE (aJ U (aB aq (aC ao)) (b4 U (aO e2))) ao U)) ?_;unfold Ev;cases aI ((d2:Int)=0)with
  |true=>exact aR aq (Cp U cy (zv (by lia) (iZ X0.1)))
  |false=>exact aM U aq
 exact⟨_,fr,h2,aG (bz (s4 _ _ U U) (bv U)) (aG (bz e5 (bv U)) (aG (bz s6 (bv U)) U)),F,X,(R.go W1 B1 K1).go W2 B2 K2⟩
end
section
variable{L:Nat}{Z:List Int}{n:Nat}{hd:Bool}{h h' h0 h1:H}{w mo b N i k a bs:Nat}{v l1 l2 l3 l4 l5 l6 l7 l8 l9:J}{x y sg fr p q t:List Nat}{g:Nat->Nat}
theorem OF{v1 v2:J}:bI L Z (n+1) hd 386 [v1,v2] [] h=bI L Z (n+1) hd 386 [v1,v2,.bool I] [] h:=(Dz n hd _ [v1,v2,.bool I] h U).trans (Dz n hd [v1,v2,.bool I] [v1,v2,.bool I] h U).symm
theorem Wl:(ft 386).map (λfi=>(fi.pn.length,fi.dfl.length,(fi.pn[2]?).bind (lA (au L Z))))=Y (3,1,Y 72):=by kernel_rfl
theorem V4{v1 v2 v3:J}:bI L Z (n+1) hd 386 [v1,v2] [(72,v3)] h=bI L Z (n+1) hd 386 [v1,v2,v3] [] h:=by
 obtain⟨fi,e1,e2⟩:=aP.mp (Wl (L:=L) (Z:=Z));rw[lC,lC]at e2;obtain⟨e3,e4,e5⟩:=e2;have b1:tN (au L Z) fi [v1,v2] [(72,v3)]=Y [v1,v2,v3]:=by show(bif S&&Nat.beq fi.pn.length 3&&Nat.beq fi.dfl.length 1&&S&&((fi.pn[2]?).bind (lA (au L Z))==Y 72)then Y [v1,v2,v3]else .none)=_;rw[e3,e4,e5];rfl
 have b2:tN (au L Z) fi [v1,v2,v3] []=Y [v1,v2,v3]:=by show zg fi.pn.length fi.dfl [v1,v2,v3]=_;unfold zg;rw[e3,e4,List.drop_eq_nil_of_le (by rw[e4];exact Nat.le_of_ble_eq_true U)];rfl
 show(match ft 386 with
  |some fi=>y7 (au L Z) (bI L Z n) fi hd [v1,v2] [(72,v3)] h
  |.none=>.stuck)=(match ft 386 with
  |some fi=>y7 (au L Z) (bI L Z n) fi hd [v1,v2,v3] [] h
  |.none=>.stuck)
 rw[e1];unfold y7;dsimp only;exact b1▸b2▸rfl
theorem Kc{T:aT}{G:cI}{a:J}{es:List (M J)}{vs kv:List J}{ks:List (Nat×M J)}{s s1 s2:St}{R:lJ St J}(hc:kr T a=S)(h1:df es s=.ok vs s1)(h2:df (ks.map (·.2)) s1=.ok kv s2)(h3:pq T G a vs ((ks.map (·.1)).zip kv) s2=R):aN T G a es ks s=R:=S3 hc h1 h2 h3
theorem uU{T:aT}{k:Int}{s:St}:p8 T .NotEq (.int k) (.int k) s=.ok (.bool I) s:=
 dR (o:=nX (.int k) (.int k)) (f:=λt=>yes (!t)) (a:=S) (by show Y (aI (k=k))=Y S;rw[decide_eq_true rfl]) rfl
abbrev La(h h':H):Prop:=∀X,aD X h h'
noncomputable abbrev Ah(p sg fr x q:List Nat):List Nat:=(((p++sg)++fr)++x)++q
theorem xm:Ah p sg fr x q=p++((sg++(fr++x))++q):=by simp only[Ah,List.append_assoc]
theorem zi(hs:gN sg):bV sg=S/\sg.length<=1:=by rcases hs with rfl|rfl|rfl<;>decide
theorem qj(hq:dl q):bV q=S/\q.length<=1:=by rcases hq with rfl|rfl|rfl|rfl<;>decide
theorem dJ.ok(F:dJ bs fr):bV fr=S/\fr.length<=2:=by induction F<;>exact⟨U,Nat.le_of_ble_eq_true U⟩
inductive Zk(x:lJ St Fl)(ms:List (M Fl))(h0:H)(b w mo N:Nat)(l1 l2:J)(a:Nat)(sg fr r:List Nat)(l5:J):Prop where
 |mk (p q:List Nat) (h':H) (e:xh x ms (pP b l1 l2 (.str sg) (.str r) l5 (.str fr) (.str (Ah p sg fr r q)) (.int (kG sg a)) .unb) h') (hp:dl p) (hq:dl q) (R:RH h0 h' b w mo N):Zk x ms h0 b w mo N l1 l2 a sg fr r l5
theorem U9(R:RH h0 h b w mo N)(hN:N<90000)(hs:gN sg)(F:dJ bs fr)(lx:x.length<=60):Zk (aH (A8 (au L Z) (bI L Z (n+24))) ⟨pP b l1 (.int (a:Int)) (.str sg) (.str x) l5 (.str fr) .unb .unb .unb,h,I⟩) (Bi (au L Z) (bI L Z (n+24))) h0 b w mo (N+2) l1 (.int (a:Int)) a sg fr x l5:=by
 obtain⟨d1,v1,hv1,h1,e1,W1,B1,K1⟩:=yx (L:=L) (Z:=Z) (n:=n+23) (m:=3) (A:=pP b l1 (.int (a:Int)) (.str sg) (.str x) l5 (.str fr) .unb .unb .unb) (h1:=h) (h:=h) (es:=[D (.str [32]),D (.str []),D (.str [10])]) (os:=[.str [32],.str [],.str [10]]) U R.wo R.bx (by exact leT hN U) U U (by decide) (by decide);obtain⟨p,rfl,hp⟩:=SV hv1;obtain⟨d2,v2,hv2,h2,e2,W2,B2,K2⟩:=yx (L:=L) (Z:=Z) (n:=n+23) (m:=3) (A:=pP b l1 (.int (a:Int)) (.str sg) (.str x) l5 (.str fr) .unb .unb .unb) (h1:=h1) (h:=h1) (es:=[D (.str []),D (.str [32]),D (.str [9])]) (os:=[.str [],.str [32],.str [9]]) U W1 B1 (by exact bE [_] [(.a (.v 0) (.l 1),.l 90000)] 0 [1] (.a (.a (.v 0) (.l 1)) (.l 1)) (.l 99999) U hN) U U (by decide) (by decide);obtain⟨q,rfl,hq⟩:=LY hv2;have s8:∀(ah:List J)(P:H),ah[3]?=Y (.str sg)->ah[2]?=Y (.int (a:Int))->fD (bJ (aW (au L Z) .Eq (B 3) (D (.str [45])))) (bp .Sub (D (.int 0)) (B 2)) (B 2) ⟨ah,P,I⟩=.ok (.int (kG sg a)) ⟨ah,P,I⟩:=λah P a3 a2=>by refine dy (p:=eqL sg [45]) (aK (aE (bM a3 U) ao U)) ?_;unfold kG;cases eqL sg [45]with
  |true=>simp only[cond_true,cond_true,show-(a:Int)=0-(a:Int) by exact(Int.zero_sub _).symm];exact bj ao (bM a2 U) rfl
  |false=>exact bM a2 rfl
 have ls:=(zi hs).2;have lf:=F.ok.2;have lp:=(qj hp).2;have lq:=(qj hq).2;refine⟨p,q,h2,?_,hp,hq,(R.go W1 B1 K1).go W2 B2 K2⟩;exact aG (bz (bj (bj (bj (bj e1 aq (cC (by exact bE [_,_] [(.v 0,.l 1),(.v 1,.l 1)] 0 [1,1] (.a (.v 1) (.v 0)) (.l 16777216) U ls lp))) aq (cC (by simp only[List.length_append];exact bE [_,_,_] [(.v 0,.l 1),(.v 1,.l 2),(.v 2,.l 1)] 0 [1,1,1] (.a (.a (.v 2) (.v 0)) (.v 1)) (.l 16777216) U ls lf lp))) aq (cC (by simp only[List.length_append,List.length_append];exact bE [_,_,_,_] [(.v 0,.l 60),(.v 1,.l 1),(.v 2,.l 2),(.v 3,.l 1)] 0 [1,1,1,1] (.a (.a (.a (.v 3) (.v 1)) (.v 2)) (.v 0)) (.l 16777216) U lx ls lf lp))) e2 (cC (by simp only[List.length_append,List.length_append,List.length_append];exact bE [_,_,_,_,_] [(.v 0,.l 60),(.v 1,.l 1),(.v 2,.l 2),(.v 3,.l 1),(.v 4,.l 1)] 0 [1,1,1,1,1] (.a (.a (.a (.a (.v 3) (.v 1)) (.v 2)) (.v 0)) (.v 4)) (.l 16777216) U lx ls lf lp lq))) (bv U)) (aG (bz (s8 _ _ U U) (bv U)) U)
theorem UW(hb:pQ bs)(hs:gN sg)(F:dJ bs fr)(X:MS bs a x)(hp:dl p)(hq:dl q):vO (λh'=>xh (aH (Bi (au L Z) (bI L Z (n+24))) ⟨pP b (.int (bs:Int)) (.int (a:Int)) (.str sg) (.str x) l5 (.str fr) (.str (Ah p sg fr x q)) (.int (kG sg a)) .unb,h,I⟩) (xB (au L Z) (bI L Z (n+24))) (pP b (.int (bs:Int)) (.int (a:Int)) (.str sg) (.str x) l5 (.str fr) (.str (Ah p sg fr x q)) (.int (kG sg a)) .unb) h') (λh'=>La h h'):=by
 have b0:bs≠0:=by have:=hb.le.1;exact Nat.ne_of_gt (bE [_] [(.l 2,.v 0)] 1 [1] (.l 1) (.v 0) U this)
 have bn:(bs:Int).natAbs<=100:=by have:=hb.le.2;exact(leT this rfl:bs<=100)
 have xa:=iZ X.row.ok;have xl:=X.row.ln;obtain⟨sa,sl⟩:=zi hs;obtain⟨fa,fl⟩:=F.ok;obtain⟨pa,pl⟩:=qj hp;obtain⟨qa,ql⟩:=qj hq;have ta:bV (Ah p sg fr x q)=S:=jK (jK (jK (jK pa sa) fa) xa) qa;have tl:(Ah p sg fr x q).length<=1000000:=by simp only[List.length_append,List.length_append,List.length_append,List.length_append];exact bE [_,_,_,_,_] [(.v 0,.l 60),(.v 1,.l 1),(.v 2,.l 2),(.v 3,.l 1),(.v 4,.l 1)] 0 [1,1,1,1,1] (.a (.a (.a (.a (.v 3) (.v 1)) (.v 2)) (.v 0)) (.v 4)) (.l 1000000) U xl sl fl pl ql
 obtain⟨h1,e1,K1⟩:=kM (L:=L) (Z:=Z) (n:=n+23) (h:=h) (aS:=S) ta tl bn;obtain⟨h2,e2,K2⟩:=kM (L:=L) (Z:=Z) (n:=n+23) (h:=h1) (aS:=I) ta tl bn;rw[xm,Hl X.row F hs hp hq b0,<-xm]at e1 e2;rw[<-OF]at e2;have t9:(pk (bJ (aW (au L Z) .NotEq (aN (au L Z) (bI L Z (n+24)) (.sref 386) [(B 7),(B 1),(D (.bool S))] []) (B 8))) (pk (bJ (aW (au L Z) .NotEq (aN (au L Z) (bI L Z (n+24)) (.sref 386) [(B 7),(B 1)] []) (B 8))) (M.ret I))) ⟨pP b (.int (bs:Int)) (.int (a:Int)) (.str sg) (.str x) l5 (.str fr) (.str (Ah p sg fr x q)) (.int (kG sg a)) .unb,h,I⟩=.ok I ⟨pP b (.int (bs:Int)) (.int (a:Int)) (.str sg) (.str x) l5 (.str fr) (.str (Ah p sg fr x q)) (.int (kG sg a)) .unb,h2,I⟩:=
  qJ (aK (aE (aJ U (aB aq (aB aq (aC ao))) (b4 U (aO e1))) aq uU)) (aM U (qX (aK (aE (aJ U (aB aq (aC aq)) (b4 U (aO e2))) aq uU))))
 have t10a:∃h3,(cQ (bJ (aW (au L Z) .NotEq (B 6) (D (.str [])))) (cQ (bJ (aW (au L Z) .NotEq (aN (au L Z) (bI L Z (n+24)) (.sref 386) [(B 7),(D (.int 0))] [(72,(D (.bool S)))]) (B 8))) (M.ret S))) ⟨pP b (.int (bs:Int)) (.int (a:Int)) (.str sg) (.str x) l5 (.str fr) (.str (Ah p sg fr x q)) (.int (kG sg a)) .unb,h2,I⟩=.ok I ⟨pP b (.int (bs:Int)) (.int (a:Int)) (.str sg) (.str x) l5 (.str fr) (.str (Ah p sg fr x q)) (.int (kG sg a)) .unb,h3,I⟩/\La h2 h3:=by induction fe:fr with
  |nil=>exact⟨h2,mX (aK (aE aq ao Bl)) (aM U jk),λX=>aD.refl⟩
  |cons f0 f1=>obtain⟨h3,e3,K3⟩:=kM (L:=L) (Z:=Z) (n:=n+23) (h:=h2) (base:=0) (aS:=S) ta tl (by decide);rw[xm,wC X.row F hs hp hq b0 (by exact fe▸List.cons_ne_nil _ _),<-xm,<-V4,fe]at e3;exact⟨h3,mX (aK (aE aq ao U)) (br U (mR (aK (aE (Kc U (aB aq (aC ao)) (aC ao) (b4 U (aO e3))) aq uU)))),K3⟩
 obtain⟨h3,t10a,K3⟩:=t10a;have t10b:∃h4,(cQ (bJ (aW (au L Z) .Eq (B 1) (D (.int 10)))) (cQ (bJ (aW (au L Z) .NotEq (aN (au L Z) (bI L Z (n+24)) (.sref 386) [(bp .Add (B 3) (B 4)),(D (.int 0)),(D (.bool S))] []) (B 8))) (M.ret S))) ⟨pP b (.int (bs:Int)) (.int (a:Int)) (.str sg) (.str x) l5 (.str fr) (.str (Ah p sg fr x q)) (.int (kG sg a)) .unb,h3,I⟩=.ok I ⟨pP b (.int (bs:Int)) (.int (a:Int)) (.str sg) (.str x) l5 (.str fr) (.str (Ah p sg fr x q)) (.int (kG sg a)) .unb,h4,I⟩/\La h3 h4:=by induction z:aI ((bs:Int)=10)with
  |false=>exact⟨h3,mX (aK (aE aq ao U)) (aM z jk),λX=>aD.refl⟩
  |true=>
   have eb:bs=10:=by have:=of_decide_eq_true z;exact pu.mp (of_decide_eq_true z)
   obtain⟨h4,e4,K4⟩:=kM (L:=L) (Z:=Z) (n:=n+23) (h:=h3) (x:=sg++x) (base:=0) (aS:=S) (jK sa xa) (by simp only[List.length_append];exact bE [_,_] [(.v 0,.l 60),(.v 1,.l 1)] 0 [1,1] (.a (.v 1) (.v 0)) (.l 1000000) U xl sl) (by decide);have e6:=yV (p:=[]) (by exact eb▸X.row) hs (.inl U);rw[List.nil_append,List.append_nil,List.nil_append]at e6;rw[e6]at e4;exact⟨h4,mX (aK (aE aq ao U)) (br z (mR (aK (aE (aJ U (aB (bj aq aq (cC (by exact bE [_,_] [(.v 0,.l 60),(.v 1,.l 1)] 0 [1,1] (.a (.v 1) (.v 0)) (.l 16777216) U xl sl))) (aB ao (aC ao))) (b4 U (aO e4))) aq uU)))),K4⟩
 obtain⟨h4,t10b,K4⟩:=t10b;have t11:∃h5,(cQ (bJ (aW (au L Z) .Eq (B 1) (D (.int 8)))) (cQ (bJ (aW (au L Z) .NotEq (aN (au L Z) (bI L Z (n+24)) (.sref 386) [(bp .Add (D (.str [48])) (wb (B 4) [95] [])),(D (.int 0)),(D (.bool S))] []) (B 2))) (M.ret S))) ⟨pP b (.int (bs:Int)) (.int (a:Int)) (.str sg) (.str x) l5 (.str fr) (.str (Ah p sg fr x q)) (.int (kG sg a)) .unb,h4,I⟩=.ok I ⟨pP b (.int (bs:Int)) (.int (a:Int)) (.str sg) (.str x) l5 (.str fr) (.str (Ah p sg fr x q)) (.int (kG sg a)) .unb,h5,I⟩/\La h4 h5:=by induction z:aI ((bs:Int)=8)with
  |false=>exact⟨h4,mX (aK (aE aq ao U)) (aM z jk),λX=>aD.refl⟩
  |true=>
   have eb:bs=8:=by have:=of_decide_eq_true z;exact pu.mp (of_decide_eq_true z)
   have la:(x.filter λd=>!Nat.beq d 95).length<=x.length:=List.length_filter_le _ _;obtain⟨h5,e5,K5⟩:=kM (L:=L) (Z:=Z) (n:=n+23) (h:=h4) (x:=[48]++x.filter (λd=>!Nat.beq d 95)) (base:=0) (aS:=S) (jK U (List.all_eq_true.mpr λc m=>List.all_eq_true.mp xa c (List.mem_filter.mp m).1)) (by simp only[List.length_append];show 1+_<=_;exact bE [_,_] [(.v 0,.l 60),(.v 1,.v 0)] 0 [1,1] (.a (.l 1) (.v 1)) (.l 1000000) U xl la) (by decide);simp only[show fN ([48]++x.filter (λd=>!Nat.beq d 95)) 0 S=_ from X.oct eb]at e5;exact⟨h5,mX (aK (aE aq ao U)) (br z (mR (aK (aE (aJ U (aB (bj ao (Sj aq (by exact leT xl U) U) (cC (by show 1+_<=_;exact bE [_,_] [(.v 0,.l 60),(.v 1,.v 0)] 0 [1,1] (.a (.l 1) (.v 1)) (.l 16777216) U xl la))) (aB ao (aC ao))) (b4 U (aO e5))) aq uU)))),K5⟩
 obtain⟨h5,t11,K5⟩:=t11;exact⟨h5,aG (aY t9 (aM U aZ)) (aG (aY (qJ t10a (aM U (qX t10b))) (aM U aZ)) (aG (aY t11 (aM U aZ)) U)),λX=>((((K1 X).trans (K2 X)).trans (K3 X)).trans (K4 X)).trans (K5 X)⟩
theorem Op{ws:List (List Nat)}{k:Nat}(e:(ws.map J.str)[k]?=Y v):∃w,v=.str w/\ws[k]?=Y w:=by rw[List.getElem?_map]at e;obtain⟨w,e1,e2⟩:=aP.mp e;exact⟨w,e2.symm,e1⟩
theorem WG(R:RH h0 h b w mo N)(hN:N<90000)(X:gq bs a x):Mz (λh'=>∃ah,aH (xB (au L Z) (bI L Z (n+24))) ⟨pP b l1 l2 l3 (.str x) l5 l6 l7 l8 .unb,h,I⟩=.ok (.ret (.bool S)) ⟨ah,h',I⟩) (λh'=>Wo h' w mo) (λh'=>im h' b (N+1)) (λh'=>aD [b,w,mo] h0 h'):=by
 have xl:=X.ln;have c1:∀{c:List Nat},c.length<=3->x.length+c.length<=16777216:=λh=>by exact bE [_,_] [(.v 0,.l 60),(.v 1,.l 3)] 0 [1,1] (.a (.v 0) (.v 1)) (.l 16777216) U xl h
 have c2:∀{c:List Nat},c.length<=3->c.length+x.length<=16777216:=λh=>by exact bE [_,_] [(.v 0,.l 60),(.v 1,.l 3)] 0 [1,1] (.a (.v 1) (.v 0)) (.l 16777216) U xl h
 obtain⟨d1,v,hv,h1,e1,W1,B1,K1⟩:=yx (L:=L) (Z:=Z) (n:=n+23) (m:=12) (A:=pP b l1 l2 l3 (.str x) l5 l6 l7 l8 .unb) (h1:=h) (h:=h) (es:=[(bp .Add (B 4) (D (.str [95]))),(bp .Add (D (.str [95])) (B 4)),(bp .Add (D (.str [49,95,95])) (B 4)),(bp .Add (B 4) (D (.str [32,49]))),(bp .Add (B 4) (D (.str [45]))),(D (.str [])),(D (.str [45])),(D (.str [43])),(D (.str [48,120])),(bp .Add (D (.str [45,32])) (B 4)),(D (.str [48,98,50])),(D (.str [48,111,56]))]) (os:=(GL x).map .str)
  (aB (bj aq ao (cC (c1 (by decide)))) (aB (bj ao aq (cC (c2 (by decide)))) (aB (bj ao aq (cC (c2 (by decide)))) (aB (bj aq ao (cC (c1 (by decide)))) (aB (bj aq ao (cC (c1 (by decide)))) (aB ao (aB ao (aB ao (aB ao (aB (bj ao aq (cC (c2 (by decide)))) (aB ao (aC ao)))))))))))) R.wo R.bx (by exact leT hN U) U U (by decide) (by decide)
 obtain⟨wr,rfl,hw⟩:=Op hv;have Q:=HD X hw;have ql:=Q.l;have nb:(jZ wr x).natAbs<=100:=by unfold jZ;cases eqL (wr.take 1) [48]with
  |false=>exact Nat.le_of_ble_eq_true rfl
  |true=>cases eqL wr (x++[95])<;>exact Nat.le_of_ble_eq_true rfl
 obtain⟨h2,e2,K2⟩:=kM (L:=L) (Z:=Z) (n:=n+23) (h:=h1) (aS:=S) Q.a (by exact leT ql U) nb;rw[Q.r]at e2;have eb:fD (pk (bJ (aW (au L Z) .NotEq (fU (au L Z) (B 9) (D .none) (D (.int 1))) (D (.str [48])))) (pk (bJ (aW (au L Z) .Eq (B 9) (bp .Add (B 4) (D (.str [95]))))) (M.ret I))) (D (.int 10)) (D (.int 0)) ⟨pP b l1 l2 l3 (.str x) l5 l6 l7 l8 (.str wr),h1,I⟩=.ok (.int (jZ wr x)) ⟨pP b l1 l2 l3 (.str x) l5 l6 l7 l8 (.str wr),h1,I⟩:=by
  have t1:pk (bJ (aW (au L Z) .NotEq (fU (au L Z) (B 9) (D .none) (D (.int 1))) (D (.str [48])))) (pk (bJ (aW (au L Z) .Eq (B 9) (bp .Add (B 4) (D (.str [95]))))) (M.ret I)) ⟨pP b l1 l2 l3 (.str x) l5 l6 l7 l8 (.str wr),h1,I⟩=.ok (!eqL (wr.take 1) [48]||eqL wr (x++[95])) ⟨pP b l1 l2 l3 (.str x) l5 l6 l7 l8 (.str wr),h1,I⟩:=
   Ph (aK (aE (dN aq ao ao (gn (k:=1) (by exact leT ql U))) ao U)) (qX (aK (aE aq (bj aq ao (cC (c1 (by decide)))) U)))
  refine dy t1 ?_;unfold jZ;cases eqL (wr.take 1) [48]with
  |false=>exact ao
  |true=>cases eqL wr (x++[95])with
   |false=>exact ao
   |true=>exact ao
 have R2:=(R.go W1 B1 K1).all K2;exact⟨h2,⟨_,aG (bz e1 (bv U)) (bF (bK (aE (aJ U (aB aq (aB eb (aC ao))) (b4 U (aO e2))) ao U)))⟩,R2.wo,R2.bx,R2.kp⟩
theorem vL(W:Wo h w mo)(ag:im h b N)(hN:N<80000):Mz (λh'=>bI L Z (n+25) I 904 [.obj b] [] h=.ok (.bool S) h') (λh'=>Wo h' w mo) (λh'=>im h' b (N+9)) (λh'=>aD [b,w,mo] h h'):=by obtain⟨bs,a,k,sg,h1,e1,hb,ha,hs,hk,R1⟩:=Wr (L:=L) (Z:=Z) (n:=n) (⟨W,ag,aD.refl⟩:RH h h b w mo N) (by exact leT hN U);obtain⟨x,fr,h2,e2,F,X,R2⟩:=VG (L:=L) (Z:=Z) (n:=n) (l2:=.int (a:Int)) (l3:=.str sg) R1 (by exact bE [_] [(.a (.v 0) (.l 1),.l 80000)] 0 [1] (.a (.a (.v 0) (.l 4)) (.l 1)) (.l 90000) U hN) hb ha hk;obtain⟨p,q,h3,e3,hp,hq,R3⟩:=U9 (L:=L) (Z:=Z) (n:=n) (a:=a) (l1:=.int (bs:Int)) (l5:=.int (k:Int)) R2 (by exact bE [_] [(.a (.v 0) (.l 1),.l 80000)] 0 [1] (.a (.a (.a (.v 0) (.l 4)) (.l 2)) (.l 1)) (.l 90000) U hN) hs F X.row.ln;obtain⟨h4,e4,K4⟩:=UW (L:=L) (Z:=Z) (n:=n) (b:=b) (l5:=.int (k:Int)) (h:=h3) hb hs F X hp hq;obtain⟨h5,⟨ah,e5⟩,W5,B5,K5⟩:=WG (L:=L) (Z:=Z) (n:=n) (l1:=.int (bs:Int)) (l2:=.int (a:Int)) (l3:=.str sg) (l5:=.int (k:Int)) (l6:=.str fr) (l7:=.str (Ah p sg fr x q)) (l8:=.int (kG sg a)) (R3.all K4) (by exact bE [_] [(.a (.v 0) (.l 1),.l 80000)] 0 [1] (.a (.a (.a (.a (.v 0) (.l 4)) (.l 2)) (.l 2)) (.l 1)) (.l 90000) U hN) X.row;exact⟨h5,bC Wi (L0:=pP b .unb .unb .unb .unb .unb .unb .unb .unb .unb) U ((((e1.trans e2).trans e3).trans e4).trans e5),W5,B5.up (by exact bE [_] [] 0 [] (.a (.a (.a (.a (.v 0) (.l 4)) (.l 2)) (.l 2)) (.l 1)) (.a (.v 0) (.l 9)) U),K5⟩
end
section
variable{L:Nat}{Z:List Int}{n:Nat}{hd:Bool}{h h' h0 h1:H}{w mo b N:Nat}{v l3:J}
noncomputable abbrev NW(L b w:Nat)(l3:J):List J:=[.sref L,.obj b,.obj w,l3,.unb]
inductive Wz(x:List J->H->Prop)(L b w:Nat):Prop where
 |mk (l3:J) (h':H) (e:x (NW L b w l3) h'):Wz x L b w
theorem Jd(W:Wo h w mo)(ag:im h b N)(hN:N<70000):J4 (λh'=>Au (au L Z) (bI L Z (n+25)) ⟨NW L b w l3,h,I⟩=.ok .nxt ⟨NW L b w l3,h',I⟩) (λh'=>Wo h' w mo) (λh'=>im h' b (N+110)):=by obtain⟨h1,e1,W1,B1,K1⟩:=ED (L:=L) (Z:=Z) (n:=n) W ag (by exact leT hN U);obtain⟨h2,e2,W2,B2,K2⟩:=AM (L:=L) (Z:=Z) (n:=n) W1 B1 (by exact bE [_] [(.a (.v 0) (.l 1),.l 70000)] 0 [1] (.a (.a (.v 0) (.l 100)) (.l 1)) (.l 100000) U hN);obtain⟨h3,e3,W3,B3,K3⟩:=vL (L:=L) (Z:=Z) (n:=n) W2 B2 (by exact bE [_] [(.a (.v 0) (.l 1),.l 70000)] 0 [1] (.a (.a (.a (.v 0) (.l 100)) (.l 1)) (.l 1)) (.l 80000) U hN);exact⟨h3,bO (aY (qJ (qg (aK (aJ U (aB aq (aC aq)) (b4 U (aO e1)))) U) (aM U (qJ (qg (aK (aJ U (aB aq (aC aq)) (b4 U (aO e2)))) U) (aM U (qX (qg (aK (aJ U (aC aq) (b4 U (aO e3)))) U)))))) (aM U aZ)),W3,B3.up (by exact bE [_] [] 0 [] (.a (.a (.a (.v 0) (.l 100)) (.l 1)) (.l 9)) (.a (.v 0) (.l 110)) U)⟩
theorem za:∀(r:List J)(fl N:Nat)(l3:J)(h:H),r.length<fl->Wo h w mo->im h b N->N+110*r.length<70000->Wz (λah h'=>dU (iV (bd 3) (Au (au L Z) (bI L Z (n+25)))) fl (.vals r) ⟨NW L b w l3,h,I⟩=.ok .nxt ⟨ah,h',I⟩) L b w
 |_,0,_,_,_,hf,_,_,_=>absurd hf (Nat.not_lt_zero _)
 |[],fl+1,N,l3,h,_,W,ag,_=>⟨l3,h,Fh⟩
 |v::r,fl+1,N,l3,h,hf,W,ag,hN=>by rw[List.length_cons]at hf hN;obtain⟨h1,e1,W1,B1⟩:=Jd (L:=L) (Z:=Z) (n:=n) (l3:=v) W ag (by exact bE [_,_] [(.a (.a (.v 0) (.m 110 (.a (.v 1) (.l 1)))) (.l 1),.l 70000)] 0 [1] (.a (.v 0) (.l 1)) (.l 70000) U hN);obtain⟨l,h2,e2⟩:=za r fl (N+110) v h1 (by exact bE [_,_] [(.a (.a (.v 0) (.l 1)) (.l 1),.a (.v 1) (.l 1))] 0 [1] (.a (.v 0) (.l 1)) (.v 1) U hf) W1 B1 (by lia);exact⟨l,h2,Ce (bv U) e1 e2⟩
theorem Ex(ag:im h b N):∃k,k<=4/\nK (fD (bJ (eB (au L Z) (B 1) (D (.int 3)))) (D (.int 1)) (D (.int 4))) ⟨NW L b w .unb,h,I⟩=.ok (.vals ((List.range k).map λ(i:Nat)=>.int i)) ⟨NW L b w .unb,h,I⟩:=by obtain⟨z,s,c,sm,a,r1,r2,r3,r4⟩:=ag;have t0:bJ (eB (au L Z) (B 1) (D (.int 3))) ⟨NW L b w .unb,h,I⟩=.ok sm ⟨NW L b w .unb,h,I⟩:=aK (gJ aq ao a U);induction sm with
 |true=>exact⟨1,by decide,nE (dy t0 (br U ao)) U⟩
 |false=>exact⟨4,by decide,nE (dy t0 (aM U ao)) U⟩
theorem TH(L:Nat)(Z:List Int)(hs:Z.length<=63):∃H',oZ (au L Z) ft 40 I 911 [.sref L] [] []=.ok (.bool S) H':=by obtain⟨⟨b,h1⟩,e1,B1,K1,_⟩:=SH (L:=L) (Z:=Z) (n:=38) (h:=[]) (by show(bif Nat.beq L L then Y (Z.map J.int)else _)=_;rw[Nat.beq_refl];rfl) (by exact leT hs U);obtain⟨⟨mo,h2⟩,e2,W2,K2⟩:=HX (L:=L) (Z:=Z) (n:=28) (h:=h1++[.dict []]) (nt:=h1.length) ba;have B2:=B1.any (aD.app.trans K2:aD [] h1 h2) List.not_mem_nil;have W3:=W2.app (t:=[.tup [.obj b,.obj (h1++[AO.dict []]).length]]);have B3:=B2.app (t:=[.tup [.obj b,.obj (h1++[AO.dict []]).length]]);obtain⟨k,hk,e3⟩:=Ex (L:=L) (Z:=Z) (w:=(h1++[AO.dict []]).length) B3;obtain⟨l,h4,e4⟩:=za (L:=L) (Z:=Z) (n:=14) ((List.range k).map λ(i:Nat)=>.int i) ff 0 .unb _ (by rw[List.length_map,List.length_range,i5];exact bE [_] [(.v 0,.l 4)] 0 [1] (.a (.v 0) (.l 1)) (.a (.l 999999999) (.l 1)) U hk) W3 B3 (by rw[List.length_map,List.length_range];exact bE [_] [(.v 0,.l 4)] 0 [110] (.a (.a (.l 0) (.m 110 (.v 0))) (.l 1)) (.l 70000) U hk);exact⟨h4,bC (n:=39) VE (L0:=[.sref L,.unb,.unb,.unb,.unb]) U (aG (fq (aB (aJ U (aC aq) (b4 U (aO e1))) (aC (aJ U (aC Lo) (nJ U U U e2)))) U U U (bZ (bv U) (dj (bv U)))) (aG (si U e3 e4) (bF (bK ao))))⟩
end
section
open PySem PySem.W PySem.Calls PyProof.Rows
abbrev cM:=List (List bf)
inductive RV(ρ:cM):J->ar->Prop where
 |none:RV ρ .none .none
 |bool (b:Bool):RV ρ (.bool b) (.bool b)
 |int (i:Int) (t:qV):RV ρ (.int i) (.int i t)
 |str {l:List Nat} (x:aV) (t:qV) (h:x.cps.toList=l):RV ρ (.str l) (.str x t)
 |sref (a:Nat):RV ρ (.sref a) (.ref a)
 |obj {i:Nat} {a:bf} {r:List bf} (h:ρ[i]?=Y (a::r)):RV ρ (.obj i) (.ref a)
 |bi (n:String):RV ρ (.bi n) (.builtin n)
 |ty (n:String):RV ρ (.ty n) (.type n)
theorem b5{α:Type}{l l':List α}(h:l<+:l'){i:Nat}{x:α}(e:l[i]?=Y x):l'[i]?=Y x:=by obtain⟨t,rfl⟩:=h;rw[List.getElem?_append_left (List.getElem?_eq_some_iff.mp e).1];exact e
theorem RV.mono{ρ ρ':cM}(h:ρ<+:ρ'){v:J}{u:ar}(x:RV ρ v u):RV ρ' v u:=by induction x with
 |none=>exact .none
 |bool b=>exact .bool b
 |int i t=>exact .int i t
 |str x t e=>exact .str x t e
 |sref a=>exact .sref a
 |obj e=>exact .obj (b5 h e)
 |bi n=>exact .bi n
 |ty n=>exact .ty n
section
variable{α β:Type}{R ah:α->β->Prop}{l l':List α}{m m':List β}
inductive bP(R:α->β->Prop):List α->List β->Prop where
 |nil:bP R [] []
 |cons {a b l m}:R a b->bP R l m->bP R (a::l) (b::m)
theorem bP.mono(x:bP R l m)(h:∀a b,R a b->ah a b):bP ah l m:=by induction x with
 |nil=>exact .nil
 |cons p _ ih=>exact .cons (h _ _ p) ih
theorem bP.length(x:bP R l m):l.length=m.length:=by induction x with
 |nil=>rfl
 |cons _ _ ih=>exact congrArg (·+1) ih
theorem bP.get(x:bP R l m){i:Nat}{a:α}(e:l[i]?=Y a):∃b,m[i]?=Y b/\R a b:=by induction x generalizing i with
 |nil=>exact nS e
 |cons p _ ih=>induction i with
  |zero=>exact(sI e)▸⟨_,U,p⟩
  |succ i=>exact ih e
theorem bP.set(x:bP R l m){i:Nat}{a:α}{b:β}(h:R a b):bP R (l.set i a) (m.set i b):=by induction x generalizing i with
 |nil=>exact .nil
 |cons p q ih=>induction i with
  |zero=>exact .cons h q
  |succ i=>exact .cons p ih
theorem bP.append(x:bP R l m)(y:bP R l' m'):bP R (l++l') (m++m'):=by induction x with
 |nil=>exact y
 |cons p _ ih=>exact .cons p ih
theorem bP.drop(x:bP R l m):∀n,bP R (l.drop n) (m.drop n):=by induction x with
 |nil=>intro n;simp only[List.drop_nil,List.drop_nil];exact .nil
 |cons p q ih=>intro n;induction n with
  |zero=>exact .cons p q
  |succ n=>exact ih n
end
structure Wd where
 prog:oU
 w:World
 K:kJ
 h0:cT
 p:oU
 loose:List aV
 mean:ExcName->Option ar
 mg:aV->Option ar
 mb:aV->Option ar
 low:fZ<h0.objs.size
section
variable(T:aT)(W:Wd)
inductive pI(ρ:cM)(p:Nat×J)(e:b7):Prop where
 |mk (nm:aV) (t:qV) (a:T.names[p.1]?=Y nm) (b:e.key=.str nm t) (c:RV ρ p.2 e.val):pI ρ p e
inductive mJ(ρ:cM)(p:List Nat×J)(e:b7):Prop where
 |mk (x:aV) (t:qV) (a:x.cps.toList=p.1) (b:e.key=.str x t) (c:e.hash=d9 W.w.params x) (d:RV ρ p.2 e.val):mJ ρ p e
inductive XD(ρ:cM):Option Nat->Option bf->Prop where
 |no:XD ρ .none .none
 |at{j:Nat} {d:bf} (h:ρ[j]?=Y [d]):XD ρ (Y j) (Y d)
inductive tU(ρ:cM)(h:cT)(xs:List J)(a:bf)(r:List bf):Prop where
 |mk (vs:List ar) (n:Nat) (g:h.get? a=Y (listOf vs.toArray n)) (l:bP (RV ρ) xs vs) (e:r=[]):tU ρ h xs a r
inductive Dc(ρ:cM)(h:cT)(xs:List J)(a:bf)(r:List bf):Prop where
 |mk (vs:List ar) (n:Nat) (g:h.get? a=Y {cls:=.type "tuple",data:=.seq vs.toArray n}) (l:bP (RV ρ) xs vs) (e:r=[]):Dc ρ h xs a r
inductive xA(ρ:cM)(h:cT)(es:List (List Nat×J))(a:bf)(r:List bf):Prop where
 |mk (ds:List b7) (n:Nat) (g:h.get? a=Y (fJ ds n)) (l:bP (mJ W ρ) es ds) (nd:(es.map (·.1)).Nodup) (ns:(a==fZ)=I) (e:r=[]):xA ρ h es a r
inductive xV(ρ:cM)(h:cT)(C:Nat)(fs:List (Nat×J))(a:bf)(r:List bf):Prop where
 |mk (d:bf) (ds:List b7) (n:Nat) (g:h.get? a=Y (tD C d)) (g2:h.get? d=Y (fJ ds n)) (l:bP (pI T ρ) fs ds) (e:r=[d]):xV ρ h C fs a r
inductive m5(ρ:cM)(h:cT)(C:Nat)(b:Bool)(fd:Option Nat)(a:bf)(r:List bf):Prop where
 |mk (o:iS) (vs:Array ar) (nb:b=S->vs[1]?=Y .none) (g:h.get? a=Y o) (k:o.cls=.ref C) (x:XD ρ fd o.dict) (d:o.data=.fields vs) (sl:o.slots=#[]) (z:6<=vs.size) (e:r=[]):m5 ρ h C b fd a r
inductive Km(ρ:cM)(h:cT)(fs:List (Nat×J))(d:bf)(r:List bf):Prop where
 |mk (ds:List b7) (n:Nat) (g:h.get? d=Y (fJ ds n)) (l:bP (pI T ρ) fs ds) (e:r=[]):Km ρ h fs d r
def yH(ρ:cM)(h:cT)(a:bf)(r:List bf)(o:AO):Prop:=match o with
 |.list xs=>tU ρ h xs a r
 |.tup xs=>Dc ρ h xs a r
 |.dict es=>xA W ρ h es a r
 |.inst C fs=>xV T ρ h C fs a r
 |.exn C b fd=>m5 ρ h C b fd a r
 |.fd fs=>Km T ρ h fs a r
def rO(ρ:cM)(h:cT)(o:AO)(as:List bf):Prop:=match as with
 |[]=>False
 |a::r=>yH T W ρ h a r o
inductive Hd where
 |ns (m:aV->Option ar)
 |cell (v:ar)
 |obj (o:iS)
inductive LQ(h:cT)(a:bf):Hd->Prop where
 |ns {m:aV->Option ar} (x:h.Ns a m):LQ h a (.ns m)
 |cell {v:ar} (o:iS) (g:h.get? a=Y o) (d:o.data=.cell (Y v)):LQ h a (.cell v)
 |obj {o:iS} (g:h.get? a=Y o):LQ h a (.obj o)
structure Fx where
 env:pv
 V:VI
 held:List (bf×Hd)
 envs:List pv
 hand:Bool
 lo:Nat
 low:List J
inductive we(c:Fx)(ρ:cM)(m:aV->Option ar)(x:aV)(v:J):Prop where
 |loc (k:c.V.scope.names.lookup x=Y .local) (u:ar) (e:m x=Y u) (r:RV ρ v u):we c ρ m x v
 |cell (k:c.V.scope.names.lookup x=Y .cell\/c.V.scope.names.lookup x=Y .free) (ca:bf) (u:ar) (e:c.env.cells.lookup x=Y ca) (hd:(ca,Hd.cell u)∈c.held) (r:RV ρ v u):we c ρ m x v
abbrev pR(c:Fx)(ρ:cM)(loc:List J)(m:aV->Option ar):Prop:=∀(x:aV)(i:Nat)(v:J),eE c.V x=Y i->loc[i]?=Y v->v≠.unb->we c ρ m x v
inductive LA(W:Wd)(c:Fx)(loc:List J)(ρ:cM)(h:cT):Prop where
 |mk (m:aV->Option ar) (F:Fr W.h0 c.env.locals h m) (L:pR c ρ loc m):LA W c loc ρ h
noncomputable def addrs(c:Fx)(ρ:cM):List bf:=c.held.map (·.1)++ρ.flatten
structure dB(c:Fx)(σ:St)(ρ:cM)(h:cT):Prop where
 fr:LA W c σ.loc ρ h
 len:ρ.length=σ.heap.length
 obs:∀(i:Nat)(o:AO)(as:List bf),σ.heap[i]?=Y o->ρ[i]?=Y as->rO T W ρ h o as
 held:∀p∈c.held,LQ h p.1 p.2
 nd:(c.env.locals::addrs c ρ).Nodup
 fresh:∀b∈addrs c ρ,W.h0.get? b=cV/\b<h.objs.size
 hand:σ.hand=c.hand
 frz:∀i,i<c.lo->σ.loc[i]?=c.low[i]?
variable{T W}{c:Fx}{σ:St}{ρ ρ':cM}{h h':cT}{o:AO}{as:List bf}{i:Nat}{a b d:bf}{k:Hd}{m:aV->Option ar}
theorem pI.mono(h:ρ<+:ρ'){p:Nat×J}{e:b7}(x:pI T ρ p e):pI T ρ' p e:=let⟨n,t,a,b,c⟩:=x;⟨n,t,a,b,c.mono h⟩
theorem mJ.mono(h:ρ<+:ρ'){p:List Nat×J}{e:b7}(x:mJ W ρ p e):mJ W ρ' p e:=let⟨n,t,a,b,d,c⟩:=x;⟨n,t,a,b,d,c.mono h⟩
theorem XD.mono(h:ρ<+:ρ'){fd:Option Nat}{d:Option bf}(x:XD ρ fd d):XD ρ' fd d:=by induction x with
 |no=>exact .no
 |«at» e=>exact .at (b5 h e)
abbrev m0(h h':cT)(a:bf):Prop:=∀o,h.get? a=Y o->h'.get? a=Y o
theorem yH.same{r:List bf}(x:yH T W ρ h a r o)(hρ:ρ<+:ρ')(k:∀b∈a::r,m0 h h' b):yH T W ρ' h' a r o:=match o,x with
 |.list _,⟨vs,n,g,l,e⟩=>⟨vs,n,k _ (.head _) _ g,l.mono λ_ _=>RV.mono hρ,e⟩
 |.tup _,⟨vs,n,g,l,e⟩=>⟨vs,n,k _ (.head _) _ g,l.mono λ_ _=>RV.mono hρ,e⟩
 |.dict _,⟨ds,n,g,l,nd,ns,e⟩=>⟨ds,n,k _ (.head _) _ g,l.mono λ_ _=>mJ.mono hρ,nd,ns,e⟩
 |.inst _ _,⟨d,ds,n,g,g2,l,e⟩=>⟨d,ds,n,k _ (.head _) _ g,k d (e▸.tail _ (.head _)) _ g2,l.mono λ_ _=>pI.mono hρ,e⟩
 |.exn _ _ _,⟨o,vs,nb,g,c,x,d,s,z,e⟩=>⟨o,vs,nb,k _ (.head _) _ g,c,x.mono hρ,d,s,z,e⟩
 |.fd _,⟨ds,n,g,l,e⟩=>⟨ds,n,k _ (.head _) _ g,l.mono λ_ _=>pI.mono hρ,e⟩
theorem rO.same(x:rO T W ρ h o as)(hρ:ρ<+:ρ')(k:∀a∈as,m0 h h' a):rO T W ρ' h' o as:=match as,x,k with
 |_::_,x,k=>yH.same x hρ k
theorem LQ.same(x:LQ h a k)(q:m0 h h' a):LQ h' a k:=by induction x with
 |ns x=>exact .ns (cT.Ns.at x q)
 |cell o g d=>exact .cell o (q _ g) d
 |obj g=>exact .obj (q _ g)
theorem we.mono{x:aV}{v:J}(L:we c ρ m x v)(hρ:ρ<+:ρ'):we c ρ' m x v:=by induction L with
 |loc k u e r=>exact .loc k u e (r.mono hρ)
 |cell k ca u e hd r=>exact .cell k ca u e hd (r.mono hρ)
theorem lT{r:List bf}(e:r=[]){ob:iS}(g:h.get? a=Y ob):∀b∈a::r,∃ob,h.get? b=Y ob:=λb hb=>by subst e;rw[List.mem_singleton.mp hb];exact⟨_,g⟩
theorem yH.live{r:List bf}(x:yH T W ρ h a r o):∀b∈a::r,∃ob,h.get? b=Y ob:=match o,x with
 |.list _,⟨_,_,g,_,e⟩=>lT e g
 |.tup _,⟨_,_,g,_,e⟩=>lT e g
 |.dict _,⟨_,_,g,_,_,_,e⟩=>lT e g
 |.inst _ _,⟨_,_,_,g,g2,_,e⟩=>λb hb=>(List.mem_cons.mp hb).elim (λq=>q▸⟨_,g⟩) λq=>lT U g2 b (e▸q)
 |.exn _ _ _,⟨_,_,_,g,_,_,_,_,_,e⟩=>lT e g
 |.fd _,⟨_,_,g,_,e⟩=>lT e g
theorem rO.live(x:rO T W ρ h o as):∀a∈as,∃ob,h.get? a=Y ob:=match as,x with
 |_::_,x=>yH.live x
theorem LQ.live(x:LQ h a k):∃ob,h.get? a=Y ob:=by induction x with
 |ns x=>obtain⟨o,_,_,ho,_⟩:=x;exact⟨o,ho⟩
 |cell o g d=>exact⟨o,g⟩
 |obj g=>exact⟨_,g⟩
theorem fW(e:ρ[i]?=Y as)(ha:a∈as):a∈addrs c ρ:=List.mem_append_right _ (List.mem_flatten.mpr ⟨as,List.mem_of_getElem? e,ha⟩)
theorem km{p:bf×Hd}(hp:p∈c.held):p.1∈addrs c ρ:=List.mem_append_left _ (List.mem_map_of_mem hp)
theorem dB.live(R:dB T W c σ ρ h)(hb:b∈addrs c ρ):∃ob,h.get? b=Y ob:=by
 rcases List.mem_append.mp hb with hb|hb
 ·obtain⟨p,hp,rfl⟩:=List.mem_map.mp hb
  exact(R.held p hp).live
 ·obtain⟨as,hm,ha⟩:=List.mem_flatten.mp hb
  obtain⟨i,hi,rfl⟩:=List.getElem_of_mem hm;exact(R.obs i _ _ (List.getElem?_eq_getElem (by rw[<-R.len];exact hi)) (List.getElem?_eq_getElem hi)).live _ ha
theorem dB.freshAt(R:dB T W c σ ρ h)(k:∀b∈addrs c ρ,∃o,h'.get? b=Y o):∀b∈addrs c ρ,W.h0.get? b=cV/\b<h'.objs.size:=λb hb=>⟨(R.fresh b hb).1,let⟨_,g⟩:=k b hb;cz g⟩
abbrev LM(W:Wd)(c:Fx)(h h':cT):Prop:=∀m,Fr W.h0 c.env.locals h m->Fr W.h0 c.env.locals h' m
theorem LA.to{loc:List J}(x:LA W c loc ρ h)(hf:LM W c h h')(hρ:ρ<+:ρ'):LA W c loc ρ' h':=let⟨m,F,L⟩:=x;⟨m,hf m F,λx i v a b c=>(L x i v a b c).mono hρ⟩
theorem dB.stay(R:dB T W c σ ρ h)(hf:LM W c h h')(k:∀b∈addrs c ρ,m0 h h' b):dB T W c σ ρ h':=
 ⟨R.fr.to hf (List.prefix_refl _),R.len,λi o as e1 e2=>(R.obs i o as e1 e2).same (List.prefix_refl _) λa ha=>k a (fW e2 ha),λp hp=>(R.held p hp).same (k p.1 (km hp)),R.nd,
  R.freshAt λb hb=>let⟨o,g⟩:=R.live hb;⟨o,k b hb o g⟩,R.hand,R.frz⟩
theorem dB.keepsIn(R:dB T W c σ ρ h)(k:h.StaysIn h'):dB T W c σ ρ h':=R.stay (λm F=>F.keptAll k) λb _ o e=>k b o e
theorem dB.push(R:dB T W c σ ρ h)(o:iS):dB T W c σ ρ (h.push o):=R.keepsIn λ_ _ e=>cA _ e
structure ng(W:Wd)(c:Fx)(ρ:cM)(aj:bf):Prop where
 addrs:aj∉addrs c ρ
 loc:aj≠c.env.locals
 h0:W.h0.get? aj=cV
theorem dB.free(R:dB T W c σ ρ h):ng W c ρ h.objs.size:=by obtain⟨m,F,_⟩:=R.fr;refine⟨λhm=>Nat.lt_irrefl _ (R.fresh _ hm).2,Nat.ne_of_gt F.ns.lt,?_⟩;induction q:W.h0.get? h.objs.size with
 |none=>rfl
 |some o=>exact absurd (cz (F.keep _ _ q)) (Nat.lt_irrefl _)
theorem dB.new(R:dB T W c σ ρ h)(hf:LM W c h h')(k:∀b∈addrs c ρ,m0 h h' b)(hn:as.Nodup)(hg:∀b∈as,ng W c ρ b)(hb:rO T W (ρ++[as]) h' o as):dB T W c {σ with heap:=σ.heap++[o]} (ρ++[as]) h':=by
 have pre:ρ<+:ρ++[as]:=List.prefix_append _ _;have ef:addrs c (ρ++[as])=addrs c ρ++as:=by simp[addrs]
 have ah:=R.stay hf k;refine⟨R.fr.to hf pre,by simp[R.len],λi ob bs e1 e2=>?_,ah.held,?_,λb hb'=>?_,R.hand,R.frz⟩
 ·by_cases hi:i<σ.heap.length
  ·rw[List.getElem?_append_left hi]at e1
   rw[List.getElem?_append_left (by rw[R.len];exact hi)]at e2;exact(ah.obs i ob bs e1 e2).same pre λ_ _ _ e=>e
  ·have:i=σ.heap.length:=by have:=(List.getElem?_eq_some_iff.mp e1).1;simp at this;exact Nat.le_antisymm (bE [_,_] [(.a (.v 0) (.l 1),.a (.v 1) (.l 1))] 0 [1] (.v 0) (.v 1) U this) ((Xi hi))
   subst this;rw[List.getElem?_concat_length]at e1;rw[<-R.len,List.getElem?_concat_length]at e2;obtain rfl:=sI e1;exact(sI e2)▸hb
 ·rw[ef,<-List.cons_append]
  exact List.nodup_append.mpr ⟨R.nd,hn,λa ha b hb q=>(List.mem_cons.mp ha).elim (λe=>(hg b hb).loc (q.symm.trans e)) λha=>(hg b hb).addrs (q▸ha)⟩
 ·rw[ef]at hb'
  rcases List.mem_append.mp hb' with hb'|hb'
  ·exact ah.fresh b hb'
  ·obtain⟨_,g⟩:=hb.live b hb'
   exact⟨(hg b hb').h0,cz g⟩
theorem xJ:∀{l:cM},l.flatten.Nodup->∀{i j:Nat}{x y:List bf},i<j->l[i]?=Y x->l[j]?=Y y->∀a∈x,∀b∈y,a≠b
 |[],_,i,_,_,_,_,e,_,_,_,_,_=>by cases e
 |z::l,nd,i,0,x,y,hij,e1,e2,a,ha,b,hb=>absurd hij (Nat.not_lt_zero _)
 |z::l,nd,0,j+1,x,y,hij,e1,e2,a,ha,b,hb=>by obtain rfl:=sI e1;exact(List.nodup_append.mp nd).2.2 a ha b (List.mem_flatten.mpr ⟨y,List.mem_of_getElem? e2,hb⟩)
 |z::l,nd,i+1,j+1,x,y,hij,e1,e2,a,ha,b,hb=>xJ (List.nodup_append.mp nd).2.1 (Nat.lt_of_succ_lt_succ hij) e1 e2 a ha b hb
theorem dB.ne(R:dB T W c σ ρ h){j:Nat}{x y:List bf}(hij:i≠j)(e1:ρ[i]?=Y x)(e2:ρ[j]?=Y y):∀a∈x,∀b∈y,a≠b:=λa ha b hb=>by
 have nd:=(List.nodup_append.mp (List.nodup_cons.mp R.nd).2).2.1;rcases Nat.lt_or_gt_of_ne hij with hij|hij
 ·exact xJ nd hij e1 e2 a ha b hb
 ·exact(xJ nd hij e2 e1 b hb a ha).symm
theorem dB.neL(R:dB T W c σ ρ h)(hb:b∈addrs c ρ):b≠c.env.locals:=λq=>(List.nodup_cons.mp R.nd).1 (q▸hb)
theorem dB.neHeld(R:dB T W c σ ρ h)(e:ρ[i]?=Y as)(ha:a∈as):∀p∈c.held,p.1≠a:=λp hp=>(List.nodup_append.mp (List.nodup_cons.mp R.nd).2).2.2 p.1 (List.mem_map_of_mem hp) a (List.mem_flatten.mpr ⟨as,List.mem_of_getElem? e,ha⟩)
theorem Dr{α:Type}{l:List α}{i:Nat}{x y:α}(e:(l.set i x)[i]?=Y y):y=x:=by have hl:=(List.getElem?_eq_some_iff.mp e).1;rw[List.length_set]at hl;rw[List.getElem?_set_self hl]at e;exact(aQ e).symm
theorem dB.updAt(R:dB T W c σ ρ h)(e:ρ[i]?=Y as)(hd:d∈as)(hf:LM W c h h')(k:∀b∈addrs c ρ,b≠d->m0 h h' b)(hb:rO T W ρ h' o as):dB T W c {σ with heap:=σ.heap.set i o} ρ h':=by
 refine⟨R.fr.to hf (List.prefix_refl _),by simp only[List.length_set];exact R.len,λj ob bs e1 e2=>?_,λp hp=>(R.held p hp).same (k _ (km hp) (R.neHeld e hd p hp)),R.nd,R.freshAt λb hb'=>?_,R.hand,R.frz⟩
 ·by_cases hij:i=j
  ·subst hij
   rw[Dr e1,<-aQ (e.symm.trans e2)];exact hb
  ·rw[List.getElem?_set_ne hij]at e1
   exact(R.obs j ob bs e1 e2).same (List.prefix_refl _) λa ha=>k a (fW e2 ha) (R.ne (jP hij) e2 e a ha d hd)
 ·by_cases q:b=d
  ·subst q;exact hb.live b hd
  ·obtain⟨o',g⟩:=R.live hb'
   exact⟨o',k b hb' q _ g⟩
theorem dB.upd(R:dB T W c σ ρ h)(e:ρ[i]?=Y as)(hd:d∈as)(hs:jQ d h h')(hb:rO T W ρ h' o as):dB T W c {σ with heap:=σ.heap.set i o} ρ h':=
 have hm:d∈addrs c ρ:=fW e hd
 R.updAt e hd (λm F=>F.change hs (R.neL hm) (R.fresh d hm).1) (λb _ hne o q=>(hs.2 b hne).trans q) hb
theorem dB.store(R:dB T W c σ ρ h){x:aV}{v:J}{u:ar}(hx:eE c.V x=Y i)(hl:c.V.scope.names.lookup x=Y .local)
  (hinj:∀y,eE c.V y=Y i->y=x) (hlo:c.lo<=i) (hv:v≠.unb->RV ρ v u) (hs:jQ c.env.locals h h')
  (hn:∀m,h.Ns c.env.locals m->h'.Ns c.env.locals (λy=>if y=x then Y u else m y)):dB T W c {σ with loc:=σ.loc.set i v} ρ h':=by
 obtain⟨m,F,L⟩:=R.fr;have q:∀b∈addrs c ρ,m0 h h' b:=λb hb o g=>(hs.2 b (R.neL hb)).trans g;refine⟨⟨_,F.set (hn m F.ns) hs,λy j z e1 e2 e3=>?_⟩,R.len,λj ob bs e1 e2=>(R.obs j ob bs e1 e2).same (List.prefix_refl _) λa ha=>q a (fW e2 ha),
  λp hp=>(R.held p hp).same (q _ (km hp)),R.nd,λb hb=>⟨(R.fresh b hb).1,hs.1▸(R.fresh b hb).2⟩,R.hand,λj hj=>(List.getElem?_set_ne (Nat.ne_of_gt (Nat.lt_of_lt_of_le hj hlo))).trans (R.frz j hj)⟩
 by_cases hij:i=j
 ·subst hij
  have:=Dr e2;subst this;rw[hinj y e1];exact .loc hl u (if_pos U) (hv e3)
 ·replace e2:=(List.getElem?_set_ne hij)▸e2
  have hne:y≠x:=λq=>hij (by replace e1:=hx▸q▸e1;exact aQ e1);cases L y j z e1 e2 e3 with
  |loc k u e r=>exact .loc k u ((if_neg hne).trans e) r
  |cell k ca u e hd r=>exact .cell k ca u e hd r
def newsBut(c:Fx)(ρ:cM)(h:cT)(d:bf):List (bf×iS):=(addrs c ρ).filterMap λb=>if b=d then cV else(h.get? b).map λo=>(b,o)
theorem uj{p:bf×iS}(hp:p∈newsBut c ρ h d):p.1≠d/\p.1∈addrs c ρ/\h.get? p.1=Y p.2:=by
 obtain⟨b,hb,e⟩:=List.mem_filterMap.mp hp
 by_cases q:b=d
 ·rw[if_pos q]at e;exact nS e
 ·rw[if_neg q]at e
  obtain⟨o,ho,rfl⟩:=aP.mp e;exact⟨q,hb,ho⟩
theorem kX{o:iS}(hb:b∈addrs c ρ)(hd:b≠d)(ho:h.get? b=Y o):(b,o)∈newsBut c ρ h d:=List.mem_filterMap.mpr ⟨b,hb,by rw[if_neg hd,ho];rfl⟩
theorem dB.news(R:dB T W c σ ρ h)(d:bf):News W.h0 c.env.locals h (newsBut c ρ h d):=λp hp=>let⟨_,hb,ho⟩:=uj hp;⟨ho,R.neL hb,(R.fresh _ hb).1⟩
theorem dB.newsCons(R:dB T W c σ ρ h){o:iS}(hd:d∈addrs c ρ)(ho:h.get? d=Y o):News W.h0 c.env.locals h ((d,o)::newsBut c ρ h d):=λp hp=>(List.mem_cons.mp hp).elim (λe=>e▸⟨ho,R.neL hd,(R.fresh _ hd).1⟩) (R.news d p)
theorem EI{L:bf}{o':iS}(N:News W.h0 L h' ((d,o')::newsBut c ρ h d)):∀b∈addrs c ρ,b≠d->m0 h h' b:=λb hb hd o ho=>(N (b,o) (.tail _ (kX hb hd ho))).1
section
variable{r:List bf}{xs:List J}{es:List (List Nat×J)}{fs:List (Nat×J)}{C:Nat}{f:Bool}{fo:Option Nat}
theorem dB.list(R:dB T W c σ ρ h)(e:σ.heap[i]?=Y (.list xs))(ea:ρ[i]?=Y (a::r)):tU ρ h xs a r:=R.obs i _ _ e ea
theorem dB.tup(R:dB T W c σ ρ h)(e:σ.heap[i]?=Y (.tup xs))(ea:ρ[i]?=Y (a::r)):Dc ρ h xs a r:=R.obs i _ _ e ea
theorem dB.dict(R:dB T W c σ ρ h)(e:σ.heap[i]?=Y (.dict es))(ea:ρ[i]?=Y (a::r)):xA W ρ h es a r:=R.obs i _ _ e ea
theorem dB.inst(R:dB T W c σ ρ h)(e:σ.heap[i]?=Y (.inst C fs))(ea:ρ[i]?=Y (a::r)):xV T ρ h C fs a r:=R.obs i _ _ e ea
theorem dB.exn(R:dB T W c σ ρ h)(e:σ.heap[i]?=Y (.exn C f fo))(ea:ρ[i]?=Y (a::r)):m5 ρ h C f fo a r:=R.obs i _ _ e ea
theorem dB.fd(R:dB T W c σ ρ h)(e:σ.heap[i]?=Y (.fd fs))(ea:ρ[i]?=Y (a::r)):Km T ρ h fs a r:=R.obs i _ _ e ea
end
theorem rO.list{xs:List J}{vs:List ar}{n:Nat}(g:h.get? a=Y (listOf vs.toArray n))(l:bP (RV ρ) xs vs):rO T W ρ h (.list xs) [a]:=(⟨vs,n,g,l,U⟩:tU ρ h xs a [])
theorem rO.tup{xs:List J}{vs:List ar}{n:Nat}(g:h.get? a=Y {cls:=.type "tuple",data:=.seq vs.toArray n})(l:bP (RV ρ) xs vs):rO T W ρ h (.tup xs) [a]:=(⟨vs,n,g,l,U⟩:Dc ρ h xs a [])
theorem rO.dict{es:List (List Nat×J)}{ds:List b7}{n:Nat}(g:h.get? a=Y (fJ ds n))(l:bP (mJ W ρ) es ds)(nd:(es.map (·.1)).Nodup)(ns:(a==fZ)=I):rO T W ρ h (.dict es) [a]:=(⟨ds,n,g,l,nd,ns,U⟩:xA W ρ h es a [])
theorem rO.inst{C:Nat}{fs:List (Nat×J)}{ds:List b7}{n:Nat}(g:h.get? a=Y (tD C d))(g2:h.get? d=Y (fJ ds n))(l:bP (pI T ρ) fs ds):rO T W ρ h (.inst C fs) [a,d]:=(⟨d,ds,n,g,g2,l,U⟩:xV T ρ h C fs a [d])
theorem rO.fd{fs:List (Nat×J)}{ds:List b7}{n:Nat}(g:h.get? d=Y (fJ ds n))(l:bP (pI T ρ) fs ds):rO T W ρ h (.fd fs) [d]:=(⟨ds,n,g,l,U⟩:Km T ρ h fs d [])
theorem dB.newPush(R:dB T W c σ ρ h)(ob:iS)(hb:rO T W (ρ++[[h.objs.size]]) (h.push ob) o [h.objs.size]):dB T W c {σ with heap:=σ.heap++[o]} (ρ++[[h.objs.size]]) (h.push ob):=
 R.new (λm F=>F.push _) (λb _ o e=>cA _ e) (List.nodup_cons.mpr ⟨List.not_mem_nil,List.nodup_nil⟩) (λb hb=>by refine(List.mem_singleton.mp hb)▸?_;exact R.free) hb
theorem RV.new(R:dB T W c σ ρ h){r:List bf}:RV (ρ++[a::r]) (.obj σ.heap.length) (.ref a):=.obj (by rw[<-R.len];exact List.getElem?_concat_length)
theorem dB.stays(R:dB T W c σ ρ h):W.h0.StaysIn h:=let⟨_,F,_⟩:=R.fr;F.keep
theorem dB.sysSize(R:dB T W c σ ρ h):(h.objs.size==fZ)=I:=by obtain⟨m,F,_⟩:=R.fr;have h1:=F.above;have h2:=F.ns.lt;have h3:=W.low;exact beq_eq_false_iff_ne.mpr λq=>by rw[<-q]at h3;exact Nat.lt_irrefl _ (Nat.lt_trans h3 (Nat.lt_of_le_of_lt h1 h2))
theorem cF{vs:List ar}{n:Nat}(e:h.get? a=Y (listOf vs.toArray n)):h.IsList a vs.toArray:=⟨_,e,U,n,U⟩
end
end
section
open PySem PySem.W PySem.Calls PyProof.Rows
def kH{α:Type}(P:α->St->Prop)(X:Nat->St->Prop)(r:lJ St α):Prop:=match r with
 |.ok a s=>P a s
 |.exc x s=>X x s
 |.stuck=>False
abbrev M.wp{α:Type}(m:M α)(σ:St)(P:α->St->Prop)(X:Nat->St->Prop):Prop:=kH P X (m σ)
section
variable{α β:Type}{σ:St}{X X':Nat->St->Prop}
theorem cg{m:M α}{f:α->M β}{P:β->St->Prop}(h:(m.bind f).wp σ P X):m.wp σ (λa s=>(f a).wp s P X) X:=by unfold M.wp M.bind at h;unfold M.wp;induction e:m σ with
 |ok a s=>replace h:=e▸h;exact h
 |exc x s=>replace h:=e▸h;exact h
 |stuck=>replace h:=e▸h;exact h
theorem cE{r:lJ St α}{P P':α->St->Prop}(h:kH P X r)(hP:∀a s,P a s->P' a s)(hX:∀x s,X x s->X' x s):kH P' X' r:=match r,h with
 |.ok _ _,h=>hP _ _ h
 |.exc _ _,h=>hX _ _ h
end
inductive AF(W:Wd)(x:aV)(v:J):Prop where
 |glob (u:ar) (h:∀ρ,RV ρ v u) (n:nsIn W.K jp x=Y (Y u)):AF W x v
 |bi (u:ar) (h:∀ρ,RV ρ v u) (n:nsIn W.K jp x=Y .none) (b:bootBuiltins x=Y u) (e:x≠"__name__"):AF W x v
structure Gd(T:aT)(W:Wd):Prop where
 X:W.K.In W.h0
 top:TopRead W.p W.loose W.mg W.mb W.h0
 dbg:∀(x:aV)(v:J),T.glob.lookup x=Y v->(x==("__debug__":aV))=I
 glob:∀(x:aV)(v:J),T.glob.lookup x=Y v->AF W x v
structure fB(c:Fx)(A:ch):Prop where
 scope:c.env.scope=c.V.scope
 kind:c.env.scope.kind=.function
 glob:c.env.globals=jp
 bi:c.env.builtins=builtinsNs
 inj:∀(x y:aV)(i:Nat),eE c.V x=Y i->eE c.V y=Y i->x=y
 nd:∀(x:aV)(i:Nat),eE c.V x=Y i->(x==("__debug__":aV))=I/\(x==("__classdict__":aV))=I
 frames:A.frames=Y c.envs
 envs:∀e∈c.envs,e.scope.kind=.function/\∃L,e.frame=Y L/\(L=c.env.locals\/∃m,(L,Hd.ns m)∈c.held)
 hand:c.hand=I->A.handled=cV
 top:∀(y:aV)(i:Nat),eE c.V y=Y i->i<c.V.top
 cells:∀x:aV,c.V.scope.names.lookup x=Y .cell->(c.env.cells.lookup x).isSome=S
 lo:∀(x:aV)(i:Nat),cx c.V x=Y i->c.lo<=i
 lotop:c.lo<=c.V.top
inductive Ha(W:Wd)(c:Fx)(ρ:cM)(h:cT)(P:ar->Prop)(v:ar):Prop where
 |mk (t:bf) (ot:iS) (ts:Array ar) (e:v=.ref t) (g:h.get? t=Y ot) (d:ot.data=.fields ts) (n:t∉addrs c ρ) (f:W.h0.get? t=cV) (u:ar) (k:ts[3]?=Y u) (p:P u):Ha W c ρ h P v
inductive xk(h:cT)(e:bf)(P:ar->Prop):Prop where
 |mk (o:iS) (vs:Array ar) (g:h.get? e=Y o) (d:o.data=.fields vs) (u:ar) (k:vs[1]?=Y u) (p:P u):xk h e P
abbrev ZE(W:Wd)(c:Fx)(ρ:cM)(h:cT)(e:bf):Prop:=xk h e λu=>u=.none\/Ha W c ρ h (λu=>u=.none\/u=pY c.env.locals) u
abbrev Xn(W:Wd)(c:Fx)(ρ:cM)(h:cT)(e:bf):Prop:=xk h e (Ha W c ρ h λu=>u=.none\/u=pY c.env.locals)
abbrev UB(W:Wd)(c:Fx)(ρ:cM)(h:cT)(e:bf):Prop:=xk h e (Ha W c ρ h λu=>u=.none)
structure Cx where
 T:aT
 W:Wd
 c:Fx
 A:ch
abbrev Cx.R(K:Cx)(σ:St)(ρ:cM)(h:cT):Prop:=dB K.T K.W K.c σ ρ h
abbrev WT(α:Type):=(α->aF->Prop)->(ar->aF->Prop)->aF->Prop
def PW(K:Cx){α:Type}(t:o7 α):WT α:=λQ E s=>bY (cB K.W.prog K.W.w) K.A t Q E s
noncomputable abbrev eH(s:aF)(h:cT)(tk:Nat):aF:={s with heap:=h,toks:=tk}
inductive kU(K:Cx)(σ:St)(ρ:cM)(x:Nat)(e:ar)(h:cT)(P:bf->Prop):Prop where
 |mk (rep:K.R σ ρ h) (a:bf) (r:List bf) (C:Nat) (fd:Option Nat) (ev:e=.ref a) (er:ρ[x]?=Y (a::r)) (eh:σ.heap[x]?=Y (.exn C I fd)) (f:P a):kU K σ ρ x e h P
abbrev Bh(K:Cx)(σ:St)(ρ:cM)(x:Nat)(e:ar)(h:cT):Prop:=kU K σ ρ x e h (ZE K.W K.c ρ h)
def vD{α β:Type}(K:Cx)(ρ:cM)(s:aF)(R:cM->β->α->Prop)(Q:α->aF->Prop)(b:β)(σ':St):Prop:=
 ∀(ρ':cM)(h':cT)(tk:Nat)(a:α),ρ<+:ρ'->K.R σ' ρ' h'->R ρ' b a->0<tk->Q a (eH s h' tk)
def lQ(K:Cx)(ρ:cM)(s:aF)(E:ar->aF->Prop)(x:Nat)(σ':St):Prop:=
 ∀(ρ':cM)(h':cT)(tk:Nat)(e:ar),ρ<+:ρ'->Bh K σ' ρ' x e h'->0<tk->E e (eH s h' tk)
def bB{α β:Type}(K:Cx)(σ:St)(ρ:cM)(s:aF)(w:WT α)(m:M β)(R:cM->β->α->Prop):Prop:=∀Q E,kH (vD K ρ s R Q) (lQ K ρ s E) (m σ)->w Q E s
def aX{α β:Type}(K:Cx)(ρ0:cM)(w:WT α)(m:M β)(R:cM->β->α->Prop):Prop:=∀σ ρ s,ρ0<+:ρ->K.R σ ρ s.heap->0<s.toks->bB K σ ρ s w m R
section
variable{α β γ δ:Type}{K:Cx}{σ σ':St}{ρ ρ0:cM}{s:aF}{w w':WT α}{m:M β}{R:cM->β->α->Prop}{b:β}{t:o7 α}{v:J}{va:ar}{wv:ar->WT α}
theorem aX.pre(aj:aX K ρ0 w m R)(H:∀Q E s,w Q E s->w' Q E s):aX K ρ0 w' m R:=λσ ρ s a b c Q E h=>H Q E s (aj σ ρ s a b c Q E h)
theorem vD.from{h:cT}{tk:Nat}{ρ1:cM}{Q:α->aF->Prop}(hp:ρ<+:ρ1)(x:vD K ρ s R Q b σ'):vD K ρ1 (eH s h tk) R Q b σ':=λρ' h' tk a p=>x ρ' h' tk a (hp.trans p)
theorem lQ.from{h:cT}{tk x:Nat}{ρ1:cM}{E:ar->aF->Prop}(hp:ρ<+:ρ1)(y:lQ K ρ s E x σ'):lQ K ρ1 (eH s h tk) E x σ':=λρ' h' tk a p=>y ρ' h' tk a (hp.trans p)
theorem bB.bind{f:α->WT γ}{g:β->M δ}{ah:cM->δ->γ->Prop}(aj:bB K σ ρ s w m R)(af:∀ρ1 a b,ρ<+:ρ1->R ρ1 b a->aX K ρ1 (f a) (g b) ah):bB K σ ρ s (λQ E s=>w (λa s'=>f a Q E s') E s) (m.bind g) ah:=λQ E h=>aj _ _ (cE (cg h) (λb σ' hq ρ' h' tk a p hr hR ht=>af ρ' a b p hR σ' ρ' (eH s h' tk) (List.prefix_refl _) hr ht Q E (cE hq (λ_ _ x=>x.from p) λ_ _ x=>x.from p)) λ_ _ x=>x)
theorem aX.bind{f:α->WT γ}{g:β->M δ}{ah:cM->δ->γ->Prop}(aj:aX K ρ0 w m R)(af:∀ρ1 a b,ρ0<+:ρ1->R ρ1 b a->aX K ρ1 (f a) (g b) ah):aX K ρ0 (λQ E s=>w (λa s'=>f a Q E s') E s) (m.bind g) ah:=λσ ρ s hp hr ht=>bB.bind (aj σ ρ s hp hr ht) λρ1 a b p=>af ρ1 a b (hp.trans p)
theorem bB.no:bB K σ ρ s w (M.no:M β) R:=λ_ _ h=>h.elim
theorem aX.no:aX K ρ0 w (M.no:M β) R:=λ_ _ _ _ _ _=>bB.no
theorem bB.gd{q:Bool}(af:q=S->bB K σ ρ s w m R):bB K σ ρ s w (gd q m) R:=by induction q with
 |true=>exact af rfl
 |false=>exact bB.no
theorem aX.gd{q:Bool}(af:q=S->aX K ρ0 w m R):aX K ρ0 w (gd q m) R:=by induction q with
 |true=>exact af rfl
 |false=>exact aX.no
theorem bB.gO{o:Option γ}{k:γ->M β}(af:∀x,o=Y x->bB K σ ρ s w (k x) R):bB K σ ρ s w (gO o k) R:=by induction o with
 |some x=>exact af x rfl
 |none=>exact bB.no
theorem aX.gO{o:Option γ}{k:γ->M β}(af:∀x,o=Y x->aX K ρ0 w (k x) R):aX K ρ0 w (gO o k) R:=by induction o with
 |some x=>exact af x rfl
 |none=>exact aX.no
theorem aX.on0{l:List γ}(af:l=[]->aX K ρ0 w m R):aX K ρ0 w (rq l m) R:=by induction l with
 |nil=>exact af rfl
 |cons x r=>exact aX.no
theorem aX.on1{l:List γ}{k:γ->M β}(af:∀x,l=[x]->aX K ρ0 w (k x) R):aX K ρ0 w (qH l k) R:=by induction l with
 |nil=>exact aX.no
 |cons x r=>exact aX.on0 λe=>af x (e▸rfl)
theorem aX.on2{l:List γ}{k:γ->γ->M β}(af:∀x y,l=[x,y]->aX K ρ0 w (k x y) R):aX K ρ0 w (Ls l k) R:=by induction l with
 |nil=>exact aX.no
 |cons x r=>exact aX.on1 λy e=>af x y (e▸rfl)
theorem aX.bif{q:Bool}{m':M β}(af:q=S->aX K ρ0 w m R)(J':q=I->aX K ρ0 w m' R):aX K ρ0 w (bif q then m else m') R:=by induction q with
 |true=>exact af rfl
 |false=>exact J' rfl
theorem bB.gH{i:Nat}{k:AO->M β}(af:∀o,σ.heap[i]?=Y o->bB K σ ρ s w (k o) R):bB K σ ρ s w (gH i k) R:=λQ E h=>bB.gO (k:=k) (o:=σ.heap[i]?) (λx e=>af x e) Q E h
theorem bB.gL{i:Nat}{k:List J->M β}(af:∀x,σ.heap[i]?=Y (.list x)->bB K σ ρ s w (k x) R):bB K σ ρ s w (gL i k) R:=bB.gH λo e=>by induction o with
 |list xs=>exact af xs e
 |_=>exact bB.no
theorem bB.gD{i:Nat}{k:List (List Nat×J)->M β}(af:∀x,σ.heap[i]?=Y (.dict x)->bB K σ ρ s w (k x) R):bB K σ ρ s w (gD i k) R:=bB.gH λo e=>by induction o with
 |dict xs=>exact af xs e
 |_=>exact bB.no
theorem bB.gF{i:Nat}{k:List (Nat×J)->M β}(af:∀x,σ.heap[i]?=Y (.fd x)->bB K σ ρ s w (k x) R):bB K σ ρ s w (gF i k) R:=bB.gH λo e=>by induction o with
 |fd xs=>exact af xs e
 |_=>exact bB.no
theorem bB.gX{i:Nat}{k:Nat->Bool->Option Nat->M β}(af:∀C b fd,σ.heap[i]?=Y (.exn C b fd)->bB K σ ρ s w (k C b fd) R):bB K σ ρ s w (gX i k) R:=bB.gH λo e=>by induction o with
 |exn C b fd=>exact af C b fd e
 |_=>exact bB.no
theorem aX.oInt{k:Int->M β}(hv:RV ρ0 v va)(af:∀x t,aX K ρ0 (wv (.int x t)) (k x) R):aX K ρ0 (wv va) (gM v k) R:=by induction hv with
 |int x t=>exact af x t
 |_=>exact aX.no
theorem aX.oStr{k:List Nat->M β}(hv:RV ρ0 v va)(af:∀x t,aX K ρ0 (wv (.str x t)) (k x.cps.toList) R):aX K ρ0 (wv va) (jz v k) R:=by induction hv with
 |str x t e=>subst e;exact af x t
 |_=>exact aX.no
theorem aX.oBool{k:Bool->M β}(hv:RV ρ0 v va)(af:∀x,aX K ρ0 (wv (.bool x)) (k x) R):aX K ρ0 (wv va) (kP v k) R:=by induction hv with
 |bool x=>exact af x
 |_=>exact aX.no
theorem aX.oNone(hv:RV ρ0 v va)(af:aX K ρ0 (wv .none) m R):aX K ρ0 (wv va) (pj v m) R:=by induction hv with
 |none=>exact af
 |_=>exact aX.no
theorem aX.oObj{k:Nat->M β}(hv:RV ρ0 v va)(af:∀i a r,ρ0[i]?=Y (a::r)->aX K ρ0 (wv (.ref a)) (k i) R):aX K ρ0 (wv va) (nc v k) R:=by induction hv with
 |obj e=>exact af _ _ _ e
 |_=>exact aX.no
theorem bB.go(e:m σ=.ok b σ')(H:∀Q E,vD K ρ s R Q b σ'->w Q E s):bB K σ ρ s w m R:=λQ E h=>H Q E (by rw[e]at h;exact h)
abbrev ZM(K:Cx)(ρ:cM)(s:aF)(σ':St)(R:cM->β->α->Prop)(b:β)(Q:α->aF->Prop):Prop:=∀(ρ':cM)(h':cT)(tk:Nat)(a:α),ρ<+:ρ'->K.R σ' ρ' h'->R ρ' b a->Q a (eH s h' tk)
theorem bB.put(ht:0<s.toks)(e:m σ=.ok b σ')(H:∀Q E,ZM K ρ s σ' R b Q->PW K t Q E s):bB K σ ρ s (PW K t) m R:=
 bB.go e λQ E h=>cq (n:=1) ht (H (λa s'=>1<=s'.toks->Q a s') (λe s'=>1<=s'.toks->E e s') λρ' h' tk a p hr r htk=>h ρ' h' tk a p hr r htk)
theorem bB.leaf(hr:K.R σ ρ s.heap)(ht:0<s.toks)(H:∀Q E,(∀tk a,R ρ b a->Q a (eH s s.heap tk))->PW K t Q E s):bB K σ ρ s (PW K t) (M.ret b) R:=
 bB.put ht U λQ E h=>H Q E λtk a r=>h ρ s.heap tk a (List.prefix_refl _) hr r
theorem bB.stay(hr:K.R σ ρ s.heap)(ht:0<s.toks)(a:α)(r:R ρ b a)(H:∀Q E,Q a s->w Q E s):bB K σ ρ s w (M.ret b) R:=bB.go U λQ E h=>H Q E (h ρ s.heap s.toks a (List.prefix_refl _) hr r ht)
theorem aX.leaf(H:∀ρ Q E s,ρ0<+:ρ->(∀tk a,R ρ b a->Q a (eH s s.heap tk))->PW K t Q E s):aX K ρ0 (PW K t) (M.ret b) R:=λσ ρ s hp hr ht=>bB.leaf hr ht λQ E=>H ρ Q E s hp
theorem aX.stay(a:α)(r:∀ρ,ρ0<+:ρ->R ρ b a)(H:∀Q E s,Q a s->w Q E s):aX K ρ0 w (M.ret b) R:=λσ ρ s hp hr ht=>bB.stay hr ht a (r ρ hp) λQ E=>H Q E s
end
abbrev Rv:cM->J->ar->Prop:=λρ b a=>RV ρ b a
abbrev Bv:cM->Bool->Bool->Prop:=λ_ b a=>b=a
abbrev eR(K:Cx){α β:Type}(t:o7 α)(m:M β)(R:cM->β->α->Prop):Prop:=∀ρ,aX K ρ (PW K t) m R
abbrev b8(K:Cx)(e:Expr)(m:M J):Prop:=eR K (rV e K.c.env) m Rv
abbrev mj(K:Cx)(e:Expr)(m:M Bool):Prop:=eR K (isTrue e K.c.env (rV e K.c.env)) m Bv
section
variable{K:Cx}{σ:St}{ρ:cM}{s:aF}{x:aV}{i:Nat}{v:J}{pos:da}
theorem jX{k:Const}(n:Nat)(hv:Ba k=Y v):b8 K (.Constant k n pos) (D v):=λρ=>by induction k with
 |none=>exact(sI hv)▸aX.stay _ (λ_ _=>.none) λ_ _ _=>wpAny_Constant_none
 |bool b=>exact(sI hv)▸aX.stay _ (λ_ _=>.bool b) λ_ _ _=>wpAny_Constant_bool
 |int i=>exact(sI hv)▸aX.leaf λ_ Q E s _ h=>kx (h _ _ (.int i _))
 |str x=>exact(sI hv)▸aX.leaf λ_ Q E s _ h=>gV (h _ _ (.str x _ U))
 |_=>exact nS hv
def Zt(v:J):Bool:=vC I (a:=v) (unb:=S)
theorem I9{w:J}(e:vE v=Y w):v=w/\v≠.unb:=by induction v with
 |unb=>exact nS e
 |_=>exact⟨sI e,λq=>nT (congrArg Zt q)⟩
theorem xO(C:fB K.c K.A)(hx:eE K.c.V x=Y i)(hr:K.R σ ρ s.heap)(hv:σ.loc[i]?=Y v)(hu:v≠.unb){Q:ar->aF->Prop}{E:ar->aF->Prop}(h:∀u,RV ρ v u->Q u s):PW K (loadName K.c.env x) Q E s:=by obtain⟨m,F,L⟩:=hr.fr;cases L x i v hx hv hu with
 |loc k u hm hR=>exact wpAny_loadName_local C.kind (by unfold f6;exact C.scope▸k) F.ns hm (h u hR)
 |cell k ca u hc hm hR=>cases hr.held _ hm with
  |cell o ho hd=>
   rcases k with k|k
   ·exact wpAny_loadName_cell C.kind (by unfold f6;exact C.scope▸k) hc ⟨o,ho,hd⟩ (h u hR)
   ·exact wpAny_loadName_free C.kind (by unfold f6;exact C.scope▸k) hc ⟨o,ho,hd⟩ (h u hR) (C.nd x i hx).2
theorem Dw(C:fB K.c K.A)(hx:eE K.c.V x=Y i):eR K (loadName K.c.env x) (B i) Rv:=λ_ σ ρ s _ hr ht=>bB.gO (o:=(σ.loc[i]?).bind vE) (K:=K) (ρ:=ρ) (σ:=σ) (s:=s) (R:=Rv) λa e=>by obtain⟨w,e1,e2⟩:=aA.mp e;obtain⟨rfl,hu⟩:=I9 e2;exact bB.go U λQ E h=>xO C hx hr e1 hu λu hR=>h ρ s.heap s.toks u (List.prefix_refl _) hr hR ht
theorem Lk(C:fB K.c K.A)(hx:eE K.c.V x=Y i):b8 K (.Name x pos) (B i):=λρ=>(Dw C hx ρ).pre λQ E s h=>wpAny_Name h (C.nd x i hx).1
theorem Ac{V:VI}(h:iM V x=S):V.scope.names.lookup x=Y .globalImplicit:=by unfold iM at h;induction q:(V.scope.names.lookup x==Y .globalImplicit)with
 |true=>exact eq_of_beq q
 |false=>rw[q]at h;exact nT h
theorem jV(G:Gd K.T K.W)(C:fB K.c K.A)(hg:iM K.c.V x=S)(hv:K.T.glob.lookup x=Y v)(hr:K.R σ ρ s.heap){Q:ar->aF->Prop}{E:ar->aF->Prop}(h:∀u,(∀ρ,RV ρ v u)->Q u s):PW K (rV (.Name x pos) K.c.env) Q E s:=by obtain⟨m,F,_⟩:=hr.fr;refine Name_function_global C.kind (by unfold f6;exact C.scope▸Ac hg) ?_ (G.dbg x v hv);cases G.glob x v hv with
 |glob u hR hn=>exact loadGlobal_global (by exact C.glob▸G.top.g.keeps F.keep) (mg_of G.X G.top.g hn) (h u hR)
 |bi u hR hn hb hne=>exact loadGlobal_builtin (by exact C.glob▸G.top.g.keeps F.keep) (mg_none_of G.X G.top.g hn) (by exact C.bi▸G.top.b.keeps F.keep) ((G.top.builtins x hne).trans hb) (h u hR)
theorem Jy(G:Gd K.T K.W)(C:fB K.c K.A)(hg:iM K.c.V x=S)(hv:K.T.glob.lookup x=Y v):b8 K (.Name x pos) (D v):=λ_ σ ρ s _ hr ht=>bB.go U λQ E h=>jV G C hg hv hr λu hR=>h ρ s.heap s.toks u (List.prefix_refl _) hr (hR ρ) ht
theorem pV{a:Int}(h:small a=S):tF.Int.intBits a<=64:=by have h':a.natAbs<2^63:=of_decide_eq_true h;exact intBits_le_64 (by exact Int.neg_lt_of_neg_lt (gW (CR (k:=2^63) (Nat.le_of_lt h')).2 (of_decide_eq_true U))) (by exact gW (CR (k:=2^63) (Nat.le_of_lt h')).1 (of_decide_eq_true U))
end
end
section
open PySem PySem.W PySem.Calls PyProof.Rows
theorem tA:∀{a b:List Nat},eqL a b=S↔a=b
 |[],[]=>⟨λ_=>rfl,λ_=>rfl⟩
 |[],_::_=>⟨λh=>(by exact nT h),λh=>(by cases h)⟩
 |_::_,[]=>⟨λh=>(by exact nT h),λh=>(by cases h)⟩
 |a::r,b::q=>by show(Nat.beq a b&&eqL r q)=S↔_;simp only[ax,List.cons.injEq,tA (a:=r) (b:=q),Nat.beq_eq]
theorem BD{x y:aV}(h:x.cps.toList=y.cps.toList):x=y:=by induction x;induction y;exact congrArg aV.mk (Array.ext' h)
theorem xz(x y:aV):(x==y)=eqL x.cps.toList y.cps.toList:=by rw[dL,tA,beq_iff_eq];exact⟨λh=>by rw[h],BD⟩
theorem xT(x y:aV):aI (x=y)=eqL x.cps.toList y.cps.toList:=by rw[dL,tA,decide_eq_true_eq];exact⟨λh=>by rw[h],BD⟩
theorem je(x:aV):x.length=x.cps.toList.length:=by show x.cps.size=_;simp
theorem xo(x y:aV):(x++y).cps.toList=x.cps.toList++y.cps.toList:=by show(x.cps++y.cps).toList=_;simp
theorem zy(d:Nat):∀(k:Nat)(a:Array Nat),((List.replicate k #[d]).foldl (·++·) a).toList=a.toList++Aw [d] k
 |0,a=>(List.append_nil _).symm
 |k+1,a=>by simp only[List.replicate_succ,List.foldl_cons,zy d k];show(a++#[d]).toList++_=_++([d]++_);simp only[Array.toList_append,List.append_assoc]
theorem KD(x:aV)(n:Int){d:Nat}(hx:x.cps.toList=[d]):(Txt.mul x n).cps.toList=Aw [d] n.toNat:=by
 unfold Txt.mul
 by_cases h1:n<1
 ·rw[if_pos h1,show n.toNat=0 by exact Int.toNat_of_nonpos (Int.le_of_lt_add_one h1)];rfl
 ·rw[if_neg h1]
  by_cases h2:(n==1||x.length==0)=S
  ·rw[if_pos h2]
   have:n=1:=by
    rcases o8.mp h2 with h2|h2
    ·exact eq_of_beq h2
    ·rw[je,hx]at h2;exact nT h2
   subst this;rw[hx];rfl
  ·rw[if_neg h2,show x.cps=#[d]from Array.ext' hx]
   exact zy d n.toNat #[]
variable{K:Cx}{σ:St}{ρ:cM}{s:aF}{a b:J}{va vb:ar}
theorem SL(ha:RV ρ a va)(hb:RV ρ b vb):aX K ρ (PW K (ek .Add va vb)) (Of a b) Rv:=by induction ha with
 |int x t=>exact aX.oInt (wv:=λv=>PW K (ek .Add (.int x t) v)) hb λy u=>aX.leaf λ_ Q E s _ h=>add_int (h _ _ (.int _ _))
 |str x t e=>subst e;refine aX.oStr (wv:=λv=>PW K (ek .Add (.str x t) v)) hb λy u=>aX.gd λq=>aX.leaf λ_ Q E s _ h=>add_str (λt' tk=>h tk _ (.str _ _ (xo x y))) ?_;have:=Nat.le_of_ble_eq_true q;rw[List.length_append]at this;rw[je,je];exact this
 |obj e1=>
  refine aX.oObj (wv:=λv=>PW K (ek .Add (.ref _) v)) hb λj c r e2 σ ρ' s hp hr ht=>bB.gL λxs o1=>bB.gL λys o2=>bB.gd λq=>?_;obtain⟨vs,n,g1,l1,_⟩:=hr.list o1 (b5 hp e1);obtain⟨ws,n2,g2,l2,_⟩:=hr.list o2 (b5 hp e2);have lx:=l1.length;have ly:=l2.length;exact bB.put ht U λQ E h=>P.add_list (items:=vs.toArray) (items2:=ws.toArray) (n:=n) (n2:=n2) g1 g2
   (h _ _ s.toks _ (List.prefix_append _ _) (hr.newPush _ (.list (n:=0) (vs:=vs++ws) (by rw[bA _ U,List.append_toArray]) ((l1.append l2).mono λ_ _=>RV.mono (List.prefix_append _ _)))) (RV.new hr))
   (by rw[List.size_toArray,List.size_toArray,<-lx,<-ly];exact Nat.le_of_ble_eq_true q)
 |_=>exact aX.no
theorem OV(ha:RV ρ a va)(hb:RV ρ b vb):aX K ρ (PW K (ek .Mult va vb)) (Nw a b) Rv:=by induction ha with
 |int x t=>exact aX.oInt (wv:=λv=>PW K (ek .Mult (.int x t) v)) hb λy u=>aX.gd λq=>aX.leaf λ_ Q E s _ h=>mul_int (h _ _ (.int _ _)) ((o8.mp q).elim (λq=>IntMulOk.of_left (pV q)) λq=>IntMulOk.of_right (pV q))
 |str x t e=>
  subst e;refine aX.oInt (wv:=λv=>PW K (ek .Mult (.str x t) v)) hb λy u=>aX.gd λq=>?_;rw[ax,ax,decide_eq_true_eq,decide_eq_true_eq]at q;obtain⟨⟨q1,q2⟩,q3⟩:=q;obtain⟨d,hd⟩:=List.length_eq_one_iff.mp (Nat.eq_of_beq_eq_true q1);have hl:x.length=1:=by rw[je,hd];rfl
  refine hd▸?_;refine aX.leaf λ_ Q E s _ h=>SB.mul ⟨?_,λh1 h2=>?_,λh1 h2=>?_⟩ λt' k=>h k _ (.str _ _ (KD x y hd))
  ·rw[cO,decide_eq_false_iff_not,decide_eq_false_iff_not];exact⟨dh.mpr (zB U q3),kt.mpr (gW q2 (of_decide_eq_true U))⟩
  ·refine hl▸?_
   have:(1:Int)<=(2^63-1)/y:=Int.le_ediv_of_mul_le (by lia) (by lia);lia
  ·refine hl▸?_
   unfold tF.Str.tooLong;rw[decide_eq_false_iff_not,cP];exact Nat.not_lt_of_le (Nat.le_trans (Nat.le_of_eq (Nat.one_mul _)) (mS.mpr q2))
 |_=>exact aX.no
theorem Sa{o:eO}(ha:RV ρ a va)(hb:RV ρ b vb):aX K ρ (PW K (ek o va vb)) (Ih o a b) Rv:=by induction o with
 |Add=>exact SL ha hb
 |Mult=>exact OV ha hb
 |Sub=>exact aX.oInt (wv:=λv=>PW K (ek .Sub v vb)) ha λx t=>aX.oInt (wv:=λv=>PW K (ek .Sub (.int x t) v)) hb λy u=>aX.leaf λ_ Q E s _ h=>sub_int (h _ _ (.int _ _))
 |FloorDiv=>refine aX.oInt (wv:=λv=>PW K (ek .FloorDiv v vb)) ha λx t=>aX.oInt (wv:=λv=>PW K (ek .FloorDiv (.int x t) v)) hb λy u=>aX.gd λq=>aX.leaf λ_ Q E s _ h=>?_;rw[dt,cO,decide_eq_false_iff_not,decide_eq_false_iff_not]at q;exact floordiv_int q.1 (h _ _ (.int _ _)) (.inl (PyProof.noPylong_small (Nat.lt_of_not_le q.2)))
 |Mod=>refine aX.oInt (wv:=λv=>PW K (ek .Mod v vb)) ha λx t=>aX.oInt (wv:=λv=>PW K (ek .Mod (.int x t) v)) hb λy u=>aX.gd λq=>aX.leaf λ_ Q E s _ h=>?_;rw[dt,decide_eq_false_iff_not]at q;exact mod_int' q (h _ _ (.int _ _))
 |Pow=>refine aX.oInt (wv:=λv=>PW K (ek .Pow v vb)) ha λx t=>aX.oInt (wv:=λv=>PW K (ek .Pow (.int x t) v)) hb λy u=>aX.gd λq=>aX.leaf λ_ Q E s _ h=>?_;rw[ax,ax,decide_eq_true_eq,decide_eq_true_eq]at q;exact pow_int q.1.2 (eN (Int.mul_le_mul (c:=64) (d:=64) (gh.mpr (pV q.1.1)) q.2 q.1.2 (by decide)) (by decide)) (h _ _ (.int _ _))
 |_=>exact aX.no
variable{l r x y z:Expr}{pos:da}{ml mr mx my mz:M J}{tx:M Bool}
theorem Mw{o:eO}(il:b8 K l ml)(ir:b8 K r mr):b8 K (.BinOp l o r pos) (bp o ml mr):=λρ=>((il ρ).bind λρ1 va a p1 ha=>(ir ρ1).bind λρ2 vb b p2 hb=>Sa (ha.mono p2) hb).pre λQ E s h=>wpAny_BinOp h
theorem S1(ha:RV ρ a va):aX K ρ (PW K (unaryOp .USub va)) (gM a λx=>M.ret (.int (-x))) Rv:=aX.oInt (wv:=λv=>PW K (unaryOp .USub v)) ha λx t=>aX.leaf λ_ Q E s _ h=>neg_int (h _ _ (.int _ _))
theorem KZ(ix:b8 K x mx):b8 K (.UnaryOp .USub x pos) (rp mx):=λρ=>((ix ρ).bind λρ1 va a p1 ha=>S1 ha).pre λQ E s h=>pw h
theorem QZ(ha:RV ρ a va):aX K ρ (PW K (unaryOp .Not va)) (kP a λt=>yes (!t)) Rv:=aX.oBool (wv:=λv=>PW K (unaryOp .Not v)) ha λx=>aX.stay _ (λ_ _=>.bool _) λQ E s h=>not_of (dv h)
theorem KL(ix:b8 K x mx):b8 K (.UnaryOp .Not x pos) (KU mx):=λρ=>((ix ρ).bind λρ1 va a p1 ha=>QZ ha).pre λQ E s h=>pw h
theorem GX(ha:RV ρ a va):aX K ρ (PW K (nZ va)) (kP a M.ret) Bv:=aX.oBool (wv:=λv=>PW K (nZ v)) ha λx=>aX.stay x (λ_ _=>rfl) λQ E s h=>dv h
end
section
open PySem PySem.W PySem.Calls PyProof.Rows
inductive qs(W:Wd)(p:List Nat×J)(e:b7):Prop where
 |mk (x:aV) (t:qV) (a:x.cps.toList=p.1) (b:e.key=.str x t) (c:e.hash=d9 W.w.params x) (d:∀ρ,RV ρ p.2 e.val):qs W p e
theorem qs.toD{W:Wd}{ρ:cM}{p:List Nat×J}{e:b7}(x:qs W p e):mJ W ρ p e:=let⟨a,b,c,d,e,f⟩:=x;⟨a,b,c,d,e,f ρ⟩
abbrev Sv(v:J)(u:ar):Prop:=∀ρ,RV ρ v u
inductive N3(W:Wd)(d:bf)(es:List (List Nat×J)):Prop where
 |mk (ns:(d==fZ)=I) (ds:List b7) (n:Nat) (l:W.K.lookup d=Y ⟨.type "dict",.none,.dict ds.toArray n,#[]⟩) (r:bP (qs W) es ds):N3 W d es
inductive Hm(W:Wd)(d:bf)(vs:List J):Prop where
 |mk (us:List ar) (l:W.h0.IsList d us.toArray) (r:bP Sv vs us):Hm W d vs
inductive Ve(W:Wd)(d:bf)(vs:List J):Prop where
 |mk (us:List ar) (n:Nat) (dd:Option bf) (sl:Array (Option ar)) (l:W.K.lookup d=Y ⟨.type "tuple",dd,.seq us.toArray n,sl⟩) (r:bP Sv vs us):Ve W d vs
structure Gt(T:aT)(W:Wd):Prop where
 sdict:∀d es,d5 d T.sdict=Y es->N3 W d es
 slist:∀d vs,d5 d T.slist=Y vs->Hm W d vs
 stup:∀d vs,d5 d T.stup=Y vs->Ve W d vs
section
variable{W:Wd}{ρ:cM}{h:cT}{es:List (List Nat×J)}{ds:List b7}{n:Nat}{a:bf}
theorem kn(ho:h.get? a=Y (fJ ds n))(r:bP (mJ W ρ) es ds):h.MapOf (strKind W.prog W.w) a (λk=>findBy pz ds.toArray k):=by refine⟨_,ds.toArray,n,ho,⟨U,U,U⟩,U,λe he=>?_,λ_=>rfl⟩;obtain⟨i,hi,rfl⟩:=List.getElem_of_mem (show e∈ds by simpa using he);obtain⟨b,e2,x,t,a1,a2,a3,a4⟩:=r.get (i:=i) (List.getElem?_eq_getElem (by exact r.length▸hi));rw[List.getElem?_eq_getElem hi]at e2;exact(sI e2)▸⟨x,by exact a2▸fz W.prog W.w x t,a3⟩
inductive y0(ρ:cM)(x:aV)(es:List (List Nat×J))(o:Option ar):Prop where
 |yes (v:J) (u:ar) (a:fG x.cps.toList es=Y v) (b:o=Y u) (r:RV ρ v u):y0 ρ x es o
 |no (a:fG x.cps.toList es=.none) (b:o=.none):y0 ρ x es o
theorem qD(r:bP (mJ W ρ) es ds)(x:aV):y0 ρ x es (findBy pz ds.toArray x):=by unfold findBy;simp only[List.find?_toArray];induction r with
 |nil=>exact .no U rfl
 |@cons pe de l m p q ih=>
  obtain⟨y,t,a1,a2,a3,a4⟩:=p;have hb:pz x de.key=eqL pe.1 x.cps.toList:=by exact a2▸a1▸xz y x
  refine(List.find?_cons)▸hb▸?_;induction q:eqL pe.1 x.cps.toList with
  |true=>exact .yes pe.2 _ (by unfold fG;refine q▸?_;rfl) U a4
  |false=>induction ih with
   |yes v u a b r=>exact .yes v u (by unfold fG;exact q▸a) b r
   |no a b=>exact .no (by unfold fG;exact q▸a) b
theorem y0.some{x:aV}{o:Option ar}(F:y0 ρ x es o):o.isSome=(fG x.cps.toList es).isSome:=by induction F with
 |yes v u a b r=>refine a▸b▸?_;rfl
 |no a b=>refine a▸b▸?_;rfl
theorem qd{us:List ar}{dd:Option bf}{sl:Array (Option ar)}(e:h.get? a=Y ⟨.type "tuple",dd,.seq us.toArray n,sl⟩):n5 h a us.toArray:=⟨_,e,U,n,U⟩
end
theorem wZ(x y:Int):(x==y)=aI (x=y):=by rw[dL,beq_iff_eq,decide_eq_true_eq]
variable{K:Cx}{σ:St}{ρ:cM}{s:aF}{a b:J}{va vb:ar}{E:ar->aF->Prop}
inductive RS(ρ:cM)(t:Bool):J->J->ar->ar->Prop where
 |int (x y:Int) (t1 t2:qV) (e:aI (x=y)=t):RS ρ t (.int x) (.int y) (.int x t1) (.int y t2)
 |str (x y:aV) (t1 t2:qV) (e:eqL x.cps.toList y.cps.toList=t):RS ρ t (.str x.cps.toList) (.str y.cps.toList) (.str x t1) (.str y t2)
theorem xK{t:Bool}(ha:RV ρ a va)(hb:RV ρ b vb)(e:nX a b=Y t):RS ρ t a b va vb:=by induction ha with
 |int x t1=>induction hb with
  |int y t2=>exact .int x y t1 t2 (aQ e)
  |_=>exact nS e
 |str x t1 e1=>induction hb with
  |str y t2 e2=>subst e1 e2;exact .str x y t1 t2 (aQ e)
  |_=>exact nS e
 |_=>exact nS e
theorem DC{t:Bool}{Q:Bool->aF->Prop}(ha:RV ρ a va)(hb:RV ρ b vb)(e:nX a b=Y t)(h:Q t s):PW K (eqBool va vb) Q E s:=by cases xK ha hb e with
 |int x y t1 t2 k=>exact wpAny_eqBool_int (by simp only[wZ,k];exact h)
 |str x y t1 t2 k=>exact wpAny_eqBool_str (by simp only[xT,k];exact h)
theorem qC{xs:List J}{vs:List ar}{t:bf}{b:Bool}{Q:Bool->aF->Prop}(ht:n5 s.heap t vs.toArray)(hl:bP (RV ρ) xs vs)(ha:RV ρ a va)(e:lX a xs=Y b)(h:Q b s):PW K (vn (.ref t) va) Q E s:=by
 show bY _ _ _ _ _ _;unfold vn;refine bS ?_;refine ay (wpAny_specialOf ht.typeIs jG.lookup ?_);rw[if_neg (by decide)];refine ay (wpAny_callSpecialUnlessNone?_slot (name:=am "__contains__") ht.typeIs jG
  (wpAny_call_entry jG ht.typeIs entry_tuple_contains ?_ (args_tuple_contains _ _)))
 show bY _ _ (tF.Tuple.tupleItemsOf (.ref t)>>=_) _ _ s;refine ay (tupleItemsOf_ ht ?_);refine ay (forIn_array_ _ (λbX r s'=>r.1=cV/\s'=s/\∃ys,bP (RV ρ) ys bX/\lX a ys=Y b) _ ?_ ?_ vs.toArray _ ⟨U,U,xs,by simpa using hl,e⟩)
 ·rintro y bX r s' ⟨hb,rfl,ys,hy,hin⟩
  cases hy with
  |@cons z _ zs _ p q=>unfold lX at hin;induction q1:nX z a with
   |none=>rw[q1]at hin;exact nS hin
   |some t=>rw[q1]at hin;refine ay (DC (K:={K with A:=K.A.in1}) p ha q1 ?_);induction t with
    |true=>obtain rfl:=sI hin;exact ay (aL (aL (aL (by exact⟨_,U,dv h⟩))))
    |false=>exact aL ⟨U,U,zs,q,hin⟩
 ·rintro⟨b1,b2⟩ s' ⟨hb,rfl,ys,hy,hin⟩
  cases hy;obtain rfl:=sI hin;simp only at hb;subst hb;exact aL ⟨_,U,dv h⟩
section
variable{xs:List J}{vs:List ar}{t:bf}{b:Bool}{Q:ar->aF->Prop}
theorem G9(ht:n5 s.heap t vs.toArray)(hl:bP (RV ρ) xs vs)(ha:RV ρ a va)(e:lX a xs=Y b)(h:Q (.bool b) s):PW K (b9 .In va (.ref t)) Q E s:=by show bY _ _ (do return .bool (<-vn (.ref t) va)) Q E s;exact ay (qC (K:=K) ht hl ha e (aL h))
theorem wx(ht:n5 s.heap t vs.toArray)(hl:bP (RV ρ) xs vs)(ha:RV ρ a va)(e:lX a xs=Y b)(h:Q (.bool (!b)) s):PW K (b9 .NotIn va (.ref t)) Q E s:=by show bY _ _ (do return .bool (!(<-vn (.ref t) va))) Q E s;exact ay (qC (K:=K) ht hl ha e (aL h))
end
theorem wO(x:aV)(y:aV){d:Nat}(hy:y.cps.toList=[d]):(!(tF.Str.occurrences x y 0 x.length 1).isEmpty)=x.cps.toList.any (Nat.beq d):=by
 have:y=⟨#[d]⟩:=BD (by exact hy▸rfl);subst this;rw[StrLaws.found_one,dL,decide_eq_true_eq,List.any_eq_true];constructor
 ·intro m;exact⟨d,m,Nat.beq_refl d⟩
 ·rintro⟨e,m,q⟩
  rw[Nat.beq_eq]at q;subst q;exact m
theorem Di{b:Bool}(h:RV ρ a va)(e:UL a=Y b):(va==ar.none)=b:=by induction h<;>first|exact nS e|exact sI e
def CM(xs ys:List J)(j:Nat):Bool:=(xs[j]?.bind λa=>ys[j]?.bind λb=>nX a b).getD I
theorem sF:∀{xs ys:List J}{t:Bool},tu xs ys=Y t->(List.range xs.length).all (CM xs ys)=t/\∀j a b,xs[j]?=Y a->ys[j]?=Y b->nX a b=Y (CM xs ys j)
 |[],[],t,e=>by exact(sI e)▸⟨U,λj a b h=>by cases h⟩
 |[],_::_,t,e=>by cases e
 |_::_,[],t,e=>by cases e
 |a::r,b::q,t,e=>by
  obtain⟨t1,h1,h2⟩:=aA.mp (show(nX a b).bind _=Y t from e);obtain⟨u,h3,rfl⟩:=aP.mp h2;obtain⟨h4,h5⟩:=sF h3;have e0:CM (a::r) (b::q) 0=t1:=by show(nX a b).getD I=t1;simp only[h1];rfl
  refine⟨?_,λj x y hx hy=>?_⟩
  ·simp only[List.length_cons,List.range_succ_eq_map,List.all_cons,List.all_map,e0]
   exact congrArg _ h4
  ·induction j with
   |zero=>obtain rfl:=sI hx;obtain rfl:=sI hy;simp only[e0];exact h1
   |succ j=>exact h5 j x y hx hy
theorem CZ{vs:List ar}{j:Nat}{u:ar}(h:j<vs.toArray.size)(e:vs[j]?=Y u):vs.toArray[j]=u:=by rw[List.size_toArray]at h;simp only[List.getElem_toArray];exact aQ ((List.getElem?_eq_getElem h).symm.trans e)
theorem I6{c d:bf}{n k:Nat}{vs us:List ar}{xs ys:List J}{t:Bool}{Q:ar->aF->Prop}(hu:K.A.units+64<cLine)(ha:s.heap.get? c=Y (listOf vs.toArray n))(hb:s.heap.get? d=Y (listOf us.toArray k))(l1:bP (RV ρ) xs vs)(l2:bP (RV ρ) ys us)
  (e:(bif Nat.beq xs.length ys.length then tu xs ys else Y I)=Y t) (hq:Q (.bool t) s):PW K (b9 .Eq (.ref c) (.ref d)) Q E s:=by
 have z1:vs.toArray.size=xs.length:=by rw[List.size_toArray,l1.length]
 have z2:us.toArray.size=ys.length:=by rw[List.size_toArray,l2.length]
 induction hl:Nat.beq xs.length ys.length with
 |false=>rw[hl]at e;obtain rfl:=sI e;refine PySem.SeqAt.eq_list_lengthsAt (cF ha) (cF hb) ?_ (by exact bE [_,_] [(.a (.a (.v 0) (.l 64)) (.l 1),.v 1)] 0 [1] (.a (.v 0) (.l 1)) (.v 1) U hu) hq;exact z1▸z2▸bne_iff_ne.mpr λq=>by rw[q,Nat.beq_refl]at hl;exact nF hl
 |true=>rw[hl]at e;have hl:=Nat.eq_of_beq_eq_true hl;obtain⟨h1,h2⟩:=sF e;refine PySem.SeqAt.eq_listAt (e:=CM xs ys) (cF ha) (cF hb) (by exact z1▸z2▸hl▸rfl) (by exact bE [_,_] [(.a (.a (.v 0) (.l 64)) (.l 1),.v 1)] 0 [1] (.a (.v 0) (.l 1)) (.v 1) U hu) (λj j1 j2=>?_) (by exact z1▸h1▸hq);intro prog w E' Q' hq';have j1':j<xs.length:=z1▸j1;have j2':j<ys.length:=z2▸j2;obtain⟨u1,g1,r1⟩:=l1.get (List.getElem?_eq_getElem j1');obtain⟨u2,g2,r2⟩:=l2.get (List.getElem?_eq_getElem j2');exact(CZ j1 g1)▸(CZ j2 g2)▸DC (K:={K with W:={K.W with prog:=prog,w:=w},A:=K.A.in1}) r1 r2 (h2 j _ _ (List.getElem?_eq_getElem j1') (List.getElem?_eq_getElem j2')) hq'
def BW(K:Cx)(t:o7 ar):WT Bool:=λQ E s=>PW K t (λv s'=>∃b,v=.bool b/\Q b s') E s
theorem BW.out{t:o7 ar}{Q:ar->aF->Prop}(h:BW K t (λb=>Q (.bool b)) E s):PW K t Q E s:=bu h (λv s'⟨b,e,q⟩=>e▸q) λ_ _ x=>x
abbrev Nv:cM->Bool->Bool->Prop:=λ_ b a=>a=!b
theorem yc{t:o7 ar}{R:cM->Bool->Bool->Prop}{b c:Bool}(r:∀ρ,R ρ b c)(H:∀Q E s,(∀tk,Q (.bool c) (eH s s.heap tk))->PW K t Q E s):aX K ρ (BW K t) (M.ret b) R:=λσ ρ s hp hr ht=>bB.go U λQ E h=>cq (n:=1) ht (H _ _ s λtk htk=>⟨c,U,h ρ s.heap tk c (List.prefix_refl _) hr (r ρ) htk⟩)
theorem bB.bwLeaf{t:o7 ar}{R:cM->Bool->Bool->Prop}{b c:Bool}(hr:K.R σ ρ s.heap)(ht:0<s.toks)(r:R ρ b c)(H:∀Q E,(∀tk,Q (.bool c) (eH s s.heap tk))->PW K t Q E s):bB K σ ρ s (BW K t) (M.ret b) R:=bB.go U λQ E h=>cq (n:=1) ht (H _ _ λtk htk=>⟨c,U,h ρ s.heap tk c (List.prefix_refl _) hr r htk⟩)
theorem Sl(hu:K.A.units+64<cLine)(ha:RV ρ a va)(hb:RV ρ b vb):aX K ρ (BW K (b9 .Eq va vb)) (Y8 a b) Bv:=by
 have flat:aX K ρ (BW K (b9 .Eq va vb)) (gO (nX a b) M.ret) Bv:=aX.gO λt e=>yc (c:=t) (λ_=>rfl) λQ E s h=>by cases xK ha hb e with
  |int x y t1 t2 k=>exact eq_int (by rw[wZ,k];exact h s.toks)
  |str x y t1 t2 k=>exact PyProof.Rows.eq_str (by rw[xz,k];exact h s.toks)
 induction ha with
 |obj e1=>refine aX.oObj (v:=b) (wv:=λv=>BW K (b9 .Eq (.ref _) v)) hb λj c r e2 σ ρ' s hp hr ht=>bB.gL λxs o1=>bB.gL λys o2=>bB.gO λt e=>?_;obtain⟨vs,n,g1,l1,_⟩:=hr.list o1 (b5 hp e1);obtain⟨ws,k,g2,l2,_⟩:=hr.list o2 (b5 hp e2);exact bB.bwLeaf hr ht U λQ E h=>I6 hu g1 g2 l1 l2 e (h s.toks)
 |_=>exact flat
theorem WW(ha:RV ρ a va)(hb:RV ρ b vb):aX K ρ (PW K (b9 .NotEq va vb)) (gO (nX a b) λt=>yes (!t)) Rv:=aX.gO λt e=>aX.stay _ (λ_ _=>.bool _) λQ E s h=>by cases xK ha hb e with
 |int x y t1 t2 k=>exact ne_int (by simp only[bne,wZ,k];exact h)
 |str x y t1 t2 k=>exact PyProof.Rows.ne_str (by simp only[bne,xz,k];exact h)
theorem VY(G:Gd K.T K.W)(Gt:Gt K.T K.W)(ha:RV ρ a va)(hb:RV ρ b vb):aX K ρ (BW K (b9 .In va vb)) (Xl K.T a b) Bv:=
 aX.oStr (wv:=λv=>BW K (b9 .In v vb)) ha λx t=>by induction hb with
  |str y u e=>subst e;exact aX.on1 λc e=>yc (c:=y.cps.toList.any (Nat.beq c)) (λ_=>rfl) λQ E s h=>PyProof.Rows.in_str (by exact(wO y x e)▸h s.toks)
  |sref d=>
   show aX K ρ _ (match d5 d K.T.sdict with
    |some es=>M.ret (fG x.cps.toList es).isSome
    |.none=>gO (d5 d K.T.stup) λvs=>gO (lX (.str x.cps.toList) vs) M.ret) Bv
   induction q:d5 d K.T.sdict with
   |some es=>obtain⟨lo,ds,n,hl,r⟩:=Gt.sdict _ _ q;have r':bP (mJ K.W ρ) es ds:=r.mono λ_ _=>qs.toD;exact λσ ρ' s hp hr ht=>bB.bwLeaf hr ht (c:=(fG x.cps.toList es).isSome) U λQ E h=>wpAny_in_of (fz K.W.prog K.W.w x t) lo (kn (n:=n) (hr.stays _ _ (G.X _ _ hl)) r') (by exact((qD r' x).some)▸h _)
   |none=>refine aX.gO λvs q=>aX.gO λb e=>?_;obtain⟨us,n,dd,sl,hl,r⟩:=Gt.stup _ _ q;exact λσ ρ' s hp hr ht=>bB.bwLeaf hr ht (c:=b) U λQ E h=>G9 (qd (hr.stays _ _ (G.X _ _ hl))) (r.mono λ_ _ z=>z ρ) (.str x t U) e (h s.toks)
  |obj eb=>intro σ ρ' s hp hr ht;refine bB.gD λes q=>?_;obtain⟨ds,n,g,r,_,ns,_⟩:=hr.dict q (b5 hp eb);exact bB.bwLeaf hr ht (c:=(fG x.cps.toList es).isSome) U λQ E h=>wpAny_in_of (fz K.W.prog K.W.w x t) ns (kn (n:=n) g r) (by exact((qD r x).some)▸h _)
  |_=>exact aX.no
theorem Iw(G:Gd K.T K.W)(Gt:Gt K.T K.W)(ha:RV ρ a va)(hb:RV ρ b vb):aX K ρ (BW K (b9 .NotIn va vb)) (UJ K.T a b) Nv:=
 aX.oStr (wv:=λv=>BW K (b9 .NotIn v vb)) ha λx t=>by induction hb with
  |str y u e=>subst e;exact aX.on1 λc e=>yc (c:=!y.cps.toList.any (Nat.beq c)) (λ_=>rfl) λQ E s h=>PyProof.Rows.notIn_str (by exact(wO y x e)▸h s.toks)
  |sref d=>refine aX.gO λvs q=>aX.gO λb e=>?_;obtain⟨us,n,dd,sl,hl,r⟩:=Gt.stup _ _ q;exact λσ ρ' s hp hr ht=>bB.bwLeaf hr ht (c:=!b) U λQ E h=>wx (qd (hr.stays _ _ (G.X _ _ hl))) (r.mono λ_ _ z=>z ρ) (.str x t U) e (h s.toks)
  |_=>exact aX.no
theorem WH(ha:RV ρ a va)(hb:RV ρ b vb):aX K ρ (PW K (b9 .Is va vb)) (pj b (gO (UL a) yes)) Rv:=aX.oNone (wv:=λv=>PW K (b9 .Is va v)) hb (aX.gO λt e=>aX.stay _ (λ_ _=>.bool t) λQ E s h=>is_none (by exact(Di ha e)▸h))
theorem Jp(ha:RV ρ a va)(hb:RV ρ b vb):aX K ρ (PW K (b9 .IsNot va vb)) (pj b (gO (UL a) λt=>yes (!t))) Rv:=aX.oNone (wv:=λv=>PW K (b9 .IsNot va v)) hb (aX.gO λt e=>aX.stay _ (λ_ _=>.bool (!t)) λQ E s h=>isNot_none (by exact(Di ha e)▸h))
theorem q9{t:Bool}{c:Bool}{R:cM->J->ar->Prop}(r:∀ρ,R ρ (.bool t) (.bool c)):aX K ρ (λQ E s=>Q (.bool c) s) (yes t) R:=aX.stay _ (λ_ _=>r _) λ_ _ _ h=>h
section
variable{p q:fQ}
theorem wS{o:fQ}{f:Int->Int->Bool}(ha:RV ρ a va)(hb:RV ρ b vb)(H:∀x y t u(Q:ar->aF->Prop) E s,Q (.bool (f x y)) s->PW K (b9 o (.int x t) (.int y u)) Q E s):aX K ρ (PW K (b9 o va vb)) (gM a λx=>gM b λy=>yes (f x y)) Rv:=
 aX.oInt (wv:=λv=>PW K (b9 o v vb)) ha λx t=>aX.oInt (wv:=λv=>PW K (b9 o (.int x t) v)) hb λy u=>aX.stay _ (λ_ _=>.bool _) λQ E s h=>H x y t u Q E s h
end
theorem tH(G:Gd K.T K.W)(Gt:Gt K.T K.W)(hu:K.A.units+64<cLine){o:fQ}(ha:RV ρ a va)(hb:RV ρ b vb):aX K ρ (PW K (b9 o va vb)) (p8 K.T o a b) Rv:=by induction o with
 |Lt=>exact wS ha hb λ_ _ _ _ _ _ _ h=>lt_int h
 |LtE=>exact wS ha hb λ_ _ _ _ _ _ _ h=>le_int h
 |Gt=>exact wS ha hb λ_ _ _ _ _ _ _ h=>gt_int h
 |GtE=>exact wS ha hb λ_ _ _ _ _ _ _ h=>ge_int h
 |Eq=>exact((Sl hu ha hb).bind λρ1 t u p e=>e▸q9 λ_=>.bool _).pre λQ E s h=>BW.out h
 |NotEq=>exact WW ha hb
 |In=>exact((VY G Gt ha hb).bind λρ1 t u p e=>e▸q9 λ_=>.bool _).pre λQ E s h=>BW.out h
 |NotIn=>exact((Iw G Gt ha hb).bind λρ1 t u p e=>(show t=!u from e)▸q9 λ_=>.bool _).pre λQ E s h=>BW.out h
 |Is=>exact WH ha hb
 |IsNot=>exact Jp ha hb
end
section
open PySem PySem.W PySem.Calls PyProof.Rows
variable{K:Cx}{σ:St}{ρ:cM}{s:aF}{a b:J}{va vb:ar}{E:ar->aF->Prop}{x y z:Expr}{mx my mz:M J}{tx:M Bool}{pos:da}
structure Fa(K:Cx):Prop where
 g:Gd K.T K.W
 t:Gt K.T K.W
 u:K.A.units+64<cLine
theorem aX.ite{α β:Type}{w1 w2:WT α}{m1 m2:M β}{R:cM->β->α->Prop}{t:Bool}(J1:t=S->aX K ρ w1 m1 R)(J2:t=I->aX K ρ w2 m2 R):aX K ρ (λQ E s=>if t=S then w1 Q E s else w2 Q E s) (bif t then m1 else m2) R:=by induction t with
 |true=>exact J1 rfl
 |false=>exact J2 rfl
def L9(K:Cx)(x:Expr)(o:fQ)(y:Expr):WT ar:=λQ E s=>PW K (rV x K.c.env) (λa s=>PW K (rV y K.c.env) (λb s=>PW K (b9 o a b) Q E s) E s) E s
theorem DK(F:Fa K){o:fQ}(ix:b8 K x mx)(iy:b8 K y my):aX K ρ (L9 K x o y) (aW K.T o mx my) Rv:=
 (ix ρ).bind λρ1 va a p1 ha=>(iy ρ1).bind λρ2 vb b p2 hb=>tH F.g F.t F.u (ha.mono p2) hb
theorem Cq{o:fQ}{m:M J}(hm:gz o y=I)(aj:∀ρ,aX K ρ (L9 K x o y) m Rv):b8 K (.Compare x [o] [y] pos) m:=λρ=>(aj ρ).pre λQ E s h=>wpAny_Compare1 h hm
theorem Aa{o:fQ}{m:M J}(hm:gz o y=I)(aj:∀ρ,aX K ρ (L9 K x o y) m Rv):mj K (.Compare x [o] [y] pos) (bJ m):=λρ=>((aj ρ).bind λρ3 vd d p3 hd=>GX hd).pre λQ E s h=>wpAny_isTrue_Compare1 h hm
theorem vg{o p:fQ}(hm:gz p z=I):lastMarks [o,p] [y,z]=I:=by simp[lastMarks,hm]
theorem Ie(ha:RV ρ a va){α β:Type}{w1 w2:WT α}{m1 m2:M β}{R:cM->β->α->Prop}(J1:aX K ρ w1 m1 R)(J2:a=.bool I->va=.bool I->aX K ρ w2 m2 R):aX K ρ (λQ E s=>PW K (nZ va) (λt s=>if t=S then w1 Q E s else w2 Q E s) E s) (kP a λt=>bif t then m1 else m2) R:=by induction ha with
 |bool t=>induction t with
  |true=>exact J1.pre λQ E s h=>dv h
  |false=>exact(J2 U U).pre λQ E s h=>dv h
 |_=>exact aX.no
theorem Jh(F:Fa K){o p:fQ}(hm:gz p z=I)(ix:b8 K x mx)(iy:b8 K y my)(iz:b8 K z mz):b8 K (.Compare x [o,p] [y,z] pos) (pf K.T o p mx my mz):=λρ=>((ix ρ).bind λρ1 va a p1 ha=>((iy ρ1).bind λρ2 vb b p2 hb=>(tH F.g F.t F.u (ha.mono p2) hb).bind λρ3 vd d p3 hd=>Ie hd (((iz ρ3).bind λρ4 ve e p4 he=>tH F.g F.t F.u ((hb.mono p3).mono p4) he).pre λQ E s h=>chain_last h) λe1 e2=>by subst e2;exact q9 λ_=>.bool I).pre λQ E s h=>chain_link h).pre λQ E s h=>Compare_chain (ops:=[]) (rs:=[]) h (vg hm)
theorem M.assoc{α β γ:Type}{m:M α}{f:α->M β}{g:β->M γ}:(m.bind f).bind g=m.bind λa=>(f a).bind g:=by
 funext s
 unfold M.bind;cases m s<;>rfl
theorem AY{α β:Type}{k:Bool->M α}{g:α->M β}:(kP a k).bind g=kP a λt=>(k t).bind g:=by induction a<;>rfl
theorem He{T:aT}{o p:fQ}:bJ (pf T o p mx my mz)=mx.bind λa=>my.bind λb=>(p8 T o a b).bind λc=>kP c λt=>bif t then(mz.bind λd=>p8 T p b d).bind (λv=>kP v M.ret)else M.ret I:=by
 unfold bJ pf;simp only[M.assoc,AY]
 congr;funext a;congr;funext b;congr;funext c;congr;funext t
 induction t with
 |true=>exact M.assoc
 |false=>rfl
theorem Dd{e:Expr}{m:M J}(he:∀whole,PySem.isTrue e K.c.env whole=(do let v<-whole;standAt e.pos;qO [v] (nZ v)))(i:b8 K e m):mj K e (bJ m):=λρ=>((i ρ).bind λρ1 va a p1 ha=>GX ha).pre λQ E s h=>wpAny_isTrue_value h (he _)
theorem Eh{pos:da}{a:ar}{op op':fQ}{r r':o7 ar}{Q:Bool->aF->Prop}{M:vp}{A:ch}
  (h:bY M A r (λb s₁=>bY M A (b9 op a b) (λc s₂=>bY M A (nZ c)
   (λt s₃=>if t then bY M A (rW pos b [op'] [r']) Q E s₃ else Q I s₃) E s₂) E s₁) E s):
  bY M A (rW pos a [op,op'] [r,r']) Q E s:=by
 show bY M A (do
  let rv<-qO [a] r
  standAt pos
  let c<-qO [a,rv] (b9 op a rv)
  release [a,rv] [c]
  if<-qO [c,rv] (nZ c)then rW pos rv [op'] [r']else pure I) Q E s
 refine ay (bS (bu h (λb s₁ h₁=>ay (cX (ay (bS (bu h₁ (λc s₂ h₂=>ay (wpAny_release' (ay (bS (bu h₂ (λt s₃ h₃=>?_) λ_ _ x=>x))))) λ_ _ x=>x))))) λ_ _ x=>x));induction t with
 |false=>exact aL h₃
 |true=>exact h₃
theorem ER{pos:da}{a:ar}{op:fQ}{r:o7 ar}{Q:Bool->aF->Prop}{M:vp}{A:ch}
  (h:bY M A r (λb s₁=>bY M A (b9 op a b) (λc s₂=>bY M A (nZ c) Q E s₂) E s₁) E s):bY M A (rW pos a [op] [r]) Q E s:=by
 show bY M A (do
  let rv<-qO [a] r
  standAt pos
  let c<-operate [a,rv] (b9 op a rv)
  qO [c] (nZ c)) Q E s
 exact ay (bS (bu h (λb s₁ h₁=>ay (cX (ay (wpAny_operate' (bu h₁ (λc s₂ h₂=>bS h₂) λ_ _ x=>x))))) λ_ _ x=>x))
theorem D0(F:Fa K){o p:fQ}(hm:gz p z=I)(ix:b8 K x mx)(iy:b8 K y my)(iz:b8 K z mz):mj K (.Compare x [o,p] [y,z] pos) (bJ (pf K.T o p mx my mz)):=λρ=>by simp only[He];exact((ix ρ).bind λρ1 va a p1 ha=>((iy ρ1).bind λρ2 vb b p2 hb=>(tH F.g F.t F.u (ha.mono p2) hb).bind λρ3 vd d p3 hd=>Ie hd ((((iz ρ3).bind λρ4 ve e p4 he=>tH F.g F.t F.u ((hb.mono p3).mono p4) he).bind λρ5 vf f p5 hf=>GX hf).pre λQ E s h=>ER h) λ_ _=>aX.stay I (λ_ _=>rfl) λ_ _ _ h=>h).pre λQ E s h=>Eh h).pre λQ E s h=>isTrue_chain (ops:=[]) (rs:=[]) h (vg hm)
theorem iH{α β:Type}{R:cM->β->α->Prop}{b:β}(a:α)(r:∀ρ,R ρ b a):aX K ρ (λQ E s=>Q a s) (M.ret b) R:=aX.stay a (λ_ _=>r _) λ_ _ _ h=>h
theorem HE(ix:mj K x tx):mj K (.UnaryOp .Not x pos) (vG tx):=λρ=>((ix ρ).bind λρ1 va a p1 e=>by subst e;exact iH (!a) λ_=>rfl).pre λQ E s h=>wpAny_isTrue_Not h
theorem KH(ix:b8 K x mx)(iy:b8 K y my):b8 K (.BoolOp .And [x,y] pos) (Az mx my):=λρ=>((ix ρ).bind λρ1 va a p1 ha=>Ie ha (iy ρ1) λe1 e2=>by subst e2;exact q9 (c:=I) λ_=>.bool I).pre λQ E s h=>wpAny_And2 h
theorem T9(ha:RV ρ a va){w1:WT ar}{m1:M J}(J1:aX K ρ w1 m1 Rv):aX K ρ (λQ E s=>PW K (nZ va) (λt s=>if t=S then Q va s else w1 Q E s) E s) (kP a λt=>bif t then yes S else m1) Rv:=by induction ha with
 |bool t=>induction t with
  |true=>exact(q9 λ_=>.bool S).pre λQ E s h=>dv h
  |false=>exact J1.pre λQ E s h=>dv h
 |_=>exact aX.no
theorem Rn(ix:b8 K x mx)(iy:b8 K y my):b8 K (.BoolOp .Or [x,y] pos) (TZ mx my):=λρ=>((ix ρ).bind λρ1 va a p1 ha=>T9 ha (iy ρ1)).pre λQ E s h=>wpAny_Or2 h
theorem xy{α β:Type}{w1 w2:WT α}{m1 m2:M β}{R:cM->β->α->Prop}{t u:Bool}(e:t=u)(J1:aX K ρ w1 m1 R)(J2:aX K ρ w2 m2 R):aX K ρ (λQ E s=>if u=S then w1 Q E s else w2 Q E s) (bif t then m1 else m2) R:=by subst e;exact aX.ite (λ_=>J1) λ_=>J2
theorem LX(ix:mj K x tx)(iy:b8 K y my)(iz:b8 K z mz):b8 K (.IfExp x y z pos) (fD tx my mz):=λρ=>((ix ρ).bind λρ1 va a p1 e=>xy e (iy ρ1) (iz ρ1)).pre λQ E s h=>wpAny_IfExp h
abbrev AW(K:Cx)(o:BoolOp)(es:List Expr)(m:M Bool):Prop:=eR K (allTrue o es K.c.env) m Bv
theorem xZ:AW K .And [] (M.ret S):=λρ=>(iH S λ_=>rfl).pre λQ E s h=>wpAny_allTrue_And_nil h
theorem zM:AW K .Or [] (M.ret I):=λρ=>(iH I λ_=>rfl).pre λQ E s h=>wpAny_allTrue_Or_nil h
section
variable{r:List Expr}{t2:M Bool}
theorem vH(ix:mj K x tx)(ir:AW K .And r t2):AW K .And (x::r) (cQ tx t2):=λρ=>((ix ρ).bind λρ1 va a p1 e=>xy e (ir ρ1) (iH I λ_=>rfl)).pre λQ E s h=>wpAny_allTrue_And_cons h
theorem xc(ix:mj K x tx)(ir:AW K .Or r t2):AW K .Or (x::r) (pk tx t2):=λρ=>((ix ρ).bind λρ1 va a p1 e=>xy e (iH S λ_=>rfl) (ir ρ1)).pre λQ E s h=>wpAny_allTrue_Or_cons h
end
theorem wl{o:BoolOp}{es:List Expr}{t:M Bool}(i:AW K o es t):mj K (.BoolOp o es pos) t:=λρ=>(i ρ).pre λQ E s h=>wpAny_isTrue_BoolOp h
inductive fT(K:Cx):List Expr->List (M J)->Prop where
 |nil:fT K [] []
 |cons {e:Expr} {m:M J} {es:List Expr} {ms:List (M J)}:fR e=I->b8 K e m->fT K es ms->fT K (e::es) (m::ms)
theorem fF{e:Expr}{r:List Expr}{env:pv}(h:fR e=I):dF (e::r) env=(I,rV e env)::dF r env:=by cases e<;>first|rfl|exact nF h
abbrev Lv:cM->List J->List ar->Prop:=λρ b a=>bP (RV ρ) b a
theorem qr{es:List Expr}{ms:List (M J)}(i:fT K es ms):eR K (oV (gY pos (dF es K.c.env))) (df ms) Lv:=by induction i with
 |nil=>exact λρ=>(iH [] λ_=>.nil).pre λQ E s h=>gK h
 |cons he ie _ ih=>exact λρ=>((ie ρ).bind λρ1 va a p1 ha=>(ih ρ1).bind λρ2 vs as p2 hs=>aX.stay (R:=Lv) (va::vs) (λρ3 p3=>.cons ((ha.mono p2).mono p3) (hs.mono λ_ _=>RV.mono p3)) λQ E s h=>h).pre λQ E s h=>dC h (fF he)
theorem GQ{xs:List J}{vs:List ar}{o:AO}{ob:iS}(l:bP (RV ρ) xs vs)(ho:∀ρ h a,h.get? a=Y ob->bP (RV ρ) xs vs->rO K.T K.W ρ h o [a])(hf:ob.isFreed=I):aX K ρ (λQ E s=>vs.length<=gA/\Q (.ref s.heap.objs.size) (eH s (s.heap.push ob) s.toks)) (gd (Nat.ble xs.length 1000) (o5 o)) Rv:=aX.gd λq σ ρ' s hp hr ht=>bB.go U λQ E h=>
 ⟨by rw[<-l.length];exact Nat.le_trans (Nat.le_of_ble_eq_true q) (by rw[cP];decide),
  h _ _ s.toks _ (List.prefix_append _ _) (hr.newPush _ (ho _ _ _ (bA _ hf) (l.mono λ_ _ r=>(r.mono hp).mono (List.prefix_append _ _)))) (RV.new hr) ht⟩
theorem Lz{es:List Expr}{ms:List (M J)}{k:Nat}(i:fT K es ms):b8 K (.Tuple es k pos) (mTup ms):=λρ=>((qr i ρ).bind λρ1 vs xs p1 l=>GQ (ob:={cls:=.type "tuple",data:=.seq vs.toArray}) l (λ_ _ _ g l=>.tup (n:=0) g l) U).pre λQ E s h=>sH h
theorem Mf{es:List Expr}{ms:List (M J)}(i:fT K es ms):b8 K (.List es pos) (dk ms):=λρ=>((qr i ρ).bind λρ1 vs xs p1 l=>GQ (ob:=listOf vs.toArray 0) l (λ_ _ _ g l=>.list g l) U).pre λQ E s h=>wpAny_List h
theorem JD{neg:Bool}{xs:List J}{vs:List ar}(ha:RV ρ a va)(l:bP (RV ρ) xs vs):aX K ρ (λQ E s=>vs.length<=gA/\PW K (b9 (bif neg then .NotIn else .In) va (.ref s.heap.objs.size)) Q E (eH s (s.heap.push {cls:=.type "tuple",data:=.seq vs.toArray}) s.toks)) (gd (Nat.ble xs.length 1000) (gO (lX a xs) λt=>yes (bif neg then !t else t))) Rv:=aX.gd λq=>aX.gO λt e σ ρ' s hp hr ht=>bB.go U λQ E h=>by refine⟨by rw[<-l.length];exact Nat.le_trans (Nat.le_of_ble_eq_true q) (by simp only[cP];decide),?_⟩;have ob:n5 (s.heap.push ({cls:=.type "tuple",data:=.seq vs.toArray}:iS)) s.heap.objs.size vs.toArray:=⟨_,bA _ U,U,0,U⟩;have hq:=h _ _ s.toks _ (List.prefix_refl _) (hr.push ({cls:=.type "tuple",data:=.seq vs.toArray}:iS)) (.bool _) ht;induction neg with
 |false=>exact G9 (s:=eH s _ s.toks) ob l ha e hq
 |true=>exact wx (s:=eH s _ s.toks) ob l ha e hq
theorem wF{es:List Expr}{ms:List (M J)}{k:Nat}{p2:da}(neg:Bool)(ix:b8 K x mx)(i:fT K es ms):aX K ρ (L9 K x (bif neg then .NotIn else .In) (.Tuple es k p2)) (lm neg mx ms) Rv:=(ix ρ).bind λρ1 va a p1 ha=>((qr i ρ1).bind λρ2 vs xs p2 l=>JD (neg:=neg) (ha.mono p2) l).pre λQ E s h=>sH (Q:=λv s=>PW K (b9 (bif neg then .NotIn else .In) va v) Q E s) h
end
section
open PySem PySem.W PySem.Calls PyProof.Rows
structure VS(W:Wd)(C:Nat)(nm:aV):Prop where
 get:n6 W.K C nm=S
 dict:mm W.K C=S
 no:eF W.K (.ref C) nm=Y .none
 set:eF W.K (.ref C) "__setattr__"=Y (Y (.builtin "object.__setattr__"))
 over:plainOver W.K C=S
 take:takerIn W.K C nm=Y .none
structure Gc(T:aT)(W:Wd):Prop where
 nd:T.names.Nodup
 ok:∀(C n:Nat)(nm:aV),sM T C n=S->T.names[n]?=Y nm->VS W C nm
section
variable{T:aT}{W:Wd}{ρ:cM}{h:cT}{n:Nat}{nm:aV}{fs:List (Nat×J)}{ds:List b7}
theorem DM(G:Gc T W){i j:Nat}(a:T.names[i]?=Y nm)(b:T.names[j]?=Y nm):i=j:=(List.getElem?_inj (List.getElem?_eq_some_iff.mp a).1 G.nd).mp (a.trans b.symm)
theorem BP(G:Gc T W)(hn:T.names[n]?=Y nm){p:Nat×J}{e:b7}(x:pI T ρ p e):e.key.isStr nm=Nat.beq p.1 n/\e.refKey=I:=by obtain⟨y,t,a1,a2,a3⟩:=x;unfold b7.refKey;rw[a2];refine⟨?_,U⟩;show(y==nm)=_;rw[dL,beq_iff_eq,Nat.beq_eq];exact⟨λe=>by subst e;exact DM G a1 hn,λe=>by rw[e,hn]at a1;exact(aQ a1).symm⟩
inductive Kf(ρ:cM)(n:Nat)(fs:List (Nat×J))(o:Option (Option ar)):Prop where
 |yes (v:J) (u:ar) (a:d5 n fs=Y v) (b:o=Y (Y u)) (r:RV ρ v u):Kf ρ n fs o
 |no (a:d5 n fs=.none) (b:o=Y .none):Kf ρ n fs o
theorem qh(G:Gc T W)(r:bP (pI T ρ) fs ds)(hn:T.names[n]?=Y nm):Kf ρ n fs (getL nm ds):=by
 have nr:ds.any (·.refKey)=I:=by induction r with
  |nil=>rfl
  |cons p q ih=>refine List.any_cons▸ih▸((BP G hn p).2)▸?_;rfl
 have key:Kf ρ n fs ((ds.find? (·.key.isStr nm)).elim (Y .none) λe=>Y (Y e.val)):=by clear nr;induction r with
  |nil=>exact .no U rfl
  |@cons pe de l m p q ih=>have hb:=(BP G hn p).1;obtain⟨y,t,a1,a2,a3⟩:=p;refine(List.find?_cons)▸hb▸?_;induction q:Nat.beq pe.1 n with
   |true=>exact .yes pe.2 de.val (by unfold d5;refine q▸?_;rfl) U a3
   |false=>induction ih with
    |yes v u a b r=>exact .yes v u (by unfold d5;exact q▸a) b r
    |no a b=>exact .no (by unfold d5;exact q▸a) b
 have e:getL nm ds=(ds.find? (·.key.isStr nm)).elim (Y .none) λe=>Y (Y e.val):=by unfold getL;cases ds.find? (·.key.isStr nm)with
  |none=>refine nr▸?_;rfl
  |some e=>rfl
 exact e▸key
theorem wG{v w:J}(e:xq v=Y w):v=w:=by induction v with
 |unb=>exact nS e
 |bi _=>exact nS e
 |_=>exact sI e
theorem GE{v w:J}{u:ar}(h:RV ρ v u)(e:xq v=Y w):handedIn u=S:=by induction h with
 |bi _=>exact nS e
 |_=>rfl
theorem om{a d:bf}{C:Nat}{k:Nat}(h1:h.get? a=Y (tD C d))(h2:h.get? d=Y (fJ ds k)):InstAt h a (tD C d) C (Y (fJ ds k)):=⟨h1,U,U,h2⟩
end
def F6(T:aT)(W:Wd):Prop:=∀(c:Fx)(A:ch)(σ:St)(ρ:cM)(s:aF)(Q:ar->aF->Prop)(E:ar->aF->Prop)(i C n:Nat)(a:bf)(r:List bf)(j:Nat)(fs:List (Nat×J))(nm:aV)(v:J)(ex b:Bool),
 dB T W c σ ρ s.heap->σ.heap[i]?=Y (.exn C b (Y j))->ρ[i]?=Y (a::r)->T.names[n]?=Y nm->Mq T C n=S->σ.heap[j]?=Y (.fd fs)->d5 n fs=Y v->xq v=Y v->
 (∀tk u,RV ρ v u->Q u (eH s s.heap tk))->PW ⟨T,W,c,A⟩ (tE (.ref a) nm ex) Q E s
structure Fb(K:Cx):Prop extends Fa K where
 c:Gc K.T K.W
 xg:F6 K.T K.W
variable{K:Cx}{σ:St}{ρ:cM}{s:aF}{a b:J}{va vb:ar}{E:ar->aF->Prop}{x y z:Expr}{mx my mz:M J}{tx:M Bool}{pos:da}{n:Nat}{nm:aV}
theorem C1(F:Fb K){ex:Bool}(hn:K.T.names[n]?=Y nm)(ha:RV ρ a va):aX K ρ (PW K (tE va nm ex)) (Jw K.T n a) Rv:=
 aX.oObj (wv:=λv=>PW K (tE v nm ex)) ha λi c r e σ ρ' s hp hr ht=>bB.gH λo oe=>by have er:=b5 hp e;induction o with
  |inst C fs=>refine bB.gd λq=>bB.gO λv e1=>?_;obtain⟨w,e2,e3⟩:=aA.mp e1;obtain⟨d,ds,k,g1,g2,l,_⟩:=hr.inst oe er;have c:=F.c.ok C n nm q hn;obtain⟨m,Fm,_⟩:=hr.fr;cases qh F.c l hn with
   |yes v' u a b r=>
    have hv:v'=v:=(aQ (a.symm.trans e2)).trans (wG e3);subst hv;have h2:xq v'=Y v':=by rw[<-aQ (a.symm.trans e2)]at e3;exact e3
    exact bB.leaf hr ht λQ E h=>get_own Fm F.g.X (om g1 g2) c.get c.dict c.no U b (GE r h2) (h _ _ r)
   |no a b=>rw[a]at e2;exact nS e2
  |exn C f fd=>refine bB.gd λq=>bB.gO λj e0=>bB.gF λfs e4=>bB.gO λv e1=>?_;obtain⟨w,e2,e3⟩:=aA.mp e1;have hv:=wG e3;subst hv;subst e0;exact bB.leaf hr ht λQ E h=>F.xg K.c K.A σ ρ' s Q E i C n _ _ j fs nm w ex f hr oe er hn q e4 e2 e3 h
  |_=>exact bB.no
theorem lO{o:Expr}{a:aV}{env:pv}{whole:o7 ar}(h:nQ o=S):attributeBase o a env whole=whole:=by induction o using bg with
 |Call f as ks p=>induction f using bg with
  |Name x q=>induction as with
   |nil=>induction ks with
    |nil=>exact nT h
    |cons _ _=>rfl
   |cons _ _=>rfl
  |_=>rfl
 |_=>rfl
theorem Fu(F:Fb K)(hn:K.T.names[n]?=Y nm)(hs:nQ x=S)(ix:b8 K x mx):b8 K (.Attribute x nm pos) (bT K.T mx n):=λρ=>((ix ρ).bind λρ1 va a p1 ha=>C1 F (ex:=S) hn ha).pre λQ E s h=>by show bY _ _ _ _ _ _;rw[arm_eval_Attribute,lO hs];exact ay (bu h (λv s1 h1=>ay (cX (ay (bS (bu h1 (λv s2 h2=>ay (wpAny_letTemporaryGo (aL h2))) λ_ _ x=>x))))) λ_ _ x=>x)
theorem uI{i:Int}{n j:Nat}(h:At i n=Y j):0<=i/\i<n/\i<4611686018427387904/\i.toNat=j:=by unfold At at h;induction q:(aI (0<=i)&&aI (i<n)&&aI (i<4611686018427387904))with
 |false=>rw[q]at h;exact nS h
 |true=>rw[q]at h;rw[ax,ax,decide_eq_true_eq,decide_eq_true_eq,decide_eq_true_eq]at q;exact⟨q.1.1,q.1.2,q.2,aQ h⟩
theorem kq{sl:Expr}{o i:ar}(h:KT sl=I):subscripted sl I o i=operate [o,i] (getItem o i):=by cases sl<;>first|rfl|exact nF h
theorem MA(F:Fb K){value sl:Expr}(hsl:KT sl=I)(ha:RV ρ a va)(hb:RV ρ b vb):aX K ρ (PW K (dW value sl va vb)) (Ws K.T a b) Rv:=by induction ha with
 |obj ea=>refine aX.oInt (wv:=λv=>PW K (dW value sl (.ref _) v)) hb λk u σ ρ' s hp hr ht=>bB.gL λxs e1=>bB.gO λv e=>?_;obtain⟨j,e2,e3⟩:=aA.mp e;obtain⟨i0,i1,i2,rfl⟩:=uI e2;obtain⟨vs,n,g1,l1,_⟩:=hr.list e1 (b5 hp ea);obtain⟨w,hu,hR⟩:=l1.get e3;have hL:=cF g1;exact bB.leaf hr ht λQ E h=>n7 hL.typeIs kY.lookup (wpAny_getItem_list hL i0 (by exact zU i2 U) (by simpa using hu) (h s.toks w hR)) (kq hsl)
 |str x t e0=>
  subst e0;refine aX.oInt (wv:=λv=>PW K (dW value sl (.str x t) v)) hb λk u=>aX.gO λd e=>aX.leaf λ_ Q E s _ h=>?_;obtain⟨j,e2,e3⟩:=aA.mp e;obtain⟨i0,i1,i2,rfl⟩:=uI e2;refine n7 (typeIs_str s x t) slot_str_getitem.lookup (PyProof.Rows.getItem_str (c:=d) ?_ ?_ (h _ _ (.str _ _ U))) (kq hsl)
  ·rw[cO,decide_eq_false_iff_not,decide_eq_false_iff_not];exact⟨dh.mpr (zB U i0),kt.mpr (zU i2 U)⟩
  ·have h1:seqIndex? k x.length=Y k.toNat:=by unfold seqIndex?;rw[je];simp only[show¬k<0 by exact dh.mpr i0,if_false];rw[ce]at i1⊢;simp[i0,i1]
   rw[h1,Option.bind_some,<-ck];exact e3
 |sref d=>refine aX.oStr (wv:=λv=>PW K (dW value sl (.ref d) v)) hb λx t=>aX.gO λv e=>?_;obtain⟨es,e1,e2⟩:=aA.mp e;obtain⟨lo,ds,n,hl,r⟩:=F.t.sdict _ _ e1;have r':bP (mJ K.W ρ) es ds:=r.mono λ_ _=>qs.toD;intro σ ρ' s hp hr ht;have hm:=kn (n:=n) (hr.stays _ _ (F.g.X _ _ hl)) r';cases qD r' x with
  |yes v' u a b r=>have:=aQ (a.symm.trans e2);exact this▸bB.leaf hr ht λQ E h=>n7 hm.typeIs slot_dict_getitem.lookup (wpAny_getItem_of (fz K.W.prog K.W.w x t) hm b (h _ _ (r.mono hp))) (kq hsl)
  |no a b=>rw[e2]at a;exact TF a
 |_=>exact aX.no
theorem Lp(F:Fb K)(hsl:KT y=I)(ix:b8 K x mx)(iy:b8 K y my):b8 K (.Subscript x y pos) (eB K.T mx my):=λρ=>((ix ρ).bind λρ1 va a p1 ha=>(iy ρ1).bind λρ2 vb b p2 hb=>MA F hsl (ha.mono p2) hb).pre λQ E s h=>Subscript_ h
end
section
open PySem PySem.W PySem.Calls PyProof.Rows
theorem j8{α:Type}(xs:List α)(a:Nat):∀m,((List.range m).map (λk=>a+k)).filterMap (xs[·]?)=(xs.drop a).take m
 |0=>by simp only[List.take_zero];rfl
 |m+1=>by
  simp only[List.range_succ,List.map_append,List.filterMap_append,j8 xs a m,List.take_add_one]
  congr 1
  simp only[List.getElem?_drop];simp only[List.map_cons,List.map_nil,List.filterMap_cons,List.filterMap_nil];cases xs[a+m]?<;>rfl
theorem D5(a b:Nat):el a b 1=(List.range (b-a)).map (λk=>a+k):=by
 unfold el;simp only[show(1:Int)>0 by decide,if_true];have:(if(a:Int)<b then((b:Int)-a+1-1)/1 else 0).toNat=b-a:=by
  split
  ·simp only[Int.ediv_one];exact ZS _ _
  ·simp only[Int.toNat_zero];exact(Nat.sub_eq_zero_of_le (gh.mp (dh.mp ‹_›))).symm
 simp only[this];exact List.map_congr_left λk _=>by exact sm2 _ _
theorem pL{α:Type}(xs:List α)(a b:Nat):(el a b 1).filterMap (xs[·]?)=cut xs a b/\(el a b 1).length=b-a:=by rw[D5];exact⟨by rw[j8];exact(List.drop_take ..).symm,by rw[List.length_map,List.length_range]⟩
theorem Cr(n:Nat)(i:Int):max 0 (min (if i<0 then i+(n:Int)else i) (n:Int))=((clip n i:Nat):Int)/\clip n i<=n:=by
 unfold clip
 by_cases q:i<0
 ·simp only[q,if_true,decide_true,cond];exact Zq n q
 ·simp only[q,if_false,decide_false,cond];exact Zz n q
theorem Ki{α:Type}{xs:List α}{a b:Nat}(hb:b<=xs.length)(h:b-a=xs.length):cut xs a b=xs:=by unfold cut;induction xs with
 |nil=>rw[List.take_nil,List.drop_nil]
 |cons x r=>
  rw[List.length_cons]at hb h;have:a=0/\b=r.length+1:=by exact ZQ hb h
  refine this.1▸this.2▸List.drop_zero▸?_;exact List.take_of_length_le (Nat.le_refl _)
theorem bP.pick{α β:Type}{R:α->β->Prop}{l:List α}{m:List β}(x:bP R l m):∀ix:List Nat,bP R (ix.filterMap (l[·]?)) (ix.filterMap (m[·]?))
 |[]=>.nil
 |i::r=>by
  have ih:=bP.pick x r;simp only[List.filterMap_cons,List.filterMap_cons]
  by_cases hi:i<l.length
  ·obtain⟨b,hb,hR⟩:=x.get (List.getElem?_eq_getElem hi)
   exact(List.getElem?_eq_getElem hi)▸hb▸.cons hR ih
  ·exact(List.getElem?_eq_none (Nat.le_of_not_lt hi))▸(List.getElem?_eq_none (by rw[<-x.length];exact Nat.le_of_not_lt hi))▸ih
noncomputable abbrev Js(d n:Nat)(b:Option Int):Int:=match b with
 |.none=>(d:Int)
 |some i=>max 0 (min (if i<0 then i+(n:Int)else i) (n:Int))
inductive Cn(d n:Nat)(u:ar)(l:Nat):Prop where
 |mk (p:Option (Int×qV)) (e:u=partValue p) (q:IsPart u (p.map (·.1))) (h:Js d n (p.map (·.1))=(l:Int)) (le:d<=n->l<=n):Cn d n u l
theorem GJ{ρ:cM}{d n l:Nat}{a:J}{u:ar}(ha:RV ρ a u)(e:zA d n a=Y l):Cn d n u l:=by induction ha with
 |none=>exact(sI e)▸⟨.none,U,.none,U,λh=>h⟩
 |int i t=>exact(sI e)▸⟨Y (i,t),U,.int _ _,(Cr _ _).1,λ_=>(Cr _ _).2⟩
 |_=>exact nS e
theorem Px{n l h:Nat}{bl bh:Option Int}(e1:Js 0 n bl=(l:Int))(e2:Js n n bh=(h:Int)):jR bl bh 1 n=el l h 1:=by unfold jR;simp only[show(1:Int)>0 by decide,if_true];refine e1▸e2▸?_;induction bl<;>induction bh<;>rfl
theorem Mh{n l h:Nat}{bl bh:Option Int}(e1:Js 0 n bl=(l:Int))(e2:Js n n bh=(h:Int)):sJ bl bh .none n=((l:Int),(h:Int),1):=by unfold sJ;simp only[Option.getD_none,show(1:Int)>0 by decide,if_true];refine e1▸e2▸?_;induction bl<;>induction bh<;>rfl
inductive N0{α:Type}(xs:List α)(vl vu:ar)(ys:List α):Prop where
 |mk (l h:Nat) (L:Cn 0 xs.length vl l) (aa:Cn xs.length xs.length vu h) (le:xs.length<=gA) (e:cut xs l h=ys):N0 xs vl vu ys
theorem Ib{α:Type}{xs ys:List α}{ρ:cM}{l u:J}{vl vu:ar}(hl:RV ρ l vl)(hu:RV ρ u vu)(e:qk xs l u=Y ys):N0 xs vl vu ys:=by obtain⟨n1,e1,e2⟩:=aA.mp e;obtain⟨n2,e3,e4⟩:=aA.mp e2;induction q:Nat.ble xs.length cj with
 |false=>rw[q]at e4;exact nS e4
 |true=>rw[q]at e4;exact⟨n1,n2,GJ hl e1,GJ hu e3,Nat.le_of_ble_eq_true q,aQ e4⟩
variable{K:Cx}{σ:St}{ρ:cM}{s:aF}{a l u:J}{va vl vu:ar}{E:ar->aF->Prop}{x:Expr}{mx ml mu:M J}{pos p:da}
abbrev LB(K:Cx)(e:Option Expr)(m:M J):Prop:=eR K (evalPart e K.c.env) m Rv
theorem E0:LB K .none (D .none):=λρ=>aX.stay .none (λ_ _=>.none) λQ E s h=>aL h
noncomputable abbrev fV(vl vu vs:ar):iS:={cls:=.type "slice",data:=.fields #[vl,vu,vs]}
abbrev Zj(K:Cx)(value:Expr)(lo hi:Option Expr)(p:da)(va vl vu:ar):WT ar:=λQ E s=>PW K (dW value (.Slice lo hi .none p) va (.ref s.heap.objs.size)) Q E (eH s (s.heap.push (fV vl vu .none)) s.toks)
theorem zI{value:Expr}{lo hi:Option Expr}{xs:List J}{ra:bf}{vs:List ar}(hr:K.R σ ρ s.heap)(ht:0<s.toks)(hL:(s.heap.push (fV vl vu .none)).IsList ra vs.toArray)(l1:bP (RV ρ) xs vs)(hl:RV ρ l vl)(hu:RV ρ u vu):
  bB K σ ρ s (Zj K value lo hi p (.ref ra) vl vu) (Ao xs l u) Rv:=bB.gO λys e=>bB.go U λQ E h=>by
 obtain⟨n1,n2,⟨p1,_,q1,f1,_⟩,⟨p2,_,q2,f2,_⟩,le,rfl⟩:=Ib hl hu e;have hr':=hr.push (fV vl vu .none);have hsz:vs.toArray.size=xs.length:=by simp only[List.size_toArray,l1.length]
 refine n7 (s:=eH s _ s.toks) hL.typeIs kY.lookup (lD hL (pZ ..) q1 q2 .none (λh=>by exact nS h) ?_ (by exact hsz▸le)) rfl;refine h (ρ++[[(s.heap.push (fV vl vu .none)).objs.size]]) _ s.toks _ (List.prefix_append _ _) (hr'.newPush _ (.list (n:=0) (vs:=(el n1 n2 1).filterMap (vs[·]?)) ?_ ?_)) (RV.new hr') ht
 ·rw[bA _ rfl]
  unfold slicePick;refine hsz▸(Mh f1 f2)▸?_;simp only[List.getElem?_toArray]
 ·exact((pL xs n1 n2).1)▸(l1.mono λ_ _=>RV.mono (List.prefix_append _ _)).pick _
theorem Lw(F:Fb K){value:Expr}{lo hi:Option Expr}(ha:RV ρ a va)(hl:RV ρ l vl)(hu:RV ρ u vu):aX K ρ (Zj K value lo hi p va vl vu) (U6 K.T a l u) Rv:=by induction ha with
 |str x t e0=>
  subst e0;refine aX.gO λys e σ ρ' s hp hr ht=>bB.go U λQ E h=>cq (n:=1) ht ?_;obtain⟨n1,n2,⟨p1,g1,_,f1,_⟩,⟨p2,g2,_,f2,le2⟩,le,rfl⟩:=Ib hl hu e;have hr':=hr.push (fV vl vu .none);have hpick:n8 x p1 p2 .none=el n1 n2 1:=by unfold n8;simp only[je];exact Px f1 f2
  have hc:(el n1 n2 1).filterMap (x.cps[·]?)=cut x.cps.toList n1 n2:=by have:=(pL x.cps.toList n1 n2).1;simpa only[ck]using this
  refine n7 (typeIs_str _ x t) slot_str_getitem.lookup (wpAny_getItem_str_slice (l:=p1) (u:=p2) (st:=.none) ⟨_,bA _ U,U,by simp only[g1,g2];rfl⟩ U ?_) rfl;unfold sliceMade;refine post_val_or_str ?_;have hR:(if(((.none:Option (Int×qV)).map (·.1)).getD 1==1&&(n8 x p1 p2 .none).length==x.length)=S then x else⟨((n8 x p1 p2 .none).filterMap (x.cps[·]?)).toArray⟩:aV).cps.toList=cut x.cps.toList n1 n2:=by
   split
   ·rename_i z
    rw[ax,beq_iff_eq,hpick]at z;exact(Ki (le2 (Nat.le_refl _)) (by rw[<-(pL x.cps.toList n1 n2).2,eq_of_beq z.2,je])).symm
   ·simp only[hpick,hc]
  refine⟨?_,λt' k hk=>h ρ' _ k _ (List.prefix_refl _) hr' (.str _ _ hR) hk⟩;rw[je,hR];exact Nat.le_trans (by unfold cut;simp only[List.length_drop,List.length_take];exact Nat.le_trans (Nat.sub_le _ _) (Nat.min_le_right _ _)) le
 |obj ea=>refine λσ ρ' s hp hr ht=>bB.gL λxs e0=>?_;obtain⟨vs,n,gg,l1,_⟩:=(hr.push (fV vl vu .none)).list e0 (b5 hp ea);exact zI hr ht (cF gg) l1 (hl.mono hp) (hu.mono hp)
 |sref d=>refine aX.gO λxs e0 σ ρ' s hp hr ht=>?_;obtain⟨vs,gg,l1⟩:=F.t.slist _ _ e0;exact zI hr ht (gg.at λo e=>(hr.push (fV vl vu .none)).stays _ o e) (l1.mono λ_ _ z=>z ρ') (hl.mono hp) (hu.mono hp)
 |_=>exact aX.no
theorem Lj(F:Fb K){lo hi:Option Expr}(ix:b8 K x mx)(il:LB K lo ml)(iu:LB K hi mu):b8 K (.Subscript x (.Slice lo hi .none p) pos) (fU K.T mx ml mu):=λρ=>((ix ρ).bind λρ1 va a p1 ha=>((il ρ1).bind λρ2 vl l p2 hl=>(iu ρ2).bind λρ3 vu u p3 hu=>Lw F ((ha.mono p2).mono p3) (hl.mono p3) hu).pre λQ E s h=>wpAny_Slice (Q:=λi s=>PW K (dW x (.Slice lo hi .none p) va i) Q E s) (bu h (λl s h=>bu h (λu s h=>by simp only[evalPart_none];exact aL h) λ_ _ x=>x) λ_ _ x=>x)).pre λQ E s h=>Subscript_ h
theorem z8{α β:Type}{f g:α->Option β}:∀{l:List α},(∀x∈l,f x=g x)->l.filterMap f=l.filterMap g
 |[],_=>rfl
 |a::r,h=>by simp only[List.filterMap_cons,List.filterMap_cons,h a (.head _),z8 λx hx=>h x (.tail _ hx)]
theorem I2{α:Type}(xs:List α):(el ((xs.length:Int)-1) (-1) (-1)).filterMap (xs[·]?)=xs.reverse:=by
 have e:el ((xs.length:Int)-1) (-1) (-1)=(List.range xs.length).map (λk=>xs.length-1-k):=by
  unfold el;simp only[show¬(-1:Int)>0 by decide,if_false];have:(if((xs.length:Int)-1)>-1 then((xs.length:Int)-1- -1- -1-1)/(- -1)else 0).toNat=xs.length:=by
   split
   ·rw[Int.neg_neg,Int.ediv_one];exact ZP _
   ·refine Int.toNat_zero▸?_;lia
  rw[this];exact List.map_congr_left λk hk=>by have:=List.mem_range.mp hk;exact Zu _ _
 rw[e,List.filterMap_map];have h1:(List.range xs.length).filterMap ((λx=>xs[x]?)∘λk=>xs.length-1-k)=(List.range xs.length).filterMap (λk=>xs.reverse[k]?):=z8 λk hk=>(List.getElem?_reverse (List.mem_range.mp hk)).symm;have:=j8 xs.reverse 0 xs.length;simp only[Nat.zero_add,List.map_id',List.drop_zero]at this;rw[h1,this,List.take_of_length_le (by rw[List.length_reverse];exact Nat.le_refl _)]
theorem QG{value:Expr}{k:Nat}{p1 p2:da}{t:qV}(ha:RV ρ a va):aX K ρ (λQ E s=>PW K (dW value (.Slice .none .none (Y (.UnaryOp .USub (.Constant (.int 1) k p1) p2)) p) va (.ref s.heap.objs.size)) Q E (eH s (s.heap.push (fV .none .none (.int (-1) t))) s.toks)) (nc a λi=>gL i λxs=>gd (Nat.ble xs.length cj) (o5 (.list xs.reverse))) Rv:=
 aX.oObj (wv:=λva Q E s=>PW K (dW value (.Slice .none .none (Y (.UnaryOp .USub (.Constant (.int 1) k p1) p2)) p) va (.ref s.heap.objs.size)) Q E (eH s (s.heap.push (fV .none .none (.int (-1) t))) s.toks)) ha λi c r ea σ ρ' s hp hr ht=>bB.gL λxs e0=>bB.gd λq=>bB.go U λQ E h=>by
  have hr':=hr.push (fV .none .none (.int (-1) t));obtain⟨vs,n,gg,l1,_⟩:=hr'.list e0 (b5 hp ea);have hL:=cF gg;have hsz:vs.toArray.size=xs.length:=by rw[List.size_toArray,l1.length]
  refine n7 (s:=eH s _ s.toks) hL.typeIs kY.lookup (lD (s:=eH s _ s.toks) hL (pZ ..) .none .none (.int (-1) _) (by decide) ?_ (by exact hsz▸Nat.le_of_ble_eq_true q)) rfl;refine h (ρ'++[[(s.heap.push (fV .none .none (.int (-1) t))).objs.size]]) _ s.toks _ (List.prefix_append _ _) (hr'.newPush _ (.list (n:=0) (vs:=(el ((xs.length:Int)-1) (-1) (-1)).filterMap (vs[·]?)) ?_ ?_)) (RV.new hr') ht
  ·rw[bA _ rfl]
   unfold slicePick;rw[hsz];unfold sJ;simp only[Option.getD_some,show¬(-1:Int)>0 by decide,if_false,List.getElem?_toArray]
  ·exact(I2 xs)▸(l1.mono λ_ _=>RV.mono (List.prefix_append _ _)).pick _
theorem aX.tok{α β:Type}{w:Nat->WT α}{m:M β}{R:cM->β->α->Prop}(k:Nat)(aj:∀t,aX K ρ (w t) m R):aX K ρ (λQ E s=>w s.toks Q E (eH s s.heap (s.toks+k))) m R:=λσ ρ' s hp hr ht Q E h=>aj s.toks σ ρ' (eH s s.heap (s.toks+k)) hp hr (Nat.lt_of_lt_of_le ht (Nat.le_add_right _ _)) Q E h
theorem LR{k:Nat}{p1 p2:da}(ix:b8 K x mx):b8 K (.Subscript x (.Slice .none .none (Y (.UnaryOp .USub (.Constant (.int 1) k p1) p2)) p) pos) (Kz mx):=λρ=>((ix ρ).bind λρ1 va a p1 ha=>(aX.tok 2 λt=>QG (t:=t+1) ha).pre λQ E s h=>wpAny_Slice (Q:=λi s=>PW K (dW x (.Slice .none .none (Y (.UnaryOp .USub (.Constant (.int 1) k _) p2)) p) va i) Q E s) (by simp only[evalPart_none,evalPart_some];exact aL (aL (pw (kx (neg_int h)))))).pre λQ E s h=>Subscript_ h
end
section
open PySem PySem.W PySem.Calls PyProof.Rows
variable{K:Cx}{σ σ':St}{ρ:cM}{s s₁:aF}{E:ar->aF->Prop}{pos:da}
inductive Ge(T:aT)(ρ:cM)(p:Nat×J)(e:aV×ar):Prop where
 |mk (n:T.names[p.1]?=Y e.1) (r:RV ρ p.2 e.2):Ge T ρ p e
def wm(K:Cx)(f:ar)(m:List J->List (Nat×J)->M J):Prop:=∀(ρ:cM)(as:List J)(ks:List (Nat×J))(us:List ar)(kws:List (aV×ar)),bP (RV ρ) as us->bP (Ge K.T ρ) ks kws->aX K ρ (PW K (call f us kws)) (m as ks) Rv
inductive su(K:Cx):List eU->List (Nat×M J)->Prop where
 |nil:su K [] []
 |cons {x:aV} {e:Expr} {p:da} {k:Nat} {m:M J} {r:List eU} {q:List (Nat×M J)}:K.T.names[k]?=Y x->b8 K e m->su K r q->su K (⟨Y x,e,p⟩::r) ((k,m)::q)
theorem Pi{ks:List eU}{kms:List (Nat×M J)}(i:su K ks kms):eR K (evalAll ((f7 pos (dH ks K.c.env)).map (·.2))) (df (kms.map (·.2))) Lv:=by induction i with
 |nil=>exact λρ=>(iH [] λ_=>.nil).pre λQ E s h=>eP h
 |cons hn ie _ ih=>exact λρ=>((ie ρ).bind λρ1 va a p1 ha=>(ih ρ1).bind λρ2 vs as p2 hs=>aX.stay (R:=Lv) (va::vs) (λρ3 p3=>.cons ((ha.mono p2).mono p3) (hs.mono λ_ _=>RV.mono p3)) λQ E s h=>h).pre λQ E s h=>wpAny_evalAll_cons (ay (bu h (λv s h=>ay (cX (aL h))) λ_ _ x=>x))
theorem Qt{ks:List eU}{kms:List (Nat×M J)}(i:su K ks kms):(f7 pos (dH ks K.c.env)).all (·.1.isSome)=S/\(f7 pos (dH ks K.c.env)).any (·.1.isNone)=I/\
  bP (λ(k:Nat)(x:aV)=>K.T.names[k]?=Y x) (kms.map (·.1)) ((f7 pos (dH ks K.c.env)).filterMap (·.1)):=by
 induction i with
 |nil=>exact⟨U,U,.nil⟩
 |cons hn ie _ ih=>exact⟨ih.1,ih.2.1,.cons hn ih.2.2⟩
theorem Mm{T:aT}{ks:List Nat}{xs:List aV}{vs:List J}{us:List ar}(a:bP (λ(k:Nat)(x:aV)=>T.names[k]?=Y x) ks xs)(b:bP (RV ρ) vs us):bP (Ge T ρ) (ks.zip vs) (xs.zip us):=by induction a generalizing vs us with
 |nil=>exact .nil
 |cons p _ ih=>induction b with
  |nil=>exact .nil
  |cons q r=>exact .cons ⟨p,q⟩ (ih r)
theorem kb{es:List Expr}{ms:List (M J)}(i:fT K es ms):(gY pos (dF es K.c.env)).any (·.1)=I:=by induction i with
 |nil=>rfl
 |cons he ie _ ih=>rw[fF he];exact ih
theorem g9{f:ar}{es:List Expr}{ms:List (M J)}(i:fT K es ms){kws:List (Option aV×o7 ar)}{Q:Args->aF->Prop}(hall:kws.all (·.1.isSome)=S){M:vp}{A:ch}
  (h:bY M A (oV (gY pos (dF es K.c.env))) (λvs s₁=>bY M A (evalAll (kws.map (·.2))) (λks s₂=>Q ⟨vs,(kws.filterMap (·.1)).zip ks⟩ s₂) E s₁) E s):
  bY M A (evalArgs f S (gY pos (dF es K.c.env)) kws) Q E s:=by
 induction i with
 |nil=>unfold evalArgs;show bY M A (oV []>>=_) Q E s;refine ay (bu h (λvs s₁ h₁=>ay (aL (bS ?_))) λ_ _ x=>x);simp only[hall,if_true];exact ay (bu h₁ (λks s₂ h₂=>ay (aL (aL h₂))) λ_ _ x=>x)
 |cons he ie ir=>rw[fF he]at h⊢;exact evalArgs_kw hall h
def wd(W:Wd)(f:ar):Prop:=∀h,W.K.In h->∃k,(k=Keeper.frame\/k=Keeper.machine\/k=Keeper.boundFrame)/\jq (cB W.prog W.w) h (keeperOf f) k
theorem iI{W:Wd}(n:String):wd W (.builtin n):=λh _=>⟨.machine,.inr (.inl U),.now⟩
theorem Fq{W:Wd}(n:String):wd W (.type n):=λh _=>⟨.machine,.inr (.inl U),.now⟩
theorem aX.side{α β:Type}{w:WT α}{m:M β}{R:cM->β->α->Prop}{P:cT->Prop}(aj:aX K ρ w m R)(hP:∀σ ρ h,K.R σ ρ h->P h):aX K ρ (λQ E s=>P s.heap/\w Q E s) m R:=λσ ρ' s hp hr ht Q E h=>⟨hP _ _ _ hr,aj σ ρ' s hp hr ht Q E h⟩
theorem yu(G:Gd K.T K.W){f:ar}{fs:List J}{first:List ar}{es:List Expr}{ms:List (M J)}{ks:List eU}{kms:List (Nat×M J)}{m:List J->List (Nat×J)->M J}
  (hk:wd K.W f) (i:fT K es ms) (ik:su K ks kms) (cr:wm K f m) (hf:bP (RV ρ) fs first):
  aX K ρ (PW K (n9 pos f first (gY pos (dF es K.c.env)) (f7 pos (dH ks K.c.env)))) ((df ms).bind λas=>(df (kms.map (·.2))).bind λkv=>m (fs++as) ((kms.map (·.1)).zip kv)) Rv:=by
 obtain⟨ha,hn,hz⟩:=Qt (pos:=pos) ik;exact((qr (pos:=pos) i ρ).bind λρ1 us as p1 hl=>(Pi (pos:=pos) ik ρ1).bind λρ2 uk kv p2 hl2=>(cr ρ2 _ _ _ _ ((hf.mono λ_ _=>RV.mono (p1.trans p2)).append (hl.mono λ_ _=>RV.mono p2)) (Mm hz hl2)).side (P:=K.W.K.In) λ_ _ _ hr=>G.X.keeps hr.stays).pre λQ E s h=>jr (P:=K.W.K.In) (by rw[kb i,hn];rfl) hk (g9 i ha h)
noncomputable def cellHeld(cells:List (aV×bf))(cm:aV->Option ar):List (bf×Hd):=cells.filterMap λp=>if cells.lookup p.1=Y p.2 then(cm p.1).map λv=>(p.2,Hd.cell v)else cV
def Fx.callee(c:Fx)(env:pv)(V:VI)(m cm:aV->Option ar):Fx:=
 {env,V,held:=cellHeld env.cells cm++(c.env.locals,Hd.ns m)::c.held,envs:=env::c.envs,hand:=c.hand,lo:=0,low:=[]}
theorem rQ{cells:List (aV×bf)}{cm:aV->Option ar}{q:aV×bf}{p:bf×Hd}(h:(if cells.lookup q.1=Y q.2 then(cm q.1).map λv=>(q.2,Hd.cell v)else cV)=Y p):cells.lookup q.1=Y q.2/\q.2=p.1/\∃v,cm q.1=Y v/\p.2=.cell v:=by
 by_cases z:cells.lookup q.1=Y q.2
 ·rw[if_pos z]at h
  obtain⟨v,hv,rfl⟩:=aP.mp h;exact⟨z,U,v,hv,U⟩
 ·rw[if_neg z]at h;exact nS h
theorem qB{cells:List (aV×bf)}{cm:aV->Option ar}{p:bf×Hd}(h:p∈cellHeld cells cm):∃n v,cells.lookup n=Y p.1/\(n,p.1)∈cells/\cm n=Y v/\p.2=.cell v:=by obtain⟨⟨n,ca⟩,hm,e⟩:=List.mem_filterMap.mp h;obtain⟨e1,e2,v,e3,e4⟩:=rQ e;exact e2▸⟨n,v,e1,hm,e3,e4⟩
theorem wW{cells:List (aV×bf)}{cm:aV->Option ar}{n:aV}{ca:bf}{v:ar}(h:cells.lookup n=Y ca)(hv:cm n=Y v):(ca,Hd.cell v)∈cellHeld cells cm:=
 List.mem_filterMap.mpr ⟨(n,ca),mem_of_lookup h,by rw[if_pos h,hv];rfl⟩
theorem nV{cells:List (aV×bf)}{cm:aV->Option ar}:∀{l:List (aV×bf)},(l.Pairwise λx y=>x.2≠y.2)->((l.filterMap λp=>if cells.lookup p.1=Y p.2 then(cm p.1).map λv=>(p.2,Hd.cell v)else cV).map (·.1)).Nodup
 |[],_=>List.nodup_nil
 |q::r,hp=>by
  obtain⟨h1,h2⟩:=List.pairwise_cons.mp hp;have ih:=nV (cells:=cells) (cm:=cm) h2;rw[List.filterMap_cons]
  split
  ·exact ih
  ·rename_i b e
   rw[List.map_cons,List.nodup_cons];refine⟨λhm=>?_,ih⟩;obtain⟨z,hz,e2⟩:=List.mem_map.mp hm;obtain⟨w,hm',e'⟩:=List.mem_filterMap.mp hz;exact h1 _ hm' ((rQ e).2.1.trans (e2.symm.trans (rQ e').2.1.symm))
theorem jI{c:Fx}{env:pv}{V:VI}{m cm:aV->Option ar}:addrs (c.callee env V m cm) ρ=(cellHeld env.cells cm).map (·.1)++(c.env.locals::addrs c ρ):=by simp[addrs,Fx.callee]
section
variable{T:aT}{W:Wd}{c:Fx}{h':cT}
theorem dB.enter(R:dB T W c σ ρ s.heap){m:aV->Option ar}(F:Fr W.h0 c.env.locals s.heap m){env:pv}{V:VI}{m' cm:aV->Option ar}(x:InCallC s env.locals m' env.cells cm s₁)(hL:env.locals=s.heap.objs.size)
  {loc:List J} (L:pR (c.callee env V m cm) ρ loc m'):dB T W (c.callee env V m cm) {σ with loc:=loc} ρ s₁.heap:=by
 have keep:=x.toInCall.keep;have hcl:c.env.locals<s.heap.objs.size:=F.ns.lt;have hsz:s.heap.objs.size<s₁.heap.objs.size:=hL▸x.toInCall.ns.lt;have h0:∀b,W.h0.objs.size<=b->W.h0.get? b=cV:=λb hb=>by induction q:W.h0.get? b with
  |none=>rfl
  |some ob=>exact absurd (cz q) (Nat.not_lt.mpr hb)
 have old:∀b∈c.env.locals::addrs c ρ,b<s.heap.objs.size:=λb hb=>(List.mem_cons.mp hb).elim (λe=>e▸hcl) λhb=>(R.fresh b hb).2;have cel:∀p∈cellHeld env.cells cm,s.heap.objs.size<p.1/\p.1<s₁.heap.objs.size:=λp hp=>by obtain⟨n,v,h1,h2,h3,h4⟩:=qB hp;exact⟨hL▸x.above _ _ h2,(x.cell _ _ h1).lt⟩
 refine⟨⟨m',⟨x.toInCall.ns,λb o e=>keep b o (F.keep b o e),Nat.le_trans F.above (Nat.le_of_lt (hL▸hcl))⟩,L⟩,R.len,λi o as e1 e2=>(R.obs i o as e1 e2).same (List.prefix_refl _) λa _ ob e=>keep a ob e,λp hp=>?_,?_,λb hb=>?_,R.hand,λi hi=>(Nat.not_lt_zero _ hi).elim⟩
 ·rcases List.mem_append.mp hp with hp|hp
  ·obtain⟨n,v,h1,h2,h3,h4⟩:=qB hp
   have:=x.cell _ _ h1;replace this:=h3▸this;obtain⟨o,g,d⟩:=this;exact h4▸.cell o g d
  ·rcases List.mem_cons.mp hp with e0|hp
   ·exact e0▸.ns (vR F.ns keep)
   ·exact(R.held p hp).same λob e=>keep _ ob e
 ·rw[jI,List.nodup_cons]
  refine⟨λhm=>?_,List.nodup_append.mpr ⟨nV x.apart,R.nd,λa ha b hb q=>?_⟩⟩
  ·replace hm:=(show(c.callee env V m cm).env.locals=s.heap.objs.size from hL)▸hm
   rcases List.mem_append.mp hm with hm|hm
   ·obtain⟨p,hp,e⟩:=List.mem_map.mp hm
    exact Nat.ne_of_gt (cel p hp).1 e
   ·exact Nat.lt_irrefl _ (old _ hm)
  ·obtain⟨p,hp,rfl⟩:=List.mem_map.mp ha
   have:=old _ hb;replace this:=q▸this;exact Nat.lt_asymm (cel p hp).1 this
 ·replace hb:=jI▸hb
  have hle:W.h0.objs.size<=s.heap.objs.size:=Nat.le_trans F.above (Nat.le_of_lt hcl);rcases List.mem_append.mp hb with hb|hb
  ·obtain⟨p,hp,rfl⟩:=List.mem_map.mp hb
   exact⟨h0 _ (Nat.le_trans hle (Nat.le_of_lt (cel p hp).1)),(cel p hp).2⟩
  ·refine⟨?_,Nat.lt_trans (old b hb) hsz⟩
   rcases List.mem_cons.mp hb with e0|hb
   ·exact e0▸h0 _ F.above
   ·exact(R.fresh b hb).1
theorem dB.leave{env:pv}{V:VI}{m cm:aV->Option ar}{ρ':cM}(R:dB T W (c.callee env V m cm) σ' ρ' h')(R0:dB T W c σ ρ s.heap)(hp:ρ<+:ρ')(L:pR c ρ σ.loc m)(ab:W.h0.objs.size<=c.env.locals):
  dB T W c {σ with heap:=σ'.heap} ρ' h':=by
 obtain⟨m2,F2,_⟩:=R.fr;cases R.held (c.env.locals,Hd.ns m) (List.mem_append_right _ (.head _))with
 |ns hns=>have nd:=R.nd;have fresh:=R.fresh;rw[jI]at nd fresh;exact⟨⟨m,⟨hns,F2.keep,ab⟩,λx i v a b e=>(L x i v a b e).mono hp⟩,R.len,R.obs,λp hp=>R.held p (List.mem_append_right _ (.tail _ hp)),(List.nodup_append.mp (List.nodup_cons.mp nd).2).2.1,λb hb=>fresh b (List.mem_append_right _ (.tail _ hb)),R0.hand,R0.frz⟩
end
noncomputable abbrev Cx.to(K:Cx)(c:Fx)(A:ch):Cx:=⟨K.T,K.W,c,A⟩
theorem XRep0.leave{env:pv}{V:VI}{m cm:aV->Option ar}{ρ':cM}{x:Nat}{e:ar}{h':cT}{A:ch}(R:kU (K.to (K.c.callee env V m cm) A) σ' ρ' x e h' (UB K.W (K.c.callee env V m cm) ρ' h'))(R0:K.R σ ρ s.heap)(hp:ρ<+:ρ')(L:pR K.c ρ σ.loc m)(ab:K.W.h0.objs.size<=K.c.env.locals):
  Bh K {σ with heap:=σ'.heap} ρ' x e h':=by
 obtain⟨r,a,q,C,fd,h1,h2,h3,⟨o,vs,k1,k2,u,k,⟨t,ot,ts,k3,k4,k5,k6,k7,v,k8,k9⟩⟩⟩:=R;rw[jI]at k6;exact⟨r.leave R0 hp L ab,a,q,C,fd,h1,h2,h3,⟨o,vs,k1,k2,u,k,.inr ⟨t,ot,ts,k3,k4,k5,λhm=>k6 (List.mem_append_right _ (.tail _ hm)),k7,v,k8,.inl k9⟩⟩⟩
structure yi(c:Fx):Prop where
 frame:c.env.frame=Y c.env.locals
 envs:∃r,c.envs=c.env::r
def CH(T:aT)(W:Wd):Prop:=∀(c:Fx)(A:ch)(σ:St)(ρ:cM)(s:aF)(x:Nat)(e:ar)(Q:Unit->aF->Prop)(E:ar->aF->Prop),fB c A->yi c->0<s.toks->Bh ⟨T,W,c,A⟩ σ ρ x e s.heap->
 (∀h' tk,kU ⟨T,W,c,A⟩ σ ρ x e h' (UB W c ρ h')->0<tk->Q () (eH s h' tk))->PW ⟨T,W,c,A⟩ (leaving c.env e) Q E s
inductive Fv(ρ:cM):Fl->qP->Prop where
 |nxt:Fv ρ .nxt .next
 |brk:Fv ρ .brk .brk
 |ret {v:J} {u:ar} (h:RV ρ v u):Fv ρ (.ret v) (.ret u)
abbrev uQ(K:Cx)(b:List eD)(m:M Fl):Prop:=eR K (execs b K.c.env) m Fv
structure Fn where
 (name qual:aV) (params:oS) (body:List eD) (scope:cL) (dV kV doc pm cdv ct oc:ar) (an od:Option bf) (osl:Array (Option ar))
noncomputable def Fn.fd(F:Fn):FuncData:=fnOf F.name F.qual F.params F.body F.scope F.dV F.kV F.doc F.pm F.an F.cdv F.ct
inductive IG(F:Fn)(x:aV):Prop where
 |loc (h:F.scope.names.lookup x=Y .local):IG F x
 |cell (h:F.scope.names.lookup x=Y .cell) (k:∀n,((eX n F.scope.names []).lookup x).isSome=S):IG F x
inductive Nj(T:aT)(W:Wd)(F:Fn)(pn:List aV)(as:List J)(ks:List (Nat×J))(bs:List J):Prop where
 |mk (l:bs.length=pn.length) (h:∀ρ us kws,bP (RV ρ) as us->bP (Ge T ρ) ks kws->∃vals,bP (RV ρ) bs vals/\∀ah,peek W.K ah (vq F.fd ⟨us,kws⟩)=Y (pn.zip vals)):Nj T W F pn as ks bs
structure MN(W:Wd)(T:aT)(f:bf)(F:Fn)(pn:List aV)(bind:List J->List (Nat×J)->Option (List J)):Prop where
 obj:W.K.lookup f=Y ⟨F.oc,F.od,.func F.fd,F.osl⟩
 code:codeIn W.K F.cdv F.qual=S
 co:F.scope.isCoroutine=I
 gen:F.scope.isGenerator=I
 kind:F.scope.kind=.function
 pnd:pn.Nodup
 kinds:∀x∈pn,IG F x
 slots:∀i x,pn[i]?=Y x->eE (f9 F.scope) x=Y i
 inj:∀x y i,eE (f9 F.scope) x=Y i->eE (f9 F.scope) y=Y i->x=y
 nd:∀x i,eE (f9 F.scope) x=Y i->(x==("__debug__":aV))=I/\(x==("__classdict__":aV))=I
 top:∀y i,eE (f9 F.scope) y=Y i->i<(f9 F.scope).top
 bnd:∀as ks bs,bind as ks=Y bs->Nj T W F pn as ks bs
section
variable{k:aV->Option dr}{x:aV}{u:ar}
theorem yv:∀{l:List (aV×ar)}{m:aV->Option ar},(∀p∈l,p.1≠x)->bindL k l m x=m x
 |[],_,_=>rfl
 |(n,v)::r,m,h=>by
  unfold bindL;rw[yv λp hp=>h p (.tail _ hp)]
  split
  ·exact if_neg λ(q:x=n)=>h (n,v) (.head _) q.symm
  ·rfl
theorem IQ{r:List aV}{vs:List ar}(h:x∉r):∀p∈r.zip vs,p.1≠x:=λp hp q=>h (q▸(List.of_mem_zip (a:=p.1) (b:=p.2) hp).1)
theorem wu(hk:k x=Y .local):∀{pn:List aV}{vals:List ar}{m:aV->Option ar}{i:Nat},pn.Nodup->pn[i]?=Y x->vals[i]?=Y u->bindL k (pn.zip vals) m x=Y u
 |[],_,_,i,_,e,_=>by cases e
 |y::r,[],_,i,_,_,e=>by cases e
 |y::r,v::vs,m,0,nd,e1,e2=>by obtain rfl:=sI e1;obtain rfl:=sI e2;rw[List.zip_cons_cons];unfold bindL;rw[if_pos hk,yv (IQ (List.nodup_cons.mp nd).1)];exact if_pos rfl
 |y::r,v::vs,m,i+1,nd,e1,e2=>by rw[List.zip_cons_cons];unfold bindL;exact wu hk (List.nodup_cons.mp nd).2 e1 e2
theorem z9:∀{l:List (aV×ar)}{m:aV->Option ar},(∀p∈l,p.1≠x)->vt k l m x=m x
 |[],_,_=>rfl
 |(n,v)::r,m,h=>by
  unfold vt;rw[z9 λp hp=>h p (.tail _ hp)]
  split
  ·rfl
  ·exact if_neg λ(q:x=n)=>h (n,v) (.head _) q.symm
theorem wg(hk:k x=Y .cell):∀{pn:List aV}{vals:List ar}{m:aV->Option ar}{i:Nat},pn.Nodup->pn[i]?=Y x->vals[i]?=Y u->vt k (pn.zip vals) m x=Y u
 |[],_,_,i,_,e,_=>by cases e
 |y::r,[],_,i,_,_,e=>by cases e
 |y::r,v::vs,m,0,nd,e1,e2=>by obtain rfl:=sI e1;obtain rfl:=sI e2;rw[List.zip_cons_cons];unfold vt;rw[if_neg (by rw[hk];decide),z9 (IQ (List.nodup_cons.mp nd).1)];exact if_pos rfl
 |y::r,v::vs,m,i+1,nd,e1,e2=>by rw[List.zip_cons_cons];unfold vt;exact wg hk (List.nodup_cons.mp nd).2 e1 e2
theorem lz:∀(l:List (aV×dr))(n:Nat){acc:List (aV×bf)},(acc.lookup x).isSome=S->((eX n l acc).lookup x).isSome=S
 |[],_,_,h=>h
 |(y,k)::r,n,acc,h=>by
  unfold eX
  split
  ·refine lz r (n+1) ?_
   rw[List.lookup_cons];induction q:x==y with
   |true=>rfl
   |false=>exact h
  ·exact lz r n h
theorem kd:∀{l:List (aV×dr)}(n:Nat)(acc:List (aV×bf)),(x,lE)∈l->((eX n l acc).lookup x).isSome=S
 |(y,k)::r,n,acc,h=>by
  unfold eX;rcases List.mem_cons.mp h with e|h
  ·cases e
   rw[if_pos (by rfl)];exact lz r (n+1) (by rw[List.lookup_cons,beq_self_eq_true];rfl)
  ·split
   ·exact kd _ _ h
   ·exact kd _ _ h
end
end
section
open PySem PySem.W PySem.Calls PyProof.Rows
variable{K:Cx}{σ σ':St}{ρ:cM}{s s₁:aF}{E:ar->aF->Prop}{pos:da}
noncomputable def Nt(r:Hv)(s:St):lJ St J:=match r with
 |.ok v h=>.ok v {s with heap:=h}
 |.exc x h=>.exc x {s with heap:=h}
 |.stuck=>.stuck
def AH(fn:Bool->List J->List (Nat×J)->H->Hv)(as:List J)(ks:List (Nat×J)):M J:=λs=>Nt (fn s.hand as ks s.heap) s
def Yt(P:J->St->Prop)(s:St)(f:Fl)(σ':St):Prop:=match f with
 |.nxt=>P .none {s with heap:=σ'.heap}
 |.ret v=>P v {s with heap:=σ'.heap}
 |.brk=>False
theorem JW{P:J->St->Prop}{X:Nat->St->Prop}{n:Nat}{mb:M Fl}{hand:Bool}{bs:List J}{h:H}{s:St}(hw:kH P X (Nt (pU n mb hand bs h) s)):kH (Yt P s) (λx σ'=>X x {s with heap:=σ'.heap}) (mb ⟨bs++List.replicate (n-bs.length) .unb,h,hand⟩):=by unfold pU at hw;induction e:mb ⟨bs++List.replicate (n-bs.length) .unb,h,hand⟩with
 |ok f s'=>replace hw:=e▸hw;induction f<;>exact hw
 |exc x s'=>replace hw:=e▸hw;exact hw
 |stuck=>replace hw:=e▸hw;exact hw
def ZC(Q E:ar->aF->Prop)(r:Result)(s':aF):Prop:=match r with
 |.ok (.ret v)=>Q v s'
 |.ok _=>False
 |.error e=>E e s'
def CW(K:Cx)(f:ar)(us:List ar)(kws:List (aV×ar)):WT ar:=λQ E s=>oW (cB K.W.prog K.W.w) K.A (.call f ⟨us,kws⟩) (ZC Q E) s
def y4(K:Cx)(f:ar)(m:List J->List (Nat×J)->M J):Prop:=∀(ρ:cM)(as:List J)(ks:List (Nat×J))(us:List ar)(kws:List (aV×ar)),bP (RV ρ) as us->bP (Ge K.T ρ) ks kws->aX K ρ (CW K f us kws) (m as ks) Rv
theorem y4.rule{f:ar}{m:List J->List (Nat×J)->M J}(k:y4 K f m):wm K f m:=λρ as ks us kws a b=>(k ρ as ks us kws a b).pre λQ E s h=>mT h
section
variable{F:Fn}{pn:List aV}{f:bf}{bind:List J->List (Nat×J)->Option (List J)}{env:pv}{m cm:aV->Option ar}
structure JQ(F:Fn)(env:pv)(L:bf):Prop where
 loc:env.locals=L
 sc:env.scope=F.scope
 cl:env.cells=eX (L+1) F.scope.names []
 fr:env.frame=Y env.locals
 gl:env.globals=jp
 bi:env.builtins=builtinsNs
theorem Aj(FA:MN K.W K.T f F pn bind)(C:fB K.c K.A){L:bf}(e:JQ F env L):fB (K.c.callee env (f9 F.scope) m cm) (K.A.deeper env)where
 scope:=e.sc
 kind:=by show env.scope.kind=_;exact e.sc▸FA.kind
 glob:=e.gl
 bi:=e.bi
 inj:=λx y i=>FA.inj x y i
 nd:=λx i=>FA.nd x i
 frames:=by show K.A.frames.map (env::·)=_;rw[C.frames];rfl
 envs:=λz hm=>by
  rcases List.mem_cons.mp hm with rfl|hm
  ·exact⟨by exact e.sc▸FA.kind,_,e.fr,.inl U⟩
  ·obtain⟨k,L,h1,h2⟩:=C.envs z hm
   refine⟨k,L,h1,.inr ?_⟩;rcases h2 with rfl|⟨m2,h2⟩
   ·exact⟨m,List.mem_append_right _ (.head _)⟩
   ·exact⟨m2,List.mem_append_right _ (.tail _ h2)⟩
 hand:=C.hand
 top:=λy i e=>FA.top y i e
 cells:=λy hy=>by show(env.cells.lookup y).isSome=S;exact e.cl▸kd _ _ (mem_of_lookup hy)
 lo:=λ_ _ _=>Nat.zero_le _
 lotop:=Nat.zero_le _
theorem Cg(FA:MN K.W K.T f F pn bind){L:bf}(e:JQ F env L){c:Fx}{bs:List J}{vals:List ar}{n:Nat}(jC:bs.length=pn.length)(hv:bP (RV ρ) bs vals):
  pR (c.callee env (f9 F.scope) m (vt env.kindOf (pn.zip vals) λ_=>cV)) ρ (bs++List.replicate (n-bs.length) .unb) (bindL env.kindOf (pn.zip vals) λ_=>cV):=λy i v e1 e2 e3=>by
 have hi:i<bs.length:=Nat.lt_of_not_le λhn=>by
  rw[List.getElem?_append_right hn,List.getElem?_replicate]at e2
  split at e2
  ·obtain rfl:=sI e2;exact e3 rfl
  ·exact nS e2
 rw[List.getElem?_append_left hi]at e2;obtain⟨u,hu,hR⟩:=hv.get e2;obtain⟨z,hz⟩:∃z,pn[i]?=Y z:=⟨_,List.getElem?_eq_getElem (by exact jC▸hi)⟩;have hyz:y=z:=FA.inj y z i e1 (FA.slots i z hz);subst hyz;have hko:env.kindOf y=F.scope.names.lookup y:=by unfold f6;exact e.sc▸rfl
 cases FA.kinds y (List.mem_of_getElem? hz)with
 |loc k=>exact .loc k u (wu (hko.trans k) FA.pnd hz hu) hR
 |cell k k2=>
  obtain⟨ca,hca⟩:=bL.mp (k2 (L+1));have hca':env.cells.lookup y=Y ca:=by exact e.cl▸hca
  exact .cell (.inl k) ca u hca' (List.mem_append_left _ (wW hca' (wg (hko.trans k) FA.pnd hz hu))) hR
theorem MY(G:Gd K.T K.W)(LO:CH K.T K.W)(FA:MN K.W K.T f F pn bind)(C:fB K.c K.A)(hd:K.A.depth<recursionLimit){n:Nat}{mb:M Fl}
  (IB:∀(c':Fx)(A':ch),fB c' A'->yi c'->c'.V=f9 F.scope->A'=K.A.deeper c'.env->uQ (K.to c' A') F.body mb):
  y4 K (.ref f) (AH λhand as ks h=>match bind as ks with
   |some bs=>pU n mb hand bs h
   |.none=>.stuck):=λρ0 as ks us kws ha hk σ ρ s hp hr ht Q E hw=>by
 unfold AH at hw;dsimp only at hw;induction hb:bind as ks with
 |none=>rw[hb]at hw;exact hw.elim
 |some bs=>
  rw[hb]at hw;have hw:=JW hw;obtain⟨jC,hbs⟩:=FA.bnd as ks bs hb;obtain⟨vals,hv,hpk⟩:=hbs ρ us kws (ha.mono λ_ _=>RV.mono hp) (hk.mono λ_ _ x=>let⟨n,r⟩:=x;⟨n,r.mono hp⟩);obtain⟨m,Fc,Lc⟩:=hr.fr;have XK:=G.X.keeps hr.stays;refine codeAny_call_function hd (XK _ _ FA.obj) U FA.co FA.gen U (codeRec_of XK FA.code) ((jq.of_peek (M:=cB K.W.prog K.W.w) XK (hpk _)).here ?_);have hkn:∀N,∀x∈pn.zip vals,F.scope.names.lookup x.1=Y .local\/(F.scope.names.lookup x.1=Y .cell/\((eX N F.scope.names []).lookup x.1).isSome=S):=λN x hx=>by cases FA.kinds x.1 (List.of_mem_zip (a:=x.1) (b:=x.2) hx).1 with
   |loc k=>exact .inl k
   |cell k k2=>exact .inr ⟨k,k2 N⟩
  refine cq (n:=1) ht (wpAny_newFunctionEnv_cells FA.kind (hkn _) λenv he s₁ x htk1=>⟨(G.top.nolimit.keeps hr.stays).keeps x.toInCall.keep,codeAny_func ?_⟩);have hE:JQ F env s.heap.objs.size:=by rw[he];exact⟨U,U,U,U,U,U⟩
  clear he;have hC:=Aj (m:=m) (cm:=vt env.kindOf (pn.zip vals) λ_=>cV) FA C hE;have hO:yi (K.c.callee env (f9 F.scope) m (vt env.kindOf (pn.zip vals) λ_=>cV)):=⟨hE.fr,_,U⟩;have hrep:=hr.enter Fc x hE.loc (Cg (c:=K.c) (m:=m) FA hE (n:=n) jC hv);obtain⟨h1,tk1,rfl,_⟩:=x.done;refine IB _ _ hC hO U U ρ _ ρ _ (List.prefix_refl _) hrep htk1 _ _ (cE hw (λfl σ' hP ρ' h' tk a hp2 hr' hfl htk=>?_) λe σ' hP ρ' h' tk ev hp2 hx htk=>?_)
  ·have hb:=hr'.leave hr hp2 Lc Fc.above
   induction hfl with
   |nxt=>exact hP ρ' h' tk _ hp2 hb .none htk
   |brk=>exact hP.elim
   |ret hv=>exact hP ρ' h' tk _ hp2 hb hv htk
  ·exact LO _ _ _ _ _ _ _ _ _ hC hO htk hx λh2 tk2 hx0 htk2=>hP ρ' h2 tk2 ev hp2 (XRep0.leave hx0 hr hp2 Lc Fc.above) htk2
end
end
section
open PySem PySem.W PySem.Calls PyProof.Rows
variable{K:Cx}{σ σ':St}{ρ:cM}{s s₁:aF}{E:ar->aF->Prop}{pos:da}{a b v:J}{va vb u:ar}
abbrev lV(K:Cx)(b:eD)(m:M Fl):Prop:=eR K (exec b K.c.env) m Fv
abbrev Uv:cM->Unit->Unit->Prop:=λ_ _ _=>True
def pJ(K:Cx)(t:ar->o7 Unit)(g:qf):Prop:=∀(ρ:cM)(v:J)(u:ar),RV ρ v u->aX K ρ (PW K (t u)) (g v) Uv
inductive zw(K:Cx):List eD->List (M Fl)->Prop where
 |nil:zw K [] []
 |cons {b:eD} {m:M Fl} {bs:List eD} {ms:List (M Fl)}:lV K b m->zw K bs ms->zw K (b::bs) (m::ms)
def Yj(K:Cx)(t:o7 qP)(f:qP):WT qP:=λQ E s=>match f with
 |.next=>PW K t Q E s
 |f=>Q f s
theorem R7{t:o7 qP}{m:M Fl}{f:Fl}{fl:qP}(hf:Fv ρ f fl)(af:aX K ρ (PW K t) m Fv):aX K ρ (Yj K t fl) (Ae f m) Fv:=by induction hf with
 |nxt=>exact af
 |brk=>exact iH (R:=Fv) .brk λ_=>.brk
 |ret h=>exact aX.stay (R:=Fv) (.ret _) (λρ2 p2=>.ret (h.mono p2)) λ_ _ _ h=>h
theorem Hr{bs:List eD}{ms:List (M Fl)}(i:zw K bs ms):uQ K bs (aH ms):=by induction i with
 |nil=>exact λρ=>(iH (R:=Fv) .next λ_=>.nxt).pre λQ E s h=>jB h
 |cons is _ ih=>exact λρ=>((is ρ).bind λρ1 fl f p1 hf=>R7 hf (ih ρ1)).pre λQ E s h=>wpAny_execs_cons (bu h (λf s h=>by induction f<;>exact h) λ_ _ x=>x)
theorem ow{h:cT}{a:bf}{m m':aV->Option ar}(x:h.Ns a m)(y:h.Ns a m'):m=m':=by
 obtain⟨o,es,ep,ho,hd,hk,hf⟩:=x;obtain⟨o2,es2,ep2,ho2,hd2,hk2,hf2⟩:=y;replace ho2:=ho▸ho2;obtain rfl:=sI ho2;replace hd2:=hd▸hd2;cases hd2
 funext n;exact(hf n)▸(hf2 n)▸rfl
theorem eM{V:VI}{x:aV}{i:Nat}(e:cx V x=Y i):eE V x=Y i/\V.scope.names.lookup x=Y .local:=by unfold cx at e;unfold eE;induction q:(V.scope.names.lookup x==Y .local)with
 |false=>rw[q]at e;exact nS e
 |true=>rw[q]at e;have:=eq_of_beq q;rw[this];exact⟨e,U⟩
theorem uv(C:fB K.c K.A):(K.c.env.scope.kind==.class||(K.c.env.scope.kind==.module&&K.c.env.locals !=K.c.env.globals))=I:=by rw[C.kind];rfl
theorem BJ{α:Type}{w:WT α}{i:Nat}{R:cM->Unit->α->Prop}(af:∀σ ρ' s,ρ<+:ρ'->K.R σ ρ' s.heap->0<s.toks->cb i v σ=.ok () {σ with loc:=σ.loc.set i v}->bB K σ ρ' s w (cb i v) R):aX K ρ w (cb i v) R:=λσ ρ' s hp hr ht=>by induction q:Nat.blt i σ.loc.length with
 |true=>exact af σ ρ' s hp hr ht (by unfold cb;refine q▸?_;rfl)
 |false=>
  intro Q E hw;have e:cb i v σ=.stuck:=by unfold cb;refine q▸?_;rfl
  rw[e]at hw;exact hw.elim
theorem lW(C:fB K.c K.A){x:aV}{i:Nat}(hx:cx K.c.V x=Y i)(hv:v≠.unb->RV ρ v u):aX K ρ (PW K (storeName K.c.env x u)) (cb i v) Uv:=BJ λσ ρ' s hp hr ht e=>by obtain⟨hs,hl⟩:=eM hx;obtain⟨m,F,L⟩:=hr.fr;exact bB.put ht e λQ E h=>ni (by unfold f6;exact C.scope▸hl) F.ns (λh' hn' hs'=>h ρ' h' _ () (List.prefix_refl _) (hr.store hs hl (λy hy=>C.inj y x i hy hs) (C.lo x i hx) (λz=>(hv z).mono hp) hs' λm' hm'=>by exact(ow hm' F.ns)▸hn') trivial) (uv C)
theorem E3(C:fB K.c K.A){x:aV}{i:Nat}{p:da}(hx:cx K.c.V x=Y i):pJ K (iP (.Name x p) K.c.env) (bd i):=λρ v u hv=>(lW C hx λ_=>hv).pre λQ E s h=>gB h
theorem Hc{o:eO}(ha:RV ρ a va)(hb:RV ρ b vb):aX K ρ (PW K (inplaceOp o va vb)) (TI o a b) Rv:=by induction o with
 |Add=>induction ha with
  |int x t=>exact aX.oInt (wv:=λv=>PW K (inplaceOp .Add (.int x t) v)) hb λy u=>aX.leaf λ_ Q E s _ h=>iadd_int (h _ _ (.int _ _))
  |str x t e=>subst e;refine aX.oStr (wv:=λv=>PW K (inplaceOp .Add (.str x t) v)) hb λy u=>aX.gd λq=>aX.leaf λ_ Q E s _ h=>SB.iadd (λt' tk=>h tk _ (.str _ _ (xo x y))) ?_;have:=Nat.le_of_ble_eq_true q;rw[List.length_append]at this;rw[je,je];exact this
  |_=>exact aX.no
 |_=>exact aX.no
section
variable{e x q:Expr}{me mx mq:M J}{b o:List eD}{mb mo:M Fl}{tx:M Bool}
theorem Ji(ie:b8 K e me):lV K (.Return (Y e) pos) (bR me):=λρ=>((ie ρ).bind λρ1 va a p1 ha=>aX.stay (R:=Fv) (.ret va) (λρ2 p2=>.ret (ha.mono p2)) λ_ _ _ h=>h).pre λQ E s h=>wpAny_Return_some h
theorem Gp:lV K (.Break pos) KF:=λρ=>(iH (R:=Fv) .brk λ_=>.brk).pre λQ E s h=>wpAny_Break h
theorem Kl(ix:mj K x tx)(ib:uQ K b mb)(io:uQ K o mo):lV K (.If x b o pos) (eS tx mb mo):=λρ=>((ix ρ).bind λρ1 va a p1 e=>xy e (ib ρ1) (io ρ1)).pre λQ E s h=>wpAny_If h
theorem vj(C:fB K.c K.A):interactive K.c.env=I:=by
 unfold interactive
 first
 |(rw[C.kind];rfl)
 |(simp[C.kind])
def VL(v:ar):WT qP:=λQ E s=>match v with
 |.ref _=>False
 |_=>Q .next s
theorem EC(C:fB K.c K.A)(hs:nv e=I)(ie:b8 K e me):lV K (.Expr e pos) (iT me):=λρ=>((ie ρ).bind λρ1 va a p1 ha=>aX.oNone (wv:=VL) ha (aX.stay (R:=Fv) .next (λ_ _=>.nxt) λ_ _ _ h=>h)).pre λQ E s h=>wpAny_Expr (bu h (λv s h=>by induction v<;>exact h) λ_ _ x=>x) (vj C) (by cases e<;>first|rfl|exact nF hs)
theorem tB{ρ:cM}:aX K ρ (λQ E s=>Q .next s) (M.ret .nxt) Fv:=iH (R:=Fv) .next λ_=>.nxt
theorem EL(C:fB K.c K.A){y:aV}{i:Nat}{op:eO}{p:da}(hx:cx K.c.V y=Y i)(ie:b8 K e me):lV K (.AugAssign (.Name y p) op e pos) (z7 i op me):=λρ=>((Dw C (eM hx).1 ρ).bind λρ1 va a p1 ha=>(ie ρ1).bind λρ2 vb b p2 hb=>(Hc (ha.mono p2) hb).bind λρ3 vr r p3 hr=>(lW C hx λ_=>hr).bind λ_ _ _ _ _=>tB).pre λQ E s h=>wpAny_AugAssign_Name h
end
abbrev lS(K:Cx)(σ:St)(ρ:cM)(x:Nat)(e:ar)(h:cT):Prop:=kU K σ ρ x e h (Xn K.W K.c ρ h)
def CB(T:aT)(W:Wd):Prop:=∀(c:Fx)(A:ch)(σ:St)(ρ:cM)(s:aF)(x:Nat)(e:ar)(E:ar->aF->Prop),fB c A->yi c->0<s.toks->Bh ⟨T,W,c,A⟩ σ ρ x e s.heap->
 (∀h' tk,lS ⟨T,W,c,A⟩ σ ρ x e h'->0<tk->E e (eH s h' tk))->notedBy (cB W.prog W.w) A c.env E e s
def Fo(T:aT)(W:Wd):Prop:=∀(c:Fx)(A:ch)(σ:St)(ρ:cM)(s:aF)(x:Nat)(e:ar)(E:ar->aF->Prop),fB c A->yi c->0<s.toks->lS ⟨T,W,c,A⟩ σ ρ x e s.heap->
 (∀h' tk,Bh ⟨T,W,c,A⟩ σ ρ x e h'->0<tk->E e (eH s h' tk))->cameBackBy (cB W.prog W.w) A c.env E e s
inductive Rf(h:H)(i C:Nat)(b:Bool)(n:Nat)(v:J):Option Nat->H->Prop where
 |new:Rf h i C b n v .none ((h++[AO.fd [(n,v)]]).set i (.exn C b (Y h.length)))
 |old (j:Nat) (fs:List (Nat×J)) (e:h[j]?=Y (.fd fs)) (l:fs.length<=100):Rf h i C b n v (Y j) (h.set j (.fd (Mine.Internal.lP n v fs)))
def HN(T:aT)(W:Wd):Prop:=∀(c:Fx)(A:ch)(σ:St)(ρ:cM)(s:aF)(Q:Unit->aF->Prop)(E:ar->aF->Prop)(i C n:Nat)(a:bf)(r:List bf)(fd:Option Nat)(H':H)(nm:aV)(v:J)(u:ar)(b:Bool),
 dB T W c σ ρ s.heap->σ.heap[i]?=Y (.exn C b fd)->ρ[i]?=Y (a::r)->T.names[n]?=Y nm->Mq T C n=S->Rf σ.heap i C b n v fd H'->RV ρ v u->
 (∀ρ' h' tk,ρ<+:ρ'->dB T W c {σ with heap:=H'} ρ' h'->Q () (eH s h' tk))->PW ⟨T,W,c,A⟩ (setAttr (.ref a) nm u) Q E s
structure Fc(K:Cx):Prop extends Fb K where
 C:fB K.c K.A
 n:CB K.T K.W
 b:Fo K.T K.W
 xs:HN K.T K.W
theorem lQ.noted(F:Fc K)(O:yi K.c){x:Nat}(hx:lQ K ρ s E x σ'):lQ K ρ s (notedBy (cB K.W.prog K.W.w) K.A K.c.env λe s'=>cameBackBy (cB K.W.prog K.W.w) K.A K.c.env E e s') x σ':=λρ' h' tk e hp hxr ht=>F.n K.c K.A σ' ρ' _ x e _ F.C O ht hxr λh2 tk2 hx1 ht2=>F.b K.c K.A σ' ρ' _ x e _ F.C O ht2 hx1 λh3 tk3 hx3 ht3=>hx ρ' h3 tk3 e hp hx3 ht3
inductive Y0(K:Cx)(ρ:cM)(s:aF)(Q:qP->aF->Prop)(E:ar->aF->Prop)(tx:M Bool)(mb:M Fl)(n:Nat)(s':aF):Prop where
 |mk (σ':St) (ρ':cM) (h':cT) (tk:Nat) (e:s'=eH s h' tk) (hp:ρ<+:ρ') (hr:K.R σ' ρ' h') (ht:0<tk) (hw:kH (vD K ρ s Fv Q) (lQ K ρ s E) (dU (lY tx mb) n () σ')):Y0 K ρ s Q E tx mb n s'
theorem BM(F:Fc K)(O:yi K.c){x:Expr}{tx:M Bool}{b:List eD}{mb:M Fl}(ix:mj K x tx)(ib:uQ K b mb):lV K (.While x b [] pos) (jv tx mb):=λρ0 σ ρ s _ hr ht Q E hw=>wpAny_While (codeAny_whileLoop (Y0 K ρ s Q E tx mb) (by rintro n _ ⟨σ',ρ',h',tk',rfl,hp,hr',ht',hw'⟩;induction n with
  |zero=>exact hw'.elim
  |succ n=>have hw1:=cg (cg hw');refine ix ρ' σ' ρ' (eH s h' tk') (List.prefix_refl _) hr' ht' _ _ (cE hw1 (λt σ1 hP ρ1 h1 tk1 va hp1 hr1 ha ht1=>?_) λx σ1 hx=>(hx.from hp).noted F O);subst ha;induction t with
   |true=>refine ib ρ1 σ1 ρ1 (eH s h1 tk1) (List.prefix_refl _) hr1 ht1 _ _ (cE (cg (show((mb.bind λf=>M.ret (Y ((),f))):M (Option (Unit×Fl))).wp σ1 _ _ from hP)) (λf σ2 hP2 ρ2 h2 tk2 fl hp2 hr2 hf ht2=>?_) λx σ2 hx=>(hx.from (hp.trans hp1)).noted F O);have hp3:=(hp.trans hp1).trans hp2;induction hf with
    |nxt=>exact⟨n,Nat.lt_succ_self n,σ2,ρ2,h2,tk2,U,hp3,hr2,ht2,hP2⟩
    |brk=>exact hP2 ρ2 h2 tk2 .next hp3 hr2 .nxt ht2
    |ret hv=>exact hP2 ρ2 h2 tk2 (.ret _) hp3 hr2 (.ret hv) ht2
   |false=>exact jB (hP ρ1 h1 tk1 .next (hp.trans hp1) hr1 .nxt ht1)) ff ⟨σ,ρ,s.heap,s.toks,U,List.prefix_refl _,hr,ht,hw⟩)
end
section
open PySem PySem.W PySem.Calls PyProof.Rows
variable{K:Cx}{σ σ':St}{ρ:cM}{s s₁:aF}{E:ar->aF->Prop}{pos:da}{a b v:J}{va vb u:ar}{n:Nat}{nm:aV}
theorem wy:∀{l:cM}{x:List bf},l.flatten.Nodup->x∈l->x.Nodup
 |y::r,x,nd,hm=>by
  rw[List.flatten_cons,List.nodup_append]at nd;rcases List.mem_cons.mp hm with e0|hm
  ·exact e0▸nd.1
  ·exact wy nd.2.1 hm
theorem yI{T:aT}{W:Wd}(G:Gc T W){fs:List (Nat×J)}{ds:List b7}(r:bP (pI T ρ) fs ds)(hn:T.names[n]?=Y nm)(hv:RV ρ v u)(hs:Int)(t:qV):bP (pI T ρ) (Mine.Internal.lP n v fs) (putL nm hs (.str nm t) u ds):=by induction r with
 |nil=>exact .cons ⟨nm,t,hn,U,hv⟩ .nil
 |@cons pe de l m p q ih=>have hb:=(BP G hn p).1;obtain⟨x,t',a1,a2,a3⟩:=p;unfold Mine.Internal.lP putL;rw[hb];induction z:Nat.beq pe.1 n with
  |true=>exact .cons ⟨x,t',by rw[<-a1,Nat.eq_of_beq_eq_true z],a2,hv⟩ q
  |false=>exact .cons ⟨x,t',a1,a2,a3⟩ ih
theorem uC(nm:aV)(hs:Int)(k u:ar):∀ds:List b7,(putL nm hs k u ds).length<=ds.length+1
 |[]=>Nat.le_refl _
 |d::r=>by
  unfold putL
  split
  ·exact Nat.le_succ _
  ·exact Nat.succ_le_succ (uC nm hs k u r)
theorem DG(F:Fc K)(hn:K.T.names[n]?=Y nm)(ha:RV ρ a va)(hv:RV ρ v u):aX K ρ (PW K (setAttr va nm u)) (AC K.T n a v) Uv:=
 aX.oObj (wv:=λva=>PW K (setAttr va nm u)) ha λi c r ea σ ρ' s hp hr ht=>bB.gH λo oe=>by have er:=b5 hp ea;induction o with
  |inst C fs=>
   refine bB.gd λq=>?_;obtain⟨q1,q2⟩:=bN.mp q;obtain⟨d,ds,k,g1,g2,l,hre⟩:=hr.inst oe er;subst hre;have co:=F.c.ok C n nm q1 hn;obtain⟨m,Fm,_⟩:=hr.fr;have hd:d∈addrs K.c ρ':=fW er (.tail _ (.head _));have hgl:(getL nm ds).isSome=S:=by cases qh F.c l hn with
    |yes v u a b r=>refine b▸?_;rfl
    |no a b=>refine b▸?_;rfl
   refine bB.put ht U λQ E h=>set_dict Fm F.g.X (hr.newsCons hd g2) (om g1 g2) U co.set co.over co.take co.dict hgl U (.head λp hp=>(uj hp).1) ?_ λh' F' N'=>?_
   ·refine Nat.le_trans (uC nm _ _ u ds) ?_
    exact l.length▸Nat.le_trans (Nat.succ_le_succ (Nat.le_of_ble_eq_true q2)) (by decide)
   ·have kk:=EI N'
    have nd:[c,d].Nodup:=wy (List.nodup_append.mp (List.nodup_cons.mp hr.nd).2).2.1 (List.mem_of_getElem? er);have ne:c≠d:=λz=>(List.nodup_cons.mp nd).1 (z▸.head _);exact h ρ' h' _ () (List.prefix_refl _) (hr.updAt er (.tail _ (.head _)) (λm' Fm'=>by exact(ow Fm'.ns Fm.ns)▸F') kk (.inst (kk c (fW er (.head _)) ne _ g1) (N' _ (.head _)).1 (yI F.c l hn (hv.mono hp) _ _))) trivial
  |exn C f fd=>refine bB.gd λq=>?_;induction fd with
   |none=>exact bB.put ht U λQ E h=>F.xs K.c K.A σ ρ' s Q E i C n _ _ _ _ nm v u f hr oe er hn q .new (hv.mono hp) λρ2 h' tk hp2 hr'=>h ρ2 h' tk () hp2 hr' trivial
   |some j=>exact bB.gF λfs e4=>bB.gd λq2=>bB.put ht U λQ E h=>F.xs K.c K.A σ ρ' s Q E i C n _ _ _ _ nm v u f hr oe er hn q (.old j fs e4 (Nat.le_of_ble_eq_true q2)) (hv.mono hp) λρ2 h' tk hp2 hr'=>h ρ2 h' tk () hp2 hr' trivial
  |_=>exact bB.no
theorem EG(F:Fc K){x:Expr}{mx:M J}{p:da}(hn:K.T.names[n]?=Y nm)(ix:b8 K x mx):pJ K (iP (.Attribute x nm p) K.c.env) (cf K.T mx n):=λρ v u hv=>((ix ρ).bind λρ1 va a p1 ha=>DG F hn ha (hv.mono p1)).pre λQ E s h=>by show bY _ _ _ _ _ _;rw[assign_Attribute];exact ay (bS (bu h (λva s h=>ay (cX (ay (bS (bu h (λ_ s h=>wpAny_release h) λ_ _ x=>x))))) λ_ _ x=>x))
inductive yz(ρ:cM)(p:List Nat×J)(q:aV×ar):Prop where
 |mk (e:q.1.cps.toList=p.1) (r:RV ρ p.2 q.2):yz ρ p q
section
variable{W:Wd}{es:List (List Nat×J)}{ds:List b7}{kvs:List (aV×ar)}{h:cT}
theorem yB(r:bP (mJ W ρ) es ds):∃kvs:List (aV×ar),PySem.Pairs (strKind W.prog W.w) ds kvs/\bP (yz ρ) es kvs:=by induction r with
 |nil=>exact⟨[],.nil,.nil⟩
 |cons p _ ih=>obtain⟨x,t,a1,a2,a3,a4⟩:=p;obtain⟨kvs,b1,b2⟩:=ih;exact⟨(x,_)::kvs,.cons (by rw[a2];exact fz W.prog W.w x t) U b1,.cons ⟨a1,a4⟩ b2⟩
theorem wM(r:bP (mJ W ρ) es ds):PySem.KeysOf (strKind W.prog W.w) ds.toArray:=λe he=>by obtain⟨i,hi,rfl⟩:=List.getElem_of_mem (show e∈ds by simpa using he);obtain⟨b,e2,x,t,a1,a2,a3,a4⟩:=r.get (i:=i) (List.getElem?_eq_getElem (by exact r.length▸hi));rw[List.getElem?_eq_getElem hi]at e2;exact(sI e2)▸⟨x,by exact a2▸fz W.prog W.w x t,a3⟩
theorem Je(r:bP (yz ρ) es kvs):kvs.map (λq=>q.1.cps.toList)=es.map (·.1):=by induction r with
 |nil=>rfl
 |cons p q ih=>obtain⟨e,r⟩:=p;rw[List.map_cons,List.map_cons,ih,e]
theorem wJ(r:bP (yz ρ) es kvs)(nd:(es.map (·.1)).Nodup):(kvs.map (·.1)).Nodup:=by
 rw[<-Je r]at nd;have:∀l:List (aV×ar),(l.map λq=>q.1.cps.toList).Nodup->(l.map (·.1)).Nodup:=λl=>by induction l with
  |nil=>exact λ_=>List.nodup_nil
  |cons q l ih=>intro nd;rw[List.map_cons,List.nodup_cons]at nd⊢;exact⟨λhm=>nd.1 (by obtain⟨z,hz,e⟩:=List.mem_map.mp hm;exact e▸List.mem_map.mpr ⟨z,hz,U⟩),ih nd.2⟩
 exact this kvs nd
theorem zd{x:aV}{u:ar}:∀{m:List (aV×ar)},x∉m.map (·.1)->m.map (λkv=>if kv.1=x then(kv.1,u)else kv)=m
 |[],_=>rfl
 |kv::m,h=>by rw[List.map_cons,List.mem_cons,not_or]at h;rw[List.map_cons,if_neg (λe=>h.1 e.symm),zd h.2]
theorem zN(r:bP (yz ρ) es kvs)(nd:(kvs.map (·.1)).Nodup){x:aV}{v:J}{u:ar}(hv:RV ρ v u):bP (yz ρ) (nR x.cps.toList v es) (stored kvs x u):=by induction r with
 |nil=>exact .cons ⟨U,hv⟩ .nil
 |@cons a b l m p q ih=>
  rw[List.map_cons,List.nodup_cons]at nd;obtain⟨e1,r1⟩:=p;have hb:eqL a.1 x.cps.toList=aI (b.1=x):=by rw[<-e1,<-xT]
  unfold nR;rw[hb]
  by_cases z:b.1=x
  ·subst z
   rw[decide_eq_true rfl];unfold stored;rw[List.any_cons,decide_eq_true U,if_pos (by rw[Bool.true_or]),List.map_cons,if_pos U,zd nd.1];exact .cons ⟨e1,hv⟩ q
  ·rw[decide_eq_false z]
   have ih':=ih nd.2;unfold stored at ih'⊢;rw[List.any_cons,decide_eq_false z,gC]
   split at ih'
   ·rename_i w
    rw[if_pos w,List.map_cons,if_neg z];exact .cons ⟨e1,r1⟩ ih'
   ·rename_i w
    rw[if_neg w];exact .cons ⟨e1,r1⟩ ih'
theorem y9{k:List Nat}{v:J}:∀{es:List (List Nat×J)}{x:List Nat},x∈(nR k v es).map (·.1)->x=k\/x∈es.map (·.1)
 |[],x,hm=>.inl (List.mem_singleton.mp hm)
 |p::r,x,hm=>by unfold nR at hm;induction q:eqL p.1 k with
  |true=>rw[q]at hm;exact .inr hm
  |false=>
   rw[q]at hm;rcases List.mem_cons.mp hm with h|h
   ·exact .inr (h▸.head _)
   ·exact(y9 h).imp id λh=>.tail _ h
theorem uY{k:List Nat}{v:J}:∀{es:List (List Nat×J)},(es.map (·.1)).Nodup->((nR k v es).map (·.1)).Nodup
 |[],_=>List.nodup_cons.mpr ⟨List.not_mem_nil,List.nodup_nil⟩
 |p::r,nd=>by unfold nR;rw[List.map_cons,List.nodup_cons]at nd;induction q:eqL p.1 k with
  |true=>exact List.nodup_cons.mpr nd
  |false=>refine List.nodup_cons.mpr ⟨λhm=>(y9 hm).elim (λh=>?_) nd.1,uY nd.2⟩;rw[tA.mpr h]at q;exact nF q
theorem yJ{a:bf}(hd:h.DictOf (strKind W.prog W.w) a kvs)(r:bP (yz ρ) es kvs):∃ds n,h.get? a=Y (fJ ds n)/\bP (mJ W ρ) es ds:=by
 obtain⟨⟨oc,od,odt,osl⟩,arr,ep,ho,⟨x1,x2,x3⟩,hdt,hk,hp,hnd⟩:=hd;clear hnd;dsimp only at x1 x2 x3 hdt;subst x1 x2 x3 hdt;refine⟨arr.toList,ep,ho,?_⟩;have hk':∀e∈arr.toList,∃k,(strKind W.prog W.w).is k e.key=S/\e.hash=(strKind W.prog W.w).hash k:=λe he=>hk e (by simpa using he)
 generalize arr.toList=l at hp hk'
 induction hp generalizing es with
 |nil=>cases r;exact .nil
 |@cons e kv es' sY a1 a2 _ ih=>cases r with
  |cons p q=>obtain⟨e1,r1⟩:=p;obtain⟨k,k1,k2⟩:=hk' e (.head _);obtain⟨t,ht⟩:=ar.isStrOf_shape a1;have:k=kv.1:=(lF W.prog W.w).inj _ _ _ k1 a1;exact .cons ⟨kv.1,t,e1,ht,by refine k2▸this▸?_;rfl,a2▸r1⟩ (ih q λe he=>hk' e (.tail _ he))
end
theorem Jb{l:bf}{items:Array ar}{n:Nat}{k:Int}{t:qV}{v:ar}{Q:Unit->aF->Prop}(ho:s.heap.get? l=Y (listOf items n))(h0:0<=k)(hfit:k<2^63)(hn:k<items.size)
  (hQ:∀h' n',h'.get? l=Y (listOf (items.setIfInBounds k.toNat v) n')->jQ l s.heap h'->Q () {s with heap:=h'}):PW K (setItem (.ref l) (.int k t) v) Q E s:=by
 show bY _ _ _ _ _ _;have hl:s.heap.IsList l items:=⟨_,ho,U,n,U⟩;unfold setItem
 try with_reducible refine bS ?_
 first|refine ay (aL ?_)|skip
 refine ay (wpAny_sequenceKey hl.typeIs (by decide) ?_);refine ay (wpAny_callSpecial?_slot (name:=am "__setitem__") hl.typeIs slot_list_setitem
  (wpAny_call_entry slot_list_setitem hl.typeIs entry_list_setitem ?_ (args_list_setitem _ _ _)))
 show bY _ _ (tF.List.listSubscript? (.int k t)>>=_) _ _ s;refine ay (wpAny_listSubscript_int (fitsIndex_of h0 hfit) ?_);obtain⟨j,rfl⟩:=eW h0;have hj:j<items.size:=fw.mp hn;show bY _ _ ((seqItemAt l j>>=λr=>pure (r.map (j,·)))>>=_) _ _ s;refine ay (ay (wpAny_seqItemAt ho U (aL ?_)));refine(kK hj)▸?_;show bY _ _ (setSeqItemAt l j v>>=_) _ _ s;have fin:∃n',(s.heap.update l (iS.mapSeq (·.setIfInBounds j v))).get? l=Y (listOf (items.setIfInBounds j v) n'):=⟨_,dA _ ho U⟩;obtain⟨n',fin⟩:=fin;refine ay (wpAny_setSeqItemAt ho U ?_)
 first
  |exact ay (aL (aL ⟨.none,U,aL (hQ _ _ fin (dw ..))⟩))
  |exact aL ⟨.none,U,aL (hQ _ _ fin (dw ..))⟩
theorem Mb(ha:RV ρ a va)(hb:RV ρ b vb)(hv:RV ρ v u):aX K ρ (PW K (setItem va vb u)) (VP a b v) Uv:=
 aX.oObj (wv:=λva=>PW K (setItem va vb u)) ha λi c r ea=>by induction hb with
  |int k tk=>refine λσ ρ' s hp hr ht=>bB.gL λxs e1=>bB.gO λj e2=>?_;obtain⟨i0,i1,i2,rfl⟩:=uI e2;obtain⟨vs,n,g1,l1,hre⟩:=hr.list e1 (b5 hp ea);subst hre;refine bB.put ht U λQ E h=>Jb g1 i0 (by exact zU i2 U) (by exact List.size_toArray▸l1.length▸i1) λh' n' hL hs=>h ρ' h' s.toks () (List.prefix_refl _) (hr.upd (b5 hp ea) (.head _) hs (.list (vs:=vs.set k.toNat u) (n:=n') ?_ (l1.set (hv.mono hp)))) trivial;rw[hL,List.setIfInBounds_toArray]
  |str x tk e=>subst e;refine λσ ρ' s hp hr ht=>bB.gD λes e1=>bB.gd λq=>?_;obtain⟨ds,n,g1,l1,nd,ns,hre⟩:=hr.dict e1 (b5 hp ea);subst hre;obtain⟨kvs,p1,p2⟩:=yB l1;have nd2:=wJ p2 nd;refine bB.put ht U λQ E h=>wpAny_setItem_pairs (fz K.W.prog K.W.w x tk) ⟨_,_,_,g1,⟨U,U,U⟩,U,wM l1,by simpa using p1,nd2⟩ (λh' hD hs=>?_) (by exact p2.length▸cP▸Nat.le_of_lt (Nat.le_of_ble_eq_true q));obtain⟨ds',n',d1,d2⟩:=yJ hD (zN p2 nd2 (x:=x) (hv.mono hp));exact h ρ' h' _ () (List.prefix_refl _) (hr.upd (b5 hp ea) (.head _) hs (.dict d1 d2 (uY nd) ns)) trivial
  |_=>exact aX.no
theorem JG{x y:Expr}{mx my:M J}{p:da}(ix:b8 K x mx)(iy:b8 K y my):pJ K (iP (.Subscript x y p) K.c.env) (B6 mx my):=λρ v u hv=>((ix ρ).bind λρ1 va a p1 ha=>(iy ρ1).bind λρ2 vb b p2 hb=>Mb (ha.mono p2) hb ((hv.mono p1).mono p2)).pre λQ E s h=>by show bY _ _ _ _ _ _;rw[assign_Subscript];exact ay (bS (bu h (λva s h=>ay (bS (bu h (λvb s h=>ay (cX (ay (bS (bu h (λ_ s h=>wpAny_release h) λ_ _ x=>x))))) λ_ _ x=>x))) λ_ _ x=>x))
end
section
open PySem PySem.W PySem.Calls PyProof.Rows
variable{K:Cx}{σ σ':St}{ρ:cM}{s s₁:aF}{E:ar->aF->Prop}{pos:da}{a b v:J}{va vb u:ar}{n:Nat}{nm:aV}
theorem zm{t e:Expr}{line:Nat}{env:pv}(h:nv e=I):lG [t] e line env=pure I:=by show rX e (Y t) line env=pure I;cases e<;>first|rfl|exact nF h
theorem IH{t elt:Expr}{gs:List cW}{sc:cL}{p:da}{line:Nat}{env:pv}(h:Gh t=I):lG [t] (.ListComp elt gs sc p) line env=pure I:=by show rX (.ListComp elt gs sc p) (Y t) line env=pure I;cases t<;>first|rfl|exact nF h
noncomputable def sw(c1 c2 c3 c4 c5:Bool)(ns:List aV):o7 (Option (List aV)):=do
 if c1 then return cV
 if c2 then return cV
 if c3 then return cV
 if c4 then return cV
 if c5 then unsupported "assign.tuple-of-constant-expressions:order-of-the-stores"
 return Y ns
theorem UM{ts vs:List Expr}{k1 k2:Nat}{p1 p2:da}{env:pv}:∃(f:Expr->Bool)(g:Expr->Option aV),(∀x,f x=fR x)/\(∀x,g x=Y2 env.scope ((ts.head?.map (·.pos.line)).getD 0) x)/\
  gE [.Tuple ts k1 p1] (.Tuple vs k2 p2) env=sw (!(ts.length==2||ts.length==3)||vs.length !=ts.length||env.blockKind !=.function) (vs.any f) ((ts.filterMap g).length !=ts.length||(ts.filterMap g).eraseDups.length !=(ts.filterMap g).length) (vs.all (foldedForSure 8)) (vs.all (constantsAlone 8)) (ts.filterMap g):=
 ⟨_,_,λx=>by cases x<;>rfl,λx=>by cases x<;>rfl,U⟩
theorem R8{c1 c2 c3 c4 c5:Bool}{ns:List aV}{r:Option (List aV)}(h:(if c1=S then Y .none else if c2=S then Y .none else if c3=S then Y .none else if c4=S then Y .none else if c5=S then .none else Y (Y ns))=Y r):sw c1 c2 c3 c4 c5 ns=pure r:=by induction c1 with
 |true=>obtain rfl:=sI h;rfl
 |false=>induction c2 with
  |true=>obtain rfl:=sI h;rfl
  |false=>induction c3 with
   |true=>obtain rfl:=sI h;rfl
   |false=>induction c4 with
    |true=>obtain rfl:=sI h;rfl
    |false=>induction c5 with
     |true=>exact nS h
     |false=>obtain rfl:=sI h;rfl
theorem B8{sc:cL}{t e:Expr}{r:Option (List aV)}(h1:iW t=.none)(h:po sc t e=Y r):r=.none/\(yD t=S->iW e=.none):=by unfold po at h;replace h:=h1▸h;induction q:iW e with
 |none=>replace h:=q▸h;exact⟨(aQ h).symm,λ_=>rfl⟩
 |some vs=>replace h:=q▸h;induction q2:yD t with
  |true=>replace h:=q2▸h;exact nS h
  |false=>replace h:=q2▸h;exact⟨(aQ h).symm,λh=>by exact nT h⟩
theorem AQ{sc:cL}{t e:Expr}{r:Option (List aV)}(h1:iW e=.none)(h:po sc t e=Y r):r=.none:=by unfold po at h;rw[h1]at h;exact(aQ h).symm
theorem zD{t e:Expr}{env:pv}(h:iW e=.none):gE [t] e env=pure .none:=by
 have T:∀ts k p,gE [.Tuple ts k p] e env=pure .none:=λts k p=>by cases e<;>first|rfl|exact TF h
 have L:∀ts p,gE [.List ts p] e env=pure .none:=λts p=>by cases e<;>first|rfl|exact TF h
 induction t using bg with
 |Tuple ts k p=>exact T ts k p
 |List ts p=>exact L ts p
 |_=>rfl
theorem yf{t e:Expr}{env:pv}(h:iW t=.none)(h2:yD t=I):gE [t] e env=pure .none:=by induction t using bg with
 |Tuple ts k p=>exact TF h
 |List ts p=>exact nF h2
 |_=>rfl
theorem Ju{t:Expr}{ts:List Expr}(q:iW t=Y ts):∃k p,t=.Tuple ts k p:=by obtain⟨a,k,p,h1,h2⟩:=YP ns q;exact⟨k,p,sI h2▸h1⟩
theorem ud{t e:Expr}{env:pv}{r:Option (List aV)}(hk:env.scope.kind=.function)(h:po env.scope t e=Y r):gE [t] e env=pure r:=by induction q:iW e with
 |none=>exact(AQ q h)▸zD q
 |some vs=>induction q2:iW t with
  |none=>obtain⟨rfl,n⟩:=B8 q2 h;refine yf q2 ?_;induction q3:yD t with
   |false=>rfl
   |true=>replace q:=(n q3)▸q;exact nS q
  |some ts=>
   obtain⟨k1,p1,rfl⟩:=Ju q2;obtain⟨k2,p2,rfl⟩:=Ju q;obtain⟨f,g,hf,hg,e⟩:=UM (env:=env);have hb:(env.blockKind !=.function)=I:=by simp[pv.blockKind,hk,ScopeKind.isAnnotationScope]
   rw[e,hb,Bool.or_false,show f=fR from funext hf,show g=_ from funext hg];exact R8 h
theorem RD(t:Expr)(hs:fR t=I)(env:pv):(kz [t] env).map (·.2)=[iP t env]:=by cases t<;>first|rfl|exact nF hs
theorem Jv(F:Fc K){t e:Expr}{g:qf}{me:M J}(hs:fR t=I)(hn:∀line,lG [t] e line K.c.env=pure I)(hw0:po K.c.V.scope t e=Y cV)(ig:pJ K (iP t K.c.env) g)(ie:b8 K e me):lV K (.Assign [t] e pos) (sAsg g me):=λρ=>((ie ρ).bind λρ1 va a p1 ha=>(ig ρ1 a va ha).bind λ_ _ _ _ _=>tB).pre λQ E s h=>wpAny_Assign_stores (bu h (λv s h=>by rw[RD t hs];exact h) λ_ _ x=>x) (hn _) (ud F.C.kind (by rw[F.C.scope];exact hw0))
noncomputable def SZ(K:Cx):List (ar->o7 Unit)->List ar->WT Unit
 |[],us=>match us with
  |[]=>λQ _ s=>Q () s
  |_::_=>λ_ _ _=>False
 |t::ts,us=>match us with
  |[]=>λ_ _ _=>False
  |u::us=>λQ E s=>PW K (t u) (λ_ s=>SZ K ts us Q E s) E s
theorem xF:∀{ts:List (ar->o7 Unit)}{us:List ar}{Q:Unit->aF->Prop}{s:aF},SZ K ts us Q E s->PW K (assignInOrder ts us) Q E s
 |[],[],Q,s,h=>aL h
 |[],_::_,Q,s,h=>h.elim
 |_::_,[],Q,s,h=>h.elim
 |t::ts,u::us,Q,s,h=>ay (bS (bu h (λ_ s h=>xF h) λ_ _ x=>x))
theorem yr{t:ar->o7 Unit}{u:ar}:∀{ts:List (ar->o7 Unit)}{us:List ar},ts.length=us.length->SZ K (ts++[t]) (us++[u])=λQ E s=>SZ K ts us (λ_ s=>PW K (t u) Q E s) E s
 |[],[],_=>rfl
 |[],_::_,h=>by cases h
 |_::_,[],h=>by cases h
 |t0::ts,u0::us,h=>by show(λQ E s=>PW K (t0 u0) (λ_ s=>SZ K (ts++[t]) (us++[u]) Q E s) E s)=_;refine(yr (Nat.succ.inj h))▸?_;rfl
inductive t7(K:Cx):List Expr->List qf->Prop where
 |nil:t7 K [] []
 |cons {t:Expr} {g:qf} {ts:List Expr} {gs:List qf}:fR t=I->pJ K (iP t K.c.env) g->t7 K ts gs->t7 K (t::ts) (g::gs)
theorem mY{t:Expr}{ts:List Expr}{env:pv}(h:fR t=I):kz (t::ts) env=(I,iP t env)::kz ts env:=by cases t<;>first|rfl|exact nF h
theorem Jq{ts:List Expr}{gs:List qf}(i:t7 K ts gs):(kz ts K.c.env).length=gs.length/\(kz ts K.c.env).findIdx? (·.1)=cV:=by induction i with
 |nil=>exact⟨U,U⟩
 |cons hs _ _ ih=>exact(mY hs)▸⟨congrArg (·+1) ih.1,by rw[List.findIdx?_cons,ih.2];rfl⟩
theorem OD{ts:List Expr}{gs:List qf}(i:t7 K ts gs):∀{ρ:cM}{vs:List J}{us:List ar},bP (RV ρ) vs us->aX K ρ (SZ K ((kz ts K.c.env).map (·.2)) us) (o0 gs vs) Uv:=by induction i with
 |nil=>intro ρ vs us hl;induction hl with
  |nil=>exact iH (R:=Uv) () λ_=>trivial
  |cons _ _=>exact aX.no
 |cons hs ig _ ih=>intro ρ vs us hl;refine(mY hs)▸?_;induction hl with
  |nil=>exact aX.no
  |cons p q=>exact(ig ρ _ _ p).bind λρ1 _ _ p1 _=>ih (q.mono λ_ _=>RV.mono p1)
inductive QY(K:Cx)(σ:St)(ρ:cM)(s:aF)(n:Nat)(v:J)(u:ar):Prop where
 |mk (t:bf) (xs:List J) (us:List ar) (e:u=.ref t) (h:K.A.handled=cV) (i:n5 s.heap t us.toArray) (l:bP (RV ρ) xs us) (k:xs.length=n) (m:jf K.T n v σ=.ok xs σ):QY K σ ρ s n v u
theorem Ez(F:Fc K)(hr:K.R σ ρ s.heap)(hv:RV ρ v u){r:lJ St (List J)}(hw:jf K.T n v σ=r):r=.stuck\/QY K σ ρ s n v u:=by subst hw;induction q:σ.hand with
 |true=>exact .inl (by unfold jf M.bind ip;rw[q];rfl)
 |false=>
  have hh:=F.C.hand (by exact hr.hand▸q▸rfl);have e0:ip σ=.ok () σ:=by unfold ip;rw[q];rfl
  have e1:∀f:Unit->M (List J),(ip.bind f) σ=f () σ:=λf=>by unfold M.bind;exact e0▸rfl
  have fin:∀(ys:List J)(us:List ar)(t:bf),u=.ref t->jf K.T n v σ=gd (Nat.beq ys.length n) (M.ret ys) σ->n5 s.heap t us.toArray->bP (RV ρ) ys us->jf K.T n v σ=.stuck\/QY K σ ρ s n v u:=λys us t eu e it l=>by induction z:Nat.beq ys.length n with
   |false=>rw[z]at e;exact .inl e
   |true=>rw[z]at e;exact .inr ⟨t,ys,us,eu,hh,it,l,Nat.eq_of_beq_eq_true z,e⟩
  induction hv with
  |@obj i a r ea=>have e2:jf K.T n (.obj i) σ=gT i (λxs=>gd (Nat.beq xs.length n) (M.ret xs)) σ:=e1 _;induction o:σ.heap[i]? with
   |none=>exact .inl (by rw[e2];unfold gT gH;rw[o];rfl)
   |some ob=>induction ob with
    |tup ys=>obtain⟨vs,k,g1,l1,_⟩:=hr.tup o ea;exact fin ys vs _ U (by rw[e2];unfold gT gH;exact o▸rfl) ⟨_,g1,U,k,U⟩ l1
    |_=>exact .inl (by rw[e2];unfold gT gH;rw[o];rfl)
  |sref d=>have e2:jf K.T n (.sref d) σ=gO (d5 d K.T.stup) (λxs=>gd (Nat.beq xs.length n) (M.ret xs)) σ:=e1 _;induction o:d5 d K.T.stup with
   |none=>exact .inl (by rw[e2,o];rfl)
   |some ys=>obtain⟨us,k,dd,sl,hl,r⟩:=F.t.stup _ _ o;exact fin ys us _ U (by exact e2▸o▸rfl) (qd (hr.stays _ _ (F.g.X _ _ hl))) (r.mono λ_ _ w=>w ρ)
  |_=>exact .inl (e1 _)
theorem uz{α β:Type}(F:Fc K)(hv:RV ρ v u){w:WT α}{k:List J->M β}{R:cM->β->α->Prop}(af:∀σ ρ' s t xs us,ρ<+:ρ'->K.R σ ρ' s.heap->0<s.toks->u=.ref t->K.A.handled=cV->n5 s.heap t us.toArray->bP (RV ρ') xs us->xs.length=n->bB K σ ρ' s w (k xs) R):aX K ρ w ((jf K.T n v).bind k) R:=λσ ρ' s hp hr ht Q E hw=>by
 rcases Ez F hr (hv.mono hp) (r:=jf K.T n v σ) U with e|⟨t,xs,us,eu,hh,it,l,kk,m⟩
 ·have hw:=cg hw
  rw[M.wp,e]at hw;exact hw.elim
 ·have hw:=cg hw
  rw[M.wp,m]at hw;exact af σ ρ' s t xs us hp hr ht eu hh it l kk Q E hw
theorem vT{h h':cT}(x:cT.ExtBut h.objs.size h h'):h.StaysIn h':=λb o e=>x b o (Nat.ne_of_lt (cz e)) e
theorem Hu(F:Fc K){ts:List Expr}{gs:List qf}{k:Nat}{p:da}(i:t7 K ts gs):pJ K (iP (.Tuple ts k p) K.c.env) (fg K.T gs):=λρ v u hv=>uz F hv λσ ρ' s t xs us hp hr ht eu hh it l kk Q E hw=>by obtain⟨g1,g2⟩:=Jq i;subst eu;exact assign_Tuple_tuple hh it (by rw[g1,List.size_toArray,<-l.length,kk]) g2 λh' he=>xF (OD i l σ ρ' (eH s h' s.toks) (List.prefix_refl _) (hr.keepsIn (vT he)) ht Q E (cE hw (λ_ _ x=>x.from (List.prefix_refl _)) λ_ _ x=>x.from (List.prefix_refl _)))
theorem Hb{α:Type}{i j:Nat}{v w:J}{k:M α}(hij:i≠j):(cb i v).bind (λ_=>(cb j w).bind λ_=>k)=(cb j w).bind λ_=>(cb i v).bind λ_=>k:=by
 funext s
 unfold M.bind cb;cases q1:Nat.blt i s.loc.length<;>cases q2:Nat.blt j s.loc.length<;>simp only[cond,M.no,List.length_set,q1,q2];rw[List.set_comm _ _ hij]
theorem GT{m:M Unit}:m.bind (λ_=>M.ret ())=m:=by
 funext s
 unfold M.bind;cases m s<;>rfl
theorem Cs{i:Nat}:∀{is:List Nat}{vs:List J},i∉is->(cb i v).bind (λ_=>o0 (is.map bd) vs)=(o0 (is.map bd) vs).bind λ_=>cb i v
 |[],[],_=>GT.trans rfl
 |[],_::_,_=>by funext s;show M.bind _ _ s=_;unfold M.bind cb;cases Nat.blt i s.loc.length<;>rfl
 |_::_,[],_=>by funext s;show M.bind _ _ s=_;unfold M.bind cb;cases Nat.blt i s.loc.length<;>rfl
 |j::is,w::vs,h=>by show(cb i v).bind (λ_=>(cb j w).bind λ_=>o0 (is.map bd) vs)=((cb j w).bind λ_=>o0 (is.map bd) vs).bind λ_=>cb i v;have hij:i≠j:=λe=>h (by exact e▸.head _);simp only[Hb hij,M.assoc,Cs λm=>h (.tail _ m)]
inductive D7(K:Cx):List aV->List Nat->Prop where
 |nil:D7 K [] []
 |cons {x:aV} {i:Nat} {ns:List aV} {is:List Nat} (h:cx K.c.V x=Y i) (r:D7 K ns is):D7 K (x::ns) (i::is)
theorem D7.len{ns:List aV}{is:List Nat}(ah:D7 K ns is):ns.length=is.length:=by induction ah with
 |nil=>rfl
 |cons _ _ ih=>exact congrArg (·+1) ih
theorem Ft(C:fB K.c K.A){ns:List aV}{is:List Nat}(ah:D7 K ns is):is.Nodup->∀{ρ:cM}{vs:List J}{us:List ar},bP (RV ρ) vs us->vs.length=is.length->aX K ρ (SZ K (ns.reverse.map λn=>bindName K.c.env n) us.reverse) (o0 (is.map bd) vs) Uv:=by induction ah with
 |nil=>intro _ ρ vs us l hl;induction l with
  |nil=>exact iH (R:=Uv) () λ_=>trivial
  |cons _ _=>cases hl
 |@cons x i ns is h ah ih=>intro nd ρ vs us l hl;obtain⟨n1,n2⟩:=List.nodup_cons.mp nd;induction l with
  |nil=>cases hl
  |@cons v u vs us p q=>have hl:=Nat.succ.inj hl;show aX K ρ _ ((cb i v).bind λ_=>o0 (is.map bd) vs) Uv;rw[Cs n1,List.reverse_cons,List.reverse_cons,List.map_append,List.map_cons,List.map_nil,yr (by rw[List.length_map,List.length_reverse,List.length_reverse,ah.len,<-hl,q.length])];exact(ih n2 q hl).bind λρ1 _ _ p1 _=>(lW C h λ_=>p.mono p1).pre λQ E s h=>oa h
theorem D3(F:Fc K){ns:List aV}{is:List Nat}{ts:List Expr}{k:Nat}{tp:da}{e:Expr}{me:M J}(ah:D7 K ns is)(nd:is.Nodup)(hn:nv e=I)(hw0:po K.c.V.scope (.Tuple ts k tp) e=Y (Y ns))(ie:b8 K e me):lV K (.Assign [.Tuple ts k tp] e pos) (sAsg (fg K.T (is.map bd)) me):=λρ=>((ie ρ).bind λρ1 va a p1 ha=>(show aX K ρ1 (λQ E s=>PW K (unpackItems va ns.length cV) (λitems s=>PW K (assignInOrder (ns.reverse.map λn=>bindName K.c.env n) items.reverse) Q E s) E s) (fg K.T (is.map bd) a) Uv from uz F ha λσ ρ' s t xs us hp hr ht eu hh it l kk Q E hw=>by subst eu;rw[List.length_map]at kk;rw[show ns.length=us.toArray.size by rw[ah.len,List.size_toArray,<-l.length,kk]];exact unpackItems_tuple hh it λh' he=>xF (Ft F.C ah nd l kk σ ρ' (eH s h' s.toks) (List.prefix_refl _) (hr.keepsIn (vT he)) ht Q E (cE hw (λ_ _ x=>x.from (List.prefix_refl _)) λ_ _ x=>x.from (List.prefix_refl _)))).bind λ_ _ _ _ _=>tB).pre λQ E s h=>Assign_Tuple_swapped h (zm hn) (ud F.C.kind (by rw[F.C.scope];exact hw0))
theorem DQ(F:Fc K){x e:Expr}{mx me:M J}{p:da}{op:eO}(hn:K.T.names[n]?=Y nm)(ix:b8 K x mx)(ie:b8 K e me):lV K (.AugAssign (.Attribute x nm p) op e pos) (tT K.T mx n op me):=λρ=>((ix ρ).bind λρ1 va a p1 ha=>(C1 F.toFb (ex:=S) hn ha).bind λρ2 vo o p2 ho=>(ie ρ2).bind λρ3 vb b p3 hb=>(Hc (ho.mono p3) hb).bind λρ4 vr r p4 hr=>(DG F hn (((ha.mono p2).mono p3).mono p4) hr).bind λ_ _ _ _ _=>tB).pre λQ E s h=>wpAny_AugAssign_AttributeAny h
end
section
open PySem PySem.W PySem.Calls PyProof.Rows
variable{T:aT}{W:Wd}{c:Fx}{A:ch}{K:Cx}{σ σ':St}{ρ ρ':cM}{s s₁:aF}{E:ar->aF->Prop}{X:Nat->St->Prop}{h h':cT}{pos:da}{aj:bf}
inductive vI(W:Wd)(ρ:cM)(h:cT):It->bf->Prop where
 |list {i k:Nat} {a aj:bf} {r:List bf} (e:ρ[i]?=Y (a::r)) (x:h.IsListIter aj a k):vI W ρ h (.live i k) aj
 |tup {i k:Nat} {a aj:bf} {r:List bf} (e:ρ[i]?=Y (a::r)) (x:IsTupIter h aj a k):vI W ρ h (.liveT i k) aj
 |stup {k:Nat} {t aj:bf} {xs:List J} {us:List ar} (e:n5 W.h0 t us.toArray) (l:bP Sv xs us) (x:IsTupIter h aj t k):vI W ρ h (.vals (xs.drop k)) aj
 |asc {k:Nat} {aj:bf} {y:aV} {t:qV} (x:h.IsStrIter aj "str_ascii_iterator" y t k):vI W ρ h (.vals ((y.cps.toList.map λc=>.str [c]).drop k)) aj
 |wide {k:Nat} {aj:bf} {y:aV} {t:qV} (x:h.IsStrIter aj "str_iterator" y t k):vI W ρ h (.vals ((y.cps.toList.map λc=>.str [c]).drop k)) aj
 |range {k n:Nat} {aj:bf} (hk:k<=n) (x:IsRangeIter h aj (k:Int) (n-k:Int) 1):vI W ρ h (.vals (((List.range n).map λ(i:Nat)=>.int i).drop k)) aj
theorem vI.keep{q:It}(x:vI W ρ h q aj)(hp:ρ<+:ρ')(e:m0 h h' aj):vI W ρ' h' q aj:=by induction x with
 |list a b=>exact .list (b5 hp a) (let⟨o,p,q⟩:=b;⟨o,e _ p,q⟩)
 |tup a b=>exact .tup (b5 hp a) (let⟨o,p,q⟩:=b;⟨o,e _ p,q⟩)
 |stup a l b=>exact .stup a l (let⟨o,p,q⟩:=b;⟨o,e _ p,q⟩)
 |asc b=>exact .asc (let⟨o,p,q⟩:=b;⟨o,e _ p,q⟩)
 |wide b=>exact .wide (let⟨o,p,q⟩:=b;⟨o,e _ p,q⟩)
 |range hk b=>exact .range hk (e _ b)
inductive N5(h:cT)(aj:bf):Prop where
 |mk (o:iS) (n:String) (vs:Array ar) (g:h.get? aj=Y o) (c:o.cls=.type n) (d:o.data=.fields vs) (k:["enumerate","zip","dict_itemiterator","dict_reverseitemiterator","odict_iterator","itertools.zip_longest","itertools.pairwise"].contains n=I):N5 h aj
theorem vI.obj{q:It}(x:vI W ρ h q aj):N5 h aj:=by induction x with
 |list a b=>obtain⟨o,p,q,r⟩:=b;exact⟨o,_,_,p,q,r,by decide⟩
 |tup a b=>obtain⟨o,p,q,r⟩:=b;exact⟨o,_,_,p,q,r,by decide⟩
 |stup a l b=>obtain⟨o,p,q,r⟩:=b;exact⟨o,_,_,p,q,r,by decide⟩
 |asc b=>obtain⟨o,p,q,r⟩:=b;exact⟨o,_,_,p,q,r,by decide⟩
 |wide b=>obtain⟨o,p,q,r⟩:=b;exact⟨o,_,_,p,q,r,by decide⟩
 |range hk b=>exact⟨_,_,_,b,U,U,by decide⟩
theorem dB.ext(R:dB T W c σ ρ h)(f:ng W c ρ aj)(he:cT.ExtBut aj h h'):dB T W c σ ρ h':=
 R.stay (λm F=>⟨F.ns.extBut he (jP f.loc),λb o e=>he b o (λq=>by rw[q,f.h0]at e;exact nS e) (F.keep b o e),F.above⟩) λb hb o e=>he b o (λq=>f.addrs (q▸hb)) e
noncomputable def Fx.hold(c:Fx)(p:bf×Hd):Fx:={c with held:=p::c.held}
theorem fB.hold(C:fB c A)(p:bf×Hd):fB (c.hold p) A where
 scope:=C.scope
 kind:=C.kind
 glob:=C.glob
 bi:=C.bi
 inj:=C.inj
 nd:=C.nd
 frames:=C.frames
 hand:=C.hand
 top:=C.top
 cells:=C.cells
 lo:=C.lo
 lotop:=C.lotop
 envs:=λe he=>let⟨k,L,a,b⟩:=C.envs e he;⟨k,L,a,b.elim .inl λ⟨m,hm⟩=>.inr ⟨m,.tail _ hm⟩⟩
theorem dB.hold(R:dB T W c σ ρ h)(f:ng W c ρ aj){o:iS}(ho:h.get? aj=Y o):dB T W (c.hold (aj,.obj o)) σ ρ h:=by
 obtain⟨m,F,L⟩:=R.fr;obtain⟨n1,n2⟩:=List.nodup_cons.mp R.nd;refine⟨⟨m,F,λx i v a b d=>?_⟩,R.len,R.obs,λp hp=>?_,?_,λb hb=>?_,R.hand,R.frz⟩
 ·cases L x i v a b d with
  |loc k u e r=>exact .loc k u e r
  |cell k ca u e hd r=>exact .cell k ca u e (.tail _ hd) r
 ·rcases List.mem_cons.mp hp with e0|hp
  ·exact e0▸.obj ho
  ·exact R.held p hp
 ·exact List.nodup_cons.mpr ⟨λhm=>(List.mem_cons.mp hm).elim (λq=>f.loc q.symm) n1,List.nodup_cons.mpr ⟨f.addrs,n2⟩⟩
 ·rcases List.mem_cons.mp hb with e0|hb
  ·exact e0▸⟨f.h0,cz ho⟩
  ·exact R.fresh b hb
theorem dB.unhold{p:bf×Hd}(hn:∀v,p.2≠.cell v)(R:dB T W (c.hold p) σ ρ h):dB T W c σ ρ h:=by obtain⟨m,F,L⟩:=R.fr;obtain⟨n1,n2⟩:=List.nodup_cons.mp R.nd;refine⟨⟨m,F,λx i v a b d=>?_⟩,R.len,R.obs,λq hq=>R.held q (.tail _ hq),List.nodup_cons.mpr ⟨λhm=>n1 (.tail _ hm),(List.nodup_cons.mp n2).2⟩,λb hb=>R.fresh b (.tail _ hb),R.hand,R.frz⟩;cases L x i v a b d with
 |loc k u e r=>exact .loc k u e r
 |cell k ca u e hd r=>
  rcases List.mem_cons.mp hd with q|q
  ·exact(hn u (by exact q▸rfl)).elim
  ·exact .cell k ca u e q r
theorem dB.heldFree{o:iS}(R:dB T W (c.hold (aj,.obj o)) σ ρ h):ng W c ρ aj/\h.get? aj=Y o:=by obtain⟨n1,n2⟩:=List.nodup_cons.mp R.nd;cases R.held _ (.head _)with
 |obj g=>exact⟨⟨(List.nodup_cons.mp n2).1,λq=>n1 (q▸.head _),(R.fresh aj (.head _)).1⟩,g⟩
theorem EN{α:Type}{l:List α}{k:Nat}{x:α}(e:l[k]?=Y x):l.drop k=x::l.drop (k+1):=by obtain⟨h,rfl⟩:=List.getElem?_eq_some_iff.mp e;exact List.drop_eq_getElem_cons h
theorem Dp{β:Type}{i:Nat}{k:AO->M β}{P:β->St->Prop}(hw:kH P X (gH i k σ)):∃o,σ.heap[i]?=Y o/\kH P X (k o σ):=by have hw:kH P X (gO (σ.heap[i]?) k σ):=hw;induction e:σ.heap[i]? with
 |none=>rw[e]at hw;exact hw.elim
 |some o=>rw[e]at hw;exact⟨o,U,hw⟩
theorem NG{β:Type}{i:Nat}{k:List J->M β}{P:β->St->Prop}(hw:kH P X (gL i k σ)):∃xs,σ.heap[i]?=Y (.list xs)/\kH P X (k xs σ):=by obtain⟨o,e,hw⟩:=Dp hw;induction o with
 |list xs=>exact⟨xs,e,hw⟩
 |_=>exact hw.elim
theorem US{β:Type}{i:Nat}{k:List J->M β}{P:β->St->Prop}(hw:kH P X (gT i k σ)):∃xs,σ.heap[i]?=Y (.tup xs)/\kH P X (k xs σ):=by obtain⟨o,e,hw⟩:=Dp hw;induction o with
 |tup xs=>exact⟨xs,e,hw⟩
 |_=>exact hw.elim
structure Pa(K:Cx)(σ:St)(ρ:cM)(s:aF)(aj:bf)(P:Option (J×It)->St->Prop)(Q:Option ar->aF->Prop):Prop where
 no:P .none σ->∀h',K.R σ ρ h'->Q .none (eH s h' s.toks)
 yes:∀v q' u h' tk,P (Y (v,q')) σ->RV ρ v u->K.R σ ρ h'->vI K.W ρ h' q' aj->Q (Y u) (eH s h' tk)
variable{P:Option (J×It)->St->Prop}{Q:Option ar->aF->Prop}
theorem qA{l:List J}{k:Nat}(e:l[k]?=.none)(hw:kH P X (i7 (.vals (l.drop k)) σ)):P .none σ:=by rw[List.drop_eq_nil_of_le (List.getElem?_eq_none_iff.mp e)]at hw;exact hw
theorem td{l:List J}{k:Nat}{v:J}(e:l[k]?=Y v)(hw:kH P X (i7 (.vals (l.drop k)) σ)):P (Y (v,.vals (l.drop (k+1)))) σ:=by rw[EN e]at hw;exact hw
theorem uh{vs:List ar}{k:Nat}{u:ar}(e:vs[k]?=Y u):vs.toArray[k]?=Y u:=by rw[List.getElem?_toArray];exact e
theorem w4{xs:List J}{vs:List ar}{R:J->ar->Prop}{k:Nat}(l:bP R xs vs)(e:xs[k]?=.none):vs.toArray[k]?=.none:=by rw[List.getElem?_toArray];exact List.getElem?_eq_none (by rw[<-l.length];exact List.getElem?_eq_none_iff.mp e)
theorem wj{q:It}(hh:K.A.handled=cV)(hr:K.R σ ρ s.heap)(f:ng K.W K.c ρ aj)(x:vI K.W ρ s.heap q aj)(hw:kH P X (i7 q σ))(N:Pa K σ ρ s aj P Q):PW K (pyNext (.ref aj)) Q E s:=by induction x with
 |@list i k a _ r ea x=>obtain⟨xs,e1,hw⟩:=NG hw;obtain⟨vs,n,g1,l1,_⟩:=hr.list e1 ea;induction e2:xs[k]? with
  |none=>rw[e2]at hw;exact wpAny_pyNext_list_end hh x (cF g1) (w4 l1 e2) λh' he=>N.no hw h' (hr.ext f he)
  |some v=>rw[e2]at hw;obtain⟨u,hu,hR⟩:=l1.get e2;exact wpAny_pyNext_list_item x (cF g1) (uh hu) λh' hx hsb=>N.yes _ _ u h' s.toks hw hR (hr.ext f hsb.extBut) (.list ea hx)
 |@tup i k a _ r ea x=>obtain⟨xs,e1,hw⟩:=US hw;obtain⟨vs,n,g1,l1,_⟩:=hr.tup e1 ea;have ht:n5 s.heap _ vs.toArray:=⟨_,g1,U,n,U⟩;induction e2:xs[k]? with
  |none=>rw[e2]at hw;exact next_tuple_end hh x ht (w4 l1 e2) λh' he=>N.no hw h' (hr.ext f he)
  |some v=>rw[e2]at hw;obtain⟨u,hu,hR⟩:=l1.get e2;exact next_tuple_item x ht (uh hu) λh' hx hsb=>N.yes _ _ u h' s.toks hw hR (hr.ext f hsb.extBut) (.tup ea hx)
 |@stup k t _ xs us et l x=>have ht:n5 s.heap t us.toArray:=et.keeps hr.stays;induction e2:xs[k]? with
  |none=>exact next_tuple_end hh x ht (w4 l e2) λh' he=>N.no (qA e2 hw) h' (hr.ext f he)
  |some v=>obtain⟨u,hu,hR⟩:=l.get e2;exact next_tuple_item x ht (uh hu) λh' hx hsb=>N.yes _ _ u h' s.toks (td e2 hw) (hR ρ) (hr.ext f hsb.extBut) (.stup et l hx)
 |@asc k _ y t x=>induction e2:y.cps.toList[k]? with
  |none=>exact wpAny_pyNext_ascii_end hh x (by rw[<-ck];exact e2) λh' he=>N.no (qA (by simp only[List.getElem?_map,e2];rfl) hw) h' (hr.ext f he)
  |some v=>exact wpAny_pyNext_ascii_item x (by rw[<-ck];exact e2) λh' hx hsb=>N.yes _ _ _ h' _ (td (by simp only[List.getElem?_map,e2];rfl) hw) (.str _ _ U) (hr.ext f hsb.extBut) (.asc hx)
 |@wide k _ y t x=>induction e2:y.cps.toList[k]? with
  |none=>exact wpAny_pyNext_wide_end hh x (by rw[<-ck];exact e2) λh' he=>N.no (qA (by simp only[List.getElem?_map,e2];rfl) hw) h' (hr.ext f he)
  |some v=>exact wpAny_pyNext_wide_item x (by rw[<-ck];exact e2) λh' hx hsb=>N.yes _ _ _ h' _ (td (by simp only[List.getElem?_map,e2];rfl) hw) (.str _ _ U) (hr.ext f hsb.extBut) (.wide hx)
 |@range k n _ hk x=>
  by_cases hkn:k<n
  ·refine wpAny_pyNext_range_item x (by exact qM (vA hkn)) λh' hx hsb=>N.yes _ _ _ h' _ (td (by simp only[List.getElem?_map,List.getElem?_range hkn];rfl) hw) (.int _ _) (hr.ext f hsb.extBut) (.range hkn ?_)
   rw[show((n:Int)-k-1)=(n:Int)-((k+1:Nat):Int) by exact sG _ _ _]at hx;exact hx
  ·exact wpAny_pyNext_range_end hh x (by exact Int.sub_nonpos_of_le (yL (Nat.le_of_not_lt hkn))) λh' he=>N.no (qA (List.getElem?_eq_none (by simp only[List.length_map,List.length_range];exact(Xi hkn))) hw) h' (hr.ext f he)
theorem Vi{q:It}{t:Expr}{v:ar}{Q:Unit->aF->Prop}(x:vI W ρ s.heap q aj)(hQ:Q () s):PW K (letOwnedTupleGo t (.ref aj) v) Q E s:=by
 obtain⟨o,n,vs,ho,hc,hd,hn⟩:=x.obj;have key:∀(es:List Expr)(k:Nat)(p:da),PW K (letOwnedTupleGo (.Tuple es k p) (.ref aj) v) Q E s:=λes k p=>by induction v with
  |ref a=>refine ay (wpAny_load ho ?_);refine hc▸hd▸?_;dsimp only;rw[hn,Bool.false_and,if_neg em];exact aL hQ
  |_=>exact aL hQ
 induction t using bg with
 |Tuple es k p=>exact key es k p
 |List es p=>exact key es 0 p
 |_=>exact aL hQ
def so(K:Cx)(ρ:cM)(s:aF)(Q:ar->aF->Prop)(q:It)(σ':St):Prop:=
 ∀(ρ':cM)(h':cT)(tk:Nat)(aj:bf),ρ<+:ρ'->K.R σ' ρ' h'->ng K.W K.c ρ' aj->vI K.W ρ' h' q aj->0<tk->Q (.ref aj) (eH s h' tk)
def yb(K:Cx)(e:Expr)(m:M It):Prop:=∀(σ:St)(ρ:cM)(s:aF)(Q:ar->aF->Prop)(E:ar->aF->Prop),K.R σ ρ s.heap->0<s.toks->kH (so K ρ s Q) (lQ K ρ s E) (m σ)->PW K (rV e K.c.env) (λx s₁=>PW K (pyIter x) Q E s₁) E s
theorem so.from{Q:ar->aF->Prop}{h₁:cT}{tk₁:Nat}{q:It}{ρ₁:cM}(hp:ρ<+:ρ₁)(h:so K ρ s Q q σ'):so K ρ₁ (eH s h₁ tk₁) Q q σ':=λρ' h' tk a x=>h ρ' h' tk a (hp.trans x)
theorem LE(F:Fc K){a:J}{u:ar}{Q:ar->aF->Prop}(hr:K.R σ ρ s.heap)(ht:0<s.toks)(ha:RV ρ a u)(hw:kH (so K ρ s Q) X (VR K.T a σ)):PW K (pyIter u) Q E s:=by have hf:=hr.free;induction ha with
 |str x t hx=>subst hx;induction q:x.cps.all (·<128)with
  |true=>exact wpAny_pyIter_ascii q (hw ρ _ s.toks _ (List.prefix_refl _) (hr.push _) hf (.asc (k:=0) ⟨_,bA _ U,U,U⟩) ht)
  |false=>exact wpAny_pyIter_wide q (hw ρ _ s.toks _ (List.prefix_refl _) (hr.push _) hf (.wide (k:=0) ⟨_,bA _ U,U,U⟩) ht)
 |sref d=>have hw:kH (so K ρ s Q) X (gO (d5 d K.T.stup) (λvs=>M.ret (.vals vs)) σ):=hw;induction e1:d5 d K.T.stup with
  |none=>rw[e1]at hw;exact hw.elim
  |some xs=>rw[e1]at hw;obtain⟨us,n,dd,sl,hl,r⟩:=F.t.stup _ _ e1;have h0:=qd (F.g.X _ _ hl);exact iter_tuple (h0.keeps hr.stays) (hw ρ _ s.toks _ (List.prefix_refl _) (hr.push _) hf (.stup (k:=0) h0 r ⟨_,bA _ U,U,U⟩) ht)
 |obj ea=>obtain⟨o,e1,hw⟩:=Dp hw;induction o with
  |list xs=>obtain⟨vs,n,g1,l1,_⟩:=hr.list e1 ea;exact wpAny_pyIter_list (cF g1) (hw ρ _ s.toks _ (List.prefix_refl _) (hr.push _) hf (.list (k:=0) ea ⟨_,bA _ U,U,U⟩) ht)
  |tup xs=>obtain⟨vs,n,g1,l1,_⟩:=hr.tup e1 ea;exact iter_tuple (⟨_,g1,U,n,U⟩:n5 s.heap _ vs.toArray) (hw ρ _ s.toks _ (List.prefix_refl _) (hr.push _) hf (.tup (k:=0) ea ⟨_,bA _ U,U,U⟩) ht)
  |_=>exact hw.elim
 |_=>exact hw.elim
theorem EM(F:Fc K){e:Expr}{me:M J}(ie:b8 K e me):yb K e (iU K.T me):=λσ ρ s Q E hr ht hw=>ie ρ σ ρ s (List.prefix_refl _) hr ht _ _ (cE (cg hw) (λa σ1 hP ρ1 h1 tk1 va hp1 hr1 ha ht1=>LE F (s:=eH s h1 tk1) hr1 ht1 ha (cE hP (λ_ _ x=>x.from hp1) λ_ _ x=>x)) λ_ _ x=>x)
theorem I1{a:J}{va:ar}{Q:ar->aF->Prop}(hr:K.R σ ρ s.heap)(ht:0<s.toks)(ha:RV ρ a va)(hw:kH (so K ρ s Q) X ((gM a λn=>gd (aI (0<=n)&&aI (n<2^24)) (M.ret (.vals ((List.range n.toNat).map λ(i:Nat)=>.int i)))) σ)):PW K (call (.type "range") [va] []) (λx s₁=>PW K (pyIter x) Q E s₁) E s:=by induction ha with
 |int n t=>have hw:kH (so K ρ s Q) X (gd (aI (0<=n)&&aI (n<2^24)) (M.ret (.vals ((List.range n.toNat).map λ(i:Nat)=>.int i))) σ):=hw;induction q:aI (0<=n)&&aI (n<2^24)with
  |false=>replace hw:=q▸hw;exact hw.elim
  |true=>
   replace hw:=q▸hw;rw[ax,decide_eq_true_eq,decide_eq_true_eq]at q;refine call_range_1 (wpAny_pyIter_range (IsRange.new ..) (small_one (by decide) (by decide) (by exact zB U q.1) (by exact zU q.2 U)) ?_);have hr2:=(hr.push {cls:=.type "range",data:=.fields #[.int 0 s.toks,.int n t,.int 1 (s.toks+1)]});have hsz:tF.Range.rangeSize 0 n 1=(n.toNat:Int):=by rw[rangeSize_one];split<;>lia
   refine hw ρ _ _ _ (List.prefix_refl _) (hr2.push _) hr2.free (vI.range (k:=0) (n:=n.toNat) (Nat.zero_le _) ?_) (Nat.lt_of_lt_of_le ht (Nat.le_trans (Nat.le_add_right _ 1) (Nat.le_add_right _ 1)));rw[hsz,show((n.toNat:Int)-((0:Nat):Int))=(n.toNat:Int) by exact Int.sub_zero _];exact bA _ rfl
 |_=>exact hw.elim
theorem Bx(F:Fc K){f:aV}{fp:da}{a:Expr}{ma:M J}(hg:iM K.c.V f=S)(hv:K.T.glob.lookup f=Y (.ty "range"))(hs:fR a=I)(ia:b8 K a ma):yb K (.Call (.Name f fp) [a] [] pos) (nK ma):=λσ ρ s Q E hr ht hw=>by refine kA (jV F.g F.C hg hv hr λu hR=>?_);have hu:=hR ρ;cases hu;have iEs:fT K [a] [ma]:=.cons hs ia .nil;refine jr (P:=λ_=>True) (by rw[kb iEs];rfl) (λh _=>⟨.machine,.inr (.inl U),.now⟩) (g9 iEs U ?_);exact(fF hs)▸Calls.spliced_cons (ia ρ σ ρ s (List.prefix_refl _) hr ht _ _ (cE (cg hw) (λv σ1 hP ρ1 h1 tk1 va hp1 hr1 ha ht1=>Calls.spliced_nil (eP ⟨trivial,I1 (s:=eH s h1 tk1) hr1 ht1 ha (cE hP (λ_ _ x=>x.from hp1) λ_ _ x=>x)⟩)) λ_ _ x=>x))
theorem ue{α:Type}{m:M α}{P:α->St->Prop}(h:(E2 m).wp σ P X):m.wp σ P (λ_ _=>False):=by unfold M.wp E2 at*;induction e:m σ with
 |ok a s=>replace h:=e▸h;exact h
 |_=>replace h:=e▸h;exact h.elim
theorem oI{P:Unit->St->Prop}(h:ip.wp σ P X):σ.hand=I/\P () σ:=by unfold M.wp ip at h;induction q:σ.hand with
 |true=>rw[q]at h;exact h.elim
 |false=>rw[q]at h;exact⟨U,h⟩
theorem wH{e:Expr}(h:j5 e=I)(env:pv)(x:ar):foldedSetIterable e env x=pure x:=by cases e<;>first|rfl|exact nF h
inductive YX(K:Cx)(ρ:cM)(s:aF)(Q:qP->aF->Prop)(aj:bf)(g:qf)(mb:M Fl)(n:Nat)(s':aF):Prop where
 |mk (σ':St) (ρ':cM) (h':cT) (tk:Nat) (q:It) (e:s'=eH s h' tk) (ht:0<tk) (hp:ρ<+:ρ') (hr:K.R σ' ρ' h') (f:ng K.W K.c ρ' aj) (x:vI K.W ρ' h' q aj) (hw:kH (vD K ρ s Fv Q) (λ_ _=>False) (dU (iV g mb) n q σ')):YX K ρ s Q aj g mb n s'
theorem Fw(F:Fc K){t e:Expr}{b:List eD}{g:qf}{mi:M It}{mb:M Fl}(hset:j5 e=I)(ii:yb K e mi)(ig:∀p,pJ (K.to (K.c.hold p) K.A) (iP t K.c.env) g)(ib:∀p,uQ (K.to (K.c.hold p) K.A) b mb):
  lV K (.For t e b [] pos) (uD g mi mb):=λρ00 σ ρ s _ hr ht Q E hw=>by
 obtain⟨vy,hw⟩:=oI (cg hw);have hh:=F.C.hand (by exact hr.hand▸vy▸rfl);refine wpAny_For (ii σ ρ s _ _ hr ht (cE (cg hw) (λq0 σ0 hP ρ0 h0 tk0 aj hp0 hr0 f0 x0 ht0=>?_) λ_ _ x=>x)) (wH hset K.c.env);refine codeAny_forLoop_any (YX K ρ s Q aj g mb) ?_ ff ⟨σ0,ρ0,h0,tk0,q0,U,ht0,hp0,hr0,f0,x0,ue hP⟩;rintro n _ ⟨σ1,ρ1,h1,tk1,q1,rfl,ht1,hp1,hr1,f1,x1,hw1⟩;induction n with
 |zero=>exact hw1.elim
 |succ n=>refine cq (n:=1) ht1 (wj (s:=eH s h1 tk1) hh hr1 f1 x1 (cg (cg hw1)) ⟨λhN h2 hr2 _=>jB (hN ρ1 h2 tk1 .next hp1 hr2 .nxt ht1),λv q2 u h2 tk2 hN hv hr2 x2 ht2=>?_⟩);refine Vi (K:=K) x2 ?_;obtain⟨o,_,_,ho,_⟩:=x2.obj;have hN:kH _ _ (((g v).bind λ_=>mb.bind λf=>M.ret (Y (q2,f))) σ1):=hN;refine ig (aj,.obj o) ρ1 v u hv σ1 ρ1 (eH s h2 tk2) (List.prefix_refl _) (hr2.hold f1 ho) ht2 _ _ (cE (cg hN) (λ_ σ3 hP3 ρ3 h3 tk3 _ hp3 hr3 _ ht3=>?_) λ_ _ x=>x.elim);refine ib (aj,.obj o) ρ3 σ3 ρ3 (eH s h3 tk3) (List.prefix_refl _) hr3 ht3 _ _ (cE (cg hP3) (λf σ4 hP4 ρ4 h4 tk4 fl hp4 hr4 hf ht4=>?_) λ_ _ x=>x.elim);obtain⟨f4,ho4⟩:=hr4.heldFree;have hr5:=hr4.unhold (λ_ q=>by cases q);have hpp:=(hp1.trans hp3).trans hp4;induction hf with
  |nxt=>exact⟨n,Nat.lt_succ_self n,σ4,ρ4,h4,tk4,q2,U,ht4,hpp,hr5,f4,x2.keep (hp3.trans hp4) (λo' e=>by rw[ho]at e;exact(sI e)▸ho4),hP4⟩
  |brk=>exact hP4 ρ4 h4 tk4 .next hpp hr5 .nxt ht4
  |ret hv=>exact hP4 ρ4 h4 tk4 (.ret _) hpp hr5 (.ret hv) ht4
end
section
open PySem PySem.W PySem.Calls PyProof.Rows
variable{T:aT}{W:Wd}{c:Fx}{A:ch}{K:Cx}{σ σ':St}{ρ ρ':cM}{s s₁:aF}{E:ar->aF->Prop}{X:Nat->St->Prop}{h h':cT}{pos:da}{aj:bf}{x:aV}{sc:cL}
theorem EV{q:It}{Q:ar->aF->Prop}(x:vI W ρ s.heap q aj)(hQ:Q (.ref aj) s):PW K (pyIter (.ref aj)) Q E s:=by induction x with
 |list a b=>exact wpAny_pyIter_listiter b hQ
 |tup a b=>exact mU b hQ
 |stup a l b=>exact mU b hQ
 |asc b=>exact wpAny_pyIter_striter_ascii b hQ
 |wide b=>exact wpAny_pyIter_striter_wide b hQ
 |range hk b=>exact wpAny_pyIter_rangeiter b hQ
noncomputable def iN(env:pv):List (aV×dr)->List (aV×bf)->List (aV×bf)
 |[],acc=>acc
 |(n,k)::r,acc=>if k==.free then iN env r ((n,(env.cells.lookup n).getD 0)::acc)else iN env r acc
theorem rc{env:pv}:∀(l:List (aV×dr))(acc:List (aV×bf)),(∀p∈l,p.2=.free->(env.cells.lookup p.1).isSome=S)->
  (forIn l acc λ(x:aV×dr) r=>(match x with|(name,kind)=>if(kind==fH)=S then do let a<-cellOf env name;pure (eG ((name,a)::r))else pure (eG r)):o7 (List (aV×bf)))=pure (iN env l acc)
 |[],acc,_=>rfl
 |(n,k)::r,acc,hl=>by
  rw[List.forIn_cons];unfold iN;dsimp only
  by_cases q:(k==fH)=S
  ·rw[if_pos q,if_pos q]
   obtain⟨ca,hca⟩:=bL.mp (hl (n,k) (.head _) (eq_of_beq q));have e:cellOf env n=pure ca:=by unfold cellOf;rw[hca]
   rw[e,hca];exact rc r _ λp hp=>hl p (.tail _ hp)
  ·rw[if_neg q,if_neg q]
   exact rc r _ λp hp=>hl p (.tail _ hp)
theorem An{env:pv}(h:∀p∈sc.names,p.2=.free->(env.cells.lookup p.1).isSome=S):closureFor sc env=pure (iN env sc.names []):=by unfold closureFor;exact(congrArg (λ(t:o7 (List (aV×bf)))=>t>>=λcs=>pure cs) (rc sc.names [] h)).trans rfl
theorem pE{env:pv}:∀(l:List (aV×dr)){acc:List (aV×bf)},acc.lookup x=Y ((env.cells.lookup x).getD 0)->(iN env l acc).lookup x=Y ((env.cells.lookup x).getD 0)
 |[],_,h=>h
 |(y,k)::r,acc,h=>by
  unfold iN
  split
  ·refine pE r ?_
   rw[List.lookup_cons];induction q:x==y with
   |true=>exact(eq_of_beq q)▸rfl
   |false=>exact h
  ·exact pE r h
theorem mB{env:pv}:∀{l:List (aV×dr)}(acc:List (aV×bf)),(x,fH)∈l->(iN env l acc).lookup x=Y ((env.cells.lookup x).getD 0)
 |(y,k)::r,acc,h=>by
  unfold iN;rcases List.mem_cons.mp h with e|h
  ·cases e
   rw[if_pos (by rfl)];exact pE r (by rw[List.lookup_cons,beq_self_eq_true])
  ·split
   ·exact mB _ h
   ·exact mB _ h
theorem qi{o:cL}{y:aV}:∀{l:List (aV×dr)},(l.map λ(n,k)=>if(k==fH&&o.kind==.function&&o.names.lookup n==Y .cell)then(n,lE)else(n,k)).lookup y=
  (l.lookup y).map λk=>if(k==fH&&o.kind==.function&&o.names.lookup y==Y .cell)then .cell else k
 |[]=>rfl
 |(n,k)::r=>by
  have ih:=qi (o:=o) (y:=y) (l:=r);have h1:∀(b:Bool)(l:List (aV×dr)),List.lookup y ((if b=S then(n,lE)else(n,k))::l)=if(y==n)=S then Y (if b=S then lE else k)else l.lookup y:=λb l=>by induction b<;>simp only[List.lookup_cons,if_true,kB,if_false]<;>cases y==n<;>rfl
  rw[List.map_cons];dsimp only;rw[h1,ih,List.lookup_cons];induction q:y==n with
  |true=>rw[eq_of_beq q];rfl
  |false=>rfl
structure rn(V:VI)(x:aV)(sc:cL):Prop where
 kind:sc.kind=.function
 hx:sc.names.lookup x=Y .local
 nocell:∀y∈sc.names,y.2≠.cell
 loc:∀p∈sc.names,p.2=.local->(p.1=x\/V.vm.lookup p.1=cV)/\sc.names.lookup p.1=Y .local
 free:∀p∈sc.names,p.2=.free->V.scope.names.lookup p.1=Y .cell/\p.1≠x
 nd:∀p∈sc.names,(p.1==("__debug__":aV))=I/\(p.1==("__classdict__":aV))=I
theorem D4{V:VI}(h:rg V x sc=S):rn V x sc:=by
 unfold rg at h;rw[ax,ax,List.all_eq_true]at h;obtain⟨⟨h1,h2⟩,h3⟩:=h;have h3:∀p∈sc.names,((!(p.2==.cell))=S/\(!(p.2==.local)||((p.1==x||(V.vm.lookup p.1).isNone)&&sc.names.lookup p.1==Y .local))=S)/\(!(p.2==.free)||(V.scope.names.lookup p.1==Y .cell&&p.1 !=x))=S/\(p.1 !=("__debug__":aV))=S/\(p.1 !=("__classdict__":aV))=S:=λp hp=>by have:=h3 p hp;unfold IJ at this;rw[ax,ax,ax,ax]at this;exact⟨this.1.1,this.1.2,this.2⟩
 have bne:∀{a b:aV},(a !=b)=S->(a==b)=I:=λh=>dt _|>.mp h;refine⟨eq_of_beq h1,eq_of_beq h2,λp hp q=>?_,λp hp q=>?_,λp hp q=>?_,λp hp=>⟨bne (h3 p hp).2.2.1,bne (h3 p hp).2.2.2⟩⟩
 ·have:=(h3 p hp).1.1;rw[q]at this;exact nT this
 ·have:=(h3 p hp).1.2
  rw[q,show(!(dr.local==dr.local))=I from U,gC,ax,dz]at this;exact⟨this.1.imp eq_of_beq Option.isNone_iff_eq_none.mp,eq_of_beq this.2⟩
 ·have:=(h3 p hp).2.1
  rw[q,show(!(fH==fH))=I from U,gC,ax]at this;exact⟨eq_of_beq this.1,bne_iff_ne.mp this.2⟩
def Fx.block(c:Fx)(x:aV)(sc:cL)(C:bf)(m:aV->Option ar)(loc:List J):Fx:=
 {env:=compEnvC sc (iN c.env sc.names []) C c.env,V:=gk c.V x sc,held:=(c.env.locals,Hd.ns m)::c.held,envs:=c.envs,hand:=c.hand,lo:=c.V.top,low:=loc}
theorem GS(C:fB c A):Ir sc c.V.scope=relabel sc c.env:=by unfold Ir relabel f6;rw[C.scope]
noncomputable def Pt(k:dr):dr:=match k with
 |.free=>.cell
 |k=>k
theorem nO(C:fB c A)(O:rn c.V x sc){y:aV}:(gk c.V x sc).scope.names.lookup y=(sc.names.lookup y).map Pt:=by refine qi.trans ?_;induction q:sc.names.lookup y with
 |none=>rfl
 |some k=>
  have hkf:c.V.scope.kind=.function:=by exact C.scope▸C.kind
  refine congrArg Y ?_
  by_cases z:k=.free
  ·subst z
   rw[(O.free _ (mem_of_lookup q) U).1,hkf];rfl
  ·dsimp only
   rw[if_neg λh=>z (by rw[ax,ax]at h;exact eq_of_beq h.1.1)];induction k<;>first|rfl|exact absurd U z
inductive GH(c:Fx)(x:aV)(sc:cL)(y:aV)(i:Nat):Prop where
 |own (e:y=x) (h:i=c.V.top) (k:sc.names.lookup y=Y .local):GH c x sc y i
 |out (k:sc.names.lookup y=Y .free) (k2:c.V.scope.names.lookup y=Y .cell) (h:eE c.V y=Y i):GH c x sc y i
theorem gS(C:fB c A)(O:rn c.V x sc){y:aV}{i:Nat}(h:eE (gk c.V x sc) y=Y i):GH c x sc y i:=by
 have hvm:(gk c.V x sc).vm.lookup y=if(y==x)=S then Y c.V.top else c.V.vm.lookup y:=by show List.lookup y ((x,c.V.top)::c.V.vm)=_;rw[List.lookup_cons];cases y==x<;>rfl
 unfold eE at h;replace h:=hvm▸(nO C O)▸h;induction q:sc.names.lookup y with
 |none=>replace h:=q▸h;exact nS h
 |some k=>
  replace h:=q▸h
  by_cases k1:k=.local
  ·subst k1
   obtain⟨p1,p2⟩:=O.loc _ (mem_of_lookup q) rfl;have h:(if(y==x)=S then Y c.V.top else c.V.vm.lookup y)=Y i:=h
   by_cases z:y=x
   ·replace h:=(if_pos (beq_iff_eq.mpr z))▸h
    exact .own z (aQ h).symm q
   ·replace h:=(p1.resolve_left z)▸(if_neg λe=>z (eq_of_beq e))▸h;exact nS h
  ·by_cases k2:k=.free
   ·subst k2
    obtain⟨p1,p2⟩:=O.free _ (mem_of_lookup q) rfl;have h:(if(y==x)=S then Y c.V.top else c.V.vm.lookup y)=Y i:=h;replace h:=(if_neg λe=>p2 (eq_of_beq e))▸h;refine .out q p1 ?_;unfold eE;exact p1▸h
   ·induction k with
    |«local»=>exact absurd U k1
    |free=>exact absurd U k2
    |cell=>exact(O.nocell _ (mem_of_lookup q) U).elim
    |_=>exact nS h
theorem fB.block(C:fB c A)(O:rn c.V x sc){C':bf}{m:aV->Option ar}{loc:List J}:fB (c.block x sc C' m loc) A where
 scope:=(GS C).symm
 kind:=O.kind
 glob:=C.glob
 bi:=C.bi
 inj:=λy z i h1 h2=>by cases gS C O h1 with
  |own a b _=>cases gS C O h2 with
   |own a' b' _=>exact a▸a'▸rfl
   |out _ _ b'=>exact(Nat.lt_irrefl _ (b▸C.top _ _ b')).elim
  |out _ _ b=>cases gS C O h2 with
   |own a' b' _=>exact(Nat.lt_irrefl _ (b'▸C.top _ _ b)).elim
   |out _ _ b'=>exact C.inj _ _ _ b b'
 nd:=λy i h=>by cases gS C O h with
  |own a b q=>exact O.nd _ (mem_of_lookup q)
  |out q _ b=>exact O.nd _ (mem_of_lookup q)
 frames:=C.frames
 envs:=λe he=>let⟨k,L,a,b⟩:=C.envs e he;⟨k,L,a,.inr (b.elim (λq=>⟨m,q▸.head _⟩) λ⟨m',hm⟩=>⟨m',.tail _ hm⟩)⟩
 hand:=C.hand
 top:=λy i h=>by show i<c.V.top+1;cases gS C O h with
  |own a b _=>exact b▸Nat.lt_succ_self _
  |out _ _ b=>exact Nat.lt_succ_of_lt (C.top _ _ b)
 cells:=λy hy=>by
  have hy':(gk c.V x sc).scope.names.lookup y=Y .cell:=hy;replace hy':=(nO C O)▸hy';obtain⟨k,hk,e⟩:=aP.mp hy';have:k=.free:=by induction k<;>first|rfl|(exact(O.nocell _ (mem_of_lookup hk) U).elim)|cases e
  subst this;show((iN c.env sc.names []).lookup y).isSome=S;rw[mB [] (mem_of_lookup hk)];rfl
 lotop:=Nat.le_succ _
 lo:=λy i h=>by obtain⟨h1,h2⟩:=eM h;cases gS C O h1 with
  |own a b _=>exact Nat.le_of_eq b.symm
  |out q q2 b=>have h2':(gk c.V x sc).scope.names.lookup y=Y .local:=h2;replace h2':=q▸(nO C O)▸h2';cases h2'
theorem dB.block(R:dB T W c σ ρ h)(C:fB c A)(O:rn c.V x sc){m:aV->Option ar}(F:Fr W.h0 c.env.locals h m)(L:pR c ρ σ.loc m)(hn:h'.Ns h.objs.size (λ_=>cV))(k:h.StaysIn h')(hu:σ.loc[c.V.top]?=Y .unb):
  dB T W (c.block x sc h.objs.size m σ.loc) σ ρ h':=by
 have hcl:c.env.locals<h.objs.size:=F.ns.lt;refine⟨⟨_,⟨hn,λb o e=>k b o (F.keep b o e),Nat.le_trans F.above (Nat.le_of_lt hcl)⟩,λy i v e1 e2 e3=>?_⟩,R.len,λi o as e1 e2=>(R.obs i o as e1 e2).same (List.prefix_refl _) λa _ ob e=>k a ob e,λp hp=>?_,?_,λb hb=>?_,R.hand,λ_ _=>rfl⟩
 ·cases gS C O e1 with
  |own a b _=>subst b;replace e2:=hu▸e2;obtain rfl:=sI e2;exact(e3 U).elim
  |out q q2 b=>cases L y i v b e2 e3 with
   |loc k _ _ _=>replace k:=q2▸k;cases k
   |cell _ ca u h1 h2 h3=>exact .cell (.inl (by show(gk c.V x sc).scope.names.lookup y=_;rw[nO C O,q];rfl)) ca u (by show(iN c.env sc.names []).lookup y=_;rw[mB [] (mem_of_lookup q),h1];rfl) (.tail _ h2) h3
 ·rcases List.mem_cons.mp hp with rfl|hp
  ·exact .ns (vR F.ns k)
  ·exact(R.held p hp).same λob e=>k _ ob e
 ·refine List.nodup_cons.mpr ⟨λhm=>?_,R.nd⟩
  rcases List.mem_cons.mp hm with q|q
  ·exact Nat.ne_of_gt hcl q
  ·exact Nat.lt_irrefl _ (R.fresh _ q).2
 ·rcases List.mem_cons.mp hb with rfl|hb
  ·obtain⟨o,_,_,ho,_⟩:=F.ns
   refine⟨?_,cz (k _ _ ho)⟩;induction q:W.h0.get? c.env.locals with
   |none=>rfl
   |some o=>exact absurd (cz q) (Nat.not_lt.mpr F.above)
  ·obtain⟨o,ho⟩:=R.live hb
   exact⟨(R.fresh b hb).1,cz (k b o ho)⟩
theorem dB.unblock{C':bf}{m:aV->Option ar}(R':dB T W (c.block x sc C' m σ.loc) σ' ρ' h')(R:dB T W c σ ρ h)(C:fB c A)(hp:ρ<+:ρ')(L:pR c ρ σ.loc m):dB T W c σ' ρ' h':=by obtain⟨m2,F2,L2⟩:=R'.fr;obtain⟨_,F,_⟩:=R.fr;have fz':∀i,i<c.V.top->σ'.loc[i]?=σ.loc[i]?:=R'.frz;cases R'.held (c.env.locals,Hd.ns m) (.head _)with
 |ns hns=>refine⟨⟨m,⟨hns,F2.keep,F.above⟩,λy i v e1 e2 e3=>?_⟩,R'.len,R'.obs,λp hp=>R'.held p (.tail _ hp),(List.nodup_cons.mp R'.nd).2,λb hb=>R'.fresh b (.tail _ hb),R'.hand,λi hi=>(fz' i (Nat.lt_of_lt_of_le hi C.lotop)).trans (R.frz i hi)⟩;rw[fz' i (C.top y i e1)]at e2;exact(L y i v e1 e2 e3).mono hp
theorem dB.setTop(R:dB T W c σ ρ h)(C:fB c A)(v:J):dB T W c {σ with loc:=σ.loc.set c.V.top v} ρ h:=by obtain⟨m,F,L⟩:=R.fr;refine⟨⟨m,F,λy i w e1 e2 e3=>?_⟩,R.len,R.obs,R.held,R.nd,R.fresh,R.hand,λi hi=>(List.getElem?_set_ne (Nat.ne_of_gt (Nat.lt_of_lt_of_le hi C.lotop))).trans (R.frz i hi)⟩;exact L y i w e1 ((List.getElem?_set_ne (Nat.ne_of_gt (C.top y i e1))).symm.trans e2) e3
theorem vJ(C:fB c A)(O:rn c.V x sc):cx (gk c.V x sc) x=Y c.V.top:=by unfold cx;rw[nO C O,O.hx];show List.lookup x ((x,c.V.top)::c.V.vm)=_;rw[List.lookup_cons,beq_self_eq_true]
inductive yK(K:Cx):List Expr->Option (M Bool)->Prop where
 |nil:yK K [] .none
 |one {e:Expr} {t:M Bool} (i:mj K e t):yK K [e] (Y t)
theorem Re{ifs:List Expr}{cond:Option (M Bool)}(i:yK K ifs cond):aX K ρ (PW K (forIn ifs S λe r=>if r=S then do let ok<-PySem.isTrue e K.c.env (rV e K.c.env);pure (eG ok)else pure (eG r))) (cond.getD (M.ret S)) Bv:=by induction i with
 |nil=>exact(iH S λ_=>rfl).pre λQ E s h=>by rw[List.forIn_nil];exact aL h
 |one i=>
  refine(i ρ).pre λQ E s h=>?_
  ·show bY _ _ _ _ _ _
   rw[List.forIn_cons,if_pos rfl];exact ay (ay (bu h (λb s h=>aL (by dsimp only;rw[List.forIn_nil];exact aL h)) λ_ _ x=>x))
end
section
open PySem PySem.W PySem.Calls PyProof.Rows
variable{T:aT}{W:Wd}{c:Fx}{A:ch}{K:Cx}{σ σ':St}{ρ ρ':cM}{s s₁:aF}{E:ar->aF->Prop}{X:Nat->St->Prop}{h h':cT}{pos:da}{aj:bf}{x:aV}{sc:cL}
structure Dh(K:Cx)(x:aV)(sc:cL)(elt iter:Expr)(ifs:List Expr)(me:M J)(mi:M It)(cond:Option (M Bool)):Prop where
 O:rg K.c.V x sc=S
 set:j5 iter=I
 i:yb K iter mi
 e:∀c',fB c' K.A->c'.V=gk K.c.V x sc->b8 (K.to c' K.A) elt me
 f:∀c',fB c' K.A->c'.V=gk K.c.V x sc->yK (K.to c' K.A) ifs cond
inductive Yk(K:Cx)(s:aF)(ρ0:cM)(b:Fx)(aj:bf)(tn:It->M (Sum It J))(P:J->St->Prop)(n:Nat)(s':aF):Prop where
 |mk (σ':St) (ρ':cM) (h':cT) (tk:Nat) (q:It) (e:s'=eH s h' tk) (ht:0<tk) (hp:ρ0<+:ρ') (hr:(K.to b K.A).R σ' ρ' h') (f:ng K.W b ρ' aj) (x:vI K.W ρ' h' q aj) (hw:kH P (λ_ _=>False) (kS tn n q σ')):Yk K s ρ0 b aj tn P n s'
theorem Mc{F:Cx}{l:Nat}{ak:bf}{t':It}{v:J}{u:ar}{P:Sum It J->St->Prop}{Q:ar->aF->Prop}(hr:F.R σ ρ s.heap)(hD:ρ[l]?=Y [ak])(hv:RV ρ v u)
  (hw:kH P (λ_ _=>False) ((gL l λxs=>gd (Nat.blt xs.length cj) ((u7 l (.list (xs++[v]))).bind λ_=>M.ret (.inl t'))) σ)) (H:∀σ' h',P (.inl t') σ'->F.R σ' ρ h'->Q .none (eH s h' s.toks)):PW F (call (.builtin "list.append") [.ref ak,u]) Q E s:=by
 obtain⟨xs,e1,hw⟩:=NG hw;induction q:Nat.blt xs.length cj with
 |false=>replace hw:=q▸hw;exact hw.elim
 |true=>replace hw:=q▸hw;obtain⟨vs,k,g1,l1,_⟩:=hr.list e1 hD;exact append_at g1 (λh' hs g=>H _ h' hw (hr.upd hD (.head _) hs (.list (vs:=vs++[u]) (n:=k+1) (by rw[g,List.push_toArray]) (l1.append (.cons hv .nil))))) (by exact List.size_toArray▸l1.length▸cP▸Nat.le_of_lt (Nat.le_of_ble_eq_true q))
theorem EZ{b:Fx}{slot l n0:Nat}{ak:bf}{elt iter:Expr}{px:da}{ifs:List Expr}{me:M J}{cond:Option (M Bool)}{q0:It}{P:J->St->Prop}{R:Result->aF->Prop}(C:fB b K.A)(hh:K.A.handled=cV)(hx:cx b.V x=Y slot)
  (ie:∀p,b8 (K.to (b.hold p) K.A) elt me) (ic:∀p,yK (K.to (b.hold p) K.A) ifs cond) (hr:(K.to b K.A).R σ ρ h) (f:ng K.W b ρ aj) (xI:vI K.W ρ h q0 aj) (hD:ρ[l]?=Y [ak]) {tk:Nat} (ht:0<tk)
  (hw:kH P (λ_ _=>False) (kS (kR me slot (cond.getD (M.ret S)) l) n0 q0 σ))
  (fin:∀v σ' ρ' h' tk,P v σ'->ρ<+:ρ'->(K.to b K.A).R σ' ρ' h'->0<tk->R (.ok .next) (eH s h' tk)):
  oW (cB K.W.prog K.W.w) K.A (.compLoop (.ListComp elt [⟨.Name x px,iter,ifs,0⟩] sc pos) 0 (.ref aj) (.ref ak) b.env) R (eH s h tk):=by
 refine codeAny_compLoop_tests (Yk K s ρ b aj (kR me slot (cond.getD (M.ret S)) l) P) ?_ n0 ⟨σ,ρ,h,tk,q0,U,ht,List.prefix_refl _,hr,f,xI,hw⟩;rintro n _ ⟨σ1,ρ1,h1,tk1,q1,rfl,ht1,hp1,hr1,f1,x1,hw1⟩;induction n with
 |zero=>exact hw1.elim
 |succ n=>
  refine cq (n:=1) ht1 (wj (K:=K.to b K.A) (s:=eH s h1 tk1) hh hr1 f1 x1 (cg (cg hw1)) ⟨λhN h2 hr2 _=>fin _ _ ρ1 h2 tk1 hN hp1 hr2 ht1,λv q2 u h2 tk2 hN hv hr2 x2 ht2=>?_⟩);obtain⟨o,_,_,ho,_⟩:=x2.obj;have back:∀{σ':St}{ρ':cM}{h':cT}{tk':Nat},ρ1<+:ρ'->(K.to (b.hold (aj,.obj o)) K.A).R σ' ρ' h'->0<tk'->kH P (λ_ _=>False) (kS (kR me slot (cond.getD (M.ret S)) l) n q2 σ')->∃m,m<n+1/\Yk K s ρ b aj (kR me slot (cond.getD (M.ret S)) l) P m (eH s h' tk'):=λhp hr' ht' hw'=>by obtain⟨f5,ho5⟩:=hr'.heldFree;exact⟨n,Nat.lt_succ_self n,_,_,_,_,q2,U,ht',hp1.trans hp,hr'.unhold (λ_ q=>by cases q),f5,x2.keep hp (λo' e=>by rw[ho]at e;exact(sI e)▸ho5),hw'⟩
  refine gB (lW (K:=K.to (b.hold (aj,.obj o)) K.A) (C.hold _) hx (λ_=>hv) σ1 ρ1 (eH s h2 tk2) (List.prefix_refl _) (hr2.hold f1 ho) ht2 _ _ (cE (cg hN) (λ_ σ3 hP3 ρ3 h3 tk3 _ hp3 hr3 _ ht3=>?_) λ_ _ x=>x.elim));refine Re (ic (aj,.obj o)) (ρ:=ρ3) σ3 ρ3 (eH s h3 tk3) (List.prefix_refl _) hr3 ht3 _ _ (cE (cg hP3) (λt σ4 hP4 ρ4 h4 tk4 t' hp4 hr4 ht' ht4=>?_) λ_ _ x=>x.elim);subst ht';induction t with
  |false=>exact back (hp3.trans hp4) hr4 ht4 hP4
  |true=>refine(if_pos U)▸?_;refine ie (aj,.obj o) ρ4 σ4 ρ4 (eH s h4 tk4) (List.prefix_refl _) hr4 ht4 _ _ (cE (cg (show M.wp (me.bind λv=>gL l λxs=>gd (Nat.blt xs.length cj) ((u7 l (.list (xs++[v]))).bind λ_=>M.ret (Sum.inl q2))) σ4 _ _ from hP4)) (λv5 σ5 hP5 ρ5 h5 tk5 u5 hp5 hr5 hv5 ht5=>?_) λ_ _ x=>x.elim);exact Mc (F:=K.to (b.hold (aj,.obj o)) K.A) (s:=eH s h5 tk5) hr5 (b5 (((hp1.trans hp3).trans hp4).trans hp5) hD) hv5 hP5 λσ6 h6 hP6 hr6=>back ((hp3.trans hp4).trans hp5) hr6 ht5 hP6
theorem wc(F:Fc K){elt iter:Expr}{px:da}{ifs:List Expr}{me:M J}{mi:M It}{cond:Option (M Bool)}(ad:Dh K x sc elt iter ifs me mi cond)
  {use:Option (ar->o7 Unit)} {P:J->St->Prop} {Q:ar->aF->Prop} {w1:o7 ar} {pos2:da} (hr:K.R σ ρ s.heap) (ht:0<s.toks) (hw:kH P (lQ K ρ s E) (kT me K.c.V.top mi cond σ))
  (hev:w1=comprehension (.ListComp elt [⟨.Name x px,iter,ifs,0⟩] sc pos) sc K.c.env pos2 (newList []) I (rV iter K.c.env) use)
  (fin:∀(v:J)(σ':St)(ρ':cM)(h':cT)(tk:Nat)(ak Cc:bf)(mC:aV->Option ar),P v σ'->ρ<+:ρ'->K.R σ' ρ' h'->RV ρ' v (.ref ak)->ng K.W K.c ρ' Cc->h'.Ns Cc mC->0<tk->compPost (cB K.W.prog K.W.w) K.A E use Q (.ref ak) Cc (.ok .next) (eH s h' tk)):
  PW K w1 Q E s:=by
 have C:=F.C;have O:=D4 ad.O;obtain⟨vy,hw⟩:=oI (cg hw);have hh:=C.hand (by exact hr.hand▸vy▸rfl);rw[hev];refine wpAny_comprehension_free (g:=⟨.Name x px,iter,ifs,0⟩) (gs:=[]) (cl:=iN K.c.env sc.names []) (use:=use) U (wH ad.set K.c.env) (An λp hp q=>C.cells _ (O.free p hp q).1) O.kind (λy hy q=>(O.loc y hy q).2) ?_;refine ad.i σ ρ s _ _ hr ht (cE (cg hw) (λq0 σ0 hP ρ0 h0 tk0 aj hp0 hr0 f0 x0 ht0=>?_) λ_ _ x=>x);have hP:kH P (lQ K ρ s E) (((cb K.c.V.top .unb).bind λ_=>E2 ((kS (kR me K.c.V.top (cond.getD (M.ret S)) σ0.heap.length) ff q0).bind λ_=>M.ret (J.obj σ0.heap.length))) {σ0 with heap:=σ0.heap++[.list []]}):=hP;unfold newList;refine kZ (wpAny_newFunctionEnv O.nocell (by intro y hy;simp at hy) (λh₁ hns hsb=>?_) O.kind);dsimp only at hns hsb⊢;have hD:K.R {σ0 with heap:=σ0.heap++[.list []]} (ρ0++[[h0.objs.size]]) (h0.push {cls:=.type "list",dict:=cV,data:=.seq ([]:List ar).toArray}):=
  hr0.newPush _ (.list (vs:=[]) (n:=0) (bA _ U) .nil)
 have hDref:(ρ0++[[h0.objs.size]])[σ0.heap.length]?=Y [h0.objs.size]:=by rw[<-hr0.len];exact List.getElem?_concat_length
 have hSet:=hD.setTop C .unb;have hIlt:aj<h0.objs.size:=by obtain⟨o,_,_,ho,_⟩:=x0.obj;exact cz ho
 have hsz:=cT.size_push h0 {cls:=.type "list",dict:=cV,data:=.seq ([]:List ar).toArray};have kk:(h0.push {cls:=.type "list",dict:=cV,data:=.seq ([]:List ar).toArray}).StaysIn h₁:=λb o e=>hsb.extBut b o (Nat.ne_of_lt (cz e)) (cA _ e);have kI:m0 h0 h₁ aj:=λo e=>kk _ _ (cA _ e)
 generalize h0.push {cls:=.type "list",dict:=cV,data:=.seq ([]:List ar).toArray}=H1 at*
 induction q:Nat.blt K.c.V.top σ0.loc.length with
 |false=>
  have e:cb K.c.V.top .unb {σ0 with heap:=σ0.heap++[.list []]}=.stuck:=by unfold cb;rw[q];rfl
  have hP:=cg hP;rw[M.wp,e]at hP;exact hP.elim
 |true=>
  have e:cb K.c.V.top .unb {σ0 with heap:=σ0.heap++[.list []]}=.ok () {loc:=σ0.loc.set K.c.V.top .unb,heap:=σ0.heap++[.list []],hand:=σ0.hand}:=by unfold cb;rw[q];rfl
  have hP:=cg hP;rw[M.wp,e]at hP;have hP:=cg (ue hP);obtain⟨m,F1,L1⟩:=hSet.fr;have hB:=hSet.block (h':=h₁) (x:=x) (sc:=sc) C O F1 L1 hns kk (List.getElem?_set_self (Nat.le_of_ble_eq_true q));have fI:ng K.W (K.c.block x sc H1.objs.size m (σ0.loc.set K.c.V.top .unb)) (ρ0++[[h0.objs.size]]) aj:=by
   refine⟨λhm=>?_,?_,f0.h0⟩
   ·rcases List.mem_cons.mp hm with q|q
    ·exact f0.loc q
    ·have q:aj∈addrs K.c (ρ0++[[h0.objs.size]]):=q
     have e:addrs K.c (ρ0++[[h0.objs.size]])=addrs K.c ρ0++[h0.objs.size]:=by simp[addrs]
     rw[e]at q;rcases List.mem_append.mp q with q|q
     ·exact f0.addrs q
     ·rw[List.mem_singleton.mp q]at hIlt;exact Nat.lt_irrefl _ hIlt
   ·show aj≠H1.objs.size
    rw[hsz];exact Nat.ne_of_lt (Nat.lt_succ_of_lt hIlt)
  have xI:vI K.W (ρ0++[[h0.objs.size]]) h₁ q0 aj:=x0.keep (List.prefix_append _ _) kI;have hCB:=C.block (C':=H1.objs.size) (m:=m) (loc:=σ0.loc.set K.c.V.top .unb) O;have hpp0:ρ<+:ρ0++[[h0.objs.size]]:=hp0.trans (List.prefix_append _ _);have loop:∀tk,0<tk->oW (cB K.W.prog K.W.w) K.A (.compLoop (.ListComp elt [⟨.Name x px,iter,ifs,0⟩] sc pos) 0 (.ref aj) (.ref h0.objs.size) (compEnvC sc (iN K.c.env sc.names []) H1.objs.size K.c.env))
    (compPost (cB K.W.prog K.W.w) K.A E use Q (.ref h0.objs.size) H1.objs.size) (eH s h₁ tk):=λtk htk=>
   EZ (K:=K) (x:=x) (sc:=sc) (b:=K.c.block x sc H1.objs.size m (σ0.loc.set K.c.V.top .unb)) (slot:=K.c.V.top) hCB hh (vJ C O) (λp=>ad.e _ (hCB.hold p) U) (λp=>ad.f _ (hCB.hold p) U) hB fI xI hDref htk hP λv σ' ρ' h' tk hN hp hr2 ht2=>by
    obtain⟨mC,FC,_⟩:=hr2.fr;have hun:=hr2.unblock hSet C hp L1;obtain⟨n1,n2⟩:=List.nodup_cons.mp hr2.nd;have fC:ng K.W K.c ρ' H1.objs.size:=⟨λq=>n1 (.tail _ q),λq=>n1 (q▸.head _),by induction q:K.W.h0.get? H1.objs.size with
     |none=>rfl
     |some o=>exact absurd (cz q) (Nat.not_lt.mpr FC.above)⟩
    exact fin _ _ ρ' h' tk h0.objs.size H1.objs.size mC hN (hpp0.trans hp) hun (.obj (b5 hp hDref)) fC FC.ns ht2
  exact codeAny_compStart_list (loop _ ht0) (EV (K:=K) (s:=eH s h₁ _) xI (loop _ ht0))
theorem IW(F:Fc K){elt iter:Expr}{px:da}{ifs:List Expr}{me:M J}{mi:M It}{cond:Option (M Bool)}(ad:Dh K x sc elt iter ifs me mi cond):
  b8 K (.ListComp elt [⟨.Name x px,iter,ifs,0⟩] sc pos) (kT me K.c.V.top mi cond):=λ_ σ ρ s _ hr ht Q E hw=>
 wc (use:=cV) F ad hr ht hw (arm_eval_ListComp ..) λv σ' ρ' h' tk ak Cc mC hP hp hr' hv fC hn ht'=>⟨mC,hn,λh3 hs3=>hP ρ' h3 tk _ hp (hr'.ext fC hs3.extBut) hv ht'⟩
theorem AR{P:Unit->St->Prop}{X X':Nat->St->Prop}{i:Nat}{v:J}(h:kH P X (cb i v σ)):kH P X' (cb i v σ):=by induction q:Nat.blt i σ.loc.length with
 |true=>
  have e:cb i v σ=.ok () {σ with loc:=σ.loc.set i v}:=by unfold cb;rw[q];rfl
  rw[e]at h⊢;exact h
 |false=>
  have e:cb i v σ=.stuck:=by unfold cb;rw[q];rfl
  rw[e]at h;exact h.elim
theorem D8(F:Fc K){y:aV}{i:Nat}{py:da}{elt iter:Expr}{px spos:da}{ifs:List Expr}{me:M J}{mi:M It}{cond:Option (M Bool)}(ad:Dh K x sc elt iter ifs me mi cond)
  (hy:cx K.c.V y=Y i) (hsw:rX (.ListComp elt [⟨.Name x px,iter,ifs,0⟩] sc pos) (Y (.Name y py)) spos.line K.c.env=pure S):
  lV K (.Assign [.Name y py] (.ListComp elt [⟨.Name x px,iter,ifs,0⟩] sc pos) spos) (sAsg (bd i) (kT me K.c.V.top mi cond)):=λ_ σ ρ s _ hr ht Q E hw=>by
 show bY _ _ _ _ _ _;refine(exec_Assign_Name_used _ _ _ _ hsw)▸?_;refine ay (cX (ay ?_));show bY _ K.A (do let _<-comprehension (.ListComp elt [⟨.Name x px,iter,ifs,0⟩] sc pos) sc K.c.env _ (newList []) I (rV iter K.c.env) (Y (iP (.Name y py) K.c.env))) _ _ s;refine ay (bu (wc (use:=Y (iP (.Name y py) K.c.env)) (Q:=λ_ s'=>Q .next s') F ad hr ht (cg hw) U λv σ' ρ' h' tk ak Cc mC hP hp hr' hv fC hn ht'=>?_) (λ_ s' hq=>aL (aL hq)) λ_ _ z=>z);obtain⟨o,es,ep,ho,hn2⟩:=id hn;show bY _ K.A (iP (.Name y py) K.c.env (.ref ak)) _ _ _;refine gB (lW (K:=K.to (K.c.hold (Cc,.obj o)) K.A) (F.C.hold _) hy (λ_=>hv) σ' ρ' (eH s h' tk) (List.prefix_refl _) (hr'.hold fC ho) ht' _ _ (AR (X:=λ_ _=>True) (cE (cg hP) (λ_ σ3 hP3 ρ3 h3 tk3 _ hp3 hr3 _ ht3=>?_) λ_ _ _=>trivial)))
 ·obtain⟨f3,ho3⟩:=hr3.heldFree
  have hr4:=hr3.unhold (λ_ q=>by cases q);exact⟨mC,⟨o,es,ep,ho3,hn2⟩,λh5 hs5=>hP3 ρ3 h5 tk3 .next (hp.trans hp3) (hr4.ext f3 hs5.extBut) .nxt ht3⟩
end
section
open PySem PySem.W PySem.Calls PyProof.Rows
variable{T:aT}{W:Wd}{c:Fx}{A:ch}{K:Cx}{σ σ':St}{ρ ρ':cM}{s s₁:aF}{E:ar->aF->Prop}{h h':cT}{x:Nat}{e:ar}
theorem EH{l:List (bf×Hd)}(n:(l.map (·.1)).Nodup){p q:bf×Hd}(hp:p∈l)(hq:q∈l)(e:p.1=q.1):p=q:=by induction l with
 |nil=>cases hp
 |cons a r ih=>
  obtain⟨n1,n2⟩:=List.nodup_cons.mp n;rcases List.mem_cons.mp hp with rfl|hp
  ·rcases List.mem_cons.mp hq with rfl|hq
   ·rfl
   ·exact(n1 (by dsimp only;exact e▸List.mem_map_of_mem hq)).elim
  ·rcases List.mem_cons.mp hq with rfl|hq
   ·exact(n1 (by dsimp only;exact e▸List.mem_map_of_mem (by assumption))).elim
   ·exact ih n2 hp hq
theorem pF(C:fB c A){b:bf}(hb:b∈c.envs.filterMap (·.frame)):b=c.env.locals\/∃m,(b,Hd.ns m)∈c.held:=by obtain⟨e,he,q⟩:=List.mem_filterMap.mp hb;obtain⟨_,L,h1,h2⟩:=C.envs e he;rw[h1]at q;exact(sI q)▸h2
theorem dB.slots(R:dB T W c σ ρ h)(C:fB c A)(hs:cT.SlotsOnly (c.envs.filterMap (·.frame)) h h'):dB T W c σ ρ h':=by
 obtain⟨m,F,L⟩:=R.fr;obtain⟨n1,n2⟩:=List.nodup_cons.mp R.nd;obtain⟨n3,_,n4⟩:=List.nodup_append.mp n2;have out:=hs.2.1;have h0n:∀b,b∈c.envs.filterMap (·.frame)->W.h0.get? b=cV:=λb hb=>by
  rcases pF C hb with rfl|⟨m',hm⟩
  ·induction q:W.h0.get? c.env.locals with
   |none=>rfl
   |some o=>exact absurd (cz q) (Nat.not_lt.mpr F.above)
  ·exact(R.fresh _ (km hm)).1
 have nst:∀a m',h.Ns a m'->h'.Ns a m':=λa m' x=>by obtain⟨o,es,ep,ho,r⟩:=x;obtain⟨sl,hsl⟩:=hs.2.2 a o ho;exact⟨_,es,ep,hsl,r⟩
 refine⟨⟨m,⟨nst _ _ F.ns,λb o e=>(out b λhm=>by rw[h0n b hm]at e;exact nS e).trans (F.keep b o e),F.above⟩,L⟩,R.len,λi o as e1 e2=>(R.obs i o as e1 e2).same (List.prefix_refl _) λa ha ob q=>(out a λhm=>?_).trans q,λp hp=>?_,R.nd,
  R.freshAt λb hb=>let⟨o,ho⟩:=R.live hb;let⟨sl,hsl⟩:=hs.2.2 b o ho;⟨_,hsl⟩,R.hand,R.frz⟩
 ·rcases pF C hm with rfl|⟨m',hm'⟩
  ·exact n1 (fW e2 ha)
  ·exact n4 a (List.mem_map_of_mem (f:=(·.1)) hm') a (List.mem_flatten.mpr ⟨as,List.mem_of_getElem? e2,ha⟩) rfl
 ·obtain⟨pa,pd⟩:=p
  cases R.held _ hp with
  |ns x=>exact .ns (nst _ _ x)
  |cell o g d=>obtain⟨sl,hsl⟩:=hs.2.2 _ o g;exact .cell _ hsl d
  |obj g=>
   refine .obj ((out pa λhm=>?_).trans g);rcases pF C hm with e|⟨m',hm'⟩
   ·exact n1 (e▸km hp)
   ·cases EH n3 hp hm' rfl
theorem w7(R:dB T W c σ ρ h)(C:fB c A):h.FunFrames W.h0 c.envs:=by
 have key:∀l:List pv,(∀e∈l,e∈c.envs)->h.FunFrames W.h0 l:=by intro l;induction l with
  |nil=>intro _;trivial
  |cons e r ih=>
   intro hl;obtain⟨k,L,h1,h2⟩:=C.envs e (hl e (.head _));have ns:∃m,h.Ns L m/\W.h0.get? L=cV:=by
    rcases h2 with rfl|⟨m',hm⟩
    ·obtain⟨m,F,_⟩:=R.fr
     refine⟨m,F.ns,?_⟩;induction q:W.h0.get? c.env.locals with
     |none=>rfl
     |some o=>exact absurd (cz q) (Nat.not_lt.mpr F.above)
    ·cases R.held _ hm with
     |ns x=>exact⟨m',x,(R.fresh _ (km hm)).1⟩
   obtain⟨m,⟨o,es,ep,ho,hd,_⟩,hn⟩:=ns;exact⟨by rw[k];decide,⟨L,o,h1,hn,ho,λvs q=>by replace q:=hd▸q;cases q⟩,ih λx hx=>hl x (.tail _ hx)⟩
 exact key c.envs λ_ he=>he
theorem zP{i:Nat}{o:AO}(e:σ.heap[i]?=Y o):{σ with heap:=σ.heap.set i o}=σ:=by obtain⟨hl,rfl⟩:=List.getElem?_eq_some_iff.mp e;rw[List.set_getElem_self]
section
variable{P P':ar->Prop}{a:bf}{u:ar}
theorem xk.mono(x:xk h a P)(f:∀u,P u->P' u):xk h a P':=let⟨o,vs,g,d,u,k,p⟩:=x;⟨o,vs,g,d,u,k,f _ p⟩
theorem kU.mono{P P':bf->Prop}(y:kU K σ ρ x e h P)(f:∀a,P a->P' a):kU K σ ρ x e h P':=let⟨r,a,q,C,fd,h1,h2,h3,p⟩:=y;⟨r,a,q,C,fd,h1,h2,h3,f _ p⟩
theorem kU.full(y:lS K σ ρ x e h):Bh K σ ρ x e h:=y.mono λ_ f=>f.mono λ_=>.inr
theorem DV(R:dB T W c σ ρ h){t:bf}{ot:iS}{ts:Array ar}(g:h.get? t=Y ot)(d:ot.data=.fields ts):t≠c.env.locals:=λq=>by obtain⟨m,F,_⟩:=R.fr;obtain⟨o,es,ep,ho,hd,_⟩:=F.ns;replace ho:=g▸q▸ho;obtain rfl:=sI ho;replace hd:=d▸hd;cases hd
end
noncomputable abbrev lk(i:Nat)(v:ar):iS->iS:=iS.mapFields (·.setIfInBounds i v)
theorem dB.tb(R:dB T W c σ ρ h){t:bf}{ot:iS}{ts:Array ar}(g:h.get? t=Y ot)(d:ot.data=.fields ts)(n:t∉addrs c ρ)(f:W.h0.get? t=cV)(f':iS->iS):dB T W c σ ρ (h.update t f'):=
 R.ext ⟨n,DV R g d,f⟩ (dw ..).extBut
theorem m5.setField{C:Nat}{b:Bool}{fd:Option Nat}{a:bf}{r:List bf}(X:m5 ρ h C b fd a r)(v:ar):m5 ρ (h.update a (lk 1 v)) C I fd a r/\xk (h.update a (lk 1 v)) a (·=v):=by
 obtain⟨o,vs,nb,g,k,x,d,sl,z,e⟩:=X;have hnew:=dA (h:=h) (lk 1 v) g (iY (dD d _));have h1:(lk 1 v o).dict=o.dict/\(lk 1 v o).slots=o.slots:=by obtain⟨oc,od,odt,osl⟩:=o;cases d;exact⟨U,U⟩
 exact⟨⟨_,vs.setIfInBounds 1 v,(λq=>by exact nT q),hnew,(qQ ..).trans k,h1.1▸x,dD d _,h1.2.trans sl,by rw[lH];exact z,e⟩,
  _,_,hnew,dD d _,v,fS (Nat.lt_of_lt_of_le (by decide) z),U⟩
theorem ze(C:fB K.c K.A)(O:yi K.c){a:bf}{r:List bf}{Cl:Nat}{fs:Option Nat}{head:ar}{hadNext:Bool}{Q:Unit->aF->Prop}(hr:K.R σ ρ s.heap)(e1:ρ[x]?=Y (a::r))(e2:σ.heap[x]?=Y (.exn Cl I fs))
  (h:∀h',lS K σ ρ x (.ref a) h'->Q () (eH s h' s.toks)):
  PW K (do let f<-frameOf K.c.env;let pl<-entryPlaceOf K.c.env.locals hadNext;let b<-o9 head f .none (pY K.c.env.locals) .none pl;setField (.ref a) 1 b) Q E s:=by
 obtain⟨outer,ho⟩:=O.envs;refine ay (wpAny_frameOf_fun (base:=K.W.h0) (outer:=outer) (by exact C.frames▸ho▸rfl) (by exact ho▸w7 hr C) O.frame λh₁ hs₁=>?_);rw[<-ho]at hs₁;have hr1:=hr.slots C hs₁;refine ay (wpAny_entryPlaceOf λpl hpl=>?_);unfold o9 newFields;refine ay (kZ ?_ (hpl.sizeOk5 _ _ _ _ _))
 generalize hTo:({cls:=.type "traceback",dict:=cV,data:=.fields ([head,.ref K.c.env.locals,.none,pY K.c.env.locals,.none]++(if pl.isEmpty then List.replicate 6 ar.none else pl)).toArray}:iS)=to
 have f2:=hr1.free;have hto:(h₁.push to).get? h₁.objs.size=Y to:=bA _ (by rw[<-hTo];rfl);have X:=(hr1.push to).exn e2 e1;have hta:h₁.objs.size≠a:=λq=>f2.addrs (q▸fW e1 (.head _));obtain⟨X3,ae⟩:=X.setField (.ref h₁.objs.size);have hr3:=(hr1.push to).upd e1 (.head _) (dw (h₁.push to) a (lk 1 (.ref h₁.objs.size))) (show rO K.T K.W ρ _ (.exn Cl I fs) (a::r)from X3);rw[zP e2]at hr3;obtain⟨o,vs,nb,g,k,xd,d,sl,z,e⟩:=X;exact kC g d (Nat.lt_of_lt_of_le (by decide) z) (h _ ⟨hr3,a,r,Cl,fs,U,e1,e2,ae.mono λu q=>⟨_,to,_,q,(jH _ _ _ _ hta).trans hto,by rw[<-hTo],f2.addrs,f2.h0,_,U,.inr U⟩⟩)
theorem w8(C:fB K.c K.A)(O:yi K.c){Q:Unit->aF->Prop}(hx:Bh K σ ρ x e s.heap)(k:∀h',lS K σ ρ x e h'->Q () (eH s h' s.toks)):PW K (noteFrame e K.c.env) Q E s:=by
 obtain⟨hr,a,r,Cl,fs,rfl,e1,e2,o,vs,h1,h2,u,h3,h4⟩:=hx;show bY _ _ _ _ _ _;unfold noteFrame;rw[O.frame];dsimp only;refine ay (jt h1 h2 h3 ?_);rcases h4 with rfl|⟨t,ot,ts,rfl,k2,k3,k4,k5,v,k6,k7⟩
 ·rw[if_neg (by decide)]
  exact ze C O hr e1 e2 k
 ·rw[if_pos (by rfl)]
  refine ay (jt k2 k3 k6 ?_);rcases k7 with rfl|rfl
  ·rw[if_neg (by simp[pY])]
   exact ay (kC k2 k3 (kD.mp k6).1 (ze (s:=eH s _ s.toks) C O (hr.tb k2 k3 k4 k5 _) e1 e2 k))
  ·rw[if_pos (beq_self_eq_true _)]
   exact aL (k s.heap ⟨hr,a,r,Cl,fs,U,e1,e2,o,vs,h1,h2,_,h3,t,ot,ts,U,k2,k3,k4,k5,_,k6,.inr U⟩)
theorem rK{fr:Option bf}{P:ar->Prop}{Q:Unit->aF->Prop}(hx:lS K σ ρ x e s.heap)(hP:P (fr.elim .none λf=>pY f))(k:∀h',kU K σ ρ x e h' (λa=>xk h' a (Ha K.W K.c ρ h' P))->Q () (eH s h' s.toks)):
  PW K (oX e fr) Q E s:=by
 obtain⟨hr,a,r,Cl,fs,rfl,e1,e2,o,vs,h1,h2,u,h3,⟨t,ot,ts,rfl,k2,k3,k4,k5,v,k6,k7⟩⟩:=hx;show bY _ _ _ _ _ _;unfold oX;refine ay (jt h1 h2 h3 ?_);rw[if_pos (by rfl)];have hlt:=(kD.mp k6).1;have hta:a≠t:=λq=>k4 (q▸fW e1 (.head _));exact kC k2 k3 hlt (k _ ⟨hr.tb k2 k3 k4 k5 _,a,r,Cl,fs,U,e1,e2,o,vs,(jH _ _ _ _ hta).trans h1,h2,_,h3,t,_,_,U,dA _ k2 (iY (dD k3 _)),dD k3 _,k4,k5,_,fS hlt,hP⟩)
theorem MV:CH T W:=λc A σ ρ s x e Q E C O ht hx h=>ay (w8 (K:=⟨T,W,c,A⟩) C O hx λh1 hx1=>rK (K:=⟨T,W,c,A⟩) (fr:=cV) (P:=λu=>u=.none) (s:=eH s h1 s.toks) hx1 U λh2 hx2=>h h2 s.toks hx2 ht)
theorem Ms:CB T W:=λc A σ ρ s x e E C O ht hx h=>w8 (K:=⟨T,W,c,A⟩) C O hx λh1 hx1=>h h1 s.toks hx1 ht
theorem Ru:Fo T W:=λc A σ ρ s x e E C O ht hx h=>by unfold cameBackBy;obtain⟨hr,a,r,Cl,fs,rfl,e1,e2,o,vs,h1,h2,u,h3,⟨t,ot,ts,rfl,k⟩⟩:=id hx;refine ay (jt h1 h2 h3 ?_);rw[if_neg (by simp),O.frame];exact rK (K:=⟨T,W,c,A⟩) (P:=λu=>u=.none\/u=pY c.env.locals) hx (.inr U) λh' hx'=>h h' s.toks (kU.full hx') ht
end
section
open PySem PySem.W PySem.Calls PyProof.Rows
variable{T:aT}{W:Wd}{c:Fx}{A:ch}{K:Cx}{σ σ':St}{ρ ρ':cM}{s s₁:aF}{E:ar->aF->Prop}{X:Nat->St->Prop}{h h':cT}{x:Nat}{e:ar}{pos:da}
structure YH(W:Wd)(C:Nat):Prop where
 base:pA W.K (.ref C) (.type "BaseException")=Y S
 ty:typeIn W.K (.ref C)=Y (.type "type")
 self:pA W.K (.ref C) (.ref C)=Y S
 cls:(clsIn W.K C).isSome=S
def Gx(T:aT)(W:Wd):Prop:=∀C,nk T C=S->YH W C
structure Fd(K:Cx):Prop extends Fc K where
 x:Gx K.T K.W
inductive ti(K:Cx)(E:ar->aF->Prop)(v:ar)(s:aF):Prop where
 |mk (hh:K.A.handled=cV) (a C:bf) (o:iS) (vs:Array ar) (ev:v=.ref a) (x:nk K.T C=S) (X:K.W.K.In s.heap) (g:s.heap.get? a=Y o) (k:o.cls=.ref C) (d:o.data=.fields vs) (n:vs[1]?=Y .none) (h:E (.ref a) s):ti K E v s
theorem HT(G:Gx K.T K.W){x:o7 ar}{Q:qP->aF->Prop}(hx:PW K x (λv s₁=>ti K E v s₁) E s):PW K (raiseStmt K.c.env (Y x) cV) Q E s:=by
 show bY _ _ _ _ _ _;unfold raiseStmt;refine ay (bu hx (λv s₁ h₁=>?_) λ_ _ x=>x);obtain⟨hh,a,C,o,vs,rfl,hC,XK,g1,g2,g4,g0,hE⟩:=h₁;obtain⟨q1,q2,_,_⟩:=G C hC;have ht:jq (cB K.W.prog K.W.w) s₁.heap (typeOf (.ref a)) (.ref C):=by refine(qR (part:=_) g1).andThen ?_;exact g2▸.now
 have hty:jq (cB K.W.prog K.W.w) s₁.heap (isType (.ref a)) I:=by unfold isType;refine(qR (part:=_) g1).andThen ?_;exact g4▸.now
 refine ay (aL (ay (bS ?_)));unfold excFromValue;refine ay ((show jq (cB K.W.prog K.W.w) s₁.heap (isExcClass (.ref a)) I from hty.andThen .now).here ?_);refine(if_neg em)▸?_;refine ay ((show jq (cB K.W.prog K.W.w) s₁.heap (kE (.ref a) (.type "BaseException")) S from ht.andThen (hJ XK q1)).here ?_);refine(if_pos U)▸?_;refine aL (ay (hty.here ?_));refine(if_neg em)▸?_;unfold raisedInstance;refine ay (ay (ht.here (ay ((looks_typeIn XK q2).here ?_))));rw[if_pos (by decide)];refine aL ?_;unfold oX;refine ay (ay (jt g1 g4 g0 ?_));rw[if_neg (by decide)];refine aL ?_;unfold raiseNew;refine ay (wpAny_handled ?_);refine hh▸?_
 first
  |exact wpAny_throw hE
  |exact ay (aL (wpAny_throw hE))
theorem FZ(F:Fc K){a:J}{va:ar}(ha:RV ρ a va):aX K ρ (λ(Q:qP->aF->Prop) E s=>ti K E va s)
  (ip.bind λ_=>nc a λi=>gX i λC b fd=>gd (b&&nk K.T C) λs=>.exc i {s with heap:=s.heap.set i (.exn C I fd)}) Fv:=λσ ρ' s hp hr ht Q E hw=>by
 obtain⟨vy,hw⟩:=oI (cg hw);have hh:=F.C.hand (by exact hr.hand▸vy▸rfl);refine aX.oObj (K:=K) (R:=Fv) (wv:=λv(Q:qP->aF->Prop) E s=>ti K E v s) (ha.mono hp) (λi c r e σ' ρ' s' hp' hr' ht'=>bB.gX λC b fd e1=>bB.gd λq Q E hw=>?_) σ ρ' s (List.prefix_refl _) hr ht Q E hw;obtain⟨rfl,hX⟩:=bN.mp q;have ea:=b5 hp' e;obtain⟨o,vs,nb,g,k,x,d,sl,z,rfl⟩:=hr'.exn e1 ea;have hr2:=hr'.updAt (h':=s'.heap) (o:=.exn C I fd) ea (.head _) (λm F=>F) (λ_ _ _ _ e=>e) (show rO K.T K.W ρ' s'.heap (.exn C I fd) [c]from(⟨o,vs,(λq=>by exact nT q),g,k,x,d,sl,z,U⟩:m5 ρ' s'.heap C I fd c []));exact⟨hh,c,C,o,vs,U,hX,F.g.X.keeps hr'.stays,g,k,d,nb U,hw ρ' s'.heap s'.toks (.ref c) (List.prefix_refl _) ⟨hr2,c,[],C,fd,U,ea,List.getElem?_set_self (List.getElem?_eq_some_iff.mp e1).1,o,vs,g,d,_,nb U,.inl U⟩ ht'⟩
theorem Ak(F:Fd K){e:Expr}{me:M J}(ie:b8 K e me):lV K (.Raise (Y e) .none pos) (wV K.T me):=λρ=>((ie ρ).bind λρ1 va a p1 ha=>FZ F.toFc ha).pre λQ E s h=>by show bY _ _ _ _ _ _;simp only[arm_exec_Raise];exact ay (cX (HT F.x (ay (bu h (λv s h=>ay (cX (aL h))) λ_ _ x=>x))))
theorem QK{b hd:M Fl}{C slot:Nat}{P:Fl->St->Prop}(hw:kH P X (xD b C slot hd σ)):kH P (λx s'=>kH P X (AP C slot hd x s')) (b σ):=by unfold xD at hw;induction e:b σ with
 |ok f s'=>rw[e]at hw;exact hw
 |exc x s'=>rw[e]at hw;exact hw
 |stuck=>rw[e]at hw;exact hw
noncomputable def Fx.handed(c:Fx)(b:Bool):Fx:={c with hand:=b}
theorem fB.handed(C:fB c A){v:ar}:fB (c.handed S) (A.mark (Y v)):=
 {scope:=C.scope,kind:=C.kind,glob:=C.glob,bi:=C.bi,inj:=C.inj,nd:=C.nd,frames:=C.frames,envs:=C.envs,hand:=(λq=>by exact nF q),top:=C.top,cells:=C.cells,lo:=C.lo,lotop:=C.lotop}
theorem LA.re{c c':Fx}{loc:List J}(x:LA W c loc ρ h)(hV:c'.V=c.V)(he:c'.env=c.env)(hh:∀p∈c.held,p∈c'.held):LA W c' loc ρ h:=by obtain⟨m,F,L⟩:=x;refine⟨m,by exact he▸F,λy i v a b d=>?_⟩;replace a:=hV▸a;cases L y i v a b d with
 |loc k u e r=>exact .loc (by exact hV▸k) u e r
 |cell k ca u e hd r=>exact .cell (by exact hV▸k) ca u (by exact he▸e) (hh _ hd) r
theorem dB.handed(R:dB T W c σ ρ h)(b:Bool):dB T W (c.handed b) {σ with hand:=b} ρ h:=⟨R.fr.re U U λ_ q=>q,R.len,R.obs,R.held,R.nd,R.fresh,U,R.frz⟩
theorem dB.unhanded{b:Bool}(R:dB T W (c.handed b) σ ρ h){b':Bool}(hb:b'=c.hand):dB T W c {σ with hand:=b'} ρ h:=⟨LA.re (c:=c.handed b) R.fr U U λ_ q=>q,R.len,R.obs,R.held,R.nd,R.fresh,hb,R.frz⟩
theorem HH{α:Type}{m:M α}{b:Bool}{P:α->St->Prop}(hw:kH P X (zF b m σ)):kH (λa s'=>P a {s' with hand:=σ.hand}) (λx s'=>X x {s' with hand:=σ.hand}) (m {σ with hand:=b}):=by unfold zF at hw;induction e:m {σ with hand:=b}with
 |ok f s'=>replace hw:=e▸hw;exact hw
 |exc x s'=>replace hw:=e▸hw;exact hw
 |stuck=>replace hw:=e▸hw;exact hw
theorem wi{i:Nat}{v:J}(q:Nat.blt i σ.loc.length=S):cb i v σ=.ok () {σ with loc:=σ.loc.set i v}:=by unfold cb;rw[q];rfl
theorem wN{i:Nat}{v:J}{P:Unit->St->Prop}(hw:kH P X (cb i v σ)):Nat.blt i σ.loc.length=S/\P () {σ with loc:=σ.loc.set i v}:=by induction q:Nat.blt i σ.loc.length with
 |true=>rw[wi q]at hw;exact⟨U,hw⟩
 |false=>
  have e:cb i v σ=.stuck:=by unfold cb;refine q▸?_;rfl
  rw[e]at hw;exact hw.elim
theorem dB.del(R:dB T W c σ ρ h){x:aV}{i:Nat}(hx:cx c.V x=Y i)(hu:σ.loc[i]?=Y .unb){m:aV->Option ar}{u:Option ar}(hm:h.Ns c.env.locals m)(hs:jQ c.env.locals h h')(hn:h'.Ns c.env.locals (λy=>if y=x then u else m y)):dB T W c σ ρ h':=by
 obtain⟨m',F,L⟩:=R.fr;have:=ow F.ns hm;obtain rfl:=Eq.symm this;have q:∀b∈addrs c ρ,m0 h h' b:=λb hb o g=>(hs.2 b (R.neL hb)).trans g;refine⟨⟨_,F.set hn hs,λy j z e1 e2 e3=>?_⟩,R.len,λj ob bs e1 e2=>(R.obs j ob bs e1 e2).same (List.prefix_refl _) λa ha=>q a (fW e2 ha),
  λp hp=>(R.held p hp).same (q _ (km hp)),R.nd,λb hb=>⟨(R.fresh b hb).1,hs.1▸(R.fresh b hb).2⟩,R.hand,R.frz⟩
 have hne:y≠x:=λq=>by obtain rfl:=Eq.symm q;rw[(eM hx).1]at e1;obtain rfl:=sI e1;rw[hu]at e2;obtain rfl:=sI e2;exact e3 rfl
 cases L y j z e1 e2 e3 with
 |loc k u e r=>exact .loc k u ((if_neg hne).trans e) r
 |cell k ca u e hd r=>exact .cell k ca u e hd r
theorem GB{Cx a:bf}{Q:Bool->aF->Prop}(G:Gx K.T K.W)(XK:K.W.K.In s.heap)(hC:nk K.T Cx=S){o:iS}(ho:s.heap.get? a=Y o)(hc:o.cls=.ref Cx)(h:Q S s):
  PW K (excMatches (.ref a) (.ref Cx)) Q E s:=by
 obtain⟨q1,q2,q3,q4⟩:=G Cx hC;obtain⟨cd,hcd⟩:=bL.mp q4;have ht:jq (cB K.W.prog K.W.w) s.heap (typeOf (.ref a)) (.ref Cx):=by refine(qR (part:=_) ho).andThen ?_;exact hc▸.now
 have hty:jq (cB K.W.prog K.W.w) s.heap (isType (.ref Cx)) S:=by
  unfold clsIn at hcd
  split at hcd
  ·rename_i oc od dd sl hl
   unfold isType;exact(qR (part:=_) (XK _ _ hl)).andThen .now
  ·exact nS hcd
 have he:jq (cB K.W.prog K.W.w) s.heap (isExcClass (.ref Cx)) S:=hty.andThen (hJ XK q1);show bY _ _ _ _ _ _;unfold excMatches;refine ay ((show jq (cB K.W.prog K.W.w) s.heap (kE (.ref Cx) (.type "tuple")) I from(looks_typeIn XK q2).andThen (hJ XK (by rfl))).here ?_);rw[if_neg em];refine ay (aL (ay ?_));rw[List.forIn_cons];refine ay (ay (he.here ?_));rw[if_neg (by decide)];refine aL ?_;dsimp only;rw[List.forIn_nil];refine aL (ay (ht.here (ay ?_)));rw[List.forIn_cons];refine ay (ay ((hJ XK q3).here ?_));exact(if_pos U)▸aL (aL (aL h))
theorem IL{R:Result->aF->Prop}{env:pv}{n:aV}{body:List eD}{e:ar}{p:da}
  (h:bY (cB K.W.prog K.W.w) A (oX e cV) (λ_ s₁=>bY (cB K.W.prog K.W.w) A (storeName env n e) (λ_ s₂=>bY (cB K.W.prog K.W.w) A (execs body env) (λf s₃=>R (.ok f) s₃) (λ_ _=>False) s₂) (λ_ _=>False) s₁) (λ_ _=>False) s):
  oW (cB K.W.prog K.W.w) A (.handlers e [.ExceptHandler cV (Y n) body p] env) R s:=by
 refine codeAny_of_tree ?_;show bY _ A (do return Fin.done (<-(handleWith e env [.ExceptHandler cV (Y n) body p]).onRaise (λx=>do noteFrame x env;theTreesLotGoes x))) _ _ s;refine ay (wpAny_noted ?_);unfold handleWith;refine ay (cX (ay (bu h (λ_ s₁ h₁=>?_) λ_ _ z=>z.elim)));refine ay (oa (bu h₁ (λ_ s₂ h₂=>?_) λ_ _ z=>z.elim));exact ay (wpAny_attempt (bu h₂ (λf s₃ h₃=>aL (aL h₃)) λ_ _ z=>z.elim))
theorem sv{Q:Unit->aF->Prop}(hx:lS K σ ρ x e s.heap)(k:∀h',lS K σ ρ x e h'->Q () (eH s h' s.toks)):PW K (oX e cV) Q E s:=
 rK (P:=λu=>u=.none\/u=pY K.c.env.locals) hx (.inl U) k
theorem lS.handed(y:lS K σ ρ x e h)(b:Bool)(A:ch):lS (K.to (K.c.handed b) A) {σ with hand:=b} ρ x e h:=let⟨r,a,q,C,fd,h1,h2,h3,p⟩:=y;⟨r.handed b,a,q,C,fd,h1,h2,h3,p.mono λ_⟨t,ot,ts,e,g,d,n,f,u,k,p⟩=>⟨t,ot,ts,e,g,d,n,f,u,k,p⟩⟩
theorem TV{β:Type}{i:Nat}{k:Nat->Bool->Option Nat->M β}{P:β->St->Prop}(hw:kH P X (gX i k σ)):∃C b fd,σ.heap[i]?=Y (.exn C b fd)/\kH P X (k C b fd σ):=by obtain⟨o,e,hw⟩:=Dp hw;induction o with
 |exn C b fd=>exact⟨C,b,fd,e,hw⟩
 |_=>exact hw.elim
theorem Bz(F:Fd K){vz:List eD}{cn n:aV}{cp hp:da}{Cx i:Nat}{mh:M Fl}(hC:nk K.T Cx=S)(hg:iM K.c.V cn=S)(hv:K.T.glob.lookup cn=Y (.sref Cx))(hx:cx K.c.V n=Y i)
  (ih:∀v,uQ (K.to (K.c.handed S) (K.A.mark (Y v))) vz mh) {Q:qP->aF->Prop} (hx3:lS K σ ρ x e s.heap) (ht:0<s.toks) (hP:kH (vD K ρ s Fv Q) (lQ K ρ s E) (AP Cx i mh x σ)):
  PW K (handleBy e K.c.env [.ExceptHandler (Y (.Name cn cp)) (Y n) vz hp]) Q E s:=by
 obtain⟨Cy,b,fd,e1,hP⟩:=TV hP;obtain⟨r3,a,rr,Cl,fs,rfl,ea,e1',hfly⟩:=id hx3;induction q:Nat.beq Cx Cy with
 |false=>replace hP:=q▸hP;exact hP.elim
 |true=>
  replace hP:=q▸hP;have:=Nat.eq_of_beq_eq_true q;subst this;obtain⟨ql,hP⟩:=wN (cg hP);have hP:=HH (ue (cg hP));obtain⟨o,vs,_,g1,g2,_⟩:=r3.exn e1 ea;refine wpAny_handleBy_cons (codeAny_handlers_test ?_) (by intro z;cases z);refine jV (K:=K.to (K.c.handed S) (K.A.mark (Y (.ref a)))) (σ:={σ with hand:=S}) F.g F.C.handed hg hv (r3.handed S) λu hu=>?_;have hu':=hu ρ;cases hu';refine GB (K:=K.to K.c (K.A.mark (Y (.ref a)))) F.x (F.g.X.keeps r3.stays) hC g1 g2 ?_;dsimp only;refine(if_pos U)▸?_;refine IL (K:=K) (sv (K:=K.to (K.c.handed S) (K.A.mark (Y (.ref a)))) (lS.handed hx3 S _) λh4 hx4=>?_);obtain⟨r4,_⟩:=hx4;refine lW (K:=K.to (K.c.handed S) (K.A.mark (Y (.ref a)))) (F.C.handed) hx (v:=.obj x) (λ_=>.obj ea) {σ with hand:=S} ρ (eH s h4 s.toks) (List.prefix_refl _) r4 ht _ _ ?_;refine(wi (σ:={σ with hand:=S}) ql)▸?_;intro ρ5 h5 tk5 _ hp5 r5 _ ht5;refine ih _ ρ5 _ ρ5 (eH s h5 tk5) (List.prefix_refl _) r5 ht5 _ _ (cE hP (λf σ6 hP6 ρ6 h6 tk6 fl hp6 r6 hf ht6=>?_) λ_ _ z=>z.elim);obtain⟨ql6,hP6⟩:=wN (cg hP6);have r7:=r6.unhanded (c:=K.c) r3.hand;obtain⟨hs,hl⟩:=eM hx;obtain⟨m7,F7,L7⟩:=r7.fr;have hk:K.c.env.kindOf n=Y .local:=by unfold f6;exact F.C.scope▸hl
  refine ay (oa (ni (s:=eH s h6 tk6) hk F7.ns (λh8 hn8 hs8=>?_) (uv F.C)));have r8:=r7.store (v:=.unb) (u:=.none) hs hl (λy hy=>F.C.inj y n i hy hs) (F.C.lo n i hx) (λz=>(z U).elim) hs8 λm' hm'=>by exact(ow hm' F7.ns)▸hn8
  unfold unbindBehindTheSuite;refine wpAny_onRaise (wpAny_unbindName_local (s:=eH s h8 (tk6+1)) hk hn8 (v:=.none) (if_pos U) (uv F.C) λh9 u9 hn9 hs9=>?_);exact hP6 ρ6 h9 (tk6+1) fl (hp5.trans hp6) (r8.del hx (List.getElem?_set_self (Nat.le_of_ble_eq_true ql6)) hn8 hs9 hn9) hf (Nat.succ_pos _)
theorem I7(F:Fd K)(O:yi K.c){body vz:List eD}{cn n:aV}{cp hp:da}{Cx i:Nat}{mb mh:M Fl}(hC:nk K.T Cx=S)(hg:iM K.c.V cn=S)(hv:K.T.glob.lookup cn=Y (.sref Cx))(hx:cx K.c.V n=Y i)
  (ib:uQ K body mb) (ih:∀v,uQ (K.to (K.c.handed S) (K.A.mark (Y v))) vz mh):
  lV K (.Try body [.ExceptHandler (Y (.Name cn cp)) (Y n) vz hp] [] [] pos) (xD mb Cx i mh):=λρ0 σ ρ s _ hr ht Q E hw=>by
 refine wpAny_Try_except (ib ρ σ ρ s (List.prefix_refl _) hr ht _ _ (cE (QK hw) (λf σ1 hP ρ1 h1 tk1 fl hp1 hr1 hf ht1=>?_) λx σ1 hP ρ1 h1 tk1 e hp1 hx1 ht1=>?_))
 ·induction hf with
  |nxt=>exact jB (hP ρ1 h1 tk1 .next hp1 hr1 .nxt ht1)
  |brk=>exact hP ρ1 h1 tk1 .brk hp1 hr1 .brk ht1
  |ret hv=>exact hP ρ1 h1 tk1 (.ret _) hp1 hr1 (.ret hv) ht1
 ·exact w8 (s:=eH s h1 tk1) F.C O hx1 λh2 hx2=>sv (s:=eH s h2 tk1) hx2 λh3 hx3=>Bz (s:=eH s h3 tk1) F hC hg hv hx ih hx3 ht1 (cE hP (λ_ _ z=>z.from hp1) λ_ _ z=>z.from hp1)
end
section
open PySem PySem.W PySem.Calls PyProof.Rows
variable{T:aT}{W:Wd}{c:Fx}{A:ch}{K:Cx}{σ σ':St}{ρ ρ':cM}{s s₁:aF}{E:ar->aF->Prop}{X:Nat->St->Prop}{h h':cT}{pos:da}{Γ:cI}{n:Nat}
structure Bg(A:ch)(d u:Nat):Prop where
 depth:A.depth+d<=1000
 units:A.units+u<cLine
abbrev uG(A:ch)(n:Nat):Prop:=Bg A (5*n+3) (50*n+120)
abbrev cw(A:ch)(n:Nat):Prop:=Bg A (5*n+5) (50*n+150)
theorem Bg.le{d u d' u':Nat}(R:Bg A d u)(h1:d'<=d)(h2:u'<=u):Bg A d' u':=⟨Nat.le_trans (Nat.add_le_add_left h1 _) R.depth,Nat.lt_of_le_of_lt (Nat.add_le_add_left h2 _) R.units⟩
theorem Bg.call(R:cw A n):uG A n:=R.le (Nat.add_le_add_left (by decide) _) (Nat.add_le_add_left (by decide) _)
def mZ(T:aT)(W:Wd)(n:Nat)(Γ:cI):Prop:=∀(c:Fx)(A:ch)(f:Nat),fB c A->uG A n->y4 ⟨T,W,c,A⟩ (.ref f) (fK Γ f)
structure Ya(W:Wd)(C f:Nat):Prop where
 makes:makesIn W.K C=S
 init:eF W.K (.ref C) "__init__"=Y (Y (.ref f))
 fn:isFn W.K (.ref f)=S
structure Yz(W:Wd)(C f:Nat)(nm:aV):Prop where
 get:n6 W.K C nm=S
 find:eF W.K (.ref C) nm=Y (Y (.ref f))
 fn:isFn W.K (.ref f)=S
 keep:lI W.K (.ref f)=S
inductive V5(W:Wd)(C f:Nat)(nm:aV):Prop where
 |mk (s:rY W.K (.ref C) "__getattribute__"=Y (Y (.builtin "type.__getattribute__"))) (k:lI W.K (.ref f)=S) (mc:ar) (t:typeIn W.K (.ref C)=Y mc) (r:readsIn W.K C mc=S) (g:findCls W.K (.ref C) mc nm=Y (.val (.ref f))):V5 W C f nm
structure Gm(T:aT)(W:Wd):Prop where
 make:∀C f,fm T C 0=Y f->nk T C=I->Ya W C f
 keepC:∀C,(d5 C T.meth).isSome=S->lI W.K (.ref C)=S
 keepF:∀a,T.fns.any (Nat.beq a)=S->lI W.K (.ref a)=S
 meth:∀C k f nm,fm T C k=Y f->T.names[k]?=Y nm->nk T C=I->Yz W C f nm
 cls:∀C k f nm,d5 C T.sdict=.none->fm T C k=Y f->T.names[k]?=Y nm->V5 W C f nm
theorem tC{v:ar}(h:lI W.K v=S):wd W v:=λhp X=>keeps_K h hp X
noncomputable abbrev xt(A:ch)(us:List ar)(C:bf):ch:=A.under (.builtin "type.__call__" ⟨.ref C::us,[]⟩)
theorem fB.under{us:List ar}{Cx:bf}(C:fB c A):fB c (xt A us Cx):=
 {scope:=C.scope,kind:=C.kind,glob:=C.glob,bi:=C.bi,inj:=C.inj,nd:=C.nd,envs:=C.envs,hand:=C.hand,top:=C.top,cells:=C.cells,lo:=C.lo,lotop:=C.lotop,frames:=(show(xt A us Cx).frames=A.frames from U).trans C.frames}
theorem uA{us:List ar}{Cx:bf}(R:cw A n):uG (xt A us Cx) n:=
 ⟨Nat.le_trans (Nat.le_of_eq (Nat.add_assoc A.depth 1 _)) (R.le (d':=1+(5*n+3)) (u':=0) (by rw[Nat.add_comm 1];exact Nat.add_le_add_left (show 3+1<=5 by decide) _) (Nat.zero_le _)).depth,
  Nat.lt_of_le_of_lt (Nat.le_of_eq (Nat.add_assoc A.units 1 _)) (R.le (d':=0) (u':=1+(50*n+120)) (Nat.zero_le _) (by rw[Nat.add_comm 1];exact Nat.add_le_add_left (show 120+1<=150 by decide) _)).units⟩
section
variable{α β:Type}{wv:List ar->WT α}{R:cM->β->α->Prop}{as:List J}{us:List ar}
theorem aX.as0{m:M β}(ha:bP (RV ρ) as us)(af:aX K ρ (wv []) m R):aX K ρ (wv us) (Mine.Internal.rq as m) R:=by induction ha with
 |nil=>exact af
 |cons _ _=>exact aX.no
theorem aX.as1{k:J->M β}(ha:bP (RV ρ) as us)(af:∀a u,RV ρ a u->aX K ρ (wv [u]) (k a) R):aX K ρ (wv us) (Mine.Internal.qH as k) R:=by induction ha with
 |nil=>exact aX.no
 |cons p q=>exact aX.as0 (wv:=λr=>wv (_::r)) q (af _ _ p)
theorem aX.as2{k:J->J->M β}(ha:bP (RV ρ) as us)(af:∀a u b v,RV ρ a u->RV ρ b v->aX K ρ (wv [u,v]) (k a b) R):aX K ρ (wv us) (Mine.Internal.Ls as k) R:=by induction ha with
 |nil=>exact aX.no
 |cons p q=>exact aX.as1 (wv:=λr=>wv (_::r)) q λb v hb=>af _ _ b v p hb
end
def pT(K:Cx)(f:ar)(m:List J->M J):Prop:=∀(ρ:cM)(as:List J)(us:List ar),bP (RV ρ) as us->aX K ρ (PW K (call f us [])) (m as) Rv
theorem pT.rule{f:ar}{m:List J->M J}(k:pT K f m):wm K f (λas ks=>rq ks (m as)):=λρ as ks us kws ha hk=>by induction hk with
 |nil=>exact k ρ as us ha
 |cons _ _=>exact aX.no
theorem Hz{β:Type}{a:J}{m:M β}{P:β->St->Prop}(hw:kH P X (pj a m σ)):a=.none/\kH P X (m σ):=by induction a with
 |none=>exact⟨U,hw⟩
 |_=>exact hw.elim
theorem kU.around{x:Nat}{e:ar}{P:bf->Prop}{ag:ch}(y:kU (K.to K.c ag) σ ρ x e h P)(A:ch):kU (K.to K.c A) σ ρ x e h P:=let⟨r,a,q,C,fd,h1,h2,h3,p⟩:=y;⟨r,a,q,C,fd,h1,h2,h3,p⟩
theorem CG{ag:ch}{f:Nat}{as:List J}{us:List ar}{x:Nat}{e:bf}{Q:ar->aF->Prop}{ρ1:cM}{h1:cT}{tk:Nat}(GO:y4 (K.to K.c ag) (.ref f) (fK Γ f))(hp:ρ<+:ρ1)(hr1:K.R σ ρ1 h1)(ht:0<tk)(hx:RV ρ1 (.obj x) (.ref e))(ha:bP (RV ρ1) as us)
  (hw:kH (vD K ρ s Rv Q) (lQ K ρ s E) (((fK Γ f (.obj x::as) []).bind λr=>pj r (M.ret (.obj x))) σ)):CW (K.to K.c ag) (.ref f) (.ref e::us) [] (λr s'=>r=.none/\Q (.ref e) s') E (eH s h1 tk):=by
 refine GO ρ1 (.obj x::as) [] (.ref e::us) [] (.cons hx ha) .nil σ ρ1 (eH s h1 tk) (List.prefix_refl _) hr1 ht _ _ (cE (cg hw) (λr σ2 hP ρ2 h2 tk2 u hp2 hr2 hu ht2=>?_) λ_ _ z=>?_)
 ·obtain⟨rfl,hP⟩:=Hz hP
  cases hu;exact⟨U,hP ρ2 h2 tk2 _ (hp.trans hp2) hr2 (hx.mono hp2) ht2⟩
 ·exact λρ' h' tk e hp' y ht'=>z ρ' h' tk e (hp.trans hp') (y.around _) ht'
theorem x4{L:bf}{b:bf}{o:iS}{news:List (bf×iS)}(R:dB T W c σ ρ h)(N:News W.h0 c.env.locals h' news)(hm:(b,o)∈news)(d:bf)(hd:d∈addrs c ρ->d≠b)(above:∀p∈newsBut c ρ h d,p.1<b):ng W c ρ b:=by
 refine⟨λhb=>?_,(N _ hm).2.1,(N _ hm).2.2⟩;obtain⟨ob,hob⟩:=R.live hb
 by_cases q:b=d
 ·exact hd (q▸hb) q.symm
 ·exact Nat.lt_irrefl _ (above (b,ob) (kX hb q hob))
theorem JX(G:Gd K.T K.W)(Gm:Gm K.T K.W)(GO:mZ K.T K.W n Γ)(C:fB K.c K.A)(R:cw K.A n){Cx:Nat}(hx:nk K.T Cx=I):pT K (.ref Cx) (wE K.T Γ Cx):=λρ as us ha=>aX.gO λf hm=>aX.gd λ_ σ ρ' s hp hr ht Q E hw=>by
 have hmade:made K.T Cx=.inst Cx []:=by unfold made;refine hx▸?_;rfl
 rw[hmade]at hw;have hw:=cg hw;obtain⟨m1,m2,m3⟩:=Gm.make Cx f hm hx;obtain⟨m,F,_⟩:=hr.fr;have nn:s.heap.objs.size∉addrs K.c ρ':=λq=>Nat.lt_irrefl _ (hr.fresh _ q).2;refine call_cls F G.X (hr.news s.heap.objs.size) m1 m2 m3 λx dx h' F' N' hab hlt=>?_;have f1:ng K.W K.c ρ' dx:=x4 (L:=0) hr N' (.tail _ (.head _)) _ (λq=>absurd q nn) hab;have f2:ng K.W K.c ρ' x:=x4 (L:=0) hr N' (.head _) _ (λq=>absurd q nn) λp hp=>Nat.lt_trans (hab p hp) hlt;have hr1:=hr.new (h':=h') (o:=.inst Cx []) (as:=[x,dx]) (λm' Fm=>by exact(ow Fm.ns F.ns)▸F') (λb hb o ho=>(N' (b,o) (.tail _ (.tail _ (kX hb (Nat.ne_of_lt (cz ho)) ho)))).1)
  (List.nodup_cons.mpr ⟨λq=>Nat.ne_of_gt hlt (List.mem_singleton.mp q),List.nodup_cons.mpr ⟨List.not_mem_nil,List.nodup_nil⟩⟩)
  (λb hb=>(List.mem_cons.mp hb).elim (λq=>q▸f2) λq=>(List.mem_singleton.mp q)▸f1) (.inst (ds:=[]) (n:=0) (N' _ (.head _)).1 (N' _ (.tail _ (.head _))).1 .nil)
 refine codeAny_mono (CG (s:=s) (GO K.c _ f C.under (uA (us:=us) (Cx:=Cx) R)) (List.prefix_append _ _) hr1 ht (RV.new hr) (ha.mono λ_ _ z=>(z.mono hp).mono (List.prefix_append _ _)) hw) λr s' z=>?_;rcases r with e|(v|_|_|_)<;>first|exact z|exact z.elim
end
section
open PySem PySem.W PySem.Calls PyProof.Rows
variable{T:aT}{W:Wd}{c:Fx}{A:ch}{K:Cx}{σ σ':St}{ρ ρ':cM}{s s₁:aF}{E:ar->aF->Prop}{X:Nat->St->Prop}{h h':cT}{pos:da}{n:Nat}
inductive pW:List ar->Prop where
 |base:pW [.type "ValueError",.type "Exception",.type "BaseException",.type "object"]
 |own {a:bf} {l:List ar}:pW l->pW (.ref a::l)
theorem pW.passes{l:List ar}(x:pW l)(self:ar):PySem.refuseLoop self "__setattr__" l=pure ():=by induction x with
 |base=>exact PySem.F.store_ValueError.passes self
 |own _ ih=>rw[PySem.refuseLoop_ref];exact ih
inductive Mo(W:Wd)(C:Nat):Prop where
 |mk (cd:ClassData) (e:clsIn W.K C=Y cd) (d:cd.hasDict=S) (m:pW cd.mro):Mo W C
structure QV(W:Wd)(C:Nat):Prop where
 cls:Mo W C
 ga:eF W.K (.ref C) "__getattribute__"=Y (Y (.builtin "BaseException.__getattribute__"))
 gb:eF W.K (.ref C) "__getattr__"=Y cV
 sa:eF W.K (.ref C) "__setattr__"=Y (Y (.builtin "object.__setattr__"))
 be:pA W.K (.ref C) (.type "BaseException")=Y S
 ob:pA W.K (.ref C) (.type "object")=Y S
 ve:pA W.K (.ref C) (.type "ValueError")=Y S
structure Gy(T:aT)(W:Wd):Prop where
 cls:∀C,nk T C=S->QV W C
 nm:∀C n x,Mq T C n=S->T.names[n]?=Y x->eF W.K (.ref C) x=Y cV
theorem BS{C:Nat}(h:Mq T C n=S):nk T C=S:=(bN.mp h).2
theorem N8{a d:bf}{o:iS}{C:Nat}{vs:Array ar}{od:iS}(g1:h.get? a=Y o)(g2:o.cls=.ref C)(g3:o.dict=Y d)(g4:o.data=.fields vs)(g5:h.get? d=Y od):InstAt h a o C (Y od):=
 ⟨g1,g2,by unfold notCls;rw[g4],by exact g3▸g5⟩
theorem Ox{a:bf}{o:iS}{C:Nat}{vs:Array ar}(g1:h.get? a=Y o)(g2:o.cls=.ref C)(g3:o.dict=cV)(g4:o.data=.fields vs):InstAt h a o C cV:=
 ⟨g1,g2,by unfold notCls;rw[g4],by rw[g3];trivial⟩
theorem E5:builtinKind "BaseException.__getattribute__"=Y .slot:=by decide+kernel
theorem Eu:splitId "BaseException.__getattribute__"=Y ("BaseException","__getattribute__"):=by decide+kernel
theorem PD:(pB "BaseException.__getattribute__"==pB "object.__getattribute__")=I:=by decide+kernel
theorem Ey{M:vp}{C:Nat}{a:bf}{nm:aV}{tk0:qV}{v:ar}{Q:Fin->aF->Prop}(L0:jq M s.heap (typeOf (.ref a)) (.ref C))(L4:jq M s.heap (wQ (.ref a) (.ref C) nm) (.value v))(hq:Q (.done (.ret v)) s):
  bY M A (tF.«object.__getattribute__» ⟨[.ref a,.str nm tk0],[]⟩) Q E s:=by
 unfold tF.«object.__getattribute__»;exact ay (aL (a:=(ar.ref a,[ar.str nm tk0])) (ay (aL (a:=nm) (ay (L0.here (ay (L4.here (aL hq))))))))
theorem Xs{C:Nat}(ae:QV W C)(XK:W.K.In s.heap){a:bf}{o od:iS}{nm:aV}{v:ar}{ex:Bool}{Q:ar->aF->Prop}(aj:InstAt s.heap a o C (Y od))
  (hf:findObj W.K C (Y od) nm=Y (.value v)) (hh:handedIn v=S) (hq:∀tk,Q v {s with toks:=tk}):bY (cB W.prog W.w) A (tE (.ref a) nm ex) Q E s:=by
 obtain⟨hh',g,d,t,os⟩:=s;have L0:=aj.type (M:=cB W.prog W.w);have L3:jq (cB W.prog W.w) hh' (kE (.ref a) (.type "BaseException")) S:=L0.andThen (hJ XK ae.be);have L4:=looks_find (M:=cB W.prog W.w) XK aj hf;have hx0:(ex&&onTheHeap (pB "BaseException.__getattribute__"))=I:=by induction ex<;>rfl
 unfold tE getAttrBy;refine ay (wpAny_mkText (bS (ay (L0.at (ay ((jS (M:=cB W.prog W.w) XK ae.ga).at ?_))))));dsimp only;rw[PD,ku,if_neg em];unfold getAttrByItsOwn hookBefore;rw[if_pos (by rfl)];refine ay ((jS (M:=cB W.prog W.w) XK ae.gb).at (ay (wpAny_attempt (bS ?_))));unfold callGetattribute;refine hx0▸(if_neg em)▸?_;unfold boundAndCalled;refine(kF.ga.bind (.ref a))▸?_;refine ay (aL (mT ?_));refine ju kF.ga.plain PySem.F.entry_bexc_ga (@check_slot (cB W.prog W.w) _ _ _ "BaseException.__getattribute__" "BaseException" "__getattribute__" (.ref a) [.str nm t] [] _ E5 Eu L3 (PySem.F.args_bexc_ga (.ref a) (.str nm t)) ?_);refine Ey (s:=⟨hh',g,d,t+1,os⟩) L0 L4 ?_;show bY _ _ (handedOut v) _ _ _;refine(handedOut_of hh)▸?_;exact aL (hq _)
theorem Mo.dict{C:Nat}(y:Mo W C):mm W.K C=S:=by obtain⟨cd,hc1,hc2,hc3⟩:=y;unfold mm;rw[hc1];exact hc2
inductive Y6(T:aT)(ρ:cM)(h:cT)(fs:List (Nat×J))(j:Nat)(od:Option bf):Prop where
 |mk (d:bf) (ds:List b7) (k:Nat) (e:od=Y d) (ej:ρ[j]?=Y [d]) (g:h.get? d=Y (fJ ds k)) (l:bP (pI T ρ) fs ds):Y6 T ρ h fs j od
theorem dB.xfd(hr:dB T W c σ ρ h){j:Nat}{fs:List (Nat×J)}{od:Option bf}(x:XD ρ (Y j) od)(e:σ.heap[j]?=Y (.fd fs)):Y6 T ρ h fs j od:=by cases x with
 |«at» ej=>obtain⟨ds,k,g,l,_⟩:=hr.fd e ej;exact⟨_,ds,k,U,ej,g,l⟩
theorem TB(Gk:Gc T W)(Gy:Gy T W)(G:Gd T W):F6 T W:=λc A σ ρ s Q E i C n a r j fs nm v ex b hr e1 ea hn hx e4 e5 e3 hq=>by obtain⟨o,vs,_,g1,g2,g3,g4,_⟩:=hr.exn e1 ea;obtain⟨d,ds,k,hd,_,g7,l1⟩:=hr.xfd g3 e4;have ae:=Gy.cls C (BS hx);cases qh Gk l1 hn with
 |yes v' u l2 l3 l4=>rw[l2]at e5;obtain rfl:=sI e5;exact Xs ae (G.X.keeps hr.stays) (N8 g1 g2 hd g4 g7) (findObj_own ae.cls.dict (Gy.nm C n nm hx hn) U l3) (GE l4 e3) λtk=>hq tk u l4
 |no l2 _=>rw[l2]at e5;exact nS e5
theorem HV{d:bf}{ds:List b7}{n:Nat}{nm:aV}{v:ar}{M:vp}{Q:Unit->aF->Prop}(ak:s.heap.get? d=Y (fJ ds n))(hl:(getL nm ds).isSome=S)
  (hq:Q () {s with heap:=s.heap.update d (iS.putName nm (d9 M.w.params nm) (.str nm s.toks) v),toks:=s.toks+1}):bY M A (nsSet d nm v) Q E s:=by
 unfold nsSet;refine ay (ay (wpAny_askSetting (aL (ay (wpAny_mkText (ay (og ak ?_)))))));have c:(!(ds.toArray).any (·.key.isStr nm)&&(ds.toArray).any (·.refKey))=I:=by refine rZ▸rZ▸?_;show(!ds.any (·.key.isStr nm)&&ds.any (·.refKey))=I;unfold getL at hl;induction he:ds.find? (·.key.isStr nm)with
  |some en=>refine(List.any_eq_true.mpr ⟨en,List.mem_of_find?_eq_some he,List.find?_some he⟩)▸?_;rfl
  |none=>replace hl:=he▸hl;induction z:ds.any (·.refKey)with
   |true=>replace hl:=z▸hl;exact nT hl
   |false=>rw[ku]
 dsimp only;rw[aRefKeyMayBeTheName_at,c];exact wpAny_updatePart ak hq
theorem UG{C:Nat}(ae:QV W C)(XK:W.K.In s.heap){a:bf}{o:iS}{od:Option iS}{nm:aV}{v:ar}{tk:qV}{R:Result->aF->Prop}(aj:InstAt s.heap a o C od)(hn:eF W.K (.ref C) nm=Y cV)
  (hq:bY (cB W.prog W.w) A.in1 (dX (.ref a)) (λr s'=>∃d,r=Y d/\bY (cB W.prog W.w) A.in1 (eY d (.str nm tk) nm v) (λfin s'=>match fin with|.done f=>R (.ok f) s'|.again c'=>c'.quiet=S/\oW (cB W.prog W.w) A c' R s') (λe s'=>R (.error e) s') s') (λe s'=>R (.error e) s') s):
  oW (cB W.prog W.w) A (.call (.builtin "object.__setattr__") ⟨[.ref a,.str nm tk,v],[]⟩) R s:=by
 have SF:=PySem.F.store_object;obtain⟨cd,hc1,hc2,hc3⟩:=ae.cls;have L0:=aj.type (M:=cB W.prog W.w);have L1:jq (cB W.prog W.w) s.heap (kE (.ref a) (.type "object")) S:=L0.andThen (hJ XK ae.ob);have L2:jq (cB W.prog W.w) s.heap (mroOf (.ref C)) cd.mro:=(sK XK hc1).andThen .now;refine ju SF.slot.plain SF.entry (@check_slot (cB W.prog W.w) _ _ s "object.__setattr__" "object" "__setattr__" (.ref a) [.str nm tk,v] [] _ SF.kind SF.split L1 (SF.args (.ref a) (.str nm tk) v) ?_);rw[osa_eq,refuse_eq];refine ay (ay (L0.here (ay (L2.here ?_))));rw[hc3.passes];refine aL (ay (L0.here (ay ((jS (M:=cB W.prog W.w) XK hn).here (ay (aL (ay (aL (ay (bu hq (λr s' z=>?_) λ_ _ z=>z))))))))));obtain⟨d,rfl,z⟩:=z;exact z
theorem JH{d:bf}{ds:List b7}{n:Nat}{nm:aV}{v:ar}{tk:qV}{M:vp}{Q:Fin->aF->Prop}(ak:s.heap.get? d=Y (fJ ds n))(hl:(getL nm ds).isSome=S)(hn:ds.length<=900)
  (hq:∀h',jQ d s.heap h'->h'.get? d=Y (fJ (putL nm (d9 M.w.params nm) (.str nm s.toks) v ds) (PySem.W.putN nm ds n))->Q (.done (.ret .none)) {s with heap:=h',toks:=s.toks+1}):
  bY M A (eY d (.str nm tk) nm v) Q E s:=by
 unfold eY r9;have D':=dA (h:=s.heap) (iS.putName nm (d9 M.w.params nm) (.str nm s.toks) v) ak (by rw[putName_dict];rfl);rw[putName_dict]at D';refine ay (aL (ay (HV ak hl (ay (wpAny_lookBehind D' (pastItsLine_dict ?_) (aL (hq _ (dw ..) D')))))));have:=uC nm (d9 M.w.params nm) (.str nm s.toks) v ds;rw[List.size_toArray,cP];exact bE [_,_] [(.v 0,.l 900),(.v 1,.a (.v 0) (.l 1))] 0 [1,1] (.v 1) (.a (.l 16777216) (.l 1)) U hn this
theorem Ww{l:List AO}{i:Nat}{o:AO}{p q:AO}(hi:i<l.length):((l++[p]).set i o).set l.length q=(l++[q]).set i o:=by rw[List.set_append_left _ _ hi,List.set_append_left _ _ hi];rw[show l.length=(l.set i o).length from(List.length_set ..).symm,List.set_append_right _ _ (Nat.le_refl _),Nat.sub_self];rfl
theorem O5(Gk:Gc T W)(Gy:Gy T W)(G:Gd T W):HN T W:=λc A σ ρ s Q E i C n a r fd H' nm v u b hr e1 ea hn hx e2 hv hq=>by obtain⟨o,vs,nb,g1,g2,g3,g4,sl,z,rfl⟩:=hr.exn e1 ea;have XK:=G.X.keeps hr.stays;have ae:=Gy.cls C (BS hx);have hno:=Gy.nm C n nm hx hn;obtain⟨cd,hc1,hc2,hc3⟩:=ae.cls;induction e2 with
 |new=>
  generalize hd:o.dict=dd at g3
  cases g3;have aj:=Ox g1 g2 hd g4;refine set_plain XK aj ae.sa (UG (s:={s with toks:=s.toks+1}) ae XK aj hno ?_);unfold dX instanceDict;refine ay (og g1 ?_);refine g2▸?_;refine ay (jq.here (s:={s with toks:=s.toks+1}) (sK XK hc1) ?_);rw[hc2,hd];dsimp only;rw[if_neg (by decide),if_neg (by simp[typeHasDict]),g4];have hx₁:(s.heap.push {cls:=.type "dict",data:=.dict #[]}).get? a=Y o:=cA _ g1;have had:a≠s.heap.objs.size:=Nat.ne_of_lt (cz g1);refine ay (wpAny_alloc' (ay (wpAny_update' hx₁ (aL ⟨s.heap.objs.size,U,?_⟩))));have hr1:=hr.newPush (o:=.fd []) ({cls:=.type "dict",data:=.dict #[]}:iS) (.fd (ds:=[]) (n:=0) (bA _ U) .nil);have hp1:ρ<+:ρ++[[s.heap.objs.size]]:=List.prefix_append _ _;have hj:(ρ++[[s.heap.objs.size]])[σ.heap.length]?=Y [s.heap.objs.size]:=by exact hr.len▸List.getElem?_concat_length
  have hD1:((s.heap.push {cls:=.type "dict",data:=.dict #[]}).update a λo=>{cls:=o.cls,dict:=Y s.heap.objs.size,data:=o.data,slots:=o.slots}).get? a=Y {cls:=o.cls,dict:=Y s.heap.objs.size,data:=o.data,slots:=o.slots}:=
   dA _ hx₁ (by obtain⟨oc,od,odt,osl⟩:=o;cases g4;rfl)
  have hr2:=hr1.upd (o:=.exn C b (Y σ.heap.length)) (b5 hp1 ea) (.head _) (dw ..) (show rO T W _ _ _ [a]from(⟨_,vs,nb,hD1,g2,.at hj,g4,sl,z,U⟩:m5 _ _ C b (Y σ.heap.length) a []));have g7:((s.heap.push {cls:=.type "dict",data:=.dict #[]}).update a λo=>{cls:=o.cls,dict:=Y s.heap.objs.size,data:=o.data,slots:=o.slots}).get? s.heap.objs.size=Y (fJ [] 0):=
   (jH _ _ _ _ (jP had)).trans (bA _ U)
  refine JH (s:={s with heap:=_,toks:=s.toks+1}) (ds:=[]) (n:=0) g7 U (Nat.zero_le _) λh' hs hD=>?_;have hr3:=hr2.upd (o:=.fd [(n,v)]) hj (.head _) hs (.fd hD (.cons ⟨nm,_,hn,U,hv.mono hp1⟩ .nil));have hmk:=Ww (o:=.exn C b (Y σ.heap.length)) (p:=.fd []) (q:=.fd [(n,v)]) (List.getElem?_eq_some_iff.mp e1).1;dsimp only at hr3;rw[hmk]at hr3;exact hq _ h' _ hp1 hr3
 |old j fs e6 hle=>
  obtain⟨d,ds,k,hd,ej,g7,l1⟩:=hr.xfd g3 e6;have hgl:(getL nm ds).isSome=S:=by cases qh Gk l1 hn with
   |yes _ _ _ l2 _=>refine l2▸?_;rfl
   |no _ l2=>refine l2▸?_;rfl
  have aj:=N8 g1 g2 hd g4 g7;refine set_plain XK aj ae.sa (UG (s:={s with toks:=s.toks+1}) ae XK aj hno ?_);unfold dX instanceDict;refine ay (og g1 ?_);refine g2▸?_;refine ay (jq.here (s:={s with toks:=s.toks+1}) (sK XK hc1) ?_);rw[hc2,hd];exact aL ⟨d,U,JH (s:={s with toks:=s.toks+1}) g7 hgl (Nat.le_trans (Nat.le_of_eq l1.length.symm) (Nat.le_trans hle (by decide))) λh' hs hD=>hq ρ h' _ (List.prefix_refl _) (hr.upd ej (.head _) hs (.fd hD (yI Gk l1 hn hv _ _)))⟩
end
section
open PySem PySem.W PySem.Calls PyProof.Rows
structure XC where
 (nm q:aV) (N:bf) (bs bm:List ar) (hdct:Bool) (sn:List aV) (sub:List ar) (ab:Bool) (col:Option Bool) (dd:Option bf) (k0 k1 k2 k3 k5:Option ar)
noncomputable abbrev XC.obj(x:XC)(C:bf):iS:=excClassObj x.nm x.q C x.N x.bs x.bm x.hdct x.sn x.sub x.ab x.col x.dd x.k0 x.k1 x.k2 x.k3 x.k5 "ValueError.__new__"
structure Ad(K:kJ)(C f:Nat)(x:XC):Prop where
 obj:K.lookup C=Y (x.obj C)
 hB:x.bm.contains (.type "ValueError")=S
 hA:x.bm.contains (.type "AttributeError")=I
 hN:x.bm.contains (.type "NameError")=I
 init:eF K (.ref C) "__init__"=Y (Y (.ref f))
 fn:isFn K (.ref f)=S
theorem Ad.has{C:Nat}{x:XC}{v:ar}{b:Bool}(h:x.bm.contains v=b)(hv:(v==.ref C)=I):(ar.ref C::x.bm).contains v=b:=by simp only[List.contains_cons,h,hv,gC]
section
variable{prog:oU}{w:sL}{A:ch}{E:ar->aF->Prop}{R:Result->aF->Prop}{h:cT}{g:Array GenState}{d:PySem.Drawn}{t:Nat}{os:OsState}{K:kJ}{C f:Nat}{x:XC}{bX:List ar}
theorem Ys(aj:Ad K C f x)(hC:h.get? C=Y (x.obj C))
  (hq:R (.ok (.ret (.ref (h.objs.size+1)))) ⟨(h.push {cls:=.type "tuple",data:=.seq bX.toArray}).push
   {cls:=.ref C,data:=.fields #[.ref h.objs.size,.none,.none,.none,.bool I,.none]},g,d,t,os⟩) (hrest:bX.length<=gA):
  oW (cB prog w) A (.builtin "ValueError.__new__" ⟨.ref C::bX,[]⟩) R ⟨h,g,d,t,os⟩:=by
 have Fn:=eo;have hends:=Fn.ends;have hcB:=Ad.has (C:=C) aj.hB rfl;have hcA:=Ad.has (C:=C) aj.hA rfl;have hcN:=Ad.has (C:=C) aj.hN rfl;refine codeAny_builtinAt Fn.entry ?_;unfold tF.«BaseException.__new__»;refine sX ?_;show PySem.wpAt _ _ _ (stack>>=_) _ _ _;refine sX (PySem.wpAt_stack λp below=>pb ?_)
 wp_walk
 refine pb ?_;refine Fn.owner▸?_
 repeat(first|with_reducible refine wpAny_madeHere_exc Fn.canon hC ?_|with_reducible refine eQ hC ?_|(with_reducible refine wpAny_isSubtype_exc hC ?_;first|rw[hcB]|rw[hcA]|rw[hcN])|wp_step)
 show R _ _;rw[cT.size_push];exact hq
theorem B9(aj:Ad K C f x)(X:K.In h){Q:Fin->aF->Prop}
  (hq:∀h' e,cT.MadeExcOf h h' e (.ref C) bX->
   bY (cB prog w) A (call (.ref f) (.ref e::bX)) (λr s'=>r=.none/\Q (.done (.ret (.ref e))) s') E ⟨h',g,d,t,os⟩) (hrest:bX.length<=gA):
  bY (cB prog w) A (tF.«type.__call__» ⟨.ref C::bX,[]⟩) Q E ⟨h,g,d,t,os⟩:=by
 have Fn:=eo;have hC:=X _ _ aj.obj
 repeat(first|with_reducible refine eQ hC ?_|with_reducible refine wpAny_madeBy_exc hC ?_|wp_step)
 refine codeAny_call_builtin_code (p0 _ Fn.quiet) (wpAny_check_new_subU Fn aj.hB .base hC (Ys aj hC ?_ hrest));show bY _ _ _ _ _ _;have kk:∀b o,h.get? b=Y o->((h.push {cls:=.type "tuple",data:=.seq bX.toArray}).push {cls:=.ref C,data:=.fields #[.ref h.objs.size,.none,.none,.none,.bool I,.none]}).get? b=Y o:=λb o e=>cA _ (cA _ e);have hget:((h.push {cls:=.type "tuple",data:=.seq bX.toArray}).push
   {cls:=.ref C,data:=.fields #[.ref h.objs.size,.none,.none,.none,.bool I,.none]}).get? (h.objs.size+1)=Y
   {cls:=.ref C,data:=.fields #[.ref h.objs.size,.none,.none,.none,.bool I,.none]}:=by heap_get
 have ht:cT.get? ((h.push {cls:=.type "tuple",data:=.seq bX.toArray}).push {cls:=.ref C,data:=.fields #[.ref h.objs.size,.none,.none,.none,.bool I,.none]}) h.objs.size=Y {cls:=.type "tuple",data:=.seq bX.toArray}:=cA _ (cT.get?_push_at U U);have hcC:(ar.ref C::x.bm).contains (.ref C)=S:=by rw[List.contains_cons,beq_self_eq_true];rfl
 generalize ((h.push {cls:=.type "tuple",data:=.seq bX.toArray}).push {cls:=.ref C,data:=.fields #[.ref h.objs.size,.none,.none,.none,.bool I,.none]})=h1 at*
 have hC₁:=kk _ _ hC;have X₁:=X.keeps kk;unfold kE
 repeat(first|with_reducible refine eQ hget ?_|(with_reducible refine wpAny_isSubtype_exc hC₁ ?_;rw[hcC])|wp_step)
 show bY _ _ (typeLookup (.ref C) _) _ _ _;refine(jS (M:=cB prog w) X₁ aj.init).at (bS (ay ((bind_fn X₁ _ (beq_iff_eq.mp aj.fn)).at (ay (bu (hq _ (h.objs.size+1) ⟨kk,oh (Nat.le_succ _),h.objs.size,hget,oh (Nat.le_refl _),ht⟩) (λr s' hr=>?_) λ_ _ x=>x)))));obtain⟨rfl,hQ⟩:=hr
 wp_walk
 exact hQ
theorem UK(aj:Ad K C f x)(X:K.In h){Q:ar->aF->Prop}
  (hq:∀h' e,cT.MadeExcOf h h' e (.ref C) bX->
   bY (cB prog w) (A.under (.builtin "type.__call__" ⟨.ref C::bX,[]⟩)) (call (.ref f) (.ref e::bX)) (λr s'=>r=.none/\Q (.ref e) s') E ⟨h',g,d,t,os⟩) (hrest:bX.length<=gA):
  bY (cB prog w) A (call (.ref C) bX) Q E ⟨h,g,d,t,os⟩:=by
 have hC:=X _ _ aj.obj;have f1:=tc_lookup;have f2:=tc_bind (.ref C);have hT:(⟨h,g,d,t,os⟩:aF).TypeIs (.ref C) "type":=⟨_,hC,U⟩;refine mT (codeAny_of_tree ?_);show bY _ _ (callAny (.ref C) _) _ _ _
 repeat(any_goals(first|assumption|with_reducible refine eQ hC ?_|wp_step))
 refine⟨U,?_⟩;exact codeAny_call_builtin_at (p0 _ (by decide+kernel)) entry_typeCall (wpAny_check_type_call_sub hC (B9 aj X hq hrest))
end
variable{T:aT}{W:Wd}{c:Fx}{A:ch}{K:Cx}{σ σ':St}{ρ ρ':cM}{s s₁:aF}{E:ar->aF->Prop}{h h':cT}{pos:da}{Γ:cI}{n:Nat}
inductive Vp(K:kJ)(C f:Nat):Prop where
 |mk (x:XC) (aj:Ad K C f x):Vp K C f
def Gw(T:aT)(W:Wd):Prop:=∀C f,nk T C=S->fm T C 0=Y f->Vp W.K C f
theorem JS(G:Gd K.T K.W)(Gw:Gw K.T K.W)(GO:mZ K.T K.W n Γ)(C:fB K.c K.A)(R:cw K.A n){Cx:Nat}(hx:nk K.T Cx=S):pT K (.ref Cx) (wE K.T Γ Cx):=λρ as us ha=>aX.gO λf hm=>aX.gd λjC σ ρ' s hp hr ht Q E hw=>by
 have hmade:made K.T Cx=.exn Cx S .none:=by unfold made;rw[hx];rfl
 replace hw:=hmade▸hw;have hw:=cg hw;obtain⟨x,aj⟩:=Gw Cx f hx hm;have hlen':us.length<=gA:=by rw[hx,Bool.true_and,dt]at jC;exact ha.length▸cP▸Nat.le_trans (Nat.le_of_not_lt λz=>by replace jC:=(show Nat.blt 100 as.length=S from Nat.ble_eq_true_of_le z)▸jC;exact nF jC) (show 100<=16777216 by decide)
 obtain⟨hh,g,d,t,os⟩:=s;refine UK aj (G.X.keeps hr.stays) (λh' e hM=>?_) hlen';obtain⟨tt,t1,t2,t3⟩:=hM.there;have new:∀{o},hh.get? e=Y o->False:=λq=>by replace q:=hM.new▸q;cases q
 have fe:ng K.W K.c ρ' e:=⟨λhb=>let⟨_,q⟩:=hr.live hb;new q,λq=>by
   obtain⟨m,F,_⟩:=hr.fr;obtain⟨o,_,_,ho,_⟩:=F.ns;exact new (q▸ho),by
   induction z:K.W.h0.get? e with
   |none=>rfl
   |some o=>exact(new (hr.stays _ _ z)).elim⟩
 have hr1:=hr.new (h':=h') (o:=.exn Cx S .none) (as:=[e]) (λm F=>F.keeps hM.keeps) (λb hb o ho=>hM.keeps b o ho) (List.nodup_cons.mpr ⟨List.not_mem_nil,List.nodup_nil⟩) (λb hb=>(List.mem_singleton.mp hb)▸fe)
  (show rO K.T K.W _ _ _ [e]from(⟨_,_,λ_=>rfl,t1,U,.no,U,U,Nat.le_refl _,U⟩:m5 _ _ Cx S .none e []))
 exact mT (codeAny_mono (CG (s:=⟨hh,g,d,t,os⟩) (GO K.c _ f C.under (uA (us:=us) (Cx:=Cx) R)) (List.prefix_append _ _) hr1 ht (RV.new hr) (ha.mono λ_ _ z=>(z.mono hp).mono (List.prefix_append _ _)) hw) λr s' z=>z)
theorem Ll:findCls [] (.type "ValueError") (.type "type") "__init__"=Y (.val (.builtin "ValueError.__init__")):=by kernel_rfl
theorem RP(h:cT):kJ.In ([]:kJ) h:=λa o e=>by exact nS e
theorem Ee{pl:o7 Bool}{Q:ar×List ar->aF->Prop}{prog:oU}{w:sL}(hq:∀tk,Q (.builtin "ValueError.__init__",[]) {s with toks:=tk}):bY (cB prog w) A (hU (.type "ValueError") "__init__" pl) Q E s:=by
 have X:=RP s.heap;have L0:jq (cB prog w) s.heap (typeOf (.type "ValueError")) (.type "type"):=jq.of_pure (by kernel_rfl);have hg:eF [] (.type "type") "__getattribute__"=Y (Y (.builtin "type.__getattribute__")):=type_tga;unfold hU specialOf;refine ay (ay (L0.here ((jS X hg).here ?_)));dsimp only;refine(if_pos canon_tga)▸?_;refine ay (bu (Q:=λv=>Q (v,[])) (E:=E) ?_ (λ_ _ z=>aL z) λ_ _ z=>z);exact cls_open X (jq.of_pure (by kernel_rfl):jq (cB prog w) s.heap (opaqueClassAbove (.type "ValueError")) cV) L0 hg (looks_hook X (r:=cV) (by rfl)) (by show pA [] _ _=_;rfl) Ll
  (aL (by show bY _ _ (handedOut _) _ _ _;rw[handedOut_of (by rfl)];exact aL (hq _)))
theorem yq{M:vp}{a C:bf}{o:iS}{oc:ar}{od:Option bf}{cd:ClassData}{sl:Array (Option ar)}{bX:List ar}{Q:Unit->aF->Prop}(g1:s.heap.get? a=Y o)(g2:o.cls=.ref C)(hC:s.heap.get? C=Y ⟨oc,od,.cls cd,sl⟩)
  (L1:jq M s.heap (kE (.ref a) (.type "ValueError")) S) (hq:Q () s):bY M A (checkBuiltinCall "ValueError.__init__" ⟨.ref a::bX,[]⟩) Q E s:=by
 have FV:=eo;have hshort:=FV.noStar;simp only[checkBuiltinCall,FV.initKind,FV.initSplit,FV.initRow];refine ay (L1.here ?_);simp only[Bool.not_true,kB,if_false];obtain⟨hh,g,d,t,os⟩:=s
 repeat(first|(with_reducible refine eQ g1 ?_;refine g2▸?_)|with_reducible refine eQ hC ?_|wp_step)
 refine wpAny_onRaise ?_;rw[show∀(x b:String)(n:Nat),Bind.check ⟨.positional,"*","ValueError",.self,[⟨"args",.varPos,I⟩]⟩ x b n (List.map (λx=>x.fst) ({pos:=ar.ref a::bX}:Args).kw)=pure ()from
  λa b n=>check_star_args _ _ _ _ _ _]
 exact aL hq
theorem m5.setAt{C i:Nat}{b:Bool}{fd:Option Nat}{a:bf}{r:List bf}(X:m5 ρ h C b fd a r)(v:ar)(hi:i≠1):m5 ρ (h.update a (lk i v)) C b fd a r:=by
 obtain⟨o,vs,nb,g,k,x,d,sl,z,e⟩:=X;have h1:(lk i v o).dict=o.dict/\(lk i v o).slots=o.slots:=by obtain⟨oc,od,odt,osl⟩:=o;cases d;exact⟨U,U⟩
 exact⟨_,vs.setIfInBounds i v,λq=>by rw[Array.getElem?_setIfInBounds_ne hi];exact nb q,dA _ g (iY (dD d _)),(qQ ..).trans k,h1.1▸x,dD d _,h1.2.trans sl,by rw[lH];exact z,e⟩
theorem ME(G:Gd K.T K.W)(Gy:Gy K.T K.W){as:List J}{us:List ar}(ha:bP (RV ρ) as us):aX K ρ (PW K (call (.builtin "ValueError.__init__") us [])) (Ls as λa b=>nc a λi=>jz b λ_=>gX i λC _ _=>gd (nk K.T C) (M.ret .none)) Rv:=
 aX.as2 (wv:=λus=>PW K (call (.builtin "ValueError.__init__") us [])) ha λa u b v hu hv=>aX.oObj (wv:=λu=>PW K (call (.builtin "ValueError.__init__") [u,v] [])) hu λi ra r e=>aX.oStr (wv:=λv=>PW K (call (.builtin "ValueError.__init__") [.ref ra,v] [])) hv λz t σ ρ' s hp hr ht=>bB.gX λCx fb fd e1=>bB.gd λhC=>bB.put ht U λQ E hQ=>by
  have ea:=b5 hp e;have XK:=G.X.keeps hr.stays;have ae:=Gy.cls Cx hC;obtain⟨o,vs,_,g1,g2,_⟩:=hr.exn e1 ea;obtain⟨cd,hc1,_,_⟩:=ae.cls;have L0:jq (cB K.W.prog K.W.w) s.heap (typeOf (.ref ra)) (.ref Cx):=by refine(qR (part:=_) g1).andThen ?_;exact g2▸.now
  have FV:=eo;unfold clsIn at hc1
  split at hc1
  ·rename_i oc od cd' sl hlk
   obtain rfl:=sI hc1;refine mT (ju FV.init.plain FV.initEntry (yq g1 g2 (XK _ _ hlk) (L0.andThen (hJ XK ae.ve)) ?_));obtain⟨hh,g,d,tt,os⟩:=s;unfold tF.«BaseException.__init__»;refine ay (m:=newTuple _) ?_;unfold newTuple;refine kZ ?_ (by show 1<=gA;refine cP▸?_;decide);have hr1:=hr.push ({cls:=.type "tuple",data:=.seq #[.str z t]}:iS);have X:=hr1.exn e1 ea;have hr2:=hr1.upd ea (.head _) (dw _ ra (lk 0 (.ref hh.objs.size))) (show rO K.T K.W ρ' _ (.exn Cx fb fd) (ra::r)from X.setAt _ (by decide));rw[zP e1]at hr2;obtain⟨o,vs,_,g1,_,_,g4,_,g6,_⟩:=X;obtain⟨old,ho⟩:∃old,vs[0]?=Y old:=⟨_,kK (Nat.lt_of_lt_of_le (by decide) g6)⟩;refine ay (ay (jt g1 g4 ho (ay (kC g1 g4 (Nat.lt_of_lt_of_le (by decide) g6) ?_))));have fin:=hQ ρ' _ tt .none (List.prefix_refl _) hr2 .none;induction old<;>first|exact aL (aL fin)|exact wpAny_letGo (aL fin)
  ·exact nS hc1
end
section
open PySem PySem.W PySem.Calls PyProof.Rows
open Builtin.Str StrLaws
theorem zb:∀c,c<128->Unicode.isDigit c=gQ c:=by decide+kernel
theorem y5:∀c,c<128->Unicode.isAlnum c=uV c:=by decide+kernel
theorem zu:∀c,c<128->Unicode.lowerOf c=[mK c]:=by decide+kernel
theorem zo:∀c,c<128->Unicode.upperOf c=[DW c]:=by decide+kernel
theorem qy{l:List Nat}(h:bV l=S):∀c∈l,c<128:=λc hc=>by have:=List.all_eq_true.mp h c hc;exact Nat.le_of_ble_eq_true this
theorem vh(y:aV):y.cps.contains=isBlank y.cps.toList:=by
 funext c
 show y.cps.contains c=y.cps.toList.any (Nat.beq c);rw[<-Array.contains_toList];induction y.cps.toList with
 |nil=>rfl
 |cons a r ih=>
  rw[List.contains_cons,List.any_cons,ih]
  congr 1
  rw[dL,beq_iff_eq];exact⟨λq=>by rw[q];exact Nat.beq_refl a,λq=>Nat.eq_of_beq_eq_true q⟩
theorem mG(e:List Nat):∀l,ew e l=l.drop (l.takeWhile (isBlank e)).length
 |[]=>rfl
 |c::r=>by unfold ew;induction q:isBlank e c with
  |true=>simp[List.takeWhile_cons,q,mG e r]
  |false=>simp[List.takeWhile_cons,q]
theorem G4{l:List Nat}(k:Nat):l.take (l.length-k)=(l.reverse.drop k).reverse:=by rw[List.drop_reverse,List.reverse_reverse]
theorem qw(x:aV)(i j:Nat):(strSub x i j).cps.toList=(x.cps.toList.drop i).take (j-i):=by unfold strSub;rw[oi,List.extract_eq_take_drop]
theorem zf(x y:aV):(Txt.lstripChars x y).cps.toList=ew y.cps.toList x.cps.toList:=by unfold Txt.lstripChars;rw[W.stripBy_eq];show(strSub x _ _).cps.toList=_;rw[qw,mG,vh];simp only[if_true,kB,if_false];rw[List.take_of_length_le];rw[List.length_drop];exact Nat.le_refl _
theorem BB(x y:aV):(Txt.stripChars x y).cps.toList=mH y.cps.toList x.cps.toList:=by
 unfold Txt.stripChars;rw[W.stripBy_eq];show(strSub x _ _).cps.toList=_;unfold mH;rw[qw,vh];simp only[if_true];rw[mG _ x.cps.toList,mG]
 generalize (x.cps.toList.takeWhile (isBlank y.cps.toList)).length=lo
 rw[<-G4,List.length_drop]
 congr 1
 show x.cps.size-_-lo=x.cps.toList.length-lo-_;have:=ce (xs:=x.cps);show _-(List.takeWhile _ _).length-lo=_-lo-(List.takeWhile _ _).length;exact this▸Nat.sub_right_comm _ _ _
theorem yo{f:Nat->Nat->List Nat}{g:Nat->Nat}:∀(l:List Nat)(k:Nat),(∀i c,l[i]?=Y c->f (k+i) c=[g c])->((l.mapIdx λi c=>(f (k+i) c).toArray).map qS).flatten=l.map g
 |[],k,h=>rfl
 |c::r,k,h=>by
  rw[List.mapIdx_cons,List.map_cons,List.flatten_cons,List.map_cons];have h0:=h 0 c rfl;rw[h0];show g c::_=_
  congr 1
  have:=yo (f:=f) (g:=g) r (k+1) λi d hd=>by have:=h (i+1) d (by simpa using hd);rw[<-this];congr 1;exact Nat.le_antisymm (bE [_,_] [] 0 [] (.a (.a (.v 0) (.l 1)) (.v 1)) (.a (.v 0) (.a (.v 1) (.l 1))) U) (bE [_,_] [] 0 [] (.a (.v 0) (.a (.v 1) (.l 1))) (.a (.a (.v 0) (.l 1)) (.v 1)) U)
  rw[<-this];show((r.mapIdx λi c=>(f (k+(i+1)) c).toArray).map qS).flatten=_;have e:(λi c=>(f (k+(i+1)) c).toArray)=(λi c=>(f (k+1+i) c).toArray):=by
   funext i c
   exact(show k+(i+1)=k+1+i by exact Nat.le_antisymm (bE [_,_] [] 0 [] (.a (.v 0) (.a (.v 1) (.l 1))) (.a (.a (.v 0) (.l 1)) (.v 1)) U) (bE [_,_] [] 0 [] (.a (.a (.v 0) (.l 1)) (.v 1)) (.a (.v 0) (.a (.v 1) (.l 1))) U))▸rfl
  exact e▸rfl
theorem sE(x:aV)(f:Nat->Nat->List Nat)(g:Nat->Nat)(h:∀i c,x.cps[i]?=Y c->f i c=[g c]):(placed x f).toList=x.cps.toList.map g:=by
 unfold placed;rw[Array.toList_flatten,Array.toList_mapIdx];have:=yo (f:=f) (g:=g) x.cps.toList 0 λi c hc=>by rw[Nat.zero_add];exact h i c (by rw[<-ck];exact hc)
 rw[<-this];simp
theorem vc(x:aV)(h:bV x.cps.toList=S):(Txt.lower x).cps.toList=x.cps.toList.map mK:=sE x _ _ λi c hc=>by have hlt:=qy h c (by rw[<-ck]at hc;exact List.mem_of_getElem? hc);unfold Unicode.lowerAt;rw[hc];dsimp only;rw[if_neg,zu c hlt];simp only[ax,beq_iff_eq,not_and];intro q;lia
theorem uK(x:aV)(h:bV x.cps.toList=S):(Txt.upper x).cps.toList=x.cps.toList.map DW:=sE x _ _ λi c hc=>zo c (qy h c (by rw[<-ck]at hc;exact List.mem_of_getElem? hc))
theorem yR{x:aV}{f g:Nat->Bool}(h:∀c∈x.cps.toList,f c=g c):(aI (x.length>0)&&x.cps.all f)=(!x.cps.toList.isEmpty&&x.cps.toList.all g):=by
 have e1:x.cps.all f=x.cps.toList.all g:=by rw[<-Array.all_toList,dL,List.all_eq_true,List.all_eq_true];exact⟨λz c hc=>(h c hc)▸z c hc,λz c hc=>(h c hc).symm▸z c hc⟩
 refine e1▸?_
 congr 1
 show aI (x.cps.size>0)=_;refine ce▸?_;induction x.cps.toList<;>simp
theorem oD(x:aV)(c i:Nat):subAt x ⟨#[c]⟩ i=aI (x.cps.toList[i]?=Y c):=by
 unfold subAt;rw[dL,beq_iff_eq,decide_eq_true_iff];rw[<-sb,oi,List.extract_eq_take_drop];show List.take (i+1-i) _=[c]↔_;rw[show i+1-i=1 by lia]
 generalize x.cps.toList=l
 have e:l[i]?=(l.drop i)[0]?:=by simp
 rw[e];cases l.drop i<;>simp
theorem yE{s sub:aV}{hi limit:Nat}:∀(l:List Nat)(st:Array Nat×Nat),limit<=st.1.size->(forIn l st (gi s sub hi limit)).run.fst=st.1
 |[],st,h=>rfl
 |a::l,st,h=>by rw[List.forIn_cons];unfold gi;rw[if_neg (λq=>by lia)];exact yE l _ h
theorem zJ(c:Nat):∀(r:List Nat)(n:Nat),iw c r n=-1\/(n:Int)<=iw c r n
 |[],n=>.inl rfl
 |d::r,n=>by unfold iw;cases Nat.beq d c with
  |true=>exact .inr (Int.le_refl _)
  |false=>
   rcases zJ c r (n+1)with h|h
   ·exact .inl h
   ·right;dsimp only[cond];exact eN (yL (Nat.le_succ _)) h
theorem CS(x:aV)(c:Nat):∀(k i:Nat),i+k=x.length+1->(forIn (List.range' i k) ((#[]:Array Nat),0) (gi x ⟨#[c]⟩ x.length 1)).run.fst.toList=(bif aI (iw c (x.cps.toList.drop i) i=-1)then[]else[(iw c (x.cps.toList.drop i) i).toNat])
 |0,i,h=>by have:x.cps.toList.drop i=[]:=List.drop_eq_nil_of_le (by rw[ce];show x.length<=i;exact bE [_,_] [(.a (.v 1) (.l 1),.a (.v 0) (.l 0))] 0 [1] (.v 1) (.v 0) U (JJ h));rw[this];rfl
 |k+1,i,h=>by
  rw[List.range'_succ,List.forIn_cons]
  by_cases hi:x.cps.toList[i]?=Y c
  ·have hlt:i<x.length:=by have:=(List.getElem?_eq_some_iff.mp hi).1;rw[ce]at this;exact this
   have hd:x.cps.toList.drop i=c::x.cps.toList.drop (i+1):=by obtain⟨h1,h2⟩:=List.getElem?_eq_some_iff.mp hi;rw[List.drop_eq_getElem_cons h1,h2]
   have hf:iw c (x.cps.toList.drop i) i=(i:Int):=by rw[hd];unfold iw;rw[show Nat.beq c c=S from Nat.beq_refl c];rfl
   rw[hf];have hne:aI ((i:Int)=-1)=I:=decide_eq_false (by lia);rw[hne];unfold gi;rw[if_pos ⟨⟨⟨by show 0<1;decide,Nat.zero_le _⟩,by show i+1<=x.length;exact hlt⟩,by rw[oD];exact decide_eq_true hi⟩];have:=yE (s:=x) (sub:=⟨#[c]⟩) (hi:=x.length) (limit:=1) (List.range' (i+1) k) (#[i],i+1) (Nat.le_refl _);exact congrArg qS this
  ·have hb:gi x ⟨#[c]⟩ x.length 1 i ((#[]:Array Nat),0)=pure (eG (#[],0)):=by unfold gi;rw[if_neg];rintro⟨_,q⟩;rw[oD]at q;exact hi (of_decide_eq_true q)
   rw[hb];show(forIn (List.range' (i+1) k) ((#[]:Array Nat),0) (gi x ⟨#[c]⟩ x.length 1)).run.fst.toList=_;rw[CS x c k (i+1) (by exact Nat.le_antisymm (bE [_,_,_] [(.a (.v 0) (.a (.v 1) (.l 1)),.a (.v 2) (.l 1))] 0 [1] (.a (.a (.v 0) (.l 1)) (.v 1)) (.a (.v 2) (.l 1)) U (Hk h)) (bE [_,_,_] [(.a (.v 2) (.l 1),.a (.v 0) (.a (.v 1) (.l 1)))] 0 [1] (.a (.v 2) (.l 1)) (.a (.a (.v 0) (.l 1)) (.v 1)) U (JJ h)))];have:iw c (x.cps.toList.drop i) i=iw c (x.cps.toList.drop (i+1)) (i+1):=by induction hq:x.cps.toList.drop i with
    |nil=>
     have:x.cps.toList.drop (i+1)=[]:=by rw[List.drop_eq_nil_iff]at hq⊢;exact bE [_,_] [(.v 0,.v 1)] 0 [1] (.v 0) (.a (.v 1) (.l 1)) U hq
     rw[this];rfl
    |cons d r=>
     have h1:x.cps.toList[i]?=Y d:=by have:=List.getElem?_drop (xs:=x.cps.toList) (i:=i) (j:=0);rw[hq]at this;simpa using this.symm
     have h2:x.cps.toList.drop (i+1)=r:=by have:=List.drop_drop (i:=1) (j:=i) (l:=x.cps.toList);rw[hq]at this;exact this.symm
     rw[h2]
     conv=>lhs;unfold iw
     have:Nat.beq d c=I:=by induction z:Nat.beq d c with
      |false=>rfl
      |true=>rw[Nat.eq_of_beq_eq_true z]at h1;exact absurd h1 hi
     rw[this];rfl
   rw[this]
theorem Ew(x:aV)(c:Nat):Txt.find x ⟨#[c]⟩=iw c x.cps.toList 0:=by unfold Txt.find;rw[occ_eq];rw[show x.length+1-0=x.length+1 by exact U,CS x c (x.length+1) 0 (by exact Nat.le_antisymm (bE [_] [] 0 [] (.a (.l 0) (.a (.v 0) (.l 1))) (.a (.v 0) (.l 1)) U) (bE [_] [] 0 [] (.a (.v 0) (.l 1)) (.a (.l 0) (.a (.v 0) (.l 1))) U))];refine List.drop_zero▸?_;induction q:aI (iw c x.cps.toList 0=-1)with
 |true=>exact(of_decide_eq_true q).symm
 |false=>
  have:=of_decide_eq_false q;rcases zJ c x.cps.toList 0 with h|h
  ·exact absurd h this
  ·show((iw c x.cps.toList 0).toNat:Int)=_
   exact eT h
end
section
open PySem PySem.W PySem.Calls PyProof.Rows
open Builtin.Str StrLaws
noncomputable def nB(l:List Nat)(c i k:Nat):List Nat:=(List.range' i k).filter λj=>aI (l[j]?=Y c)
theorem xX(x:aV)(c:Nat):∀(k i:Nat)(acc:Array Nat)(f:Nat),i+k=x.length+1->f<=i->acc.size+k<=x.length+1->
  (forIn (List.range' i k) (acc,f) (gi x ⟨#[c]⟩ x.length (x.length+1))).run.fst.toList=acc.toList++nB x.cps.toList c i k
 |0,i,acc,f,h,hf,ha=>by simp[nB]
 |k+1,i,acc,f,h,hf,ha=>by
  rw[List.range'_succ,List.forIn_cons];unfold nB;rw[List.range'_succ,List.filter_cons]
  by_cases hi:x.cps.toList[i]?=Y c
  ·have hlt:i<x.length:=by have:=(List.getElem?_eq_some_iff.mp hi).1;rw[ce]at this;exact this
   have hb:gi x ⟨#[c]⟩ x.length (x.length+1) i (acc,f)=pure (eG (acc.push i,i+1)):=by unfold gi;exact if_pos ⟨⟨⟨by show acc.size<_;exact bE [_,_,_] [(.a (.v 0) (.a (.v 1) (.l 1)),.a (.v 2) (.l 1))] 0 [1] (.a (.v 0) (.l 1)) (.a (.v 2) (.l 1)) U ha,hf⟩,by show i+1<=x.length;exact hlt⟩,by rw[oD];exact decide_eq_true hi⟩
   rw[hb];show(forIn (List.range' (i+1) k) (acc.push i,i+1) (gi x ⟨#[c]⟩ x.length (x.length+1))).run.fst.toList=_;rw[xX x c k (i+1) (acc.push i) (i+1) (by exact Nat.le_antisymm (bE [_,_,_] [(.a (.v 0) (.a (.v 1) (.l 1)),.a (.v 2) (.l 1))] 0 [1] (.a (.a (.v 0) (.l 1)) (.v 1)) (.a (.v 2) (.l 1)) U (Hk h)) (bE [_,_,_] [(.a (.v 2) (.l 1),.a (.v 0) (.a (.v 1) (.l 1)))] 0 [1] (.a (.v 2) (.l 1)) (.a (.a (.v 0) (.l 1)) (.v 1)) U (JJ h))) (Nat.le_refl _) (by rw[Array.size_push];lia)];rw[if_pos (decide_eq_true hi)];simp[nB]
  ·have hb:gi x ⟨#[c]⟩ x.length (x.length+1) i (acc,f)=pure (eG (acc,f)):=by unfold gi;rw[if_neg];rintro⟨_,q⟩;rw[oD]at q;exact hi (of_decide_eq_true q)
   rw[hb];show(forIn (List.range' (i+1) k) (acc,f) (gi x ⟨#[c]⟩ x.length (x.length+1))).run.fst.toList=_;rw[xX x c k (i+1) acc f (by exact Nat.le_antisymm (bE [_,_,_] [(.a (.v 0) (.a (.v 1) (.l 1)),.a (.v 2) (.l 1))] 0 [1] (.a (.a (.v 0) (.l 1)) (.v 1)) (.a (.v 2) (.l 1)) U (Hk h)) (bE [_,_,_] [(.a (.v 2) (.l 1),.a (.v 0) (.a (.v 1) (.l 1)))] 0 [1] (.a (.v 2) (.l 1)) (.a (.a (.v 0) (.l 1)) (.v 1)) U (JJ h))) (by exact bE [_,_] [(.v 0,.v 1)] 0 [1] (.v 0) (.a (.v 1) (.l 1)) U hf) (by exact bE [_,_,_] [(.a (.v 0) (.a (.v 1) (.l 1)),.a (.v 2) (.l 1))] 0 [1] (.a (.v 0) (.v 1)) (.a (.v 2) (.l 1)) U ha)];rw[if_neg (by rw[decide_eq_true_iff];exact hi)];rfl
theorem Ej(x:aV)(c:Nat):occurrences x ⟨#[c]⟩ 0 x.length (x.length+1)=nB x.cps.toList c 0 (x.length+1):=by rw[occ_eq,show x.length+1-0=x.length+1 by exact U,xX x c (x.length+1) 0 #[] 0 (by exact Nat.le_antisymm (bE [_] [] 0 [] (.a (.l 0) (.a (.v 0) (.l 1))) (.a (.v 0) (.l 1)) U) (bE [_] [] 0 [] (.a (.v 0) (.l 1)) (.a (.l 0) (.a (.v 0) (.l 1))) U)) (Nat.le_refl _) (by simp)];rfl
theorem DY(l:List Nat)(c n:Nat)(h:l.length<=n):nB l c 0 (n+1)=nB l c 0 n:=by unfold nB;simp only[List.range'_concat,List.filter_append];simp[List.getElem?_eq_none_iff.mpr h]
theorem BZ(l:List Nat)(c:Nat):∀(k s i:Nat),s<=i->i+k=l.length->
  (((s::(nB l c i k).map (·+1)).zip (nB l c i k++[l.length])).map λp=>(l.drop p.1).take (p.2-p.1)).flatten=(l.drop s).take (i-s)++(l.drop i).filter λd=>!Nat.beq d c
 |0,s,i,hs,h=>by have:l.drop i=[]:=List.drop_eq_nil_of_le (by exact bE [_,_] [(.v 1,.a (.v 0) (.l 0))] 0 [1] (.v 1) (.v 0) U (JJ h));simp only[this];simp only[nB,List.range'_zero,List.filter_nil,List.map_nil,List.nil_append,List.zip_cons_cons,List.zip_nil_right,List.map_cons,List.flatten_cons,List.flatten_nil,List.append_nil];simp only[show i=l.length by exact Nat.le_antisymm (bE [_,_] [(.a (.v 0) (.l 0),.v 1)] 0 [1] (.v 0) (.v 1) U (Hk h)) (bE [_,_] [(.v 1,.a (.v 0) (.l 0))] 0 [1] (.v 1) (.v 0) U (JJ h))]
 |k+1,s,i,hs,h=>by
  have hlt:i<l.length:=by exact bE [_,_,_] [(.a (.v 0) (.a (.v 1) (.l 1)),.v 2)] 0 [1] (.a (.v 0) (.l 1)) (.v 2) U (Hk h)
  have hd:l.drop i=l[i]::l.drop (i+1):=List.drop_eq_getElem_cons hlt;have hp:nB l c i (k+1)=if aI (l[i]?=Y c)=S then i::nB l c (i+1) k else nB l c (i+1) k:=by unfold nB;simp only[List.range'_succ,List.filter_cons]
  by_cases hi:l[i]=c
  ·have:l[i]?=Y c:=by simp only[List.getElem?_eq_getElem hlt,hi]
   simp only[hp,if_pos (decide_eq_true this),List.map_cons,List.cons_append,List.zip_cons_cons,List.map_cons,List.flatten_cons];simp only[BZ l c k (i+1) (i+1) (Nat.le_refl _) (by exact Nat.le_antisymm (bE [_,_,_] [(.a (.v 0) (.a (.v 1) (.l 1)),.v 2)] 0 [1] (.a (.a (.v 0) (.l 1)) (.v 1)) (.v 2) U (Hk h)) (bE [_,_,_] [(.v 2,.a (.v 0) (.a (.v 1) (.l 1)))] 0 [1] (.v 2) (.a (.a (.v 0) (.l 1)) (.v 1)) U (JJ h)))];simp only[hd,List.filter_cons];simp only[show(!Nat.beq l[i] c)=I by simp only[hi,Nat.beq_refl];rfl];simp
  ·have:¬l[i]?=Y c:=by simp only[List.getElem?_eq_getElem hlt];simpa using hi
   rw[hp,if_neg (by simp[this]),BZ l c k s (i+1) (by exact bE [_,_] [(.v 0,.v 1)] 0 [1] (.v 0) (.a (.v 1) (.l 1)) U hs) (by exact Nat.le_antisymm (bE [_,_,_] [(.a (.v 0) (.a (.v 1) (.l 1)),.v 2)] 0 [1] (.a (.a (.v 0) (.l 1)) (.v 1)) (.v 2) U (Hk h)) (bE [_,_,_] [(.v 2,.a (.v 0) (.a (.v 1) (.l 1)))] 0 [1] (.v 2) (.a (.a (.v 0) (.l 1)) (.v 1)) U (JJ h)))];simp only[hd,List.filter_cons];have hb:Nat.beq l[i] c=I:=by induction z:Nat.beq l[i] c with
    |false=>rfl
    |true=>exact absurd (Nat.eq_of_beq_eq_true z) hi
   simp only[hb];simp only[Bool.not_false,if_true];rw[show i+1-s=(i-s)+1 by exact Nat.succ_sub hs,List.take_add_one];simp only[List.getElem?_drop,show s+(i-s)=i by exact Nat.add_sub_of_le hs,List.getElem?_eq_getElem hlt];simp
theorem ny(g:Array Nat):∀(ps:List aV)(A:Array Nat),(ps.foldl (λacc p=>acc++g++p.cps) A).toList=A.toList++(ps.map λp=>g.toList++p.cps.toList).flatten
 |[],A=>by simp
 |p::r,A=>by simp only[List.foldl_cons,ny g r];simp
theorem sy:∀ps:List aV,(glued ⟨#[]⟩ ps).cps.toList=(ps.map λp=>p.cps.toList).flatten
 |[]=>rfl
 |p::r=>by show(r.foldl (λacc p=>acc++(#[]:Array Nat)++p.cps) p.cps).toList=_;simp only[ny];simp
theorem EO(x:aV)(c:Nat):(Txt.replace x ⟨#[c]⟩ ⟨#[]⟩).cps.toList=x.cps.toList.filter λd=>!Nat.beq d c:=by
 have hn:x.cps.toList.length=x.length:=ce;have hpc:=BZ x.cps.toList c x.length 0 0 (Nat.le_refl _) (by exact Nat.le_antisymm (bE [_,_] [(.v 1,.v 0)] 0 [1] (.a (.l 0) (.v 1)) (.v 0) U (JJ hn)) (bE [_,_] [(.v 0,.v 1)] 0 [1] (.v 0) (.a (.l 0) (.v 1)) U (Hk hn)));simp only[Nat.sub_self,List.take_zero,List.nil_append,List.drop_zero]at hpc;unfold Txt.replace;rw[Ej,DY _ _ _ (Nat.le_of_eq hn)];have hfin:(glued ⟨#[]⟩ (qT x (nB x.cps.toList c 0 x.length) 1)).cps.toList=x.cps.toList.filter λd=>!Nat.beq d c:=by
  rw[sy,<-hpc];unfold qT;rw[List.map_map,hn]
  congr 2
  funext p
  exact qw x p.1 p.2
 split
 ·rename_i q
  have q1:(nB x.cps.toList c 0 x.length).isEmpty=S:=by
   simp only[dz]at q;rcases q with q|q
   ·exact q
   ·exact absurd q (by simp[aV.length])
  rw[List.isEmpty_iff]at q1;rw[<-hfin,q1];rw[sy];unfold qT;simp[qw];rw[List.take_of_length_le (by rw[hn];exact Nat.le_refl _)]
 ·exact hfin
theorem HM(sep:aV):∀(ps:List aV),(Txt.join sep ps).cps.toList=(match ps with|[]=>[]|p::r=>p.cps.toList++(r.map λq=>sep.cps.toList++q.cps.toList).flatten)
 |[]=>rfl
 |p::r=>by show(r.foldl (λacc p=>acc++sep.cps++p.cps) p.cps).toList=_;simp only[ny]
inductive Wq(ρ:cM)(xs:List J)(vs:List ar)(ys:List (List Nat)):Prop where
 |mk (l:List (aV×qV)) (e:vs=strValues l) (f:ys=l.map λp=>p.1.cps.toList):Wq ρ xs vs ys
theorem Es{ρ:cM}{xs:List J}{vs:List ar}{ys:List (List Nat)}(a:bP (RV ρ) xs vs)(e:lj xs=Y ys):Wq ρ xs vs ys:=by induction a generalizing ys with
 |nil=>obtain rfl:=sI e;exact⟨[],U,U⟩
 |cons p q ih=>obtain⟨x,e1,e⟩:=aA.mp e;obtain⟨y,e2,rfl⟩:=aP.mp e;obtain⟨l,rfl,rfl⟩:=ih e2;induction p with
  |str z t hz=>obtain rfl:=sI e1;exact hz▸⟨(z,t)::l,U,U⟩
  |_=>exact nS e1
theorem uE{sep p:List Nat}:∀{r:List (List Nat)},fX sep (p::r)=p++(r.map λq=>sep++q).flatten
 |[]=>(List.append_nil _).symm
 |q::r=>by show p++(sep++fX sep (q::r))=_;simp only[uE,List.map_cons,List.flatten_cons,List.append_assoc]
theorem EA{sep:aV}(l:List (aV×qV)):(Txt.join sep (l.map (·.1))).cps.toList=fX sep.cps.toList (l.map λp=>p.1.cps.toList):=by simp only[HM];induction l with
 |nil=>rfl
 |cons p r=>show p.1.cps.toList++((r.map (·.1)).map λq=>sep.cps.toList++q.cps.toList).flatten=fX _ (p.1.cps.toList::r.map _);simp only[uE,List.map_map,List.map_map];rfl
theorem yX{sep:List Nat}:∀(l:List (aV×qV)),((l.map (·.1)).map (·.length)).sum+l.length*sep.length<=(fX sep (l.map λp=>p.1.cps.toList)).length+sep.length
 |[]=>by simp
 |[p]=>by simp[fX,aV.length]
 |p::q::r=>by
  have ih:=yX (sep:=sep) (q::r);have h:(fX sep ((p::q::r).map λp=>p.1.cps.toList)).length=p.1.length+(sep.length+(fX sep ((q::r).map λp=>p.1.cps.toList)).length):=by show(p.1.cps.toList++(sep++fX sep _)).length=_;simp only[List.length_append,List.length_append];rfl
  rw[h,List.map_cons,List.map_cons,List.sum_cons,List.length_cons,Nat.add_mul,Nat.one_mul];exact bE [_,_,_,_,_] [(.a (.v 0) (.v 1),.a (.v 2) (.v 3))] 0 [1] (.a (.a (.v 4) (.v 0)) (.a (.v 1) (.v 3))) (.a (.a (.v 4) (.a (.v 3) (.v 2))) (.v 3)) U ih
end
section
open PySem PySem.W PySem.Calls PyProof.Rows
open Builtin.Str StrLaws
variable{T:aT}{W:Wd}{c:Fx}{A:ch}{K:Cx}{σ σ':St}{ρ ρ':cM}{s s₁:aF}{E:ar->aF->Prop}{X:Nat->St->Prop}{h h':cT}{pos:da}{n:Nat}{as:List J}{us:List ar}
theorem eV{m n:Nat}(h:Nat.ble m n=S):m<=n:=Nat.le_of_ble_eq_true h
theorem x8{x:aV}(h:Nat.ble x.cps.toList.length cj=S):x.length<=gA:=by have:=eV h;rw[ce]at this;rw[cP];exact this
theorem CC{y:aV}{l:List Nat}(e:y.cps.toList=l)(h:l.length<=cj):tooLong y.length=I:=by unfold tooLong;rw[<-e,ce]at h;rw[cP];exact decide_eq_false (Nat.not_lt.mpr h)
def Vx(K:Cx)(nm:aV)(id:String):Prop:=∀(ρ:cM)(x:aV)(t:qV)(as:List J)(us:List ar),bP (RV ρ) as us->aX K ρ (PW K (call (.builtin id) (.str x t::us) [])) (g8 nm x.cps.toList as) Rv
def X9(K:Cx)(nm:aV)(id:String):Prop:=∀{s:aF}{E:ar->aF->Prop}{x:aV}{t:qV}{pl:o7 Bool}{Q:ar×List ar->aF->Prop},Q (.builtin id,[.str x t]) s->PW K (hU (.str x t) nm pl) Q E s
def m6(K:Cx)(nm:aV)(id:String):Prop:=X9 K nm id/\Vx K nm id
abbrev sW(K:Cx)(id:String)(x:aV)(t:qV)(us:List ar):WT ar:=PW K (call (.builtin id) (.str x t::us) [])
theorem En{x:List Nat}{as:List J}:g8 "strip" x as=gd (Nat.ble x.length cj) (qH as λa=>jz a λe=>M.ret (.str (mH e x))):=by kernel_rfl
theorem AU{x:List Nat}{as:List J}:g8 "lstrip" x as=gd (Nat.ble x.length cj) (qH as λa=>jz a λe=>M.ret (.str (ew e x))):=by kernel_rfl
theorem EK{x:List Nat}{as:List J}:g8 "lower" x as=gd (Nat.ble x.length cj) (rq as (gd (bV x) (M.ret (.str (x.map mK))))):=by kernel_rfl
theorem ET{x:List Nat}{as:List J}:g8 "upper" x as=gd (Nat.ble x.length cj) (rq as (gd (bV x) (M.ret (.str (x.map DW))))):=by kernel_rfl
theorem GR{x:List Nat}{as:List J}:g8 "find" x as=gd (Nat.ble x.length cj) (qH as λa=>jz a λe=>qH e λc=>M.ret (.int (iw c x 0))):=by kernel_rfl
theorem yT{x:List Nat}{as:List J}:g8 "isdigit" x as=gd (Nat.ble x.length cj) (rq as (gd (bV x) (yes (!x.isEmpty&&x.all gQ)))):=by kernel_rfl
theorem yF{x:List Nat}{as:List J}:g8 "isalnum" x as=gd (Nat.ble x.length cj) (rq as (gd (bV x) (yes (!x.isEmpty&&x.all uV)))):=by kernel_rfl
theorem HQ{x:List Nat}{as:List J}:g8 "join" x as=gd (Nat.ble x.length cj) (qH as λa=>nc a λi=>gL i λxs=>gO (lj xs) λys=>gd (Nat.ble ((fX x ys).length+x.length) cj) (M.ret (.str (fX x ys)))):=by kernel_rfl
theorem JE:m6 K "strip" "str.strip":=⟨by intro s E x t pl Q h;show bY _ _ _ _ _ _;with_reducible exact PySem.GM.strip h,λρ x t as us ha=>by rw[En];exact aX.gd λq=>aX.as1 (wv:=sW K _ x t) ha λa u hv=>aX.oStr (wv:=λu=>sW K _ x t [u]) hv λy t2=>aX.leaf λ_ Q E s _ h=>SC.stripChars (λt' k=>h k _ (.str _ t' (BB x y))) (x8 q)⟩
theorem DX:m6 K "lstrip" "str.lstrip":=⟨by intro s E x t pl Q h;show bY _ _ _ _ _ _;with_reducible exact PySem.GM.lstrip h,λρ x t as us ha=>by rw[AU];exact aX.gd λq=>aX.as1 (wv:=sW K _ x t) ha λa u hv=>aX.oStr (wv:=λu=>sW K _ x t [u]) hv λy t2=>aX.leaf λ_ Q E s _ h=>SC.lstripChars (λt' k=>h k _ (.str _ t' (zf x y))) (x8 q)⟩
theorem Gs:m6 K "lower" "str.lower":=⟨by intro s E x t pl Q h;show bY _ _ _ _ _ _;with_reducible exact PySem.GM.lower h,λρ x t as us ha=>by rw[EK];exact aX.gd λq=>aX.as0 (wv:=sW K _ x t) ha (aX.gd λq2=>aX.leaf λ_ Q E s _ h=>SC.lower (CC (vc x q2) (by rw[List.length_map];exact eV q)) (h _ _ (.str _ _ (vc x q2))))⟩
theorem Ic:m6 K "upper" "str.upper":=⟨by intro s E x t pl Q h;show bY _ _ _ _ _ _;with_reducible exact PySem.GM.upper h,λρ x t as us ha=>by rw[ET];exact aX.gd λq=>aX.as0 (wv:=sW K _ x t) ha (aX.gd λq2=>aX.leaf λ_ Q E s _ h=>SC.upper (CC (uK x q2) (by rw[List.length_map];exact eV q)) (h _ _ (.str _ _ (uK x q2))))⟩
theorem MB:m6 K "find" "str.find":=⟨by intro s E x t pl Q h;show bY _ _ _ _ _ _;with_reducible exact PySem.GM.find h,λρ x t as us ha=>by rw[GR];exact aX.gd λq=>aX.as1 (wv:=sW K _ x t) ha λa u hv=>aX.oStr (wv:=λu=>sW K _ x t [u]) hv λy t2=>aX.on1 λd e=>aX.leaf λ_ Q E s _ h=>by obtain⟨⟨l⟩⟩:=y;cases e;refine SC.find ?_;rw[show Txt.find x {cps:={toList:=[d]}}=_ from Ew x d];exact h _ _ (.int _ _)⟩
theorem Bb:m6 K "isdigit" "str.isdigit":=⟨by intro s E x t pl Q h;show bY _ _ _ _ _ _;with_reducible exact PySem.GM.isdigit h,λρ x t as us ha=>by rw[yT];exact aX.gd λq=>aX.as0 (wv:=sW K _ x t) ha (aX.gd λq2=>aX.leaf λ_ Q E s _ h=>SC.isdigit (by rw[show Txt.isdigit x=_ from yR (g:=gQ) λc hc=>zb c (qy q2 c hc)];exact h _ _ (.bool _)))⟩
theorem Av:m6 K "isalnum" "str.isalnum":=⟨by intro s E x t pl Q h;show bY _ _ _ _ _ _;with_reducible exact PySem.GM.isalnum h,λρ x t as us ha=>by rw[yF];exact aX.gd λq=>aX.as0 (wv:=sW K _ x t) ha (aX.gd λq2=>aX.leaf λ_ Q E s _ h=>SC.isalnum (by rw[show Txt.isalnum x=_ from yR (g:=uV) λc hc=>y5 c (qy q2 c hc)];exact h _ _ (.bool _)))⟩
theorem ML:m6 K "join" "str.join":=⟨by intro s E x t pl Q h;show bY _ _ _ _ _ _;with_reducible exact PySem.GM.join h,λρ x t as us ha=>by rw[HQ];exact aX.gd λq=>aX.as1 (wv:=sW K _ x t) ha λa u hv=>aX.oObj (wv:=λu=>sW K _ x t [u]) hv λi c r e σ ρ' s hp hr ht=>bB.gL λxs e1=>bB.gO λys e2=>bB.gd λq2=>bB.leaf hr ht λQ E h=>by obtain⟨vs,n,g1,l1,_⟩:=hr.list e1 (b5 hp e);obtain⟨l,rfl,rfl⟩:=Es l1 e2;refine SC.join (l:=l) (cF g1) U (joinOk_of ?_) λt' k=>h k _ (.str _ t' (EA l));rw[List.length_map];exact Nat.le_trans (yX (sep:=x.cps.toList) l) (eV q2)⟩
theorem dq{a b:aV}(h:(a==b)=S):a=b:=beq_iff_eq.mp h
theorem Oe{nm:aV}{id:String}(e:KS nm=Y id):m6 K nm id:=by
 have key:∀{x:aV}{i:String}{o:Option String},(∀{nm:aV},(nm==x)=S->m6 K nm i)->(o=Y id->m6 K nm id)->(bif nm==x then Y i else o)=Y id->m6 K nm id:=λ{x i o} H H2 e=>by induction q:nm==x with
  |true=>rw[q]at e;exact(sI e)▸H q
  |false=>rw[q]at e;exact H2 e
 exact key (λq=>dq q▸JE) (key (λq=>dq q▸DX) (key (λq=>dq q▸Gs) (key (λq=>dq q▸Ic) (key (λq=>dq q▸MB) (key (λq=>dq q▸Bb) (key (λq=>dq q▸Av) (key (λq=>dq q▸ML) λe=>by exact nS e))))))) e
end
section
open PySem PySem.W PySem.Calls PyProof.Rows
open Builtin.Str StrLaws
variable{T:aT}{W:Wd}{c:Fx}{A:ch}{K:Cx}{σ σ':St}{ρ ρ':cM}{s s₁:aF}{E:ar->aF->Prop}{X:Nat->St->Prop}{h h':cT}{pos:da}{n:Nat}{as:List J}{us:List ar}{a:J}{u:ar}
theorem xN{x:aV}{d:Nat}(h:x.cps.toList=[d]):x=⟨#[d]⟩:=by obtain⟨⟨l⟩⟩:=x;cases h;rfl
abbrev bW(K:Cx)(n:String)(u:ar):WT ar:=PW K (call (.builtin n) [u] [])
abbrev tW(K:Cx)(n:String)(u:ar):WT ar:=PW K (call (.type n) [u] [])
theorem N9{n:Nat}(h:n<=16777216):(n:Int)<2^63:=gW (gh.mpr h) (show(16777216:Int)<2^63 by decide)
theorem Rr(ha:RV ρ a u):aX K ρ (bW K "len" u) (TT a) Rv:=by induction ha with
 |str z t e=>subst e;exact aX.gd λq=>aX.leaf λ_ Q E s _ h=>PySem.P.len_str (kt.mpr (N9 (cP▸x8 q))) (h _ _ (by exact(show z.length=z.cps.toList.length from ce.symm)▸.int _ _))
 |obj ea=>
  refine λσ ρ' s hp hr ht=>bB.gL λxs e1=>bB.gd λq=>bB.leaf hr ht λQ E h=>?_;obtain⟨vs,n,g1,l1,_⟩:=hr.list e1 (b5 hp ea);have e2:vs.toArray.size=xs.length:=by rw[List.size_toArray,l1.length]
  refine PySem.Calls.call_len_list (cF g1) (by exact e2▸N9 (eV q)) ?_;exact e2▸h _ _ (.int _ _)
 |_=>exact aX.no
theorem KV(i:Int):(if i<0 then-i else i)=((i.natAbs:Nat):Int):=by split<;>omega
theorem Ky(id:String):pT K (.builtin id) (nA id):=λρ as us ha=>aX.as1 (wv:=λus=>PW K (call (.builtin id) us [])) ha λa u hu=>
 aX.bif (λq=>by exact(eq_of_beq q)▸Rr hu) λ_=>aX.bif (λq=>by
  exact(eq_of_beq q)▸aX.oInt (wv:=bW K "abs") hu λi t=>aX.leaf λ_ Q E s _ h=>PyProof.Rows.call_abs_int λu tk=>by rw[KV];exact h _ _ (.int _ _)) λ_=>aX.bif (λq=>by
  exact(eq_of_beq q)▸aX.oInt (wv:=bW K "chr") hu λi t=>aX.gd λq=>aX.leaf λ_ Q E s _ h=>by rw[ax,decide_eq_true_eq,decide_eq_true_eq]at q;exact PyProof.Rows.chr_of_range q.1 (eN (iO q.2) (show(128:Int)<=1114111 by decide)) (h _ _ (.str _ _ U))) λ_=>aX.bif (λq=>by
  exact(eq_of_beq q)▸aX.oStr (wv:=bW K "ord") hu λz t=>aX.on1 λd e=>aX.leaf λ_ Q E s _ h=>by exact(xN e)▸PySem.P.ord_of_char (h _ _ (.int _ _))) λ_=>aX.no
theorem J7(i:Int):(am (toString i)).cps.toList=sO i:=by rw[aV.ofString_eq_toList];show(toString i).toList.map vk=_;unfold sO;induction i with
 |ofNat n=>refine(show aI (Int.ofNat n<0)=I from decide_eq_false (dh.mpr (d8 n)))▸?_;rfl
 |negSucc n=>refine(decide_eq_true (Int.negSucc_lt_zero n))▸?_;show(("-"++toString (n+1)):String).toList.map vk=_;refine String.toList_append▸List.map_append▸?_;rfl
theorem Gg:∀d,d<58->gQ d=S->vv ⟨#[d]⟩=Y ((d-48:Nat):Int):=by decide+kernel
theorem Cf{d:Nat}(h:gQ d=S):vv ⟨#[d]⟩=Y ((d-48:Nat):Int):=Gg d (Nat.lt_succ_of_le (eV (bN.mp h).2)) h
theorem Ec{i:Int}(h:small i=S):i.natAbs.log2<1920:=by
 have h':i.natAbs<2^63:=of_decide_eq_true h
 by_cases h0:i.natAbs=0
 ·rw[h0];decide
 ·exact Nat.lt_trans ((Nat.log2_lt h0).mpr h') (by decide)
theorem KQ{es:List (List Nat×J)}{kvs:List (aV×ar)}(r:bP (yz ρ) es kvs):∀{vs:List ar},bP (λ(q:aV×ar)(v:ar)=>∃t:qV,v=.str q.1 t) kvs vs->∀ρ',bP (RV ρ') (es.map λp=>J.str p.1) vs:=by induction r with
 |nil=>intro vs h ρ';cases h;exact .nil
 |cons p _ ih=>intro vs h ρ';cases h with
  |cons p2 q2=>obtain⟨t,rfl⟩:=p2;exact .cons (.str _ t p.1) (ih q2 ρ')
theorem JM:∀{kvs:List (aV×ar)}{C:List ar->Prop},(∀vs,bP (λ(q:aV×ar)(v:ar)=>∃t:qV,v=.str q.1 t) kvs vs->C vs)->KdlKeysS kvs C
 |[],C,h=>h [] .nil
 |q::r,C,h=>λt=>JM λvs hv=>h _ (.cons ⟨t,U⟩ hv)
theorem Ln(C:fB K.c K.A)(ha:RV ρ a u):aX K ρ (tW K "list" u) (DE a) Rv:=aX.oObj (wv:=tW K "list") ha λi c r e σ ρ' s hp hr ht=>bB.gH λo e1=>by have ea:=b5 hp e;induction o with
 |list xs=>
  refine bB.gd λq=>bB.put ht U λQ E h=>?_;obtain⟨vs,n,g1,l1,_⟩:=hr.list e1 ea;exact PySem.call_list_seq c (.inl U) g1 U U (λh' c' kk g2=>h _ h' s.toks _ (List.prefix_append _ _) (hr.new (as:=[s.heap.objs.size]) (λm F=>F.keeps kk) (λb hb o ho=>kk b o ho) (List.nodup_cons.mpr ⟨List.not_mem_nil,List.nodup_nil⟩) (λb hb=>(List.mem_singleton.mp hb)▸hr.free)
   (.list (vs:=vs) (n:=c') g2 (l1.mono λ_ _=>RV.mono (List.prefix_append _ _)))) (RV.new hr)) (by exact List.size_toArray▸l1.length▸cP▸eV q)
 |dict es=>
  intro Q E hw;obtain⟨vy,hw⟩:=oI (cg hw);have hh:=C.hand (by exact hr.hand▸vy▸rfl);refine bB.gd (K:=K) (R:=Rv) (q:=Nat.ble es.length cj) (m:=o5 (.list (es.map λp=>.str p.1))) (w:=tW K "list" (.ref c)) (λq=>bB.put ht U λQ E hq=>?_) Q E hw;obtain⟨ds,n,g1,l1,nd,ns,_⟩:=hr.dict e1 ea;obtain⟨kvs,p1,p2⟩:=yB l1;have hd:s.heap.DictOf (lF K.W.prog K.W.w) c kvs:=⟨_,ds.toArray,n,g1,⟨U,U,U⟩,U,wM l1,p1,wJ p2 nd⟩;obtain⟨o,ho,hD⟩:=m9.mp hd;rw[g1]at ho;obtain rfl:=sI ho;obtain⟨m,F,_⟩:=hr.fr;have hm:c∈addrs K.c ρ':=fW ea (.head _);refine kdl_list_keysS hh F (hr.newsCons hm g1) (.head _) hD ns (by exact p2.length▸eV q) λag n2 h' tk=>JM λvs hvs F' N' hab=>?_;have f1:ng K.W K.c ρ' ag:=x4 (L:=0) hr N' (.head _) c (λ_=>Nat.ne_of_lt (hab (c,_) (.head _))) λp hp=>hab p (.tail _ hp);have kk:∀b∈addrs K.c ρ',m0 s.heap h' b:=λb hb o ho=>by
   by_cases q:b=c
   ·obtain rfl:=Eq.symm q
    rw[g1]at ho;exact(sI ho)▸(N' _ (.tail _ (.head _))).1
   ·exact(N' (b,o) (.tail _ (.tail _ (kX hb q ho)))).1
  exact hq _ h' tk _ (List.prefix_append _ _) (hr.new (o:=.list (es.map λp=>.str p.1)) (as:=[ag]) (λm' Fm=>by exact(ow Fm.ns F.ns)▸F') kk (List.nodup_cons.mpr ⟨List.not_mem_nil,List.nodup_nil⟩) (λb hb=>(List.mem_singleton.mp hb)▸f1) (.list (vs:=vs) (n:=n2) (N' _ (.head _)).1 (KQ p2 hvs _))) (RV.new hr)
 |_=>exact bB.no
theorem LC(ha:RV ρ a u):aX K ρ (tW K "str" u) (T0 a) Rv:=by induction ha with
 |int i t=>exact aX.gd λq=>aX.leaf λ_ Q E s _ h=>PySem.P.str_of_int (Ec q) (h _ _ (.str _ _ (J7 i)))
 |str z t e=>exact aX.leaf λ_ Q E s _ h=>PySem.P.str_of_str (h s.toks _ (.str _ _ e))
 |_=>exact aX.no
theorem KC(C:fB K.c K.A)(id:String):pT K (.type id) (pG id):=λρ as us ha=>aX.as1 (wv:=λus=>PW K (call (.type id) us [])) ha λa u hu=>aX.bif (λq=>by exact(eq_of_beq q)▸LC hu) λ_=>aX.bif (λq=>by exact(eq_of_beq q)▸aX.oStr (wv:=tW K "int") hu λz t=>aX.on1 λd e=>aX.gd λq=>aX.leaf λ_ Q E s _ h=>by exact(xN e)▸PySem.W.KIN.call_text (Cf q) (by show 1<=640;decide) (h _ _ (.int _ _))) λ_=>aX.bif (λq=>by exact(eq_of_beq q)▸Ln C hu) λ_=>aX.no
end
section
open PySem PySem.W PySem.Calls PyProof.Rows
variable{T:aT}{W:Wd}{c:Fx}{A:ch}{K:Cx}{σ σ':St}{ρ ρ':cM}{s s₁:aF}{E:ar->aF->Prop}{X:Nat->St->Prop}{h h':cT}{pos ap cp fp:da}{Γ:cI}{n:Nat}{as:List J}{us:List ar}{a:J}{u:ar}
structure Un(W:Wd)(ak:Nat):Prop where
 get:n6 W.K ak "__class__"=S
 dict:mm W.K ak=S
 find:eF W.K (.ref ak) "__class__"=Y (Y (.builtin "object.__class__"))
 spec:rY W.K (.builtin "object.__class__") "__get__"=Y (Y (.builtin "getset_descriptor.__get__"))
 takes:takesIn W.K (.builtin "object.__class__")=Y S
 mro:mroIn W.K ak (.type "object")=Y S
noncomputable abbrev FP:List String:=["int","str","bool","NoneType"]
structure Gi(W:Wd):Prop where
 cc:∀ak C,pg ak=S->wq C=S->iQ W.K (.ref ak) (.ref C)=Y (uB ak C)
 ct:∀ak n,pg ak=S->sU n=S->iQ W.K (.ref ak) (.type n)=Y I
 bc:∀n C,n∈FP->wq C=S->iQ W.K (.type n) (.ref C)=Y I
 bt:∀n m,n∈FP->sU m=S->iQ W.K (.type n) (.type m)=Y (n==m||(n=="bool"&&m=="int"))
 own:∀ak,pg ak=S->Un W ak
structure Fe(K:Cx)(Γ:cI)(k:Nat):Prop extends Fd K where
 m:Gm K.T K.W
 y:Gy K.T K.W
 w:Gw K.T K.W
 i:Gi K.W
 GO:mZ K.T K.W k Γ
 R:cw K.A k
theorem Bw(F:Fe K Γ n){Cx:Nat}:pT K (.ref Cx) (wE K.T Γ Cx):=by induction q:nk K.T Cx with
 |true=>exact JS F.g F.w F.GO F.C F.R q
 |false=>exact JX F.g F.m F.GO F.C F.R q
inductive G1(K:Cx)(u:ar)(m:List J->List (Nat×J)->M J):Prop where
 |mk (k:wd K.W u) (r:wm K u m):G1 K u m
theorem Ca(F:Fe K Γ n){v:J}(hv:kr K.T v=S)(hR:RV ρ v u):G1 K u (pq K.T Γ v):=by induction hR with
 |bi id=>exact⟨iI id,(Ky id).rule⟩
 |ty id=>exact⟨Fq id,(KC F.C id).rule⟩
 |sref a=>induction e:(d5 a K.T.meth).isSome with
  |true=>refine⟨tC (F.m.keepC a e),?_⟩;show wm K (.ref a) (λas ks=>bif(d5 a K.T.meth).isSome then rq ks (wE K.T Γ a as)else fK Γ a as ks);exact e▸(Bw F).rule
  |false=>
   refine⟨tC (F.m.keepF a ?_),?_⟩
   ·have hv:((d5 a K.T.meth).isSome||K.T.fns.any (Nat.beq a))=S:=hv
    rw[e,gC]at hv;exact hv
   ·show wm K (.ref a) (λas ks=>bif(d5 a K.T.meth).isSome then rq ks (wE K.T Γ a as)else fK Γ a as ks)
    exact e▸(F.GO K.c K.A a F.C F.R.call).rule
 |_=>exact nT hv
theorem E6(F:Fe K Γ n){f:aV}{v:J}{as:List Expr}{ks:List eU}{ms:List (M J)}{kms:List (Nat×M J)}(hg:iM K.c.V f=S)(hv:K.T.glob.lookup f=Y v)(i:fT K as ms)(ik:su K ks kms):b8 K (.Call (.Name f fp) as ks cp) (aN K.T Γ v ms kms):=λρ=>aX.gd λq σ ρ' s hp hr ht Q E hw=>kA (jV F.g F.C hg hv hr λu hR=>by obtain⟨k1,k2⟩:=Ca F q (hR ρ');exact yu (fs:=[]) F.g k1 i ik k2 .nil σ ρ' s (List.prefix_refl _) hr ht Q E hw)
theorem EB:b8 K (.Dict [] [] pos) jw:=λρ σ ρ' s hp hr ht=>bB.go U λQ E h=>wpAny_Dict_empty (h _ _ s.toks _ (List.prefix_append _ _) (hr.newPush _ (.dict (ds:=[]) (n:=0) (bA _ U) .nil List.nodup_nil hr.sysSize)) (RV.new hr) ht)
theorem aX.pure1{α β γ:Type}{t:o7 α}{w:α->WT γ}{m:M β}{R:cM->β->γ->Prop}{C:α->Prop}(H:∀Q E s,(∀tk a,C a->Q a (eH s s.heap tk))->PW K t Q E s)(af:∀a,C a->aX K ρ (w a) m R):aX K ρ (λQ E s=>PW K t (λa s'=>w a Q E s') E s) m R:=λσ ρ' s hp hr ht Q E h=>cq (n:=1) ht (H _ _ s λtk a c htk=>af a c σ ρ' (eH s s.heap tk) hp hr htk Q E h)
def Ob(K:Cx)(out:aV)(es:List Expr)(v:ar):WT ar:=λQ E s=>match v with
 |.str y _=>(out++y).length<=gA/\PW K (joinParts (out++y) (evalEach es K.c.env)) Q E s
 |_=>False
inductive mW(K:Cx):List Expr->List (M J)->Prop where
 |nil:mW K [] []
 |no {e:Expr} {es:List Expr} {ms:List (M J)}:mW K (e::es) (M.no::ms)
 |con {k:Nat} {p:da} {x:aV} {es:List Expr} {ms:List (M J)}:mW K es ms->mW K (.Constant (.str x) k p::es) (D (.str x.cps.toList)::ms)
 |fmt {e:Expr} {p:da} {m:M J} {es:List Expr} {ms:List (M J)}:b8 K e m->mW K es ms->mW K (.FormattedValue e (-1) .none p::es) (m::ms)
theorem qu{out y:aV}{acc:List Nat}(ho:out.cps.toList=acc):(out++y).cps.toList=acc++y.cps.toList:=by rw[xo,ho]
theorem xW{x:aV}{l:List Nat}(e:x.cps.toList=l)(q:l.length<=cj):x.length<=gA:=by rw[<-e,ce]at q;rw[cP];exact q
theorem Sf{es:List Expr}{ms:List (M J)}(i:mW K es ms):∀{ρ:cM}{acc:List Nat}{out:aV},out.cps.toList=acc->acc.length<=cj->aX K ρ (PW K (joinParts out (evalEach es K.c.env))) (mO acc ms) Rv:=by induction i with
 |nil=>exact λ{_ _ out} ho hl=>aX.leaf λ_ Q E s _ h=>joinParts_nil (h _ _ (.str out _ ho)) (xW ho hl)
 |no=>exact λ_ _=>(aX.no:aX K _ _ M.no Rv)
 |@con k p x es ms _ ih=>intro ρ acc out ho hl;show aX K ρ _ ((D (.str x.cps.toList)).bind λv=>jz v λx=>gd (Nat.ble (acc++x).length cj) (mO (acc++x) ms)) Rv;exact((jX (K:=K) (pos:=p) (k:=.str x) k U ρ).bind λρ1 va a p1 ha=>aX.oStr (wv:=Ob K out es) ha λy t=>aX.gd λq=>(ih (qu ho) (eV q)).pre λQ E s h=>⟨xW (qu ho) (eV q),h⟩).pre λQ E s h=>joinParts_cons (bu h (λv s h=>by induction v<;>exact h) λ_ _ x=>x)
 |@fmt e p m es ms ie _ ih=>
  intro ρ acc out ho hl;show aX K ρ _ (m.bind λv=>jz v λx=>gd (Nat.ble (acc++x).length cj) (mO (acc++x) ms)) Rv;exact((ie ρ).bind λρ1 va a p1 ha=>aX.oStr (wv:=λv Q E s=>PW K (formatField v se) (λv s=>Ob K out es v Q E s) E s) ha λy t=>aX.gd λq=>aX.pure1 (C:=λv=>∃t',v=.str y t')
   (λQ E s h=>formatField_str (λt' tk=>h tk _ ⟨t',U⟩) (xW U (Nat.le_trans (by exact List.length_append▸Nat.le_add_left _ _) (eV q)))) λv hv=>by obtain⟨t',rfl⟩:=hv;exact(ih (qu ho) (eV q)).pre λQ E s h=>⟨xW (qu ho) (eV q),h⟩).pre λQ E s h=>joinParts_cons (bu (wpAny_FormattedValue_plain h) (λv s h=>by induction v<;>exact h) λ_ _ x=>x)
theorem Kx{e1 e2:Expr}{es:List Expr}{ms:List (M J)}(i:mW K (e1::e2::es) ms):b8 K (.JoinedStr (e1::e2::es) pos) (yO ms):=λρ=>(Sf i (acc:=[]) (out:=se) U (Nat.zero_le _)).pre λQ E s h=>JoinedStr_many h
def MW(K:Cx)(cp:da)(name:aV)(as:List Expr)(ov:ar):WT ar:=λQ E s=>∀pl,PW K (hU ov name pl) (λp s₂=>PW K (n9 cp p.1 p.2 (gY cp (dF as K.c.env)) (f7 cp (dH [] K.c.env))) Q E s₂) E s
theorem Jr{es:List Expr}{ms:List (M J)}(i:fT K es ms):(gY pos (dF es K.c.env)).all (λx=>!x.1)=S:=by induction i with
 |nil=>rfl
 |cons he ie _ ih=>rw[fF he];exact ih
theorem ry{o:Expr}{name:aV}{as:List Expr}{ms:List (M J)}{Q:ar->aF->Prop}(hs:nQ o=S)(pC:(ap.endLine==cp.line)=S)(hp:jo as=S)(i:fT K as ms)
  (h:PW K (rV o K.c.env) (λov s₁=>MW K cp name as ov Q E s₁) E s):PW K (rV (.Call (.Attribute o name ap) as [] cp) K.c.env) Q E s:=by
 show bY _ _ _ _ _ _;rw[arm_eval_Call,lO hs];refine ay (bu h (λov s₁ h₁=>ay (cX ?_)) λ_ _ e=>e);have hform:methodCallForm (as.length+([]:List eU).length) (gY cp (dF as K.c.env)) (f7 cp (dH [] K.c.env))=S:=by have jC:=eV (bN.mp hp).2;unfold methodCallForm;rw[Jr i];simp[f7,dH];exact bE [_] [(.v 0,.l 20)] 0 [1] (.a (.v 0) (.l 1)) (.l 30) U jC
 have hpos:methodCallPos S o K.c.env ap cp=pure cp:=by unfold methodCallPos;rw[pC];rfl
 unfold methodCall;refine hform▸?_;refine ay (bS ?_);unfold calleeOf;refine(if_pos U)▸?_;exact bu (h₁ _) (λp s₂ h₂=>ay (wpAny_of_eq hpos h₂)) λ_ _ e=>e
theorem j0(G:Gd K.T K.W){f:ar}{first:List ar}{es:List Expr}{ms:List (M J)}{m:List J->M J}(hk:wd K.W f)(i:fT K es ms)
  (cr:∀ρ1 as us,ρ<+:ρ1->bP (RV ρ1) as us->aX K ρ1 (PW K (call f (first++us) [])) (m as) Rv):aX K ρ (PW K (n9 pos f first (gY pos (dF es K.c.env)) (f7 pos (dH [] K.c.env)))) ((df ms).bind m) Rv:=
 ((qr (pos:=pos) i ρ).bind λρ1 us as p1 hl=>(cr ρ1 as us p1 hl).side (P:=K.W.K.In) λ_ _ _ hr=>G.X.keeps hr.stays).pre λQ E s h=>jr (P:=K.W.K.In) (by rw[kb i];rfl) hk (g9 i U (bu h (λvs s h=>eP h) λ_ _ x=>x))
theorem Nq{name:aV}{as:List Expr}{ov:ar}{m:M J}{f:ar}{first:List ar}(H:∀(Q:ar×List ar->aF->Prop) E s,(∀tk,Q (f,first) (eH s s.heap tk))->∀pl,PW K (hU ov name pl) Q E s)
  (af:aX K ρ (PW K (n9 cp f first (gY cp (dF as K.c.env)) (f7 cp (dH [] K.c.env)))) m Rv):aX K ρ (MW K cp name as ov) m Rv:=λσ ρ' s hp hr ht Q E h pl=>
 aX.pure1 (K:=K) (ρ:=ρ) (R:=Rv) (t:=hU ov name pl) (w:=λp=>PW K (n9 cp p.1 p.2 (gY cp (dF as K.c.env)) (f7 cp (dH [] K.c.env)))) (C:=λp=>p=(f,first)) (λQ E s h=>H Q E s (λtk=>h tk _ U) pl) (λp e=>e▸af) σ ρ' s hp hr ht Q E h
end
section
open PySem PySem.W PySem.Calls PyProof.Rows
variable{T:aT}{W:Wd}{c:Fx}{A:ch}{K:Cx}{σ σ':St}{ρ ρ':cM}{s s₁:aF}{E:ar->aF->Prop}{X:Nat->St->Prop}{h h':cT}{pos ap cp fp:da}{Γ:cI}{n:Nat}{as:List J}{us:List ar}{a:J}{u:ar}
theorem By{i:Nat}{b:bf}{r:List bf}(ea:ρ[i]?=Y (b::r))(ha:bP (RV ρ) as us):aX K ρ (PW K (call (.builtin "list.append") (.ref b::us) [])) (qH as λv=>gL i λxs=>gd (Nat.blt xs.length cj) ((u7 i (.list (xs++[v]))).bind λ_=>M.ret .none)) Rv:=
 aX.as1 (wv:=λus=>PW K (call (.builtin "list.append") (.ref b::us) [])) ha λv u hv σ ρ' s hp hr ht=>bB.gL λxs e1=>bB.gd λq=>bB.put ht U λQ E h=>by obtain⟨vs,k,g1,l1,_⟩:=hr.list e1 (b5 hp ea);exact append_at g1 (λh' hs g=>h ρ' h' s.toks .none (List.prefix_refl _) (hr.upd (b5 hp ea) (.head _) hs (show rO K.T K.W ρ' h' (.list (xs++[v])) (b::r)from(⟨vs++[u],k+1,by rw[g,List.push_toArray],l1.append (.cons (hv.mono hp) .nil),by assumption⟩:tU ρ' h' (xs++[v]) b r))) .none) (by rw[List.size_toArray,<-l1.length,cP];exact Nat.le_of_lt (eV q))
theorem Et{d:bf}{es:List (List Nat×J)}{ds:List b7}{k:Nat}{x:aV}{t:qV}{Q:ar->aF->Prop}(g:s.heap.get? d=Y (fJ ds k))(l:bP (mJ K.W ρ) es ds)(ns:(d==fZ)=I)
  (h:∀u,RV ρ ((fG x.cps.toList es).getD .none) u->Q u (eH s s.heap (s.toks+1))):PW K (call (.builtin "dict.get") [.ref d,.str x t] []) Q E s:=by
 have hm:=kn (n:=k) g l;refine qU eA hm.typeIs iR (PySem.F.args_dict_get_2 _ _) (meets_dict_get (lF K.W.prog K.W.w) d (fz K.W.prog K.W.w x t) ns) ⟨_,hm,?_⟩;cases qD l x with
 |yes v u a b r=>exact b▸h u (by exact a▸r)
 |no a b=>exact b▸h .none (by exact a▸.none)
theorem Bn{d:bf}{es:List (List Nat×J)}{ds:List b7}{k:Nat}{x:aV}{t:qV}{a:J}{u:ar}{Q:ar->aF->Prop}(g:s.heap.get? d=Y (fJ ds k))(l:bP (mJ K.W ρ) es ds)(ns:(d==fZ)=I)(ha:RV ρ a u)
  (h:∀u,RV ρ ((fG x.cps.toList es).getD a) u->Q u (eH s s.heap (s.toks+1))):PW K (call (.builtin "dict.get") [.ref d,.str x t,u] []) Q E s:=by
 have hm:=kn (n:=k) g l;refine qU eA hm.typeIs iR (mn _ _ _) (mV (lF K.W.prog K.W.w) d (fz K.W.prog K.W.w x t) ns _) ⟨_,hm,?_⟩;cases qD l x with
 |yes v u a b r=>exact b▸h u (by exact a▸r)
 |no a b=>exact b▸h _ (by exact a▸ha)
theorem yl{d:bf}{ds:List b7}{k:Nat}(g:s.heap.get? d=Y (fJ ds k)){es:List (List Nat×J)}(l:bP (mJ K.W ρ) es ds){Q:ar×List ar->aF->Prop}{pl:o7 Bool}(h:Q (.builtin "dict.get",[.ref d]) s):PW K (hU (.ref d) "get" pl) Q E s:=
 lh (kn (n:=k) g l).typeIs mv eA nj (kn (n:=k) g l).noDict h
theorem JR{b:bf}{vs:List ar}{k:Nat}(g:s.heap.get? b=Y (listOf vs.toArray k)){Q:ar×List ar->aF->Prop}{pl:o7 Bool}(h:Q (.builtin "list.append",[.ref b]) s):PW K (hU (.ref b) "append" pl) Q E s:=
 lh (cF g).typeIs PySem.F.plainAttrs_list PySem.F.slot_list_append PySem.F.type_list_append (λb e=>by cases e;exact⟨_,g,U⟩) h
theorem yp(F:Fe K Γ n)(f:Nat){fs:List J}{first:List ar}(hf:bP (RV ρ) fs first):∀ρ1 as us,ρ<+:ρ1->bP (RV ρ1) as us->aX K ρ1 (PW K (call (.ref f) (first++us) [])) (fK Γ f (fs++as) []) Rv:=λρ1 as us hp ha=>(F.GO K.c K.A f F.C F.R.call).rule ρ1 _ _ _ _ ((hf.mono λ_ _=>RV.mono hp).append ha) .nil
theorem qc{name:aV}{es:List Expr}{ov:ar}{m:M J}{f:ar}{first:List ar}(hr:K.R σ ρ s.heap)(ht:0<s.toks)(H:∀(Q:ar×List ar->aF->Prop) E,(∀tk,Q (f,first) (eH s s.heap tk))->∀pl,PW K (hU ov name pl) Q E s)
  (af:aX K ρ (PW K (n9 cp f first (gY cp (dF es K.c.env)) (f7 cp (dH [] K.c.env)))) m Rv):bB K σ ρ s (MW K cp name es ov) m Rv:=λQ E h pl=>
 cq (n:=1) ht (H _ _ (λtk htk=>af σ ρ (eH s s.heap tk) (List.prefix_refl _) hr htk Q E h) pl)
theorem Fp(F:Fe K Γ n){nm:aV}{k i:Nat}{b:bf}{r:List bf}{es:List Expr}{ms:List (M J)}(hk:K.T.names[k]?=Y nm)(ea:ρ[i]?=Y (b::r))(is:fT K es ms):aX K ρ (MW K cp nm es (.ref b)) (Il K.T Γ i k nm ms) Rv:=λσ ρ' s hp hr ht=>bB.gH λo e1=>by have ea':=b5 hp ea;induction o with
 |list xs=>refine bB.gd λq=>?_;obtain⟨vs,n',g1,l1,_⟩:=hr.list e1 ea';exact(dq q)▸qc hr ht (λQ E h pl=>JR g1 (h s.toks)) (j0 F.g (iI _) is λρ1 as us p1 ha=>By (b5 p1 ea') ha)
 |dict ds=>refine bB.gd λq=>?_;obtain⟨es',n',g1,l1,_,ns,_⟩:=hr.dict e1 ea';refine(dq q)▸?_;refine qc hr ht (λQ E h pl=>yl g1 l1 (h s.toks)) (j0 F.g (iI _) is λρ1 as us p1 ha=>aX.as1 (wv:=λus=>PW K (call (.builtin "dict.get") (.ref b::us) [])) ha λv u hv=>aX.oStr (wv:=λu=>PW K (call (.builtin "dict.get") [.ref b,u] [])) hv λx t σ2 ρ2 s2 hp2 hr2 ht2=>bB.gD λds2 e2=>bB.go U λQ E h=>?_);obtain⟨es2,n2,g2,l2,_⟩:=hr2.dict e2 (b5 hp2 (b5 p1 ea'));exact Et g2 l2 ns λu hu=>h ρ2 s2.heap (s2.toks+1) u (List.prefix_refl _) hr2 hu (Nat.succ_pos _)
 |inst Cx fs=>
  refine bB.gO λf e2=>bB.gd λq=>?_;rw[ax,dt]at q;obtain⟨m1,m2,m3,m4⟩:=F.m.meth Cx k f nm e2 hk q.2;obtain⟨d,ds,k',g1,g2,l,_⟩:=hr.inst e1 ea';obtain⟨m,Fm,_⟩:=hr.fr;have hgl:getL nm ds=Y cV:=by cases qh F.c l hk with
   |yes v' u' l1 l2 l3=>rw[l1]at q;exact nT q.1
   |no l1 l2=>exact l2
  exact qc hr ht (λQ E h pl=>method_inst Fm F.g.X (om g1 g2) m1 m2 m3 hgl (h s.toks)) (j0 F.g (tC m4) is (yp F f (.cons (.obj ea') .nil)))
 |_=>exact bB.no
theorem Jk(F:Fe K Γ n){nm:aV}{k Cx:Nat}{es:List Expr}{ms:List (M J)}(hk:K.T.names[k]?=Y nm)(is:fT K es ms):aX K ρ (MW K cp nm es (.ref Cx)) (lB K.T Γ Cx k nm ms) Rv:=by unfold lB;induction e1:d5 Cx K.T.sdict with
 |some ds=>refine aX.gd λq=>λσ ρ' s hp hr ht=>?_;obtain⟨lo,ds',n',hl,l0⟩:=F.t.sdict _ _ e1;have ho:=hr.stays _ _ (F.g.X _ _ hl);have l1:bP (mJ K.W ρ') ds ds':=l0.mono λ_ _=>qs.toD;exact(dq q)▸qc hr ht (λQ E h pl=>yl (k:=n') ho l1 (h s.toks)) (j0 F.g (iI _) is λρ1 as us p1 ha=>aX.as2 (wv:=λus=>PW K (call (.builtin "dict.get") (.ref Cx::us) [])) ha λv u b d hv hb=>aX.oStr (wv:=λu=>PW K (call (.builtin "dict.get") [.ref Cx,u,d] [])) hv λx t σ2 ρ2 s2 hp2 hr2 ht2=>bB.go U λQ E h=>Bn (k:=n') (hr2.stays _ _ (F.g.X _ _ hl)) (l0.mono λ_ _=>qs.toD) lo (hb.mono hp2) λu hu=>h ρ2 s2.heap (s2.toks+1) u (List.prefix_refl _) hr2 hu (Nat.succ_pos _))
 |none=>refine aX.gO λf e2=>λσ ρ' s hp hr ht=>?_;obtain⟨z1,z2,mc,z3,z4,z5⟩:=F.m.cls Cx k f nm e1 e2 hk;obtain⟨m,Fm,_⟩:=hr.fr;exact qc hr ht (λQ E h pl=>method_of_cls Fm F.g.X z1 (cls_val Fm F.g.X z3 z4 z5 U (h (s.toks+1)))) (j0 F.g (tC z2) is (yp F f (fs:=[]) .nil))
theorem G7(F:Fe K Γ n){ty:String}{nm:aV}{es:List Expr}{ms:List (M J)}(is:fT K es ms):aX K ρ (MW K cp nm es (.type ty)) (Ch K.T ty nm ms) Rv:=aX.gd λq=>by rw[ax]at q;exact(eq_of_beq q.1)▸(dq q.2)▸Nq (λQ E s h pl=>Ee h) (j0 F.g (iI _) is λρ1 as us p1 ha=>ME F.g F.y ha)
theorem Ix(F:Fe K Γ n){o:Expr}{name:aV}{as:List Expr}{ms:List (M J)}{mo:M J}{k:Nat}(hs:nQ o=S)(pC:(ap.endLine==cp.line)=S)(hp:jo as=S)(hk:K.T.names[k]?=Y name)(ix:b8 K o mo)(i:fT K as ms):
  b8 K (.Call (.Attribute o name ap) as [] cp) (bk K.T Γ mo k name ms):=λρ=>((ix ρ).bind λρ1 va a p1 ha=>show aX K ρ1 (MW K cp name as va) _ Rv by
  induction ha with
  |str x t e=>subst e;refine aX.gd λq=>?_;obtain⟨id,hid⟩:=bL.mp q;exact Nq (λQ E s h pl=>(Oe hid).1 (h s.toks)) (j0 F.g (iI id) i λρ1 as us p1 ha=>(Oe hid).2 ρ1 x t as us ha)
  |obj ea=>exact Fp F hk ea i
  |sref Cx=>exact Jk F hk i
  |ty ty=>exact G7 F i
  |_=>exact aX.no).pre λQ E s h=>ry hs pC hp i h
end
section
open PySem PySem.W PySem.Calls PyProof.Rows
variable{T:aT}{W:Wd}{c:Fx}{A:ch}{K:Cx}{σ σ':St}{ρ ρ':cM}{s s₁:aF}{E:ar->aF->Prop}{X:Nat->St->Prop}{h h':cT}{pos ap cp fp:da}{Γ:cI}{n:Nat}{as:List J}{us:List ar}{a:J}{u:ar}
theorem KB(G:Gd K.T K.W){x y z:aV}{t:qV}{k1 k2:Nat}{p1 p2:da}{d:Nat}(hy:y.cps.toList=[d])(hz:z.cps.toList=[])(q:Nat.ble x.cps.toList.length cj=S):
  aX K ρ (MW K cp "replace" [.Constant (.str y) k1 p1,.Constant (.str z) k2 p2] (.str x t)) (M.ret (.str (x.cps.toList.filter λc=>!Nat.beq c d))) Rv:=λσ ρ' s hp hr ht=>bB.go U λQ E h pl=>by
 obtain rfl:=xN hy;obtain⟨⟨zl⟩⟩:=z;cases hz;have i:fT K [.Constant (.str ⟨⟨[d]⟩⟩) k1 p1,.Constant (.str ⟨⟨[]⟩⟩) k2 p2] [D (.str [d]),D (.str [])]:=.cons U (jX k1 U) (.cons U (jX k2 U) .nil);show bY _ _ _ _ _ _
 with_reducible refine PySem.GM.replace ?_
 refine(cq (n:=1) ht (jr (P:=K.W.K.In) (by rfl) (iI _) (g9 i U (dC (gV (dC (gV (gK (eP ⟨G.X.keeps hr.stays,?_⟩))) U)) U))));refine PySem.SC.replace (Nat.ne_of_gt ht) (Nat.succ_ne_zero _) (Nat.ne_of_lt (Nat.lt_succ_self _)) (by rfl) (by show x.length+(x.length+1)*0<=16777216;simp only[Nat.mul_zero];exact cP▸x8 q) λt' k htk=>h ρ' s.heap k _ (List.prefix_refl _) hr (.str _ t' (EO x d)) htk
theorem HR(G:Gd K.T K.W){o:Expr}{mo:M J}{y z:aV}{k1 k2:Nat}{p1 p2:da}(hs:nQ o=S)(pC:(ap.endLine==cp.line)=S)(io:b8 K o mo):b8 K (.Call (.Attribute o "replace" ap) [.Constant (.str y) k1 p1,.Constant (.str z) k2 p2] [] cp) (wb mo y.cps.toList z.cps.toList):=λρ=>((io ρ).bind λρ1 va a p ha=>aX.oStr (wv:=MW K cp "replace" [.Constant (.str y) k1 p1,.Constant (.str z) k2 p2]) ha λx t=>aX.on1 λd hy=>aX.on0 λhz=>aX.gd λq=>KB G hy hz q).pre λQ E s h=>ry hs pC U (.cons U (jX k1 (v:=.str y.cps.toList) U) (.cons U (jX k2 (v:=.str z.cps.toList) U) .nil)) h
inductive RG(p:J×J)(q:ar×ar):Prop where
 |mk (k:Sv p.1 q.1) (v:Sv p.2 q.2):RG p q
theorem GP{M:vp}{e:Expr}{v:J}{env:pv}{Q:ar->aF->Prop}(hv:zL e=Y v)(h:∀u tk,Sv v u->Q u (eH s s.heap tk)):bY M A (rV e env) Q E s:=by replace hv:=OW ns hv;obtain⟨k,n,p,rfl,hv⟩:=hv;induction k with
 |none=>obtain rfl:=sI hv;exact wpAny_Constant_none (h _ _ λ_=>.none)
 |bool b=>obtain rfl:=sI hv;exact wpAny_Constant_bool (h _ _ λ_=>.bool _)
 |int i=>obtain rfl:=sI hv;exact kx (h _ _ λ_=>.int _ _)
 |str x=>obtain rfl:=sI hv;exact gV (h _ _ λ_=>.str _ _ U)
 |_=>exact nS hv
inductive G2(kl:List (Option Expr))(vl:List Expr)(kvs:List (J×J)):Prop where
 |mk (a:kl.all (·.isSome)=S) (b:kl.length=vl.length) (c:kl.length=kvs.length) (d:∀{s:aF}{env:pv}{pos:da}{prog:oU}{w:sL}{A:ch}{E:ar->aF->Prop}{Q:List (ar×ar)->aF->Prop},(∀vs tk,bP RG kvs vs->Q vs (eH s s.heap tk))->bY (cB prog w) A (evalPairs (pairTrees kl vl env pos)) Q E s):G2 kl vl kvs
theorem Do:∀{kl:List (Option Expr)}{vl:List Expr}{kvs:List (J×J)},uy kl vl=Y kvs->G2 kl vl kvs
 |[],[],_,e=>by obtain rfl:=sI e;exact⟨U,U,U,λ{s} _ _ _ _ _ _ _ h=>evalPairs_nil (h [] s.toks .nil)⟩
 |[],_::_,_,e=>by cases e
 |_::_,[],_,e=>by cases e
 |k::ks,v::vl,_,e=>by obtain⟨k',rfl,e⟩:=aA.mp e;obtain⟨a,q1,e⟩:=aA.mp e;obtain⟨b,q2,e⟩:=aA.mp e;obtain⟨r,q3,rfl⟩:=aP.mp e;obtain⟨i1,i2,i3,i4⟩:=Do q3;refine⟨by simp only[List.all_cons,i1];rfl,congrArg (·+1) i2,congrArg (·+1) i3,λ{s} _ _ _ _ _ _ _ h=>?_⟩;exact evalPairs_cons (GP q1 λu tk hu=>ay (GP (s:=eH s s.heap tk) q2 λu2 tk2 hu2=>ay (cX (aL (i4 (s:=eH s s.heap tk2) λvs tk3 hvs=>h _ tk3 (.cons ⟨hu,hu2⟩ hvs))))))
structure yU{ae:Type}[DecidableEq ae](kv:J->Option ae)(mk:ae->J)(knd:KeyKind W.prog W.w ae):Prop where
 of:∀a k,kv a=Y k->a=mk k
 is:∀ρ u k,RV ρ (mk k) u->knd.is k u=S
 eq:∀k b t,nX (mk k) b=Y t->∃l,kv b=Y l/\t=aI (k=l)
theorem QQ:yU (W:=W) Ul (λk=>.str k.cps.toList) (strKind W.prog W.w)where
 of:=λa k e=>by induction a with
  |str l=>obtain rfl:=sI e;rfl
  |_=>exact nS e
 is:=λρ u k hv=>by cases hv with
  |str x t h=>rw[show k=x from by induction k;induction x;cases sb.mp h;rfl];exact fz W.prog W.w x t
 eq:=λk b t e=>by induction b with
  |str l=>exact⟨⟨l.toArray⟩,U,(aQ e).symm.trans (xT k ⟨l.toArray⟩).symm⟩
  |_=>exact nS e
theorem OA:yU (W:=W) Vz (λk=>.int k) (intKind W.prog W.w)where
 of:=λa k e=>by induction a with
  |int l=>obtain rfl:=sI e;rfl
  |_=>exact nS e
 is:=λρ u k hv=>by cases hv;exact intKind_is W.prog W.w _ _
 eq:=λk b t e=>by induction b with
  |int l=>exact⟨l,U,(aQ e).symm⟩
  |_=>exact nS e
section
variable{ae:Type}[DecidableEq ae]{kv:J->Option ae}{mk:ae->J}{knd:KeyKind K.W.prog K.W.w ae}
inductive OJ(kv:J->Option ae)(p:J×J)(q:ae×ar):Prop where
 |mk (k:kv p.1=Y q.1) (v:Sv p.2 q.2):OJ kv p q
inductive No(kv:J->Option ae)(knd:KeyKind K.W.prog K.W.w ae)(kvs:List (J×J))(vs:List (ar×ar))(ks:List ae):Prop where
 |mk (sY:List (ae×ar)) (c:Carries knd vs sY) (e:sY.map (·.1)=ks) (nd:ks.Nodup) (l:bP (OJ kv) kvs sY):No kv knd kvs vs ks
theorem Bk(O:yU kv mk knd){kvs:List (J×J)}{vs:List (ar×ar)}{ks:List ae}(e:zQ kv kvs=Y ks)(a:bP RG kvs vs):No kv knd kvs vs ks:=by induction a generalizing ks with
 |nil=>exact(sI e)▸⟨[],trivial,U,List.nodup_nil,.nil⟩
 |@cons p q r r' h1 h2 ih=>obtain⟨k,q1,e⟩:=aA.mp e;obtain⟨ks,q2,e⟩:=aA.mp e;induction q3:ks.any λx=>aI (x=k)with
  |true=>replace e:=q3▸e;exact nS e
  |false=>replace e:=q3▸e;obtain rfl:=sI e;obtain⟨sY,c1,c2,c3,c4⟩:=ih q2;obtain⟨a1,a2⟩:=h1;replace a1:=(O.of _ _ q1)▸a1;refine⟨(k,_)::sY,⟨O.is [] _ _ (a1 []),U,c1⟩,by simp only[List.map_cons,c2],List.nodup_cons.mpr ⟨λhm=>?_,c3⟩,.cons ⟨q1,a2⟩ c4⟩;rw[List.any_eq_true.mpr ⟨k,hm,decide_eq_true U⟩]at q3;exact nF q3
inductive Xo(kvs:List (ae×ar))(k:ae)(o:Option J):Prop where
 |yes (v:J) (u:ar) (e:o=Y v) (f:tG kvs k=Y u) (r:Sv v u):Xo kvs k o
 |no (e:o=.none) (f:tG kvs k=cV):Xo kvs k o
theorem Ps(O:yU kv mk knd){a:J}{k:ae}(ha:kv a=Y k){kvs:List (J×J)}{sY:List (ae×ar)}{o:Option J}(r:bP (OJ kv) kvs sY)(e:Nc a kvs=Y o):Xo sY k o:=by induction r with
 |nil=>exact(sI e)▸.no U rfl
 |@cons p q r r' h1 h2 ih=>
  obtain⟨t,e1,e⟩:=aA.mp e;obtain⟨k1,v1⟩:=h1;replace e1:=(O.of _ _ k1)▸e1;obtain⟨l,e2,e3⟩:=O.eq _ _ _ e1;replace e2:=ha▸e2;obtain rfl:=sI e2;have hv:tG (q::r') k=if t=S then Y q.2 else tG r' k:=by unfold tG;refine(List.find?_cons)▸e3▸?_;induction t<;>rfl
  induction t with
  |true=>exact(sI e)▸.yes _ _ U hv v1
  |false=>cases ih e with
   |yes v u e f r=>exact .yes v u e (hv.trans f) r
   |no e f=>exact .no e (hv.trans f)
theorem AT{e:Expr}:b8 K e M.no:=λρ=>aX.no
theorem vY(F:Fc K)(O:yU kv mk knd){kl:List (Option Expr)}{vl:List Expr}{dp:da}{kvs:List (J×J)}{k d:Expr}{mk md:M J}(pC:(ap.endLine==cp.line)=S)(hl:uy kl vl=Y kvs){ks:List ae}(hks:zQ kv kvs=Y ks)(hne:kvs≠[])(jC:kvs.length<=15)
  (hp:jo [k,d]=S) (sk:fR k=I) (sd:fR d=I) (ik:∀p,b8 (K.to (K.c.hold p) K.A) k mk) (id:∀p,b8 (K.to (K.c.hold p) K.A) d md):b8 K (.Call (.Attribute (.Dict kl vl dp) "get" ap) [k,d] [] cp) (qn kvs mk md):=λρ0 σ ρ s _ hr ht Q E hw=>by
 obtain⟨s1,s2,s3,s4⟩:=Do hl;have i:fT K [k,d] [M.no,M.no]:=.cons sk AT (.cons sd AT .nil);refine ry (by rfl) pC hp i ?_;refine wpAny_Dict_walk (knd:=knd) s1 s2 (λq=>hne (List.eq_nil_of_length_eq_zero (by rw[<-s3,q];rfl))) (by exact s3▸jC) (cq (n:=1) (s:=eH s _ s.toks) ht (s4 (s:=eH s (s.heap.push {cls:=.type "dict",data:=.dict #[]}) s.toks) λvs tk hvs htk0=>?_));obtain⟨sY,c1,c2,c3,c4⟩:=Bk O hks hvs;refine⟨sY,c1,cT.DictOf.new ..,λh' hD hs pl=>?_⟩;replace hD:=(merged_nil_of_nodup _ (by exact c2▸c3))▸hD;have f1:=hr.free;have hr2:=(hr.push ({cls:=.type "dict",data:=.dict #[]}:iS)).ext f1 hs.extBut;obtain⟨o,ho,hoD⟩:=m9.mp hD;refine lh hD.typeIs mv eA nj hD.mapOf.noDict (jr (P:=K.W.K.In) (by rw[kb i];rfl) (iI _) (g9 i U (dC ?_ (fF sk))));refine ik (s.heap.objs.size,.obj o) ρ σ ρ (eH s h' (tk+vs.length)) (List.prefix_refl _) (hr2.hold f1 ho) (Nat.lt_of_lt_of_le htk0 (Nat.le_add_right _ _)) _ _ (cE (ue (cg hw)) (λa σ1 hP ρ1 h1 tk1 ua hp1 hr1 ha ht1=>dC ?_ (fF sd)) λ_ _ z=>z.elim);refine id (s.heap.objs.size,.obj o) ρ1 σ1 ρ1 (eH s h1 tk1) (List.prefix_refl _) hr1 ht1 _ _ (cE (ue (cg hP)) (λb σ2 hP2 ρ2 h2 tk2 ub hp2 hr2 hb ht2=>gK (eP ⟨F.g.X.keeps hr2.stays,?_⟩)) λ_ _ z=>z.elim);obtain⟨f2,ho2⟩:=hr2.heldFree;have hD2:h2.DictOf knd s.heap.objs.size sY:=m9.mpr ⟨o,ho2,hoD⟩;have hr5:=hr2.unhold (λ_ q=>by cases q);induction e2:Nc a kvs with
 |none=>replace hP2:=e2▸hP2;exact hP2.elim
 |some ov=>
  replace hP2:=e2▸hP2;obtain⟨ky,hky⟩:∃ky,kv a=Y ky:=by induction c4 with
   |nil=>exact absurd U hne
   |cons h1 _=>obtain⟨t,e1,_⟩:=aA.mp e2;replace e1:=(O.of _ _ h1.1)▸e1;obtain⟨l,e,_⟩:=O.eq _ _ _ e1;exact⟨l,e⟩
  have hkey:=O.is _ _ _ (by exact(O.of _ _ hky)▸ha);refine qU eA hD2.typeIs iR (mn _ _ _) (mV knd s.heap.objs.size hkey hr.sysSize ub) ⟨_,hD2.mapOf,?_⟩;have fin:∀u,RV ρ2 (ov.getD b) u->Q u (eH s h2 (tk2+1)):=λu hu=>hP2 ρ2 h2 (tk2+1) u (hp1.trans hp2) hr5 hu (Nat.succ_pos _);cases Ps O hky c4 e2 with
  |yes v u e f r=>subst e;exact f▸fin u (r _)
  |no e f=>subst e;exact f▸fin ub hb
end
theorem GW(F:Fc K){kl:List (Option Expr)}{vl:List Expr}{dp:da}{kvs:List (J×J)}{k d:Expr}{mk md:M J}(pC:(ap.endLine==cp.line)=S)(hl:uy kl vl=Y kvs)(hO:YA kvs=S)
  (hp:jo [k,d]=S) (sk:fR k=I) (sd:fR d=I) (ik:∀p,b8 (K.to (K.c.hold p) K.A) k mk) (id:∀p,b8 (K.to (K.c.hold p) K.A) d md):b8 K (.Call (.Attribute (.Dict kl vl dp) "get" ap) [k,d] [] cp) (qn kvs mk md):=by
 unfold YA at hO;rw[ax,ax,dt,dz]at hO;obtain⟨⟨h1,h2⟩,h3⟩:=hO;have hne:kvs≠[]:=λq=>by rw[q]at h1;exact nF h1
 rcases h3 with h3|h3
 ·obtain⟨ks,hks⟩:=bL.mp h3
  exact vY F QQ pC hl hks hne (eV h2) hp sk sd ik id
 ·obtain⟨ks,hks⟩:=bL.mp h3
  exact vY F OA pC hl hks hne (eV h2) hp sk sd ik id
end
section
open PySem PySem.W PySem.Calls PyProof.Rows
variable{T:aT}{W:Wd}{c:Fx}{A:ch}{K:Cx}{σ σ':St}{ρ ρ':cM}{s s₁:aF}{E:ar->aF->Prop}{X:Nat->St->Prop}{h h':cT}{pos ap cp fp:da}{Γ:cI}{n:Nat}{v:J}{u:ar}
inductive Ze(K:kJ)(h:cT)(H:H)(v:J)(u:ar):Prop where
 |mk (t:ar) (P:cT->Prop) (x:KitX K u t P) (p:P h) (ne:u≠.builtin "__main__.__loader__#opaque") (one:∀(c:J)(uc:ar)(b:Bool),Sv c uc->lv v H c=Y b->iQ K t uc=Y b):Ze K h H v u
theorem gv{α:Type}{q:Bool}{o:Option α}{b:α}(e:(bif q then o else .none)=Y b):q=S/\o=Y b:=by induction q with
 |true=>exact⟨U,e⟩
 |false=>exact nS e
theorem tS{n:String}(h:sU n=S):n="int"\/n="bool"\/n="str":=by unfold sU at h;rw[dz,dz,beq_iff_eq,beq_iff_eq,beq_iff_eq,or_assoc]at h;exact h
inductive Ra(v:J)(H:H)(b:Bool):J->ar->Prop where
 |ty (n:String) (h:sU n=S) (e:Po v H n=Y b):Ra v H b (.ty n) (.type n)
 |cls (C:Nat) (h:wq C=S) (e:GG v H C=Y b):Ra v H b (.sref C) (.ref C)
theorem Li{H:H}{c:J}{uc:ar}{b:Bool}(hc:Sv c uc)(e:lv v H c=Y b):Ra v H b c uc:=by have hc:=hc [];induction hc with
 |ty n=>obtain⟨h1,h2⟩:=gv e;exact .ty n h1 h2
 |sref C=>obtain⟨h1,h2⟩:=gv e;exact .cls C h1 h2
 |_=>exact nS e
theorem w6(G:Gi W){H:H}{n:String}(hn:n∈FP)(hT:∀m,sU m=S->Po v H m=Y (n==m||(n=="bool"&&m=="int")))(hC:∀C,GG v H C=Y I)(c:J)(uc:ar)(b:Bool)(hc:Sv c uc)(e:lv v H c=Y b):iQ W.K (.type n) uc=Y b:=by cases Li hc e with
 |ty m h e'=>exact(G.bt n m hn h).trans ((hT m h).symm.trans e')
 |cls C h e'=>exact(G.bc n C hn h).trans ((hC C).symm.trans e')
theorem IM(G:Gi W)(hr:dB T W c σ ρ h)(hv:RV ρ v u){c0:J}{b0:Bool}(e0:lv v σ.heap c0=Y b0){u0:ar}(h0:Sv c0 u0):Ze W.K h σ.heap v u:=by
 have ty3:∀{P:String->Prop},P "int"->P "bool"->P "str"->∀m,sU m=S->P m:=λa b c m h=>by
  rcases tS h with rfl|rfl|rfl
  ·exact a
  ·exact b
  ·exact c
 induction hv with
 |none=>exact⟨_,_,kitx_none,trivial,(λq=>by cases q),w6 G (n:="NoneType") (by decide) (ty3 U U U) λ_=>rfl⟩
 |bool y=>exact⟨_,_,kitx_bool,trivial,(λq=>by cases q),w6 G (n:="bool") (by decide) (ty3 U U U) λ_=>rfl⟩
 |int y tt=>exact⟨_,_,kitx_int,trivial,(λq=>by cases q),w6 G (n:="int") (by decide) (ty3 U U U) λ_=>rfl⟩
 |str y tt hy=>exact⟨_,_,kitx_str,trivial,(λq=>by cases q),w6 G (n:="str") (by decide) (ty3 U U U) λ_=>rfl⟩
 |@obj i a r ea=>
  have hD:∃ak,vF σ.heap i=Y ak:=by cases Li h0 e0 with
   |ty m h e=>obtain⟨ak,q,_⟩:=aP.mp e;exact⟨ak,q⟩
   |cls C h e=>obtain⟨ak,q,_⟩:=aP.mp e;exact⟨ak,q⟩
  obtain⟨ak,hD⟩:=hD;have hD':=hD;unfold vF at hD';induction e1:σ.heap[i]? with
  |none=>replace hD':=e1▸hD';cases hD'
  |some o=>replace hD':=e1▸hD';induction o with
   |inst D' fs=>obtain⟨k,e⟩:=gv hD';cases e;obtain⟨d,ds,n,g1,g2,_⟩:=hr.inst e1 ea;obtain⟨q1,q2,q3,q4,q5,q6⟩:=G.own ak k;refine⟨.ref ak,_,kitx_own (x:=a) (ox:=tD ak d) (od:=fJ ds n) q1 q2 q3 q4 q5 q6,om g1 g2,(λq=>by cases q),λc uc b hc e=>?_⟩;cases Li hc e with
    |ty m h e'=>have e2:(vF σ.heap i).map (λ_=>I)=Y b:=e';replace e2:=hD▸e2;exact(G.ct ak m k h).trans e2
    |cls C h e'=>have e2:(vF σ.heap i).map (λak=>uB ak C)=Y b:=e';replace e2:=hD▸e2;exact(G.cc ak C k h).trans e2
   |_=>cases hD'
 |_=>cases Li h0 e0 with
  |ty m h e=>cases e
  |cls C h e=>cases e
theorem y2{H:H}{c:J}{r:List J}{b:Bool}(e:ji v H (c::r)=Y b):∃b0,lv v H c=Y b0:=by obtain⟨t,q,_⟩:=aA.mp e;exact⟨t,q⟩
theorem Ei{K:kJ}{t:ar}{H:H}(one:∀(c:J)(uc:ar)(b:Bool),Sv c uc->lv v H c=Y b->iQ K t uc=Y b){cs:List J}{us:List ar}{b:Bool}(a:bP Sv cs us)(e:ji v H cs=Y b):kitAny K t us=Y b:=by induction a with
 |nil=>exact e
 |@cons c _ _ _ p q ih=>obtain⟨t',e1,e⟩:=aA.mp e;unfold kitAny;refine(one c _ t' p e1)▸?_;induction t' with
  |true=>exact e
  |false=>exact ih e
theorem yS(G:Gd K.T K.W)(C:fB K.c K.A){cs:List Expr}:∀{vs:List J}{Q:List ar->aF->Prop}{s:aF},oj K.T K.c.V cs=Y vs->K.R σ ρ s.heap->(∀us,bP Sv vs us->Q us s)->PW K (oV (gY pos (dF cs K.c.env))) Q E s:=by induction cs with
 |nil=>intro _ _ _ e hr h;obtain rfl:=sI e;exact gK (h [] .nil)
 |cons x r ih=>intro _ _ _ e hr h;obtain⟨nm,e1,e⟩:=aA.mp e;obtain⟨v,e2,e⟩:=aA.mp e;obtain⟨vs,e3,rfl⟩:=aP.mp e;obtain⟨q1,q2⟩:=gv e2;replace e1:=XW ns e1;obtain⟨y,p,rfl,e1⟩:=e1;exact(sI e1)▸dC (jV G C q1 q2 hr λu hu=>ih e3 hr λus hus=>h _ (.cons hu hus)) (fF U)
def XV(K:Cx)(x:Expr)(vs:List J):Prop:=∀(σ:St)(ρ:cM)(s:aF)(v:J)(u:ar)(b:Bool)(Q:ar->aF->Prop)(E:ar->aF->Prop)(pos:da),K.R σ ρ s.heap->RV ρ v u->ji v σ.heap vs=Y b->0<s.toks->(∀h' tk,K.R σ ρ h'->0<tk->Q (.bool b) (eH s h' tk))->
 PW K (oV (gY pos (dF [x] K.c.env))) (λus s₁=>K.W.K.In s₁.heap/\PW K (call (.builtin "isinstance") (u::us) []) Q E s₁) E s
theorem Ja(F:Fe K Γ n){e x:Expr}{me:M J}{vs:List J}{f:aV}(he:fR e=I)(hx:fR x=I)(ie:b8 K e me)(hg:iM K.c.V f=S)(hv:K.T.glob.lookup f=Y (.bi "isinstance"))(k:vs≠[]->vs.length<=1000->XV K x vs):
  b8 K (.Call (.Name f fp) [e,x] [] cp) (jy me vs):=λρ=>aX.gd λq=>λσ ρ s hp hr ht Q E hw=>kA (jV F.g F.C hg hv hr λf' hf'=>by
 have hf':=hf' [];cases hf';rw[dt,cO]at q;have hvs:vs≠[]:=λz=>by rw[z]at q;exact nF q.1
 have jC:vs.length<=1000:=Nat.le_of_not_lt λz=>by rw[show Nat.blt 1000 vs.length=S from Nat.ble_eq_true_of_le z]at q;exact nF q.2
 have i:fT K [e,x] [me,M.no]:=.cons he ie (.cons hx AT .nil);refine jr (P:=K.W.K.In) (by rw[kb i];rfl) (iI _) (g9 i U (dC ?_ (fF he)));refine((ie ρ).bind (R:=Rv) (ah:=Rv) (f:=λva Q E s=>PW K (oV (gY cp (dF [x] K.c.env))) (λus s₁=>K.W.K.In s₁.heap/\PW K (call (.builtin "isinstance") (va::us) []) Q E s₁) E s) (g:=λv s=>gO (ji v s.heap vs) yes s) λρ1 va a p1 ha σ1 ρ2 s1 hp2 hr1 ht1 Q E hw=>?_).pre (w':=λQ E s=>PW K (rV e K.c.env) (λva s=>PW K (oV (gY cp (dF [x] K.c.env))) (λus s₁=>PW K (evalAll []) (λks s₂=>K.W.K.In s₂.heap/\PW K (call (.builtin "isinstance") (va::us) []) Q E s₂) E s₁) E s) E s) (λQ E s h=>bu h (λv s h=>bu h (λus s h=>eP h) λ_ _ x=>x) λ_ _ x=>x) σ ρ s (List.prefix_refl _) hr ht Q E hw;have hw:kH _ _ (gO (ji a σ1.heap vs) yes σ1):=hw;induction e2:ji a σ1.heap vs with
 |none=>rw[e2]at hw;exact hw.elim
 |some b=>rw[e2]at hw;have hw:vD K ρ2 s1 Rv Q (.bool b) σ1:=hw;exact k hvs jC σ1 ρ2 s1 a va b _ _ cp hr1 (ha.mono hp2) e2 ht1 λh' tk hr' htk=>hw ρ2 h' tk _ (List.prefix_refl _) hr' (.bool b) htk)
theorem Ig(F:Fe K Γ n){e:Expr}{me:M J}{cs:List Expr}{vs:List J}{f:aV}{k:Nat}{p:da}(he:fR e=I)(ie:b8 K e me)(hg:iM K.c.V f=S)(hv:K.T.glob.lookup f=Y (.bi "isinstance"))(hcs:oj K.T K.c.V cs=Y vs):b8 K (.Call (.Name f fp) [e,.Tuple cs k p] [] cp) (jy me vs):=
 Ja F he U ie hg hv λhne jC σ ρ s v u b Q E pos hr hu hb ht hQ=>dC (sH (yS F.g F.C hcs hr λus hus=>⟨by refine hus.length▸cP▸?_;exact Nat.le_trans jC (by decide),gK (by have hr2:=hr.push ({cls:=.type "tuple",data:=.seq us.toArray}:iS);have XK:=F.g.X.keeps hr2.stays;refine⟨XK,?_⟩;induction hus with
  |nil=>exact absurd U hne
  |cons h1 h2=>obtain⟨b0,hb0⟩:=y2 hb;obtain⟨t,P,x,p,ne,one⟩:=IM F.i hr2 hu hb0 h1;exact cq (n:=1) (s:=eH s _ s.toks) ht (kia_tup x XK p (bA _ U) (Ei one (.cons h1 h2) hb) ne λtk htk=>hQ _ tk hr2 htk))⟩)) (fF U)
theorem Fg(F:Fe K Γ n){e x:Expr}{me:M J}{vs:List J}{f:aV}(he:fR e=I)(hx:fR x=I)(ie:b8 K e me)(hg:iM K.c.V f=S)(hv:K.T.glob.lookup f=Y (.bi "isinstance"))(hcs:oj K.T K.c.V [x]=Y vs):b8 K (.Call (.Name f fp) [e,x] [] cp) (jy me vs):=
 Ja F he hx ie hg hv λhne jC σ ρ s v u b Q E pos hr hu hb ht hQ=>bu (yS F.g F.C hcs hr λus hus=>(show K.W.K.In s.heap/\PW K (call (.builtin "isinstance") (u::us) []) Q E s from by have XK:=F.g.X.keeps hr.stays;refine⟨XK,?_⟩;obtain⟨nm,e1,e⟩:=aA.mp hcs;obtain⟨v1,e2,e⟩:=aA.mp e;obtain⟨_,e3,rfl⟩:=aP.mp e;obtain rfl:=sI e3;cases hus with
  |cons h1 h2=>
   cases h2;obtain⟨b0,hb0,e4⟩:=aA.mp hb;have:b0=b:=by induction b0<;>exact aQ e4
   obtain rfl:=Eq.symm this;obtain⟨t,P,x,p,ne,one⟩:=IM F.i hr hu hb0 h1;exact cq (n:=1) ht (kia_one x XK p (one _ _ _ h1 hb0) ne λtk htk=>hQ _ tk hr htk))) (λ_ _ x=>x) λ_ _ x=>x
end
section
open PySem PySem.W PySem.Calls PyProof.Rows
variable{T:aT}{W:Wd}{c:Fx}{A:ch}{K:Cx}{ρ:cM}{pos ap cp fp:da}{Γ:cI}{n m:Nat}{ak:Dn}
structure Tw(T:aT)(W:Wd):Prop where
 g:Gd T W
 t:Gt T W
 c:Gc T W
 x:Gx T W
 m:Gm T W
 y:Gy T W
 w:Gw T W
 i:Gi W
theorem Tw.fe(F:Tw T W)(GO:mZ T W m Γ)(C:fB c A)(R:cw A m):Fe ⟨T,W,c,A⟩ Γ m where
 g:=F.g
 t:=F.t
 u:=(Bg.le R (Nat.zero_le _) (Nat.le_trans (by decide:64<=150) (Nat.le_add_left _ _))).units
 c:=F.c
 xg:=TB F.c F.y F.g
 C:=C
 n:=Ms
 b:=Ru
 xs:=O5 F.c F.y F.g
 x:=F.x
 m:=F.m
 y:=F.y
 w:=F.w
 i:=F.i
 GO:=GO
 R:=R
section
variable{α β γ:Type}{t:o7 α}{R:cM->β->α->Prop}{k:M β}
theorem eR.no:eR K t (M.no:M β) R:=λ_=>aX.no
theorem eR.gd{q:Bool}(af:q=S->eR K t k R):eR K t (Mine.Internal.gd q k) R:=λρ=>aX.gd λh=>af h ρ
theorem eR.gO{o:Option γ}{k:γ->M β}(af:∀x,o=Y x->eR K t (k x) R):eR K t (Mine.Internal.gO o k) R:=λρ=>aX.gO λx h=>af x h ρ
theorem eR.on0{l:List γ}(af:l=[]->eR K t k R):eR K t (Mine.Internal.rq l k) R:=λρ=>aX.on0 λh=>af h ρ
theorem eR.on1{l:List γ}{k:γ->M β}(af:∀x,l=[x]->eR K t (k x) R):eR K t (Mine.Internal.qH l k) R:=λρ=>aX.on1 λx h=>af x h ρ
theorem eR.on2{l:List γ}{k:γ->γ->M β}(af:∀x y,l=[x,y]->eR K t (k x y) R):eR K t (Mine.Internal.Ls l k) R:=λρ=>aX.on2 λx y h=>af x y h ρ
end
theorem tm{e:Expr}:yb K e M.no:=λ_ _ _ _ _ _ _ hw=>hw.elim
theorem Ct{e:Expr}{q:Bool}{k:M It}(af:q=S->yb K e k):yb K e (gd q k):=by induction q with
 |true=>exact af rfl
 |false=>exact tm
def CQ(e:Expr):Bool:=eC S (un:=λop _ _=>match op with
  |.Not=>I
  |_=>S) (bo:=λ_ _ _=>I) (ife:=λ_ _ _ _=>I) (e:=e)
structure SD(T:aT)(W:Wd)(m:Nat)(ak:Dn):Prop where
 e:∀c A,fB c A->cw A m->∀e,b8 ⟨T,W,c,A⟩ e (ak.e c.V e)
 te:∀c A,fB c A->cw A m->∀e,CQ e=S->mj ⟨T,W,c,A⟩ e (bJ (ak.e c.V e))
 t:∀c A,fB c A->cw A m->∀e,mj ⟨T,W,c,A⟩ e (ak.t c.V e)
 i:∀c A,fB c A->cw A m->∀e,yb ⟨T,W,c,A⟩ e (ak.i c.V e)
theorem cu{q:Bool}(h:(!q)=S):q=I:=dt _|>.mp h
theorem jT{d:Expr->M J}(aj:∀e,b8 K e (d e)):∀{es:List Expr},es.any fR=I->fT K es (es.map d)
 |[],_=>.nil
 |e::r,h=>by rw[List.any_cons,cO]at h;exact .cons h.1 (aj e) (jT aj h.2)
theorem rI{as:List Expr}(h:jo as=S):as.any fR=I:=cu (bN.mp h).1
theorem hG{x:aV}{k:Nat}(h:lA T x=Y k):T.names[k]?=Y x:=by obtain⟨hlt,hp,_⟩:=List.findIdx?_eq_some_iff_getElem.mp h;exact(List.getElem?_eq_getElem hlt)▸(eq_of_beq hp)▸rfl
theorem qm{op:fQ}{r:Expr}(h:j5 r=I):gz op r=I:=by cases r<;>first|rfl|exact nF h
inductive NU(es:List Expr):Expr->Prop where
 |mk (k:Nat) (p:da):NU es (.Tuple es k p)
theorem Am{e:Expr}{es:List Expr}(h:iW e=Y es):NU es e:=by cases e<;>first|exact nS h|exact(sI h)▸⟨_,_⟩
structure iL(K:Cx)(x:Expr)(m:M J):Prop where
 e:b8 K x m
 t:mj K x (bJ m)
theorem iL.no{e:Expr}:iL K e M.no:=⟨eR.no,(eR.no:mj K e M.no)⟩
theorem iL.gd{e:Expr}{q:Bool}{k:M J}(af:q=S->iL K e k):iL K e (Mine.Internal.gd q k):=by induction q with
 |true=>exact af rfl
 |false=>exact iL.no
theorem Kd{o:fQ}{b:Bool}(h:Sx o=Y b):o=bif b then .NotIn else .In:=by induction o with
 |In=>exact sI h▸rfl
 |NotIn=>exact sI h▸rfl
 |_=>exact nS h
section
variable(F:Tw T W)(GO:mZ T W m Γ)(aj:SD T W m ak)
include F GO aj
theorem Ht(C:fB c A)(R:cw A m){l:Expr}{os:List fQ}{rs:List Expr}:iL ⟨T,W,c,A⟩ (.Compare l os rs pos) (WO T ak c.V l os rs):=by have Fa:=(F.fe GO C R).toFa;have ie:=aj.e c A C R;induction os using List.casesOn with
 |nil=>exact iL.no
 |cons o os=>induction os using List.casesOn with
  |nil=>induction rs using List.casesOn with
   |nil=>exact iL.no
   |cons r rs=>induction rs using List.casesOn with
    |cons _ _=>exact iL.no
    |nil=>show iL ⟨T,W,c,A⟩ _ (FO T ak c.V l o r);unfold FO;induction q:iW r with
     |some es=>cases Am q with
      |mk k p=>induction q2:Sx o with
       |none=>exact iL.no
       |some neg=>refine iL.gd λq3=>?_;refine(Kd q2)▸?_;have i:=jT ie (cu q3);exact⟨Cq (by induction neg<;>rfl) λρ=>wF neg (ie l) i,Aa (by induction neg<;>rfl) λρ=>wF neg (ie l) i⟩
     |none=>exact iL.gd λq=>⟨Cq (qm (cu q)) λρ=>DK Fa (ie l) (ie r),Aa (qm (cu q)) λρ=>DK Fa (ie l) (ie r)⟩
  |cons p os=>induction os using List.casesOn with
   |cons _ _=>exact iL.no
   |nil=>
    rcases rs with _|⟨y,_|⟨z,_|⟨_,_⟩⟩⟩
    ·exact iL.no
    ·exact iL.no
    ·exact iL.gd λq=>⟨Jh Fa (qm (cu q)) (ie l) (ie y) (ie z),D0 Fa (qm (cu q)) (ie l) (ie y) (ie z)⟩
    ·exact iL.no
end
end
section
open PySem PySem.W PySem.Calls PyProof.Rows
variable{T:aT}{W:Wd}{c:Fx}{A:ch}{K:Cx}{ρ:cM}{pos ap cp fp:da}{Γ:cI}{n m:Nat}{ak:Dn}{sc:cL}
inductive Nf(q:List (Option Expr)×List Expr):Expr->Prop where
 |mk (p:da):Nf q (.Dict q.1 q.2 p)
theorem Mn{e:Expr}{q:List (Option Expr)×List Expr}(h:Ik e=Y q):Nf q e:=by replace h:=XA ns h;obtain⟨a,b,p,rfl,h⟩:=h;obtain rfl:=sI h;exact⟨_⟩
theorem CP{e:Expr}{x:aV}(h:xG e=Y x):∃p,e=.Name x p:=by obtain⟨a,p,h1,h2⟩:=XW ns h;exact⟨p,sI h2▸h1⟩
inductive CE(l:List Nat):Expr->Prop where
 |mk (x:aV) (k:Nat) (p:da) (e:x.cps.toList=l):CE l (.Constant (.str x) k p)
theorem JF{e:Expr}{l:List Nat}(h:Sz e=Y l):CE l e:=by replace h:=OW ns h;obtain⟨c,k,p,rfl,h⟩:=h;induction c with
 |str x=>exact(sI h)▸⟨x,k,p,U⟩
 |_=>exact nS h
inductive HS(a:aV)(q:List Nat×List Nat):List Expr->Prop where
 |mk (e:a="replace") (x y:Expr) (h1:CE q.1 x) (h2:CE q.2 y):HS a q [x,y]
theorem Lr{a:aV}{as:List Expr}{q:List Nat×List Nat}(h:BI a as=Y q):HS a q as:=by induction as using List.casesOn with
 |nil=>exact nS h
 |cons x r=>induction r using List.casesOn with
  |nil=>exact nS h
  |cons y r=>obtain⟨k,h⟩:=gv h;obtain⟨k1,k2⟩:=bN.mp k;obtain⟨u,h1,h⟩:=aA.mp h;obtain⟨w,h2,rfl⟩:=aP.mp h;rw[List.isEmpty_iff]at k2;exact k2▸⟨dq k1,x,y,JF h1,JF h2⟩
inductive Vb:Expr->Prop where
 |mk (k:Nat) (p1 p2:da):Vb (.UnaryOp .USub (.Constant (.int 1) k p1) p2)
theorem Vo{e:Expr}(h:Vm e=S):Vb e:=by replace h:=Zx nt h;obtain⟨op,x,p,rfl,h⟩:=h;induction op with
 |USub=>induction q:zL x with
  |none=>dsimp only at h;rw[q]at h;exact nT h
  |some v=>dsimp only at h;rw[q]at h;replace q:=OW ns q;obtain⟨c,k,p2,rfl,q⟩:=q;induction c with
   |int i=>obtain rfl:=sI q;exact(of_decide_eq_true h)▸⟨_,_,_⟩
   |_=>first|exact nS q|(obtain rfl:=sI q;exact nT h)
 |_=>exact nT h
theorem oO{V:VI}{x:aV}{v:J}(h:rt T V x=Y v):iM V x=S/\T.glob.lookup x=Y v:=gv h
theorem Sb{V:VI}{e:Expr}{es:List Expr}{ms:List (M J)}(aj:∀e,b8 K e (ak.e V e))(i:mW K es ms):mW K (e::es) (dFs ak V e::ms):=by induction e using bg with
 |FormattedValue v cv o p=>show mW K _ (gd (o.isNone&&cv==-1) (ak.e V v)::ms);induction o with
  |some _=>exact .no
  |none=>induction q:cv==-1 with
   |true=>exact(eq_of_beq q)▸.fmt (aj v) i
   |false=>exact .no
 |Constant k n p=>induction k with
  |str x=>exact .con i
  |_=>exact .no
 |_=>exact .no
theorem GU{V:VI}(aj:∀e,b8 K e (ak.e V e)):∀{es:List Expr},mW K es (es.map (dFs ak V))
 |[]=>.nil
 |_::_=>Sb aj (GU aj)
theorem Ni{V:VI}(aj:∀e,b8 K e (ak.e V e)):∀{ks:List eU}{kms:List (Nat×M J)},dK K.T ak V ks=Y kms->su K ks kms
 |[],_,h=>by exact(sI h)▸.nil
 |⟨arg,v,p⟩::r,_,h=>by obtain⟨x,rfl,h⟩:=aA.mp h;obtain⟨i,h2,h⟩:=aA.mp h;obtain⟨q,h3,rfl⟩:=aP.mp h;exact .cons (hG h2) (aj v) (Ni aj h3)
section
variable(F:Tw T W)(GO:mZ T W m Γ)(aj:SD T W m ak)
include F GO aj
theorem t6(C:fB c A)(R:cw A m){elt:Expr}{P:cW->M J->Prop}(h0:∀g,P g M.no)(h1:∀x px it ifs me mi cond,Dh ⟨T,W,c,A⟩ x sc elt it ifs me mi cond->P ⟨.Name x px,it,ifs,0⟩ (kT me c.V.top mi cond))(g:cW):P g (Nk ak c.V elt g sc):=by obtain⟨t,it,ifs,ia⟩:=g;show P _ (gO (xG t) _);induction q:xG t with
 |none=>exact h0 _
 |some x=>obtain⟨px,rfl⟩:=CP q;show P _ (gd (rg c.V x sc&&!j5 it&&!ifs.any fR&&ia==0) _);induction hg:rg c.V x sc&&!j5 it&&!ifs.any fR&&ia==0 with
  |false=>exact h0 _
  |true=>rw[ax,ax,ax]at hg;obtain⟨⟨⟨hO,hs⟩,hifs⟩,hia⟩:=hg;have:=eq_of_beq hia;subst this;have he:∀c',fB c' A->c'.V=gk c.V x sc->b8 ⟨T,W,c',A⟩ elt (ak.e (gk c.V x sc) elt):=λc' C' hV=>hV▸aj.e c' A C' R elt;induction ifs with
   |nil=>exact h1 x px it [] _ _ .none ⟨hO,cu hs,aj.i c A C R it,he,λ_ _ _=>.nil⟩
   |cons e r=>induction r with
    |nil=>exact h1 x px it [e] _ _ (Y (ak.t (gk c.V x sc) e)) ⟨hO,cu hs,aj.i c A C R it,he,λc' C' hV=>.one (hV▸aj.t c' A C' R e)⟩
    |cons _ _=>exact h0 _
theorem QH(C:fB c A)(R:cw A m){v s:Expr}:b8 ⟨T,W,c,A⟩ (.Subscript v s pos) (VD T ak c.V v s):=by
 have Fb:=(F.fe GO C R).toFb;have ie:=aj.e c A C R;have io:∀o,LB ⟨T,W,c,A⟩ o (dO ak c.V o):=λo=>by induction o with
  |none=>exact E0
  |some e=>exact ie e
 induction s using bg with
 |Slice lo hi st p=>induction st with
  |none=>exact Lj Fb (ie v) (io lo) (io hi)
  |some st=>refine eR.gd λq=>?_;rw[ax,ax]at q;induction lo with
   |some _=>exact nT q.1.1
   |none=>induction hi with
    |some _=>exact nT q.1.2
    |none=>cases Vo q.2;exact LR (ie v)
 |_=>exact Lp Fb U (ie v) (ie _)
theorem HB(C:fB c A)(R:cw A m){o:Expr}{a:aV}{as:List Expr}{ks:List eU}:b8 ⟨T,W,c,A⟩ (.Call (.Attribute o a ap) as ks cp) (gd (ks.isEmpty&&(ap.endLine==cp.line&&nQ o&&jo as)) (AB T Γ ak c.V o a as)):=eR.gd λq=>by rw[ax,ax,ax,List.isEmpty_iff]at q;obtain⟨rfl,⟨hl,hs⟩,hp⟩:=q;have Fe:=F.fe GO C R;have ie:=aj.e c A C R;unfold AB;induction q1:Ik o with
 |some q=>cases Mn q1;refine eR.gO λkvs hk=>eR.gd λq2=>eR.on2 λx y e=>?_;subst e;rw[ax]at q2;refine(dq q2.1)▸?_;have hany:=rI hp;rw[List.any_cons,List.any_cons,cO,cO]at hany;exact GW Fe.toFc hl hk q2.2 hp hany.1 hany.2.1 (λp=>aj.e (c.hold p) A (C.hold p) R x) λp=>aj.e (c.hold p) A (C.hold p) R y
 |none=>induction q2:BI a as with
  |some q=>obtain⟨rfl,x,y,⟨x,k1,p1,h1⟩,⟨y,k2,p2,h2⟩⟩:=Lr q2;show b8 _ _ (wb (ak.e c.V o) q.1 q.2);exact h1▸h2▸HR F.g hs hl (ie o)
  |none=>exact eR.gO λi hi=>Ix Fe hs hl hp (hG hi) (ie o) (jT ie (rI hp))
theorem JO(C:fB c A)(R:cw A m){f:aV}{as:List Expr}{ks:List eU}:b8 ⟨T,W,c,A⟩ (.Call (.Name f fp) as ks cp) (Hs T Γ ak c.V f as ks):=eR.gO λv hv=>by
 obtain⟨hg,hv⟩:=oO hv;have Fe:=F.fe GO C R;have ie:=aj.e c A C R;have hisi:Gn v=S->v=.bi "isinstance":=λh=>by induction v with
  |bi n=>exact(eq_of_beq h)▸rfl
  |_=>exact nT h
 induction q:Gn v with
 |true=>replace hv:=(hisi q)▸hv;refine eR.on0 λe0=>eR.on2 λe x e1=>eR.gd λq2=>?_;subst e0 e1;rw[ax]at q2;induction q3:iW x with
  |some cs=>cases Am q3;exact eR.gO λvs h=>Ig Fe (cu q2.1) (ie e) hg hv h
  |none=>exact eR.gO λvs h=>Fg Fe (cu q2.1) (cu q2.2) (ie e) hg hv h
 |false=>exact eR.gO λkms hk=>eR.gd λhp=>E6 Fe hg hv (jT ie (rI hp)) (Ni ie hk)
end
end
section
open PySem PySem.W PySem.Calls PyProof.Rows
variable{T:aT}{W:Wd}{c:Fx}{A:ch}{K:Cx}{ρ:cM}{pos ap cp fp:da}{Γ:cI}{n m:Nat}{ak:Dn}{sc:cL}
theorem LN{es:List Expr}(h:Nat.blt 1 es.length=S):∃a b r,es=a::b::r:=by induction es with
 |nil=>exact nT h
 |cons a r=>induction r with
  |nil=>exact nT h
  |cons b r=>exact⟨a,b,r,U⟩
inductive Co(T:aT)(V:VI)(as:List Expr):Expr->Prop where
 |mk (x:aV) (fp cp:da) (g:iM V x=S) (h:T.glob.lookup x=Y (.ty "range")):Co T V as (.Call (.Name x fp) as [] cp)
theorem JN{V:VI}{e:Expr}{as:List Expr}(h:wT T V e=Y as):Co T V as e:=by replace h:=Vu ns h;obtain⟨f,as',ks,cp,rfl,h⟩:=h;obtain⟨x,h1,h⟩:=aA.mp h;obtain⟨v,h2,h⟩:=aA.mp h;obtain⟨p,rfl⟩:=CP h1;obtain⟨g1,g2⟩:=oO h2;induction v with
 |ty n=>obtain⟨k,e⟩:=gv h;obtain rfl:=sI e;rw[ax,List.isEmpty_iff]at k;obtain⟨k1,rfl⟩:=k;rw[eq_of_beq k1]at g2;exact⟨x,p,cp,g1,g2⟩
 |_=>exact nS h
section
variable(F:Tw T W)(GO:mZ T W m Γ)(aj:SD T W m ak)
include F GO aj
theorem JI(C:fB c A)(R:cw A m)(e:Expr):b8 ⟨T,W,c,A⟩ e (dE T Γ ak c.V e):=by have Fe:=F.fe GO C R;have ie:=aj.e c A C R;induction e using bg with
 |Constant k n p=>exact eR.gO λv h=>jX n h
 |Name x p=>show b8 _ _ (II T c.V x);unfold II;induction q:eE c.V x with
  |some i=>exact Lk C q
  |none=>exact eR.gO λv h=>Jy F.g C (oO h).1 (oO h).2
 |BinOp l o r p=>exact Mw (ie l) (ie r)
 |UnaryOp op x p=>induction op with
  |Not=>exact KL (ie x)
  |USub=>exact KZ (ie x)
  |_=>exact eR.no
 |BoolOp op es p=>refine eR.on2 λx y e=>?_;subst e;induction op with
  |And=>exact KH (ie x) (ie y)
  |Or=>exact Rn (ie x) (ie y)
 |IfExp t b o p=>exact LX (aj.t c A C R t) (ie b) (ie o)
 |Compare l os rs p=>exact(Ht F GO aj C R).e
 |Tuple es k p=>exact eR.gd λq=>Lz (jT ie (cu q))
 |List es p=>exact eR.gd λq=>Mf (jT ie (cu q))
 |Dict ks vs p=>exact eR.on0 λh1=>eR.on0 λh2=>by subst h1 h2;exact EB
 |JoinedStr es p=>refine eR.gd λq=>?_;obtain⟨a,b,r,rfl⟩:=LN q;exact Kx (GU ie)
 |Attribute v a p=>exact eR.gd λq=>eR.gO λk hk=>Fu Fe.toFb (hG hk) q (ie v)
 |Subscript v s p=>exact QH F GO aj C R
 |ListComp elt gs sc p=>refine eR.on1 λg e=>?_;subst e;exact t6 F GO aj C R (P:=λg m=>b8 ⟨T,W,c,A⟩ (.ListComp elt [g] sc p) m) (λ_=>eR.no) (λx px it ifs me mi cond ad=>IW Fe.toFc ad) g
 |Call f as ks cp=>induction f using bg with
  |Attribute o a ap=>exact HB F GO aj C R
  |Name x p=>exact JO F GO aj C R
  |_=>exact eR.no
 |_=>exact eR.no
theorem Vw(C:fB c A)(R:cw A m)(e:Expr)(hs:CQ e=S):mj ⟨T,W,c,A⟩ e (bJ (dE T Γ ak c.V e)):=by have he:=JI F GO aj C R e;induction e using bg with
 |Compare l os rs p=>exact(Ht F GO aj C R).t
 |UnaryOp op x p=>induction op with
  |Not=>exact nT hs
  |_=>exact Dd (λ_=>rfl) he
 |BoolOp _ _ _=>exact nT hs
 |IfExp _ _ _ _=>exact nT hs
 |_=>exact Dd (λ_=>rfl) he
omit F GO in
theorem Wc(C:fB c A)(R:cw A m)(e:Expr):mj ⟨T,W,c,A⟩ e (dT ak c.V e):=by have it:=aj.t c A C R;induction e using bg with
 |UnaryOp op x p=>induction op with
  |Not=>exact HE (it x)
  |_=>exact aj.te c A C R _ rfl
 |BoolOp op es p=>induction op with
  |And=>refine wl ?_;induction es with
   |nil=>exact xZ
   |cons e r ih=>exact vH (it e) ih
  |Or=>refine wl ?_;induction es with
   |nil=>exact zM
   |cons e r ih=>exact xc (it e) ih
 |IfExp _ _ _ _=>exact(eR.no:mj _ _ M.no)
 |_=>exact aj.te c A C R _ rfl
theorem WB(C:fB c A)(R:cw A m)(e:Expr):yb ⟨T,W,c,A⟩ e (dI T ak c.V e):=Ct λ_=>by have Fe:=F.fe GO C R;induction q:wT T c.V e with
 |none=>exact EM Fe.toFc (aj.e c A C R e)
 |some as=>obtain⟨x,fp,cp,g,h⟩:=JN q;induction as using List.casesOn with
  |nil=>exact tm
  |cons a r=>induction r using List.casesOn with
   |nil=>exact Ct λq=>Bx Fe.toFc g h (cu q) (aj.e c A C R a)
   |cons _ _=>exact tm
theorem SD.up:SD T W m (Ly T Γ ak):=⟨λc A C R=>JI F GO aj C R,λc A C R=>Vw F GO aj C R,λc A C R=>Wc aj C R,λc A C R=>WB F GO aj C R⟩
end
theorem SD.den(F:Tw T W)(GO:mZ T W m Γ):∀n,SD T W m (X1 T Γ n)
 |0=>⟨λ_ _ _ _ _=>eR.no,λ_ _ _ _ _ _=>(eR.no:mj _ _ M.no),λ_ _ _ _ _=>eR.no,λ_ _ _ _ _=>tm⟩
 |n+1=>SD.up F GO (SD.den F GO n)
theorem Kj{t:ar->o7 Unit}:pJ K t (λ_=>M.no):=λ_ _ _ _=>aX.no
theorem Dt{α:Type}{t:ar->o7 Unit}{o:Option α}{k:α->qf}(af:∀x,o=Y x->pJ K t (k x)):pJ K t (λv=>gO o λx=>k x v):=λρ v u hv=>aX.gO λx h=>af x h ρ v u hv
theorem Dq{t:ar->o7 Unit}{q:Bool}{k:qf}(af:q=S->pJ K t k):pJ K t (λv=>gd q (k v)):=λρ v u hv=>aX.gd λh=>af h ρ v u hv
theorem vU{d:Expr->qf}(aj:∀e,pJ K (iP e K.c.env) (d e)):∀{es:List Expr},es.any fR=I->t7 K es (es.map d)
 |[],_=>.nil
 |e::r,h=>by rw[List.any_cons,cO]at h;exact .cons h.1 (aj e) (vU aj h.2)
section
variable(F:Tw T W)(GO:mZ T W m Γ)(aj:SD T W m ak)
include F GO aj
theorem Jj(C:fB c A)(R:cw A m)(e:Expr):pJ ⟨T,W,c,A⟩ (iP e c.env) (TM T ak c.V e):=by have Fc:=(F.fe GO C R).toFc;have ie:=aj.e c A C R;induction e using bg with
 |Name x p=>exact Dt λi h=>E3 C h
 |Attribute o a p=>exact Dt λk h=>EG Fc (hG h) (ie o)
 |Subscript o i p=>exact Dq λq=>JG (ie o) (ie i)
 |_=>exact Kj
theorem NO(C:fB c A)(R:cw A m)(e:Expr):pJ ⟨T,W,c,A⟩ (iP e c.env) (dG T ak c.V e):=by induction e using bg with
 |Tuple ts k p=>exact Dq λq=>Hu (F.fe GO C R).toFc (vU (Jj F GO aj C R) (cu q))
 |_=>exact Jj F GO aj C R _
end
end
section
open PySem PySem.W PySem.Calls PyProof.Rows
variable{T:aT}{W:Wd}{c:Fx}{A:ch}{K:Cx}{ρ:cM}{pos ap cp fp:da}{Γ:cI}{n m:Nat}{ak:Dn}{sc:cL}
inductive SA(T:aT)(Γ:cI)(env:pv)(t e:Expr):Prop where
 |sw (h:∀line,lG [t] e line env=pure I):SA T Γ env t e
 |no (h:∀ak V,dE T Γ ak V e=M.no):SA T Γ env t e
theorem Wm{env:pv}{t e:Expr}(h:(!Gh t||!nv e)=S):SA T Γ env t e:=by induction q:nv e with
 |false=>exact .sw λ_=>zm q
 |true=>rw[q,dz]at h;have h:=cu (h.resolve_right (by decide));induction e using bg with
  |ListComp _ _ _ _=>exact .sw λ_=>IH h
  |SetComp _ _ _ _=>exact .no λ_ _=>rfl
  |DictComp _ _ _ _ _=>exact .no λ_ _=>rfl
  |_=>exact nT q
theorem zG(C:fB c A):∀{ns:List aV},ns.all (λx=>(cx c.V x).isSome)=S->∃is,D7 ⟨T,W,c,A⟩ ns is
 |[],_=>⟨[],.nil⟩
 |x::r,h=>by rw[List.all_cons,ax]at h;obtain⟨i,hi⟩:=bL.mp h.1;obtain⟨is,his⟩:=zG C h.2;exact⟨i::is,.cons hi his⟩
theorem D7.mem{ns:List aV}{is:List Nat}(ah:D7 K ns is){i:Nat}(hi:i∈is):∃y∈ns,cx K.c.V y=Y i:=by induction ah with
 |nil=>cases hi
 |cons h _ ih=>
  rcases List.mem_cons.mp hi with e0|hi
  ·exact e0▸⟨_,.head _,h⟩
  ·obtain⟨y,hy,e⟩:=ih hi
   exact⟨y,.tail _ hy,e⟩
theorem D7.nodup(C:fB K.c K.A){ns:List aV}{is:List Nat}(ah:D7 K ns is)(h:lu ns=S):is.Nodup:=by induction ah with
 |nil=>exact List.nodup_nil
 |@cons x i ns is hx ah ih=>have h:(!ns.any (·==x)&&lu ns)=S:=h;rw[ax]at h;refine List.nodup_cons.mpr ⟨λhm=>?_,ih h.2⟩;obtain⟨y,hy,e⟩:=ah.mem hm;have:=C.inj y x i (eM e).1 (eM hx).1;have q:=cu h.1;rw[List.any_eq_true.mpr ⟨y,hy,by rw[this];exact beq_self_eq_true x⟩]at q;exact nF q
theorem zO{V:VI}{x:aV}{p:da}{i:Nat}(h:cx V x=Y i):TM T ak V (.Name x p)=bd i:=by
 funext v
 show gO (cx V x) (λi=>bd i v)=_;rw[h]
theorem MU{ns:List aV}{is:List Nat}(ah:D7 K ns is):∀{ts:List Expr},tw ts=Y ns->ts.any fR=I/\ts.map (TM T ak K.c.V)=is.map bd:=by induction ah with
 |nil=>intro ts h;induction ts with
  |nil=>exact⟨U,U⟩
  |cons e r=>obtain⟨x,_,h⟩:=aA.mp h;obtain⟨y,_,h⟩:=aP.mp h;cases h
 |cons hx ah ih=>intro ts h;induction ts with
  |nil=>cases h
  |cons e r=>obtain⟨x,h1,h⟩:=aA.mp h;obtain⟨y,h2,h⟩:=aP.mp h;cases h;obtain⟨p,rfl⟩:=CP h1;obtain⟨i1,i2⟩:=ih h2;exact⟨i1,by rw[List.map_cons,List.map_cons,i2,zO hx]⟩
theorem Er{t e:Expr}{ns:List aV}(h:po sc t e=Y (Y ns)):nv e=I:=by cases e<;>first|rfl|cases h
inductive NR(V:VI):Expr->Expr->Prop where
 |mk (y:aV) (py:da) (elt:Expr) (g:cW) (sc:cL) (vx:da) (i:Nat) (h1:(py.line==vx.line)=S) (h2:(!(sc.names.any λ(n,k)=>n==y&&(k==.local||k==.cell)))=S) (h3:cx V y=Y i):NR V (.Name y py) (.ListComp elt [g] sc vx)
theorem QB{V:VI}{t e:Expr}(h:cmpAsg V t e=S):NR V t e:=by replace h:=XW nt h;obtain⟨y,py,rfl,h⟩:=h;replace h:=Zp nt h;obtain⟨elt,gs,sc,vx,rfl,h⟩:=h;induction gs using List.casesOn with
 |nil=>exact nT h
 |cons g r=>have h:(r.isEmpty&&Gh g.target&&(py.line==vx.line&&!(sc.names.any λ(n,k)=>n==y&&(k==.local||k==.cell))&&(cx V y).isSome))=S:=h;rw[ax,ax,ax,ax,List.isEmpty_iff]at h;obtain⟨⟨rfl,_⟩,⟨h1,h2⟩,h3⟩:=h;obtain⟨i,h3⟩:=bL.mp h3;exact⟨y,py,elt,g,sc,vx,i,h1,h2,h3⟩
theorem yi.hold(O:yi c)(p:bf×Hd):yi (c.hold p):=⟨O.frame,O.envs⟩
theorem yi.handed(O:yi c)(b:Bool):yi (c.handed b):=⟨O.frame,O.envs⟩
def Uz(T:aT)(W:Wd)(m:Nat)(ss:VI->List eD->M Fl):Prop:=∀c A,fB c A->yi c->cw A m->∀l,uQ ⟨T,W,c,A⟩ l (ss c.V l)
section
variable(F:Tw T W)(GO:mZ T W m Γ)(aj:SD T W m ak)
include F GO aj
theorem PF(C:fB c A)(R:cw A m){t e:Expr}:lV ⟨T,W,c,A⟩ (.Assign [t] e pos) (gd (Cv c.V t e||cmpAsg c.V t e) (sAsg (dG T (Ly T Γ ak) c.V t) (dE T Γ ak c.V e))):=eR.gd λhq=>by have Fc:=(F.fe GO C R).toFc;have ie:=JI F GO aj C R e;induction h1:Cv c.V t e with
 |true=>unfold Cv at h1;rw[ax,ax]at h1;obtain⟨⟨hs,hn⟩,hw0⟩:=h1;induction hk:po c.V.scope t e with
  |none=>rw[hk]at hw0;exact nT hw0
  |some o=>rw[hk]at hw0;induction o with
   |none=>cases Wm (T:=T) (Γ:=Γ) (env:=c.env) hn with
    |sw h=>exact Jv Fc (cu hs) h hk (NO F GO (SD.up F GO aj) C R t) ie
    |no h=>rw[h];exact(eR.no:lV _ _ M.no)
   |some ns=>induction q:iW t with
    |none=>rw[q]at hw0;exact nT hw0
    |some ts=>rw[q]at hw0;cases Am q with
     |mk k p=>
      have hw0:(tw ts==Y ns&&lu ns&&ns.all (λx=>(cx c.V x).isSome))=S:=hw0;rw[ax,ax]at hw0;obtain⟨⟨k1,k2⟩,k3⟩:=hw0;obtain⟨is,ah⟩:=zG (T:=T) (W:=W) C k3;obtain⟨n1,n2⟩:=MU (T:=T) (ak:=Ly T Γ ak) ah (eq_of_beq k1);have eg:dG T (Ly T Γ ak) c.V (.Tuple ts k p)=fg T (is.map bd):=by
       funext v
       show gd (!ts.any fR) (fg T (ts.map (TM T (Ly T Γ ak) c.V)) v)=_;exact n1▸congrArg (λz=>fg T z v) n2
      exact eg▸D3 Fc ah (ah.nodup C k2) (Er hk) hk ie
 |false=>rw[h1,gC]at hq;cases QB hq with
  |mk y py elt g sc vx i k1 k2 k3=>
   have hko:c.env.kindOf y=Y .local:=by unfold f6;exact C.scope▸(eM k3).2
   have hk:c.env.blockKind=.function:=by unfold pv.blockKind;rw[C.kind];rfl
   have hsw:∀(g:cW)(st:Nat),rX (.ListComp elt [g] sc vx) (Y (.Name y py)) st c.env=pure S:=λg st=>by show pure (c.env.blockKind==.function&&c.env.kindOf y==Y .local&&py.line==vx.line&&!(sc.names.any λ(n,k)=>n==y&&(k==.local||k==.cell)))=(pure S:o7 Bool);rw[hk,hko,k1,k2];rfl
   have eg:dG T (Ly T Γ ak) c.V (.Name y py)=bd i:=zO (T:=T) (ak:=Ly T Γ ak) (p:=py) k3;exact eg▸t6 F GO aj C R (P:=λg m=>lV ⟨T,W,c,A⟩ (.Assign [.Name y py] (.ListComp elt [g] sc vx) pos) (sAsg (bd i) m)) (λ_=>(eR.no:lV _ _ M.no)) (λx px it ifs me mi cond ad=>D8 Fc ad k3 (hsw _ _)) g
theorem Wx{ss:VI->List eD->M Fl}(ah:Uz T W m ss)(C:fB c A)(O:yi c)(R:cw A m)(s:eD):lV ⟨T,W,c,A⟩ s (dS T (Ly T Γ ak) ss c.V s):=by have Fe:=F.fe GO C R;have I':=SD.up F GO aj;have ie:=I'.e c A C R;have ib:=ah c A C O R;induction s using pX with
 |Assign ts e p=>refine eR.on1 λt q=>?_;subst q;exact PF F GO aj C R
 |AugAssign t o e p=>induction t using bg with
  |Name x p=>exact eR.gO λi h=>EL C h (ie e)
  |Attribute q a p=>exact eR.gO λk h=>DQ Fe.toFc (hG h) (ie q) (ie e)
  |_=>exact eR.no
 |Return e p=>refine eR.gO λx q=>?_;subst q;exact Ji (ie x)
 |Expr e p=>exact eR.gd λq=>EC C (cu q) (ie e)
 |If t b o p=>exact Kl (I'.t c A C R t) (ib b) (ib o)
 |While t b o p=>refine eR.on0 λq=>?_;subst q;exact BM Fe.toFc O (I'.t c A C R t) (ib b)
 |For t i b o p=>refine eR.on0 λq=>eR.gd λq2=>?_;subst q;exact Fw Fe.toFc (cu q2) (I'.i c A C R i) (λp=>NO F GO I' (C.hold p) R t) λp=>ah (c.hold p) A (C.hold p) (O.hold p) R b
 |Break p=>exact Gp
 |Raise e f p=>refine eR.gd λq=>eR.gO λx q2=>?_;subst q2;induction f with
  |none=>exact Ak Fe.toFd (ie x)
  |some _=>exact nT q
 |Try b hs o f p=>refine eR.on0 λq1=>eR.on0 λq2=>eR.on1 λhd q3=>?_;subst q1 q2 q3;obtain⟨ty,nm,h,hp⟩:=hd;refine eR.gO λty q1=>eR.gO λcn q2=>eR.gO λx q3=>eR.gO λv q4=>?_;subst q1 q3;obtain⟨p1,rfl⟩:=CP q2;induction v with
  |sref Cx=>exact eR.gO λi hi=>eR.gd λhX=>I7 Fe.toFd O hX (oO q4).1 (oO q4).2 hi (ib b) λv=>ah (c.handed S) (A.mark (Y v)) C.handed (O.handed S) ⟨R.depth,R.units⟩ h
  |_=>exact eR.no
 |_=>exact eR.no
end
theorem v6{d:eD->M Fl}(aj:∀s,lV K s (d s)):∀{l:List eD},zw K l (l.map d)
 |[]=>.nil
 |s::r=>.cons (aj s) (v6 aj)
theorem tI(F:Tw T W)(GO:mZ T W m Γ):∀n,Uz T W m (ph T Γ n)
 |0=>λ_ _ _ _ _ _=>(eR.no:uQ _ _ M.no)
 |n+1=>λc A C O R l=>Hr (v6 λs=>Wx F GO (SD.den F GO 29) (tI F GO n) C O R s)
end
section
open PySem PySem.W PySem.Calls PyProof.Rows
variable{T:aT}{W:Wd}{c:Fx}{A:ch}{Γ:cI}{m n:Nat}
inductive LF(T:aT)(W:Wd)(f:Nat)(fi:FI):Prop where
 |mk (F:Fn) (b:F.body=fi.body) (s:F.scope=fi.sc) (h:MN W T f F fi.pn (tN T fi)):LF T W f fi
theorem Rk{ft:Nat->Option FI}{f:Nat}:fK (oZ T ft (m+1)) f=AH λhand as ks h=>match ft f with
 |some fi=>y7 T (oZ T ft m) fi hand as ks h
 |.none=>.stuck:=rfl
theorem Fk(F:Tw T W){ft:Nat->Option FI}(FT:∀f fi,ft f=Y fi->LF T W f fi):∀m,mZ T W m (oZ T ft m)
 |0=>λc A f C R ρ as ks us kws ha hk=>(aX.no:aX _ ρ _ M.no Rv)
 |m+1=>λc A f C R=>by rw[Rk];induction hf:ft f with
  |none=>exact λρ as ks us kws ha hk=>(aX.no:aX _ ρ _ M.no Rv)
  |some fi=>
   obtain⟨Fn,h1,h2,h3⟩:=FT f fi hf;have GO:=Fk F FT m;refine MY (K:=⟨T,W,c,A⟩) F.g MV h3 C (Nat.lt_of_lt_of_le (Nat.lt_add_of_pos_right (Nat.succ_pos _)) R.depth) (n:=(f9 fi.sc).top+1) (mb:=ph T (oZ T ft m) 12 (f9 fi.sc) fi.body) λc' A' C' O' hV hA=>?_;have R':cw A' m:=by have h1:=R.depth;have h2:=R.units;rw[hA];exact⟨by show A.depth+1+(5*m+5)<=1000;exact bE [_,_] [(.a (.v 0) (.a (.m 5 (.a (.v 1) (.l 1))) (.l 3)),.l 1000)] 0 [1] (.a (.a (.v 0) (.l 1)) (.a (.m 5 (.v 1)) (.l 5))) (.l 1000) U h1,by show A.units+3+(50*m+150)<cLine;exact bE [_,_,_] [(.a (.a (.v 0) (.a (.m 50 (.a (.v 1) (.l 1))) (.l 120))) (.l 1),.v 2)] 0 [1] (.a (.a (.a (.v 0) (.l 3)) (.a (.m 50 (.v 1)) (.l 150))) (.l 1)) (.v 2) U h2⟩
   have k:=tI F GO 12 c' A' C' O' R' Fn.body;rw[hV,h1,h2]at k;rw[h1];exact k
end
section
open PySem PySem.W PySem.Calls PyProof.Rows
variable{T:aT}{W:Wd}
theorem fP{α:Type}{k:Nat}{v:α}:∀{l:List (Nat×α)},d5 k l=Y v->(k,v)∈l
 |[],h=>by exact nS h
 |p::r,h=>by unfold d5 at h;induction q:Nat.beq p.1 k with
  |true=>rw[q]at h;obtain rfl:=sI h;have:=Nat.eq_of_beq_eq_true q;exact this▸.head _
  |false=>rw[q]at h;exact .tail _ (fP h)
theorem jJ{k:Nat}{l:List Nat}(h:l.any (Nat.beq k)=S):k∈l:=by obtain⟨x,hx,e⟩:=List.any_eq_true.mp h;simp only[Nat.eq_of_beq_eq_true e];exact hx
theorem cJ{α β:Type}{f g:α->β}{l:List α}(h:l.map f=l.map g){x:α}(hx:x∈l):f x=g x:=by induction l with
 |nil=>cases hx
 |cons a r ih=>
  rw[List.map_cons,List.map_cons,List.cons.injEq]at h;rcases List.mem_cons.mp hx with e0|hx
  ·exact e0▸h.1
  ·exact ih h.2 hx
theorem cR{α β:Type}{a a':α}{b b':β}(h:(a,b)=(a',b')):a=a':=congrArg Prod.fst h
theorem bw{α β:Type}{a a':α}{b b':β}(h:(a,b)=(a',b')):b=b':=congrArg Prod.snd h
noncomputable def ke(u:ar):Option J:=match u with
 |.none=>Y .none
 |.bool b=>Y (.bool b)
 |.int i _=>Y (.int i)
 |.str x _=>Y (.str x.cps.toList)
 |.ref a=>Y (.sref a)
 |.builtin n=>Y (.bi n)
 |.type n=>Y (.ty n)
 |_=>.none
theorem qt{u:ar}{v:J}(h:ke u=Y v):Sv v u:=λρ=>by induction u with
 |none=>exact(sI h)▸.none
 |bool b=>exact(sI h)▸.bool b
 |int i t=>exact(sI h)▸.int i t
 |str x t=>exact(sI h)▸.str x t rfl
 |ref a=>exact(sI h)▸.sref a
 |builtin n=>exact(sI h)▸.bi n
 |type n=>exact(sI h)▸.ty n
 |_=>exact nS h
theorem qZ:∀{us:List ar}{vs:List J},us.map ke=vs.map Y->bP Sv vs us
 |[],[],_=>.nil
 |[],_::_,h=>by cases h
 |_::_,[],h=>by cases h
 |u::us,v::vs,h=>by rw[List.map_cons,List.map_cons,List.cons.injEq]at h;exact .cons (qt h.1) (qZ h.2)
def LK(K:kJ)(x:aV):Option J:=match nsIn K jp x with
 |some o=>(match o with
  |some u=>ke u
  |.none=>(bootBuiltins x).bind ke)
 |.none=>.none
noncomputable def Ng(l:List (aV×J)):Bool:=l.all λp=>!(p.1==("__debug__":aV))&&!(p.1==("__name__":aV))
theorem T4(X:W.K.In W.h0)(top:TopRead W.p W.loose W.mg W.mb W.h0)(h1:Ng T.glob=S)(h2:(T.glob.map λp=>LK W.K p.1)=T.glob.map λp=>Y p.2):Gd T W:=by
 have key:∀(x:aV)(v:J),T.glob.lookup x=Y v->(x==("__debug__":aV))=I/\(x==("__name__":aV))=I:=λx v e=>by have:=List.all_eq_true.mp h1 _ (mem_of_lookup e);rw[ax]at this;exact⟨cu this.1,cu this.2⟩
 refine⟨X,top,λx v e=>(key x v e).1,λx v e=>?_⟩;have k:LK W.K x=Y v:=cJ h2 (mem_of_lookup e);unfold LK at k;induction q:nsIn W.K jp x with
 |none=>rw[q]at k;exact nS k
 |some o=>rw[q]at k;induction o with
  |some u=>exact .glob u (qt k) q
  |none=>obtain⟨u,e1,e2⟩:=aA.mp k;exact .bi u (qt e2) q e1 λz=>by have:=(key x v e).2;rw[z]at this;exact absurd this (by decide)
theorem oy:∀{l:List aV},lu l=S->l.Nodup
 |[],_=>List.nodup_nil
 |x::r,h=>by obtain⟨h1,h2⟩:=bN.mp (show(!r.any (·==x)&&lu r)=S from h);refine List.nodup_cons.mpr ⟨λhm=>?_,oy h2⟩;have:=cu h1;rw[show r.any (·==x)=S from List.any_eq_true.mpr ⟨x,hm,beq_self_eq_true x⟩]at this;exact nF this
noncomputable def NN(K:kJ)(C:Nat)(nm:aV):Bool×Bool×Bool×Option (Option ar)×Option (Option ar)×Option (Option ar):=(n6 K C nm,mm K C,plainOver K C,eF K (.ref C) nm,eF K (.ref C) "__setattr__",takerIn K C nm)
noncomputable def oG{α:Type}(T:aT)(f:Nat->aV->α):List (List (Option α)):=T.attrs.map λp=>p.2.map λn=>(T.names[n]?).map (f p.1)
theorem Hj{α:Type}{f g:Nat->aV->α}(h:oG T f=oG T g){C n:Nat}{nm:aV}(ho:sM T C n=S)(hm:T.names[n]?=Y nm):f C nm=g C nm:=by unfold sM at ho;induction hl:d5 C T.attrs with
 |none=>rw[hl]at ho;exact nT ho
 |some l=>rw[hl]at ho;have:=cJ (cJ h (fP hl)) (jJ ho);dsimp only at this;rw[hm]at this;exact aQ this
theorem Vf(hn:lu T.names=S)(h:oG T (NN W.K)=oG T λ_ _=>(S,S,S,Y .none,Y (Y (.builtin "object.__setattr__")),Y .none)):Gc T W:=
 ⟨oy hn,λC n nm ho hm=>let k:=Hj h ho hm;⟨cR k,cR (bw k),cR (bw (bw (bw k))),cR (bw (bw (bw (bw k)))),cR (bw (bw k)),bw (bw (bw (bw (bw k))))⟩⟩
noncomputable def MQ(o:Option iS):Array ar:=match o with
 |some o=>(match o.data with
  |.seq us _=>us
  |_=>#[])
 |.none=>#[]
noncomputable def Vj(o:Option iS):Nat:=match o with
 |some o=>(match o.data with
  |.seq _ n=>n
  |.dict _ n=>n
  |_=>0)
 |.none=>0
noncomputable def Ow(o:Option iS):List b7:=match o with
 |some o=>(match o.data with
  |.dict es _=>es.toList
  |_=>[])
 |.none=>[]
def NS(o:Option iS):Option iS:=Y ⟨.type "tuple",o.bind (·.dict),.seq (MQ o).toList.toArray (Vj o),(o.map (·.slots)).getD #[]⟩
noncomputable def xP(e:b7):aV×qV:=match e.key with
 |.str x t=>(x,t)
 |_=>(se,0)
def NE(P:Params)(o:Option iS):Option iS:=Y ⟨.type "dict",.none,.dict ((Ow o).map λe=>⟨d9 P (xP e).1,.str (xP e).1 (xP e).2,e.val⟩).toArray (Vj o),#[]⟩
theorem yP{P:Params}(hP:P=W.w.params):∀{es:List (List Nat×J)}{ents:List b7},(ents.map λe=>((xP e).1.cps.toList,ke e.val))=(es.map λq=>(q.1,Y q.2))->bP (qs W) es (ents.map λe=>⟨d9 P (xP e).1,.str (xP e).1 (xP e).2,e.val⟩)
 |[],[],_=>.nil
 |[],_::_,h=>by cases h
 |_::_,[],h=>by cases h
 |q::es,e::ents,h=>by rw[List.map_cons,List.map_cons,List.cons.injEq]at h;exact .cons ⟨_,_,cR h.1,U,by exact hP▸rfl,qt (bw h.1)⟩ (yP hP h.2)
theorem Uy{P:Params}(hP:P=W.w.params)(hs:∀d vs,d5 d T.slist=Y vs->Hm W d vs)(h1:(T.sdict.map λp=>W.K.lookup p.1)=T.sdict.map λp=>NE P (W.K.lookup p.1))
  (h2:(T.sdict.map λp=>(p.1==fZ,(Ow (W.K.lookup p.1)).map λe=>((xP e).1.cps.toList,ke e.val)))=T.sdict.map λp=>(I,p.2.map λq=>(q.1,Y q.2)))
  (h3:(T.stup.map λp=>W.K.lookup p.1)=T.stup.map λp=>NS (W.K.lookup p.1)) (h4:(T.stup.map λp=>(MQ (W.K.lookup p.1)).toList.map ke)=T.stup.map λp=>p.2.map Y):Gt T W:=
 ⟨λd es e=>let k:=cJ h2 (fP e);⟨cR k,_,_,cJ h1 (fP e),yP hP (bw k)⟩,hs,λd vs e=>⟨_,_,_,_,cJ h3 (fP e),qZ (cJ h4 (fP e))⟩⟩
noncomputable abbrev E9:List ar:=[.type "ValueError",.type "Exception",.type "BaseException",.type "object"]
theorem H3:∀(l:List Nat),pW (l.map ar.ref++E9)
 |[]=>.base
 |_::r=>.own (H3 r)
noncomputable abbrev xL:List (Nat×List Nat):=[(523,[523]),(543,[543,523])]
theorem MX(hx:T.exns=xL.map (·.1)){C:Nat}(h:nk T C=S):∃l,(C,l)∈xL:=by have h:T.exns.any (Nat.beq C)=S:=h;replace h:=hx▸h;obtain⟨p,hp,rfl⟩:=List.mem_map.mp (jJ h);exact⟨p.2,hp⟩
noncomputable def Y4(K:kJ)(C:Nat):Option Bool×Option ar×Option Bool×Bool:=(pA K (.ref C) (.type "BaseException"),typeIn K (.ref C),pA K (.ref C) (.ref C),(clsIn K C).isSome)
theorem TW(hx:T.exns=xL.map (·.1))(h:(xL.map λp=>Y4 W.K p.1)=xL.map λ_=>(Y S,Y (.type "type"),Y S,S)):Gx T W:=λC e=>let⟨_,hm⟩:=MX hx e;let k:=cJ h hm;⟨cR k,cR (bw k),cR (bw (bw k)),bw (bw (bw k))⟩
noncomputable def Zb(K:kJ)(C:Nat):Option (Bool×List ar)×Option (Option ar)×Option (Option ar)×Option (Option ar)×Option Bool×Option Bool×Option Bool:=
 ((clsIn K C).map λcd=>(cd.hasDict,cd.mro),eF K (.ref C) "__getattribute__",eF K (.ref C) "__getattr__",eF K (.ref C) "__setattr__",pA K (.ref C) (.type "BaseException"),pA K (.ref C) (.type "object"),pA K (.ref C) (.type "ValueError"))
theorem Uf(hx:T.exns=xL.map (·.1))(h1:(xL.map λp=>Zb W.K p.1)=xL.map λp=>(Y (S,p.2.map ar.ref++E9),Y (Y (.builtin "BaseException.__getattribute__")),Y .none,Y (Y (.builtin "object.__setattr__")),Y S,Y S,Y S))
  (h2:(xL.map λp=>T.xattrs.map λn=>(T.names[n]?).map λx=>eF W.K (.ref p.1) x)=xL.map λp=>T.xattrs.map λn=>(T.names[n]?).map λx=>Y .none):Gy T W:=by
 refine⟨λC e=>?_,λC n x e hn=>?_⟩
 ·obtain⟨l,hm⟩:=MX hx e
  have k:=cJ h1 hm;obtain⟨cd,e1,e2⟩:=aP.mp (cR k);have k:=bw k;exact⟨⟨cd,e1,cR e2,bw e2▸H3 l⟩,cR k,cR (bw k),cR (bw (bw k)),cR (bw (bw (bw k))),cR (bw (bw (bw (bw k)))),bw (bw (bw (bw (bw k))))⟩
 ·obtain⟨l,hm⟩:=MX hx (BS e)
  have k:=cJ (cJ h2 hm) (jJ (bN.mp e).1);dsimp only at k;rw[hn]at k;exact aQ k
end
section
open PySem PySem.W PySem.Calls PyProof.Rows
variable{T:aT}{W:Wd}
noncomputable def vM(o:Option iS):ClassData:=match o with
 |some o=>(match o.data with
  |.cls cd=>cd
  |_=>default)
 |.none=>default
noncomputable def Up(o:Option iS)(i:Nat):Option ar:=(o.bind λo=>o.slots[i]?).getD .none
def VN(o:Option iS):XC:=⟨(vM o).name,(vM o).qualname,(vM o).ns,(vM o).bases,(vM o).mro.tail,(vM o).hasDict,(vM o).slotNames,(vM o).subclasses,(vM o).abstract,(vM o).collection,o.bind (·.dict),Up o 0,Up o 1,Up o 2,Up o 3,Up o 5⟩
def Zl(K:kJ)(T:aT)(C:Nat):Bool×Bool×Bool×Option (Option (Option ar)×Bool):=((VN (K.lookup C)).bm.contains (.type "ValueError"),(VN (K.lookup C)).bm.contains (.type "AttributeError"),(VN (K.lookup C)).bm.contains (.type "NameError"),(fm T C 0).map λf=>(eF K (.ref C) "__init__",isFn K (.ref f)))
theorem Vc(hx:T.exns=xL.map (·.1))(h1:(xL.map λp=>W.K.lookup p.1)=xL.map λp=>Y ((VN (W.K.lookup p.1)).obj p.1))(h2:(xL.map λp=>Zl W.K T p.1)=xL.map λp=>(S,I,I,(fm T p.1 0).map λf=>(Y (Y (.ref f)),S))):Gw T W:=λC f e hm=>by obtain⟨l,hl⟩:=MX hx e;have k:=cJ h2 hl;have k4:=bw (bw (bw k));dsimp only at k4;rw[hm]at k4;have k4:=aQ k4;exact⟨_,cJ h1 hl,cR k,cR (bw k),cR (bw (bw k)),cR k4,bw k4⟩
def oP{α:Type}(T:aT)(f:Nat->Nat->aV->α):List (Bool×List (Option α)):=T.meth.map λp=>(nk T p.1,bif nk T p.1 then[]else p.2.map λq=>(T.names[q.1]?).map (f p.1 q.2))
theorem LW{α:Type}{f g:Nat->Nat->aV->α}(h:oP T f=oP T g){C k m:Nat}{nm:aV}(e:fm T C k=Y m)(hm:T.names[k]?=Y nm)(hx:nk T C=I):f C m nm=g C m nm:=by obtain⟨ms,e1,e2⟩:=aA.mp e;have:=bw (cJ h (fP e1));dsimp only at this;rw[hx]at this;have:=cJ (show(ms.map λq=>(T.names[q.1]?).map (f C q.2))=ms.map λq=>(T.names[q.1]?).map (g C q.2)from this) (fP e2);dsimp only at this;rw[hm]at this;exact aQ this
noncomputable def q8{α:Type}(T:aT)(f:Nat->Nat->aV->α):List (List (Option α)):=T.meth.map λp=>p.2.map λq=>(T.names[q.1]?).map (f p.1 q.2)
theorem SK{α:Type}{f g:Nat->Nat->aV->α}(h:q8 T f=q8 T g){C k m:Nat}{nm:aV}(e:fm T C k=Y m)(hm:T.names[k]?=Y nm):f C m nm=g C m nm:=by obtain⟨ms,e1,e2⟩:=aA.mp e;have:=cJ (cJ h (fP e1)) (fP e2);dsimp only at this;rw[hm]at this;exact aQ this
noncomputable def Y3(K:kJ)(C m:Nat)(nm:aV):Bool×Option (Option ar)×Bool×Bool:=(n6 K C nm,eF K (.ref C) nm,isFn K (.ref m),lI K (.ref m))
noncomputable def YY(K:kJ)(C m:Nat)(nm:aV):Option (Option ar)×Bool×Option (Bool×Option CFound):=(rY K (.ref C) "__getattribute__",lI K (.ref m),(typeIn K (.ref C)).map λmc=>(readsIn K C mc,findCls K (.ref C) mc nm))
def Dm(T:aT)(f:Nat->Nat->Bool×Option (Option ar)×Bool):List (Option (Bool×Option (Option ar)×Bool)):=T.meth.map λp=>bif nk T p.1 then .none else(d5 0 p.2).map (f p.1)
noncomputable def Zh(K:kJ)(C f:Nat):Bool×Option (Option ar)×Bool:=(makesIn K C,eF K (.ref C) "__init__",isFn K (.ref f))
theorem Ue(h1:Dm T (Zh W.K)=Dm T λ_ f=>(S,Y (Y (.ref f)),S))(h2:(T.meth.map λp=>lI W.K (.ref p.1))=T.meth.map λ_=>S)(h3:(T.fns.map λa=>lI W.K (.ref a))=T.fns.map λ_=>S)
  (h4:oP T (Y3 W.K)=oP T λ_ m _=>(S,Y (Y (.ref m)),S,S)) (h5:q8 T (YY W.K)=q8 T λ_ m _=>(Y (Y (.builtin "type.__getattribute__")),S,Y (S,Y (.val (.ref m))))):Gm T W where
 make:=λC f e hx=>by obtain⟨ms,e1,e2⟩:=aA.mp e;have:=cJ h1 (fP e1);dsimp only at this;rw[hx,e2]at this;have k:=aQ this;exact⟨cR k,cR (bw k),bw (bw k)⟩
 keepC:=λC e=>by obtain⟨ms,e⟩:=bL.mp e;exact cJ h2 (fP e)
 keepF:=λa e=>cJ h3 (jJ e)
 meth:=λC k f nm e hm hx=>let k:=LW h4 e hm hx;⟨cR k,cR (bw k),cR (bw (bw k)),bw (bw (bw k))⟩
 cls:=λC k f nm _ e hm=>by have k:=SK h5 e hm;obtain⟨mc,e1,e2⟩:=aP.mp (bw (bw k));exact⟨cR k,cR (bw k),mc,e1,cR e2,bw e2⟩
noncomputable abbrev sT:List Nat:=[40,62,82,181,228]
noncomputable abbrev yw:List Nat:=[40,62,82,120,140,161,181,228]
noncomputable abbrev Ko:List String:=["int","bool","str"]
noncomputable def VK(K:kJ)(ak:Nat):Bool×Bool×Option (Option ar)×Option (Option ar)×Option Bool×Option Bool:=(n6 K ak "__class__",mm K ak,eF K (.ref ak) "__class__",rY K (.builtin "object.__class__") "__get__",takesIn K (.builtin "object.__class__"),mroIn K ak (.type "object"))
theorem TU(h1:(sT.map λak=>yw.map λC=>iQ W.K (.ref ak) (.ref C))=sT.map λak=>yw.map λC=>Y (uB ak C))(h2:(sT.map λak=>Ko.map λn=>iQ W.K (.ref ak) (.type n))=sT.map λ_=>Ko.map λ_=>Y I)
  (h3:(FP.map λn=>yw.map λC=>iQ W.K (.type n) (.ref C))=FP.map λ_=>yw.map λ_=>Y I) (h4:(FP.map λn=>Ko.map λm=>iQ W.K (.type n) (.type m))=FP.map λn=>Ko.map λm=>Y (n==m||(n=="bool"&&m=="int")))
  (h5:(sT.map (VK W.K))=sT.map λ_=>(S,S,Y (Y (.builtin "object.__class__")),Y (Y (.builtin "getset_descriptor.__get__")),Y S,Y S)):Gi W:=by
 have ty:∀{n},sU n=S->n∈Ko:=λ{n} h=>by
  rcases tS h with rfl|rfl|rfl
  ·exact .head _
  ·exact .tail _ (.head _)
  ·exact .tail _ (.tail _ (.head _))
 exact⟨λak C a b=>cJ (cJ h1 (jJ a)) (jJ b),λak n a b=>cJ (cJ h2 (jJ a)) (ty b),λn C a b=>cJ (cJ h3 a) (jJ b),λn m a b=>cJ (cJ h4 a) (ty b),
  λak a=>let k:=cJ h5 (jJ a);⟨cR k,cR (bw k),cR (bw (bw k)),cR (bw (bw (bw k))),cR (bw (bw (bw (bw k)))),bw (bw (bw (bw (bw k))))⟩⟩
end
section
open PySem PySem.W PySem.Calls PyProof.Rows
variable{T:aT}{W:Wd}
structure VJ(l:List (aV×Nat))(names:List (aV×dr))(n i:Nat)(x:aV):Prop where
 lo:n<=i
 hi:i<n+l.length
 g:(l[i-n]?).map (·.1)=Y x
 mem:x∈names.map (·.1)
theorem gZ:∀{names:List (aV×dr)}{n i:Nat}{x:aV},(gI n names).lookup x=Y i->VJ (gI n names) names n i x
 |[],n,i,x,h=>by exact nS h
 |(y,k)::r,n,i,x,h=>by have e:gI n ((y,k)::r)=bif k==.local||k==.cell then(y,n)::gI (n+1) r else gI n r:=rfl;induction q:k==.local||k==.cell with
  |true=>rw[e,q]at h⊢;have h:((y,n)::gI (n+1) r).lookup x=Y i:=h;rw[List.lookup_cons]at h;induction q:x==y with
   |true=>rw[q]at h;obtain rfl:=sI h;rw[eq_of_beq q];exact⟨Nat.le_refl _,Nat.lt_add_of_pos_right (Nat.succ_pos _),by rw[Nat.sub_self];rfl,.head _⟩
   |false=>rw[q]at h;obtain⟨h1,h2,h3,h4⟩:=gZ h;refine⟨Nat.le_of_succ_le h1,by show i<n+((gI (n+1) r).length+1);exact Nat.lt_of_lt_of_eq h2 (Nat.succ_add _ _),?_,.tail _ h4⟩;show(((y,n)::gI (n+1) r)[i-n]?).map (·.1)=_;rw[show i-n=(i-(n+1))+1 by exact(Nat.sub_add_cancel (Nat.sub_pos_of_lt h1)).symm];exact h3
  |false=>rw[e,q]at h⊢;obtain⟨h1,h2,h3,h4⟩:=gZ (show(gI n r).lookup x=Y i from h);exact⟨h1,h2,h3,.tail _ h4⟩
theorem tz{V:VI}{x:aV}{i:Nat}(h:eE V x=Y i):V.vm.lookup x=Y i:=(gv h).2
theorem Bj{sc:cL}(x y:aV)(i:Nat)(h1:eE (f9 sc) x=Y i)(h2:eE (f9 sc) y=Y i):x=y:=aQ ((gZ (tz h1)).g.symm.trans (gZ (tz h2)).g)
theorem HC{sc:cL}(x:aV)(i:Nat)(h:eE (f9 sc) x=Y i):i<(f9 sc).top:=by have:=(gZ (tz h)).hi;rw[Nat.zero_add]at this;exact this
theorem Ux{sc:cL}(hn:(sc.names.all λp=>!(p.1==("__debug__":aV))&&!(p.1==("__classdict__":aV)))=S)(x:aV)(i:Nat)(h:eE (f9 sc) x=Y i):(x==("__debug__":aV))=I/\(x==("__classdict__":aV))=I:=by obtain⟨p,hp,rfl⟩:=List.mem_map.mp (gZ (tz h)).mem;have:=List.all_eq_true.mp hn p hp;rw[ax]at this;exact⟨cu this.1,cu this.2⟩
theorem pK:∀{names:List (aV×dr)}{n m:Nat}{a b:List (aV×bf)}{x:aV},((a.lookup x).isSome=(b.lookup x).isSome)->((eX n names a).lookup x).isSome=((eX m names b).lookup x).isSome
 |[],_,_,_,_,_,h=>h
 |(y,k)::r,n,m,a,b,x,h=>by
  unfold eX
  by_cases q:(k==.cell)=S
  ·rw[if_pos q,if_pos q]
   refine pK ?_;rw[List.lookup_cons,List.lookup_cons];cases x==y with
   |true=>rfl
   |false=>exact h
  ·rw[if_neg q,if_neg q]
   exact pK h
noncomputable def wf(o:Option iS):FuncData:=match o with
 |some o=>(match o.data with
  |.func fd=>fd
  |_=>default)
 |.none=>default
def TL(o:Option iS)(fi:FI):Fn:=⟨(wf o).name,(wf o).qualname,(wf o).params,fi.body,fi.sc,(wf o).defaults,(wf o).kwdefaults,(wf o).doc,(wf o).pyModule,(wf o).code,(wf o).closureTuple,(o.map (·.cls)).getD .none,(wf o).annotations,o.bind (·.dict),(o.map (·.slots)).getD #[]⟩
def ug(o:Option iS)(p:yk):Option iS:=p.fi.map λfi=>⟨(TL o fi).oc,(TL o fi).od,.func (TL o fi).fd,(TL o fi).osl⟩
def IV(K:kJ)(f:Nat):List ar:=match(wf (K.lookup f)).defaults with
 |.ref d=>(MQ (K.lookup d)).toList
 |_=>[]
noncomputable def U3(sc:cL)(x:aV):Bool:=match sc.names.lookup x with
 |some k=>k==.local||(k==.cell&&((eX 0 sc.names []).lookup x).isSome)
 |.none=>I
def X8(fi:FI):Bool:=(!fi.sc.isCoroutine&&!fi.sc.isGenerator&&fi.sc.kind==.function&&lu fi.pn)&&fi.pn.all (U3 fi.sc)&&(List.range fi.pn.length).all (λi=>(fi.pn[i]?).all λx=>eE (f9 fi.sc) x==Y i)&&
 (fi.sc.names.all λp=>!(p.1==("__debug__":aV))&&!(p.1==("__classdict__":aV)))&&Nat.ble fi.dfl.length fi.pn.length
noncomputable def Ef(u:Nat->ar)(k:Nat):List ar:=(List.range k).map u
noncomputable def sR(p:yk):List aV:=match p.fi with
 |some fi=>fi.pn
 |.none=>[]
noncomputable def s9(n d:Nat):List Nat:=(List.range (d+1)).map λj=>n-d+j
def tY(K:kJ)(u:Nat->ar)(p:Nat×yk):List (Option (List (aV×ar))):=(s9 (sR p.2).length p.2.dfl.length).map λk=>Y ((sR p.2).zip (Ef u k++(IV K p.1).drop (k-((sR p.2).length-p.2.dfl.length))))
def tX(K:kJ)(ah:Setting)(u:Nat->ar)(p:Nat×yk):List (Option (List (aV×ar))):=(s9 (sR p.2).length p.2.dfl.length).map λk=>peek K ah (vq (wf (K.lookup p.1)) ⟨Ef u k,[]⟩)
def MK(p:Nat×yk):Bool:=Nat.beq (sR p.2).length 3&&Nat.beq p.2.dfl.length 1
def IK(p:Nat×yk):aV:=(sR p.2)[2]?.getD se
def Ar(K:kJ)(ah:Setting)(u:Nat->ar)(p:Nat×yk):Option (List (aV×ar)):=peek K ah (vq (wf (K.lookup p.1)) ⟨Ef u 2,[(IK p,u 2)]⟩)
def AL(u:Nat->ar)(p:Nat×yk):Option (List (aV×ar)):=Y ((sR p.2).zip (Ef u 3))
theorem LG(us:List ar):∃u:Nat->ar,us=Ef u us.length:=by
 refine⟨λi=>(us[i]?).getD .none,List.ext_getElem? λi=>?_⟩;unfold Ef;rw[List.getElem?_map]
 by_cases h:i<us.length
 ·rw[List.getElem?_range h,List.getElem?_eq_getElem h,Option.map_some,List.getElem?_eq_getElem h];rfl
 ·rw[List.getElem?_eq_none (Nat.le_of_not_lt h),List.getElem?_eq_none (by rw[List.length_range];exact Nat.le_of_not_lt h)];rfl
theorem I3{p:yk}{fi:FI}(h:p.fi=Y fi):fi.dfl=p.dfl:=by
 have key:∀s,OZ p.dfl s=Y fi->fi.dfl=p.dfl:=λs e=>by obtain⟨_,_,_,_,_,_,_,_,_,_,e⟩:=ZK ns e;exact sI e▸rfl
 unfold yk.fi at h;obtain⟨s,_,h⟩:=aA.mp h;induction q:p.mem with
 |some j=>rw[q]at h;obtain⟨t,_,h⟩:=aA.mp h;exact key t h
 |none=>rw[q]at h;exact key s h
theorem G8{o:Option iS}{p:yk}{fi:FI}(h:p.fi=Y fi)(e:o=ug o p):wf o=(TL o fi).fd:=by have:=congrArg wf e;unfold ug at this;rw[h]at this;exact this
theorem LL{K:kJ}{p:Nat×yk}{fi:FI}{us:List ar}{ah:Setting}(hfi:p.2.fi=Y fi)(hw:∀ah u,tX K ah u p=tY K u p)(h1:fi.pn.length-fi.dfl.length<=us.length)(h2:us.length<=fi.pn.length):
  peek K ah (vq (wf (K.lookup p.1)) ⟨us,[]⟩)=Y (fi.pn.zip (us++(IV K p.1).drop (us.length-(fi.pn.length-fi.dfl.length)))):=by
 have hd:=I3 hfi;have hpn:sR p.2=fi.pn:=by unfold sR;exact hfi▸rfl
 obtain⟨u,hu⟩:=LG us;have hm:us.length∈s9 (sR p.2).length p.2.dfl.length:=by unfold s9;exact hpn▸hd▸List.mem_map.mpr ⟨us.length-(fi.pn.length-fi.dfl.length),List.mem_range.mpr (by omega),by exact Nat.add_sub_of_le h1⟩
 have:=cJ (hw ah u) hm;rw[hpn,<-hd,<-hu]at this;exact this
theorem yg{k:Nat}{x y:aV}(a:T.names[k]?=Y x)(b:T.names[k]?=Y y):x=y:=by rw[a]at b;exact aQ b
theorem T8(hn:T.names.Nodup){p:Nat×yk}{fi:FI}(hfi:p.2.fi=Y fi)(hB:X8 fi=S)(ho:W.K.lookup p.1=ug (W.K.lookup p.1) p.2)(hc:codeIn W.K (wf (W.K.lookup p.1)).code (wf (W.K.lookup p.1)).qualname=S)
  (hdf:(IV W.K p.1).map ke=p.2.dfl.map Y) (hw:∀ah u,tX W.K ah u p=tY W.K u p) (hk:MK p=S->∀ah u,Ar W.K ah u p=AL u p):LF T W p.1 fi:=by
 have hd:=I3 hfi;have hpn:sR p.2=fi.pn:=by unfold sR;exact hfi▸rfl
 have hF:=G8 hfi ho;have hdv:=qZ hdf;rw[<-hd]at hdv;unfold X8 at hB;rw[ax,ax,ax,ax,ax,ax,ax]at hB;obtain⟨⟨⟨⟨⟨⟨⟨c1,c2⟩,c3⟩,c4⟩,c5⟩,c6⟩,c7⟩,c8⟩:=hB;have c8:=eV c8;refine⟨TL (W.K.lookup p.1) fi,U,U,ho.trans (by unfold ug;rw[hfi];rfl),hc,cu c1,cu c2,eq_of_beq c3,oy c4,λx hx=>?_,λi x e=>?_,Bj,Ux c7,HC,λas ks bs e=>?_⟩
 ·have h:=List.all_eq_true.mp c5 x hx
  unfold U3 at h;induction q:fi.sc.names.lookup x with
  |none=>rw[q]at h;exact nT h
  |some k=>
   rw[q]at h;have h:(k==.local||(k==.cell&&((eX 0 fi.sc.names []).lookup x).isSome))=S:=h;rw[dz,ax]at h;rcases h with h|h
   ·exact .loc (q.trans (by exact(eq_of_beq h)▸rfl))
   ·exact .cell (q.trans (by exact(eq_of_beq h.1)▸rfl)) λn=>(pK (m:=0) (b:=[]) U).trans h.2
 ·have h:=List.all_eq_true.mp c6 i (List.mem_range.mpr (List.getElem?_eq_some_iff.mp e).1)
  rw[e]at h;exact eq_of_beq h
 ·induction ks using List.casesOn with
  |nil=>obtain⟨q,e⟩:=gv (show(bif Nat.ble (fi.pn.length-fi.dfl.length) as.length&&Nat.ble as.length fi.pn.length then Y (as++fi.dfl.drop (as.length-(fi.pn.length-fi.dfl.length)))else .none)=Y bs from e);rw[ax]at q;have q1:=eV q.1;have q2:=eV q.2;obtain rfl:=sI e;refine⟨by rw[List.length_append,List.length_drop];exact ZT c8 q1 q2,λρ us kws ha hk'=>?_⟩;cases hk';have hl:=ha.length;refine⟨us++(IV W.K p.1).drop (as.length-(fi.pn.length-fi.dfl.length)),ha.append ((hdv.mono λ_ _ z=>z ρ).drop _),λah=>?_⟩;rw[<-hF,hl];rw[hl]at q1 q2;exact LL hfi hw q1 q2
  |cons p' r=>obtain⟨q,e2⟩:=gv (show(bif r.isEmpty&&Nat.beq fi.pn.length 3&&Nat.beq fi.dfl.length 1&&Nat.beq as.length 2&&((fi.pn[2]?).bind (lA T)==Y p'.1)then Y (as++[p'.2])else .none)=Y bs from e);rw[ax,ax,ax,ax,List.isEmpty_iff]at q;obtain⟨⟨⟨⟨rfl,q1⟩,q2⟩,q3⟩,q4⟩:=q;obtain⟨nm,q5,q6⟩:=aA.mp (eq_of_beq q4);obtain rfl:=sI e2;have r1:=Nat.eq_of_beq_eq_true q1;have r3:=Nat.eq_of_beq_eq_true q3;refine⟨by rw[List.length_append,r1,r3];rfl,λρ us kws ha hk'=>?_⟩;have hl:=ha.length;cases hk' with
   |cons z zs=>
    cases zs;rename_i kv;obtain⟨x,w⟩:=kv;obtain⟨z1,z2⟩:=z;have hx:x=nm:=yg z1 (hG q6);subst hx;refine⟨us++[w],ha.append (.cons z2 .nil),λah=>?_⟩;have hl2:us.length=2:=hl.symm.trans r3;obtain⟨a,b,rfl⟩:∃a b,us=[a,b]:=by
     rcases us with _|⟨a,_|⟨b,_|⟨_,_⟩⟩⟩
     ·cases hl2
     ·cases hl2
     ·exact⟨a,b,U⟩
     ·cases hl2
    have h:=hk (by unfold MK;rw[hpn,<-hd,q1,q2];rfl) ah λi=>([a,b,w][i]?).getD .none;unfold Ar AL IK at h;rw[hpn,q5,hF]at h;exact h
end
section
open PySem PySem.W PySem.Calls PyProof.Rows
theorem G3{us:List ar}{ns:List Int}(h:IntsAre us ns):bP Sv (ns.map J.int) us:=by induction h with
 |nil=>exact .nil
 |cons n t _ ih=>exact .cons (λρ=>.int _ _) ih
structure YQ(K:kJ)(P:Params):Prop where
 glob:(fu.glob.map λp=>LK K p.1)=fu.glob.map λp=>Y p.2
 attr:oG fu (NN K)=oG fu λ_ _=>(S,S,S,Y .none,Y (Y (.builtin "object.__setattr__")),Y .none)
 sd:(fu.sdict.map λp=>K.lookup p.1)=fu.sdict.map λp=>NE P (K.lookup p.1)
 sd2:(fu.sdict.map λp=>(p.1==fZ,(Ow (K.lookup p.1)).map λe=>((xP e).1.cps.toList,ke e.val)))=fu.sdict.map λp=>(I,p.2.map λq=>(q.1,Y q.2))
 st:(fu.stup.map λp=>K.lookup p.1)=fu.stup.map λp=>NS (K.lookup p.1)
 st2:(fu.stup.map λp=>(MQ (K.lookup p.1)).toList.map ke)=fu.stup.map λp=>p.2.map Y
 gx:(xL.map λp=>Y4 K p.1)=xL.map λ_=>(Y S,Y (.type "type"),Y S,S)
 gy:(xL.map λp=>Zb K p.1)=xL.map λp=>(Y (S,p.2.map ar.ref++E9),Y (Y (.builtin "BaseException.__getattribute__")),Y .none,Y (Y (.builtin "object.__setattr__")),Y S,Y S,Y S)
 gy2:(xL.map λp=>fu.xattrs.map λn=>(fu.names[n]?).map λx=>eF K (.ref p.1) x)=xL.map λp=>fu.xattrs.map λn=>(fu.names[n]?).map λx=>Y .none
 gw:(xL.map λp=>K.lookup p.1)=xL.map λp=>Y ((VN (K.lookup p.1)).obj p.1)
 gw2:(xL.map λp=>Zl K fu p.1)=xL.map λp=>(S,I,I,(fm fu p.1 0).map λf=>(Y (Y (.ref f)),S))
 ma:Dm fu (Zh K)=Dm fu λ_ f=>(S,Y (Y (.ref f)),S)
 kc:(fu.meth.map λp=>lI K (.ref p.1))=fu.meth.map λ_=>S
 kf:(fu.fns.map λa=>lI K (.ref a))=fu.fns.map λ_=>S
 mt:oP fu (Y3 K)=oP fu λ_ m _=>(S,Y (Y (.ref m)),S,S)
 mz:q8 fu (YY K)=q8 fu λ_ m _=>(Y (Y (.builtin "type.__getattribute__")),S,Y (S,Y (.val (.ref m))))
 cc:(sT.map λak=>yw.map λC=>iQ K (.ref ak) (.ref C))=sT.map λak=>yw.map λC=>Y (uB ak C)
 ct:(sT.map λak=>Ko.map λn=>iQ K (.ref ak) (.type n))=sT.map λ_=>Ko.map λ_=>Y I
 bc:(FP.map λn=>yw.map λC=>iQ K (.type n) (.ref C))=FP.map λ_=>yw.map λ_=>Y I
 bt:(FP.map λn=>Ko.map λm=>iQ K (.type n) (.type m))=FP.map λn=>Ko.map λm=>Y (n==m||(n=="bool"&&m=="int"))
 own:(sT.map (VK K))=sT.map λ_=>(S,S,Y (Y (.builtin "object.__class__")),Y (Y (.builtin "getset_descriptor.__get__")),Y S,Y S)
 fo:(lR.map λp=>K.lookup p.1)=lR.map λp=>ug (K.lookup p.1) p.2
 fc:(lR.map λp=>codeIn K (wf (K.lookup p.1)).code (wf (K.lookup p.1)).qualname)=lR.map λ_=>S
 fd:(lR.map λp=>(IV K p.1).map ke)=lR.map λp=>p.2.dfl.map Y
 fb:∀ah u,lR.map (tX K ah u)=lR.map (tY K u)
 fk:∀ah u,(lR.filter MK).map (Ar K ah u)=(lR.filter MK).map (AL u)
theorem XR:(lR.map λp=>p.2.fi.map X8)=lR.map λ_=>Y S:=by kernel_rfl
theorem CF:lu fu.names=S:=by kernel_rfl
theorem SP:Ng fu.glob=S:=by kernel_rfl
section
variable{W:Wd}{L:Nat}{Z:List Int}{us:List ar}(H:YQ W.K W.w.params)
include H
theorem F9(X:W.K.In W.h0)(top:TopRead W.p W.loose W.mg W.mb W.h0)(hL:W.h0.IsList L us.toArray)(hI:IntsAre us Z):Tw (au L Z) W where
 g:=T4 X top SP H.glob
 t:=Uy U (λd vs e=>by have hm:=fP e;have hm:=List.mem_singleton.mp hm;cases hm;exact⟨us,hL,G3 hI⟩) H.sd H.sd2 H.st H.st2
 c:=Vf CF H.attr
 x:=TW U H.gx
 m:=Ue H.ma H.kc H.kf H.mt H.mz
 y:=Uf U H.gy H.gy2
 w:=Vc U H.gw H.gw2
 i:=TU H.cc H.ct H.bc H.bt H.own
theorem FQ(f:Nat)(fi:FI)(e:ft f=Y fi):LF (au L Z) W f fi:=by obtain⟨p,e1,e2⟩:=aA.mp e;have hm:=fP e1;have hB:=cJ XR hm;dsimp only at hB;rw[e2]at hB;exact T8 (T:=au L Z) (p:=(f,p)) (oy CF) e2 (aQ hB) (cJ H.fo hm) (cJ H.fc hm) (cJ H.fd hm) (λah u=>cJ (H.fb ah u) hm) λhk ah u=>cJ (H.fk ah u) (List.mem_filter.mpr ⟨hm,hk⟩)
end
end
section
open PySem PySem.W PySem.Calls PyProof.Rows
def yj(env:pv):Fx:={env,V:=f9 env.scope,held:=[],envs:=[env],hand:=I,lo:=0,low:=[]}
noncomputable def Bq(l:List (aV×dr)):Bool:=l.all λp=>!(p.2==.cell)
theorem wP{l:List (aV×dr)}(h:Bq l=S){x:aV}(e:l.lookup x=Y .cell):False:=by have:=List.all_eq_true.mp h _ (mem_of_lookup e);exact nT this
theorem IP{T:aT}{n:Nat}{fi:FI}{v:J}{H':H}{as:List J}(hfi:ft 911=Y fi)(hb:tN T fi as []=Y as)(hv:v≠.none)(h:oZ T ft (n+1) I 911 as [] []=.ok v H'):
  ∃σ',(ph T (oZ T ft n) 12 (f9 fi.sc) fi.body) ⟨as++List.replicate ((f9 fi.sc).top+1-as.length) .unb,[],I⟩=.ok (.ret v) σ':=by
 have h:(match ft 911 with
  |some fi=>y7 T (oZ T ft n) fi I as [] []
  |.none=>.stuck)=.ok v H':=h
 replace h:=hfi▸h;have h:(match tN T fi as []with
  |some bs=>pU ((f9 fi.sc).top+1) (ph T (oZ T ft n) 12 (f9 fi.sc) fi.body) I bs []
  |.none=>.stuck)=.ok v H':=h
 replace h:=hb▸h;have h:pU ((f9 fi.sc).top+1) (ph T (oZ T ft n) 12 (f9 fi.sc) fi.body) I as []=.ok v H':=h;unfold pU at h;induction e:(ph T (oZ T ft n) 12 (f9 fi.sc) fi.body) ⟨as++List.replicate ((f9 fi.sc).top+1-as.length) .unb,[],I⟩with
 |ok f s=>replace h:=e▸h;induction f with
  |nxt=>cases h;exact absurd U hv
  |ret w=>cases h;exact⟨s,U⟩
  |brk=>cases h
 |exc x s=>replace h:=e▸h;cases h
 |stuck=>replace h:=e▸h;cases h
theorem Ka{T:aT}{W:Wd}{env:pv}{L:Nat}{n:Nat}{h:cT}{m:aV->Option ar}(F:Fr W.h0 env.locals h m)(hs:eE (f9 env.scope) ("script":aV)=Y 0)(hk:env.scope.names.lookup ("script":aV)=Y .local)(hm:m ("script":aV)=Y (.ref L)):
  dB T W (yj env) ⟨[.sref L]++List.replicate n .unb,[],I⟩ [] h:=by
 refine⟨⟨m,F,λx i v h1 h2 h3=>?_⟩,U,λi o as e=>(by cases e),λp hp=>(by cases hp),List.nodup_cons.mpr ⟨List.not_mem_nil,List.nodup_nil⟩,λb hb=>(by cases hb),U,λi hi=>absurd hi (Nat.not_lt_zero _)⟩;induction i with
 |zero=>have hx:x=("script":aV):=Bj _ _ _ h1 hs;exact hx▸(sI h2)▸.loc hk _ hm (.sref L)
 |succ i=>
  have h2:(List.replicate n J.unb)[i]?=Y v:=h2;rw[List.getElem?_replicate]at h2
  split at h2
  ·exact absurd (aQ h2).symm h3
  ·exact nS h2
theorem FF{W:Wd}{A:ch}{s:aF}{L L0 fa:bf}{cd:ar}{nm:aV}{body:List eD}{sc:cL}{Z:List Int}{us:List ar}{m:aV->Option ar}{Q:qP->aF->Prop}{E:ar->aF->Prop}{H':H}{n:Nat}
  (H:YQ W.K W.w.params) (X:W.K.In W.h0) (top:TopRead W.p W.loose W.mg W.mb W.h0) (hL:W.h0.IsList L us.toArray) (hI:IntsAre us Z)
  (hfi:ft 911=Y ⟨[("script":aV)],[],body,sc⟩) (hnc:Bq sc.names=S)
  (hA:A.frames=Y [vw nm sc L0 fa cd]) (hh:A.handled=cV) (R:cw A n)
  (F:Fr W.h0 L0 s.heap m) (hm:m ("script":aV)=Y (.ref L)) (htk:0<s.toks)
  (hlaw:oZ (au L Z) ft (n+1) I 911 [.sref L] [] []=.ok (.bool S) H')
  (hq:∀h' tk,(∀b o,W.h0.get? b=Y o->h'.get? b=Y o)->Q (.ret (.bool S)) {s with heap:=h',toks:=tk}):
  bY (cB W.prog W.w) A (execs body (vw nm sc L0 fa cd)) Q E s:=by
 obtain⟨σ',vz⟩:=IP hfi U (by intro z;cases z) hlaw;obtain⟨Fn,g1,g2,g3⟩:=FQ (L:=L) (Z:=Z) H 911 _ hfi;have FT:=F9 (L:=L) (Z:=Z) H X top hL hI;have GA:=Fk FT (FQ H) n;have g2:Fn.scope=sc:=g2;have kind:sc.kind=.function:=by exact g2▸g3.kind
 have hk:sc.names.lookup ("script":aV)=Y .local:=by cases g3.kinds ("script":aV) (.head _)with
  |loc h=>rw[g2]at h;exact h
  |cell h _=>rw[g2]at h;exact(wP hnc h).elim
 have C:fB (yj (vw nm sc L0 fa cd)) A:=
  {scope:=rfl,kind:=kind,glob:=rfl,bi:=rfl,inj:=Bj,nd:=λx i h=>g3.nd x i (by exact g2▸h),frames:=hA,
   envs:=λe he=>by rw[List.mem_singleton.mp he];exact⟨kind,L0,U,.inl U⟩,
   hand:=λ_=>hh,top:=HC,
   cells:=λx hx=>(wP hnc hx).elim,
   lo:=λ_ _ _=>Nat.zero_le _,lotop:=Nat.zero_le _}
 have hR:dB (au L Z) W (yj (vw nm sc L0 fa cd)) ⟨[.sref L]++List.replicate ((f9 sc).top+1-1) .unb,[],I⟩ [] s.heap:=Ka F (by have:=g3.slots 0 ("script":aV) rfl;rwa[g2]at this) hk hm;refine tI FT GA 12 (yj (vw nm sc L0 fa cd)) A C ⟨U,[],U⟩ R body [] _ [] s (List.prefix_refl _) hR htk Q E ?_;refine(show ph (au L Z) (oZ (au L Z) ft n) 12 (yj (vw nm sc L0 fa cd)).V body ⟨[.sref L]++List.replicate ((f9 sc).top+1-1) .unb,[],I⟩=.ok (.ret (.bool S)) σ' from vz)▸?_;intro ρ' h' tk a hp hr hv _;cases hv with
 |ret hv=>cases hv;exact hq h' tk hr.stays
theorem Vk{prog:oU}{w:World}{h0:cT}{p:oU}{loose:List aV}{mean:ExcName->Option ar}{mg mb:aV->Option ar}{A:ch}{s:aF}{L L0 fa:bf}{cd:ar}{nm:aV}{body:List eD}{sc:cL}{Z:List Int}{us:List ar}{m:aV->Option ar}{Q:qP->aF->Prop}{E:ar->aF->Prop}{K:kJ}
  (plain:∃H',oZ (au L Z) ft 40 I 911 [.sref L] [] []=.ok (.bool S) H')
  (X:K.In h0) (top:Top p loose mean mg mb h0) (hL:h0.IsList L us.toArray) (hI:IntsAre us Z)
  (F:Fr h0 L0 s.heap m) (H:YQ K w.params)
  (hfi:ft 911=Y ⟨[("script":aV)],[],body,sc⟩) (hnc:Bq sc.names=S)
  (hA:A.frames=Y [vw nm sc L0 fa cd]) (hh:A.handled=cV) (hdep:A.depth=302) (hun:A.units=7)
  (hm:m ("script":aV)=Y (.ref L)) (htk:0<s.toks)
  (hq:∀h' tk,(∀b o,h0.get? b=Y o->h'.get? b=Y o)->Q (.ret (.bool S)) {s with heap:=h',toks:=tk}):
  bY (cB prog w) A (execs body (vw nm sc L0 fa cd)) Q E s:=by
 obtain⟨H',hlaw⟩:=plain;exact FF (W:=⟨prog,w,K,h0,p,loose,mean,mg,mb,modules_low (topRead_of top).nolimit⟩) (n:=39) H X (topRead_of top) hL hI hfi hnc hA hh ⟨by rw[hdep];decide,by rw[hun];decide⟩ F hm htk hlaw hq
end
end
end Mine.Internal
namespace Mine
set_option Elab.async true
namespace top
theorem tw17542608870123051758:True:=⟨⟩
theorem tw10252623693936335467:True:=⟨⟩
theorem tw4250950275838387964:True:=⟨⟩
theorem tw14466935161476858967:True:=⟨⟩
theorem tw9326722878772556681:True:=⟨⟩
theorem tw11760055953109336660:True:=⟨⟩
theorem tw8547604310838440241:True:=⟨⟩
theorem tw4213018616267185653:True:=⟨⟩
theorem tw3909029901177050473:True:=⟨⟩
theorem tw11577829705659331004:True:=⟨⟩
theorem tw4547018644641229820:True:=⟨⟩
theorem tw1971433849790844608:True:=⟨⟩
theorem tw4626048006780466326:True:=⟨⟩
theorem tw18062624165398249997:True:=⟨⟩
theorem tw17788931634197215145:True:=⟨⟩
theorem tw16885616592811714743:True:=⟨⟩
theorem tw4047667213573674445:True:=⟨⟩
theorem tw16533540343700365917:True:=⟨⟩
theorem tw11520865232209809239:True:=⟨⟩
theorem tw2464713573024523455:True:=⟨⟩
theorem tw13994475860397038760:True:=⟨⟩
theorem tw1950521091445644615:True:=⟨⟩
theorem tw682014064893787789:True:=⟨⟩
theorem tw9227057690007400460:True:=⟨⟩
theorem tw352232786441526191:True:=⟨⟩
theorem tw4046864289407762814:True:=⟨⟩
theorem tw679676368844127653:True:=⟨⟩
theorem tw7059692629156357883:True:=⟨⟩
theorem tw7153270680253938626:True:=⟨⟩
theorem tw14632489290957082403:True:=⟨⟩
theorem tw5667650583090716360:True:=⟨⟩
theorem tw14823308797102314842:True:=⟨⟩
theorem tw7008692893051332821:True:=⟨⟩
theorem tw1040915598704419856:True:=⟨⟩
theorem tw18177719399980262173:True:=⟨⟩
theorem tw18034075008235765660:True:=⟨⟩
theorem tw775762912060472103:True:=⟨⟩
theorem tw283044589724301:True:=⟨⟩
theorem tw9366391650621772374:True:=⟨⟩
theorem tw9684699057600944294:True:=⟨⟩
theorem tw1617357707322924660:True:=⟨⟩
theorem tw427269002284569659:True:=⟨⟩
theorem tw4796303294375832693:True:=⟨⟩
theorem tw2506305409684761478:True:=⟨⟩
theorem tw2063449620868658059:True:=⟨⟩
theorem tw12638030207367898728:True:=⟨⟩
theorem tw8598144960395782539:True:=⟨⟩
theorem tw14319750081657075607:True:=⟨⟩
theorem tw6127594578889010139:True:=⟨⟩
theorem tw15836908640704697380:True:=⟨⟩
theorem tw11159431927160009238:True:=⟨⟩
theorem tw13802547742096326172:True:=⟨⟩
theorem tw11133666699803404755:True:=⟨⟩
theorem tw2965125352208521119:True:=⟨⟩
theorem tw2665807947273092163:True:=⟨⟩
theorem tw14327942687566195431:True:=⟨⟩
theorem tw5244899138074338376:True:=⟨⟩
theorem tw12507017104952529904:True:=⟨⟩
theorem tw1869187583165140508:True:=⟨⟩
theorem tw7127249843939869334:True:=⟨⟩
theorem tw6459276657848829223:True:=⟨⟩
theorem tw9694206877528517478:True:=⟨⟩
theorem tw8679839319945467846:True:=⟨⟩
theorem tw11592465598724292549:True:=⟨⟩
theorem tw908825868028484722:True:=⟨⟩
theorem tw4856909995586565122:True:=⟨⟩
theorem tw314455870634268127:True:=⟨⟩
theorem tw18330144715369815205:True:=⟨⟩
theorem tw2009410202504348048:True:=⟨⟩
theorem tw11012874149002130535:True:=⟨⟩
theorem tw657111498738832265:True:=⟨⟩
theorem tw11620634932572840514:True:=⟨⟩
theorem tw5536038536531405202:True:=⟨⟩
theorem tw104434173382791472:True:=⟨⟩
theorem tw10350142207108426684:True:=⟨⟩
theorem tw13902025155065610156:True:=⟨⟩
theorem tw16264823338695392855:True:=⟨⟩
theorem tw11468358511172941013:True:=⟨⟩
theorem tw11922380849998532372:True:=⟨⟩
theorem tw13985988839938425345:True:=⟨⟩
theorem tw10180943152330463961:True:=⟨⟩
theorem tw17576949682797635024:True:=⟨⟩
theorem tw1754339480302792767:True:=⟨⟩
theorem tw18137363274558907533:True:=⟨⟩
theorem tw3581848524822189991:True:=⟨⟩
theorem tw10768140376307724812:True:=⟨⟩
theorem tw453181688931711583:True:=⟨⟩
theorem tw16123964013534891561:True:=⟨⟩
theorem tw5507162329139097715:True:=⟨⟩
theorem tw17594962761535629368:True:=⟨⟩
theorem tw4383139521930768336:True:=⟨⟩
theorem tw13345470168829271861:True:=⟨⟩
theorem tw13044034144603486326:True:=⟨⟩
theorem tw12488038555639769405:True:=⟨⟩
theorem tw13500427573557490136:True:=⟨⟩
theorem tw10970771490040547393:True:=⟨⟩
theorem tw13369591340354186047:True:=⟨⟩
theorem tw7675417749720738473:True:=⟨⟩
theorem tw6812286434817487243:True:=⟨⟩
theorem tw16439428074185983240:True:=⟨⟩
theorem tw10643057118474118344:True:=⟨⟩
theorem tw16415559393655328363:True:=⟨⟩
theorem tw6333448901615975916:True:=⟨⟩
theorem tw1897025099450329940:True:=⟨⟩
theorem tw4250876409542091131:True:=⟨⟩
theorem tw8321918168302905379:True:=⟨⟩
theorem tw1169771345039838236:True:=⟨⟩
theorem tw7198060816514059695:True:=⟨⟩
theorem tw17176029603704830031:True:=⟨⟩
theorem tw11858546649754279707:True:=⟨⟩
theorem tw47109162367338493:True:=⟨⟩
theorem tw14371913498598963198:True:=⟨⟩
theorem tw6292954644110606532:True:=⟨⟩
theorem tw13830271770371739309:True:=⟨⟩
theorem tw9233335307524088747:True:=⟨⟩
theorem tw12415523145999629524:True:=⟨⟩
theorem tw1195175773429642966:True:=⟨⟩
theorem tw8054331753737935190:True:=⟨⟩
theorem tw9990226795618131978:True:=⟨⟩
theorem tw9833397302626899308:True:=⟨⟩
theorem tw8912170899635468890:True:=⟨⟩
theorem tw5225153198818245361:True:=⟨⟩
theorem tw390997316461189296:True:=⟨⟩
theorem tw1124271682379634556:True:=⟨⟩
theorem tw11383000496634168614:True:=⟨⟩
theorem tw2968346561183084112:True:=⟨⟩
theorem tw4158126171336067921:True:=⟨⟩
theorem tw11396854449078567652:True:=⟨⟩
theorem tw4597200072644226624:True:=⟨⟩
theorem tw8735323631387419056:True:=⟨⟩
theorem tw16612331741718818515:True:=⟨⟩
theorem tw5790966258338625528:True:=⟨⟩
theorem tw8645369167282567922:True:=⟨⟩
theorem tw12643520174271941249:True:=⟨⟩
theorem tw8628236747792435071:True:=⟨⟩
theorem tw9547732980113122599:True:=⟨⟩
theorem tw1284575025550258836:True:=⟨⟩
theorem tw6694047246710070196:True:=⟨⟩
theorem tw7313339093194340965:True:=⟨⟩
theorem tw8729362747519067210:True:=⟨⟩
theorem tw114735475811551136:True:=⟨⟩
theorem tw18236624570336363585:True:=⟨⟩
theorem tw5609151216138764652:True:=⟨⟩
theorem tw7681529838311687354:True:=⟨⟩
theorem tw17964300760807480141:True:=⟨⟩
theorem tw649594095290182367:True:=⟨⟩
theorem tw13272337422414781067:True:=⟨⟩
theorem tw10801874191123338550:True:=⟨⟩
theorem tw18367679650794681301:True:=⟨⟩
theorem tw8212240652046128837:True:=⟨⟩
theorem tw84136930442132756:True:=⟨⟩
theorem tw6659320528611288953:True:=⟨⟩
theorem tw11364231302868200999:True:=⟨⟩
theorem tw2580922434103091657:True:=⟨⟩
theorem tw7079599612431449588:True:=⟨⟩
theorem tw13359135706311490777:True:=⟨⟩
theorem tw11762496359356365647:True:=⟨⟩
theorem tw12777601194060584777:True:=⟨⟩
theorem tw602653604445443664:True:=⟨⟩
theorem tw4566856676736034171:True:=⟨⟩
theorem tw17981982808018919739:True:=⟨⟩
theorem tw16357309143852133390:True:=⟨⟩
theorem tw7845129631348957993:True:=⟨⟩
theorem tw14399976873020721970:True:=⟨⟩
theorem tw7250933059871147345:True:=⟨⟩
theorem tw16128028805679967097:True:=⟨⟩
theorem tw13899568491130100285:True:=⟨⟩
theorem tw681777741448182936:True:=⟨⟩
theorem tw12904532413392791838:True:=⟨⟩
theorem tw14277827659066580250:True:=⟨⟩
theorem tw13546161746385187788:True:=⟨⟩
theorem tw2910609919460849807:True:=⟨⟩
theorem tw11584198869435930015:True:=⟨⟩
theorem tw8204474986945543665:True:=⟨⟩
theorem tw13370750898655102155:True:=⟨⟩
theorem tw8435561252592420358:True:=⟨⟩
theorem tw8139039716903228087:True:=⟨⟩
theorem tw7358114872323791358:True:=⟨⟩
theorem tw14317375437502057738:True:=⟨⟩
theorem tw5088376156974544275:True:=⟨⟩
theorem tw1149218181149386328:True:=⟨⟩
theorem tw13820912127525551613:True:=⟨⟩
theorem tw17033825039287860005:True:=⟨⟩
theorem tw18064794426631996164:True:=⟨⟩
theorem tw5915399644114372684:True:=⟨⟩
theorem tw9851269098105209369:True:=⟨⟩
theorem tw7325726471975496349:True:=⟨⟩
theorem tw3820434133910038737:True:=⟨⟩
theorem tw13844505572957833930:True:=⟨⟩
theorem tw14453841093610474573:True:=⟨⟩
theorem tw5738303106652476479:True:=⟨⟩
theorem tw14901070454687303710:True:=⟨⟩
theorem tw16580785732701462914:True:=⟨⟩
theorem tw3331421620988305804:True:=⟨⟩
theorem tw4835499133494076262:True:=⟨⟩
theorem tw10006222313960134694:True:=⟨⟩
theorem tw10783980745131425670:True:=⟨⟩
theorem tw7160873610591055699:True:=⟨⟩
theorem tw3479634599624807885:True:=⟨⟩
theorem tw17160434163424456010:True:=⟨⟩
theorem tw1275901062530889299:True:=⟨⟩
theorem tw8999917154711486175:True:=⟨⟩
theorem tw12342655685612074800:True:=⟨⟩
theorem tw16068562728529669930:True:=⟨⟩
theorem tw14826035006057030972:True:=⟨⟩
theorem tw10936122117785486979:True:=⟨⟩
theorem tw15245507539482535896:True:=⟨⟩
theorem tw16866024460163772082:True:=⟨⟩
theorem tw5839659824258004927:True:=⟨⟩
theorem tw1697544655201012999:True:=⟨⟩
theorem tw372964977893139469:True:=⟨⟩
theorem tw1294077662247117797:True:=⟨⟩
theorem tw1142465760834251562:True:=⟨⟩
theorem tw1843344800811705456:True:=⟨⟩
theorem tw10816355053677723559:True:=⟨⟩
theorem tw3422688185749166683:True:=⟨⟩
theorem tw9961057766049560675:True:=⟨⟩
theorem tw6916252892733821390:True:=⟨⟩
theorem tw1893503896311436057:True:=⟨⟩
theorem tw9854310039474760501:True:=⟨⟩
theorem tw16759092144687519636:True:=⟨⟩
theorem tw7444641836354208208:True:=⟨⟩
theorem tw15092371282622821202:True:=⟨⟩
theorem tw568400683779154973:True:=⟨⟩
theorem tw1676862907878916244:True:=⟨⟩
theorem tw14263998999751124003:True:=⟨⟩
theorem tw12080426169559351053:True:=⟨⟩
theorem tw15286249088069653756:True:=⟨⟩
theorem tw10577272966987657301:True:=⟨⟩
theorem tw10836530967397901330:True:=⟨⟩
theorem tw16896751376397280635:True:=⟨⟩
theorem tw661290744650703789:True:=⟨⟩
theorem tw12483720753089274532:True:=⟨⟩
theorem tw15008207993883188931:True:=⟨⟩
theorem tw653121476165976413:True:=⟨⟩
theorem tw11840804652615492782:True:=⟨⟩
theorem tw7344827449581427950:True:=⟨⟩
theorem tw8069049012094873728:True:=⟨⟩
theorem tw7737320934136571279:True:=⟨⟩
theorem tw5647976800219259906:True:=⟨⟩
theorem tw6733462575251390621:True:=⟨⟩
theorem tw302023382947574297:True:=⟨⟩
theorem tw2287362676942042354:True:=⟨⟩
theorem tw4695670854781333657:True:=⟨⟩
theorem tw2126296398998916975:True:=⟨⟩
theorem tw3347922821702440152:True:=⟨⟩
theorem tw4736427724481360342:True:=⟨⟩
theorem tw6919701780365589675:True:=⟨⟩
theorem tw3739144386018749749:True:=⟨⟩
theorem tw6185767955086497853:True:=⟨⟩
theorem tw15976228082101565994:True:=⟨⟩
theorem tw860223938195835975:True:=⟨⟩
theorem tw18085771088847121727:True:=⟨⟩
theorem tw12819366960792805191:True:=⟨⟩
theorem tw18063644159110109576:True:=⟨⟩
theorem tw8237333600419904120:True:=⟨⟩
theorem tw4547113066930546574:True:=⟨⟩
theorem tw14724332232928298890:True:=⟨⟩
theorem tw13385244156195431271:True:=⟨⟩
theorem tw216529984938456764:True:=⟨⟩
theorem tw13187519465064655849:True:=⟨⟩
theorem tw1536312445118062077:True:=⟨⟩
theorem tw10414433010598505635:True:=⟨⟩
theorem tw5476889619067714990:True:=⟨⟩
theorem tw6906291655842520137:True:=⟨⟩
theorem tw4555866861457887817:True:=⟨⟩
theorem tw17620759639134147866:True:=⟨⟩
theorem tw3423177367516475676:True:=⟨⟩
theorem tw13922054642007902626:True:=⟨⟩
theorem tw16656781636731879198:True:=⟨⟩
theorem tw7717162694582976202:True:=⟨⟩
theorem tw13090165191389475591:True:=⟨⟩
theorem tw6610085992087608168:True:=⟨⟩
theorem tw15349318334595610263:True:=⟨⟩
theorem tw10562855833978642645:True:=⟨⟩
theorem tw11141966352661209427:True:=⟨⟩
theorem tw8622502720953521162:True:=⟨⟩
theorem tw13290321428070320777:True:=⟨⟩
theorem tw17323899518341599180:True:=⟨⟩
theorem tw8397750140179286328:True:=⟨⟩
theorem tw12287887523310495049:True:=⟨⟩
theorem tw8369368087495890639:True:=⟨⟩
theorem tw18121752080927795069:True:=⟨⟩
theorem tw5058314954733539658:True:=⟨⟩
theorem tw1353657120722975067:True:=⟨⟩
theorem tw11072019736110318841:True:=⟨⟩
theorem tw3715792687998586317:True:=⟨⟩
theorem tw4526881389914513428:True:=⟨⟩
theorem tw2568384757666718300:True:=⟨⟩
theorem tw14705559076539443318:True:=⟨⟩
theorem tw4111001743050654279:True:=⟨⟩
theorem tw4713442408853163898:True:=⟨⟩
theorem tw13307591127769906961:True:=⟨⟩
theorem tw9456006794991739263:True:=⟨⟩
theorem tw16674975167109581930:True:=⟨⟩
theorem tw3846862658102513837:True:=⟨⟩
theorem tw411662067469150650:True:=⟨⟩
theorem tw14142502885225118848:True:=⟨⟩
theorem tw9673933992889287130:True:=⟨⟩
theorem tw8620165645458168473:True:=⟨⟩
theorem tw13759081321499198575:True:=⟨⟩
theorem tw13134186033006778460:True:=⟨⟩
theorem tw2822501910515967889:True:=⟨⟩
theorem tw18016941796951652274:True:=⟨⟩
theorem tw877433047237710547:True:=⟨⟩
theorem tw8150499350492408157:True:=⟨⟩
theorem tw16414630628198896168:True:=⟨⟩
theorem tw1585457916280141200:True:=⟨⟩
theorem tw12762922103008790111:True:=⟨⟩
theorem tw3207569582813703071:True:=⟨⟩
theorem tw16510627131591992583:True:=⟨⟩
theorem tw7830913209206220567:True:=⟨⟩
theorem tw15058813355848621054:True:=⟨⟩
theorem tw708234853630380328:True:=⟨⟩
theorem tw7671549972530922468:True:=⟨⟩
theorem tw3033006917804047512:True:=⟨⟩
theorem tw2686779749311850726:True:=⟨⟩
theorem tw13422432716488540661:True:=⟨⟩
theorem tw9913501989792142831:True:=⟨⟩
theorem tw18326957874037197240:True:=⟨⟩
theorem tw9063741608606530840:True:=⟨⟩
theorem tw6577238642498478885:True:=⟨⟩
theorem tw6438537300738474071:True:=⟨⟩
theorem tw16120041803238788101:True:=⟨⟩
theorem tw2417791160451022400:True:=⟨⟩
theorem tw2105017259488925948:True:=⟨⟩
theorem tw15503665604740900718:True:=⟨⟩
theorem tw3418912648064540324:True:=⟨⟩
theorem tw3767615275625035234:True:=⟨⟩
theorem tw6487610083215253720:True:=⟨⟩
theorem tw5444345374180229054:True:=⟨⟩
theorem tw6664487174759623829:True:=⟨⟩
theorem tw7847352863974893604:True:=⟨⟩
theorem tw4671429814451907529:True:=⟨⟩
theorem tw16453443671601555132:True:=⟨⟩
theorem tw16659674399394625376:True:=⟨⟩
theorem tw2835187731363253809:True:=⟨⟩
theorem tw14789260269991461300:True:=⟨⟩
theorem tw12520176845478516731:True:=⟨⟩
theorem tw11613256710310857696:True:=⟨⟩
theorem tw17366924284538989914:True:=⟨⟩
theorem tw14402358008270493973:True:=⟨⟩
theorem tw6624316729101989866:True:=⟨⟩
theorem tw11459358961799972967:True:=⟨⟩
theorem tw15508944514630427714:True:=⟨⟩
theorem tw9382581127745807760:True:=⟨⟩
theorem tw1107088416671253978:True:=⟨⟩
theorem tw17022078359063049780:True:=⟨⟩
theorem tw9149571693438533347:True:=⟨⟩
theorem tw16525863338940772298:True:=⟨⟩
theorem tw11423202765487971197:True:=⟨⟩
theorem tw2462062305354472974:True:=⟨⟩
theorem tw3644161924160858147:True:=⟨⟩
theorem tw9743097575036673082:True:=⟨⟩
theorem tw15874363893724204672:True:=⟨⟩
theorem tw1988063486488863061:True:=⟨⟩
theorem tw2248615004971204189:True:=⟨⟩
theorem tw7587601194962177611:True:=⟨⟩
theorem tw1054488965285714247:True:=⟨⟩
theorem tw11960245374511038805:True:=⟨⟩
theorem tw2422214840401454511:True:=⟨⟩
theorem tw14349089067433371257:True:=⟨⟩
theorem tw13890846271309207196:True:=⟨⟩
theorem tw9059672392935016618:True:=⟨⟩
theorem tw13987285891283452908:True:=⟨⟩
theorem tw4655869559712951663:True:=⟨⟩
theorem tw6203543418390704334:True:=⟨⟩
theorem tw7429413206186439793:True:=⟨⟩
theorem tw6930518751129746686:True:=⟨⟩
theorem tw16155163154822807229:True:=⟨⟩
theorem tw15234444972351076034:True:=⟨⟩
theorem tw3473093325804163894:True:=⟨⟩
theorem tw14029182922437419836:True:=⟨⟩
theorem tw9601329371697537090:True:=⟨⟩
theorem tw16240068400928781132:True:=⟨⟩
theorem tw462939625794472801:True:=⟨⟩
theorem tw16782997733028217545:True:=⟨⟩
theorem tw9854493187847425173:True:=⟨⟩
theorem tw10399464001100048223:True:=⟨⟩
theorem tw16262243036561855896:True:=⟨⟩
theorem tw8800459187187324500:True:=⟨⟩
theorem tw8036327681605100784:True:=⟨⟩
theorem tw7033079012710635876:True:=⟨⟩
theorem tw13177472732611162249:True:=⟨⟩
theorem tw728428047077509346:True:=⟨⟩
theorem tw10579768621468169598:True:=⟨⟩
theorem tw8640417174963836015:True:=⟨⟩
theorem tw72247145696351765:True:=⟨⟩
theorem tw7106672103149713171:True:=⟨⟩
theorem tw2145171640123136144:True:=⟨⟩
theorem tw1321871150748368714:True:=⟨⟩
theorem tw6786057226368545225:True:=⟨⟩
theorem tw5118827330378232414:True:=⟨⟩
theorem tw2446586112883488508:True:=⟨⟩
theorem tw17103177528636943170:True:=⟨⟩
theorem tw8393700709775954928:True:=⟨⟩
theorem tw15877122091014420850:True:=⟨⟩
theorem tw9806617501295524395:True:=⟨⟩
theorem tw12783364522390391256:True:=⟨⟩
theorem tw14235281626263879747:True:=⟨⟩
theorem tw7191137982244381804:True:=⟨⟩
theorem tw12427389293880184781:True:=⟨⟩
theorem tw14214649769353832295:True:=⟨⟩
theorem tw6520327441239513222:True:=⟨⟩
theorem tw14646202821849125000:True:=⟨⟩
theorem tw7436774141650363327:True:=⟨⟩
theorem tw12210559395081530917:True:=⟨⟩
theorem tw16900427199656544559:True:=⟨⟩
theorem tw10774637447528242797:True:=⟨⟩
theorem tw8694864300669457046:True:=⟨⟩
theorem tw17795014544551873601:True:=⟨⟩
theorem tw11145643937294416527:True:=⟨⟩
theorem tw1734106126877513090:True:=⟨⟩
theorem tw11153979150802330146:True:=⟨⟩
theorem tw2581206410525282061:True:=⟨⟩
theorem tw3664424711883983056:True:=⟨⟩
theorem tw17395277212465857529:True:=⟨⟩
theorem tw16844067456194695469:True:=⟨⟩
theorem tw2057334267981633021:True:=⟨⟩
theorem tw146815374380898660:True:=⟨⟩
theorem tw1886144042066472794:True:=⟨⟩
theorem tw2847958352784047137:True:=⟨⟩
theorem tw15687709949711836451:True:=⟨⟩
theorem tw620129878449983639:True:=⟨⟩
theorem tw9614876229902214918:True:=⟨⟩
theorem tw14459580976405569124:True:=⟨⟩
theorem tw3195522803047326042:True:=⟨⟩
theorem tw6381231289166406305:True:=⟨⟩
theorem tw7657828476027519975:True:=⟨⟩
theorem tw17444329988762607307:True:=⟨⟩
theorem tw2619622883677149074:True:=⟨⟩
theorem tw12193372218175167114:True:=⟨⟩
theorem tw16836452506482946331:True:=⟨⟩
theorem tw6286779285267259847:True:=⟨⟩
theorem tw5766051744304087583:True:=⟨⟩
theorem tw1974259917200649262:True:=⟨⟩
theorem tw3254097082911018636:True:=⟨⟩
theorem tw1516213087968936877:True:=⟨⟩
theorem tw10404823597219466188:True:=⟨⟩
theorem tw304654302220672320:True:=⟨⟩
theorem tw7743179893348639699:True:=⟨⟩
theorem tw1108800333578037850:True:=⟨⟩
theorem tw9227541089923242437:True:=⟨⟩
theorem tw53344730913325255:True:=⟨⟩
theorem tw7475746777092488413:True:=⟨⟩
theorem tw9328819404386307858:True:=⟨⟩
theorem tw8541664164027344294:True:=⟨⟩
theorem tw15451780782824253742:True:=⟨⟩
theorem tw4258143625173308034:True:=⟨⟩
theorem tw4859757453598101857:True:=⟨⟩
theorem tw17434308400759680031:True:=⟨⟩
theorem tw12392516345856041104:True:=⟨⟩
theorem tw13852830345959847167:True:=⟨⟩
theorem tw5105846836358774362:True:=⟨⟩
theorem tw6893477703608230032:True:=⟨⟩
theorem tw6756851087969907010:True:=⟨⟩
theorem tw17683472795295644477:True:=⟨⟩
theorem tw16526113553464788058:True:=⟨⟩
theorem tw9800703332001039478:True:=⟨⟩
theorem tw14608685727046917156:True:=⟨⟩
theorem tw15985961358823992270:True:=⟨⟩
theorem tw705360758644809490:True:=⟨⟩
theorem tw14917401599646851644:True:=⟨⟩
theorem tw13191473780850816973:True:=⟨⟩
theorem tw5597187220613765494:True:=⟨⟩
theorem tw3871027444623705763:True:=⟨⟩
theorem tw4791253341166991637:True:=⟨⟩
theorem tw4470563128704297580:True:=⟨⟩
theorem tw13223034962123697568:True:=⟨⟩
theorem tw12764151676501842404:True:=⟨⟩
theorem tw17046948494117081484:True:=⟨⟩
theorem tw17953984050398360512:True:=⟨⟩
theorem tw2732273902793177162:True:=⟨⟩
theorem tw11430207588045935325:True:=⟨⟩
theorem tw2047080938173012442:True:=⟨⟩
theorem tw4468942710605802240:True:=⟨⟩
theorem tw4076138812419527698:True:=⟨⟩
theorem tw3669314199184481253:True:=⟨⟩
theorem tw4159251561096739476:True:=⟨⟩
theorem tw5728218623943512802:True:=⟨⟩
theorem tw1803303928475200142:True:=⟨⟩
theorem tw3453223234828964814:True:=⟨⟩
theorem tw3698484244233388692:True:=⟨⟩
theorem tw4186445540838780016:True:=⟨⟩
theorem tw12559286593441436923:True:=⟨⟩
theorem tw2601905985415302144:True:=⟨⟩
theorem tw14562072457839527476:True:=⟨⟩
theorem tw5590232498371695878:True:=⟨⟩
theorem tw13001836021917841797:True:=⟨⟩
theorem tw18164388396756303480:True:=⟨⟩
theorem tw2249405535684624136:True:=⟨⟩
theorem tw10001883323181062329:True:=⟨⟩
theorem tw3995942328266245912:True:=⟨⟩
theorem tw6749217079512962374:True:=⟨⟩
theorem tw1717825165581474212:True:=⟨⟩
theorem tw9908339238214195531:True:=⟨⟩
theorem tw1123975283337734383:True:=⟨⟩
theorem tw6505410396798821541:True:=⟨⟩
theorem tw3796891538752321733:True:=⟨⟩
theorem tw13501252493785611398:True:=⟨⟩
theorem tw17774833976778514315:True:=⟨⟩
theorem tw1293289543672728842:True:=⟨⟩
theorem tw3217022616335106338:True:=⟨⟩
theorem tw6885214360128481674:True:=⟨⟩
theorem tw5303079699428457377:True:=⟨⟩
theorem tw7761843605638006849:True:=⟨⟩
theorem tw1732150942055357024:True:=⟨⟩
theorem tw2675166985342186458:True:=⟨⟩
theorem tw15212760480394562756:True:=⟨⟩
theorem tw2809488002615124206:True:=⟨⟩
theorem tw16174758807025615021:True:=⟨⟩
theorem tw6912233166142098652:True:=⟨⟩
theorem tw5163715390036670947:True:=⟨⟩
theorem tw10195997230039290492:True:=⟨⟩
theorem tw7744093853086628109:True:=⟨⟩
theorem tw8374938949443298174:True:=⟨⟩
theorem tw3378803678994701225:True:=⟨⟩
theorem tw8265311939077410998:True:=⟨⟩
theorem tw16342770487823414484:True:=⟨⟩
theorem tw6187478851450931391:True:=⟨⟩
theorem tw15878805988109762761:True:=⟨⟩
theorem tw5552270689369575618:True:=⟨⟩
theorem tw4916261283513009128:True:=⟨⟩
theorem tw9335426496214029073:True:=⟨⟩
theorem tw2972514686349903234:True:=⟨⟩
theorem tw18086089286151905521:True:=⟨⟩
theorem tw6240723676877644813:True:=⟨⟩
theorem tw14248925298954806443:True:=⟨⟩
theorem tw350670483859837877:True:=⟨⟩
theorem tw18394268562011335289:True:=⟨⟩
theorem tw1394568958698188020:True:=⟨⟩
theorem tw11173010173815179391:True:=⟨⟩
theorem tw13474863142627684814:True:=⟨⟩
theorem tw2926424126403749041:True:=⟨⟩
theorem tw10001888077015295000:True:=⟨⟩
theorem tw5379463472682653830:True:=⟨⟩
theorem tw5155950481276406077:True:=⟨⟩
theorem tw9259421805112917234:True:=⟨⟩
theorem tw1147548669246485465:True:=⟨⟩
theorem tw16541100652227675460:True:=⟨⟩
theorem tw3315250197877816394:True:=⟨⟩
theorem tw17157282023139344501:True:=⟨⟩
theorem tw15254643099363442306:True:=⟨⟩
theorem tw6189502492464219833:True:=⟨⟩
theorem tw8538268897159353584:True:=⟨⟩
theorem tw11279390925490393535:True:=⟨⟩
theorem tw15740088241188596515:True:=⟨⟩
theorem tw17886615442053742456:True:=⟨⟩
theorem tw2287823674025257028:True:=⟨⟩
theorem tw11131206648525784891:True:=⟨⟩
theorem tw15722756333993289495:True:=⟨⟩
theorem tw6430265229019958763:True:=⟨⟩
theorem tw16739174306508632950:True:=⟨⟩
theorem tw16577533722863086443:True:=⟨⟩
theorem tw5278709424875269971:True:=⟨⟩
theorem tw9250549774821547598:True:=⟨⟩
theorem tw17103585973383926153:True:=⟨⟩
theorem tw12182655422080760471:True:=⟨⟩
theorem tw3561193834555079511:True:=⟨⟩
theorem tw17355269125676882429:True:=⟨⟩
theorem tw3901323768455840569:True:=⟨⟩
theorem tw11546936639936008217:True:=⟨⟩
theorem tw4940147422707163885:True:=⟨⟩
theorem tw3570499242123996262:True:=⟨⟩
theorem tw8327351992414209593:True:=⟨⟩
theorem tw105208000716104510:True:=⟨⟩
theorem tw17921175469725437805:True:=⟨⟩
theorem tw5692499903750754813:True:=⟨⟩
theorem tw99440450732166138:True:=⟨⟩
theorem tw3140898538269762758:True:=⟨⟩
theorem tw1492452104121835379:True:=⟨⟩
theorem tw17431308487043992063:True:=⟨⟩
theorem tw2752453847809088016:True:=⟨⟩
theorem tw6265701101103706036:True:=⟨⟩
theorem tw10548783162686979305:True:=⟨⟩
theorem tw3764141193738528704:True:=⟨⟩
theorem tw4691186174975459493:True:=⟨⟩
theorem tw3696473221133414273:True:=⟨⟩
theorem tw15799541711010589177:True:=⟨⟩
theorem tw4773702212245658779:True:=⟨⟩
theorem tw10341860258655708415:True:=⟨⟩
theorem tw11466170419677230873:True:=⟨⟩
theorem tw1137235612907882162:True:=⟨⟩
theorem tw17470836177267949868:True:=⟨⟩
theorem tw10956490626425055710:True:=⟨⟩
theorem tw13047834502658803893:True:=⟨⟩
theorem tw13896958669275611876:True:=⟨⟩
theorem tw9843949296442739443:True:=⟨⟩
theorem tw12865423146811077096:True:=⟨⟩
theorem tw1112988674713690477:True:=⟨⟩
theorem tw16542083797698202722:True:=⟨⟩
theorem tw1139600151236580504:True:=⟨⟩
theorem tw15095372191486117680:True:=⟨⟩
theorem tw2670627174450433442:True:=⟨⟩
theorem tw8025738503920905074:True:=⟨⟩
theorem tw12554540806306477360:True:=⟨⟩
theorem tw13983857475226248213:True:=⟨⟩
theorem tw10703516329204539289:True:=⟨⟩
theorem tw984902984118615328:True:=⟨⟩
theorem tw13303987763403120937:True:=⟨⟩
theorem tw6754034310392073148:True:=⟨⟩
theorem tw12622177474791663080:True:=⟨⟩
theorem tw3831216023754155268:True:=⟨⟩
theorem tw668136137496459709:True:=⟨⟩
theorem tw17085176360113175178:True:=⟨⟩
theorem tw12609604535291364189:True:=⟨⟩
theorem tw4656485037274611717:True:=⟨⟩
theorem tw14120148312427719287:True:=⟨⟩
theorem tw17545328352263074274:True:=⟨⟩
theorem tw6042063481754889096:True:=⟨⟩
theorem tw16273406610938067001:True:=⟨⟩
theorem tw4807402645868434406:True:=⟨⟩
theorem tw5970215366352900667:True:=⟨⟩
theorem tw17315540178315561739:True:=⟨⟩
theorem tw13155808216886167631:True:=⟨⟩
theorem tw7249705126575804556:True:=⟨⟩
theorem tw5235370132326077648:True:=⟨⟩
theorem tw7522852383072776753:True:=⟨⟩
theorem tw2446451932059125521:True:=⟨⟩
theorem tw12105128591322288922:True:=⟨⟩
theorem tw7973188991228987537:True:=⟨⟩
theorem tw8985709366574770022:True:=⟨⟩
theorem tw8281120267493503204:True:=⟨⟩
theorem tw2770239361232196585:True:=⟨⟩
theorem tw12535971307161669396:True:=⟨⟩
theorem tw3337584539547039419:True:=⟨⟩
theorem tw13370185576492129568:True:=⟨⟩
theorem tw10885322118463539834:True:=⟨⟩
theorem tw12643491718579748851:True:=⟨⟩
theorem tw1016984595167383106:True:=⟨⟩
theorem tw11053662475850362967:True:=⟨⟩
theorem tw9152664641465651067:True:=⟨⟩
theorem tw15003358760713899574:True:=⟨⟩
theorem tw13318506193475082254:True:=⟨⟩
theorem tw9685713192446186341:True:=⟨⟩
theorem tw5702910450625016506:True:=⟨⟩
theorem tw15383718091736126541:True:=⟨⟩
theorem tw4131498621145694574:True:=⟨⟩
theorem tw6898770573198911631:True:=⟨⟩
theorem tw6460121766331871944:True:=⟨⟩
theorem tw17050326753033342646:True:=⟨⟩
theorem tw5240389563564037448:True:=⟨⟩
theorem tw15860264024139754761:True:=⟨⟩
theorem tw9919435345466941130:True:=⟨⟩
theorem tw17089494485692210459:True:=⟨⟩
theorem tw12166907935582030026:True:=⟨⟩
theorem tw16054190913257422852:True:=⟨⟩
theorem tw1192657577511650299:True:=⟨⟩
theorem tw1990408344712342385:True:=⟨⟩
theorem tw729201693064108563:True:=⟨⟩
theorem tw12031303853943761323:True:=⟨⟩
theorem tw13864677062968915208:True:=⟨⟩
theorem tw15740948416001004644:True:=⟨⟩
theorem tw4232285709927190386:True:=⟨⟩
theorem tw2365566498512967660:True:=⟨⟩
theorem tw8813761850579938390:True:=⟨⟩
theorem tw1043701613660472097:True:=⟨⟩
theorem tw14502225709538309166:True:=⟨⟩
theorem tw3484022092364678248:True:=⟨⟩
theorem tw4395346232132896567:True:=⟨⟩
theorem tw12317137736924338119:True:=⟨⟩
theorem tw4807692442873511580:True:=⟨⟩
theorem tw17783859843131274014:True:=⟨⟩
theorem tw4052878762203253943:True:=⟨⟩
theorem tw3357215229441099570:True:=⟨⟩
theorem tw10219655510578893393:True:=⟨⟩
theorem tw11045010717311733409:True:=⟨⟩
theorem tw12376051458212225564:True:=⟨⟩
theorem tw3128193824291822260:True:=⟨⟩
theorem tw16420938139371093754:True:=⟨⟩
theorem tw4840481374290595910:True:=⟨⟩
theorem tw7360493887585077711:True:=⟨⟩
theorem tw6674990990233134667:True:=⟨⟩
theorem tw6973401727384321114:True:=⟨⟩
theorem tw2770563814800254177:True:=⟨⟩
theorem tw3768957769849046624:True:=⟨⟩
theorem tw10194810499950245846:True:=⟨⟩
theorem tw14851680436948445374:True:=⟨⟩
theorem tw13167462122316868159:True:=⟨⟩
theorem tw18186074749648716422:True:=⟨⟩
theorem tw1655259298481077034:True:=⟨⟩
theorem tw8657480035899644758:True:=⟨⟩
theorem tw12879618353801967718:True:=⟨⟩
theorem tw5648408011753718230:True:=⟨⟩
theorem tw8693662901424576113:True:=⟨⟩
theorem tw788273225186049534:True:=⟨⟩
theorem tw5240762971458559404:True:=⟨⟩
theorem tw12318557346453588183:True:=⟨⟩
theorem tw3486219094355674750:True:=⟨⟩
theorem tw2424727229257130912:True:=⟨⟩
theorem tw6623532728838073528:True:=⟨⟩
theorem tw6503730183909636620:True:=⟨⟩
theorem tw9723989250521069032:True:=⟨⟩
theorem tw2555065506035805374:True:=⟨⟩
theorem tw16325430554902658873:True:=⟨⟩
theorem tw6583040956863952856:True:=⟨⟩
theorem tw11199710921928265848:True:=⟨⟩
theorem tw2443449257678562572:True:=⟨⟩
theorem tw4134505453457115739:True:=⟨⟩
theorem tw4331257952254489624:True:=⟨⟩
theorem tw15361541807878343388:True:=⟨⟩
theorem tw2047500489365003465:True:=⟨⟩
theorem tw2896640688883821729:True:=⟨⟩
theorem tw16258771989139608452:True:=⟨⟩
theorem tw13975414291046593716:True:=⟨⟩
theorem tw11443710868159068359:True:=⟨⟩
theorem tw18200808041648558556:True:=⟨⟩
theorem tw7715697345341360870:True:=⟨⟩
theorem tw9739860059890490050:True:=⟨⟩
theorem tw10005945817407372193:True:=⟨⟩
theorem tw11994683656316670133:True:=⟨⟩
theorem tw450566749975022562:True:=⟨⟩
theorem tw18387569698083125528:True:=⟨⟩
theorem tw1638113669730673903:True:=⟨⟩
theorem tw8043003576528973991:True:=⟨⟩
theorem tw6075534854705499898:True:=⟨⟩
theorem tw15823732540823425666:True:=⟨⟩
theorem tw11377482038585738817:True:=⟨⟩
theorem tw6176384092110617959:True:=⟨⟩
theorem tw5938664839603501006:True:=⟨⟩
theorem tw3969286963782609292:True:=⟨⟩
theorem tw7297446738713254254:True:=⟨⟩
theorem tw1833847959688406909:True:=⟨⟩
theorem tw6699709698940308603:True:=⟨⟩
theorem tw16104615914030681952:True:=⟨⟩
theorem tw15299407806266782574:True:=⟨⟩
theorem tw9178861053002065721:True:=⟨⟩
theorem tw17492772389151264855:True:=⟨⟩
theorem tw5969682004907312646:True:=⟨⟩
theorem tw814325599930780420:True:=⟨⟩
theorem tw14597223018079223185:True:=⟨⟩
theorem tw16734371015571099844:True:=⟨⟩
theorem tw408924730781346937:True:=⟨⟩
theorem tw9233715247699887402:True:=⟨⟩
theorem tw7280543176740627685:True:=⟨⟩
theorem tw2924597203103170677:True:=⟨⟩
theorem tw2220570432770164149:True:=⟨⟩
theorem tw9631074621892390191:True:=⟨⟩
theorem tw6746510453823603384:True:=⟨⟩
theorem tw17428532607074087071:True:=⟨⟩
theorem tw14645912567700417926:True:=⟨⟩
theorem tw2878843996050045342:True:=⟨⟩
theorem tw342308947776675178:True:=⟨⟩
theorem tw17576975557295073227:True:=⟨⟩
theorem tw9361663168868926718:True:=⟨⟩
theorem tw2907113945770861938:True:=⟨⟩
theorem tw3603051052118289896:True:=⟨⟩
theorem tw995497684801637723:True:=⟨⟩
theorem tw2617719716777270872:True:=⟨⟩
theorem tw7158002623345892728:True:=⟨⟩
theorem tw10694878333477680388:True:=⟨⟩
theorem tw297971269722091814:True:=⟨⟩
theorem tw6383614241601562808:True:=⟨⟩
theorem tw4205137553216949640:True:=⟨⟩
theorem tw5005317128667965579:True:=⟨⟩
theorem tw7439886461454727182:True:=⟨⟩
theorem tw10328360990557673835:True:=⟨⟩
theorem tw1601500998369573665:True:=⟨⟩
theorem tw16721989186581611170:True:=⟨⟩
theorem tw9059832203979395877:True:=⟨⟩
theorem tw16793365374058956912:True:=⟨⟩
theorem tw17709558473723601244:True:=⟨⟩
theorem tw9516688046558066552:True:=⟨⟩
theorem tw10079171474624433434:True:=⟨⟩
theorem tw3465488137227279516:True:=⟨⟩
theorem tw15911569825323301435:True:=⟨⟩
theorem tw7273676953221729872:True:=⟨⟩
theorem tw16509065781470453940:True:=⟨⟩
theorem tw9590735534726013551:True:=⟨⟩
theorem tw15240379268576122478:True:=⟨⟩
theorem tw3261557481417251176:True:=⟨⟩
theorem tw12958664272152378060:True:=⟨⟩
theorem tw1592229195962567352:True:=⟨⟩
theorem tw5571243529121415630:True:=⟨⟩
theorem tw8363718466572441477:True:=⟨⟩
theorem tw17469865338272021226:True:=⟨⟩
theorem tw12787338502077490372:True:=⟨⟩
theorem tw14042817526060737062:True:=⟨⟩
theorem tw12718909917080609646:True:=⟨⟩
theorem tw10187724287525710026:True:=⟨⟩
theorem tw5186518429493523239:True:=⟨⟩
theorem tw15169761463676818070:True:=⟨⟩
theorem tw3120133295221510679:True:=⟨⟩
theorem tw15743347864482560488:True:=⟨⟩
theorem tw10871174231137468428:True:=⟨⟩
theorem tw7213333562754528385:True:=⟨⟩
theorem tw11593399256984752444:True:=⟨⟩
theorem tw13510920462097384806:True:=⟨⟩
theorem tw11735923915801401282:True:=⟨⟩
theorem tw2564807258711394888:True:=⟨⟩
theorem tw11845233108574324481:True:=⟨⟩
theorem tw12094960947251128927:True:=⟨⟩
theorem tw11828478481110319688:True:=⟨⟩
theorem tw594810645892935528:True:=⟨⟩
theorem tw8823455108540655025:True:=⟨⟩
theorem tw6756868429301003459:True:=⟨⟩
theorem tw2307138979858485370:True:=⟨⟩
theorem tw2707679213066786127:True:=⟨⟩
theorem tw16044733080236030384:True:=⟨⟩
theorem tw2167618695193717045:True:=⟨⟩
theorem tw7314081408670574914:True:=⟨⟩
theorem tw15638586536077026902:True:=⟨⟩
theorem tw9305691244287143441:True:=⟨⟩
theorem tw9238823003894178615:True:=⟨⟩
theorem tw4699463449715708850:True:=⟨⟩
theorem tw15744752440731449612:True:=⟨⟩
theorem tw17555251805378815213:True:=⟨⟩
theorem tw46980244435833615:True:=⟨⟩
theorem tw10242591131026960117:True:=⟨⟩
theorem tw10296497611174029103:True:=⟨⟩
theorem tw7600245330811189008:True:=⟨⟩
theorem tw2905170056284976902:True:=⟨⟩
theorem tw8810280945414196856:True:=⟨⟩
theorem tw13822267516522204269:True:=⟨⟩
theorem tw4784893810139332661:True:=⟨⟩
theorem tw14657780768301432306:True:=⟨⟩
theorem tw10864713392326063847:True:=⟨⟩
theorem tw5206643200097340550:True:=⟨⟩
theorem tw10648311167861321448:True:=⟨⟩
theorem tw10276331973627342096:True:=⟨⟩
theorem tw9589608677651300831:True:=⟨⟩
theorem tw1483126911874232274:True:=⟨⟩
theorem tw11203750815551599093:True:=⟨⟩
theorem tw370947364307004932:True:=⟨⟩
theorem tw13264354339760550358:True:=⟨⟩
theorem tw3002795768020413707:True:=⟨⟩
theorem tw3843465024185675410:True:=⟨⟩
theorem tw12340227926317113386:True:=⟨⟩
theorem tw1522322319653140107:True:=⟨⟩
theorem tw10505224238033894595:True:=⟨⟩
theorem tw9936536881743500907:True:=⟨⟩
theorem tw3548060758652744671:True:=⟨⟩
theorem tw987869383939708018:True:=⟨⟩
theorem tw7538252964068480738:True:=⟨⟩
theorem tw15646934709686841381:True:=⟨⟩
theorem tw14309182039651084788:True:=⟨⟩
theorem tw3712731000106771831:True:=⟨⟩
theorem tw9229161468869434483:True:=⟨⟩
theorem tw795583310449317561:True:=⟨⟩
theorem tw10101883924317870271:True:=⟨⟩
theorem tw5889316905344633881:True:=⟨⟩
theorem tw18245740138792012028:True:=⟨⟩
theorem tw13012589842206080548:True:=⟨⟩
theorem tw11542710104232473196:True:=⟨⟩
theorem tw4792085295034034149:True:=⟨⟩
theorem tw1551491737661789689:True:=⟨⟩
theorem tw13549259019975226677:True:=⟨⟩
theorem tw2782073688633401757:True:=⟨⟩
theorem tw12594153661598759157:True:=⟨⟩
theorem tw11189890337720088615:True:=⟨⟩
theorem tw14381862628962257763:True:=⟨⟩
theorem tw13990698242589431971:True:=⟨⟩
theorem tw2741389259953327712:True:=⟨⟩
theorem tw16597617366809209970:True:=⟨⟩
theorem tw8874702517807110003:True:=⟨⟩
theorem tw1236304545764765349:True:=⟨⟩
theorem tw8472579005086612782:True:=⟨⟩
theorem tw16204670001084760307:True:=⟨⟩
theorem tw339143206060000330:True:=⟨⟩
theorem tw16663787254893796032:True:=⟨⟩
theorem tw13889309363888878346:True:=⟨⟩
theorem tw17741875731164886585:True:=⟨⟩
theorem tw7414872774492366064:True:=⟨⟩
theorem tw14697636140705633519:True:=⟨⟩
theorem tw859137505422859605:True:=⟨⟩
theorem tw2686433634493928565:True:=⟨⟩
theorem tw7458633546980236471:True:=⟨⟩
theorem tw887695700811335699:True:=⟨⟩
theorem tw3195968871104189447:True:=⟨⟩
theorem tw16550210197400561554:True:=⟨⟩
theorem tw9407396174263392564:True:=⟨⟩
theorem tw3143785405151724282:True:=⟨⟩
theorem tw9843447840031818808:True:=⟨⟩
theorem tw1142415686869020238:True:=⟨⟩
theorem tw10448899703829047738:True:=⟨⟩
theorem tw2975709217455756120:True:=⟨⟩
theorem tw14611434983143301774:True:=⟨⟩
theorem tw2683898200743741643:True:=⟨⟩
theorem tw2514443458684651071:True:=⟨⟩
theorem tw196536941598035525:True:=⟨⟩
theorem tw2617181576586992344:True:=⟨⟩
theorem tw401921906979044612:True:=⟨⟩
theorem tw2405475915293451298:True:=⟨⟩
theorem tw4025469624842517739:True:=⟨⟩
theorem tw12329864456250741675:True:=⟨⟩
theorem tw17794366733547915435:True:=⟨⟩
theorem tw12385144161495827662:True:=⟨⟩
theorem tw6448850889433096767:True:=⟨⟩
theorem tw4828031223510198475:True:=⟨⟩
theorem tw132903981291199154:True:=⟨⟩
theorem tw9953747333497923681:True:=⟨⟩
theorem tw10008474027749305400:True:=⟨⟩
theorem tw12012865196380796599:True:=⟨⟩
theorem tw10333419466903446376:True:=⟨⟩
theorem tw12564220515667953714:True:=⟨⟩
theorem tw14762295962024373759:True:=⟨⟩
theorem tw10017263926548143515:True:=⟨⟩
theorem tw14615657086365298920:True:=⟨⟩
theorem tw8500458220134822360:True:=⟨⟩
theorem tw13160728816969591200:True:=⟨⟩
theorem tw4885547446624616799:True:=⟨⟩
theorem tw93012567124736588:True:=⟨⟩
theorem tw2007660962349395123:True:=⟨⟩
theorem tw1209819496270969543:True:=⟨⟩
theorem tw2988451766255067171:True:=⟨⟩
theorem tw17474498911051797155:True:=⟨⟩
theorem tw16487795177693110071:True:=⟨⟩
theorem tw12379415707883124570:True:=⟨⟩
theorem tw12545222027267286695:True:=⟨⟩
theorem tw16713831800681072344:True:=⟨⟩
theorem tw4951766788466123468:True:=⟨⟩
theorem tw6468107147075657394:True:=⟨⟩
theorem tw4181406029030974548:True:=⟨⟩
theorem tw4292522238394942308:True:=⟨⟩
theorem tw17219337458794519322:True:=⟨⟩
theorem tw575894324575664597:True:=⟨⟩
theorem tw14301671488300290737:True:=⟨⟩
theorem tw11334203419191126389:True:=⟨⟩
theorem tw1312780250039628139:True:=⟨⟩
theorem tw15362295582089109014:True:=⟨⟩
theorem tw13068111086705522682:True:=⟨⟩
theorem tw9332579688445097367:True:=⟨⟩
theorem tw4010397242664982755:True:=⟨⟩
theorem tw8779778587388263019:True:=⟨⟩
theorem tw5868845118606482295:True:=⟨⟩
theorem tw8455645898260960030:True:=⟨⟩
theorem tw14861896470697024400:True:=⟨⟩
theorem tw7386116660499605909:True:=⟨⟩
theorem tw9195894827357321740:True:=⟨⟩
theorem tw1291508964198565346:True:=⟨⟩
theorem tw83393220934416808:True:=⟨⟩
theorem tw13706816188851595723:True:=⟨⟩
theorem tw7702549930194098719:True:=⟨⟩
theorem tw16809779246217341487:True:=⟨⟩
theorem tw2758071753971750899:True:=⟨⟩
theorem tw2029088862249889922:True:=⟨⟩
theorem tw14372152842798730730:True:=⟨⟩
theorem tw7913636548009798097:True:=⟨⟩
theorem tw7855079511596107753:True:=⟨⟩
theorem tw15177526630643400193:True:=⟨⟩
theorem tw17494340499879156831:True:=⟨⟩
theorem tw7204493036743257322:True:=⟨⟩
theorem tw3776753064480771068:True:=⟨⟩
theorem tw11263669390164206178:True:=⟨⟩
theorem tw11561827921928013385:True:=⟨⟩
theorem tw13178059906610389163:True:=⟨⟩
theorem tw2741666766516671694:True:=⟨⟩
theorem tw1706793611546318481:True:=⟨⟩
theorem tw76412952228603488:True:=⟨⟩
theorem tw81815255157605957:True:=⟨⟩
theorem tw15542334942015070624:True:=⟨⟩
theorem tw17177869089781658578:True:=⟨⟩
theorem tw5072613934562372735:True:=⟨⟩
theorem tw65929781887070819:True:=⟨⟩
theorem tw16007503158450755388:True:=⟨⟩
theorem tw16149628235652541579:True:=⟨⟩
theorem tw10797620697341660853:True:=⟨⟩
theorem tw9166809390415177425:True:=⟨⟩
theorem tw8170299122808406783:True:=⟨⟩
theorem tw17785818512168800811:True:=⟨⟩
theorem tw4571971715460732019:True:=⟨⟩
theorem tw6345181382737326586:True:=⟨⟩
theorem tw17781115878593249900:True:=⟨⟩
theorem tw8973803690348224638:True:=⟨⟩
theorem tw8297286125493194097:True:=⟨⟩
theorem tw9962302188120564619:True:=⟨⟩
theorem tw15569959144833144457:True:=⟨⟩
theorem tw2103985501979894447:True:=⟨⟩
theorem tw14526540143163920134:True:=⟨⟩
theorem tw1792224892710378537:True:=⟨⟩
theorem tw9768079942903668216:True:=⟨⟩
theorem tw17135812771915316397:True:=⟨⟩
theorem tw2685012915969955173:True:=⟨⟩
theorem tw7799483888651840948:True:=⟨⟩
theorem tw2104741419117168686:True:=⟨⟩
theorem tw16982378080980825192:True:=⟨⟩
theorem tw5341934141677670832:True:=⟨⟩
theorem tw3949973439248644570:True:=⟨⟩
theorem tw9108098604805947806:True:=⟨⟩
theorem tw16910394546207329303:True:=⟨⟩
theorem tw9951221954081769418:True:=⟨⟩
theorem tw14786789198576647004:True:=⟨⟩
theorem tw9576743257966636567:True:=⟨⟩
theorem tw12894197372075662830:True:=⟨⟩
theorem tw8640399195822439974:True:=⟨⟩
theorem tw16821654228018055803:True:=⟨⟩
theorem tw18374746225686918389:True:=⟨⟩
theorem tw12256363837256957063:True:=⟨⟩
theorem tw3474246075231452896:True:=⟨⟩
theorem tw13326734554550294991:True:=⟨⟩
theorem tw10367675484739944270:True:=⟨⟩
theorem tw13091174067606910046:True:=⟨⟩
theorem tw8345894832289464959:True:=⟨⟩
theorem tw18386854893347148238:True:=⟨⟩
theorem tw17486766287000646611:True:=⟨⟩
theorem tw4177254973167742082:True:=⟨⟩
theorem tw14145802354927516647:True:=⟨⟩
theorem tw4705723845826882120:True:=⟨⟩
theorem tw17030962893124633753:True:=⟨⟩
theorem tw11842451847925006096:True:=⟨⟩
theorem tw7673058066778466091:True:=⟨⟩
theorem tw9278559499802603383:True:=⟨⟩
theorem tw672699306608606093:True:=⟨⟩
theorem tw10657950659306570408:True:=⟨⟩
theorem tw10361075674979980167:True:=⟨⟩
theorem tw7215319984434753242:True:=⟨⟩
theorem tw8143265674769528471:True:=⟨⟩
theorem tw7892811243723596987:True:=⟨⟩
theorem tw11779653239440661071:True:=⟨⟩
theorem tw2630061898475652689:True:=⟨⟩
end top
open PySem.W PyProof.Rows Internal
set_option maxHeartbeats 8000000 in
theorem top : PySem.Challenge.rw_nu0290_01.Holds := by
  w_on; o_law; k_head; (case hw => w_witness2)
  k_go0
  with_reducible rename Frag.In _ _ => kx
  with_reducible rename Top _ _ _ _ _ _ => tp
  with_reducible rename IntsAre _ _ => hi
  with_reducible rename Fr _ _ _ _ => fr
  with_reducible rename Heap.IsList _ _ _ => hl
  with_reducible rename (¬ _ < _) => hc
  with_reducible rename (_ = #[]) => hg
  with_reducible refine Vk (TH _ _ (Int.ofNat_le.mp (Int.not_lt.mp hc))) kx tp hl hi fr ?_ ?_ ?_ (Around.frames_deeper ?_) ?_ ?_ ?_ ?_ (Nat.succ_pos _) ?_
  · constructor
    all_goals first | kernel_rfl | (intro S u; kernel_rfl)
  · kernel_rfl
  · kernel_rfl
  · rfl
  · kernel_rfl
  · kernel_rfl
  · kernel_rfl
  · kernel_rfl
  · intro h' tk keep
    refine ⟨.inl ⟨_, _, [], rfl, ?_, .bool true, ?_, ?_⟩, keep, rfl, hg⟩
    · intro cls; kernel_rfl
    · kernel_rfl
    · exact fun _ => ⟨List.nodup_nil, fun _ h => by cases h⟩
end Mine
theorem PySem.Challenge.cw_nu0290_01_holds : PySem.Challenge.rw_nu0290_01.Holds :=
  Mine.top
