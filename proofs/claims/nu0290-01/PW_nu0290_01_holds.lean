import PyProof.Rows.All
import Wide.All
import OpenK.AllK
import Wide.FinOn
import PyProof.TableCode
import PyProof.ExcArgs
import PyProof.InstStoreFacts
import PyProof.ExcClass3
import PyProof.ExcBaseAll.ValueError
import KE.KDictList
import KE.KIntText
import KE.KDictAnyGet
import Lean
import PySem.Challenge.RW_nu0290_01
open PySem
set_option Elab.async false
set_option maxRecDepth 100000
set_option autoImplicit false
set_option linter.all false
namespace Mine.Internal
open _root_.Array renaming any_toList->rZ,getElem?_eq_getElem->kK,getElem?_eq_some_iff->kD,getElem?_setIfInBounds_self_of_lt->fS,getElem?_toList->ck,length_toList->ce,size_setIfInBounds->lH,toList->qS,toList_extract->oi,toList_inj->sb
open Bool renaming and_eq_true->ax,and_eq_true_iff->bN,and_false->ku,and_true->jh,eq_iff_iff->dL,false->I,false_eq_true->kB,false_ne_true->em,false_or->gC,not_eq_true'->dt,or_eq_false_iff->cO,or_eq_true->dz,or_eq_true_iff->o8,true->S
open Char renaming toNat->vk
open Decidable renaming decide->aI
open ForInStep renaming yield->eG
open Int renaming add_sub_cancel->fx,eq_ofNat_of_zero_le->eW,fmod_lt_of_pos->gU,fmod_nonneg_of_pos->fy,le_of_lt->iO,le_trans->eN,lt_of_le_of_lt->gW,max_eq_right->rU,natCast_nonneg->d8,ne_of_gt->qN,not_le->kt,not_lt->dh,ofNat_inj->pu,ofNat_le->gh,ofNat_lt->fw,sub_pos_of_lt->qM,sub_sub->sG,toNat_le->mS,toNat_of_nonneg->eT,toNat_sub->jg
open Ne renaming symm->jP
open Option renaming bind_eq_some_iff->aA,isSome_iff_exists->bL,map_eq_some_iff->aP,none->cV,none->hH,some->Y
open Option.some renaming inj->aQ
open Prod.mk renaming injEq->lC
open PyProof.Rows renaming IsTup->n5,assign_Name->gB,envOf->vw,slot_tuple_contains->jG,subscriptTail->dW,tail_any->n7
open PySem renaming Addr->bf,Arguments->oS,Around->ch,Builtin->tF,CmpOp->fQ,Comprehension->cW,DictEntry->b7,Env->pv,Flow->qP,Heap->cT,Keyword->eU,Model->vp,NameKind->dr,Obj->iS,Operator->eO,Pos->da,Program->oU,Scope->cL,Sem->o7,Shared->aF,Stmt->eD,Str->aV,Tok->qV,TypeParam->oT,Value->ar,World->sL,assign->iP,assignEach->kz,backTo->gY,backToKw->f7,behindInMarks->gz,binaryOp->ek,bindArgs->vq,bindC->vt,callWith->n9,call_meetsIn->qU,cellsFrom->eX,codeAny->oW,codeAny_call_builtin->ju,compareOp->b9,contains->vn,eval->rV,getAttr->tE,getMethod->hU,getMethod_builtin->lh,holding->qO,intText?->vv,isInstance->kE,keywordEach->dH,mainGlobals->jp,meets_dict_get_default->mV,model->cB,rawInt->pY,setFlight->oX,sizeLine->gA,sizeLine_eq->cP,sliceBounds->sJ,slicePicked->n8,sliceRange->el,slot_list_getitem->kY,spliced->oV,starEach->dF,strKind->lF,strKind_is->fz,swappedStores->gE,swapsWith->rX,swapsWithSole->lG,sysModules->fZ,testChain->rW,truthy->nZ,valueAt->tG,wpAny->bY,wpAny_Call_Name_kw->kA,wpAny_Constant_int->kx,wpAny_Constant_str->gV,wpAny_Tuple->sH,wpAny_UnaryOp->pw,wpAny_bind->ay,wpAny_bindName->oa,wpAny_call->mT,wpAny_evalAll_nil->eP,wpAny_execs_nil->jB,wpAny_field->jt,wpAny_getItem_list_slice->lD,wpAny_holding->bS,wpAny_items_cons->dC,wpAny_items_nil->gK,wpAny_loadPart->og,wpAny_loadPart_at->eQ,wpAny_mono->bu,wpAny_newObj_type->kZ,wpAny_pure->aL,wpAny_pyIter_tupleiter->mU,wpAny_setField->kC,wpAny_standAt->cX,wpAny_storeName_local->ni,wpAny_truthy_bool->dv,wpAny_with_toks->cq,wpAt_bind->sX,wpAt_of_wpAny->pb
open PySem.Builtin.ObjectAttr renaming find->wQ,newKeyGuard->r9,ownDictForStores->dX,storeInDict->eY
open PySem.Builtin.Str renaming partsBetween->qT,strSliceIndices->jR
open PySem.Code renaming quiet_builtin->p0
open PySem.EntryCells renaming newEntry->o9
open PySem.Env renaming kindOf->f6
open PySem.Expr renaming casesOn->bg
open PySem.F renaming args_dict_get_3->mn,entry_dict_get->iR,excAttr_ValueError->kF,excBase_ValueError->eo,plainAttrs_dict->mv,slot_dict_get->eA,type_dict_get->nj
open PySem.Heap renaming SameBut->jQ,dictOf_iff->m9,get?_none_of_le->oh,get?_push_of_some->cA,get?_push_size->bA,get?_update_ne->jH,get?_update_self->dA,lt_size->cz
open PySem.Heap.IsSliceOf renaming new->pZ
open PySem.Heap.Ns renaming keeps->vR
open PySem.Heap.SameBut renaming update->dw
open PySem.NameKind renaming cell->lE,free->fH
open PySem.Obj renaming cls_mapFields->qQ,data_mapFields->dD,isFreed_of_fields->iY
open PySem.PyData renaming keyHash->d9
open PySem.Stmt renaming casesOn->pX
open PySem.Str renaming empty->se,ofString->am
open PySem.StrLaws renaming occBody->gi
open PySem.Value renaming builtin->pB,isStrOf->pz
open PySem.W renaming Frag->kJ,Looks->jq,callWith_of->jr,dictOf->fJ,findIn->eF,hasDictIn->mm,instObj->tD,keepIn->lI,kitOne->iQ,looks_clsIn->sK,looks_findIn->jS,looks_subIn->hJ,plainGet->n6,specialIn->rY,subIn->pA
open PySem.W.Looks renaming ld->qR
theorem U{α:Sort _}{a:α}:a=a:=rfl
noncomputable section
section
abbrev p9:=Nat.Internal.Linear.Expr
noncomputable abbrev p9.v(i:Nat):p9:=.var i
noncomputable abbrev p9.l(i:Nat):p9:=.num i
noncomputable abbrev p9.a(x y:p9):p9:=.add x y
noncomputable abbrev p9.m(k:Nat)(x:p9):p9:=.mulL k x
noncomputable abbrev p9.n(x:p9)(k:Nat):p9:=.mulR x k
def Xj(c:List Nat):Nat->Nat:=c.rec (λ_=>0) λa _ f i=>i.rec a λj _=>f j
def Jj(c:List Nat)(e:p9):Nat:=e.rec (λk=>k) (λi=>Xj c i) (λ_ _ x y=>x+y) (λk _ x=>k*x) (λ_ k x=>x*k)
def Zu(c:List Nat)(p:p9×p9):Prop:=Jj c p.1<=Jj c p.2
def p8(p:List Nat):List Nat->Nat:=p.rec (λ_=>0) λk _ f c=>k*c.headD 0+f c.tail
def J4(p:List Nat):List Nat->List Nat:=p.rec (λq=>q) λk _ f q=>(k+q.headD 0)::f q.tail
def Ik(k:Nat)(p:List Nat):List Nat:=p.rec [] λx _ f=>k*x::f
noncomputable def Xk(i:Nat):List Nat:=i.rec [1] λ_ f=>0::f
def Zh(p:List Nat):List Nat->Bool:=p.rec (λ_=>S) λk _ f q=>Nat.ble k (q.headD 0)&&f q.tail
theorem Mb(p:List Nat):p8 p []=0:=p.rec U λ_ _ ih=>(Nat.zero_add _).trans ih
theorem wk(p:List Nat):∀q c,p8 (J4 p q) c=p8 p c+p8 q c:=by induction p with
 |nil=>exact λq c=>(Nat.zero_add _).symm
 |cons k r ih=>intro q c;show(k+q.headD 0)*c.headD 0+p8 (J4 r q.tail) c.tail=k*c.headD 0+p8 r c.tail+p8 q c;rw[ih];cases q with
  |nil=>rfl
  |cons a q=>show(k+a)*c.headD 0+(p8 r c.tail+p8 q c.tail)=k*c.headD 0+p8 r c.tail+(a*c.headD 0+p8 q c.tail);rw[Nat.add_mul,Nat.add_add_add_comm]
theorem wu(k:Nat)(p:List Nat):∀c,p8 (Ik k p) c=k*p8 p c:=by induction p with
 |nil=>exact λ_=>rfl
 |cons x r ih=>intro c;show k*x*c.headD 0+p8 (Ik k r) c.tail=k*(x*c.headD 0+p8 r c.tail);rw[ih,Nat.mul_add,Nat.mul_assoc]
theorem WQ(i:Nat):∀c,p8 (Xk i) c=Xj c i:=by induction i with
 |zero=>intro c;cases c with
  |nil=>rfl
  |cons a r=>exact Nat.one_mul a
 |succ i ih=>intro c;cases c with
  |nil=>exact Mb _
  |cons a r=>show 0*a+p8 (Xk i) r=Xj r i;rw[ih,Nat.zero_mul,Nat.zero_add]
theorem VF(p:List Nat):∀q c,Zh p q=S->p8 p c<=p8 q c:=by induction p with
 |nil=>exact λ_ _ _=>Nat.zero_le _
 |cons k r ih=>intro q c h;obtain⟨h1,h2⟩:=(ax _ _).mp h;have a:=Nat.le_of_ble_eq_true h1;cases q with
  |nil=>show k*c.headD 0+p8 r c.tail<=0;have a:k<=0:=a;have b:=ih [] c.tail h2;rw[Nat.le_zero.mp a,Nat.zero_mul,Nat.zero_add];exact b
  |cons x q=>exact Nat.add_le_add (Nat.mul_le_mul_right _ a) (ih q c.tail h2)
def J0(e:p9):List Nat:=e.rec (λk=>[k]) (λi=>0::Xk i) (λ_ _ x y=>J4 x y) (λk _ x=>Ik k x) (λ_ k x=>Ik k x)
theorem Db(c:List Nat)(x:p9):p8 (J0 x) (1::c)=Jj c x:=by induction x with
 |var i=>show 0*1+p8 (Xk i) c=Xj c i;rw[WQ,Nat.zero_mul,Nat.zero_add]
 |num k=>exact Nat.mul_one k
 |add x y h1 h2=>show p8 (J4 (J0 x) (J0 y)) _=Jj c x+Jj c y;rw[wk,h1,h2]
 |mulL k x h=>show p8 (Ik k (J0 x)) _=k*Jj c x;rw[wu,h]
 |mulR x k h=>show p8 (Ik k (J0 x)) _=Jj c x*k;rw[wu,h,Nat.mul_comm]
def Zg(c:List Nat)(g:Prop)(l:List (p9×p9)):Prop:=l.rec g λh _ f=>Zu c h->f
def TM(s:p9×p9->p9)(l:List (p9×p9)):List Nat->List Nat:=l.rec (λ_=>[]) λh _ f k=>J4 (Ik (k.headD 0) (J0 (s h))) (f k.tail)
theorem TB(c:List Nat){g:Prop}(hs:List (p9×p9)):∀(ks:List Nat)(A ag:Nat),(A+p8 (TM (·.1) hs ks) (1::c)<=ag+p8 (TM (·.2) hs ks) (1::c)->g)->A<=ag->Zg c g hs:=by induction hs with
 |nil=>exact λ_ A ag k h=>k h
 |cons p r ih=>intro ks A ag k h hp;refine ih ks.tail (A+ks.headD 0*Jj c p.1) (ag+ks.headD 0*Jj c p.2) (λq=>k ?_) (Nat.add_le_add h (Nat.mul_le_mul_left _ hp));show A+p8 (J4 (Ik (ks.headD 0) (J0 p.1)) (TM (·.1) r ks.tail)) _<=ag+p8 (J4 (Ik (ks.headD 0) (J0 p.2)) (TM (·.2) r ks.tail)) _;rw[wk,wk,wu,wu,Db,Db,<-Nat.add_assoc,<-Nat.add_assoc];exact q
theorem bE(c:List Nat)(hs:List (p9×p9))(k:Nat)(ks:List Nat)(x y:p9)(ok:Zh (J4 (Ik (k+1) (J0 x)) (TM (·.2) hs ks)) (J4 (J4 [k] (Ik (k+1) (J0 y))) (TM (·.1) hs ks))=S):Zg c (Jj c x<=Jj c y) hs:=by have h3:=VF _ _ (1::c) ok;rw[wk,wk,wk,wu,wu,Db,Db,show p8 [k] (1::c)=k from Nat.mul_one k]at h3;refine TB c hs ks 0 0 (λq=>?_) (Nat.le_refl 0);rw[Nat.zero_add,Nat.zero_add]at q;have h5:=Nat.le_of_add_le_add_right (Nat.le_trans h3 (Nat.add_le_add_left q _));refine Nat.le_of_lt_succ (Nat.lt_of_mul_lt_mul_left (a:=k+1) ?_);rw[Nat.mul_succ,Nat.add_comm _ (k+1),Nat.succ_add];exact Nat.lt_succ_of_le h5
theorem ZU{a b:Nat}(h:¬a<=b):b<a:=Nat.lt_of_not_le h
theorem Xg{a b:Nat}(h:¬a<b):b<=a:=Nat.le_of_not_lt h
theorem nz{a:Nat}(h:a≠0):0<a:=Nat.pos_of_ne_zero h
theorem Fp{a b:Nat}(h:a=b):a<=b:=Nat.le_of_eq h
theorem IA{a b:Nat}(h:a=b):b<=a:=Nat.le_of_eq h.symm
theorem nf{P:Prop}(h:1<=0):P:=absurd h (Nat.not_succ_le_zero 0)
theorem leT{a b c:Nat}(h:a<=b)(k:Nat.ble b c=S):a<=c:=Nat.le_trans h (Nat.le_of_ble_eq_true k)
theorem z0(a:Nat):(0:Int)<=a:=d8 a
theorem vA{a b:Nat}(h:a<b):(a:Int)<b:=fw.mpr h
theorem zY{a b:Nat}(h:a<=b):(a:Int)<=b:=gh.mpr h
theorem Pw{a b:Nat}(h:b<=a):¬(a:Int)<b:=dh.mpr (zY h)
theorem Vn{a b:Nat}(h:b<a):¬(a:Int)<=b:=kt.mpr (vA h)
theorem Ri{a b:Nat}(h:a≠b):(a:Int)≠b:=λe=>h (pu.mp e)
theorem zT{a b c:Int}(h:a<=b)(k:aI (b<=c)=S):a<=c:=eN h (of_decide_eq_true k)
theorem zB{a b c:Int}(k:aI (a<=b)=S)(h:b<=c):a<=c:=eN (of_decide_eq_true k) h
theorem zU{a b c:Int}(h:a<b)(k:aI (b<=c)=S):a<c:=Int.lt_of_lt_of_le h (of_decide_eq_true k)
theorem J6{w c:Int}{v:Nat}(h:w<=c):w-v<=c:=eN (Int.sub_le_self w (z0 v)) h
theorem zl{w c:Int}{v d:Nat}(h:c<=w)(hv:v<=d):c-d<=w-v:=Int.sub_le_sub h (zY hv)
theorem Xl{w:Int}{b K:Nat}(h:w<=K):(w-b).toNat<=K:=mS.mpr (J6 h)
theorem UU{w:Int}{b K:Nat}(h:w<=K)(hb:b<=K):(w-b).toNat+b<=K:=by omega
theorem ZN{w:Int}{b K:Nat}(h:w<=K)(hb:b<=K):b+(w-b).toNat<=K:=Nat.add_comm _ _▸UU h hb
theorem Xr{W:Int}{n k:Nat}(h:(W-n).toNat=k+1):(n:Int)<W/\(W-((n+1:Nat):Int)).toNat=k:=by have p:0<W-(n:Int):=Int.lt_toNat.mp (h▸Nat.succ_pos k);have e:W-(n:Int)=((k+1:Nat):Int):=(eT (iO p)).symm.trans (congrArg _ h);refine⟨Int.lt_of_sub_pos p,?_⟩;rw[show((n+1:Nat):Int)=(n:Int)+1 from U,<-sG,e];exact congrArg Int.toNat (fx (k:Int) 1)
theorem ZB{W:Int}{n:Nat}(h:(W-n).toNat=0):¬(n:Int)<W:=λq=>Nat.lt_irrefl 0 (Nat.lt_of_lt_of_eq (Int.lt_toNat.mpr (qM q)) h)
theorem Xu{m:Nat}{d:Int}(hm:0<m)(h:d<m):d.toNat<m:=by omega
theorem Pl(d a k:Nat)(h:d<=a+k)(h':a<=d+k):((d:Int)-a).natAbs<=k:=by omega
theorem ZD{d:Int}(h0:0<=d)(h1:d<601):(d-300).natAbs<=300:=by obtain⟨m,rfl⟩:=eW h0;exact Pl m 300 300 (Nat.le_of_lt_succ (fw.mp h1)) (Nat.le_add_left _ _)
theorem ZP{a:Int}(h:¬a<0):(a.natAbs:Int)=a:=Int.natAbs_of_nonneg (dh.mp h)
theorem ZS{a:Int}(h:a<0):-(a.natAbs:Int)=a:=by rw[Int.ofNat_natAbs_of_nonpos (iO h),Int.neg_neg]
theorem ZR{w:Int}{k:Nat}(h:0<w)(h2:w<k):¬k<=w.natAbs:=by obtain⟨m,rfl⟩:=eW (iO h);exact Nat.not_le_of_lt (fw.mp h2)
theorem DC{a:Int}{k:Nat}(h:a.natAbs<=k):a<=k/\-a<=k:=⟨eN Int.le_natAbs (zY h),eN Int.le_natAbs (zY (Int.natAbs_neg a▸h))⟩
theorem Xi{k n:Nat}(h:n<k):k=k-1+1:=(Nat.sub_add_cancel (Nat.zero_lt_of_lt h)).symm
theorem Y7{k n:Nat}(hk:k<=n):min k n+(n-k)=n:=(congrArg (·+(n-k)) (Nat.min_eq_left hk)).trans (Nat.add_sub_of_le hk)
theorem Zx{k n c:Nat}(hk:k<n)(h:n<=c):min k n+1+(n-k)<=c+1:=Nat.le_trans (Nat.le_of_eq (Nat.add_right_comm _ _ _)) (Nat.succ_le_succ (Nat.le_trans (Nat.le_of_eq (Y7 (Nat.le_of_lt hk))) h))
theorem ZI{k n c:Nat}(hk:k<n)(h:n<=c):min k n+(n-k+1)<=c+1:=Nat.succ_le_succ (Nat.le_trans (Nat.le_of_eq (Y7 (Nat.le_of_lt hk))) h)
theorem Zw(n:Nat):((-1:Int)+n).toNat=n-1:=(congrArg Int.toNat (Int.add_comm (-1) (n:Int))).trans (jg n 1)
theorem ZO{a d p:Nat}(c8:d<=p)(q1:p-d<=a)(q2:a<=p):a+(d-(a-(p-d)))=p:=by obtain⟨x,rfl⟩:=Nat.exists_eq_add_of_le q1;have hx:x<=d:=Nat.le_of_add_le_add_left (a:=p-d) (by rw[Nat.sub_add_cancel c8];exact q2);rw[Nat.add_sub_cancel_left,Nat.add_assoc,Nat.add_sub_of_le hx,Nat.sub_add_cancel c8]
theorem Zr{a b n:Nat}(hb:b<=n+1)(h:b-a=n+1):a=0/\b=n+1:=by obtain rfl:=Nat.le_antisymm hb (h▸Nat.sub_le b a);cases a with
 |zero=>exact⟨U,U⟩
 |succ a=>exact absurd h (Nat.ne_of_lt (Nat.lt_succ_of_le (Nat.le_trans (Nat.le_of_eq (Nat.succ_sub_succ n a)) (Nat.sub_le n a))))
theorem ZE(n:Nat):((n:Int)-1- -1- -1-1).toNat=n:=by rw[Int.sub_neg,Int.sub_neg,Int.sub_add_cancel,fx];rfl
theorem ZL(n k:Nat):((n:Int)-1+-1*(k:Int)).toNat=n-1-k:=by rw[Int.neg_mul,Int.one_mul,Int.add_neg_eq_sub,sG,show(1:Int)+k=((1+k:Nat):Int)from U,jg,Nat.sub_sub]
theorem ZA(a b:Nat):((b:Int)-a+1-1).toNat=b-a:=by rw[fx,jg]
theorem sm2(a k:Nat):((a:Int)+1*(k:Int)).toNat=a+k:=by rw[Int.one_mul];rfl
theorem Zz{i x j:Nat}(h:i<=j)(hx:x<=j):i-x+x<=j:=Nat.sub_add_eq_max i x▸Nat.max_le.mpr ⟨h,hx⟩
theorem Zq(n:Nat){i:Int}(q:i<0):max 0 (min (i+(n:Int)) (n:Int))=((i+n).toNat:Int)/\(i+(n:Int)).toNat<=n:=by
 have ht:i+(n:Int)<=n:=by omega
 exact⟨by rw[Int.min_eq_left ht,Int.toNat_eq_max,Int.max_comm],mS.mpr ht⟩
theorem Zs(n:Nat){i:Int}(q:¬i<0):max 0 (min i (n:Int))=((min i.toNat n:Nat):Int)/\min i.toNat n<=n:=by obtain⟨m,rfl⟩:=eW (dh.mp q);refine⟨?_,Nat.min_le_right _ _⟩;show max 0 (min (m:Int) n)=((min m n:Nat):Int);cases Nat.le_total m n with
 |inl h=>rw[Int.min_eq_left (zY h),Nat.min_eq_left h];exact rU (z0 _)
 |inr h=>rw[Int.min_eq_right (zY h),Nat.min_eq_right h];exact rU (z0 _)
end
set_option genInjectivity false
set_option genSizeOf false
section
theorem nS{α:Type}{x:α}{P:Prop}(h:cV=Y x):P:=nomatch h
theorem TC{α:Type}{x:α}{P:Prop}(h:Y x=cV):P:=nomatch h
theorem nT{P:Prop}(h:I=S):P:=nomatch h
theorem nF{P:Prop}(h:S=I):P:=nomatch h
theorem sI{α:Type}{a b:α}(h:Y a=Y b):a=b:=aQ h
inductive J where
 |unb|none|bool (b:Bool)|int (i:Int)|str (s:List Nat)|sref (a:Nat)|obj (i:Nat)|bi (n:String)|ty (n:String)
inductive AO where
 |list (xs:List J)
 |tup (xs:List J)
 |dict (es:List (List Nat×J))
 |inst (C:Nat) (fs:List (Nat×J))
 |exn (C:Nat) (new:Bool) (fd:Option Nat)
 |fd (fs:List (Nat×J))
noncomputable abbrev vC{α:Type}(d:α)(unb:α:=d)(cV:α:=d)(bool:Bool->α:=λ_=>d)(int:Int->α:=λ_=>d)(str:List Nat->α:=λ_=>d)(sref:Nat->α:=λ_=>d)(obj:Nat->α:=λ_=>d)(bi:String->α:=λ_=>d)(ty:String->α:=λ_=>d)(a:J):α:=a.casesOn unb cV bool int str sref obj bi ty
noncomputable abbrev oC{α:Type}(d:α)(list:List J->α:=λ_=>d)(tup:List J->α:=λ_=>d)(dict:List (List Nat×J)->α:=λ_=>d)(inst:Nat->List (Nat×J)->α:=λ_ _=>d)(exn:Nat->Bool->Option Nat->α:=λ_ _ _=>d)(fd:List (Nat×J)->α:=λ_=>d)(a:AO):α:=a.casesOn list tup dict inst exn fd
abbrev H:=List AO
structure St where
 loc:List J
 heap:H
 hand:Bool:=I
inductive lJ(ah α:Type)where
 |ok (a:α) (s:ah)
 |exc (x:Nat) (s:ah)
 |stuck
abbrev M(α:Type):=St->lJ St α
abbrev Jc:=lJ H J
abbrev cI:=Bool->Nat->List J->List (Nat×J)->H->Jc
section
variable{α β:Type}
noncomputable def M.ret(a:α):M α:=λs=>.ok a s
noncomputable def M.no:M α:=λ_=>.stuck
noncomputable def M.bind(m:M α)(f:α->M β):M β:=λs=>match m s with
 |.ok a s'=>f a s'
 |.exc x s'=>.exc x s'
 |.stuck=>.stuck
abbrev gd(b:Bool)(m:M α):M α:=bif b then m else M.no
abbrev gO(o:Option α)(k:α->M β):M β:=match o with
 |some a=>k a
 |.none=>M.no
def gS(a:J)(k:Int->M α):M α:=vC (M.no) (a:=a) (int:=λx=>k x)
def jz(a:J)(k:List Nat->M α):M α:=vC (M.no) (a:=a) (str:=λx=>k x)
def kP(a:J)(k:Bool->M α):M α:=vC (M.no) (a:=a) (bool:=λx=>k x)
def na(a:J)(k:Nat->M α):M α:=vC (M.no) (a:=a) (obj:=λx=>k x)
def pq(a:J)(k:M α):M α:=vC (M.no) (a:=a) (cV:=k)
abbrev q7(l:List β)(k:M α):M α:=match l with
 |[]=>k
 |_=>M.no
abbrev qE(l:List β)(k:β->M α):M α:=match l with
 |[]=>M.no
 |x::r=>q7 r (k x)
abbrev Lk(l:List β)(k:β->β->M α):M α:=match l with
 |[]=>M.no
 |x::r=>qE r (k x)
def gH(i:Nat)(k:AO->M α):M α:=λs=>gO (s.heap[i]?) k s
def gL(i:Nat)(k:List J->M α):M α:=gH i λo=>oC (M.no) (a:=o) (list:=λxs=>k xs)
def gT(i:Nat)(k:List J->M α):M α:=gH i λo=>oC (M.no) (a:=o) (tup:=λxs=>k xs)
def gD(i:Nat)(k:List (List Nat×J)->M α):M α:=gH i λo=>oC (M.no) (a:=o) (dict:=λxs=>k xs)
def gX(i:Nat)(k:Nat->Bool->Option Nat->M α):M α:=gH i λo=>oC (M.no) (a:=o) (exn:=λC b fd=>k C b fd)
def gF(i:Nat)(k:List (Nat×J)->M α):M α:=gH i λo=>oC (M.no) (a:=o) (fd:=λxs=>k xs)
noncomputable def o4(o:AO):M J:=λs=>.ok (.obj s.heap.length) {s with heap:=s.heap++[o]}
noncomputable def tQ(i:Nat)(o:AO):M Unit:=λs=>.ok () {s with heap:=s.heap.set i o}
noncomputable def iA:M Unit:=λs=>bif s.hand then .stuck else .ok () s
noncomputable def E2(m:M α):M α:=λs=>match m s with
 |.ok a s'=>.ok a s'
 |_=>.stuck
noncomputable def d7(k:Nat):List (Nat×α)->Option α
 |[]=>.none
 |p::r=>bif Nat.beq p.1 k then Y p.2 else d7 k r
noncomputable def lY(k:Nat)(v:α):List (Nat×α)->List (Nat×α)
 |[]=>[(k,v)]
 |p::r=>bif Nat.beq p.1 k then(k,v)::r else p::lY k v r
noncomputable def eqL:List Nat->List Nat->Bool
 |[],q=>q.isEmpty
 |a::r,q=>match q with
  |[]=>I
  |b::q=>Nat.beq a b&&eqL r q
def fE(k:List Nat):List (List Nat×α)->Option α
 |[]=>.none
 |p::r=>bif eqL p.1 k then Y p.2 else fE k r
def nJ(k:List Nat)(v:α):List (List Nat×α)->List (List Nat×α)
 |[]=>[(k,v)]
 |p::r=>bif eqL p.1 k then(p.1,v)::r else p::nJ k v r
end
def nK(a b:J):Option Bool:=vC (.none) (a:=a) (int:=λx=>(vC (.none) (a:=b) (int:=λy=>Y (aI (x=y))))) (str:=λx=>(vC (.none) (a:=b) (str:=λy=>Y (eqL x y))))
noncomputable def cj:Nat:=16777216
noncomputable def small(a:Int):Bool:=aI (a.natAbs<2^63)
def Y4(s:List Nat):M J:=gd (Nat.ble s.length cj) (M.ret (.str s))
noncomputable def As(s:List Nat):Nat->List Nat
 |0=>[]
 |n+1=>s++As s n
def Nw(a b:J):M J:=vC (M.no) (a:=a) (int:=λx=>gS b λy=>M.ret (.int (x+y))) (str:=λx=>jz b λy=>Y4 (x++y)) (obj:=λi=>na b λj=>gL i λxs=>gL j λys=>gd (Nat.ble (xs.length+ys.length) cj) (o4 (.list (xs++ys))))
def Nt(a b:J):M J:=vC (M.no) (a:=a) (int:=λx=>gS b λy=>gd (small x||small y) (M.ret (.int (x*y)))) (str:=λx=>gS b λy=>gd (Nat.beq x.length 1&&aI (y<=16777216)&&aI (-(2^62)<=y)) (M.ret (.str (As x y.toNat))))
def G9(o:eO)(a b:J):M J:=match o with
 |.Add=>Nw a b
 |.Sub=>gS a λx=>gS b λy=>M.ret (.int (x-y))
 |.Mult=>Nt a b
 |.FloorDiv=>gS a λx=>gS b λy=>gd (!(aI (y=0)||aI (1073741824<=y.natAbs))) (M.ret (.int (x.fdiv y)))
 |.Mod=>gS a λx=>gS b λy=>gd (!decide (y=0)) (M.ret (.int (x.fmod y)))
 |.Pow=>gS a λx=>gS b λy=>gd (small x&&aI (0<=y)&&aI (y<=64)) (M.ret (.int (x^y.toNat)))
 |_=>M.no
def TJ(o:eO)(a b:J):M J:=match o with
 |.Add=>(vC (M.no) (a:=a) (int:=λx=>gS b λy=>M.ret (.int (x+y))) (str:=λx=>jz b λy=>Y4 (x++y)))
 |_=>M.no
def tu:List J->List J->Option Bool
 |[],q=>bif q.isEmpty then Y S else .none
 |a::r,q=>match q with
  |[]=>.none
  |b::q=>(nK a b).bind λt=>(tu r q).map λu=>t&&u
def Y0(a b:J):M Bool:=vC (gO (nK a b) M.ret) (a:=a) (obj:=λi=>na b λj=>gL i λxs=>gL j λys=>gO (bif Nat.beq xs.length ys.length then tu xs ys else Y I) M.ret)
structure aT where
 glob:List (aV×J)
 names:List aV
 meth:List (Nat×List (Nat×Nat))
 exns:List Nat
 attrs:List (Nat×List Nat)
 xattrs:List Nat
 sdict:List (Nat×List (List Nat×J))
 stup:List (Nat×List J)
 slist:List (Nat×List J):=[]
 fns:List Nat:=[]
def lP(x:J):List J->Option Bool
 |[]=>Y I
 |v::r=>(nK v x).bind λt=>bif t then Y S else lP x r
def Ws(a:J):Option Bool:=vC (Y I) (a:=a) (cV:=Y S) (unb:=.none)
section
variable(T:aT)
def Xm(a b:J):M Bool:=jz a λx=>vC (M.no) (a:=b) (str:=λy=>qE x λc=>M.ret (y.any (Nat.beq c))) (sref:=λd=>(match d7 d T.sdict with
  |some es=>M.ret (fE x es).isSome
  |.none=>gO (d7 d T.stup) λvs=>gO (lP (.str x) vs) M.ret)) (obj:=λi=>gD i λes=>M.ret (fE x es).isSome)
def VD(a b:J):M Bool:=jz a λx=>vC (M.no) (a:=b) (str:=λy=>qE x λc=>M.ret (y.any (Nat.beq c))) (sref:=λd=>gO (d7 d T.stup) λvs=>gO (lP (.str x) vs) M.ret)
def yes(b:Bool):M J:=M.ret (.bool b)
def p7(o:fQ)(a b:J):M J:=match o with
 |.Lt=>gS a λx=>gS b λy=>yes (aI (x<y))
 |.LtE=>gS a λx=>gS b λy=>yes (aI (x<=y))
 |.Gt=>gS a λx=>gS b λy=>yes (aI (x>y))
 |.GtE=>gS a λx=>gS b λy=>yes (aI (x>=y))
 |.Eq=>(Y0 a b).bind yes
 |.NotEq=>gO (nK a b) λt=>yes (!t)
 |.In=>(Xm T a b).bind yes
 |.NotIn=>(VD T a b).bind λt=>yes (!t)
 |.Is=>pq b (gO (Ws a) yes)
 |.IsNot=>pq b (gO (Ws a) λt=>yes (!t))
def D(v:J):M J:=M.ret v
def vQ(a:J):Option J:=vC (Y a) (a:=a) (unb:=.none)
def B(i:Nat):M J:=λs=>gO ((s.loc[i]?).bind vQ) M.ret s
def bp(o:eO)(l r:M J):M J:=l.bind λa=>r.bind λb=>G9 o a b
def rh(e:M J):M J:=e.bind λa=>gS a λx=>M.ret (.int (-x))
def KC(e:M J):M J:=e.bind λa=>kP a λt=>yes (!t)
def aW(o:fQ)(l r:M J):M J:=l.bind λa=>r.bind λb=>p7 T o a b
def pp(o p:fQ)(x y z:M J):M J:=x.bind λa=>y.bind λb=>(p7 T o a b).bind λc=>kP c λt=>bif t then z.bind λd=>p7 T p b d else yes I
def bJ(e:M J):M Bool:=e.bind λa=>kP a M.ret
def vM(t:M Bool):M Bool:=t.bind λb=>M.ret (!b)
def cQ(x y:M Bool):M Bool:=x.bind λb=>bif b then y else M.ret I
def pj(x y:M Bool):M Bool:=x.bind λb=>bif b then M.ret S else y
def Ap(x y:M J):M J:=x.bind λa=>kP a λt=>bif t then y else yes I
def VW(x y:M J):M J:=x.bind λa=>kP a λt=>bif t then yes S else y
noncomputable def fB(t:M Bool)(x y:M J):M J:=t.bind λb=>bif b then x else y
def db:List (M J)->M (List J)
 |[]=>M.ret []
 |m::r=>m.bind λa=>(db r).bind λas=>M.ret (a::as)
def mTup(ms:List (M J)):M J:=(db ms).bind λvs=>gd (Nat.ble vs.length 1000) (o4 (.tup vs))
def dm(ms:List (M J)):M J:=(db ms).bind λvs=>gd (Nat.ble vs.length 1000) (o4 (.list vs))
def jx:M J:=o4 (.dict [])
def lu(neg:Bool)(e:M J)(ms:List (M J)):M J:=e.bind λa=>(db ms).bind λvs=>gd (Nat.ble vs.length 1000) (gO (lP a vs) λt=>yes (bif neg then !t else t))
def mL:List Nat->List (M J)->M J
 |acc,[]=>M.ret (.str acc)
 |acc,m::r=>m.bind λv=>jz v λx=>gd (Nat.ble (acc++x).length cj) (mL (acc++x) r)
def zp(ms:List (M J)):M J:=mL [] ms
def sO(C n:Nat):Bool:=((d7 C T.attrs).getD []).any (Nat.beq n)
noncomputable def Mv(C n:Nat):Bool:=T.xattrs.any (Nat.beq n)&&T.exns.any (Nat.beq C)
def x5(a:J):Option J:=vC (Y a) (a:=a) (bi:=λ_=>.none) (unb:=.none)
def FH(n:Nat)(a:J):M J:=na a λi=>gH i λo=>oC (M.no) (a:=o) (inst:=λC fs=>gd (sO T C n) (gO ((d7 n fs).bind x5) M.ret)) (exn:=λC _ fd=>gd (Mv T C n) (gO fd λj=>gF j λfs=>gO ((d7 n fs).bind x5) M.ret))
def bT(e:M J)(n:Nat):M J:=e.bind (FH T n)
noncomputable def AW(i:Int)(n:Nat):Option Nat:=bif aI (0<=i)&&aI (i<n)&&aI (i<4611686018427387904)then Y i.toNat else .none
def FF{α:Type}(xs:List α)(w:Int):Option α:=(AW w xs.length).bind λj=>xs[j]?
def U8(a b:J):M J:=vC (M.no) (a:=a) (obj:=λi=>gS b λk=>gL i λxs=>gO (FF xs k) M.ret) (str:=λx=>gS b λk=>gO (FF x k) λc=>M.ret (.str [c])) (sref:=λd=>jz b λx=>gO ((d7 d T.sdict).bind (fE x)) M.ret)
def eB(e i:M J):M J:=e.bind λa=>i.bind λb=>U8 T a b
noncomputable def clip(n:Nat)(i:Int):Nat:=bif aI (i<0)then(i+n).toNat else min i.toNat n
def zx(d:Nat)(n:Nat)(a:J):Option Nat:=vC (.none) (a:=a) (cV:=Y d) (int:=λi=>Y (clip n i))
noncomputable def cut{α:Type}(xs:List α)(lo hi:Nat):List α:=(xs.take hi).drop lo
def qJ{α:Type}(xs:List α)(lo hi:J):Option (List α):=(zx 0 xs.length lo).bind λl=>(zx xs.length xs.length hi).bind λh=>bif Nat.ble xs.length cj then Y (cut xs l h)else .none
def AN(xs:List J)(lo hi:J):M J:=gO (qJ xs lo hi) λys=>o4 (.list ys)
def UD(a lo hi:J):M J:=vC (M.no) (a:=a) (str:=λx=>gO (qJ x lo hi) λy=>M.ret (.str y)) (obj:=λi=>gL i λxs=>AN xs lo hi) (sref:=λd=>gO (d7 d T.slist) λxs=>AN xs lo hi)
def fU(e lo hi:M J):M J:=e.bind λa=>lo.bind λl=>hi.bind λh=>UD T a l h
def K9(e:M J):M J:=e.bind λa=>na a λi=>gL i λxs=>gd (Nat.ble xs.length cj) (o4 (.list xs.reverse))
def Ob(k:J):List (J×J)->Option (Option J)
 |[]=>Y .none
 |p::r=>(nK p.1 k).bind λt=>bif t then Y (Y p.2)else Ob k r
def qA(kvs:List (J×J))(k d:M J):M J:=(E2 k).bind λa=>(E2 d).bind λb=>gO (Ob a kvs) λo=>M.ret (o.getD b)
noncomputable def Wm(n:Nat):List Nat:=(toString n).toList.map vk
def sU(i:Int):List Nat:=bif aI (i<0)then 45::Wm i.natAbs else Wm i.natAbs
noncomputable def isBlank(T:List Nat)(c:Nat):Bool:=T.any (Nat.beq c)
def ez(e:List Nat):List Nat->List Nat
 |[]=>[]
 |c::r=>bif isBlank e c then ez e r else c::r
def mM(e x:List Nat):List Nat:=(ez e (ez e x).reverse).reverse
noncomputable def bV(x:List Nat):Bool:=x.all λc=>Nat.blt c 128
noncomputable def mI(c:Nat):Nat:=bif Nat.ble 65 c&&Nat.ble c 90 then c+32 else c
noncomputable def Ez(c:Nat):Nat:=bif Nat.ble 97 c&&Nat.ble c 122 then c-32 else c
noncomputable def gM(c:Nat):Bool:=Nat.ble 48 c&&Nat.ble c 57
def uz(c:Nat):Bool:=gM c||(Nat.ble 65 c&&Nat.ble c 90)||(Nat.ble 97 c&&Nat.ble c 122)
noncomputable def ip(c:Nat):List Nat->Nat->Int
 |[],_=>-1
 |d::r,n=>bif Nat.beq d c then(n:Int)else ip c r (n+1)
def E4(a:J):Option (List Nat):=vC (.none) (a:=a) (str:=λx=>Y x)
def lz:List J->Option (List (List Nat))
 |[]=>Y []
 |a::r=>(E4 a).bind λx=>(lz r).map λq=>x::q
noncomputable def fX(sep:List Nat):List (List Nat)->List Nat
 |[]=>[]
 |x::r=>match r with
  |[]=>x
  |_::_=>x++(sep++fX sep r)
noncomputable def sS(n:String):Bool:=n=="int"||n=="bool"||n=="str"
noncomputable def uM(ak C:Nat):Bool:=Nat.beq C ak||(Nat.beq C 40&&[62,82,181,228].any (Nat.beq ak))
noncomputable def wj(C:Nat):Bool:=[40,62,82,120,140,161,181,228].any (Nat.beq C)
noncomputable def po(ak:Nat):Bool:=[40,62,82,181,228].any (Nat.beq ak)
def vE(h:H)(i:Nat):Option Nat:=match h[i]? with
 |some o=>(oC (.none) (a:=o) (inst:=λak _=>bif po ak then Y ak else .none))
 |.none=>.none
def OM(v:J)(h:H)(n:String):Option Bool:=vC (.none) (a:=v) (int:=λ_=>Y (n=="int")) (bool:=λ_=>Y (n=="bool"||n=="int")) (str:=λ_=>Y (n=="str")) (cV:=Y I) (obj:=λi=>(vE h i).map λ_=>I)
def Jv(v:J)(h:H)(C:Nat):Option Bool:=vC (.none) (a:=v) (int:=λ_=>Y I) (bool:=λ_=>Y I) (str:=λ_=>Y I) (cV:=Y I) (obj:=λi=>(vE h i).map λak=>uM ak C)
def lA(v:J)(h:H)(c:J):Option Bool:=vC (.none) (a:=c) (ty:=λn=>bif sS n then OM v h n else .none) (sref:=λC=>bif wj C then Jv v h C else .none)
def jm(v:J)(h:H):List J->Option Bool
 |[]=>Y I
 |c::r=>(lA v h c).bind λt=>bif t then Y S else jm v h r
def jv(e:M J)(cs:List J):M J:=gd (!(cs.isEmpty||Nat.blt 1000 cs.length)) (e.bind λv=>λs=>gO (jm v s.heap cs) yes s)
def VE(a:J):M J:=vC (M.no) (a:=a) (str:=λx=>gd (Nat.ble x.length cj) (M.ret (.int x.length))) (obj:=λi=>gL i λxs=>gd (Nat.ble xs.length cj) (M.ret (.int xs.length)))
def nX(n:String)(as:List J):M J:=qE as λa=>
 bif n=="len"then VE a else
 bif n=="abs"then gS a λx=>M.ret (.int x.natAbs)else
 bif n=="chr"then gS a λx=>gd (aI (0<=x)&&aI (x<128)) (M.ret (.str [x.toNat]))else
 bif n=="ord"then jz a λx=>qE x λc=>M.ret (.int c)else M.no
def WR(a:J):M J:=vC (M.no) (a:=a) (int:=λx=>gd (small x) (M.ret (.str (sU x)))) (str:=λx=>M.ret (.str x))
def CS(a:J):M J:=na a λi=>gH i λo=>oC (M.no) (a:=o) (list:=λxs=>gd (Nat.ble xs.length cj) (o4 (.list xs))) (dict:=λes=>iA.bind λ_=>gd (Nat.ble es.length cj) (o4 (.list (es.map λp=>.str p.1))))
def pF(n:String)(as:List J):M J:=qE as λa=>
 bif n=="str"then WR a else
 bif n=="int"then jz a λx=>qE x λc=>gd (gM c) (M.ret (.int (c-48:Nat)))else
 bif n=="list"then CS a else M.no
def g9(n:aV)(x:List Nat)(as:List J):M J:=gd (Nat.ble x.length cj) (
 bif n=="strip"then qE as λa=>jz a λe=>M.ret (.str (mM e x))else
 bif n=="lstrip"then qE as λa=>jz a λe=>M.ret (.str (ez e x))else
 bif n=="lower"then q7 as (gd (bV x) (M.ret (.str (x.map mI))))else
 bif n=="upper"then q7 as (gd (bV x) (M.ret (.str (x.map Ez))))else
 bif n=="find"then qE as λa=>jz a λe=>qE e λc=>M.ret (.int (ip c x 0))else
 bif n=="isdigit"then q7 as (gd (bV x) (yes (!x.isEmpty&&x.all gM)))else
 bif n=="isalnum"then q7 as (gd (bV x) (yes (!x.isEmpty&&x.all uz)))else
 bif n=="join"then qE as λa=>na a λi=>gL i λxs=>gO (lz xs) λys=>gd (Nat.ble ((fX x ys).length+x.length) cj) (M.ret (.str (fX x ys)))else M.no)
def we(o:M J)(y z:List Nat):M J:=o.bind λa=>jz a λx=>qE y λc=>q7 z (gd (Nat.ble x.length cj) (M.ret (.str (x.filter λd=>!Nat.beq d c))))
noncomputable def KU(nm:aV):Option String:=
 bif nm=="strip"then Y "str.strip"else bif nm=="lstrip"then Y "str.lstrip"else bif nm=="lower"then Y "str.lower"else bif nm=="upper"then Y "str.upper"else
 bif nm=="find"then Y "str.find"else bif nm=="isdigit"then Y "str.isdigit"else bif nm=="isalnum"then Y "str.isalnum"else bif nm=="join"then Y "str.join"else .none
noncomputable def fL(G:cI)(f:Nat)(as:List J)(ks:List (Nat×J)):M J:=λs=>match G s.hand f as ks s.heap with
 |.ok v h=>.ok v {s with heap:=h}
 |.exc x h=>.exc x {s with heap:=h}
 |.stuck=>.stuck
def fq(C n:Nat):Option Nat:=(d7 C T.meth).bind (d7 n)
noncomputable def nk(C:Nat):Bool:=T.exns.any (Nat.beq C)
def made(C:Nat):AO:=bif nk T C then .exn C S .none else .inst C []
def wL(G:cI)(C:Nat)(as:List J):M J:=gO (fq T C 0) λf=>gd (!(nk T C&&Nat.blt 100 as.length)) ((o4 (made T C)).bind λo=>(fL G f (o::as) []).bind λr=>pq r (M.ret o))
def pg(G:cI)(f:J)(as:List J)(ks:List (Nat×J)):M J:=vC (M.no) (a:=f) (bi:=λn=>q7 ks (nX n as)) (ty:=λn=>q7 ks (pF n as)) (sref:=λa=>bif(d7 a T.meth).isSome then q7 ks (wL T G a as)else fL G a as ks)
def ka(f:J):Bool:=vC (I) (a:=f) (bi:=λ_=>S) (ty:=λ_=>S) (sref:=λa=>(d7 a T.meth).isSome||T.fns.any (Nat.beq a))
def aN(G:cI)(f:J)(ms:List (M J))(ks:List (Nat×M J)):M J:=gd (ka T f) ((db ms).bind λas=>(db (ks.map (·.2))).bind λkv=>pg T G f as ((ks.map (·.1)).zip kv))
def JN(G:cI)(i n:Nat)(nm:aV)(ms:List (M J)):M J:=gH i λo=>oC (M.no) (a:=o) (list:=λ_=>gd (nm=="append") ((db ms).bind λas=>qE as λv=>gL i λxs=>gd (Nat.blt xs.length cj) ((tQ i (.list (xs++[v]))).bind λ_=>M.ret .none))) (dict:=λ_=>gd (nm=="get") ((db ms).bind λas=>qE as λa=>jz a λk=>gD i λes=>M.ret ((fE k es).getD .none))) (inst:=λC fs=>gO (fq T C n) λf=>gd ((d7 n fs).isNone&&!nk T C) ((db ms).bind λas=>fL G f (.obj i::as) []))
def lv(G:cI)(C n:Nat)(nm:aV)(ms:List (M J)):M J:=match d7 C T.sdict with
 |some es=>gd (nm=="get") ((db ms).bind λas=>Lk as λa d=>jz a λk=>M.ret ((fE k es).getD d))
 |.none=>gO (fq T C n) λf=>(db ms).bind λas=>fL G f as []
def AQ(n:String)(nm:aV)(ms:List (M J)):M J:=gd (n=="ValueError"&&nm=="__init__") ((db ms).bind λas=>Lk as λa b=>na a λi=>jz b λ_=>gX i λC _ _=>gd (nk T C) (M.ret .none))
def bk(G:cI)(o:M J)(n:Nat)(nm:aV)(ms:List (M J)):M J:=o.bind λa=>vC (M.no) (a:=a) (str:=λx=>gd (KU nm).isSome ((db ms).bind λas=>g9 nm x as)) (obj:=λi=>JN T G i n nm ms) (sref:=λC=>lv T G C n nm ms) (ty:=λm=>AQ T m nm ms)
inductive It where
 |vals (xs:List J)
 |live (i k:Nat)
 |liveT (i k:Nat)
def U2(a:J):M It:=vC (M.no) (a:=a) (str:=λx=>M.ret (.vals (x.map λc=>.str [c]))) (sref:=λd=>gO (d7 d T.stup) λvs=>M.ret (.vals vs)) (obj:=λi=>gH i λo=>(oC (M.no) (a:=o) (list:=λ_=>M.ret (.live i 0)) (tup:=λ_=>M.ret (.liveT i 0))))
def iX(e:M J):M It:=e.bind (U2 T)
def nP(e:M J):M It:=e.bind λa=>gS a λn=>gd (aI (0<=n)&&aI (n<2^24)) (M.ret (.vals ((List.range n.toNat).map λ(i:Nat)=>.int i)))
def i8(t:It):M (Option (J×It)):=match t with
 |.vals xs=>M.ret (match xs with
  |[]=>.none
  |x::r=>Y (x,.vals r))
 |.live i k=>gL i λxs=>M.ret ((xs[k]?).map λx=>(x,.live i (k+1)))
 |.liveT i k=>gT i λxs=>M.ret ((xs[k]?).map λx=>(x,.liveT i (k+1)))
def cb(i:Nat)(v:J):M Unit:=λs=>gd (Nat.blt i s.loc.length) (λs=>.ok () {s with loc:=s.loc.set i v}) s
def kW{α:Type}(turn:α->M (Sum α J)):Nat->α->M J
 |0,_=>M.no
 |n+1,a=>(turn a).bind λr=>match r with
  |.inl b=>kW turn n b
  |.inr v=>M.ret v
noncomputable def fg:Nat:=1000000000
def kO(elt:M J)(slot:Nat)(cond:M Bool)(i:Nat)(t:It):M (Sum It J):=(i8 t).bind λr=>match r with
 |.none=>M.ret (.inr J.none)
 |some p=>(cb slot p.1).bind λ_=>cond.bind λb=>bif b then elt.bind λv=>gL i λxs=>gd (Nat.blt xs.length cj) ((tQ i (.list (xs++[v]))).bind λ_=>M.ret (.inl p.2))else M.ret (.inl p.2)
def kN(elt:M J)(slot:Nat)(it:M It)(cond:Option (M Bool)):M J:=iA.bind λ_=>it.bind λt=>(o4 (.list [])).bind λo=>na o λi=>(cb slot .unb).bind λ_=>E2 ((kW (kO elt slot (cond.getD (M.ret S)) i) fg t).bind λ_=>M.ret o)
inductive Fl where
 |nxt|brk|ret (v:J)
abbrev qi:=J->M Unit
def bd(i:Nat):qi:=λv=>cb i v
def B6(n:Nat)(a v:J):M Unit:=na a λi=>gH i λo=>match o with
 |.inst C fs=>gd (sO T C n&&Nat.ble fs.length 100) (tQ i (.inst C (lY n v fs)))
 |.exn C b fd=>gd (Mv T C n) (match fd with
  |.none=>(o4 (.fd [(n,v)])).bind λd=>na d λj=>tQ i (.exn C b (Y j))
  |some j=>gF j λfs=>gd (Nat.ble fs.length 100) (tQ j (.fd (lY n v fs))))
 |_=>M.no
def cf(o:M J)(n:Nat):qi:=λv=>o.bind λa=>B6 T n a v
def UI(a b v:J):M Unit:=na a λi=>vC (M.no) (a:=b) (int:=λk=>gL i λxs=>gO (AW k xs.length) λj=>tQ i (.list (xs.set j v))) (str:=λk=>gD i λes=>gd (Nat.blt es.length cj) (tQ i (.dict (nJ k v es))))
def Aq(o i:M J):qi:=λv=>o.bind λa=>i.bind λb=>UI a b v
def o6:List qi->List J->M Unit
 |[],l=>q7 l (M.ret ())
 |t::ts,l=>match l with
  |[]=>M.no
  |v::vs=>(t v).bind λ_=>o6 ts vs
def je(n:Nat)(a:J):M (List J):=iA.bind λ_=>vC (M.no) (a:=a) (obj:=λi=>gT i λxs=>gd (Nat.beq xs.length n) (M.ret xs)) (sref:=λd=>gO (d7 d T.stup) λxs=>gd (Nat.beq xs.length n) (M.ret xs))
def eZ(ts:List qi):qi:=λv=>(je T ts.length v).bind λvs=>o6 ts vs
def sAsg(t:qi)(e:M J):M Fl:=e.bind λv=>(t v).bind λ_=>M.ret .nxt
def yM(i:Nat)(o:eO)(e:M J):M Fl:=(B i).bind λa=>e.bind λb=>(TJ o a b).bind λv=>(cb i v).bind λ_=>M.ret .nxt
def uG(x:M J)(n:Nat)(o:eO)(e:M J):M Fl:=x.bind λq=>(FH T n q).bind λa=>e.bind λb=>(TJ o a b).bind λv=>(B6 T n q v).bind λ_=>M.ret .nxt
def bR(e:M J):M Fl:=e.bind λv=>M.ret (.ret v)
def iV(e:M J):M Fl:=e.bind λv=>pq v (M.ret .nxt)
noncomputable def eS(t:M Bool)(b o:M Fl):M Fl:=t.bind λc=>bif c then b else o
def yH(f:Fl)(m:M Fl):M Fl:=match f with
 |.nxt=>m
 |.brk=>M.ret .brk
 |.ret v=>M.ret (.ret v)
def aH:List (M Fl)->M Fl
 |[]=>M.ret .nxt
 |s::r=>s.bind λf=>yH f (aH r)
def Lm:M Fl:=M.ret .brk
def dU{α:Type}(turn:α->M (Option (α×Fl))):Nat->α->M Fl
 |0,_=>M.no
 |n+1,a=>(turn a).bind λr=>match r with
  |.none=>M.ret .nxt
  |some p=>(match p.2 with
   |.nxt=>dU turn n p.1
   |.brk=>M.ret .nxt
   |.ret v=>M.ret (.ret v))
def mf(t:M Bool)(b:M Fl):Unit->M (Option (Unit×Fl)):=λ_=>t.bind λc=>bif c then b.bind λf=>M.ret (Y ((),f))else M.ret .none
def jA(t:M Bool)(b:M Fl):M Fl:=dU (mf t b) fg ()
def iW(t:qi)(b:M Fl):It->M (Option (It×Fl)):=λq=>(i8 q).bind λr=>match r with
 |.none=>M.ret .none
 |some p=>(t p.1).bind λ_=>b.bind λf=>M.ret (Y (p.2,f))
def uT(t:qi)(it:M It)(b:M Fl):M Fl:=iA.bind λ_=>it.bind λq=>E2 (dU (iW t b) fg q)
def w3(e:M J):M Fl:=e.bind λa=>iA.bind λ_=>na a λi=>gX i λC b fd=>gd (b&&nk T C) λs=>.exc i {s with heap:=s.heap.set i (.exn C I fd)}
noncomputable def yE{α:Type}(b:Bool)(m:M α):M α:=λs=>match m {s with hand:=b}with
 |.ok a s'=>.ok a {s' with hand:=s.hand}
 |.exc x s'=>.exc x {s' with hand:=s.hand}
 |.stuck=>.stuck
def Ch(C slot:Nat)(hd:M Fl)(x:Nat):M Fl:=gX x λak _ _=>gd (Nat.beq C ak) ((cb slot (.obj x)).bind λ_=>(E2 (yE S hd)).bind λf=>(cb slot .unb).bind λ_=>M.ret f)
def yh(b:M Fl)(C:Nat)(slot:Nat)(hd:M Fl):M Fl:=λs=>match b s with
 |.ok f s'=>.ok f s'
 |.stuck=>.stuck
 |.exc x s'=>Ch C slot hd x s'
noncomputable def pJ(n:Nat)(body:M Fl)(hand:Bool)(as:List J):H->Jc:=λh=>match body ⟨as++List.replicate (n-as.length) .unb,h,hand⟩with
 |.ok f s=>(match f with
  |.nxt=>.ok .none s.heap
  |.ret v=>.ok v s.heap
  |.brk=>.stuck)
 |.exc x s=>.exc x s.heap
 |.stuck=>.stuck
end
end
section
noncomputable abbrev eC{α:Type}(d:α)(bo:BoolOp->List Expr->da->α:=λ_ _ _=>d)(bin:Expr->eO->Expr->da->α:=λ_ _ _ _=>d)(un:UnaryOp->Expr->da->α:=λ_ _ _=>d)(ife:Expr->Expr->Expr->da->α:=λ_ _ _ _=>d)(dct:List (Option Expr)->List Expr->da->α:=λ_ _ _=>d)(set:List Expr->Nat->da->α:=λ_ _ _=>d)(lc:Expr->List cW->cL->da->α:=λ_ _ _ _=>d)(sc:Expr->List cW->cL->da->α:=λ_ _ _ _=>d)(dc:Expr->Expr->List cW->cL->da->α:=λ_ _ _ _ _=>d)(cmp:Expr->List fQ->List Expr->da->α:=λ_ _ _ _=>d)(call:Expr->List Expr->List eU->da->α:=λ_ _ _ _=>d)(fv:Expr->Int->Option Expr->da->α:=λ_ _ _ _=>d)(js:List Expr->da->α:=λ_ _=>d)(con:Const->Nat->da->α:=λ_ _ _=>d)(att:Expr->aV->da->α:=λ_ _ _=>d)(sub:Expr->Expr->da->α:=λ_ _ _=>d)(st:Expr->da->α:=λ_ _=>d)(nm:aV->da->α:=λ_ _=>d)(lst:List Expr->da->α:=λ_ _=>d)(tup:List Expr->Nat->da->α:=λ_ _ _=>d)(sl:Option Expr->Option Expr->Option Expr->da->α:=λ_ _ _ _=>d)(e:Expr):α:=e.casesOn bo (λ_ _ _=>d) bin un (λ_ _ _ _=>d) ife dct set lc sc dc (λ_ _ _ _=>d) (λ_ _=>d) (λ_ _=>d) (λ_ _=>d) cmp call fv js con att sub st nm lst tup sl
noncomputable abbrev sC{α:Type}(d:α)(fd:aV->oS->List eD->List Expr->Option Expr->List oT->cL->Option cL->aV->da->α:=λ_ _ _ _ _ _ _ _ _ _=>d)(cd:aV->List Expr->List eU->List eD->List Expr->List oT->cL->Option cL->aV->List aV->da->α:=λ_ _ _ _ _ _ _ _ _ _ _=>d)(ret:Option Expr->da->α:=λ_ _=>d)(asg:List Expr->Expr->da->α:=λ_ _ _=>d)(aug:Expr->eO->Expr->da->α:=λ_ _ _ _=>d)(fr:Expr->Expr->List eD->List eD->da->α:=λ_ _ _ _ _=>d)(wh:Expr->List eD->List eD->da->α:=λ_ _ _ _=>d)(ifs:Expr->List eD->List eD->da->α:=λ_ _ _ _=>d)(rs:Option Expr->Option Expr->da->α:=λ_ _ _=>d)(tr:List eD->List ExceptHandler->List eD->List eD->da->α:=λ_ _ _ _ _=>d)(ex:Expr->da->α:=λ_ _=>d)(brk:da->α:=λ_=>d)(s:eD):α:=s.casesOn fd (λ_ _ _ _ _ _ _ _ _ _=>d) cd ret (λ_ _=>d) asg (λ_ _ _ _ _ _ _=>d) aug (λ_ _ _ _ _=>d) fr (λ_ _ _ _ _=>d) wh ifs (λ_ _ _=>d) (λ_ _ _=>d) (λ_ _ _=>d) rs tr (λ_ _ _ _ _=>d) (λ_ _ _=>d) (λ_ _=>d) (λ_ _ _ _=>d) (λ_ _=>d) (λ_ _=>d) ex (λ_=>d) brk (λ_=>d)
section
variable{α:Type}{d y:α}{e:Expr}
theorem ns{x:α}:cV≠Y x:=λq=>nS q
theorem nt:I≠S:=λq=>nT q
def Xd(d:α)(f:UnaryOp->Expr->da->α)(y:α)(e:Expr):Prop:=eC d (un:=f) (e:=e)=y->∃a b p,e=.UnaryOp a b p/\f a b p=y
theorem YS{f:UnaryOp->Expr->da->α}(hd:d≠y)(h:eC d (un:=f) (e:=e)=d):Xd d f y e:=λq=>absurd (h.symm.trans q) hd
theorem ZH{f:UnaryOp->Expr->da->α}(hd:d≠y):Xd d f y e:=by induction e using bg with
 |UnaryOp a b p=>exact λh=>⟨a,b,p,U,h⟩
 |_=>exact YS hd (Eq.refl d)
def NZ(d:α)(f:Const->Nat->da->α)(y:α)(e:Expr):Prop:=eC d (con:=f) (e:=e)=y->∃a b p,e=.Constant a b p/\f a b p=y
theorem TO{f:Const->Nat->da->α}(hd:d≠y)(h:eC d (con:=f) (e:=e)=d):NZ d f y e:=λq=>absurd (h.symm.trans q) hd
theorem Rk{f:Const->Nat->da->α}(hd:d≠y):NZ d f y e:=by induction e using bg with
 |Constant a b p=>exact λh=>⟨a,b,p,U,h⟩
 |_=>exact TO hd (Eq.refl d)
def VQ(d:α)(f:aV->da->α)(y:α)(e:Expr):Prop:=eC d (nm:=f) (e:=e)=y->∃a p,e=.Name a p/\f a p=y
theorem Yo{f:aV->da->α}(hd:d≠y)(h:eC d (nm:=f) (e:=e)=d):VQ d f y e:=λq=>absurd (h.symm.trans q) hd
theorem X1{f:aV->da->α}(hd:d≠y):VQ d f y e:=by induction e using bg with
 |Name a p=>exact λh=>⟨a,p,U,h⟩
 |_=>exact Yo hd (Eq.refl d)
def NH(d:α)(f:List Expr->Nat->da->α)(y:α)(e:Expr):Prop:=eC d (tup:=f) (e:=e)=y->∃a b p,e=.Tuple a b p/\f a b p=y
theorem UT{f:List Expr->Nat->da->α}(hd:d≠y)(h:eC d (tup:=f) (e:=e)=d):NH d f y e:=λq=>absurd (h.symm.trans q) hd
theorem Yx{f:List Expr->Nat->da->α}(hd:d≠y):NH d f y e:=by induction e using bg with
 |Tuple a b p=>exact λh=>⟨a,b,p,U,h⟩
 |_=>exact UT hd (Eq.refl d)
def NB(d:α)(f:List (Option Expr)->List Expr->da->α)(y:α)(e:Expr):Prop:=eC d (dct:=f) (e:=e)=y->∃a b p,e=.Dict a b p/\f a b p=y
theorem WZ{f:List (Option Expr)->List Expr->da->α}(hd:d≠y)(h:eC d (dct:=f) (e:=e)=d):NB d f y e:=λq=>absurd (h.symm.trans q) hd
theorem Yc{f:List (Option Expr)->List Expr->da->α}(hd:d≠y):NB d f y e:=by induction e using bg with
 |Dict a b p=>exact λh=>⟨a,b,p,U,h⟩
 |_=>exact WZ hd (Eq.refl d)
def G4(d:α)(f:Expr->List Expr->List eU->da->α)(y:α)(e:Expr):Prop:=eC d (call:=f) (e:=e)=y->∃a b c p,e=.Call a b c p/\f a b c p=y
theorem PE{f:Expr->List Expr->List eU->da->α}(hd:d≠y)(h:eC d (call:=f) (e:=e)=d):G4 d f y e:=λq=>absurd (h.symm.trans q) hd
theorem Ux{f:Expr->List Expr->List eU->da->α}(hd:d≠y):G4 d f y e:=by induction e using bg with
 |Call a b c p=>exact λh=>⟨a,b,c,p,U,h⟩
 |_=>exact PE hd (Eq.refl d)
def WC(d:α)(f:Expr->List cW->cL->da->α)(y:α)(e:Expr):Prop:=eC d (lc:=f) (e:=e)=y->∃a b c p,e=.ListComp a b c p/\f a b c p=y
theorem X4{f:Expr->List cW->cL->da->α}(hd:d≠y)(h:eC d (lc:=f) (e:=e)=d):WC d f y e:=λq=>absurd (h.symm.trans q) hd
theorem ZT{f:Expr->List cW->cL->da->α}(hd:d≠y):WC d f y e:=by induction e using bg with
 |ListComp a b c p=>exact λh=>⟨a,b,c,p,U,h⟩
 |_=>exact X4 hd (Eq.refl d)
def V8(d:α)(f:aV->oS->List eD->List Expr->Option Expr->List oT->cL->Option cL->aV->da->α)(y:α)(s:eD):Prop:=sC d (fd:=f) (s:=s)=y->∃a b c d e g i j k p,f a b c d e g i j k p=y
theorem YH{f:aV->oS->List eD->List Expr->Option Expr->List oT->cL->Option cL->aV->da->α}{s:eD}(hd:d≠y)(h:sC d (fd:=f) (s:=s)=d):V8 d f y s:=λq=>absurd (h.symm.trans q) hd
theorem Zy{f:aV->oS->List eD->List Expr->Option Expr->List oT->cL->Option cL->aV->da->α}{s:eD}(hd:d≠y):V8 d f y s:=by induction s using pX with
 |FunctionDef=>exact λh=>⟨_,_,_,_,_,_,_,_,_,_,h⟩
 |_=>exact YH hd (Eq.refl d)
end
structure VI where
 scope:cL
 vm:List (aV×Nat)
 top:Nat
noncomputable def Th(k:dr):Bool:=k==.local||k==.cell||k==.free
def eE(V:VI)(x:aV):Option Nat:=bif((V.scope.names.lookup x).any Th)then V.vm.lookup x else .none
noncomputable def cy(V:VI)(x:aV):Option Nat:=bif(V.scope.names.lookup x==Y .local)then V.vm.lookup x else .none
noncomputable def iE(V:VI)(x:aV):Bool:=V.scope.names.lookup x==Y .globalImplicit
noncomputable def AT(c:Const):Option J:=match c with
 |.none=>Y .none
 |.bool b=>Y (.bool b)
 |.int i=>Y (.int i)
 |.str s=>Y (.str s.cps.toList)
 |_=>.none
noncomputable def Jo(sc outer:cL):cL:={sc with names:=sc.names.map λ(n,k)=>if(k==.free&&outer.kind==.function&&outer.names.lookup n==Y .cell)then(n,.cell)else(n,k)}
def gk(V:VI)(x:aV)(sc:cL):VI:={scope:=Jo sc V.scope,vm:=(x,V.top)::V.vm,top:=V.top+1}
noncomputable def FN(V:VI)(x:aV)(sc:cL)(p:aV×dr):Bool:=
 !(p.2==.cell)&&(!(p.2==.local)||((p.1==x||(V.vm.lookup p.1).isNone)&&sc.names.lookup p.1==Y .local))&&(!(p.2==.free)||(V.scope.names.lookup p.1==Y .cell&&p.1 !=x))&&(p.1 !=("__debug__":aV)&&p.1 !=("__classdict__":aV))
def rC(V:VI)(x:aV)(sc:cL):Bool:=sc.kind==.function&&(sc.names.lookup x==Y .local)&&sc.names.all (FN V x sc)
noncomputable def lB(T:aT)(x:aV):Option Nat:=T.names.findIdx? (·==x)
def yD(e:Expr):Option J:=eC .none (e:=e) (con:=λc _ _=>AT c)
def uF:List (Option Expr)->List Expr->Option (List (J×J))
 |[],vs=>bif vs.isEmpty then Y []else .none
 |k::ks,vs=>match vs with
  |[]=>.none
  |v::vs=>k.bind λk=>(yD k).bind λa=>(yD v).bind λb=>(uF ks vs).map λr=>(a,b)::r
noncomputable def WA(a:J):Option aV:=match a with
 |.str l=>Y ⟨l.toArray⟩
 |_=>.none
noncomputable def VM(a:J):Option Int:=match a with
 |.int i=>Y i
 |_=>.none
noncomputable def zg{K:Type}[DecidableEq K](kv:J->Option K):List (J×J)->Option (List K)
 |[]=>Y []
 |p::r=>(kv p.1).bind λk=>(zg kv r).bind λks=>bif ks.any (λx=>aI (x=k))then .none else Y (k::ks)
def Yd(kvs:List (J×J)):Bool:=!kvs.isEmpty&&Nat.ble kvs.length 15&&((zg WA kvs).isSome||(zg VM kvs).isSome)
def xV(e:Expr):Option aV:=eC .none (e:=e) (nm:=λx _=>Y x)
def qY(T:aT)(V:VI)(x:aV):Option J:=bif iE V x then T.glob.lookup x else .none
def ol(T:aT)(V:VI):List Expr->Option (List J)
 |[]=>Y []
 |e::r=>(xV e).bind λx=>(qY T V x).bind λv=>(ol T V r).map λvs=>v::vs
def O5(e:Expr):Option (List Nat):=eC .none (e:=e) (con:=λc _ _=>match c with
  |.str s=>Y s.cps.toList
  |_=>.none)
def AZ(a:aV):List Expr->Option (List Nat×List Nat)
 |[]=>.none
 |x::r=>match r with
  |[]=>.none
  |y::q=>bif a=="replace"&&q.isEmpty then(O5 x).bind λu=>(O5 y).map λw=>(u,w)else .none
def nq(e:Expr):Bool:=eC S (e:=e) (call:=λf as ks _=>!((xV f).isSome&&as.isEmpty&&ks.isEmpty))
def fR(e:Expr):Bool:=eC I (e:=e) (st:=λ_ _=>S)
def ko(e:Expr):Bool:=eC I (e:=e) (set:=λ_ _ _=>S)
def Ll(e:Expr):Bool:=eC I (e:=e) (sl:=λ_ _ _ _=>S)
def jo(es:List Expr):Bool:=!es.any fR&&Nat.ble es.length 20
noncomputable def Y9(sc:cL)(line:Nat)(e:Expr):Option aV:=match e with
 |.Name id pos=>if sc.names.lookup id==Y .local&&pos.line==line then Y id else cV
 |_=>cV
def nI(e:Expr):Bool:=eC I (e:=e) (lc:=λ_ _ _ _=>S) (sc:=λ_ _ _ _=>S) (dc:=λ_ _ _ _ _=>S)
def JT(e:Expr):Bool:=eC I (e:=e) (nm:=λ_ _=>S)
def VT(sc:cL)(ts vs:List Expr):Option (Option (List aV)):=
 let names:=ts.filterMap (Y9 sc ((ts.head?.map (·.pos.line)).getD 0))
 if !(ts.length==2||ts.length==3)||vs.length !=ts.length then Y .none
 else if vs.any fR then Y .none
 else if names.length !=ts.length||names.eraseDups.length !=names.length then Y .none
 else if vs.all (foldedForSure 8)then Y .none
 else if vs.all (constantsAlone 8)then .none
 else Y (Y names)
def iT(e:Expr):Option (List Expr):=eC .none (e:=e) (tup:=λes _ _=>Y es)
def zc(e:Expr):Bool:=eC I (e:=e) (lst:=λ_ _=>S)
def pk(sc:cL)(t e:Expr):Option (Option (List aV)):=match iT e with
 |some vs=>(match iT t with
  |some ts=>VT sc ts vs
  |.none=>bif zc t then .none else Y .none)
 |.none=>Y .none
def tC:List Expr->Option (List aV)
 |[]=>Y []
 |e::r=>(xV e).bind λx=>(tC r).map (x::·)
noncomputable def lj:List aV->Bool
 |[]=>S
 |x::r=>!r.any (·==x)&&lj r
section
variable(T:aT)(G:cI)
structure Dn where
 e:VI->Expr->M J
 t:VI->Expr->M Bool
 i:VI->Expr->M It
def Dn.none:Dn:=⟨λ_ _=>M.no,λ_ _=>M.no,λ_ _=>M.no⟩
variable(ak:Dn)
def G8(V:VI)(x:aV):M J:=match eE V x with
 |some i=>B i
 |.none=>gO (qY T V x) D
def dFs(V:VI)(e:Expr):M J:=eC M.no (e:=e) (fv:=λv c o _=>gd (o.isNone&&c==-1) (ak.e V v)) (con:=λc _ _=>match c with
  |.str s=>D (.str s.cps.toList)
  |_=>M.no)
def dO(V:VI)(o:Option Expr):M J:=match o with
 |.none=>D .none
 |some e=>ak.e V e
def dK(V:VI):List eU->Option (List (Nat×M J))
 |[]=>Y []
 |k::r=>k.arg.bind λx=>(lB T x).bind λi=>(dK V r).map λq=>(i,ak.e V k.value)::q
noncomputable def Oi(o:fQ):Option Bool:=match o with
 |.In=>Y I
 |.NotIn=>Y S
 |_=>.none
def Ff(V:VI)(l:Expr)(o:fQ)(r:Expr):M J:=match iT r with
 |some es=>gO (Oi o) λneg=>gd (!es.any fR) (lu neg (ak.e V l) (es.map (ak.e V)))
 |.none=>gd (!ko r) (aW T o (ak.e V l) (ak.e V r))
def VK(V:VI)(l:Expr):List fQ->List Expr->M J
 |[],_=>M.no
 |o::os,rs=>match os with
  |[]=>qE rs λr=>Ff T ak V l o r
  |p::os=>q7 os (Lk rs λy z=>gd (!ko z) (pp T o p (ak.e V l) (ak.e V y) (ak.e V z)))
def Wt(e:Expr):Bool:=eC I (e:=e) (un:=λop x _=>match op with
  |.USub=>(match yD x with
   |some v=>(match v with
    |.int i=>aI (i=1)
    |_=>I)
   |.none=>I)
  |_=>I)
def Wu(V:VI)(v s:Expr):M J:=eC (eB T (ak.e V v) (ak.e V s)) (e:=s) (sl:=λlo hi st _=>match st with
  |.none=>fU T (ak.e V v) (dO ak V lo) (dO ak V hi)
  |some st=>gd (lo.isNone&&hi.isNone&&Wt st) (K9 (ak.e V v)))
def NY(V:VI)(elt:Expr)(g:cW)(sc:cL):M J:=match g with
 |⟨t,it,ifs,ia⟩=>gO (xV t) λx=>gd (rC V x sc&&!ko it&&!ifs.any fR&&ia==0) (match ifs with
  |[]=>kN (ak.e (gk V x sc) elt) V.top (ak.i V it) .none
  |c::r=>q7 r (kN (ak.e (gk V x sc) elt) V.top (ak.i V it) (Y (ak.t (gk V x sc) c))))
def JY(e:Expr):Option (List (Option Expr)×List Expr):=eC .none (e:=e) (dct:=λk v _=>Y (k,v))
def A5(V:VI)(o:Expr)(a:aV)(as:List Expr):M J:=match JY o with
 |some q=>gO (uF q.1 q.2) λkvs=>gd (a=="get"&&Yd kvs) (Lk as λx y=>qA kvs (ak.e V x) (ak.e V y))
 |.none=>(match AZ a as with
  |some q=>we (ak.e V o) q.1 q.2
  |.none=>gO (lB T a) λi=>bk T G (ak.e V o) i a (as.map (ak.e V)))
noncomputable def IS(v:J):Bool:=match v with
 |.bi n=>n=="isinstance"
 |_=>I
def FR(V:VI)(f:aV)(as:List Expr)(ks:List eU):M J:=gO (qY T V f) λv=>
 bif IS v then q7 ks (Lk as λe x=>gd (!fR e&&!fR x) (match iT x with
  |some cs=>gO (ol T V cs) (jv (ak.e V e))
  |.none=>gO (ol T V [x]) (jv (ak.e V e))))
 else gO (dK T ak V ks) λkms=>gd (jo as) (aN T G v (as.map (ak.e V)) kms)
def dE(V:VI)(e:Expr):M J:=eC M.no (e:=e)
 (con:=λc _ _=>gO (AT c) D)
 (nm:=λx _=>G8 T V x)
 (bin:=λl o r _=>bp o (ak.e V l) (ak.e V r))
 (un:=λop x _=>match op with
  |.Not=>KC (ak.e V x)
  |.USub=>rh (ak.e V x)
  |_=>M.no)
 (bo:=λop es _=>Lk es λx y=>match op with
  |.And=>Ap (ak.e V x) (ak.e V y)
  |.Or=>VW (ak.e V x) (ak.e V y))
 (ife:=λt b o _=>fB (ak.t V t) (ak.e V b) (ak.e V o))
 (cmp:=λl os rs _=>VK T ak V l os rs)
 (tup:=λes _ _=>gd (!es.any fR) (mTup (es.map (ak.e V))))
 (lst:=λes _=>gd (!es.any fR) (dm (es.map (ak.e V))))
 (dct:=λks vs _=>q7 ks (q7 vs jx))
 (js:=λes _=>gd (Nat.blt 1 es.length) (zp (es.map (dFs ak V))))
 (att:=λv a _=>gd (nq v) (gO (lB T a) (bT T (ak.e V v))))
 (sub:=λv s _=>Wu T ak V v s)
 (lc:=λelt gs sc _=>qE gs λg=>NY ak V elt g sc)
 (call:=λf as ks cp=>eC M.no (e:=f)
  (att:=λo a ap=>gd (ks.isEmpty&&(ap.endLine==cp.line&&nq o&&jo as)) (A5 T G ak V o a as))
  (nm:=λx _=>FR T G ak V x as ks))
def dT(V:VI)(e:Expr):M Bool:=eC (bJ (ak.e V e)) (e:=e)
 (un:=λop x _=>match op with
  |.Not=>vM (ak.t V x)
  |_=>bJ (ak.e V e))
 (bo:=λop es _=>match op with
  |.And=>es.foldr (λe r=>cQ (ak.t V e) r) (M.ret S)
  |.Or=>es.foldr (λe r=>pj (ak.t V e) r) (M.ret I))
 (ife:=λ_ _ _ _=>M.no)
def xQ(V:VI)(e:Expr):Option (List Expr):=eC .none (e:=e) (call:=λf as ks _=>(xV f).bind λx=>(qY T V x).bind λv=>(match v with
  |.ty n=>bif n=="range"&&ks.isEmpty then Y as else .none
  |_=>.none))
def dI(V:VI)(e:Expr):M It:=gd (!ko e) (match xQ T V e with
 |some as=>qE as λa=>gd (!fR a) (nP (ak.e V a))
 |.none=>iX T (ak.e V e))
def Kw:Dn:=⟨dE T G ak,dT ak,dI T ak⟩
def XA:Nat->Dn
 |0=>Dn.none
 |n+1=>Kw T G (XA n)
def TD(V:VI)(e:Expr):qi:=eC (λ_=>M.no) (e:=e)
 (nm:=λx _ v=>gO (cy V x) (λi=>bd i v))
 (att:=λo a _ v=>gO (lB T a) (λk=>cf T (ak.e V o) k v))
 (sub:=λo i _ v=>gd (!Ll i) (Aq (ak.e V o) (ak.e V i) v))
def dG(V:VI)(e:Expr):qi:=eC (TD T ak V e) (e:=e) (tup:=λts _ _ v=>gd (!ts.any fR) (eZ T (ts.map (TD T ak V)) v))
def DF(V:VI)(t e:Expr):Bool:=!fR t&&(!JT t||!nI e)&&(match pk V.scope t e with
 |.none=>I
 |some o=>(match o with
  |.none=>S
  |some ns=>(match iT t with
   |some ts=>tC ts==Y ns&&lj ns&&ns.all (λx=>(cy V x).isSome)
   |.none=>I)))
def cmpAsg(V:VI)(t e:Expr):Bool:=eC I (e:=t) (nm:=λy py=>eC I (e:=e) (lc:=λ_ gs sc vx=>match gs with
   |[]=>I
   |g::r=>r.isEmpty&&JT g.target&&(py.line==vx.line&&!(sc.names.any λ(n,k)=>n==y&&(k==.local||k==.cell))&&(cy V y).isSome)))
def Yg(V:VI)(ss:VI->List eD->M Fl)(b:List eD)(hd:ExceptHandler):M Fl:=match hd with
 |.ExceptHandler ty nm h _=>gO ty λty=>gO (xV ty) λc=>gO nm λx=>gO (qY T V c) λv=>(match v with
  |.sref C=>gO (cy V x) λi=>gd (nk T C) (yh (ss V b) C i (ss V h))
  |_=>M.no)
def dS(ss:VI->List eD->M Fl)(V:VI)(s:eD):M Fl:=sC M.no (s:=s)
 (asg:=λts e _=>qE ts λt=>gd (DF V t e||cmpAsg V t e) (sAsg (dG T ak V t) (ak.e V e)))
 (aug:=λt o e _=>eC M.no (e:=t)
  (nm:=λx _=>gO (cy V x) λi=>yM i o (ak.e V e))
  (att:=λq a _=>gO (lB T a) λk=>uG T (ak.e V q) k o (ak.e V e)))
 (ret:=λe _=>gO e λe=>bR (ak.e V e))
 (ex:=λe _=>gd (!nI e) (iV (ak.e V e)))
 (ifs:=λt b o _=>eS (ak.t V t) (ss V b) (ss V o))
 (wh:=λt b o _=>q7 o (jA (ak.t V t) (ss V b)))
 (fr:=λt i b o _=>q7 o (gd (!ko i) (uT (dG T ak V t) (ak.i V i) (ss V b))))
 (brk:=λ_=>Lm)
 (rs:=λe f _=>gd f.isNone (gO e λe=>w3 T (ak.e V e)))
 (tr:=λb hs o f _=>q7 o (q7 f (qE hs λhd=>Yg T V ss b hd)))
def pf:Nat->VI->List eD->M Fl
 |0=>λ_ _=>M.no
 |n+1=>λV l=>aH (l.map (dS T (XA T G 30) (pf n) V))
end
noncomputable def gG:Nat->List (aV×dr)->List (aV×Nat)
 |_,[]=>[]
 |n,p::r=>bif p.2==.local||p.2==.cell then(p.1,n)::gG (n+1) r else gG n r
def gc(sc:cL):VI:=let vm:=gG 0 sc.names;{scope:=sc,vm,top:=vm.length}
end
section
structure FI where
 pn:List aV
 dfl:List J
 body:List eD
 sc:cL
noncomputable def zH(np:Nat)(dfl as:List J):Option (List J):=bif Nat.ble (np-dfl.length) as.length&&Nat.ble as.length np then Y (as++dfl.drop (as.length-(np-dfl.length)))else .none
def uX(T:aT)(fi:FI)(as:List J)(ks:List (Nat×J)):Option (List J):=match ks with
 |[]=>zH fi.pn.length fi.dfl as
 |p::r=>bif r.isEmpty&&Nat.beq fi.pn.length 3&&Nat.beq fi.dfl.length 1&&Nat.beq as.length 2&&((fi.pn[2]?).bind (lB T)==Y p.1)then Y (as++[p.2])else .none
def zZ(T:aT)(G:cI)(fi:FI)(hand:Bool)(as:List J)(ks:List (Nat×J))(h:H):Jc:=match uX T fi as ks with
 |some bs=>pJ ((gc fi.sc).top+1) (pf T G 12 (gc fi.sc) fi.body) hand bs h
 |.none=>.stuck
def oZ(T:aT)(ft:Nat->Option FI):Nat->cI
 |0=>λ_ _ _ _ _=>.stuck
 |n+1=>λhand f as ks h=>match ft f with
  |some fi=>zZ T (oZ T ft n) fi hand as ks h
  |.none=>.stuck
end
section
noncomputable def fh:aT where
 glob:=[(am "Thing",(J.sref 40)),(am "isinstance",(J.bi "isinstance")),(am "int",(J.ty "int")),(am "bool",(J.ty "bool")),(am "str",(J.ty "str")),(am "OPERATORS",(J.sref 23)),(am "is_word",(J.sref 264)),(am "show",(J.sref 338)),(am "full_name",(J.sref 285)),(am "SIMPLE_ESCAPES",(J.sref 22)),(am "ord",(J.bi "ord")),(am "range",(J.ty "range")),(am "len",(J.bi "len")),(am "show_letter",(J.sref 292)),(am "is_plain_symbol",(J.sref 278)),(am "show_text",(J.sref 297)),(am "Text",(J.sref 62)),(am "ListThing",(J.sref 82)),(am "TableThing",(J.sref 120)),(am "RangeThing",(J.sref 140)),(am "show_range",(J.sref 318)),(am "ModuleThing",(J.sref 228)),(am "ErrorThing",(J.sref 181)),(am "show_error",(J.sref 330)),(am "ProcThing",(J.sref 161)),(am "show_pair",(J.sref 311)),(am "sort_of",(J.sref 244)),(am "show_thing",(J.sref 323)),(am "show_symbol",(J.sref 304)),(am "is_int",(J.sref 237)),(am "abs",(J.bi "abs")),(am "FIGURES",(J.str [48,49,50,51,52,53,54,55,56,57,97,98,99,100,101,102,103,104,105,106,107,108,109,110,111,112,113,114,115,116,117,118,119,120,121,122])),(am "MOST_TEXT",(J.int 20000)),(am "EDGES",(J.str [32,9,10,11,12,13,0])),(am "PREFIXES",(J.sref 363)),(am "read_int",(J.sref 386)),(am "named",(J.sref 345)),(am "figures",(J.sref 359)),(am "BASES",(J.sref 364)),(am "whole_numbers",(J.sref 352)),(am "letters",(J.sref 371)),(am "chr",(J.bi "chr")),(am "Format",(J.sref 431)),(am "integer_for",(J.sref 393)),(am "display",(J.sref 400)),(am "sized",(J.sref 378)),(am "Formatter",(J.sref 494)),(am "ValueError",(J.ty "ValueError")),(am "GemError",(J.sref 523)),(am "list",(J.ty "list")),(am "MODULES",(J.sref 560)),(am "BUILTINS",(J.sref 561)),(am "MIXED",(J.sref 564)),(am "own_module",(J.sref 559)),(am "Raised",(J.sref 543)),(am "_law_figures",(J.sref 852)),(am "_law_wide",(J.sref 859)),(am "_law_take",(J.sref 845)),(am "_law_value",(J.sref 871)),(am "_law_number",(J.sref 866)),(am "filled",(J.sref 505)),(am "_law_place",(J.sref 876)),(am "_law_told",(J.sref 883)),(am "_law_box",(J.sref 838)),(am "World",(J.sref 827)),(am "_law_places_right",(J.sref 890)),(am "_law_refused_right",(J.sref 897)),(am "_law_read_right",(J.sref 904))]
 names:=[am "__init__",am "number",am "owner",am "fields",am "own",am "frozen",am "ident",am "text",am "items",am "message",am "cause",am "name",am "is_class",am "parent",am "outer",am "methods",am "constants",am "mixed",am "ahead",am "attached",am "native",am "kept",am "isdigit",am "isalnum",am "join",am "rows",am "pairs",am "is_lambda",am "class_of",am "fail",am "append",am "strip",am "lstrip",am "lower",am "find",am "flags",am "width",am "most",am "padded",am "upper",am "world",am "values",am "place",am "used",am "value",am "letter",am "count",am "sign",am "piece",am "whole",am "reason",am "thing",am "natives",am "prelude",am "read",am "taken",am "last_number",am "last_ident",am "symbol_idents",am "made",am "version",am "const_version",am "globals",am "out",am "is_ready",am "main",am "builtin",am "give_own",am "get",am "make_builtin",am "error",am "list_of",am "strict",am "replace"]
 meth:=[(40,[(0,37)]),(62,[(0,59)]),(82,[(0,79)]),(181,[(0,178)]),(228,[(0,218)]),(431,[(0,414),(38,421),(1,428)]),(494,[(0,449),(44,456),(45,463),(46,470),(47,477),(48,484),(49,491)]),(523,[(0,520)]),(543,[(0,540)]),(827,[(0,587),(1,608),(66,629),(69,634),(67,641),(28,656),(7,691),(71,698),(70,754),(29,761)])]
 exns:=[523,543]
 attrs:=[(40,[1,2,3,4,5,6]),(62,[1,2,3,4,5,6,7]),(82,[1,2,3,4,5,6,8]),(181,[1,2,3,4,5,6,9,10]),(228,[1,2,3,4,5,6,11,12,13,14,15,16,17,18,19,20,21]),(431,[35,36,37]),(494,[40,7,41,42,43]),(827,[52,53,54,37,55,56,57,58,59,60,61,62,63,64,65])]
 xattrs:=[50,51]
 sdict:=[(22,[([92],(J.str [92,92])),([34],(J.str [92,34])),([10],(J.str [92,110])),([9],(J.str [92,116])),([13],(J.str [92,114])),([27],(J.str [92,101])),([7],(J.str [92,97])),([8],(J.str [92,98])),([11],(J.str [92,118])),([12],(J.str [92,102])),([127],(J.str [92,120,55,70]))]),(364,[([100],(J.int 10)),([105],(J.int 10)),([117],(J.int 10)),([120],(J.int 16)),([88],(J.int 16)),([111],(J.int 8)),([98],(J.int 2)),([66],(J.int 2))]),(561,[([66,97,115,105,99,79,98,106,101,99,116],J.none),([79,98,106,101,99,116],(J.str [66,97,115,105,99,79,98,106,101,99,116])),([77,111,100,117,108,101],(J.str [79,98,106,101,99,116])),([67,108,97,115,115],(J.str [77,111,100,117,108,101])),([75,101,114,110,101,108],J.none),([67,111,109,112,97,114,97,98,108,101],J.none),([69,110,117,109,101,114,97,98,108,101],J.none),([78,105,108,67,108,97,115,115],(J.str [79,98,106,101,99,116])),([84,114,117,101,67,108,97,115,115],(J.str [79,98,106,101,99,116])),([70,97,108,115,101,67,108,97,115,115],(J.str [79,98,106,101,99,116])),([78,117,109,101,114,105,99],(J.str [79,98,106,101,99,116])),([73,110,116,101,103,101,114],(J.str [78,117,109,101,114,105,99])),([83,116,114,105,110,103],(J.str [79,98,106,101,99,116])),([83,121,109,98,111,108],(J.str [79,98,106,101,99,116])),([65,114,114,97,121],(J.str [79,98,106,101,99,116])),([72,97,115,104],(J.str [79,98,106,101,99,116])),([82,97,110,103,101],(J.str [79,98,106,101,99,116])),([80,114,111,99],(J.str [79,98,106,101,99,116])),([70,105,98,101,114],(J.str [79,98,106,101,99,116])),([69,120,99,101,112,116,105,111,110],(J.str [79,98,106,101,99,116])),([83,99,114,105,112,116,69,114,114,111,114],(J.str [69,120,99,101,112,116,105,111,110])),([78,111,116,73,109,112,108,101,109,101,110,116,101,100,69,114,114,111,114],(J.str [83,99,114,105,112,116,69,114,114,111,114])),([83,121,115,116,101,109,83,116,97,99,107,69,114,114,111,114],(J.str [69,120,99,101,112,116,105,111,110])),([83,116,97,110,100,97,114,100,69,114,114,111,114],(J.str [69,120,99,101,112,116,105,111,110])),([65,114,103,117,109,101,110,116,69,114,114,111,114],(J.str [83,116,97,110,100,97,114,100,69,114,114,111,114])),([85,110,99,97,117,103,104,116,84,104,114,111,119,69,114,114,111,114],(J.str [65,114,103,117,109,101,110,116,69,114,114,111,114])),([70,105,98,101,114,69,114,114,111,114],(J.str [83,116,97,110,100,97,114,100,69,114,114,111,114])),([73,110,100,101,120,69,114,114,111,114],(J.str [83,116,97,110,100,97,114,100,69,114,114,111,114])),([75,101,121,69,114,114,111,114],(J.str [73,110,100,101,120,69,114,114,111,114])),([83,116,111,112,73,116,101,114,97,116,105,111,110],(J.str [73,110,100,101,120,69,114,114,111,114])),([76,111,99,97,108,74,117,109,112,69,114,114,111,114],(J.str [83,116,97,110,100,97,114,100,69,114,114,111,114])),([78,97,109,101,69,114,114,111,114],(J.str [83,116,97,110,100,97,114,100,69,114,114,111,114])),([78,111,77,101,116,104,111,100,69,114,114,111,114],(J.str [78,97,109,101,69,114,114,111,114])),([78,111,77,97,116,99,104,105,110,103,80,97,116,116,101,114,110,69,114,114,111,114],(J.str [83,116,97,110,100,97,114,100,69,114,114,111,114])),([78,111,77,97,116,99,104,105,110,103,80,97,116,116,101,114,110,75,101,121,69,114,114,111,114],(J.str [78,111,77,97,116,99,104,105,110,103,80,97,116,116,101,114,110,69,114,114,111,114])),([82,97,110,103,101,69,114,114,111,114],(J.str [83,116,97,110,100,97,114,100,69,114,114,111,114])),([82,117,110,116,105,109,101,69,114,114,111,114],(J.str [83,116,97,110,100,97,114,100,69,114,114,111,114])),([70,114,111,122,101,110,69,114,114,111,114],(J.str [82,117,110,116,105,109,101,69,114,114,111,114])),([84,121,112,101,69,114,114,111,114],(J.str [83,116,97,110,100,97,114,100,69,114,114,111,114])),([90,101,114,111,68,105,118,105,115,105,111,110,69,114,114,111,114],(J.str [83,116,97,110,100,97,114,100,69,114,114,111,114]))]),(564,[([79,98,106,101,99,116],(J.sref 565)),([78,117,109,101,114,105,99],(J.sref 566)),([83,116,114,105,110,103],(J.sref 567)),([83,121,109,98,111,108],(J.sref 568)),([65,114,114,97,121],(J.sref 569)),([72,97,115,104],(J.sref 570)),([82,97,110,103,101],(J.sref 571))])]
 stup:=[(23,[(J.str [43]),(J.str [45]),(J.str [42]),(J.str [47]),(J.str [37]),(J.str [42,42]),(J.str [61,61]),(J.str [33,61]),(J.str [60]),(J.str [62]),(J.str [60,61]),(J.str [62,61]),(J.str [60,61,62]),(J.str [61,61,61]),(J.str [91,93]),(J.str [91,93,61]),(J.str [60,60]),(J.str [62,62]),(J.str [33]),(J.str [126]),(J.str [43,64]),(J.str [45,64]),(J.str [38]),(J.str [124]),(J.str [94]),(J.str [61,126]),(J.str [33,126])]),(363,[(J.sref 360),(J.sref 361),(J.sref 362)]),(560,[(J.str [75,101,114,110,101,108]),(J.str [67,111,109,112,97,114,97,98,108,101]),(J.str [69,110,117,109,101,114,97,98,108,101])]),(565,[(J.str [75,101,114,110,101,108])]),(566,[(J.str [67,111,109,112,97,114,97,98,108,101])]),(567,[(J.str [67,111,109,112,97,114,97,98,108,101])]),(568,[(J.str [67,111,109,112,97,114,97,98,108,101])]),(569,[(J.str [69,110,117,109,101,114,97,98,108,101])]),(570,[(J.str [69,110,117,109,101,114,97,98,108,101])]),(571,[(J.str [69,110,117,109,101,114,97,98,108,101])]),(572,[(J.str [78,105,108,67,108,97,115,115]),(J.str [84,114,117,101,67,108,97,115,115]),(J.str [70,97,108,115,101,67,108,97,115,115]),(J.str [73,110,116,101,103,101,114]),(J.str [78,117,109,101,114,105,99]),(J.str [83,121,109,98,111,108])]),(360,[(J.str [48,120]),(J.int 16)]),(361,[(J.str [48,98]),(J.int 2)]),(362,[(J.str [48,111]),(J.int 8)])]
 fns:=[37,59,79,178,218,225,237,244,264,278,285,292,297,304,323,338,345,352,359,371,378,386,393,400,414,421,428,449,456,463,470,477,484,491,505,520,540,587,608,629,634,641,656,691,698,754,761,838,845,852,859,866,871,876,883,890,897,904,911]
end
section
structure yW where
 top:Nat
 mem:Option Nat
 dfl:List J
def RM(dfl:List J)(s:eD):Option FI:=sC .none (s:=s) (fd:=λ_ a b _ _ _ sc _ _ _=>Y ⟨a.args.map (·.arg),dfl,b,sc⟩)
def Xc(j:Nat)(s:eD):Option eD:=sC .none (s:=s) (cd:=λ_ _ _ b _ _ _ _ _ _ _=>b[j]?)
def yW.fi(p:yW):Option FI:=(PySem.Challenge.pw_nu0290_01.main.body[p.top]?).bind λs=>match p.mem with
 |some j=>(Xc j s).bind (RM p.dfl)
 |.none=>RM p.dfl s
noncomputable def mj:List (Nat×yW):=[
 (37,⟨5,Y 0,[]⟩),
 (59,⟨6,Y 0,[.str []]⟩),
 (79,⟨7,Y 0,[.none]⟩),
 (178,⟨11,Y 0,[.none]⟩),
 (218,⟨13,Y 0,[.none,.bool I,.none,.none]⟩),
 (225,⟨13,Y 1,[]⟩),
 (237,⟨14,.none,[]⟩),
 (244,⟨15,.none,[]⟩),
 (264,⟨18,.none,[]⟩),
 (278,⟨20,.none,[]⟩),
 (285,⟨21,.none,[]⟩),
 (292,⟨22,.none,[]⟩),
 (297,⟨23,.none,[]⟩),
 (304,⟨24,.none,[]⟩),
 (323,⟨27,.none,[]⟩),
 (338,⟨29,.none,[.int 6]⟩),
 (345,⟨32,.none,[]⟩),
 (352,⟨33,.none,[]⟩),
 (359,⟨35,.none,[]⟩),
 (371,⟨42,.none,[]⟩),
 (378,⟨43,.none,[]⟩),
 (386,⟨44,.none,[.bool I]⟩),
 (393,⟨45,.none,[]⟩),
 (400,⟨46,.none,[]⟩),
 (414,⟨47,Y 0,[]⟩),
 (421,⟨47,Y 1,[]⟩),
 (428,⟨47,Y 2,[]⟩),
 (449,⟨48,Y 0,[]⟩),
 (456,⟨48,Y 1,[]⟩),
 (463,⟨48,Y 2,[]⟩),
 (470,⟨48,Y 3,[]⟩),
 (477,⟨48,Y 4,[]⟩),
 (484,⟨48,Y 5,[]⟩),
 (491,⟨48,Y 6,[]⟩),
 (505,⟨49,.none,[]⟩),
 (520,⟨51,Y 0,[.str []]⟩),
 (540,⟨52,Y 0,[]⟩),
 (587,⟨61,Y 0,[.none,.none,.int 20000]⟩),
 (608,⟨61,Y 3,[]⟩),
 (629,⟨61,Y 6,[]⟩),
 (634,⟨61,Y 7,[]⟩),
 (641,⟨61,Y 8,[]⟩),
 (656,⟨61,Y 10,[]⟩),
 (691,⟨61,Y 15,[]⟩),
 (698,⟨61,Y 16,[]⟩),
 (754,⟨61,Y 24,[]⟩),
 (761,⟨61,Y 25,[]⟩),
 (838,⟨63,.none,[]⟩),
 (845,⟨64,.none,[]⟩),
 (852,⟨65,.none,[]⟩),
 (859,⟨66,.none,[]⟩),
 (866,⟨67,.none,[]⟩),
 (871,⟨68,.none,[]⟩),
 (876,⟨69,.none,[]⟩),
 (883,⟨70,.none,[]⟩),
 (890,⟨71,.none,[]⟩),
 (897,⟨72,.none,[]⟩),
 (904,⟨73,.none,[]⟩),
 (911,⟨74,.none,[]⟩)]
def ft(f:Nat):Option FI:=(d7 f mj).bind yW.fi
end
section
abbrev Cd:=aT->cI->List (M Fl)
def Wg:Cd:=λT G=>[sAsg (cf T (B 0) 6) (D .none)]
def We:Cd:=λT G=>sAsg (cf T (B 0) 5) (D (.bool I))::Wg T G
def Um:Cd:=λT G=>sAsg (cf T (B 0) 4) (D .none)::We T G
def VG:Cd:=λT G=>sAsg (cf T (B 0) 3) jx::Um T G
def Ua:Cd:=λT G=>sAsg (cf T (B 0) 2) (B 2)::VG T G
def UX:Cd:=λT G=>sAsg (cf T (B 0) 1) (B 1)::Ua T G
def XR(T:aT)(G:cI):M Fl:=aH (UX T G)
def TN:Cd:=λT G=>[sAsg (cf T (B 0) 7) (B 3)]
def T9:Cd:=λT G=>iV (bk T G (D (.sref 40)) 0 (am "__init__") [B 0,B 1,B 2])::TN T G
def Zf(T:aT)(G:cI):M Fl:=aH (T9 T G)
def Vi:Cd:=λT G=>[sAsg (cf T (B 0) 8) (fB (bJ (aW T .Is (B 3) (D .none))) (dm []) (B 3))]
def W8:Cd:=λT G=>iV (bk T G (D (.sref 40)) 0 (am "__init__") [B 0,B 1,B 2])::Vi T G
def Zm(T:aT)(G:cI):M Fl:=aH (W8 T G)
def QR:Cd:=λT G=>[sAsg (cf T (B 0) 10) (D .none)]
def Tr:Cd:=λT G=>sAsg (cf T (B 0) 9) (B 3)::QR T G
def Pa:Cd:=λT G=>iV (bk T G (D (.sref 40)) 0 (am "__init__") [B 0,B 1,B 2])::Tr T G
def VV(T:aT)(G:cI):M Fl:=aH (Pa T G)
def Kn:Cd:=λT G=>[sAsg (cf T (B 0) 21) (D .none)]
def Mh:Cd:=λT G=>sAsg (cf T (B 0) 20) (D .none)::Kn T G
def Rb:Cd:=λT G=>sAsg (cf T (B 0) 19) (D .none)::Mh T G
def Tm:Cd:=λT G=>sAsg (cf T (B 0) 18) (dm [])::Rb T G
def Pm:Cd:=λT G=>sAsg (cf T (B 0) 17) (dm [])::Tm T G
def Su:Cd:=λT G=>sAsg (cf T (B 0) 16) jx::Pm T G
def SN:Cd:=λT G=>sAsg (cf T (B 0) 15) jx::Su T G
def Ok:Cd:=λT G=>sAsg (cf T (B 0) 14) (B 6)::SN T G
def Rw:Cd:=λT G=>sAsg (cf T (B 0) 13) (B 5)::Ok T G
def OX:Cd:=λT G=>sAsg (cf T (B 0) 12) (B 4)::Rw T G
def OP:Cd:=λT G=>sAsg (cf T (B 0) 11) (B 3)::OX T G
def Pb:Cd:=λT G=>iV (bk T G (D (.sref 40)) 0 (am "__init__") [B 0,B 1,B 2])::OP T G
def UE(T:aT)(G:cI):M Fl:=aH (Pb T G)
def SA:Cd:=λT G=>[bR (Ap (jv (B 0) [.ty "int"]) (KC (jv (B 0) [.ty "bool"])))]
def Vr(T:aT)(G:cI):M Fl:=aH (SA T G)
def Qp:Cd:=λT G=>[bR (fB (bJ (jv (B 0) [.ty "str"])) (D (.str [115,121,109])) (D (.str [116,104,105,110,103])))]
def RP:Cd:=λT G=>eS (bJ (jv (B 0) [.ty "int"])) (aH [bR (D (.str [105,110,116]))]) (aH [])::Qp T G
def RW:Cd:=λT G=>eS (bJ (jv (B 0) [.ty "bool"])) (aH [bR (D (.str [98,111,111,108]))]) (aH [])::RP T G
def Qc:Cd:=λT G=>eS (bJ (aW T .Is (B 0) (D .none))) (aH [bR (D (.str [110,105,108]))]) (aH [])::RW T G
def Vm(T:aT)(G:cI):M Fl:=aH (Qc T G)
def FW(T:aT)(G:cI):M Fl:=(aH [eS (vM (pj (bJ (bk T G (B 1) 23 (am "isalnum") [])) (pj (bJ (aW T .Eq (B 1) (D (.str [95])))) (M.ret I)))) (aH [bR (D (.bool I))]) (aH [])])
def QP:Cd:=λT G=>[bR (D (.bool S))]
def PA:Cd:=λT G=>uT (bd 1) (iX T (B 0)) (FW T G)::QP T G
def PN:Cd:=λT G=>eS (pj (bJ (aW T .Eq (B 0) (D (.str [])))) (pj (bJ (bk T G (eB T (B 0) (D (.int 0))) 22 (am "isdigit") [])) (M.ret I))) (aH [bR (D (.bool I))]) (aH [])::PA T G
def U6(T:aT)(G:cI):M Fl:=aH (PN T G)
def PS:Cd:=λT G=>[bR (aN T G (.sref 264) [(fB (bJ (lu I (fU T (B 0) (rh (D (.int 1))) (D .none)) [D (.str [63]),D (.str [33]),D (.str [61])])) (fU T (B 0) (D .none) (rh (D (.int 1)))) (B 0))] [])]
def Tf:Cd:=λT G=>eS (bJ (lu I (fU T (B 0) (D .none) (D (.int 1))) [D (.str [64]),D (.str [36])])) (aH [bR (aN T G (.sref 264) [fU T (B 0) (D (.int 1)) (D .none)] [])]) (aH [])::PS T G
def RI:Cd:=λT G=>eS (bJ (aW T .Eq (fU T (B 0) (D .none) (D (.int 2))) (D (.str [64,64])))) (aH [bR (aN T G (.sref 264) [fU T (B 0) (D (.int 2)) (D .none)] [])]) (aH [])::Tf T G
def RL:Cd:=λT G=>eS (bJ (aW T .In (B 0) (D (.sref 23)))) (aH [bR (D (.bool S))]) (aH [])::RI T G
def UB(T:aT)(G:cI):M Fl:=aH (RL T G)
def PD:Cd:=λT G=>[bR (bp .Add (bp .Add (aN T G (.sref 285) [bT T (B 0) 14] []) (D (.str [58,58]))) (bT T (B 0) 11))]
def Oz:Cd:=λT G=>eS (bJ (aW T .Is (bT T (B 0) 14) (D .none))) (aH [bR (bT T (B 0) 11)]) (aH [])::PD T G
def ON:Cd:=λT G=>eS (bJ (aW T .Is (bT T (B 0) 11) (D .none))) (aH [bR (fB (bJ (bT T (B 0) 12)) (D (.str [35,60,67,108,97,115,115,62])) (D (.str [35,60,77,111,100,117,108,101,62])))]) (aH [])::Oz T G
def Tk:Cd:=λT G=>eS (bJ (aW T .IsNot (bT T (B 0) 19) (D .none))) (aH [bR (bp .Add (bp .Add (D (.str [35,60,67,108,97,115,115,58])) (aN T G (.sref 338) [bT T (B 0) 19] [])) (D (.str [62])))]) (aH [])::ON T G
def Un(T:aT)(G:cI):M Fl:=aH (Tk T G)
def R8:Cd:=λT G=>[bR (B 0)]
def O2:Cd:=λT G=>eS (pj (bJ (aW T .Lt (B 2) (D (.int 32)))) (pj (bJ (pp T .Lt .Lt (D (.int 127)) (B 2) (D (.int 160)))) (M.ret I))) (aH [sAsg (bd 3) (D (.str [48,49,50,51,52,53,54,55,56,57,65,66,67,68,69,70])),bR (bp .Add (bp .Add (D (.str [92,117,48,48])) (eB T (B 3) (bp .FloorDiv (B 2) (D (.int 16))))) (eB T (B 3) (bp .Mod (B 2) (D (.int 16)))))]) (aH [])::R8 T G
def Q3:Cd:=λT G=>sAsg (bd 2) (aN T G (.bi "ord") [B 0] [])::O2 T G
def Rj:Cd:=λT G=>eS (cQ (bJ (aW T .Eq (B 0) (D (.str [35])))) (cQ (bJ (lu I (B 1) [D (.str [123]),D (.str [36]),D (.str [64])])) (M.ret S))) (aH [bR (D (.str [92,35]))]) (aH [])::Q3 T G
def Tb:Cd:=λT G=>eS (bJ (aW T .In (B 0) (D (.sref 22)))) (aH [bR (eB T (D (.sref 22)) (B 0))]) (aH [])::Rj T G
def UL(T:aT)(G:cI):M Fl:=aH (Tb T G)
def RX:Cd:=λT G=>[bR (bp .Add (bp .Add (D (.str [34])) (bk T G (D (.str [])) 24 (am "join") [B 1])) (D (.str [34])))]
def ST:Cd:=λT G=>sAsg (bd 1) (kN (aN T G (.sref 292) [eB T (B 0) (B 2),fU T (B 0) (bp .Add (B 2) (D (.int 1))) (bp .Add (B 2) (D (.int 2)))] []) 2 (nP (aN T G (.bi "len") [B 0] [])) .none)::RX T G
def WM(T:aT)(G:cI):M Fl:=aH (ST T G)
def Ps:Cd:=λT G=>[bR (bp .Add (D (.str [58])) (fB (bJ (aN T G (.sref 278) [B 0] [])) (B 0) (aN T G (.sref 297) [B 0] [])))]
def Us(T:aT)(G:cI):M Fl:=aH (Ps T G)
def PU:Cd:=λT G=>[bR (bp .Add (bp .Add (D (.str [35,60])) (B 2)) (D (.str [62])))]
def Tv:Cd:=λT G=>eS (bJ (jv (B 0) [.sref 161])) (aH [bR (fB (bJ (bT T (B 0) 27)) (D (.str [35,60,80,114,111,99,32,40,108,97,109,98,100,97,41,62])) (D (.str [35,60,80,114,111,99,62])))]) (aH [])::PU T G
def Qn:Cd:=λT G=>eS (bJ (jv (B 0) [.sref 181])) (aH [bR (aN T G (.sref 330) [B 0,B 2,B 1] [])]) (aH [])::Tv T G
def Ti:Cd:=λT G=>sAsg (bd 2) (aN T G (.sref 285) [bT T (B 0) 2] [])::Qn T G
def Sj:Cd:=λT G=>eS (bJ (jv (B 0) [.sref 228])) (aH [bR (aN T G (.sref 285) [B 0] [])]) (aH [])::Ti T G
def Sh:Cd:=λT G=>eS (bJ (jv (B 0) [.sref 140])) (aH [bR (fB (bJ (aW T .Gt (B 1) (D (.int 0)))) (aN T G (.sref 318) [B 0,bp .Sub (B 1) (D (.int 1))] []) (D (.str [40,46,46,46,41])))]) (aH [])::Sj T G
def Oj:Cd:=λT G=>eS (bJ (jv (B 0) [.sref 120])) (aH [eS (cQ (bJ (aW T .Lt (B 1) (D (.int 1)))) (cQ (bJ (aW T .Gt (aN T G (.bi "len") [bT T (B 0) 25] []) (D (.int 0)))) (M.ret S))) (aH [bR (D (.str [123,46,46,46,125]))]) (aH []),bR (bp .Add (bp .Add (D (.str [123])) (bk T G (D (.str [44,32])) 24 (am "join") [M.no])) (D (.str [125])))]) (aH [])::Sh T G
def Rf:Cd:=λT G=>eS (bJ (jv (B 0) [.sref 82])) (aH [eS (cQ (bJ (aW T .Lt (B 1) (D (.int 1)))) (cQ (bJ (aW T .Gt (aN T G (.bi "len") [bT T (B 0) 8] []) (D (.int 0)))) (M.ret S))) (aH [bR (D (.str [91,46,46,46,93]))]) (aH []),bR (bp .Add (bp .Add (D (.str [91])) (bk T G (D (.str [44,32])) 24 (am "join") [(kN (aN T G (.sref 338) [B 3,bp .Sub (B 1) (D (.int 1))] []) 3 (iX T (bT T (B 0) 8)) .none)])) (D (.str [93])))]) (aH [])::Oj T G
def OH:Cd:=λT G=>eS (bJ (jv (B 0) [.sref 62])) (aH [bR (aN T G (.sref 297) [bT T (B 0) 7] [])]) (aH [])::Rf T G
def Uc(T:aT)(G:cI):M Fl:=aH (OH T G)
def Pf:Cd:=λT G=>[bR (aN T G (.ty "str") [B 0] [])]
def PQ:Cd:=λT G=>eS (bJ (aW T .Eq (B 2) (D (.str [98,111,111,108])))) (aH [bR (fB (bJ (B 0)) (D (.str [116,114,117,101])) (D (.str [102,97,108,115,101])))]) (aH [])::Pf T G
def Pp:Cd:=λT G=>eS (bJ (aW T .Eq (B 2) (D (.str [110,105,108])))) (aH [bR (D (.str [110,105,108]))]) (aH [])::PQ T G
def Rn:Cd:=λT G=>eS (bJ (aW T .Eq (B 2) (D (.str [115,121,109])))) (aH [bR (aN T G (.sref 304) [B 0] [])]) (aH [])::Pp T G
def QT:Cd:=λT G=>eS (bJ (aW T .Eq (B 2) (D (.str [116,104,105,110,103])))) (aH [bR (aN T G (.sref 323) [B 0,B 1] [])]) (aH [])::Rn T G
def PG:Cd:=λT G=>sAsg (bd 2) (aN T G (.sref 244) [B 0] [])::QT T G
def U9(T:aT)(G:cI):M Fl:=aH (PG T G)
def Os:Cd:=λT G=>[bR (aN T G (.sref 285) [bk T G (B 0) 28 (am "class_of") [B 1]] [])]
def SZ:Cd:=λT G=>eS (pj (bJ (aW T .Is (B 1) (D .none))) (pj (bJ (jv (B 1) [.ty "bool",.ty "int",.ty "str"])) (M.ret I))) (aH [bR (aN T G (.sref 338) [B 1] [])]) (aH [])::Os T G
def TR(T:aT)(G:cI):M Fl:=aH (SZ T G)
def OV:Cd:=λT G=>[bR (bk T G (B 0) 29 (am "fail") [(D (.str [84,121,112,101,69,114,114,111,114])),(zp [(D (.str [110,111,32,105,109,112,108,105,99,105,116,32,99,111,110,118,101,114,115,105,111,110,32,111,102,32])),B 2,(D (.str [32,105,110,116,111,32,73,110,116,101,103,101,114]))])])]
def QM:Cd:=λT G=>sAsg (bd 2) (fB (bJ (jv (B 1) [.ty "bool"])) (aN T G (.sref 338) [B 1] []) (aN T G (.sref 285) [bk T G (B 0) 28 (am "class_of") [B 1]] []))::OV T G
def Sk:Cd:=λT G=>eS (bJ (aW T .Is (B 1) (D .none))) (aH [bR (bk T G (B 0) 29 (am "fail") [(D (.str [84,121,112,101,69,114,114,111,114])),(D (.str [110,111,32,105,109,112,108,105,99,105,116,32,99,111,110,118,101,114,115,105,111,110,32,102,114,111,109,32,110,105,108,32,116,111,32,105,110,116,101,103,101,114]))])]) (aH [])::QM T G
def O4:Cd:=λT G=>eS (bJ (aN T G (.sref 237) [B 1] [])) (aH [bR (B 1)]) (aH [])::Sk T G
def UK(T:aT)(G:cI):M Fl:=aH (O4 T G)
def Hw(T:aT)(G:cI):M Bool:=(bJ (aW T .Gt (B 2) (D (.int 0))))
def Ii(T:aT)(G:cI):M Fl:=(aH [iV (bk T G (B 3) 30 (am "append") [(eB T (D (.str [48,49,50,51,52,53,54,55,56,57,97,98,99,100,101,102,103,104,105,106,107,108,109,110,111,112,113,114,115,116,117,118,119,120,121,122])) (bp .Mod (B 2) (B 1)))]),sAsg (bd 2) (bp .FloorDiv (B 2) (B 1))])
def Pu:Cd:=λT G=>[bR (bk T G (D (.str [])) 24 (am "join") [K9 (B 3)])]
def GC:Cd:=λT G=>eS (bJ (aW T .Lt (B 0) (D (.int 0)))) (aH [iV (bk T G (B 3) 30 (am "append") [D (.str [45])])]) (aH [])::Pu T G
def Hr:Cd:=λT G=>eS (bJ (aW T .Eq (aN T G (.bi "len") [B 3] []) (D (.int 0)))) (aH [iV (bk T G (B 3) 30 (am "append") [D (.str [48])])]) (aH [])::GC T G
def Tt:Cd:=λT G=>jA (Hw T G) (Ii T G)::Hr T G
def Q8:Cd:=λT G=>sAsg (eZ T [bd 2,bd 3]) (mTup [aN T G (.bi "abs") [B 0] [],dm []])::Tt T G
def Ui(T:aT)(G:cI):M Fl:=aH (Q8 T G)
def Oh:Cd:=λT G=>[bR (bk T G (B 0) 29 (am "fail") [(D (.str [84,121,112,101,69,114,114,111,114])),(zp [(D (.str [110,111,32,105,109,112,108,105,99,105,116,32,99,111,110,118,101,114,115,105,111,110,32,111,102,32])),B 3,(D (.str [32,105,110,116,111,32,83,116,114,105,110,103]))])])]
def RB:Cd:=λT G=>sAsg (bd 3) (fB (bJ (B 2)) (aN T G (.sref 338) [B 1] []) (aN T G (.sref 285) [bk T G (B 0) 28 (am "class_of") [B 1]] []))::Oh T G
def QY:Cd:=λT G=>sAsg (bd 2) (VW (aW T .Is (B 1) (D .none)) (jv (B 1) [.ty "bool"]))::RB T G
def Tz:Cd:=λT G=>eS (bJ (jv (B 1) [.sref 62])) (aH [bR (bT T (B 1) 7)]) (aH [])::QY T G
def WK(T:aT)(G:cI):M Fl:=aH (Tz T G)
def Rx:Cd:=λT G=>[bR (fB (bJ (aW T .LtE (aN T G (.bi "len") [B 1] []) (D (.int 20000)))) (B 1) (bk T G (B 0) 29 (am "fail") [(D (.str [65,114,103,117,109,101,110,116,69,114,114,111,114])),(D (.str [97,114,103,117,109,101,110,116,32,116,111,111,32,98,105,103]))]))]
def V0(T:aT)(G:cI):M Fl:=aH (Rx T G)
def AM(T:aT)(G:cI):M Fl:=(aH [eS (cQ (bJ (aW T .Eq (bk T G (fU T (B 3) (D .none) (D (.int 2))) 33 (am "lower") []) (B 6))) (cQ (bJ (lu I (B 1) [D (.int 0),B 7])) (M.ret S))) (aH [sAsg (eZ T [bd 5,bd 3]) (mTup [B 7,fU T (B 3) (D (.int 2)) (D .none)])]) (aH [])])
def rk(T:aT)(G:cI):M Fl:=(aH [sAsg (bd 11) (bk T G (D (.str [48,49,50,51,52,53,54,55,56,57,97,98,99,100,101,102,103,104,105,106,107,108,109,110,111,112,113,114,115,116,117,118,119,120,121,122])) 34 (am "find") [bk T G (B 10) 33 (am "lower") []]),eS (bJ (pp T .LtE .Lt (D (.int 0)) (B 11) (B 5))) (aH [sAsg (eZ T [bd 8,bd 9]) (mTup [bp .Add (bp .Mult (B 8) (B 5)) (B 11),D (.bool S)])]) (aH [eS (cQ (bJ (aW T .Eq (B 10) (D (.str [95])))) (cQ (bJ (B 9)) (M.ret S))) (aH [sAsg (bd 9) (D (.bool I))]) (aH [eS (bJ (B 2)) (aH [bR (D .none)]) (aH [Lm])])])])
def S4:Cd:=λT G=>[bR (fB (bJ (B 4)) (rh (B 8)) (B 8))]
def Q1:Cd:=λT G=>eS (cQ (bJ (B 2)) (cQ (vM (bJ (B 9))) (M.ret S))) (aH [bR (D .none)]) (aH [])::S4 T G
def Il:Cd:=λT G=>uT (bd 10) (iX T (B 3)) (rk T G)::Q1 T G
def OG:Cd:=λT G=>sAsg (eZ T [bd 8,bd 9]) (mTup [D (.int 0),D (.bool I)])::Il T G
def Tp:Cd:=λT G=>eS (bJ (aW T .Eq (B 5) (D (.int 0)))) (aH [sAsg (bd 5) (fB (cQ (bJ (aW T .Eq (fU T (B 3) (D .none) (D (.int 1))) (D (.str [48])))) (cQ (bJ (aW T .Gt (aN T G (.bi "len") [B 3] []) (D (.int 1)))) (M.ret S))) (D (.int 8)) (D (.int 10)))]) (aH [])::OG T G
def Qj:Cd:=λT G=>uT (eZ T [bd 6,bd 7]) (iX T (D (.sref 363))) (AM T G)::Tp T G
def QZ:Cd:=λT G=>sAsg (bd 5) (B 1)::Qj T G
def Ro:Cd:=λT G=>eS (bJ (lu I (fU T (B 3) (D .none) (D (.int 1))) [D (.str [43]),D (.str [45])])) (aH [sAsg (bd 3) (fU T (B 3) (D (.int 1)) (D .none))]) (aH [])::QZ T G
def QI:Cd:=λT G=>sAsg (bd 4) (aW T .Eq (fU T (B 3) (D .none) (D (.int 1))) (D (.str [45])))::Ro T G
def Ts:Cd:=λT G=>sAsg (bd 3) (fB (bJ (B 2)) (bk T G (B 0) 31 (am "strip") [(D (.str [32,9,10,11,12,13,0]))]) (bk T G (B 0) 32 (am "lstrip") [(D (.str [32,9,10,11,12,13,0]))]))::QI T G
def PT(T:aT)(G:cI):M Fl:=aH (Ts T G)
def E5:Cd:=λT G=>[bR (bk T G (B 0) 29 (am "fail") [(D (.str [65,114,103,117,109,101,110,116,69,114,114,111,114])),(zp [(D (.str [105,110,118,97,108,105,100,32,118,97,108,117,101,32,102,111,114,32,73,110,116,101,103,101,114,40,41,58,32])),aN T G (.sref 338) [B 1] []])])]
def Fg:Cd:=λT G=>eS (bJ (aW T .IsNot (B 2) (D .none))) (aH [bR (B 2)]) (aH [])::(E5 T G)
def E7:Cd:=λT G=>sAsg (bd 2) (aN T G (.sref 386) [bT T (B 1) 7,D (.int 0),D (.bool S)] [])::(Fg T G)
def Te:Cd:=λT G=>[bR (bk T G (B 0) 29 (am "fail") [(D (.str [84,121,112,101,69,114,114,111,114])),(zp [(D (.str [99,97,110,39,116,32,99,111,110,118,101,114,116,32])),(aN T G (.sref 345) [B 0,B 1] []),(D (.str [32,105,110,116,111,32,73,110,116,101,103,101,114]))])])]
def So:Cd:=λT G=>eS (bJ (jv (B 1) [.sref 62])) (aH (E7 T G)) (aH [])::Te T G
def QK:Cd:=λT G=>eS (bJ (aN T G (.sref 237) [B 1] [])) (aH [bR (B 1)]) (aH [])::So T G
def T5(T:aT)(G:cI):M Fl:=aH (QK T G)
def OR:Cd:=λT G=>[bR (fB (bJ (jv (B 0) [.ty "str"])) (B 0) (aN T G (.sref 338) [B 0] []))]
def Rd:Cd:=λT G=>eS (bJ (aW T .Is (B 0) (D .none))) (aH [bR (D (.str []))]) (aH [])::OR T G
def RS:Cd:=λT G=>eS (bJ (jv (B 0) [.sref 62])) (aH [bR (bT T (B 0) 7)]) (aH [])::Rd T G
def Wf(T:aT)(G:cI):M Fl:=aH (RS T G)
def Td:Cd:=λT G=>[sAsg (cf T (B 0) 37) (D .none)]
def Qy:Cd:=λT G=>sAsg (cf T (B 0) 36) (D (.int 0))::Td T G
def Rq:Cd:=λT G=>sAsg (cf T (B 0) 35) (D (.str []))::Qy T G
def VJ(T:aT)(G:cI):M Fl:=aH (Rq T G)
def O7:Cd:=λT G=>[bR (fB (bJ (aW T .In (D (.str [45])) (bT T (B 0) 35))) (bp .Add (B 1) (B 2)) (bp .Add (B 2) (B 1)))]
def PB:Cd:=λT G=>sAsg (bd 2) (bp .Mult (D (.str [32])) (bp .Sub (bT T (B 0) 36) (aN T G (.bi "len") [B 1] [])))::O7 T G
def VH(T:aT)(G:cI):M Fl:=aH (PB T G)
def Qm:Cd:=λT G=>[bR (bk T G (B 0) 38 (am "padded") [bp .Add (B 4) (fB (bJ (aW T .Eq (B 2) (D (.str [88])))) (bk T G (B 3) 39 (am "upper") []) (B 3))])]
def QS:Cd:=λT G=>eS (cQ (bJ (aW T .In (D (.str [48])) (bT T (B 0) 35))) (cQ (bJ (aW T .NotIn (D (.str [45])) (bT T (B 0) 35))) (cQ (bJ (aW T .Is (bT T (B 0) 37) (D .none))) (M.ret S)))) (aH [sAsg (bd 3) (bp .Add (bp .Mult (D (.str [48])) (bp .Sub (bp .Sub (bT T (B 0) 36) (aN T G (.bi "len") [B 4] [])) (aN T G (.bi "len") [B 3] []))) (B 3))]) (aH [])::Qm T G
def Pz:Cd:=λT G=>eS (cQ (bJ (aW T .In (D (.str [35])) (bT T (B 0) 35))) (cQ (bJ (aW T .In (B 2) (D (.str [120,88,98,66,111])))) (cQ (bJ (aW T .NotEq (B 1) (D (.int 0)))) (M.ret S)))) (aH [yM 4 .Add (fB (bJ (aW T .Eq (B 2) (D (.str [111])))) (D (.str [48])) (bp .Add (D (.str [48])) (B 2)))]) (aH [])::QS T G
def QC:Cd:=λT G=>sAsg (bd 4) (fB (bJ (aW T .Lt (B 1) (D (.int 0)))) (D (.str [45])) (fB (bJ (aW T .In (D (.str [43])) (bT T (B 0) 35))) (D (.str [43])) (fB (bJ (aW T .In (D (.str [32])) (bT T (B 0) 35))) (D (.str [32])) (D (.str [])))))::Pz T G
def SS:Cd:=λT G=>eS (bJ (aW T .IsNot (bT T (B 0) 37) (D .none))) (aH [sAsg (bd 3) (bp .Add (bp .Mult (D (.str [48])) (bp .Sub (bT T (B 0) 37) (aN T G (.bi "len") [B 3] []))) (B 3))]) (aH [])::QC T G
def SH:Cd:=λT G=>sAsg (bd 3) (aN T G (.sref 359) [aN T G (.bi "abs") [B 1] [],eB T (D (.sref 364)) (B 2)] [])::SS T G
def UJ(T:aT)(G:cI):M Fl:=aH (SH T G)
def Qr:Cd:=λT G=>[sAsg (cf T (B 0) 43) (D (.int 0))]
def Ox:Cd:=λT G=>sAsg (cf T (B 0) 42) (D (.int 0))::Qr T G
def OF:Cd:=λT G=>sAsg (cf T (B 0) 41) (B 3)::Ox T G
def RQ:Cd:=λT G=>sAsg (cf T (B 0) 7) (B 2)::OF T G
def Rt:Cd:=λT G=>sAsg (cf T (B 0) 40) (B 1)::RQ T G
def UR(T:aT)(G:cI):M Fl:=aH (Rt T G)
def QO:Cd:=λT G=>[bR (eB T (bT T (B 0) 41) (bp .Sub (bT T (B 0) 43) (D (.int 1))))]
def Tc:Cd:=λT G=>uG T (B 0) 43 .Add (D (.int 1))::QO T G
def PP:Cd:=λT G=>eS (bJ (aW T .GtE (bT T (B 0) 43) (aN T G (.bi "len") [bT T (B 0) 41] []))) (aH [bR (bk T G (bT T (B 0) 40) 29 (am "fail") [(D (.str [65,114,103,117,109,101,110,116,69,114,114,111,114])),(D (.str [116,111,111,32,102,101,119,32,97,114,103,117,109,101,110,116,115]))])]) (aH [])::Tc T G
def Uf(T:aT)(G:cI):M Fl:=aH (PP T G)
def Op:Cd:=λT G=>[bR (eB T (bT T (B 0) 7) (bp .Sub (bT T (B 0) 42) (D (.int 1))))]
def QN:Cd:=λT G=>uG T (B 0) 42 .Add (D (.int 1))::Op T G
def PC:Cd:=λT G=>eS (bJ (aW T .GtE (bT T (B 0) 42) (aN T G (.bi "len") [bT T (B 0) 7] []))) (aH [bR (bk T G (bT T (B 0) 40) 29 (am "fail") [(D (.str [65,114,103,117,109,101,110,116,69,114,114,111,114])),(D (.str [105,110,99,111,109,112,108,101,116,101,32,102,111,114,109,97,116,32,115,112,101,99,105,102,105,101,114,59,32,117,115,101,32,37,37,32,40,100,111,117,98,108,101,32,37,41,32,105,110,115,116,101,97,100]))])]) (aH [])::QN T G
def UV(T:aT)(G:cI):M Fl:=aH (PC T G)
def GU:Cd:=λT G=>[bR (mTup [B 2,bk T G (B 0) 45 (am "letter") []])]
def GX:Cd:=λT G=>eS (bJ (aW T .Gt (aN T G (.bi "abs") [B 2] []) (D (.int 20000)))) (aH [bR (bk T G (bT T (B 0) 40) 29 (am "fail") [(D (.str [65,114,103,117,109,101,110,116,69,114,114,111,114])),(D (.str [119,105,100,116,104,32,116,111,111,32,98,105,103]))])]) (aH [])::(GU T G)
def Hq:Cd:=λT G=>sAsg (bd 2) (aN T G (.sref 352) [bT T (B 0) 40,bk T G (B 0) 44 (am "value") []] [])::(GX T G)
def GD:Cd:=λT G=>[sAsg (bd 3) (bk T G (B 0) 45 (am "letter") [])]
def Jg:Cd:=λT G=>eS (bJ (aW T .Gt (B 2) (D (.int 20000)))) (aH [bR (bk T G (bT T (B 0) 40) 29 (am "fail") [(D (.str [65,114,103,117,109,101,110,116,69,114,114,111,114])),(D (.str [119,105,100,116,104,32,116,111,111,32,98,105,103]))])]) (aH [])::(GD T G)
def Iv:Cd:=λT G=>sAsg (bd 2) (bp .Add (bp .Mult (B 2) (D (.int 10))) (aN T G (.ty "int") [B 3] []))::(Jg T G)
def F9(T:aT)(G:cI):M Bool:=(bJ (aW T .In (B 3) (D (.str [48,49,50,51,52,53,54,55,56,57]))))
def xx(T:aT)(G:cI):M Fl:=(aH (Iv T G))
def Ie:Cd:=λT G=>[bR (mTup [B 2,B 3])]
def Hl:Cd:=λT G=>jA (F9 T G) (xx T G)::Ie T G
def Sr:Cd:=λT G=>sAsg (eZ T [bd 2,bd 3]) (mTup [D (.int 0),B 1])::Hl T G
def Og:Cd:=λT G=>eS (bJ (aW T .Eq (B 1) (D (.str [42])))) (aH (Hq T G)) (aH [])::Sr T G
def Rl(T:aT)(G:cI):M Fl:=aH (Og T G)
def Sf:Cd:=λT G=>[bR (fB (bJ (pp T .LtE .Lt (D (.int 0)) (B 1) (D (.int 1114112)))) (aN T G (.bi "chr") [B 1] []) (bk T G (bT T (B 0) 40) 29 (am "fail") [(D (.str [65,114,103,117,109,101,110,116,69,114,114,111,114])),(D (.str [105,110,118,97,108,105,100,32,99,104,97,114,97,99,116,101,114]))]))]
def Sq:Cd:=λT G=>eS (vM (bJ (aN T G (.sref 237) [B 1] []))) (aH [bR (fU T (aN T G (.sref 371) [bT T (B 0) 40,B 1] []) (D .none) (D (.int 1)))]) (aH [])::Sf T G
def VZ(T:aT)(G:cI):M Fl:=aH (Sq T G)
def GW(T:aT)(G:cI):M Bool:=(bJ (aW T .In (B 2) (D (.str [45,43,32,48,35]))))
def xY(T:aT)(G:cI):M Fl:=(aH [uG T (B 1) 35 .Add (B 2),sAsg (bd 2) (bk T G (B 0) 45 (am "letter") [])])
def Do:Cd:=λT G=>[bR (bk T G (B 1) 38 (am "padded") [fB (bJ (aW T .Is (bT T (B 1) 37) (D .none))) (B 4) (fU T (B 4) (D .none) (bT T (B 1) 37))])]
def Qh:Cd:=λT G=>sAsg (bd 4) (fB (bJ (aW T .Eq (B 2) (D (.str [115])))) (aN T G (.sref 400) [bk T G (B 0) 44 (am "value") []] []) (aN T G (.sref 338) [bk T G (B 0) 44 (am "value") []] []))::Do T G
def OT:Cd:=λT G=>eS (bJ (aW T .NotIn (B 2) (D (.str [115,112])))) (aH [bR (bk T G (bT T (B 0) 40) 29 (am "fail") [(D (.str [65,114,103,117,109,101,110,116,69,114,114,111,114])),(zp [(D (.str [109,97,108,102,111,114,109,101,100,32,102,111,114,109,97,116,32,115,116,114,105,110,103,32,45,32,37])),B 2])])]) (aH [])::Qh T G
def P5:Cd:=λT G=>eS (bJ (aW T .Eq (B 2) (D (.str [99])))) (aH [bR (bk T G (B 1) 38 (am "padded") [bk T G (B 0) 47 (am "sign") [bk T G (B 0) 44 (am "value") []]])]) (aH [])::OT T G
def PY:Cd:=λT G=>eS (bJ (aW T .In (B 2) (D (.sref 364)))) (aH [bR (bk T G (B 1) 1 (am "number") [(aN T G (.sref 393) [bT T (B 0) 40,bk T G (B 0) 44 (am "value") []] []),B 2])]) (aH [])::P5 T G
def ki:Cd:=λT G=>eS (bJ (aW T .In (B 2) (D (.str [37,10,0])))) (aH [bR (fB (bJ (aW T .Eq (B 2) (D (.str [37])))) (D (.str [37])) (bp .Add (D (.str [37])) (B 2)))]) (aH [])::PY T G
def pE:Cd:=λT G=>eS (bJ (aW T .Eq (B 2) (D (.str [46])))) (aH [sAsg (eZ T [bd 3,bd 2]) (bk T G (B 0) 46 (am "count") [bk T G (B 0) 45 (am "letter") []]),sAsg (cf T (B 1) 37) (fB (bJ (aW T .Lt (B 3) (D (.int 0)))) (D .none) (B 3))]) (aH [])::ki T G
def BJ:Cd:=λT G=>eS (bJ (aW T .Lt (bT T (B 1) 36) (D (.int 0)))) (aH [sAsg (eZ T [cf T (B 1) 35,cf T (B 1) 36]) (mTup [bp .Add (bT T (B 1) 35) (D (.str [45])),rh (bT T (B 1) 36)])]) (aH [])::pE T G
def uL:Cd:=λT G=>sAsg (eZ T [cf T (B 1) 36,bd 2]) (bk T G (B 0) 46 (am "count") [B 2])::BJ T G
def At:Cd:=λT G=>jA (GW T G) (xY T G)::uL T G
def Qk:Cd:=λT G=>sAsg (eZ T [bd 1,bd 2]) (mTup [aN T G (.sref 431) [] [],bk T G (B 0) 45 (am "letter") []])::At T G
def sP(T:aT)(G:cI):M Fl:=aH (Qk T G)
def AP(T:aT)(G:cI):M Bool:=(bJ (aW T .Lt (bT T (B 0) 42) (aN T G (.bi "len") [bT T (B 0) 7] [])))
def rn(T:aT)(G:cI):M Fl:=(aH [sAsg (bd 2) (bk T G (B 0) 45 (am "letter") []),iV (bk T G (B 1) 30 (am "append") [fB (bJ (aW T .Eq (B 2) (D (.str [37])))) (bk T G (B 0) 48 (am "piece") []) (B 2)])])
def Rp:Cd:=λT G=>[bR (aN T G (.sref 378) [bT T (B 0) 40,bk T G (D (.str [])) 24 (am "join") [B 1]] [])]
def Sc:Cd:=λT G=>jA (AP T G) (rn T G)::Rp T G
def Sl:Cd:=λT G=>sAsg (bd 1) (dm [])::Sc T G
def Vt(T:aT)(G:cI):M Fl:=aH (Sl T G)
def Ra:Cd:=λT G=>[bR (bk T G (aN T G (.sref 494) [B 0,B 1,B 2] []) 49 (am "whole") [])]
def WG(T:aT)(G:cI):M Fl:=aH (Ra T G)
def TA:Cd:=λT G=>[sAsg (cf T (B 0) 50) (B 1)]
def OS:Cd:=λT G=>iV (bk T G (D (.ty "ValueError")) 0 (am "__init__") [B 0,B 1])::TA T G
def Vs(T:aT)(G:cI):M Fl:=aH (OS T G)
def QX:Cd:=λT G=>[sAsg (cf T (B 0) 51) (B 1)]
def R5:Cd:=λT G=>iV (bk T G (D (.sref 523)) 0 (am "__init__") [B 0,(D (.str [97,32,82,117,98,121,32,101,114,114,111,114]))])::QX T G
def VS(T:aT)(G:cI):M Fl:=aH (R5 T G)
def GQ(T:aT)(G:cI):M Fl:=(aH [iV (bk T G (B 0) 67 (am "give_own") [B 5])])
def KW:Cd:=λT G=>[uT (bd 5) (iX T (aN T G (.ty "list") [bT T (B 0) 59] [])) (GQ T G)]
def MY:Cd:=λT G=>sAsg (cf T (B 0) 64) (D (.bool S))::KW T G
def MN:Cd:=λT G=>sAsg (cf T (B 0) 65) (aN T G (.sref 40) [bk T G (B 0) 1 (am "number") [],(bk T G (B 0) 66 (am "builtin") [(D (.str [79,98,106,101,99,116]))])] [])::MY T G
def Lp:Cd:=λT G=>sAsg (cf T (B 0) 64) (D (.bool I))::MN T G
def Ma:Cd:=λT G=>sAsg (cf T (B 0) 63) (dm [])::Lp T G
def KX:Cd:=λT G=>sAsg (cf T (B 0) 62) jx::Ma T G
def LX:Cd:=λT G=>sAsg (cf T (B 0) 61) (D (.int 0))::KX T G
def Qv:Cd:=λT G=>sAsg (cf T (B 0) 60) (D (.int 0))::LX T G
def OK:Cd:=λT G=>sAsg (cf T (B 0) 59) jx::Qv T G
def SL:Cd:=λT G=>sAsg (cf T (B 0) 58) jx::OK T G
def QV:Cd:=λT G=>sAsg (cf T (B 0) 57) (D (.int 8))::SL T G
def Pv:Cd:=λT G=>sAsg (cf T (B 0) 56) (D (.int 0))::QV T G
def On:Cd:=λT G=>sAsg (cf T (B 0) 55) (D (.int 0))::Pv T G
def Ql:Cd:=λT G=>sAsg (cf T (B 0) 37) (B 4)::On T G
def Sz:Cd:=λT G=>sAsg (cf T (B 0) 54) (B 3)::Ql T G
def OL:Cd:=λT G=>sAsg (cf T (B 0) 53) (fB (bJ (aW T .Is (B 2) (D .none))) jx (B 2))::Sz T G
def RT:Cd:=λT G=>sAsg (cf T (B 0) 52) (B 1)::OL T G
def UG(T:aT)(G:cI):M Fl:=aH (RT T G)
def R6:Cd:=λT G=>[bR (bT T (B 0) 56)]
def PV:Cd:=λT G=>uG T (B 0) 56 .Add (D (.int 1))::R6 T G
def TS(T:aT)(G:cI):M Fl:=aH (PV T G)
def O6:Cd:=λT G=>[bR (fB (bJ (aW T .Is (B 2) (D .none))) (bk T G (B 0) 69 (am "make_builtin") [B 1]) (B 2))]
def Oy:Cd:=λT G=>sAsg (bd 2) (bk T G (bT T (B 0) 59) 68 (am "get") [B 1])::O6 T G
def WU(T:aT)(G:cI):M Fl:=aH (Oy T G)
def RY:Cd:=λT G=>[bR (B 3)]
def RD:Cd:=λT G=>eS (bJ (bT T (B 0) 64)) (aH [iV (bk T G (B 0) 67 (am "give_own") [B 1])]) (aH [])::RY T G
def OA:Cd:=λT G=>sAsg (cf T (B 3) 17) (kN (bk T G (B 0) 66 (am "builtin") [B 5]) 5 (iX T (bk T G (D (.sref 564)) 68 (am "get") [B 1,mTup []])) .none)::RD T G
def SX:Cd:=λT G=>sAsg (cf T (B 3) 2) (bk T G (B 0) 66 (am "builtin") [(fB (bJ (B 2)) (D (.str [67,108,97,115,115])) (D (.str [77,111,100,117,108,101])))])::OA T G
def P7:Cd:=λT G=>sAsg (cf T (B 3) 13) (fB (bJ (aW T .Is (B 4) (D .none))) (D .none) (bk T G (B 0) 66 (am "builtin") [B 4]))::SX T G
def Oq:Cd:=λT G=>sAsg (bd 4) (eB T (D (.sref 561)) (B 1))::P7 T G
def RG:Cd:=λT G=>sAsg (cf T (B 3) 20) (B 1)::Oq T G
def O1:Cd:=λT G=>sAsg (Aq (bT T (B 0) 59) (B 1)) (B 3)::RG T G
def SY:Cd:=λT G=>sAsg (bd 3) (aN T G (.sref 228) [bk T G (B 0) 1 (am "number") [],D .none,B 1,B 2] [])::O1 T G
def Pk:Cd:=λT G=>sAsg (bd 2) (aW T .NotIn (B 1) (D (.sref 560)))::SY T G
def Ou(T:aT)(G:cI):M Fl:=aH (Pk T G)
def Ot:Cd:=λT G=>[eS (pj (bJ (aW T .In (bp .Add (B 1) (D (.str [46]))) (bT T (B 0) 52))) (pj (bJ (aW T .In (bp .Add (B 1) (D (.str [46]))) (bT T (B 0) 53))) (M.ret I))) (aH [iV (aN T G (.sref 559) [B 0,eB T (bT T (B 0) 59) (B 1)] [])]) (aH [])]
def VA(T:aT)(G:cI):M Fl:=aH (Ot T G)
def Ol:Cd:=λT G=>[bR (aN T G (.sref 62) [bk T G (B 0) 1 (am "number") [],(bk T G (B 0) 66 (am "builtin") [(D (.str [83,116,114,105,110,103]))]),B 1] [])]
def UY(T:aT)(G:cI):M Fl:=aH (Ol T G)
def PF:Cd:=λT G=>[bR (aN T G (.sref 82) [bk T G (B 0) 1 (am "number") [],(bk T G (B 0) 66 (am "builtin") [(D (.str [65,114,114,97,121]))]),aN T G (.ty "list") [B 1] []] [])]
def TX(T:aT)(G:cI):M Fl:=aH (PF T G)
def Qa:Cd:=λT G=>[bR (aN T G (.sref 181) [bk T G (B 0) 1 (am "number") [],bk T G (B 0) 66 (am "builtin") [B 1],bk T G (B 0) 7 (am "text") [B 2]] [])]
def TT(T:aT)(G:cI):M Fl:=aH (Qa T G)
def SO:Cd:=λT G=>[w3 T (aN T G (.sref 543) [(bk T G (B 0) 70 (am "error") [B 1,B 2])] [])]
def Wy(T:aT)(G:cI):M Fl:=aH (SO T G)
def AY(T:aT)(G:cI):M Fl:=(aH [sAsg (eZ T [bd 1,bd 3]) (mTup [bp .Mod (bp .Add (bp .Add (bp .Mult (B 1) (D (.int 48271))) (bp .Mult (B 4) (D (.int 69621)))) (D (.int 41))) (D (.int 2147483629)),Ap (B 3) (aW T .Eq (B 4) (D (.int 0)))]),eS (cQ (bJ (aW T .Eq (B 2) (D (.int 0)))) (cQ (bJ (aW T .GtE (aN T G (.bi "abs") [B 4] []) (bp .Pow (D (.int 10)) (D (.int 18))))) (M.ret S))) (aH [sAsg (bd 2) (aN T G (.bi "abs") [B 4] [])]) (aH [])])
def Po:Cd:=λT G=>[bR (dm [B 2,B 1,D (.int 0),B 3])]
def O9:Cd:=λT G=>uT (bd 4) (iX T (fU T (B 0) (D .none) (D (.int 24)))) (AY T G)::Po T G
def S0:Cd:=λT G=>sAsg (eZ T [bd 1,bd 2,bd 3]) (mTup [D (.int 47),D (.int 0),D (.bool S)])::O9 T G
def Va(T:aT)(G:cI):M Fl:=aH (S0 T G)
def Hz:Cd:=λT G=>[bR (B 2)]
def Ha:Cd:=λT G=>sAsg (Aq (B 0) (D (.int 0))) (bp .FloorDiv (eB T (B 0) (D (.int 0))) (B 1))::(Hz T G)
def HQ:Cd:=λT G=>sAsg (bd 2) (bp .Mod (eB T (B 0) (D (.int 0))) (B 1))::(Ha T G)
def SE:Cd:=λT G=>[bR (bp .Mod (bp .FloorDiv (bp .Mod (bp .Pow (bp .Add (bp .Mult (B 3) (D (.int 48271))) (bp .Mult (D (.int 7879)) (eB T (B 0) (D (.int 2))))) (D (.int 3))) (D (.int 2147483587))) (D (.int 64))) (B 1))]
def OE:Cd:=λT G=>sAsg (bd 3) (bp .Mod (bp .Pow (bp .Add (bp .Add (eB T (B 0) (D (.int 1))) (bp .Mult (D (.int 15485849)) (eB T (B 0) (D (.int 2))))) (D (.int 43))) (D (.int 5))) (D (.int 2147483647)))::SE T G
def Qs:Cd:=λT G=>sAsg (Aq (B 0) (D (.int 2))) (bp .Add (eB T (B 0) (D (.int 2))) (D (.int 1)))::OE T G
def Qb:Cd:=λT G=>eS (bJ (aW T .Gt (eB T (B 0) (D (.int 0))) (D (.int 0)))) (aH (HQ T G)) (aH [])::Qs T G
def Wv(T:aT)(G:cI):M Fl:=aH (Qb T G)
def BY(T:aT)(G:cI):M Bool:=(bJ (aW T .LtE (bp .Mult (B 2) (B 1)) (B 0)))
def IF(T:aT)(G:cI):M Fl:=(aH [sAsg (bd 2) (bp .Mult (B 2) (B 1))])
def Be(T:aT)(G:cI):M Bool:=(bJ (aW T .Gt (B 2) (D (.int 0))))
def Bc(T:aT)(G:cI):M Fl:=(aH [sAsg (bd 3) (bp .Add (B 3) (eB T (D (.str [48,49,50,51,52,53,54,55,56,57,97,98,99,100,101,102,103,104,105,106,107,108,109,110,111,112,113,114,115,116,117,118,119,120,121,122])) (bp .Mod (bp .FloorDiv (B 0) (B 2)) (B 1)))),sAsg (bd 2) (bp .FloorDiv (B 2) (B 1))])
def Si:Cd:=λT G=>[bR (B 3)]
def QW:Cd:=λT G=>jA (Be T G) (Bc T G)::Si T G
def PJ:Cd:=λT G=>jA (BY T G) (IF T G)::QW T G
def Ov:Cd:=λT G=>sAsg (eZ T [bd 2,bd 3]) (mTup [D (.int 1),D (.str [])])::PJ T G
def Ub(T:aT)(G:cI):M Fl:=aH (Ov T G)
def JI(T:aT)(G:cI):M Bool:=(bJ (aW T .Lt (aN T G (.bi "len") [B 0] []) (B 1)))
def HW(T:aT)(G:cI):M Fl:=(aH [sAsg (bd 0) (fB (bJ (aW T .In (D (.str [45])) (B 2))) (bp .Add (B 0) (D (.str [32]))) (bp .Add (D (.str [32])) (B 0)))])
def Q6:Cd:=λT G=>[bR (B 0)]
def Rg:Cd:=λT G=>jA (JI T G) (HW T G)::Q6 T G
def Wc(T:aT)(G:cI):M Fl:=aH (Rg T G)
def Hb(T:aT)(G:cI):M Bool:=(cQ (bJ (aW T .IsNot (B 4) (D .none))) (cQ (bJ (aW T .Lt (aN T G (.bi "len") [B 6] []) (B 4))) (M.ret S)))
def Gn(T:aT)(G:cI):M Fl:=(aH [sAsg (bd 6) (bp .Add (D (.str [48])) (B 6))])
def HX(T:aT)(G:cI):M Bool:=(cQ (bJ (aW T .In (D (.str [48])) (B 2))) (cQ (bJ (aW T .NotIn (D (.str [45])) (B 2))) (cQ (bJ (aW T .Is (B 4) (D .none))) (cQ (bJ (aW T .Lt (aN T G (.bi "len") [bp .Add (B 7) (B 6)] []) (B 3))) (M.ret S)))))
def To(T:aT)(G:cI):M Fl:=(aH [sAsg (bd 6) (bp .Add (D (.str [48])) (B 6))])
def OU:Cd:=λT G=>[bR (aN T G (.sref 859) [bp .Add (B 7) (B 6),B 3,B 2] [])]
def JH:Cd:=λT G=>jA (HX T G) (To T G)::OU T G
def S6:Cd:=λT G=>eS (cQ (bJ (aW T .In (D (.str [35])) (B 2))) (cQ (bJ (aW T .NotEq (B 0) (D (.int 0)))) (M.ret S))) (aH [sAsg (bd 7) (bp .Add (B 7) (qA [((.str [120]),(.str [48,120])),((.str [88]),(.str [48,88])),((.str [111]),(.str [48])),((.str [98]),(.str [48,98])),((.str [66]),(.str [48,66]))] (B 1) (D (.str []))))]) (aH [])::JH T G
def Rm:Cd:=λT G=>sAsg (bd 7) (fB (bJ (aW T .Lt (B 0) (D (.int 0)))) (D (.str [45])) (fB (bJ (aW T .In (D (.str [43])) (B 2))) (D (.str [43])) (fB (bJ (aW T .In (D (.str [32])) (B 2))) (D (.str [32])) (D (.str [])))))::S6 T G
def RN:Cd:=λT G=>jA (Hb T G) (Gn T G)::Rm T G
def Qi:Cd:=λT G=>sAsg (bd 6) (fB (bJ (aW T .Eq (B 1) (D (.str [88])))) (bk T G (B 6) 39 (am "upper") []) (B 6))::RN T G
def RJ:Cd:=λT G=>sAsg (bd 6) (aN T G (.sref 852) [aN T G (.bi "abs") [B 0] [],B 5] [])::Qi T G
def Rz:Cd:=λT G=>sAsg (bd 5) (qA [((.str [120]),(.int 16)),((.str [88]),(.int 16)),((.str [111]),(.int 8)),((.str [98]),(.int 2)),((.str [66]),(.int 2))] (B 1) (D (.int 10)))::RJ T G
def Wp(T:aT)(G:cI):M Fl:=aH (Rz T G)
def Fo:Cd:=λT G=>[bR (mTup [(bk T G (B 1) 7 (am "text") [(bp .Add (bp .Add (fB (bJ (aW T .Lt (B 3) (D (.int 0)))) (D (.str [32,45])) (D (.str []))) (B 4)) (aN T G (.sref 852) [aN T G (.bi "abs") [B 3] [],B 5] []))]),B 3])]
def JP:Cd:=λT G=>sAsg (eZ T [bd 4,bd 5]) (eB T (dm [(mTup [D (.str []),D (.int 10)]),(mTup [(D (.str [48,120])),D (.int 16)]),(mTup [(D (.str [48,98])),D (.int 2)]),(mTup [(D (.str [48,111])),D (.int 8)])]) (aN T G (.sref 845) [B 0,D (.int 4)] []))::(Fo T G)
def FE:Cd:=λT G=>eS (bJ (aW T .Gt (aN T G (.sref 845) [B 0,D (.int 4)] []) (D (.int 0)))) (aH [bR (mTup [B 3,B 3])]) (aH [])::(JP T G)
def zG:Cd:=λT G=>sAsg (bd 3) (bp .Sub (aN T G (.sref 845) [B 0,D (.int 601)] []) (D (.int 300)))::(FE T G)
def Sx:Cd:=λT G=>[bR (mTup [B 7,fB (bJ (aW T .Eq (B 2) (D (.str [115])))) (B 8) (B 9)])]
def Rr:Cd:=λT G=>sAsg (eZ T [bd 7,bd 8,bd 9]) (eB T (B 6) (aN T G (.sref 845) [B 0,D (.int 6)] []))::Sx T G
def OQ:Cd:=λT G=>sAsg (bd 6) (bp .Add (B 6) (dm [(mTup [D (.bool S),(D (.str [116,114,117,101])),(D (.str [116,114,117,101]))]),(mTup [(bk T G (B 1) 71 (am "list_of") [(dm [D (.int 1),bk T G (B 1) 7 (am "text") [D (.str [113])]])]),(D (.str [91,49,44,32,34,113,34,93])),(D (.str [91,49,44,32,34,113,34,93]))])]))::Rr T G
def Sp:Cd:=λT G=>sAsg (bd 6) (dm [(mTup [(bk T G (B 1) 7 (am "text") [(D (.str [97,98,32,99]))]),(D (.str [97,98,32,99])),(D (.str [34,97,98,32,99,34]))]),(mTup [rh (D (.int 12)),(D (.str [45,49,50])),(D (.str [45,49,50]))]),(mTup [(D (.str [115,121,109])),(D (.str [115,121,109])),(D (.str [58,115,121,109]))]),(mTup [D .none,D (.str []),(D (.str [110,105,108]))])])::OQ T G
def OZ:Cd:=λT G=>eS (bJ (aW T .Eq (B 2) (D (.str [99])))) (aH [bR (fB (bJ (aW T .Eq (aN T G (.sref 845) [B 0,D (.int 2)] []) (D (.int 0)))) (eB T (kN (mTup [bp .Add (D (.int 97)) (B 10),aN T G (.bi "chr") [bp .Add (D (.int 97)) (B 10)] []]) 10 (iX T (dm [(aN T G (.sref 845) [B 0,D (.int 26)] [])])) .none) (D (.int 0))) (mTup [(bk T G (B 1) 7 (am "text") [(D (.str [122,101,100]))]),D (.str [122])]))]) (aH [])::Sp T G
def Rc:Cd:=λT G=>eS (bJ (aW T .In (B 2) (D (.str [100,105,117,120,88,111,98,66])))) (aH (zG T G)) (aH [])::OZ T G
def Xa(T:aT)(G:cI):M Fl:=aH (Rc T G)
def yQ:Cd:=λT G=>[eS (bJ (aW T .Eq (aN T G (.sref 845) [B 0,D (.int 4)] []) (D (.int 0)))) (aH [sAsg (bd 6) (bp .Sub (B 6) (D (.int 5))),sAsg (eZ T [bd 4,bd 5]) (mTup [dm [B 6],D (.str [42])])]) (aH [])]
def IV:Cd:=λT G=>sAsg (bd 5) (aN T G (.ty "str") [B 6] [])::(yQ T G)
def ue:Cd:=λT G=>sAsg (eZ T [bd 6,bd 5]) (mTup [(bp .Add (D (.int 1)) (aN T G (.sref 845) [B 0,D (.int 9)] [])),D (.str [])])::(IV T G)
def zo:Cd:=λT G=>[eS (bJ (aW T .Eq (aN T G (.sref 845) [B 0,D (.int 4)] []) (D (.int 0)))) (aH [sAsg (bd 9) (eB T (dm [B 7,bp .Sub (B 7) (D (.int 5))]) (aN T G (.sref 845) [B 0,D (.int 2)] [])),sAsg (eZ T [bd 4,bd 8,bd 7]) (mTup [bp .Add (B 4) (dm [B 9]),(D (.str [46,42])),fB (bJ (aW T .GtE (B 9) (D (.int 0)))) (B 9) (D .none)])]) (aH [])]
def F8:Cd:=λT G=>sAsg (bd 8) (bp .Add (D (.str [46])) (aN T G (.ty "str") [B 7] []))::(zo T G)
def ug:Cd:=λT G=>sAsg (bd 7) (aN T G (.sref 845) [B 0,D (.int 5)] [])::(F8 T G)
def CG:Cd:=λT G=>[bR (mTup [B 10,bp .Add (B 4) (dm [B 11]),(aN T G (.sref 859) [B 12,B 6,B 2] [])])]
def KS:Cd:=λT G=>eS (cQ (bJ (aW T .In (B 3) (D (.str [115,112])))) (cQ (bJ (aW T .IsNot (B 7) (D .none))) (M.ret S))) (aH [sAsg (bd 12) (fU T (B 12) (D .none) (B 7))]) (aH [])::CG T G
def qc:Cd:=λT G=>eS (bJ (aW T .In (B 3) (D (.str [100,105,117,120,88,111,98,66])))) (aH [bR (mTup [B 10,bp .Add (B 4) (dm [B 11]),(aN T G (.sref 866) [B 12,B 3,B 2,B 6,B 7] [])])]) (aH [])::KS T G
def S9:Cd:=λT G=>sAsg (eZ T [bd 11,bd 12]) (aN T G (.sref 871) [B 0,B 1,B 3] [])::qc T G
def BX:Cd:=λT G=>eS (bJ (aW T .Eq (B 3) (D (.str [37])))) (aH [bR (mTup [B 10,B 4,D (.str [37])])]) (aH [])::S9 T G
def QU:Cd:=λT G=>sAsg (eZ T [bd 2,bd 6]) (fB (bJ (aW T .Lt (B 6) (D (.int 0)))) (mTup [bp .Add (B 2) (D (.str [45])),bp .Sub (D (.int 0)) (B 6)]) (mTup [B 2,B 6]))::BX T G
def xC:Cd:=λT G=>sAsg (bd 10) (bp .Add (bp .Add (bp .Add (bp .Add (D (.str [37])) (B 2)) (B 5)) (B 8)) (B 3))::QU T G
def Pe:Cd:=λT G=>eS (bJ (aW T .Eq (aN T G (.sref 845) [B 0,D (.int 3)] []) (D (.int 0)))) (aH (ug T G)) (aH [])::xC T G
def ux:Cd:=λT G=>sAsg (eZ T [bd 7,bd 8]) (mTup [D .none,D (.str [])])::Pe T G
def xB:Cd:=λT G=>eS (bJ (aW T .Eq (aN T G (.sref 845) [B 0,D (.int 2)] []) (D (.int 0)))) (aH (ue T G)) (aH [])::ux T G
def Rs:Cd:=λT G=>sAsg (eZ T [bd 4,bd 5,bd 6]) (mTup [dm [],D (.str []),D (.int 0)])::xB T G
def Sy:Cd:=λT G=>sAsg (bd 3) (eB T (D (.str [100,105,117,120,88,111,98,66,115,112,99,37])) (aN T G (.sref 845) [B 0,D (.int 12)] []))::Rs T G
def QQ:Cd:=λT G=>sAsg (bd 2) (bk T G (D (.str [])) 24 (am "join") [(kN (B 13) 13 (iX T (D (.str [45,43,32,48,35]))) (Y (bJ (aW T .Eq (aN T G (.sref 845) [B 0,D (.int 3)] []) (D (.int 0))))))])::Sy T G
def Mg(T:aT)(G:cI):M Fl:=aH (QQ T G)
def Pj:Cd:=λT G=>[yh (aH [bR (aN T G (.sref 505) [B 0,B 1,B 2] [])]) 543 3 (aH [bR (dm [aN T G (.sref 285) [bT T (bT T (B 3) 51) 2] []])])]
def WH(T:aT)(G:cI):M Fl:=aH (Pj T G)
def HY:Cd:=λT G=>[sAsg (eZ T [bd 2,bd 3,bd 4]) (mTup [bp .Add (bp .Add (B 2) (B 6)) (B 7),bp .Add (B 3) (B 8),(bp .Add (bp .Add (B 4) (fB (bJ (aW T .Eq (B 6) (D (.str [37,37])))) (D (.str [37])) (B 6))) (B 9))])]
def JL:Cd:=λT G=>sAsg (eZ T [bd 7,bd 8,bd 9]) (aN T G (.sref 876) [B 0,B 1] [])::(HY T G)
def I7:Cd:=λT G=>sAsg (bd 6) (eB T (dm [D (.str []),D (.str [97]),(D (.str [120,32,61,32])),(D (.str [37,37])),(D (.str [37,10]))]) (aN T G (.sref 845) [B 0,D (.int 5)] []))::(JL T G)
def BO(T:aT)(G:cI):M Fl:=(aH (I7 T G))
def GJ:Cd:=λT G=>[bR (VW (aW T .Eq (B 3) (dm [])) (aW T .Eq (aN T G (.sref 883) [B 1,B 2,fU T (B 3) (D .none) (rh (D (.int 1)))] []) (dm [(D (.str [65,114,103,117,109,101,110,116,69,114,114,111,114]))])))]
def Ce:Cd:=λT G=>eS (pj (bJ (aW T .NotEq (aN T G (.sref 883) [B 1,B 2,B 3] []) (B 4))) (pj (bJ (aW T .NotEq (aN T G (.sref 883) [B 1,bp .Add (B 2) (D (.str [33])),bp .Add (B 3) (dm [D (.int 7)])] []) (bp .Add (B 4) (D (.str [33]))))) (M.ret I))) (aH [bR (D (.bool I))]) (aH [])::GJ T G
def Pd:Cd:=λT G=>uT (bd 5) (nP (fB (bJ (eB T (B 0) (D (.int 3)))) (D (.int 2)) (bp .Add (D (.int 1)) (aN T G (.sref 845) [B 0,D (.int 4)] [])))) (BO T G)::Ce T G
def QG:Cd:=λT G=>sAsg (eZ T [bd 2,bd 3,bd 4]) (mTup [D (.str []),dm [],D (.str [])])::Pd T G
def WX(T:aT)(G:cI):M Fl:=aH (QG T G)
def Qo:Cd:=λT G=>[bR (aW T .Eq (aN T G (.sref 883) [B 1,B 3,B 4] []) (dm [B 5]))]
def QA:Cd:=λT G=>sAsg (eZ T [bd 3,bd 4,bd 5]) (eB T (B 2) (aN T G (.sref 845) [B 0,D (.int 14)] []))::Qo T G
def Tu:Cd:=λT G=>sAsg (bd 2) (bp .Add (B 2) (dm [(mTup [(D (.str [37,99])),dm [D .none],(D (.str [84,121,112,101,69,114,114,111,114]))]),(mTup [(D (.str [37,50,48,48,48,49,100])),dm [D (.int 1)],(D (.str [65,114,103,117,109,101,110,116,69,114,114,111,114]))]),(mTup [(D (.str [37,42,100])),(dm [D .none,D (.int 1)]),(D (.str [84,121,112,101,69,114,114,111,114]))]),(mTup [(D (.str [37,46,50,48,48,48,49,100])),dm [D (.int 1)],(D (.str [65,114,103,117,109,101,110,116,69,114,114,111,114]))])]))::QA T G
def Qd:Cd:=λT G=>sAsg (bd 2) (bp .Add (B 2) (dm [(mTup [(D (.str [37,99])),dm [rh (D (.int 1))],(D (.str [65,114,103,117,109,101,110,116,69,114,114,111,114]))]),(mTup [(D (.str [37,42,100])),(dm [D (.int 30000),D (.int 1)]),(D (.str [65,114,103,117,109,101,110,116,69,114,114,111,114]))])]))::Tu T G
def Qf:Cd:=λT G=>sAsg (bd 2) (bp .Add (B 2) (dm [(mTup [(D (.str [37,100])),dm [D .none],(D (.str [84,121,112,101,69,114,114,111,114]))]),(mTup [(D (.str [37,100])),(dm [(bk T G (B 1) 7 (am "text") [(D (.str [120,49]))])]),(D (.str [65,114,103,117,109,101,110,116,69,114,114,111,114]))]),(mTup [(D (.str [37,120])),dm [D (.bool S)],(D (.str [84,121,112,101,69,114,114,111,114]))]),(mTup [(D (.str [37,100])),dm [D (.str [115])],(D (.str [84,121,112,101,69,114,114,111,114]))])]))::Qd T G
def Ss:Cd:=λT G=>sAsg (bd 2) (dm [(mTup [(D (.str [37,121])),dm [D (.int 1)],(D (.str [65,114,103,117,109,101,110,116,69,114,114,111,114]))]),(mTup [D (.str [37]),dm [D (.int 1)],(D (.str [65,114,103,117,109,101,110,116,69,114,114,111,114]))]),(mTup [(D (.str [97,37,53])),dm [D (.int 1)],(D (.str [65,114,103,117,109,101,110,116,69,114,114,111,114]))]),(mTup [(D (.str [37,45,48])),dm [],(D (.str [65,114,103,117,109,101,110,116,69,114,114,111,114]))])])::Qf T G
def WY(T:aT)(G:cI):M Fl:=aH (Ss T G)
def Mo:Cd:=λT G=>[bR (aW T .Is (aN T G (.sref 386) [B 9,fB (pj (bJ (aW T .NotEq (fU T (B 9) (D .none) (D (.int 1))) (D (.str [48])))) (pj (bJ (aW T .Eq (B 9) (bp .Add (B 4) (D (.str [95]))))) (M.ret I))) (D (.int 10)) (D (.int 0)),D (.bool S)] []) (D .none))]
def w9:Cd:=λT G=>sAsg (bd 9) (eB T (dm [bp .Add (B 4) (D (.str [95])),bp .Add (D (.str [95])) (B 4),(bp .Add (D (.str [49,95,95])) (B 4)),(bp .Add (B 4) (D (.str [32,49]))),bp .Add (B 4) (D (.str [45])),D (.str []),D (.str [45]),D (.str [43]),(D (.str [48,120])),(bp .Add (D (.str [45,32])) (B 4)),(D (.str [48,98,50])),(D (.str [48,111,56]))]) (aN T G (.sref 845) [B 0,D (.int 12)] []))::Mo T G
def Ks:Cd:=λT G=>eS (cQ (bJ (aW T .Eq (B 1) (D (.int 8)))) (cQ (bJ (aW T .NotEq (aN T G (.sref 386) [bp .Add (D (.str [48])) (we (B 4) [95] []),D (.int 0),D (.bool S)] []) (B 2))) (M.ret S))) (aH [bR (D (.bool I))]) (aH [])::w9 T G
def Kp:Cd:=λT G=>eS (pj (cQ (bJ (aW T .NotEq (B 6) (D (.str [])))) (cQ (bJ (aW T .NotEq (aN T G (.sref 386) [B 7,D (.int 0)] [(72,(D (.bool S)))]) (B 8))) (M.ret S))) (pj (cQ (bJ (aW T .Eq (B 1) (D (.int 10)))) (cQ (bJ (aW T .NotEq (aN T G (.sref 386) [bp .Add (B 3) (B 4),D (.int 0),D (.bool S)] []) (B 8))) (M.ret S))) (M.ret I))) (aH [bR (D (.bool I))]) (aH [])::Ks T G
def Bj:Cd:=λT G=>eS (pj (bJ (aW T .NotEq (aN T G (.sref 386) [B 7,B 1,D (.bool S)] []) (B 8))) (pj (bJ (aW T .NotEq (aN T G (.sref 386) [B 7,B 1] []) (B 8))) (M.ret I))) (aH [bR (D (.bool I))]) (aH [])::Kp T G
def P9:Cd:=λT G=>sAsg (bd 8) (fB (bJ (aW T .Eq (B 3) (D (.str [45])))) (bp .Sub (D (.int 0)) (B 2)) (B 2))::Bj T G
def A8:Cd:=λT G=>sAsg (bd 7) (bp .Add (bp .Add (bp .Add (bp .Add (eB T (dm [D (.str [32]),D (.str []),D (.str [10])]) (aN T G (.sref 845) [B 0,D (.int 3)] [])) (B 3)) (B 6)) (B 4)) (eB T (dm [D (.str []),D (.str [32]),D (.str [9])]) (aN T G (.sref 845) [B 0,D (.int 3)] [])))::P9 T G
def Q9:Cd:=λT G=>sAsg (bd 4) (fB (bJ (aW T .Eq (aN T G (.sref 845) [B 0,D (.int 3)] []) (D (.int 0)))) (bk T G (B 4) 39 (am "upper") []) (B 4))::A8 T G
def Ty:Cd:=λT G=>sAsg (bd 6) (fB (bJ (aW T .Eq (aN T G (.sref 845) [B 0,D (.int 2)] []) (D (.int 0)))) (qA [((.int 16),(.str [48,120])),((.int 2),(.str [48,98])),((.int 8),(.str [48,111]))] (B 1) (D (.str []))) (D (.str [])))::Q9 T G
def BU:Cd:=λT G=>sAsg (bd 4) (fB (bJ (aW T .Gt (B 5) (D (.int 0)))) (bp .Add (bp .Add (fU T (B 4) (D .none) (B 5)) (D (.str [95]))) (fU T (B 4) (B 5) (D .none))) (B 4))::Ty T G
def Pg:Cd:=λT G=>sAsg (bd 5) (aN T G (.sref 845) [B 0,aN T G (.bi "len") [B 4] []] [])::BU T G
def SM:Cd:=λT G=>sAsg (bd 4) (aN T G (.sref 852) [B 2,B 1] [])::Pg T G
def R7:Cd:=λT G=>sAsg (eZ T [bd 2,bd 3]) (mTup [(aN T G (.sref 845) [B 0,bp .Pow (D (.int 10)) (D (.int 6))] []),(eB T (dm [D (.str []),D (.str [45]),D (.str [43])]) (aN T G (.sref 845) [B 0,D (.int 3)] []))])::SM T G
def OJ:Cd:=λT G=>sAsg (bd 1) (eB T (dm [D (.int 10),D (.int 16),D (.int 2),D (.int 8),D (.int 36)]) (aN T G (.sref 845) [B 0,D (.int 5)] []))::R7 T G
def SG(T:aT)(G:cI):M Fl:=aH (OJ T G)
def AJ(T:aT)(G:cI):M Fl:=(aH [eS (pj (vM (bJ (aN T G (.sref 890) [B 1,B 2] []))) (pj (vM (bJ (aN T G (.sref 897) [B 1,B 2] []))) (pj (vM (bJ (aN T G (.sref 904) [B 1] []))) (M.ret I)))) (aH [bR (D (.bool I))]) (aH [])])
def Qx:Cd:=λT G=>[bR (D (.bool S))]
def PH:Cd:=λT G=>uT (bd 3) (nP (fB (bJ (eB T (B 1) (D (.int 3)))) (D (.int 1)) (D (.int 4)))) (AJ T G)::Qx T G
def Ph:Cd:=λT G=>sAsg (eZ T [bd 1,bd 2]) (mTup [aN T G (.sref 838) [B 0] [],aN T G (.sref 827) [jx] []])::PH T G
def Uo(T:aT)(G:cI):M Fl:=aH (Ph T G)
def Zd(f:Nat):Option (Nat×Nat×List J):=(ft f).map λfi=>((gc fi.sc).top+1,fi.pn.length,fi.dfl)
def code(T:aT)(G:cI)(f:Nat):Option (M Fl):=(ft f).map λfi=>pf T G 12 (gc fi.sc) fi.body
noncomputable def au(L:Nat)(Z:List Int):aT:={fh with slist:=[(L,Z.map J.int)]}
variable(L:Nat)(Z:List Int)(G:cI)
theorem ZG:code (au L Z) G 37=Y (XR (au L Z) G):=by kernel_rfl
theorem Zv:code (au L Z) G 59=Y (Zf (au L Z) G):=by kernel_rfl
theorem Zp:code (au L Z) G 79=Y (Zm (au L Z) G):=by kernel_rfl
theorem YI:code (au L Z) G 178=Y (VV (au L Z) G):=by kernel_rfl
theorem Xv:code (au L Z) G 218=Y (UE (au L Z) G):=by kernel_rfl
theorem YE:code (au L Z) G 237=Y (Vr (au L Z) G):=by kernel_rfl
theorem YU:code (au L Z) G 244=Y (Vm (au L Z) G):=by kernel_rfl
theorem Yw:code (au L Z) G 264=Y (U6 (au L Z) G):=by kernel_rfl
theorem YQ:code (au L Z) G 278=Y (UB (au L Z) G):=by kernel_rfl
theorem XY:code (au L Z) G 285=Y (Un (au L Z) G):=by kernel_rfl
theorem YN:code (au L Z) G 292=Y (UL (au L Z) G):=by kernel_rfl
theorem XT:code (au L Z) G 297=Y (WM (au L Z) G):=by kernel_rfl
theorem YG:code (au L Z) G 304=Y (Us (au L Z) G):=by kernel_rfl
theorem XN:code (au L Z) G 323=Y (Uc (au L Z) G):=by kernel_rfl
theorem Xw:code (au L Z) G 338=Y (U9 (au L Z) G):=by kernel_rfl
theorem Ys:code (au L Z) G 345=Y (TR (au L Z) G):=by kernel_rfl
theorem YL:code (au L Z) G 352=Y (UK (au L Z) G):=by kernel_rfl
theorem X8:code (au L Z) G 359=Y (Ui (au L Z) G):=by kernel_rfl
theorem Xo:code (au L Z) G 371=Y (WK (au L Z) G):=by kernel_rfl
theorem XJ:code (au L Z) G 378=Y (V0 (au L Z) G):=by kernel_rfl
theorem YM:code (au L Z) G 386=Y (PT (au L Z) G):=by kernel_rfl
theorem Yi:code (au L Z) G 393=Y (T5 (au L Z) G):=by kernel_rfl
theorem Xp:code (au L Z) G 400=Y (Wf (au L Z) G):=by kernel_rfl
theorem XE:code (au L Z) G 414=Y (VJ (au L Z) G):=by kernel_rfl
theorem YR:code (au L Z) G 421=Y (VH (au L Z) G):=by kernel_rfl
theorem XH:code (au L Z) G 428=Y (UJ (au L Z) G):=by kernel_rfl
theorem Xq:code (au L Z) G 449=Y (UR (au L Z) G):=by kernel_rfl
theorem X7:code (au L Z) G 456=Y (Uf (au L Z) G):=by kernel_rfl
theorem Xs:code (au L Z) G 463=Y (UV (au L Z) G):=by kernel_rfl
theorem YJ:code (au L Z) G 470=Y (Rl (au L Z) G):=by kernel_rfl
theorem XZ:code (au L Z) G 477=Y (VZ (au L Z) G):=by kernel_rfl
theorem YB:code (au L Z) G 484=Y (sP (au L Z) G):=by kernel_rfl
theorem XF:code (au L Z) G 491=Y (Vt (au L Z) G):=by kernel_rfl
theorem Xt:code (au L Z) G 505=Y (WG (au L Z) G):=by kernel_rfl
theorem Yn:code (au L Z) G 520=Y (Vs (au L Z) G):=by kernel_rfl
theorem Yq:code (au L Z) G 540=Y (VS (au L Z) G):=by kernel_rfl
theorem YO:code (au L Z) G 587=Y (UG (au L Z) G):=by kernel_rfl
theorem Xx:code (au L Z) G 608=Y (TS (au L Z) G):=by kernel_rfl
theorem Yy:code (au L Z) G 629=Y (WU (au L Z) G):=by kernel_rfl
theorem YV:code (au L Z) G 634=Y (Ou (au L Z) G):=by kernel_rfl
theorem YC:code (au L Z) G 641=Y (VA (au L Z) G):=by kernel_rfl
theorem XW:code (au L Z) G 691=Y (UY (au L Z) G):=by kernel_rfl
theorem Yl:code (au L Z) G 698=Y (TX (au L Z) G):=by kernel_rfl
theorem YT:code (au L Z) G 754=Y (TT (au L Z) G):=by kernel_rfl
theorem XL:code (au L Z) G 761=Y (Wy (au L Z) G):=by kernel_rfl
theorem Yz:code (au L Z) G 838=Y (Va (au L Z) G):=by kernel_rfl
theorem Yb:code (au L Z) G 845=Y (Wv (au L Z) G):=by kernel_rfl
theorem Xy:code (au L Z) G 852=Y (Ub (au L Z) G):=by kernel_rfl
theorem Yr:code (au L Z) G 859=Y (Wc (au L Z) G):=by kernel_rfl
theorem X5:code (au L Z) G 866=Y (Wp (au L Z) G):=by kernel_rfl
theorem XP:code (au L Z) G 871=Y (Xa (au L Z) G):=by kernel_rfl
theorem Xn:code (au L Z) G 876=Y (Mg (au L Z) G):=by kernel_rfl
theorem Yv:code (au L Z) G 883=Y (WH (au L Z) G):=by kernel_rfl
theorem YF:code (au L Z) G 890=Y (WX (au L Z) G):=by kernel_rfl
theorem X2:code (au L Z) G 897=Y (WY (au L Z) G):=by kernel_rfl
theorem XQ:code (au L Z) G 904=Y (SG (au L Z) G):=by kernel_rfl
theorem Yk:code (au L Z) G 911=Y (Uo (au L Z) G):=by kernel_rfl
end
section
section
variable{α β:Type}{m:M α}{f:α->M β}{s s1 s2:St}{a:α}{r:lJ St β}
theorem az(h:m s=.ok a s1)(h2:f a s1=r):(m.bind f) s=r:=by unfold M.bind;exact h▸h2
theorem eM{x:Nat}(h:m s=.exc x s1):(m.bind f) s=.exc x s1:=by unfold M.bind;rw[h]
theorem b4{b:Bool}{m:M β}(h:b=S)(h2:m s=r):gd b m s=r:=by subst h;exact h2
theorem dR{o:Option α}(h:o=Y a)(h2:f a s=r):gO o f s=r:=by subst h;exact h2
theorem bq{b:Bool}{x y:M β}(h:b=S)(e:x s=r):(bif b then x else y) s=r:=by subst h;exact e
theorem aM{b:Bool}{x y:M β}(h:b=I)(e:y s=r):(bif b then x else y) s=r:=by subst h;exact e
variable{i:Nat}
theorem kR{k:AO->M β}{o:AO}(h:s.heap[i]?=Y o)(h2:k o s=r):gH i k s=r:=dR h h2
theorem lV{k:List J->M β}{xs:List J}(h:s.heap[i]?=Y (.list xs))(h2:k xs s=r):gL i k s=r:=dR h h2
theorem Nk{k:List J->M β}{xs:List J}(h:s.heap[i]?=Y (.tup xs))(h2:k xs s=r):gT i k s=r:=dR h h2
theorem Gg{k:List (List Nat×J)->M β}{xs:List (List Nat×J)}(h:s.heap[i]?=Y (.dict xs))(h2:k xs s=r):gD i k s=r:=dR h h2
theorem NN{k:List (Nat×J)->M β}{xs:List (Nat×J)}(h:s.heap[i]?=Y (.fd xs))(h2:k xs s=r):gF i k s=r:=dR h h2
theorem HF{k:Nat->Bool->Option Nat->M β}{C:Nat}{bb:Bool}{fd:Option Nat}(h:s.heap[i]?=Y (.exn C bb fd))(h2:k C bb fd s=r):gX i k s=r:=dR h h2
end
variable{T:aT}{G:cI}{s s1 s2 s3 s4:St}{a b c d v:J}{e l r x y z:M J}{es:List (M J)}{vs:List J}{i j k n:Nat}{xs ys:List J}{h:H}{o:AO}{t u:M Bool}{p q:Bool}{R:lJ St J}{A0 A1 A2 A3:List J}{P0 P1 P2 P3:H}{B0 B1 B2 B3:Bool}
theorem ao:D v s=.ok v s:=rfl
theorem bM(h:A0[i]?=Y v)(hu:vQ v=Y v):B i ⟨A0,P0,B0⟩=.ok v ⟨A0,P0,B0⟩:=dR (by rw[h];exact hu) rfl
theorem aq(h:(A0[i]?).bind vQ=Y v:=by exact U):B i ⟨A0,P0,B0⟩=.ok v ⟨A0,P0,B0⟩:=dR h rfl
theorem bj{op:eO}(h1:l s=.ok a s1)(h2:r s1=.ok b s2)(h3:G9 op a b s2=R):bp op l r s=R:=az h1 (az h2 h3)
theorem ym{w:Int}(h:e s=.ok (.int w) s1):rh e s=.ok (.int (-w)) s1:=az h rfl
theorem No(h:e s=.ok (.bool p) s1)(hq:(!p)=q):KC e s=.ok (.bool q) s1:=az h (by subst hq;rfl)
theorem aE{op:fQ}(h1:l s=.ok a s1)(h2:r s1=.ok b s2)(h3:p7 T op a b s2=R):aW T op l r s=R:=az h1 (az h2 h3)
theorem xR{o1 o2:fQ}(h1:x s=.ok a s1)(h2:y s1=.ok b s2)(h3:p7 T o1 a b s2=.ok (.bool p) s3)(h4:z s3=.ok d s3)(h5:p7 T o2 b d s3=.ok (.bool q) s3):pp T o1 o2 x y z s=.ok (.bool (p&&q)) s3:=az h1 (az h2 (az h3 (by induction p with
 |true=>exact az h4 h5
 |false=>rfl)))
theorem LK(h:x s=.ok (.bool p) s1)(h2:y s1=.ok (.bool q) s1):Ap x y s=.ok (.bool (p&&q)) s1:=az h (by induction p;rfl;exact h2)
theorem cx:db [] s=.ok [] s:=rfl
theorem aB(h:e s=.ok v s1)(h2:db es s1=.ok vs s2):db (e::es) s=.ok (v::vs) s2:=az h (az h2 U)
theorem aC(h:e s=.ok v s1):db [e] s=.ok [v] s1:=aB h cx
theorem gm(h:db es s=.ok vs ⟨A1,P1,B1⟩)(hl:Nat.ble vs.length 1000=S):mTup es s=.ok (.obj P1.length) ⟨A1,P1++[.tup vs],B1⟩:=az h (b4 hl U)
theorem gj(h:db es s=.ok vs ⟨A1,P1,B1⟩)(hl:Nat.ble vs.length 1000=S):dm es s=.ok (.obj P1.length) ⟨A1,P1++[.list vs],B1⟩:=az h (b4 hl U)
theorem KT:jx ⟨A0,P0,B0⟩=.ok (.obj P0.length) ⟨A0,P0++[.dict []],B0⟩:=rfl
theorem oo{neg:Bool}(h1:e s=.ok a s1)(h2:db es s1=.ok vs s2)(hl:Nat.ble vs.length 1000=S)(h3:lP a vs=Y p):lu neg e es s=.ok (.bool (bif neg then !p else p)) s2:=
 az h1 (az h2 (b4 hl (dR h3 U)))
theorem C6{acc:List Nat}:mL acc [] s=.ok (.str acc) s:=rfl
def rp(T:aT)(n C:Nat)(fs:List (Nat×J)):Option J:=bif sO T C n then(d7 n fs).bind x5 else .none
theorem i5{C:Nat}{fs:List (Nat×J)}(h:P0[i]?=Y (.inst C fs))(hv:rp T n C fs=Y v):FH T n (.obj i) ⟨A0,P0,B0⟩=.ok v ⟨A0,P0,B0⟩:=kR h (by unfold rp at hv;induction q:sO T C n with
 |false=>rw[q]at hv;exact nS hv
 |true=>rw[q]at hv;exact b4 q (dR hv U))
theorem bG{C:Nat}{fs:List (Nat×J)}(h1:e s=.ok (.obj i) ⟨A1,P1,B1⟩)(h:P1[i]?=Y (.inst C fs))(hv:rp T n C fs=Y v):bT T e n s=.ok v ⟨A1,P1,B1⟩:=az h1 (i5 h hv)
theorem E8{C:Nat}{bb:Bool}{fs:List (Nat×J)}(h1:e s=.ok (.obj i) ⟨A1,P1,B1⟩)(h:P1[i]?=Y (.exn C bb (Y j)))(h2:P1[j]?=Y (.fd fs))(hx:Mv T C n=S)(hv:(d7 n fs).bind x5=Y v):bT T e n s=.ok v ⟨A1,P1,B1⟩:=
 az h1 (kR h (b4 hx (NN h2 (dR hv U))))
theorem mE{α:Type}{xs:List α}{v:α}(h:xs[k]?=Y v)(hk:k<4611686018427387904):FF xs (k:Int)=Y v:=by
 have hl:=(List.getElem?_eq_some_iff.mp h).1;have:AW (k:Int) xs.length=Y k:=by unfold AW;rw[decide_eq_true (d8 k),decide_eq_true (fw.mpr hl),decide_eq_true (by exact vA (b:=4611686018427387904) hk)];rfl
 unfold FF;rw[this];exact h
theorem gJ{w:Int}(h1:e s=.ok (.obj i) s1)(h2:r s1=.ok (.int w) ⟨A2,P2,B2⟩)(h:P2[i]?=Y (.list xs))(hv:FF xs w=Y v):eB T e r s=.ok v ⟨A2,P2,B2⟩:=az h1 (az h2 (kR h (dR hv U)))
theorem oH{w:Int}{m:List Nat}(h1:e s=.ok (.str m) s1)(h2:r s1=.ok (.int w) s2)(hv:FF m w=Y k):eB T e r s=.ok (.str [k]) s2:=az h1 (az h2 (dR hv U))
theorem Ds{m:List Nat}{ak:Nat}(h1:e s=.ok (.sref ak) s1)(h2:r s1=.ok (.str m) s2)(hv:(d7 ak T.sdict).bind (fE m)=Y v):eB T e r s=.ok v s2:=az h1 (az h2 (dR hv U))
theorem dQ{m w:List Nat}(h1:e s=.ok (.str m) s1)(h2:l s1=.ok a s2)(h3:r s2=.ok b s3)(hv:qJ m a b=Y w):fU T e l r s=.ok (.str w) s3:=az h1 (az h2 (az h3 (dR hv U)))
theorem Lw(h1:e s=.ok (.obj i) s1)(h2:l s1=.ok a s2)(h3:r s2=.ok b ⟨A3,P3,B3⟩)(h:P3[i]?=Y (.list xs))(hv:qJ xs a b=Y ys):fU T e l r s=.ok (.obj P3.length) ⟨A3,P3++[.list ys],B3⟩:=
 az h1 (az h2 (az h3 (kR h (dR hv U))))
theorem Lf{ak:Nat}(h1:e s=.ok (.sref ak) s1)(h2:l s1=.ok a s2)(h3:r s2=.ok b ⟨A3,P3,B3⟩)(h:d7 ak T.slist=Y xs)(hv:qJ xs a b=Y ys):fU T e l r s=.ok (.obj P3.length) ⟨A3,P3++[.list ys],B3⟩:=
 az h1 (az h2 (az h3 (dR h (dR hv U))))
theorem TY(h1:e s=.ok (.obj i) ⟨A1,P1,B1⟩)(h:P1[i]?=Y (.list xs))(hl:xs.length<=16777216):K9 e s=.ok (.obj P1.length) ⟨A1,P1++[.list xs.reverse],B1⟩:=az h1 (kR h (b4 (Nat.ble_eq_true_of_le hl) U))
theorem u4{α:Type}{m:M α}{w:α}(h:m s=.ok w s1):E2 m s=.ok w s1:=by unfold E2;rw[h]
theorem Bg{kvs:List (J×J)}{w:Option J}(h1:x s=.ok a s1)(h2:y s1=.ok b s2)(hw:Ob a kvs=Y w):qA kvs x y s=.ok (w.getD b) s2:=az (u4 h1) (az (u4 h2) (dR hw U))
theorem eH{cs:List J}(hc:(!(cs.isEmpty||Nat.blt 1000 cs.length))=S)(h1:e s=.ok a ⟨A1,P1,B1⟩)(h2:jm a P1 cs=Y p):jv e cs s=.ok (.bool p) ⟨A1,P1,B1⟩:=b4 hc (az h1 (dR h2 U))
theorem CU{ak:Nat}{fs:List (Nat×J)}(h':h[i]?=Y (.inst ak fs))(hk:po ak=S):vE h i=Y ak:=by unfold vE;rw[h'];show(bif po ak then Y ak else .none)=_;rw[hk];rfl
theorem jl{C ak:Nat}{fs:List (Nat×J)}(h':h[i]?=Y (.inst ak fs))(hk:po ak=S)(hc:wj C=S):lA (.obj i) h (.sref C)=Y (uM ak C):=by show(bif wj C then(vE h i).map λak=>uM ak C else .none)=_;rw[hc,CU h' hk];rfl
theorem x4{ak:Nat}{m:String}{fs:List (Nat×J)}(h':h[i]?=Y (.inst ak fs))(hk:po ak=S)(hc:sS m=S):lA (.obj i) h (.ty m)=Y I:=by show(bif sS m then(vE h i).map λ_=>I else .none)=_;rw[hc,CU h' hk];rfl
theorem iC(h':lA a h c=Y p):jm a h [c]=Y p:=by unfold jm;rw[h'];induction p<;>rfl
theorem Q5{m w:List Nat}{k:Nat}(h:e s=.ok (.str m) s1)(hl:m.length<=16777216)(hw:m.filter (λd=>!Nat.beq d k)=w):we e [k] [] s=.ok (.str w) s1:=az h (b4 (Nat.ble_eq_true_of_le hl) (by subst hw;rfl))
theorem Rh{ks:List (Nat×M J)}{kv:List J}(hc:ka T a=S)(h1:db es s=.ok vs s1)(h2:db (ks.map (·.2)) s1=.ok kv s2)(h3:pg T G a vs ((ks.map (·.1)).zip kv) s2=R):aN T G a es ks s=R:=b4 hc (az h1 (az h2 h3))
theorem J8(hc:ka T a=S)(h1:db es s=.ok vs s1)(h3:pg T G a vs [] s1=R):aN T G a es [] s=R:=b4 hc (az h1 (az cx h3))
theorem yo{f:Nat}{ks:List (Nat×J)}{h':H}(hf:G B0 f vs ks P0=.ok v h'):fL G f vs ks ⟨A0,P0,B0⟩=.ok v ⟨A0,h',B0⟩:=by unfold fL;rw[hf]
theorem EY{f w:Nat}{ks:List (Nat×J)}{h':H}(hf:G B0 f vs ks P0=.exc w h'):fL G f vs ks ⟨A0,P0,B0⟩=.exc w ⟨A0,h',B0⟩:=by unfold fL;rw[hf]
theorem fM{m:List Nat}(hl:m.length<=16777216):nX "len" [.str m] s=.ok (.int m.length) s:=b4 (Nat.ble_eq_true_of_le hl) rfl
theorem tm(h:P0[i]?=Y (.list xs))(hl:xs.length<=16777216):nX "len" [.obj i] ⟨A0,P0,B0⟩=.ok (.int xs.length) ⟨A0,P0,B0⟩:=lV h (b4 (Nat.ble_eq_true_of_le hl) U)
theorem sA{w:Int}:nX "abs" [.int w] s=.ok (.int w.natAbs) s:=rfl
theorem Nh{w:Int}(h:(aI (0<=w)&&aI (w<128))=S):nX "chr" [.int w] s=.ok (.str [w.toNat]) s:=b4 h rfl
theorem U0:nX "ord" [.str [k]] s=.ok (.int k) s:=rfl
theorem Hs{w:Int}(h:small w=S):pF "str" [.int w] s=.ok (.str (sU w)) s:=b4 h rfl
theorem UA(h:gM k=S):pF "int" [.str [k]] s=.ok (.int (k-48:Nat)) s:=b4 h rfl
theorem LI(h:P0[i]?=Y (.list xs))(hl:xs.length<=16777216):CS (.obj i) ⟨A0,P0,B0⟩=.ok (.obj P0.length) ⟨A0,P0++[.list xs],B0⟩:=kR h (b4 (Nat.ble_eq_true_of_le hl) U)
theorem jW(hh:B0=I):iA ⟨A0,P0,B0⟩=.ok () ⟨A0,P0,B0⟩:=by unfold iA;rw[hh];rfl
theorem LB{ds:List (List Nat×J)}(h:P0[i]?=Y (.dict ds))(hl:ds.length<=16777216)(hh:B0=I):CS (.obj i) ⟨A0,P0,B0⟩=.ok (.obj P0.length) ⟨A0,P0++[.list (ds.map λp=>.str p.1)],B0⟩:=kR h (az (jW hh) (b4 (Nat.ble_eq_true_of_le hl) U))
theorem Jy(h:P0[i]?=Y (.list xs))(hl:xs.length<=16777216):pF "list" [.obj i] ⟨A0,P0,B0⟩=.ok (.obj P0.length) ⟨A0,P0++[.list xs],B0⟩:=LI h hl
theorem Ig{ds:List (List Nat×J)}(h:P0[i]?=Y (.dict ds))(hl:ds.length<=16777216)(hh:B0=I):pF "list" [.obj i] ⟨A0,P0,B0⟩=.ok (.obj P0.length) ⟨A0,P0++[.list (ds.map λp=>.str p.1)],B0⟩:=LB h hl hh
theorem Mp{nm:aV}{C:Nat}(hd:d7 C T.sdict=.none):lv T G C n nm es=gO (fq T C n) λf=>(db es).bind λas=>fL G f as []:=by unfold lv;rw[hd]
theorem L5{nm:aV}{C:Nat}{ds:List (List Nat×J)}(hd:d7 C T.sdict=Y ds):lv T G C n nm es=gd (nm=="get") ((db es).bind λas=>Lk as λa d=>jz a λk=>M.ret ((fE k ds).getD d)):=by unfold lv;rw[hd]
theorem aK(h:e s=.ok (.bool p) s1):bJ e s=.ok p s1:=az h rfl
theorem qz(h:t s=.ok p s1)(hq:(!p)=q):vM t s=.ok q s1:=az h (by subst hq;rfl)
theorem jk:(M.ret p:M Bool) s=.ok p s:=rfl
theorem ew(h:t s=.ok p s1)(h2:u s1=.ok q s1):cQ t u s=.ok (p&&q) s1:=az h (by induction p;rfl;exact h2)
theorem SJ(h:t s=.ok p s1)(h2:u s1=.ok q s1):pj t u s=.ok (p||q) s1:=az h (by induction p;exact h2;rfl)
variable{g:qi}{gs:List qi}{w:Unit}
theorem bv(h:Nat.blt i A0.length=S):bd i v ⟨A0,P0,B0⟩=.ok () ⟨A0.set i v,P0,B0⟩:=b4 h rfl
theorem kM{C:Nat}{fs:List (Nat×J)}(h:P0[i]?=Y (.inst C fs))(hk0:sO T C n=S)(hl:Nat.ble fs.length 100=S):B6 T n (.obj i) v ⟨A0,P0,B0⟩=.ok () ⟨A0,P0.set i (.inst C (lY n v fs)),B0⟩:=kR h (b4 (by rw[hk0,hl];rfl) U)
theorem ru{C:Nat}{fs:List (Nat×J)}(h1:e s=.ok (.obj i) ⟨A1,P1,B1⟩)(h:P1[i]?=Y (.inst C fs))(hk0:sO T C n=S)(hl:Nat.ble fs.length 100=S):cf T e n v s=.ok () ⟨A1,P1.set i (.inst C (lY n v fs)),B1⟩:=az h1 (kM h hk0 hl)
theorem EL{C:Nat}{bb:Bool}(h1:e s=.ok (.obj i) ⟨A1,P1,B1⟩)(h:P1[i]?=Y (.exn C bb .none))(hk:Mv T C n=S):cf T e n v s=.ok () ⟨A1,(P1++[AO.fd [(n,v)]]).set i (.exn C bb (Y P1.length)),B1⟩:=az h1 (kR h (b4 hk U))
theorem Im{C:Nat}{bb:Bool}{fs:List (Nat×J)}(h1:e s=.ok (.obj i) ⟨A1,P1,B1⟩)(h:P1[i]?=Y (.exn C bb (Y j)))(h2:P1[j]?=Y (.fd fs))(hk:Mv T C n=S)(hl:Nat.ble fs.length 100=S):cf T e n v s=.ok () ⟨A1,P1.set j (.fd (lY n v fs)),B1⟩:=
 az h1 (kR h (b4 hk (NN h2 (b4 hl U))))
theorem Dm{w:Int}(h1:e s=.ok (.obj i) s1)(h2:r s1=.ok (.int w) ⟨A2,P2,B2⟩)(h:P2[i]?=Y (.list xs))(hk:AW w xs.length=Y k):Aq e r v s=.ok () ⟨A2,P2.set i (.list (xs.set k v)),B2⟩:=az h1 (az h2 (lV h (dR hk U)))
theorem Kb{w:List Nat}{ds:List (List Nat×J)}(h1:e s=.ok (.obj i) s1)(h2:r s1=.ok (.str w) ⟨A2,P2,B2⟩)(h:P2[i]?=Y (.dict ds))(hl:ds.length<16777216):Aq e r v s=.ok () ⟨A2,P2.set i (.dict (nJ w v ds)),B2⟩:=
 az h1 (az h2 (Gg h (b4 (Nat.ble_eq_true_of_le hl) U)))
theorem Sw:o6 [] [] s=.ok () s:=rfl
theorem bZ(h:g v s=.ok () s1)(h2:o6 gs vs s1=.ok () s2):o6 (g::gs) (v::vs) s=.ok () s2:=az h h2
theorem dj(h:g v s=.ok () s1):o6 [g] [v] s=.ok () s1:=bZ h Sw
theorem qv(hh:B0=I)(h:P0[i]?=Y (.tup vs))(hl:Nat.beq vs.length gs.length=S)(h2:o6 gs vs ⟨A0,P0,B0⟩=.ok () s1):eZ T gs (.obj i) ⟨A0,P0,B0⟩=.ok () s1:=
 az (az (jW hh) (Nk h (b4 hl U))) h2
theorem BM{ak:Nat}(hh:B0=I)(h:d7 ak T.stup=Y vs)(hl:Nat.beq vs.length gs.length=S)(h2:o6 gs vs ⟨A0,P0,B0⟩=.ok () s1):eZ T gs (.sref ak) ⟨A0,P0,B0⟩=.ok () s1:=
 az (az (jW hh) (dR h (b4 hl U))) h2
variable{m m':M Fl}{ms:List (M Fl)}{f:Fl}{F:lJ St Fl}
theorem bz(h:e s=.ok v s1)(h2:g v s1=.ok () s2):sAsg g e s=.ok .nxt s2:=az h (az h2 U)
theorem oL{w:Nat}(h:e s=.exc w s1):sAsg g e s=.exc w s1:=eM h
theorem fm(h:db es s=.ok vs ⟨A1,P1,B1⟩)(hh:B1=I)(hl:Nat.ble vs.length 1000=S)(hn:Nat.beq vs.length gs.length=S)(h2:o6 gs vs ⟨A1,P1++[.tup vs],B1⟩=.ok () s2):sAsg (eZ T gs) (mTup es) s=.ok .nxt s2:=
 bz (gm h hl) (qv hh (List.getElem?_concat_length) hn h2)
theorem jY(h:Nat.blt i A0.length=S):cb i v ⟨A0,P0,B0⟩=.ok () ⟨A0.set i v,P0,B0⟩:=b4 h rfl
theorem SK{op:eO}(h0:B i s=.ok a s)(h:e s=.ok b s1)(h2:TJ op a b s1=.ok v ⟨A2,P2,B2⟩)(h3:Nat.blt i A2.length=S):yM i op e s=.ok .nxt ⟨A2.set i v,P2,B2⟩:=az h0 (az h (az h2 (az (jY h3) U)))
theorem rq{op:eO}(h0:x s=.ok c s1)(h1:FH T n c s1=.ok a s1)(h:e s1=.ok b s2)(h2:TJ op a b s2=.ok v s2)(h3:B6 T n c v s2=.ok () s3):uG T x n op e s=.ok .nxt s3:=az h0 (az h1 (az h (az h2 (az h3 U))))
theorem bK(h:e s=.ok v s1):bR e s=.ok (.ret v) s1:=az h rfl
theorem eI{w:Nat}(h:e s=.exc w s1):bR e s=.exc w s1:=eM h
theorem nA(h:e s=.ok .none s1):iV e s=.ok .nxt s1:=az h rfl
theorem IQ{w:Nat}(h:e s=.exc w s1):iV e s=.exc w s1:=eM h
theorem aZ:aH [] s=.ok .nxt s:=rfl
theorem aG(h:m s=.ok .nxt s1)(h2:aH ms s1=F):aH (m::ms) s=F:=az h h2
theorem bF(h:m s=.ok (.ret v) s1):aH (m::ms) s=.ok (.ret v) s1:=az h rfl
theorem cZ{w:Nat}(h:m s=.exc w s1):aH (m::ms) s=.exc w s1:=eM h
theorem bO(h:m s=F):aH [m] s=F:=by induction F with
 |ok f s1=>induction f<;>exact az h rfl
 |exc w s1=>exact eM h
 |stuck=>show M.bind _ _ _=_;unfold M.bind;rw[h]
theorem Ka{C:Nat}{fd:Option Nat}{bb:Bool}(h:e s=.ok (.obj i) ⟨A1,P1,B1⟩)(hh:B1=I)(h1:P1[i]?=Y (.exn C bb fd))(h2:(bb&&nk T C)=S):w3 T e s=.exc i ⟨A1,P1.set i (.exn C I fd),B1⟩:=
 az h (az (jW hh) (HF h1 (b4 h2 U)))
theorem Hk{C k:Nat}(h:m s=.ok f s1):yh m C k m' s=.ok f s1:=by unfold yh;rw[h]
theorem MP{C k:Nat}{bb:Bool}{fd:Option Nat}(h:m s=.exc i ⟨A1,P1,B1⟩)(h1:P1[i]?=Y (.exn C bb fd))(hk:Nat.blt k A1.length=S)(h2:m' ⟨A1.set k (.obj i),P1,S⟩=.ok f ⟨A2,P2,B2⟩)(hk2:Nat.blt k A2.length=S):yh m C k m' s=.ok f ⟨A2.set k .unb,P2,B1⟩:=by unfold yh;rw[h];refine HF h1 (b4 (Nat.beq_refl C) (az (jY hk) (az (u4 (show yE S m' ⟨A1.set k (.obj i),P1,B1⟩=.ok f ⟨A2,P2,B1⟩from ?_)) (az (jY hk2) U))));unfold yE;dsimp only;rw[h2]
theorem LT{N:Nat}{hand:Bool}{as:List J}(h1:m ⟨as++List.replicate (N-as.length) .unb,h,hand⟩=.ok (.ret v) ⟨A0,P0,B0⟩):pJ N m hand as h=.ok v P0:=by unfold pJ;rw[h1]
theorem Mt{N:Nat}{hand:Bool}{as:List J}(h1:m ⟨as++List.replicate (N-as.length) .unb,h,hand⟩=.ok .nxt ⟨A0,P0,B0⟩):pJ N m hand as h=.ok .none P0:=by unfold pJ;rw[h1]
theorem Kc{N w:Nat}{hand:Bool}{as:List J}(h1:m ⟨as++List.replicate (N-as.length) .unb,h,hand⟩=.exc w ⟨A0,P0,B0⟩):pJ N m hand as h=.exc w P0:=by unfold pJ;rw[h1]
end
section
variable{L:Nat}{Z:List Int}
abbrev bI(L:Nat)(Z:List Int):Nat->cI:=oZ (au L Z) ft
def df(L:Nat)(Z:List Int)(f N np:Nat)(dfl:List J)(c:aT->cI->M Fl):Prop:=∀(n:Nat)(hand:Bool)(as bs:List J)(h:H),zH np dfl as=Y bs->bI L Z (n+1) hand f as [] h=pJ N (c (au L Z) (bI L Z n)) hand bs h
theorem ci{f N np:Nat}{dfl:List J}{c:aT->cI->M Fl}(hs:Zd f=Y (N,np,dfl))(hc:∀G,code (au L Z) G f=Y (c (au L Z) G)):df L Z f N np dfl c:=λn hand as bs h hb=>by
 show(match ft f with
  |some fi=>zZ (au L Z) (bI L Z n) fi hand as [] h
  |.none=>.stuck)=pJ N (c (au L Z) (bI L Z n)) hand bs h
 have hc:=hc (bI L Z n);unfold Zd at hs;unfold code at hc;induction q:ft f with
 |none=>rw[q]at hs;exact nS hs
 |some fi=>rw[q]at hs hc;have h1:=aQ hs;have h2:=aQ hc;dsimp only at h1 h2;rw[lC,lC]at h1;dsimp only;unfold zZ uX;dsimp only;rw[h1.2.1,h1.2.2,hb];dsimp only;exact h2▸h1.1▸rfl
theorem XS:df L Z 37 4 3 [] XR:=ci (by kernel_rfl) λG=>ZG L Z G
theorem X6:df L Z 59 5 4 [.str []] Zf:=ci (by kernel_rfl) λG=>Zv L Z G
theorem XU:df L Z 79 5 4 [.none] Zm:=ci (by kernel_rfl) λG=>Zp L Z G
theorem T4:df L Z 178 5 4 [.none] VV:=ci (by kernel_rfl) λG=>YI L Z G
theorem WJ:df L Z 218 8 7 [.none,.bool I,.none,.none] UE:=ci (by kernel_rfl) λG=>Xv L Z G
theorem G0:df L Z 237 2 1 [] Vr:=ci (by kernel_rfl) λG=>YE L Z G
theorem yx:df L Z 244 2 1 [] Vm:=ci (by kernel_rfl) λG=>YU L Z G
theorem Ug:df L Z 264 3 1 [] U6:=ci (by kernel_rfl) λG=>Yw L Z G
theorem Oc:df L Z 278 2 1 [] UB:=ci (by kernel_rfl) λG=>YQ L Z G
theorem UP:df L Z 285 2 1 [] Un:=ci (by kernel_rfl) λG=>XY L Z G
theorem Uq:df L Z 292 5 2 [] UL:=ci (by kernel_rfl) λG=>YN L Z G
theorem TZ:df L Z 297 3 1 [] WM:=ci (by kernel_rfl) λG=>XT L Z G
theorem VO:df L Z 304 2 1 [] Us:=ci (by kernel_rfl) λG=>YG L Z G
theorem NK:df L Z 323 4 2 [] Uc:=ci (by kernel_rfl) λG=>XN L Z G
theorem wd:df L Z 338 4 2 [.int 6] U9:=ci (by kernel_rfl) λG=>Xw L Z G
theorem Np:df L Z 345 3 2 [] TR:=ci (by kernel_rfl) λG=>Ys L Z G
theorem NV:df L Z 352 4 2 [] UK:=ci (by kernel_rfl) λG=>YL L Z G
theorem U5:df L Z 359 5 2 [] Ui:=ci (by kernel_rfl) λG=>X8 L Z G
theorem Nf:df L Z 371 5 2 [] WK:=ci (by kernel_rfl) λG=>Xo L Z G
theorem VC:df L Z 378 3 2 [] V0:=ci (by kernel_rfl) λG=>XJ L Z G
theorem DI:df L Z 386 13 3 [.bool I] PT:=ci (by kernel_rfl) λG=>YM L Z G
theorem Cz:df L Z 393 4 2 [] T5:=ci (by kernel_rfl) λG=>Yi L Z G
theorem CN:df L Z 400 2 1 [] Wf:=ci (by kernel_rfl) λG=>Xp L Z G
theorem WV:df L Z 414 2 1 [] VJ:=ci (by kernel_rfl) λG=>XE L Z G
theorem VN:df L Z 421 4 2 [] VH:=ci (by kernel_rfl) λG=>YR L Z G
theorem Uu:df L Z 428 6 3 [] UJ:=ci (by kernel_rfl) λG=>XH L Z G
theorem Vy:df L Z 449 5 4 [] UR:=ci (by kernel_rfl) λG=>Xq L Z G
theorem Of:df L Z 456 2 1 [] Uf:=ci (by kernel_rfl) λG=>X7 L Z G
theorem Ny:df L Z 463 2 1 [] UV:=ci (by kernel_rfl) λG=>Xs L Z G
theorem sj:df L Z 470 5 2 [] Rl:=ci (by kernel_rfl) λG=>YJ L Z G
theorem CY:df L Z 477 3 2 [] VZ:=ci (by kernel_rfl) λG=>XZ L Z G
theorem NA:df L Z 484 6 1 [] sP:=ci (by kernel_rfl) λG=>YB L Z G
theorem Nd:df L Z 491 4 1 [] Vt:=ci (by kernel_rfl) λG=>XF L Z G
theorem NX:df L Z 505 4 3 [] WG:=ci (by kernel_rfl) λG=>Xt L Z G
theorem V2:df L Z 520 3 2 [.str []] Vs:=ci (by kernel_rfl) λG=>Yn L Z G
theorem Uk:df L Z 540 3 2 [] VS:=ci (by kernel_rfl) λG=>Yq L Z G
theorem Wb:df L Z 587 7 5 [.none,.none,.int 20000] UG:=ci (by kernel_rfl) λG=>YO L Z G
theorem Wq:df L Z 608 2 1 [] TS:=ci (by kernel_rfl) λG=>Xx L Z G
theorem N7:df L Z 629 4 2 [] WU:=ci (by kernel_rfl) λG=>Yy L Z G
theorem WB:df L Z 634 6 2 [] Ou:=ci (by kernel_rfl) λG=>YV L Z G
theorem U3:df L Z 641 3 2 [] VA:=ci (by kernel_rfl) λG=>YC L Z G
theorem WS:df L Z 691 3 2 [] UY:=ci (by kernel_rfl) λG=>XW L Z G
theorem Vk:df L Z 698 3 2 [] TX:=ci (by kernel_rfl) λG=>Yl L Z G
theorem Ve:df L Z 754 4 3 [] TT:=ci (by kernel_rfl) λG=>YT L Z G
theorem V9:df L Z 761 4 3 [] Wy:=ci (by kernel_rfl) λG=>XL L Z G
theorem TW:df L Z 838 6 1 [] Va:=ci (by kernel_rfl) λG=>Yz L Z G
theorem NW:df L Z 845 5 2 [] Wv:=ci (by kernel_rfl) λG=>Yb L Z G
theorem Vw:df L Z 852 5 2 [] Ub:=ci (by kernel_rfl) λG=>Xy L Z G
theorem Vz:df L Z 859 4 3 [] Wc:=ci (by kernel_rfl) λG=>Yr L Z G
theorem Vf:df L Z 866 9 5 [] Wp:=ci (by kernel_rfl) λG=>X5 L Z G
theorem yT:df L Z 871 11 3 [] Xa:=ci (by kernel_rfl) λG=>XP L Z G
theorem N6:df L Z 876 14 2 [] Mg:=ci (by kernel_rfl) λG=>Xn L Z G
theorem Nz:df L Z 883 5 3 [] WH:=ci (by kernel_rfl) λG=>Yv L Z G
theorem Vv:df L Z 890 11 2 [] WX:=ci (by kernel_rfl) λG=>YF L Z G
theorem UF:df L Z 897 7 2 [] WY:=ci (by kernel_rfl) λG=>X2 L Z G
theorem Uj:df L Z 904 11 1 [] SG:=ci (by kernel_rfl) λG=>XQ L Z G
theorem TU:df L Z 911 5 1 [] Uo:=ci (by kernel_rfl) λG=>Yk L Z G
end
section
inductive vD{α:Type}(p q:α->Prop):Prop where
 |mk (a:α) (x:p a) (y:q a):vD p q
inductive J3{α:Type}(p q r:α->Prop):Prop where
 |mk (a:α) (x:p a) (y:q a) (z:r a):J3 p q r
inductive KL{α:Type}(p q r t:α->Prop):Prop where
 |mk (a:α) (x:p a) (y:q a) (z:r a) (v:t a):KL p q r t
inductive Tj{α β:Type}(p q:α->β->Prop):Prop where
 |mk (a:α) (b:β) (x:p a b) (y:q a b):Tj p q
inductive Iy{α β:Type}(p q r:α->β->Prop):Prop where
 |mk (a:α) (b:β) (x:p a b) (y:q a b) (z:r a b):Iy p q r
inductive Ai{α β:Type}(p q r t:α->β->Prop):Prop where
 |mk (a:α) (b:β) (x:p a b) (y:q a b) (z:r a b) (v:t a b):Ai p q r t
inductive TI{α β:Type}(p q r t u:α->β->Prop):Prop where
 |mk (a:α) (b:β) (x:p a b) (y:q a b) (z:r a b) (v:t a b) (w:u a b):TI p q r t u
inductive Ye{α β γ:Type}(p q:α->β->γ->Prop):Prop where
 |mk (a:α) (b:β) (c:γ) (x:p a b c) (y:q a b c):Ye p q
inductive Xh{α β γ:Type}(p q r:α->β->γ->Prop):Prop where
 |mk (a:α) (b:β) (c:γ) (x:p a b c) (y:q a b c) (z:r a b c):Xh p q r
inductive WO{α β γ:Type}(p q r t:α->β->γ->Prop):Prop where
 |mk (a:α) (b:β) (c:γ) (x:p a b c) (y:q a b c) (z:r a b c) (v:t a b c):WO p q r t
inductive Yf{α β γ:Type}(p q r t u:α->β->γ->Prop):Prop where
 |mk (a:α) (b:β) (c:γ) (x:p a b c) (y:q a b c) (z:r a b c) (v:t a b c) (w:u a b c):Yf p q r t u
variable{T:aT}{G:cI}{s s1 s2 s3 s4:St}{a b c d v:J}{e l r x y z:M J}{es:List (M J)}{vs:List J}{i j k n:Nat}{xs ys:List J}{h:H}{o o':AO}{t u:M Bool}{p q:Bool}{R:lJ St J}{A0 A1 A2 A3:List J}{P0 P1 P2 P3:H}{B0 B1 B2 B3:Bool}
variable{m m':M Fl}{ms:List (M Fl)}{f:Fl}{F:lJ St Fl}{aa:lJ St Bool}
def vH(N np:Nat)(dfl as:List J):Option (List J):=(zH np dfl as).map λbs=>bs++List.replicate (N-bs.length) .unb
section
variable{L:Nat}{Z:List Int}{N np g w:Nat}{dfl as L0:List J}{C:aT->cI->M Fl}{hand:Bool}
theorem bC(ak:df L Z g N np dfl C)(hl:vH N np dfl as=Y L0)(h1:C (au L Z) (bI L Z n) ⟨L0,h,hand⟩=.ok (.ret v) ⟨A0,P0,B0⟩):bI L Z (n+1) hand g as [] h=.ok v P0:=by obtain⟨bs,e1,e2⟩:=aP.mp hl;subst e2;exact(ak n hand as bs h e1).trans (LT h1)
theorem j6(ak:df L Z g N np dfl C)(hl:vH N np dfl as=Y L0)(h1:C (au L Z) (bI L Z n) ⟨L0,h,hand⟩=.ok .nxt ⟨A0,P0,B0⟩):bI L Z (n+1) hand g as [] h=.ok .none P0:=by obtain⟨bs,e1,e2⟩:=aP.mp hl;subst e2;exact(ak n hand as bs h e1).trans (Mt h1)
theorem fT(ak:df L Z g N np dfl C)(hl:vH N np dfl as=Y L0)(h1:C (au L Z) (bI L Z n) ⟨L0,h,hand⟩=.exc w ⟨A0,P0,B0⟩):bI L Z (n+1) hand g as [] h=.exc w P0:=by obtain⟨bs,e1,e2⟩:=aP.mp hl;subst e2;exact(ak n hand as bs h e1).trans (Kc h1)
end
theorem br(h:m s=.ok f s1)(h2:yH f (aH ms) s1=F):aH (m::ms) s=F:=az h h2
theorem PM(h:m s=F):yH .nxt m s=F:=h
theorem d6:yH (.ret v) m s=.ok (.ret v) s:=rfl
theorem VY:Lm s=.ok .brk s:=rfl
theorem aY(h:t s=.ok p s1)(h2:(bif p then m else m') s1=F):eS t m m' s=F:=az h h2
theorem dy(h:t s=.ok p s1)(h2:(bif p then x else y) s1=R):fB t x y s=R:=az h h2
theorem mW(h:t s=.ok p s1)(h2:(bif p then u else M.ret I) s1=aa):cQ t u s=aa:=az h h2
theorem qF(h:t s=.ok p s1)(h2:(bif p then M.ret S else u) s1=aa):pj t u s=aa:=az h h2
theorem Ir(h:x s=.ok (.bool p) s1)(h2:(bif p then y else yes I) s1=R):Ap x y s=R:=az h h2
theorem Tx(h:x s=.ok (.bool p) s1)(h2:(bif p then yes S else y) s1=R):VW x y s=R:=az h h2
theorem OD:yes p s=.ok (.bool p) s:=rfl
theorem rK{t:H}(e:t[k]?=Y o):(h++t)[h.length+k]?=Y o:=by rw[List.getElem?_append_right (Nat.le_add_right _ _),Nat.add_sub_cancel_left];exact e
theorem sp{t:H}:(h++(o::t))[h.length]?=Y o:=rK (k:=0) rfl
theorem ba:(h++[o])[h.length]?=Y o:=List.getElem?_concat_length
theorem bH{h':H}(e:h[i]?=Y o):(h++h')[i]?=Y o:=by rw[List.getElem?_append_left (List.getElem?_eq_some_iff.mp e).1];exact e
theorem dP(e:h[i]?=Y o'):(h.set i o)[i]?=Y o:=List.getElem?_set_self (List.getElem?_eq_some_iff.mp e).1
theorem iq(e:i≠j)(e2:h[j]?=Y o):(h.set i o')[j]?=Y o:=(List.getElem?_set_ne e).trans e2
theorem qo(e:h[i]?=Y o):i<h.length:=(List.getElem?_eq_some_iff.mp e).1
theorem iw{fs:List (Nat×J)}{C m:Nat}{v:J}(ok:sO T C m=S)(hv:d7 m fs=Y v)(nb:x5 v=Y v):rp T m C fs=Y v:=by unfold rp;rw[ok,hv];exact nb
inductive wX(x:lJ St Fl)(P:J->H->Prop):Prop where
 |mk (v:J) (A:List J) (h:H) (ag:Bool) (e:x=.ok (.ret v) ⟨A,h,ag⟩) (p:P v h):wX x P
section
variable{P:J->H->Prop}{L:Nat}{Z:List Int}{N np g w:Nat}{dfl as L0:List J}{C:aT->cI->M Fl}{hand:Bool}
theorem bU(h1:m s=.ok .nxt s1)(h2:wX (aH ms s1) P):wX (aH (m::ms) s) P:=let⟨v,A,h,ag,e,p⟩:=h2;⟨v,A,h,ag,br h1 e,p⟩
theorem nM(h1:m s=.ok (.ret v) ⟨A0,P0,B0⟩)(p:P v P0):wX (aH (m::ms) s) P:=⟨v,A0,P0,B0,bF h1,p⟩
theorem Co(ak:df L Z g N np dfl C)(hl:vH N np dfl as=Y L0)(h1:wX (C (au L Z) (bI L Z n) ⟨L0,h,hand⟩) P):Tj (λv h'=>bI L Z (n+1) hand g as [] h=.ok v h') P:=
 let⟨v,A,h',ag,e,p⟩:=h1;⟨v,h',bC ak hl e,p⟩
end
theorem qy{w w':Int}(h:(small w||small w')=S):G9 .Mult (.int w) (.int w') s=.ok (.int (w*w')) s:=b4 h rfl
theorem zW{w w':Int}(h:0<w')(h2:w'<1073741824):G9 .FloorDiv (.int w) (.int w') s=.ok (.int (w.fdiv w')) s:=b4 (by rw[decide_eq_false (by exact qN h),decide_eq_false (by exact ZR h h2)];rfl) rfl
theorem tR{w w':Int}(h:w'≠0):G9 .Mod (.int w) (.int w') s=.ok (.int (w.fmod w')) s:=b4 (by rw[decide_eq_false h];rfl) rfl
theorem Dg{w w':Int}(h:small w=S)(h2:0<=w')(h3:w'<=64):G9 .Pow (.int w) (.int w') s=.ok (.int (w^w'.toNat)) s:=b4 (by simp only[h,decide_eq_true h2,decide_eq_true h3];rfl) rfl
theorem cE{w w':List Nat}(h:w.length+w'.length<=16777216):G9 .Add (.str w) (.str w') s=.ok (.str (w++w')) s:=b4 (Nat.ble_eq_true_of_le (by rw[List.length_append];exact h)) rfl
theorem xZ{w w':List Nat}(h:w.length+w'.length<=16777216):TJ .Add (.str w) (.str w') s=.ok (.str (w++w')) s:=b4 (Nat.ble_eq_true_of_le (by rw[List.length_append];exact h)) rfl
theorem ID{k:Nat}{w':Int}(h:w'<=16777216)(h2:-(2^62)<=w'):G9 .Mult (.str [k]) (.int w') s=.ok (.str (As [k] w'.toNat)) s:=b4 (by simp only[decide_eq_true h,decide_eq_true h2];rfl) rfl
theorem ud(h1:P0[i]?=Y (.list xs))(h2:P0[j]?=Y (.list ys))(h:xs.length+ys.length<=16777216):G9 .Add (.obj i) (.obj j) ⟨A0,P0,B0⟩=.ok (.obj P0.length) ⟨A0,P0++[.list (xs++ys)],B0⟩:=lV h1 (lV h2 (b4 (Nat.ble_eq_true_of_le h) U))
theorem jZ{w:Int}(h:w.natAbs<2^63):small w=S:=decide_eq_true h
theorem mB{w w':Int}(h:small w'=S):(small w||small w')=S:=by simp only[h,Bool.or_true]
theorem CC{w w':Int}(h:small w=S):(small w||small w')=S:=by simp only[h,Bool.true_or]
def uK(T:aT)(G:cI)(i:Nat)(o:AO)(n:Nat)(nm:aV)(ms:List (M J)):M J:=oC M.no (a:=o)
 (list:=λ_=>gd (nm=="append") ((db ms).bind λas=>qE as λv=>gL i λxs=>gd (Nat.blt xs.length cj) ((tQ i (.list (xs++[v]))).bind λ_=>M.ret .none)))
 (dict:=λ_=>gd (nm=="get") ((db ms).bind λas=>qE as λa=>jz a λk=>gD i λes=>M.ret ((fE k es).getD .none)))
 (inst:=λC fs=>gO (fq T C n) λf=>gd ((d7 n fs).isNone&&!nk T C) ((db ms).bind λas=>fL G f (.obj i::as) []))
def uD(T:aT)(G:cI)(a:J)(n:Nat)(nm:aV)(ms:List (M J)):M J:=vC M.no (a:=a)
 (str:=λx=>gd (KU nm).isSome ((db ms).bind λas=>g9 nm x as))
 (obj:=λi=>gH i λo=>uK T G i o n nm ms)
 (sref:=λC=>lv T G C n nm ms)
 (ty:=λm=>AQ T m nm ms)
section
variable{nm:aV}{w:List Nat}{C g:Nat}{fs:List (Nat×J)}{ds:List (List Nat×J)}{h':H}{ks:List (Nat×J)}
theorem aR(h1:e s=.ok a s1)(h2:uD T G a n nm es s1=R):bk T G e n nm es s=R:=az h1 (by induction a<;>exact h2)
theorem DL(hn:(KU nm).isSome=S)(h2:db es s=.ok vs s1)(h3:g9 nm w vs s1=R):uD T G (.str w) n nm es s=R:=b4 hn (az h2 h3)
theorem jM(h1:P0[i]?=Y o)(h2:uK T G i o n nm es ⟨A0,P0,B0⟩=R):uD T G (.obj i) n nm es ⟨A0,P0,B0⟩=R:=kR h1 h2
theorem HG(hn:(nm=="append")=S)(h2:db es s=.ok [v] ⟨A1,P1,B1⟩)(h3:P1[i]?=Y (.list xs))(hl:xs.length<16777216):uK T G i (.list ys) n nm es s=.ok .none ⟨A1,P1.set i (.list (xs++[v])),B1⟩:=
 b4 hn (az h2 (lV h3 (b4 (Nat.ble_eq_true_of_le hl) U)))
theorem FD{ds':List (List Nat×J)}(hn:(nm=="get")=S)(h2:db es s=.ok [.str w] ⟨A1,P1,B1⟩)(h3:P1[i]?=Y (.dict ds)):uK T G i (.dict ds') n nm es s=.ok ((fE w ds).getD .none) ⟨A1,P1,B1⟩:=b4 hn (az h2 (Gg h3 U))
theorem cD(hm:fq T C n=Y g)(hx:((d7 n fs).isNone&&!nk T C)=S)(h2:db es s=.ok vs s1)(h3:fL G g (.obj i::vs) [] s1=R):uK T G i (.inst C fs) n nm es s=R:=dR hm (b4 hx (az h2 h3))
theorem Wa(hd:d7 C T.sdict=.none)(hm:fq T C n=Y g)(h2:db es s=.ok vs s1)(h3:fL G g vs [] s1=R):uD T G (.sref C) n nm es s=R:=by show lv T G C n nm es s=_;rw[Mp hd];exact dR hm (az h2 h3)
theorem W9(hd:d7 C T.sdict=Y ds)(hn:(nm=="get")=S)(h2:db es s=.ok [.str w,d] s1):uD T G (.sref C) n nm es s=.ok ((fE w ds).getD d) s1:=by show lv T G C n nm es s=_;rw[L5 hd];exact b4 hn (az h2 U)
theorem ZJ{q:String}{bb:Bool}{fd:Option Nat}(hn:(q=="ValueError"&&nm=="__init__")=S)(h2:db es s=.ok [.obj i,.str w] ⟨A1,P1,B1⟩)(h:P1[i]?=Y (.exn C bb fd))(hx:nk T C=S):uD T G (.ty q) n nm es s=.ok .none ⟨A1,P1,B1⟩:=
 b4 hn (az h2 (HF h (b4 hx U)))
theorem aO(hf:G B0 g vs ks P0=.ok v h'):fL G g vs ks ⟨A0,P0,B0⟩=.ok v ⟨A0,h',B0⟩:=yo hf
theorem dN{w:Nat}(hf:G B0 g vs ks P0=.exc w h'):fL G g vs ks ⟨A0,P0,B0⟩=.exc w ⟨A0,h',B0⟩:=EY hf
theorem aJ(hc:ka T a=S)(h1:db es s=.ok vs s1)(h3:pg T G a vs [] s1=R):aN T G a es [] s=R:=J8 hc h1 h3
theorem iF{m:String}(h:nX m vs s=R):pg T G (.bi m) vs [] s=R:=h
theorem EG{m:String}(h:pF m vs s=R):pg T G (.ty m) vs [] s=R:=h
theorem b5(hm:(d7 g T.meth).isSome=I)(h:fL G g vs ks s=R):pg T G (.sref g) vs ks s=R:=aM hm h
theorem nW(hs:(d7 C T.meth).isSome=S)(hm:fq T C 0=Y g)(hx:(!(nk T C&&Nat.blt 100 vs.length))=S)(hf:G B0 g (.obj P0.length::vs) [] (P0++[made T C])=.ok .none h'):pg T G (.sref C) vs [] ⟨A0,P0,B0⟩=.ok (.obj P0.length) ⟨A0,h',B0⟩:=
 bq hs (dR (f:=λf=>gd (!(nk T C&&Nat.blt 100 vs.length)) ((o4 (made T C)).bind λo=>(fL G f (o::vs) []).bind λr=>pq r (M.ret o))) hm
  (b4 hx (az (s1:=⟨A0,P0++[made T C],B0⟩) U (az (yo hf) U))))
theorem Da(h:mL [] es s=R):zp es s=R:=h
theorem jf{acc w:List Nat}(h:e s=.ok (.str w) s1)(hl:(acc++w).length<=16777216)(h2:mL (acc++w) es s1=R):mL acc (e::es) s=R:=az h (b4 (Nat.ble_eq_true_of_le hl) h2)
theorem qe{ws:List (List Nat)}(hl:w.length<=1000)(h:P0[i]?=Y (.list xs))(hs:lz xs=Y ws)(hj:(fX w ws).length+w.length<=16777216):g9 "join" w [.obj i] ⟨A0,P0,B0⟩=.ok (.str (fX w ws)) ⟨A0,P0,B0⟩:=
 b4 (Nat.ble_eq_true_of_le (Nat.le_trans hl (by decide))) (lV (k:=λxs=>gO (lz xs) λys=>gd (Nat.ble ((fX w ys).length+w.length) cj) (M.ret (J.str (fX w ys)))) h (dR hs (b4 (Nat.ble_eq_true_of_le hj) U)))
theorem yv(hl:w.length<=16777216)(ha:bV w=S):g9 "lower" w [] s=.ok (.str (w.map mI)) s:=b4 (Nat.ble_eq_true_of_le hl) (b4 ha U)
theorem zv(hl:w.length<=16777216)(ha:bV w=S):g9 "upper" w [] s=.ok (.str (w.map Ez)) s:=b4 (Nat.ble_eq_true_of_le hl) (b4 ha U)
theorem Fi{w':List Nat}(hl:w.length<=16777216):g9 "strip" w [.str w'] s=.ok (.str (mM w' w)) s:=b4 (Nat.ble_eq_true_of_le hl) rfl
theorem EH{w':List Nat}(hl:w.length<=16777216):g9 "lstrip" w [.str w'] s=.ok (.str (ez w' w)) s:=b4 (Nat.ble_eq_true_of_le hl) rfl
theorem MC{k:Nat}(hl:w.length<=16777216):g9 "find" w [.str [k]] s=.ok (.int (ip k w 0)) s:=b4 (Nat.ble_eq_true_of_le hl) rfl
theorem AR(hl:w.length<=16777216)(ha:bV w=S):g9 "isdigit" w [] s=.ok (.bool (!w.isEmpty&&w.all gM)) s:=b4 (Nat.ble_eq_true_of_le hl) (b4 ha U)
theorem BH(hl:w.length<=16777216)(ha:bV w=S):g9 "isalnum" w [] s=.ok (.bool (!w.isEmpty&&w.all uz)) s:=b4 (Nat.ble_eq_true_of_le hl) (b4 ha U)
end
section
variable{r r':H}{C w:Nat}{fs:List (Nat×J)}
theorem bQ(he:e ⟨A0,h++(.inst C fs::r),B0⟩=.ok v ⟨A0,h++(.inst C fs::r'),B0⟩)(h0:A0[0]?=Y (.obj h.length))(hk:sO T C n=S)(hl:Nat.ble fs.length 100=S)(h2:aH ms ⟨A0,h++(.inst C (lY n v fs)::r'),B0⟩=F):
  aH (sAsg (cf T (B 0) n) e::ms) ⟨A0,h++(.inst C fs::r),B0⟩=F:=
 az (az he (az (az (s1:=⟨A0,h++(.inst C fs::r'),B0⟩) (bM h0 U) (kR (o:=.inst C fs) (by rw[List.getElem?_append_right (Nat.le_refl _),Nat.sub_self];rfl) (b4 (by rw[hk,hl];rfl) U))) U)) (by
  have:(h++(.inst C fs::r')).set h.length (.inst C (lY n v fs))=h++(.inst C (lY n v fs)::r'):=by rw[List.set_append_right _ _ (Nat.le_refl _),Nat.sub_self];rfl
  show aH ms ⟨A0,(h++(.inst C fs::r')).set h.length (.inst C (lY n v fs)),B0⟩=F;rw[this];exact h2)
theorem I6:(h++(o::r)).length=h.length+(r.length+1):=by simp
theorem kn:jx ⟨A0,h++(o::r),B0⟩=.ok (.obj (h.length+(r.length+1))) ⟨A0,h++(o::(r++[.dict []])),B0⟩:=by rw[<-I6 (o:=o),<-List.cons_append,<-List.append_assoc];rfl
theorem xh:dm [] ⟨A0,h++(o::r),B0⟩=.ok (.obj (h.length+(r.length+1))) ⟨A0,h++(o::(r++[.list []])),B0⟩:=by rw[<-I6 (o:=o),<-List.cons_append,<-List.append_assoc];rfl
end
theorem iZ:fg=999999999+1:=rfl
theorem fK{b:M Fl}(h:dU (mf t b) fg () s=F):jA t b s=F:=h
theorem sq{g:qi}{it:M It}{b:M Fl}{q:It}(hh:B0=I)(hi:it ⟨A0,P0,B0⟩=.ok q s1)(h:dU (iW g b) fg q s1=.ok f s2):uT g it b ⟨A0,P0,B0⟩=.ok f s2:=az (jW hh) (az hi (u4 h))
theorem yc{w:List Nat}(h:e s=.ok (.str w) s1):iX T e s=.ok (.vals (w.map λc=>.str [c])) s1:=az h rfl
theorem CH{ak:Nat}(h:e s=.ok (.sref ak) s1)(h2:d7 ak T.stup=Y vs):iX T e s=.ok (.vals vs) s1:=az h (dR h2 U)
theorem ny{w:Int}(h:e s=.ok (.int w) s1)(h2:(aI (0<=w)&&aI (w<2^24))=S):nP e s=.ok (.vals ((List.range w.toNat).map λ(i:Nat)=>.int i)) s1:=az h (b4 h2 U)
theorem tq(h:e s=.ok (.obj i) ⟨A1,P1,B1⟩)(h2:P1[i]?=Y (.list xs)):iX T e s=.ok (.live i 0) ⟨A1,P1,B1⟩:=az h (kR h2 U)
theorem Tl(h:e s=.ok (.obj i) ⟨A1,P1,B1⟩)(h2:P1[i]?=Y (.tup xs)):iX T e s=.ok (.liveT i 0) ⟨A1,P1,B1⟩:=az h (kR h2 U)
theorem rx{α:Type}{xs:List α}{lo hi:J}{l u:Nat}(h1:zx 0 xs.length lo=Y l)(h2:zx xs.length xs.length hi=Y u)(hl:xs.length<=16777216):qJ xs lo hi=Y (cut xs l u):=by unfold qJ;refine h1▸h2▸?_;show(bif Nat.ble xs.length cj then Y (cut xs l u)else .none)=_;refine(Nat.ble_eq_true_of_le (show xs.length<=cj from hl))▸?_;rfl
theorem SW{α:Type}{xs:List α}{l u:Int}(hl:xs.length<=16777216):qJ xs (.int l) (.int u)=Y (cut xs (clip xs.length l) (clip xs.length u)):=rx U U hl
theorem yJ{n k:Nat}(h:k<=n):clip n (k:Int)=k:=by unfold clip;rw[decide_eq_false (by exact dh.mpr (z0 _))];show min k n=k;exact Nat.min_eq_left h
theorem Kj{α:Type}{xs:List α}{k:Nat}(hk:k<=xs.length)(hl:xs.length<=16777216):qJ xs .none (.int (k:Int))=Y (xs.take k):=by rw[rx (l:=0) (u:=k) U (by show Y (clip _ _)=_;rw[yJ hk]) hl];rfl
theorem FS{α:Type}{xs:List α}{k:Nat}(hk:k<=xs.length)(hl:xs.length<=16777216):qJ xs (.int (k:Int)) .none=Y (xs.drop k):=by rw[rx (l:=k) (u:=xs.length) (by show Y (clip _ _)=_;rw[yJ hk]) U hl];unfold cut;rw[List.take_of_length_le (Nat.le_refl _)]
section
variable{elt:M J}{x':J}{i' slot fl:Nat}{it:M It}{cond:Option (M Bool)}{cd:M Bool}{q:It}{bX:List J}
theorem oj(hh:B0=I)(hi:it ⟨A0,P0,B0⟩=.ok q ⟨A1,P1,B1⟩)(hs:slot<A1.length)(hl:kW (kO elt slot (cond.getD (M.ret S)) P1.length) fg q ⟨A1.set slot .unb,P1++[.list []],B1⟩=.ok v s2):kN elt slot it cond ⟨A0,P0,B0⟩=.ok (.obj P1.length) s2:=
 az (jW hh) (az hi (az (m:=o4 (.list [])) (f:=λo=>na o λi=>(cb slot .unb).bind λ_=>E2 ((kW (kO elt slot (cond.getD (M.ret S)) i) fg q).bind λ_=>M.ret o)) (a:=.obj P1.length) (s1:=⟨A1,P1++[.list []],B1⟩) rfl
  (az (m:=cb slot .unb) (f:=λ_=>E2 ((kW (kO elt slot (cond.getD (M.ret S)) P1.length) fg q).bind λ_=>M.ret (J.obj P1.length))) (jY (Nat.ble_eq_true_of_le hs)) (u4 (az hl U)))))
theorem lO(h:i8 q s=.ok .none s):kO elt slot cd i q s=.ok (.inr .none) s:=az h rfl
theorem oB{q':It}(h0:i8 q ⟨A0,P0,B0⟩=.ok (Y (x',q')) ⟨A0,P0,B0⟩)(hs:slot<A0.length)(hc:cd ⟨A0.set slot x',P0,B0⟩=.ok p ⟨A1,P1,B1⟩)(hp:p=S)(he:elt ⟨A1,P1,B1⟩=.ok v ⟨A2,P2,B2⟩)(h:P2[i]?=Y (.list xs))(hl:xs.length<16777216):
  kO elt slot cd i q ⟨A0,P0,B0⟩=.ok (.inl q') ⟨A2,P2.set i (.list (xs++[v])),B2⟩:=
 az h0 (az (jY (Nat.ble_eq_true_of_le hs)) (az hc (bq hp (az he (lV h (b4 (Nat.ble_eq_true_of_le hl) (az (s1:=⟨A2,P2.set i (.list (xs++[v])),B2⟩) U U)))))))
theorem Kf{q':It}(h0:i8 q ⟨A0,P0,B0⟩=.ok (Y (x',q')) ⟨A0,P0,B0⟩)(hs:slot<A0.length)(hc:cd ⟨A0.set slot x',P0,B0⟩=.ok p s1)(hp:p=I):kO elt slot cd i q ⟨A0,P0,B0⟩=.ok (.inl q') s1:=
 az h0 (az (jY (Nat.ble_eq_true_of_le hs)) (az hc (aM hp U)))
theorem qW{α:Type}{turn:α->M (Sum α J)}{a:α}(h:turn a s=.ok (.inr v) s1):kW turn (fl+1) a s=.ok v s1:=az h rfl
theorem um{α:Type}{turn:α->M (Sum α J)}{a b:α}(h:turn a s=.ok (.inl b) s1)(h2:kW turn fl b s1=R):kW turn (fl+1) a s=R:=az h h2
theorem AK:i8 (.vals []) s=.ok .none s:=rfl
theorem kL:i8 (.vals (x'::bX)) s=.ok (Y (x',.vals bX)) s:=rfl
theorem UC(h:P0[i']?=Y (.tup xs))(h2:xs[k]?=.none):i8 (.liveT i' k) ⟨A0,P0,B0⟩=.ok .none ⟨A0,P0,B0⟩:=Nk h (by rw[h2];rfl)
theorem CQ(h:P0[i']?=Y (.list xs))(h2:xs[k]?=.none):i8 (.live i' k) ⟨A0,P0,B0⟩=.ok .none ⟨A0,P0,B0⟩:=lV h (by rw[h2];rfl)
theorem FL(h:P0[i']?=Y (.list xs))(h2:xs[k]?=Y x'):i8 (.live i' k) ⟨A0,P0,B0⟩=.ok (Y (x',.live i' (k+1))) ⟨A0,P0,B0⟩:=lV h (by rw[h2];rfl)
end
end
section
def aD(X:List Nat)(h h':H):Prop:=h.length<=h'.length/\∀i,i<h.length->i∉X->h'[i]?=h[i]?
section
variable{X ae:List Nat}{h h1 h2:H}{i j:Nat}{o o':AO}
theorem aD.refl:aD X h h:=⟨Nat.le_refl _,λ_ _ _=>rfl⟩
theorem aD.trans(a:aD X h h1)(b:aD X h1 h2):aD X h h2:=⟨Nat.le_trans a.1 b.1,λi hi hx=>(b.2 i (Nat.lt_of_lt_of_le hi a.1) hx).trans (a.2 i hi hx)⟩
theorem aD.mono(a:aD X h h1)(s:∀i,i<h.length->i∈X->i∈ae):aD ae h h1:=⟨a.1,λi hi hy=>a.2 i hi λhx=>hy (s i hi hx)⟩
theorem aD.app{t:H}:aD X h (h++t):=⟨by simp only[List.length_append];exact bE [_,_] [] 0 [] (.v 0) (.a (.v 0) (.v 1)) U,λi hi _=>List.getElem?_append_left hi⟩
theorem aD.set(hi:i∈X):aD X h (h.set i o):=⟨by simp only[List.length_set];exact Nat.le_refl _,λj _ hj=>List.getElem?_set_ne (λe=>hj (by rw[<-e];exact hi))⟩
theorem aD.setNew(a:aD X h h1)(hi:h.length<=i):aD X h (h1.set i o):=⟨by simp only[List.length_set];exact a.1,λj hj hx=>(List.getElem?_set_ne (by exact Nat.ne_of_gt (bE [_,_,_] [(.v 0,.v 1),(.a (.v 2) (.l 1),.v 0)] 0 [1,1] (.a (.v 2) (.l 1)) (.v 1) U hi hj))).trans (a.2 j hj hx)⟩
theorem aD.get(a:aD X h h1)(e:h[i]?=Y o)(hx:i∉X):h1[i]?=Y o:=(a.2 i (qo e) hx).trans e
noncomputable def wG(o:AO):Nat:=match o with
 |.list _=>0
 |.tup _=>1
 |.dict _=>2
 |.inst C _=>C+10
 |.exn _ _ _=>3
 |.fd _=>4
theorem ff(e:h[i]?=Y o)(e2:h[j]?=Y o')(k:Nat.beq (wG o) (wG o')=I):i≠j:=λq=>by subst q;rw[e]at e2;obtain rfl:=sI e2;rw[Nat.beq_refl]at k;exact nF k
theorem hY{a:Nat}(h:i≠a):i∉[a]:=by simpa using h
theorem KM{a b:Nat}(h:i≠a)(h2:i≠b):i∉[a,b]:=by simp;exact⟨h,h2⟩
theorem qs{a b:Nat}(h:i∉[a,b]):i≠a/\i≠b:=⟨λe=>h (e▸.head _),λe=>h (e▸.tail _ (.head _))⟩
theorem EF{a b c:Nat}(h:i≠a)(h2:i≠b)(h3:i≠c):i∉[a,b,c]:=by simp;exact⟨h,h2,h3⟩
end
variable{L:Nat}{Z:List Int}{n:Nat}{hd:Bool}{h:H}{b:Nat}
inductive im(h:H)(b N:Nat):Prop where
 |mk (g sd:Int) (c:Nat) (sm:Bool) (e:h[b]?=Y (.list [.int g,.int sd,.int c,.bool sm])) (h1:0<=g) (h2:0<=sd) (h3:sd<2147483629) (h4:c<=N):im h b N
theorem Bx{g sd c:Int}{sm:J}{m:Int}(hb:h[b]?=Y (.list [.int g,.int sd,.int c,sm]))(hg:0<g)(hm:0<m)(hm2:m<1073741824):
  bI L Z (n+1) hd 845 [.obj b,.int m] [] h=.ok (.int (g.fmod m)) (h.set b (.list [.int (g.fdiv m),.int sd,.int c,sm])):=by
 apply bC NW (L0:=[.obj b,.int m,.unb,.unb,.unb]) rfl;have ix:∀{ah:List J},ah[0]?=Y (.obj b)->eB (au L Z) (B 0) (D (.int 0)) ⟨ah,h,hd⟩=.ok (.int g) ⟨ah,h,hd⟩:=λe=>gJ (bM e U) ao hb rfl;exact bF (aY (aK (aE (ix U) ao U)) (bq (decide_eq_true hg) (aG (bz (bj (ix U) aq (tR (by exact qN hm))) (bv U)) (aG (bz (bj (ix U) aq (zW hm hm2)) (Dm aq ao hb U)) (bF (bK aq))))))
noncomputable def Dd(sd c:Int):Int:=((sd+15485849*(c+1)+43)^5).fmod 2147483647
def VU(sd c m:Int):Int:=((((Dd sd c*48271+7879*(c+1))^3).fmod 2147483587).fdiv 64).fmod m
theorem Ey(sd c:Int):0<=Dd sd c/\Dd sd c<2147483647:=⟨fy _ (by decide),gU _ (by decide)⟩
theorem BQ{g sd:Int}{c:Nat}{sm:J}{m:Int}(hb:h[b]?=Y (.list [.int g,.int sd,.int c,sm]))(hg:¬0<g)(h1:0<=sd)(h2:sd<2147483629)(hc:c<100000)(hm:0<m):
  bI L Z (n+1) hd 845 [.obj b,.int m] [] h=.ok (.int (VU sd c m)) (h.set b (.list [.int g,.int sd,.int ((c:Int)+1),sm])):=by
 apply bC NW (L0:=[.obj b,.int m,.unb,.unb,.unb]) rfl;have hx:=Ey sd c;have s1:small (sd+15485849*((c:Int)+1)+43)=S:=jZ (by omega);have s2:small (Dd sd c*48271+7879*((c:Int)+1))=S:=jZ (by omega);have hb2:=dP (o:=.list [.int g,.int sd,.int ((c:Int)+1),sm]) hb;have i2:∀{ah:List J},ah[0]?=Y (.obj b)->eB (au L Z) (B 0) (D (.int 2)) ⟨ah,h.set b (.list [.int g,.int sd,.int ((c:Int)+1),sm]),hd⟩=.ok (.int ((c:Int)+1)) ⟨ah,h.set b (.list [.int g,.int sd,.int ((c:Int)+1),sm]),hd⟩:=λe=>gJ (bM e U) ao hb2 rfl;exact aG (aY (aK (aE (gJ aq ao hb U) ao U)) (aM (decide_eq_false hg) aZ)) (aG (bz (bj (gJ aq ao hb U) ao U) (Dm aq ao hb U))
  (aG (bz (bj (bj (bj (bj (gJ aq ao hb2 U) (bj ao (i2 U) (qy (CC U))) U) ao U) ao (Dg s1 (by decide) (by decide))) ao (tR (by decide))) (bv U))
   (bF (bK (bj (bj (bj (bj (bj (bj aq ao (qy (mB U))) (bj ao (i2 U) (qy (CC U))) U) ao (Dg s2 (by decide) (by decide))) ao (tR (by decide))) ao (zW (by decide) (by decide))) aq (tR (by exact qN hm)))))))
theorem CE{N:Nat}{m:Int}(ag:im h b N)(hN:N<100000)(hm:0<m)(hm2:m<1073741824):TI (λd h'=>bI L Z (n+1) hd 845 [.obj b,.int m] [] h=.ok (.int d) h') (λd _=>0<=d) (λd _=>d<m) (λ_ h'=>im h' b (N+1)) (λ_ h'=>aD [b] h h'):=by
 obtain⟨g,sd,c,sm,hb,h1,h2,h3,h4⟩:=ag
 by_cases hg:0<g
 ·exact⟨_,_,Bx hb hg hm hm2,fy _ hm,gU _ hm,⟨_,sd,c,sm,dP hb,Int.fdiv_nonneg h1 (by exact iO hm),h2,h3,by exact bE [_,_] [(.v 0,.v 1)] 0 [1] (.v 0) (.a (.v 1) (.l 1)) U h4⟩,aD.set (.head _)⟩
 ·exact⟨_,_,BQ hb hg h2 h3 (by exact bE [_,_] [(.a (.v 0) (.l 1),.l 100000),(.v 1,.v 0)] 0 [1,1] (.a (.v 1) (.l 1)) (.l 100000) U hN h4) hm,fy _ hm,gU _ hm,⟨g,sd,c+1,sm,dP hb,h1,h2,h3,by exact bE [_,_] [(.v 0,.v 1)] 0 [1] (.a (.v 0) (.l 1)) (.a (.v 1) (.l 1)) U h4⟩,aD.set (.head _)⟩
end
section
variable{L:Nat}{Z:List Int}{n:Nat}{hd:Bool}{h:H}{a b c d:J}
theorem uv{A0:List J}{P P':H}{ag:Bool}(e:P=P'):aH [] ⟨A0,P,ag⟩=.ok .nxt ⟨A0,P',ag⟩:=by subst e;rfl
theorem Hc{C:Nat}(ha:vQ a=Y a)(hb:vQ b=Y b)(h1:sO (au L Z) C 1=S)(h2:sO (au L Z) C 2=S)(h3:sO (au L Z) C 3=S)(h4:sO (au L Z) C 4=S)(h5:sO (au L Z) C 5=S)(h6:sO (au L Z) C 6=S):
  bI L Z (n+1) hd 37 [.obj h.length,a,b] [] (h++[.inst C []])=.ok .none (h++[.inst C [(1,a),(2,b),(3,.obj (h.length+1)),(4,.none),(5,.bool I),(6,.none)],.dict []]):=by
 apply j6 XS (L0:=[.obj h.length,a,b,.unb]) rfl;unfold XR;exact bQ (bM U ha) U h1 U (bQ (bM U hb) U h2 U (bQ kn U h3 U (bQ ao U h4 U (bQ ao U h5 U (bQ ao U h6 U (uv (by kernel_rfl)))))))
theorem Na{C:Nat}{A0:List J}{ms:List (M Fl)}{F:lJ St Fl}(hA0:A0[0]?=Y (.obj h.length))(hA1:A0[1]?=Y a)(hA2:A0[2]?=Y b)(ha:vQ a=Y a)(hb:vQ b=Y b)(h1:sO (au L Z) C 1=S)(h2:sO (au L Z) C 2=S)(h3:sO (au L Z) C 3=S)(h4:sO (au L Z) C 4=S)(h5:sO (au L Z) C 5=S)(h6:sO (au L Z) C 6=S)
  (k:aH ms ⟨A0,h++[.inst C [(1,a),(2,b),(3,.obj (h.length+1)),(4,.none),(5,.bool I),(6,.none)],.dict []],hd⟩=F):
  aH (iV (bk (au L Z) (bI L Z (n+1)) (D (.sref 40)) 0 (am "__init__") [B 0,B 1,B 2])::ms) ⟨A0,h++[.inst C []],hd⟩=F:=
 br (nA (aR ao (Wa U U (aB (bM hA0 U) (aB (bM hA1 ha) (aC (bM hA2 hb)))) (aO (Hc ha hb h1 h2 h3 h4 h5 h6))))) k
theorem SU{k:Int}{o:Nat}{x:List Nat}:bI L Z (n+2) hd 59 [.obj h.length,.int k,.obj o,.str x] [] (h++[.inst 62 []])=
  .ok .none (h++[.inst 62 [(1,.int k),(2,.obj o),(3,.obj (h.length+1)),(4,.none),(5,.bool I),(6,.none),(7,.str x)],.dict []]):=by
 apply j6 X6 (L0:=[.obj h.length,.int k,.obj o,.str x,.unb]) rfl;exact Na U U U U U U U U U U U (bQ aq U U U (uv (by kernel_rfl)))
theorem MG{k:Int}{o m:Nat}:bI L Z (n+2) hd 178 [.obj h.length,.int k,.obj o,.obj m] [] (h++[.inst 181 []])=
  .ok .none (h++[.inst 181 [(1,.int k),(2,.obj o),(3,.obj (h.length+1)),(4,.none),(5,.bool I),(6,.none),(9,.obj m),(10,.none)],.dict []]):=by
 apply j6 T4 (L0:=[.obj h.length,.int k,.obj o,.obj m,.unb]) rfl;exact Na U U U U U U U U U U U (bQ aq U U U (bQ ao U U U (uv (by kernel_rfl))))
theorem RO{k:Int}{o m:Nat}:bI L Z (n+2) hd 79 [.obj h.length,.int k,.obj o,.obj m] [] (h++[.inst 82 []])=
  .ok .none (h++[.inst 82 [(1,.int k),(2,.obj o),(3,.obj (h.length+1)),(4,.none),(5,.bool I),(6,.none),(8,.obj m)],.dict []]):=by
 apply j6 XU (L0:=[.obj h.length,.int k,.obj o,.obj m,.unb]) rfl;exact Na U U U U U U U U U U U (bQ (dy (aK (aE aq ao U)) (aM U aq)) U U U (uv (by kernel_rfl)))
theorem LM{k:Int}{x:List Nat}{ic:Bool}:bI L Z (n+2) hd 218 [.obj h.length,.int k,.none,.str x,.bool ic] [] (h++[.inst 228 []])=
  .ok .none (h++[.inst 228 [(1,.int k),(2,.none),(3,.obj (h.length+1)),(4,.none),(5,.bool I),(6,.none),(11,.str x),(12,.bool ic),(13,.none),(14,.none),(15,.obj (h.length+2)),(16,.obj (h.length+3)),(17,.obj (h.length+4)),(18,.obj (h.length+5)),(19,.none),(20,.none),(21,.none)],.dict [],.dict [],.dict [],.list [],.list []]):=by
 apply j6 WJ (L0:=[.obj h.length,.int k,.none,.str x,.bool ic,.none,.none,.unb]) rfl;exact Na U U U U U U U U U U U (bQ aq U U (by kernel_rfl) (bQ aq U U (by kernel_rfl) (bQ aq U U (by kernel_rfl) (bQ aq U U (by kernel_rfl)
  (bQ kn U U (by kernel_rfl) (bQ kn U U (by kernel_rfl) (bQ xh U U (by kernel_rfl) (bQ xh U U (by kernel_rfl) (bQ ao U U (by kernel_rfl) (bQ ao U U (by kernel_rfl) (bQ ao U U (by kernel_rfl) (uv (by kernel_rfl)))))))))))))
theorem Dr:bI L Z (n+1) hd 414 [.obj h.length] [] (h++[.inst 431 []])=.ok .none (h++[.inst 431 [(35,.str []),(36,.int 0),(37,.none)]]):=by apply j6 WV (L0:=[.obj h.length,.unb]) rfl;exact bQ ao U U U (bQ ao U U U (bQ ao U U U (uv (by kernel_rfl))))
theorem CR{w l:Nat}{x:List Nat}:bI L Z (n+1) hd 449 [.obj h.length,.obj w,.str x,.obj l] [] (h++[.inst 494 []])=.ok .none (h++[.inst 494 [(40,.obj w),(7,.str x),(41,.obj l),(42,.int 0),(43,.int 0)]]):=by apply j6 Vy (L0:=[.obj h.length,.obj w,.str x,.obj l,.unb]) rfl;exact bQ aq U U U (bQ aq U U U (bQ aq U U U (bQ ao U U U (bQ ao U U U (uv (by kernel_rfl))))))
noncomputable def zN(nt pr y mo gl ou:Nat)(k:Int)(rdy:Bool)(bX:List (Nat×J)):List (Nat×J):=
 (52,.obj nt)::(53,.obj pr)::(54,.none)::(37,.int 20000)::(55,.int 0)::(56,.int k)::(57,.int 8)::(58,.obj y)::(59,.obj mo)::(60,.int 0)::(61,.int 0)::(62,.obj gl)::(63,.obj ou)::(64,.bool rdy)::bX
def rl(bX:List (Nat×J)):Prop:=bX=[]\/∃v,bX=[(65,v)]
theorem rl.len{bX:List (Nat×J)}(hr:rl bX):bX.length<=1:=by
 rcases hr with rfl|⟨v,rfl⟩
 ·exact Nat.zero_le _
 ·exact Nat.le_refl _
theorem HU{nt pr y mo gl ou:Nat}{k:Int}{rdy:Bool}{bX:List (Nat×J)}(hr:rl bX):Nat.ble (zN nt pr y mo gl ou k rdy bX).length 100=S:=Nat.ble_eq_true_of_le (Nat.le_trans (Nat.add_le_add_right hr.len 14) (by decide))
theorem y9{α:Type}{m:Nat}:∀{fs:List (Nat×α)},((fs.map (·.1)).all λk=>!Nat.beq k m)=S->(d7 m fs).isNone=S
 |[],_=>rfl
 |p::r,h=>by
  rw[List.map_cons,List.all_cons,ax]at h;unfold d7;have q:Nat.beq p.1 m=I:=by induction q:Nat.beq p.1 m with|true=>rw[q]at h;exact nT h.1|false=>rfl
  exact q▸y9 h.2
theorem Yt{nt pr y mo gl ou m:Nat}{k:Int}{rdy:Bool}{bX:List (Nat×J)}(hr:rl bX)(hq:([52,53,54,37,55,56,57,58,59,60,61,62,63,64,65].all λk=>!Nat.beq k m)=S)(hx:nk fh 827=I):((d7 m (zN nt pr y mo gl ou k rdy bX)).isNone&&!nk (au L Z) 827)=S:=by
 have h1:(d7 m (zN nt pr y mo gl ou k rdy bX)).isNone=S:=by
  refine y9 ?_;rcases hr with rfl|⟨v,rfl⟩
  ·have:([52,53,54,37,55,56,57,58,59,60,61,62,63,64]++[65]).all (λk=>!Nat.beq k m)=S:=hq
   rw[List.all_append,ax]at this;exact this.1
  ·exact hq
 have h2:nk (au L Z) 827=I:=hx;simp only[h1,h2];rfl
inductive oY(h:H)(i:Nat)(nm:List Nat)(N:Nat):Prop where
 |mk (fs:List (Nat×J)) (a:h[i]?=Y (.inst 228 fs)) (b:d7 11 fs=Y (.str nm)) (c:d7 14 fs=Y .none) (d:d7 19 fs=Y .none) (e:fs.length<=N):oY h i nm N
abbrev Mod(h:H)(i:Nat)(nm:List Nat):Prop:=oY h i nm 30
def iH:List (List Nat×J):=(d7 561 fh.sdict).getD []
structure Vx(h:H)(w mo nt pr:Nat)(fs:List (Nat×J))(es:List (List Nat×J)):Prop where
 at':h[w]?=Y (.inst 827 fs)
 nat:h[nt]?=Y (.dict [])
 pre:h[pr]?=Y (.dict [])
 made:h[mo]?=Y (.dict es)
 n1:nt≠mo
 n2:pr≠mo
 nd:(es.map (·.1)).Nodup
 known:∀p∈es,(fE p.1 iH).isSome=S
 mods:∀p∈es,vD (λi=>p.2=.obj i) (λi=>Mod h i p.1)
inductive tg(h:H)(w mo:Nat)(rdy:Bool):Prop where
 |mk (nt pr y gl ou:Nat) (k:Int) (bX:List (Nat×J)) (es:List (List Nat×J)) (hr:rl bX) (W:Vx h w mo nt pr (zN nt pr y mo gl ou k rdy bX) es):tg h w mo rdy
inductive oQ(h:H)(mo:Nat)(nm:List Nat):Prop where
 |mk (es:List (List Nat×J)) (v:J) (a:h[mo]?=Y (.dict es)) (b:fE nm es=Y v):oQ h mo nm
theorem rQ{w mo:Nat}{rdy:Bool}(W:tg h w mo rdy):Iy (λk h'=>bI L Z (n+1) hd 608 [.obj w] [] h=.ok (.int k) h') (λ_ h'=>tg h' w mo rdy) (λ_ h'=>aD [w] h h'):=by
 obtain⟨nt,pr,y,gl,ou,k,bX,es,hr,W⟩:=W;refine⟨k+1,h.set w (.inst 827 (zN nt pr y mo gl ou (k+1) rdy bX)),?_,⟨nt,pr,y,gl,ou,k+1,bX,es,hr,dP W.at',iq (ff W.at' W.nat U) W.nat,iq (ff W.at' W.pre U) W.pre,iq (ff W.at' W.made U) W.made,W.n1,W.n2,W.nd,W.known,λp hp=>?_⟩,aD.set (.head _)⟩
 ·apply bC Wq (L0:=[.obj w,.unb]) rfl
  exact br (rq aq (i5 W.at' U) ao U (kM W.at' U (HU hr))) (bF (bK (bG aq (dP W.at') U)))
 ·obtain⟨i,e,fs,h1,h2,h3,h4,h5⟩:=W.mods p hp
  exact⟨i,e,fs,iq (ff W.at' h1 U) h1,h2,h3,h4,h5⟩
theorem o3{w mo m g:Nat}{rdy:Bool}{nm:aV}{es:List (M J)}{vs A:List J}{ag:Bool}{s1:St}{R:lJ St J}{G:cI}(W:tg h w mo rdy)(hm:fq (au L Z) 827 m=Y g)(hq:([52,53,54,37,55,56,57,58,59,60,61,62,63,64,65].all λk=>!Nat.beq k m)=S)(h2:db es ⟨A,h,ag⟩=.ok vs s1)(h3:fL G g (.obj w::vs) [] s1=R):
  uD (au L Z) G (.obj w) m nm es ⟨A,h,ag⟩=R:=
 let⟨_,_,_,_,_,_,_,_,hr,W⟩:=W;jM W.at' (cD hm (Yt hr hq U) h2 h3)
end
section
variable{L:Nat}{Z:List Int}{n:Nat}{hd:Bool}{h:H}{a b c d:J}
theorem nG:∀l:List Nat,eqL l l=S
 |[]=>rfl
 |a::r=>by show(Nat.beq a a&&eqL r r)=S;rw[Nat.beq_refl,nG r];rfl
theorem xv:∀{l m:List Nat},eqL l m=S->l=m
 |[],[],_=>rfl
 |[],_::_,h=>by exact nT h
 |_::_,[],h=>by exact nT h
 |a::r,b::q,h=>by have h2:=bN.mp h;exact(Nat.eq_of_beq_eq_true h2.1)▸(xv h2.2)▸rfl
theorem s7{α:Type}{k:List Nat}{v:α}:∀{es:List (List Nat×α)},fE k es=Y v->(k,v)∈es
 |[],h=>by exact nS h
 |p::r,h=>by unfold fE at h;induction q:eqL p.1 k with
  |true=>rw[q]at h;obtain rfl:=sI h;refine(xv q)▸?_;exact .head _
  |false=>rw[q]at h;exact .tail _ (s7 h)
theorem IZ{α:Type}{k:List Nat}:∀{es:List (List Nat×α)},fE k es=.none->k∉es.map (·.1)
 |[],_,m=>by cases m
 |p::r,h,m=>by unfold fE at h;induction q:eqL p.1 k with
  |true=>replace h:=q▸h;cases h
  |false=>
   replace h:=q▸h;rcases List.mem_cons.mp m with e|m
   ·have e:k=p.1:=e
    rw[e,nG]at q;exact nF q
   ·exact IZ h m
theorem mJ{α:Type}{k:List Nat}{v:α}:∀{es:List (List Nat×α)},fE k es=.none->nJ k v es=es++[(k,v)]
 |[],_=>rfl
 |p::r,h=>by unfold fE at h;unfold nJ;induction q:eqL p.1 k with
  |true=>rw[q]at h;exact TC h
  |false=>rw[q]at h;rw[mJ (by exact h)];rfl
theorem Cw{α:Type}{k:List Nat}{v:α}{fs:List (List Nat×α)}:∀{es:List (List Nat×α)},fE k es=Y v->fE k (es++fs)=Y v
 |[],h=>by exact nS h
 |p::r,h=>by refine List.cons_append▸?_;unfold fE at h⊢;induction q:eqL p.1 k with
  |true=>rw[q]at h;exact h
  |false=>rw[q]at h;exact Cw h
theorem Dp{α:Type}{k:List Nat}{v:α}:∀{es:List (List Nat×α)},fE k es=.none->fE k (es++[(k,v)])=Y v
 |[],_=>by show(bif eqL k k then Y v else .none)=_;rw[nG];rfl
 |p::r,h=>by rw[List.cons_append];unfold fE at h⊢;induction q:eqL p.1 k with
  |true=>rw[q]at h;exact TC h
  |false=>rw[q]at h;exact Dp h
theorem v9:∀{l m:List (List Nat)},l.Nodup->(∀x∈l,x∈m)->l.length<=m.length
 |[],_,_,_=>Nat.zero_le _
 |x::l,m,nd,s=>by have nd:=List.nodup_cons.mp nd;have h1:=s x (.head _);have h2:l.length<=(m.erase x).length:=v9 nd.2 λy hy=>(List.mem_erase_of_ne λe=>nd.1 (by exact e▸hy)).mpr (s y (.tail _ hy));rw[List.length_erase_of_mem h1]at h2;have:=List.length_pos_of_mem h1;refine List.length_cons▸?_;exact Nat.le_trans (Nat.succ_le_succ h2) (Nat.le_of_eq (Nat.sub_add_cancel this))
theorem BV:iH.length=40:=by kernel_rfl
theorem rR{es:List (List Nat×J)}(nd:(es.map (·.1)).Nodup)(k:∀p∈es,(fE p.1 iH).isSome=S):es.length<=40:=by refine BV▸(List.length_map (f:=(·.1)) (as:=es))▸(List.length_map (f:=(·.1)) (as:=iH))▸?_;refine v9 nd λx hx=>?_;obtain⟨p,hp,rfl⟩:=List.mem_map.mp hx;obtain⟨v,hv⟩:=bL.mp (k p hp);exact List.mem_map_of_mem (f:=(·.1)) (s7 hv)
theorem oY.get{h':H}{i N:Nat}{nm:List Nat}(M:oY h i nm N){X:List Nat}(K:aD X h h')(hx:i∉X):oY h' i nm N:=let⟨fs,a,b,c,d,e⟩:=M;⟨fs,K.get a hx,b,c,d,e⟩
theorem oY.ne{i j N:Nat}{nm:List Nat}{o:AO}(M:oY h i nm N)(e:h[j]?=Y o)(k:Nat.beq 238 (wG o)=I):i≠j:=let⟨_,a,_,_,_,_⟩:=M;ff a e k
theorem tA{α:Type}{k m:Nat}{v:α}(q:Nat.beq m k=I):∀{fs:List (Nat×α)},d7 k (lY m v fs)=d7 k fs
 |[]=>by show(bif Nat.beq m k then Y v else .none)=_;refine q▸?_;rfl
 |p::r=>by unfold lY;induction z:Nat.beq p.1 m with
  |true=>have z:=Nat.eq_of_beq_eq_true z;show(bif Nat.beq m k then Y v else d7 k r)=(bif Nat.beq p.1 k then Y p.2 else d7 k r);rw[z,q];rfl
  |false=>show(bif Nat.beq p.1 k then Y p.2 else d7 k (lY m v r))=(bif Nat.beq p.1 k then Y p.2 else d7 k r);rw[tA q]
theorem zq{α:Type}{m:Nat}{v:α}:∀{fs:List (Nat×α)},(lY m v fs).length<=fs.length+1
 |[]=>by show 1<=0+1;lia
 |p::r=>by unfold lY;induction z:Nat.beq p.1 m with
  |true=>exact Nat.le_succ _
  |false=>exact Nat.succ_le_succ zq
theorem oY.ok{i N:Nat}{nm:List Nat}(M:oY h i nm N)(hN:N<=30):Mod h i nm:=let⟨fs,a,b,c,d,e⟩:=M;⟨fs,a,b,c,d,Nat.le_trans e hN⟩
theorem Er{i k N:Nat}{nm:List Nat}{v:J}{A:List J}{hd:Bool}(M:oY h i nm N)(hN:N<=60)(hk:sO (au L Z) 228 k=S)(h11:Nat.beq k 11=I)(h14:Nat.beq k 14=I)(h19:Nat.beq k 19=I):
  J3 (λh'=>B6 (au L Z) k (.obj i) v ⟨A,h,hd⟩=.ok () ⟨A,h',hd⟩) (λh'=>oY h' i nm (N+1)) (λh'=>aD [i] h h'):=
 let⟨fs,a,b,c,d,e⟩:=M
 ⟨h.set i (.inst 228 (lY k v fs)),kM a hk (Nat.ble_eq_true_of_le (by lia)),⟨_,dP a,(tA h11).trans b,(tA h14).trans c,(tA h19).trans d,Nat.le_trans zq (Nat.succ_le_succ e)⟩,aD.set (.head _)⟩
def rm(o:AO):Bool:=!(Nat.beq (wG o) 2||Nat.beq (wG o) 837||Nat.beq (wG o) 238)
theorem tg.keep{X:List Nat}{h':H}{w mo:Nat}{rdy:Bool}(W:tg h w mo rdy)(K:aD X h h')(hx:∀i o,h[i]?=Y o->rm o=I->i∉X):tg h' w mo rdy:=by obtain⟨nt,pr,y,gl,ou,k,bX,es,hr,W⟩:=W;exact⟨nt,pr,y,gl,ou,k,bX,es,hr,K.get W.at' (hx _ _ W.at' U),K.get W.nat (hx _ _ W.nat U),K.get W.pre (hx _ _ W.pre U),K.get W.made (hx _ _ W.made U),W.n1,W.n2,W.nd,W.known,λp hp=>by obtain⟨i,e,fs,a,b,c,d,e2⟩:=W.mods p hp;exact⟨i,e,fs,K.get a (hx _ _ a U),b,c,d,e2⟩⟩
theorem oQ.keep{X:List Nat}{h':H}{mo:Nat}{nm:List Nat}(A:oQ h mo nm)(K:aD X h h')(hx:mo∉X):oQ h' mo nm:=let⟨es,v,a,b⟩:=A;⟨es,v,K.get a hx,b⟩
theorem tg.app{t:H}{w mo:Nat}{rdy:Bool}(W:tg h w mo rdy):tg (h++t) w mo rdy:=W.keep (aD.app (X:=[])) λ_ _ _ _ m=>by cases m
def Cl(h:H)(mo:Nat):Prop:=oQ h mo [67,108,97,115,115]->oQ h mo [77,111,100,117,108,101]
structure Dv(h h':H)(w mo:Nat)(rdy:Bool)(nm:List Nat)(i:Nat):Prop where
 mod:Mod h' i nm
 ok:tg h' w mo rdy
 keep:aD [w,mo] h h'
 has:∀k,oQ h mo k->oQ h' mo k
 new:oQ h' mo nm
 cl:Cl h mo->Cl h' mo
def Bs(L:Nat)(Z:List Int)(w mo:Nat)(rdy:Bool)(N:Nat)(nm:List Nat)(ah:List (List Nat)):Prop:=
 ∀n h,tg h w mo rdy->(∀k∈ah,oQ h mo k)->Tj (λi h'=>bI L Z (n+N) I 629 [.obj w,.str nm] [] h=.ok (.obj i) h') (λi h'=>Dv h h' w mo rdy nm i)
theorem ph{w mo:Nat}{rdy:Bool}{nm:List Nat}(W:tg h w mo rdy)(A:oQ h mo nm):vD (λi=>bI L Z (n+1) hd 629 [.obj w,.str nm] [] h=.ok (.obj i) h) (λi=>Dv h h w mo rdy nm i):=by
 obtain⟨nt,pr,y,gl,ou,k,bX,es,hr,W'⟩:=id W;obtain⟨es',v,a,b⟩:=id A;have:es'=es:=by replace a:=W'.made▸a;cases a;rfl
 subst this;obtain⟨i,e,M⟩:=W'.mods _ (s7 b);have e0:(fE nm es').getD .none=.obj i:=by rw[b];exact e
 refine⟨i,?_,M,W,aD.refl,λ_ x=>x,A,λc=>c⟩;apply bC N7 (L0:=[.obj w,.str nm,.unb,.unb]) rfl;exact br (s1:=⟨[.obj w,.str nm,.obj i,.unb],h,hd⟩) (bz (aR (bG aq W'.at' U) (jM W'.made (FD U (aC aq) W'.made))) (by rw[e0];rfl)) (bF (bK (dy (aK (aE aq ao U)) (aM U aq))))
theorem x7{w mo i:Nat}{rdy:Bool}{nm:List Nat}{h':H}{es:List (List Nat×J)}(W:tg h w mo rdy)(ha:h[mo]?=Y (.dict es))(hl:fE nm es=.none)(e:bI L Z n hd 634 [.obj w,.str nm] [] h=.ok (.obj i) h'):bI L Z (n+1) hd 629 [.obj w,.str nm] [] h=.ok (.obj i) h':=by
 obtain⟨nt,pr,y,gl,ou,k,bX,es',hr,W'⟩:=id W;have e0:(fE nm es).getD .none=.none:=by rw[hl];rfl
 refine bC (A0:=[.obj w,.str nm,.none,.unb]) (B0:=hd) N7 (L0:=[.obj w,.str nm,.unb,.unb]) U ?_;exact br (s1:=⟨[.obj w,.str nm,.none,.unb],h,hd⟩) (bz (aR (bG aq W'.at' U) (jM ha (FD U (aC aq) ha))) (by rw[e0];rfl)) (bF (bK (dy (aK (aE aq ao U)) (bq U (aR aq (o3 W U U (aC aq) (aO e)))))))
end
section
variable{L:Nat}{Z:List Int}{n:Nat}{hd:Bool}{h h0:H}{w mo i N:Nat}{rdy:Bool}{nm:List Nat}
theorem Bs.up{ah:List (List Nat)}{N':Nat}(ag:Bs L Z w mo rdy N nm ah)(hN:N<=N'):Bs L Z w mo rdy N' nm ah:=λn h W A=>by have:=ag (n+(N'-N)) h W A;replace this:=(show n+(N'-N)+N=n+N' by exact(Nat.add_assoc _ _ _).trans (congrArg _ (Nat.sub_add_cancel hN)))▸this;exact this
theorem Bs.more{ah S':List (List Nat)}(ag:Bs L Z w mo rdy N nm ah)(hS:∀k∈ah,k∈S'):Bs L Z w mo rdy N nm S':=λn h W A=>ag n h W λk hk=>A k (hS k hk)
theorem sh(W:tg h w mo rdy)(hn:nm.length<=1000):bI L Z (n+1) hd 641 [.obj w,.str nm] [] h=.ok .none h:=by obtain⟨nt,pr,y,gl,ou,k,bX,es,hr,W⟩:=W;have h1:∀{x:Nat},h[x]?=Y (.dict [])->∀A ag,p7 (au L Z) .In (.str (nm++[46])) (.obj x) ⟨A,h,ag⟩=.ok (.bool I) ⟨A,h,ag⟩:=λe A ag=>az (Gg e U) rfl;have hz:nm.length+[46].length<=16777216:=Nat.le_trans (Nat.add_le_add_right hn 1) (by decide);apply j6 U3 (L0:=[.obj w,.str nm,.unb]) rfl;refine bO (aY (qF (aK (aE (bj aq ao (cE hz)) (bG aq W.at' U) (h1 W.nat _ _))) (aM U (qF (aK (aE (bj aq ao (cE hz)) (bG aq W.at' U) (h1 W.pre _ _))) (aM U jk)))) (aM U aZ))
structure Mk(h0 h:H)(w mo:Nat)(rdy:Bool)(nm:List Nat)(i N:Nat):Prop where
 mod:oY h i nm N
 ok:tg h w mo rdy
 keep:aD [w,mo] h0 h
 has:∀k,oQ h0 mo k->oQ h mo k
 new:oQ h mo nm
 fresh:h0.length<=i
theorem Mk.nin(M:Mk h0 h w mo rdy nm i N):i∉[w,mo]:=
 let⟨_,_,_,_,_,_,_,_,_,W⟩:=M.ok;let⟨_,a,_,_,_,_⟩:=M.mod;KM (ff a W.at' U) (ff a W.made U)
theorem tg.list_nin{j:Nat}{xs:List J}(W:tg h w mo rdy)(e:h[j]?=Y (.list xs)):j∉[w,mo]:=
 let⟨_,_,_,_,_,_,_,_,_,W⟩:=W;KM (ff e W.at' U) (ff e W.made U)
theorem Mk.apart{X:List Nat}{h':H}(M:Mk h0 h w mo rdy nm i N)(K:aD X h h')(hx:∀i o,h[i]?=Y o->rm o=I->i∉X)(hf:∀x∈X,h0.length<=x):Mk h0 h' w mo rdy nm i N:=
 have hm:mo∉X:=let⟨_,_,_,_,_,_,_,_,_,W⟩:=M.ok;hx _ _ W.made rfl
 ⟨let⟨fs,a,b,c,d,e⟩:=M.mod;⟨fs,K.get a (hx _ _ a U),b,c,d,e⟩,M.ok.keep K hx,⟨Nat.le_trans M.keep.1 K.1,λj hj hn=>(K.2 j (Nat.lt_of_lt_of_le hj M.keep.1) (λm=>absurd (hf j m) (Nat.not_le.mpr hj))).trans (M.keep.2 j hj hn)⟩,λk A=>(M.has k A).keep K hm,M.new.keep K hm,M.fresh⟩
theorem Mk.app{t:H}(M:Mk h0 h w mo rdy nm i N):Mk h0 (h++t) w mo rdy nm i N:=M.apart (aD.app (X:=[])) (λ_ _ _ _ m=>by cases m) λ_ m=>by cases m
theorem Mk.set{j:Nat}{o p:AO}(M:Mk h0 h w mo rdy nm i N)(e:h[j]?=Y p)(hp:rm p=S)(hj:h0.length<=j):Mk h0 (h.set j o) w mo rdy nm i N:=M.apart (aD.set (.head _)) (λk q e2 hk m=>by rw[List.mem_singleton.mp m,e]at e2;obtain rfl:=sI e2;rw[hp]at hk;exact nF hk) λx m=>by simp only[List.mem_singleton.mp m];exact hj
theorem Mk.store{k:Nat}{v:J}{A:List J}(M:Mk h0 h w mo rdy nm i N)(hN:N<=29)(hk:sO (au L Z) 228 k=S)(h11:Nat.beq k 11=I)(h14:Nat.beq k 14=I)(h19:Nat.beq k 19=I):
  J3 (λh'=>B6 (au L Z) k (.obj i) v ⟨A,h,hd⟩=.ok () ⟨A,h',hd⟩) (λh'=>Mk h0 h' w mo rdy nm i (N+1)) (λh'=>∀k,oQ h mo k↔oQ h' mo k):=by
 obtain⟨h',e,M2,K⟩:=Er (L:=L) (Z:=Z) (v:=v) (A:=A) (hd:=hd) M.mod (Nat.le_trans hN (by decide)) hk h11 h14 h19;have hi:=qs M.nin;have hm:=hY (jP hi.2);refine⟨h',e,⟨M2,?_,⟨Nat.le_trans M.keep.1 K.1,λj hj hn=>(K.2 j (Nat.lt_of_lt_of_le hj M.keep.1) (λm=>by replace hj:=(List.mem_singleton.mp m)▸hj;exact absurd M.fresh (Nat.not_le.mpr hj))).trans (M.keep.2 j hj hn)⟩,λk A=>(M.has k A).keep K hm,M.new.keep K hm,M.fresh⟩,λk=>⟨λA=>A.keep K hm,λ⟨es,v,a,b⟩=>⟨es,v,by obtain⟨_,_,_,_,_,_,_,_,_,W⟩:=M.ok;have:=(K.get W.made hm).symm.trans a;exact this▸W.made,b⟩⟩⟩;obtain⟨nt,pr,y,gl,ou,kk,bX,es,hr,W⟩:=M.ok;obtain⟨fs,a,a1,_,_,_⟩:=M.mod;refine⟨nt,pr,y,gl,ou,kk,bX,es,hr,K.get W.at' (hY (jP hi.1)),K.get W.nat (hY (ff W.nat a U)),K.get W.pre (hY (ff W.pre a U)),K.get W.made hm,W.n1,W.n2,W.nd,W.known,λp hp=>?_⟩;obtain⟨j,ej,Mj⟩:=W.mods p hp;refine⟨j,ej,?_⟩
 by_cases hj:j=i
 ·obtain rfl:=Eq.symm hj
  obtain⟨fs2,a2,b2,_,_,_⟩:=Mj;replace a2:=a▸a2;cases a2;obtain⟨f3,a3,b3,c3,d3,e3⟩:=M2;replace a1:=b2▸a1;cases a1;exact⟨f3,a3,b3,c3,d3,Nat.le_trans e3 (Nat.succ_le_succ hN)⟩
 ·exact Mj.get K (hY hj)
theorem Mk.call{p:List Nat}{ah:List (List Nat)}{N':Nat}(M:Mk h0 h w mo rdy nm i N)(ag:Bs L Z w mo rdy N' p ah)(A:∀k∈ah,oQ h mo k):TI (λj h'=>bI L Z (n+N') I 629 [.obj w,.str p] [] h=.ok (.obj j) h') (λ_ h'=>Mk h0 h' w mo rdy nm i N) (λ_ h'=>oQ h' mo p/\(Cl h mo->Cl h' mo)) (λ_ h'=>aD [w,mo] h h') (λ_ h'=>∀k,oQ h mo k->oQ h' mo k):=by obtain⟨j,h',e,P⟩:=ag n h M.ok A;exact⟨j,h',e,⟨M.mod.get P.keep M.nin,P.ok,M.keep.trans P.keep,λk A=>P.has k (M.has k A),P.has _ M.new,M.fresh⟩,⟨P.new,P.cl⟩,P.keep,P.has⟩
end
section
variable{L:Nat}{Z:List Int}{n:Nat}{hd:Bool}{h h0:H}{w mo i N N':Nat}{rdy:Bool}{nm:List Nat}
noncomputable def vI(p:Option (List Nat)):J:=match p with
 |some x=>.str x
 |.none=>.none
def o5:List (List Nat×J):=(d7 564 fh.sdict).getD []
def Fk(nm:List Nat)(mix:Option (List Nat)):Prop:=match mix with
 |.none=>fE nm o5=.none
 |some o=>∃q,fE nm o5=Y (.sref q)/\d7 q fh.stup=Y [.str o]
theorem Jd{es:List (List Nat×J)}{fs:List (Nat×J)}{t:H}{k:Int}{bX:List (Nat×J)}{nt pr y gl ou:Nat}(hr:rl bX)(W:Vx h w mo nt pr (zN nt pr y mo gl ou k rdy bX) es)(hh:aD [w] h0 h)(hl:fE nm es=.none)(hk:(fE nm iH).isSome=S)(h0m:h0[mo]?=Y (.dict es))
  (f11:d7 11 fs=Y (.str nm)) (f14:d7 14 fs=Y .none) (f19:d7 19 fs=Y .none) (fl:fs.length<=17):Mk h0 ((h++.inst 228 fs::t).set mo (.dict (nJ nm (.obj h.length) es))) w mo rdy nm h.length 17:=by
 have hmo:h.length≠mo:=jP (Nat.ne_of_lt (qo W.made));have M:oY ((h++.inst 228 fs::t).set mo (.dict (nJ nm (.obj h.length) es))) h.length nm 17:=⟨fs,iq (jP hmo) sp,f11,f14,f19,fl⟩;have K:aD [mo] h ((h++.inst 228 fs::t).set mo (.dict (nJ nm (.obj h.length) es))):=aD.app.trans (aD.set (.head _));have e1:((h++.inst 228 fs::t).set mo (.dict (nJ nm (.obj h.length) es)))[mo]?=Y (.dict (nJ nm (.obj h.length) es)):=dP (bH W.made);have hn:=IZ hl;refine⟨M,⟨nt,pr,y,gl,ou,k,bX,_,hr,K.get W.at' (hY (ff W.at' W.made U)),K.get W.nat (hY W.n1),K.get W.pre (hY W.n2),e1,W.n1,W.n2,?_,?_,?_⟩,?_,?_,⟨_,_,e1,by exact(mJ hl)▸Dp hl⟩,?_⟩
 ·exact(mJ hl)▸List.map_append▸List.nodup_append.mpr ⟨W.nd,List.nodup_cons.mpr ⟨List.not_mem_nil,List.nodup_nil⟩,λa ha b hb e=>hn (by have hb:b=nm:=List.mem_singleton.mp hb;exact hb▸e▸ha)⟩
 ·intro p hp
  replace hp:=(mJ hl)▸hp;rcases List.mem_append.mp hp with hp|hp
  ·exact W.known p hp
  ·exact(List.mem_singleton.mp hp)▸hk
 ·intro p hp
  replace hp:=(mJ hl)▸hp;rcases List.mem_append.mp hp with hp|hp
  ·obtain⟨j,ej,Mj⟩:=W.mods p hp
   exact⟨j,ej,Mj.get K (hY (Mj.ne W.made U))⟩
  ·exact(List.mem_singleton.mp hp)▸⟨h.length,U,M.ok (by decide)⟩
 ·exact(hh.mono λi _ m=>by exact(List.mem_singleton.mp m)▸.head _).trans (K.mono λi _ m=>by exact(List.mem_singleton.mp m)▸.tail _ (.head _))
 ·rintro k' ⟨es',v,a,b⟩
  replace a:=h0m▸a;cases a;exact⟨_,v,e1,by exact(mJ hl)▸Cw b⟩
 ·exact hh.1
theorem Ef:d7 561 (au L Z).sdict=Y iH:=by kernel_rfl
theorem DH:d7 564 (au L Z).sdict=Y o5:=by kernel_rfl
theorem Cl.keep{X:List Nat}(c:Cl h mo)(W:tg h w mo rdy){h':H}(K:aD X h h')(hx:mo∉X:=by exact List.not_mem_nil):Cl h' mo:=by obtain⟨_,_,_,_,_,_,_,_,_,W⟩:=W;have e:=K.get W.made hx;rintro⟨es,v,a,b⟩;have:=e.symm.trans a;cases this;exact(c ⟨_,v,W.made,b⟩).keep K hx
theorem Q2{mix:Option (List Nat)}{ah:List (List Nat)}{A0:List J}{a3 a4 a2 a5:J}(hA0:A0=[.obj w,.str nm,a2,a3,a4,a5])(hm:Fk nm mix)(M:Mk h0 h w mo rdy nm i N)(Bm:∀o,mix=Y o->Bs L Z w mo rdy N' o ah)(hS:∀k∈ah,oQ h mo k)(hf:h0.length<=h.length):
  Yf (λj A h'=>kN (bk (au L Z) (bI L Z (n+N')) (B 0) 66 (am "builtin") [B 5]) 5 (iX (au L Z) (bk (au L Z) (bI L Z (n+N')) (D (.sref 564)) 68 (am "get") [B 1,mTup []])) .none ⟨A0,h,I⟩=.ok (.obj j) ⟨A,h',I⟩) (λ_ A _=>A[3]?=Y a3) (λ_ A _=>A[0]?=Y (.obj w)) (λ_ A _=>A[1]?=Y (.str nm)) (λ_ _ h'=>Mk h0 h' w mo rdy nm i N/\(Cl h mo->Cl h' mo)/\∀k,oQ h mo k->oQ h' mo k):=by
 subst hA0;induction mix with
 |none=>
  have e0:(fE nm o5).getD (.obj h.length)=.obj h.length:=by refine(show fE nm o5=.none from hm)▸?_;rfl
  refine⟨_,_,_,oj U (Tl (i:=h.length) (aR ao (by have:=W9 (T:=au L Z) (G:=bI L Z (n+N')) (n:=68) (nm:=am "get") (es:=[B 1,mTup []]) (DH (L:=L) (Z:=Z)) U (aB (bM (A0:=[.obj w,.str nm,a2,a3,a4,a5]) (P0:=h) (B0:=I) (i:=1) U U) (aC (gm cx U)));replace this:=e0▸this;exact this)) ba) (by show 5<6;decide) (qW (lO (UC (bH ba) U))),U,U,U,M.app.app,λc=>c.keep M.ok (aD.app.trans aD.app),λk A=>A.keep (aD.app.trans aD.app) (X:=[]) List.not_mem_nil⟩
 |some o=>
  obtain⟨q,hq,hq2⟩:=hm;have e0:(fE nm o5).getD (.obj h.length)=.sref q:=by refine hq▸?_;rfl
  have M1:Mk h0 ((h++[.tup []])++[.list []]) w mo rdy nm i N:=M.app.app;have hK:aD [] h ((h++[.tup []])++[.list []]):=aD.app.trans aD.app;obtain⟨m,h1,e1,M2,⟨_,C2⟩,K2,H2⟩:=M1.call (n:=n) (Bm o U) λk hk=>(hS k hk).keep hK List.not_mem_nil;have hL:h1[(h++[AO.tup []]).length]?=Y (.list []):=K2.get ba (M1.ok.list_nin ba);have nL:mo∉[(h++[AO.tup []]).length]:=λq=>M2.ok.list_nin hL (by exact(List.mem_singleton.mp q)▸.tail _ (.head _));refine⟨_,_,_,oj U (CH (ak:=q) (aR ao (by have:=W9 (T:=au L Z) (G:=bI L Z (n+N')) (n:=68) (nm:=am "get") (es:=[B 1,mTup []]) (DH (L:=L) (Z:=Z)) U (aB (bM (A0:=[.obj w,.str nm,a2,a3,a4,a5]) (P0:=h) (B0:=I) (i:=1) U U) (aC (gm cx U)));replace this:=e0▸this;exact this)) hq2) (by show 5<6;decide) (um (oB kL (by show 5<6;decide) U U (aR aq (o3 M1.ok U U (aC aq) (aO e1))) hL (by decide)) (qW (lO AK))),U,U,U,M2.set hL U (by refine List.length_append▸?_;exact bE [_,_] [(.v 0,.v 1)] 0 [1] (.v 0) (.a (.v 1) (.a (.l 0) (.l 1))) U hf),λc=>(C2 (c.keep M.ok hK)).keep M2.ok (aD.set (X:=[(h++[AO.tup []]).length]) (.head _)) nL,λk A=>(H2 k (A.keep hK List.not_mem_nil)).keep (aD.set (X:=[(h++[AO.tup []]).length]) (.head _)) nL⟩
end
section
variable{L:Nat}{Z:List Int}{n:Nat}{hd:Bool}{h h0:H}{w mo i N N':Nat}{rdy:Bool}{nm:List Nat}
noncomputable def mw(ic:Bool):List Nat:=bif ic then[67,108,97,115,115]else[77,111,100,117,108,101]
theorem Cl.iff{h':H}(e:∀k,oQ h mo k↔oQ h' mo k)(c:Cl h mo):Cl h' mo:=λa=>(e _).mp (c ((e _).mpr a))
theorem yZ{k:List Nat}{v:J}(q:nm≠k):∀{es:List (List Nat×J)},fE k (es++[(nm,v)])=fE k es
 |[]=>by show(bif eqL nm k then Y v else .none)=_;induction z:eqL nm k with
  |true=>exact absurd (xv z) q
  |false=>rfl
 |p::r=>by show(bif eqL p.1 k then Y p.2 else fE k (r++[(nm,v)]))=(bif eqL p.1 k then Y p.2 else fE k r);rw[yZ q]
theorem Kv{x y:List Nat}(h:Y (J.str x)=Y (J.str y)):x=y:=by cases h;rfl
theorem sr{ic:Bool}{par mix:Option (List Nat)}{ah:List (List Nat)}(hic:∀s,p7 (au L Z) .NotIn (.str nm) (.sref 560) s=.ok (.bool ic) s)(hk:(fE nm iH).isSome=S)(hp:fE nm iH=Y (vI par))(hm:Fk nm mix)(hn:nm.length<=1000)
  (Bp:∀p,par=Y p->Bs L Z w mo rdy (N+2) p (nm::ah)) (Bo:Bs L Z w mo rdy (N+2) (mw ic) (nm::(par.toList++ah))) (Bm:∀o,mix=Y o->Bs L Z w mo rdy (N+2) o (nm::mw ic::(par.toList++ah))) {n:Nat} {h:H} (W:tg h w mo rdy) (A:∀k∈ah,oQ h mo k) (hl0:∀es,h[mo]?=Y (.dict es)->fE nm es=.none):Tj (λi h'=>bI L Z (n+(N+4)) I 629 [.obj w,.str nm] [] h=.ok (.obj i) h') (λi h'=>Dv h h' w mo rdy nm i/\(∀p∈par.toList,oQ h' mo p)/\oQ h' mo (mw ic)):=by
 obtain⟨nt,pr,y,gl,ou,k0,bX,es,hr,W0⟩:=id W;have hl:=hl0 es W0.made
 suffices hs:Tj (λv h'=>bI L Z (n+(N+2)+1) I 634 [.obj w,.str nm] [] h=.ok v h') (λv h'=>∃i,v=.obj i/\Dv h h' w mo rdy nm i/\(∀p∈par.toList,oQ h' mo p)/\oQ h' mo (mw ic)) by obtain⟨v,h',e,i,rfl,P⟩:=hs;exact⟨i,h',x7 (n:=n+(N+3)) W W0.made hl e,P⟩
 obtain⟨k,h1,e1,W1,K1⟩:=rQ (L:=L) (Z:=Z) (n:=n+(N+1)) (hd:=I) W;obtain⟨nt1,pr1,y1,gl1,ou1,k1,rest1,es1,hr1,W1'⟩:=id W1;have hmow:mo≠w:=ff W0.made W0.at' rfl;have e3:es1=es:=by have:=(K1.get W0.made (hY hmow)).symm.trans W1'.made;cases this;rfl
 subst e3;have e2:=LM (L:=L) (Z:=Z) (n:=n+N) (hd:=I) (h:=h1) (k:=k) (x:=nm) (ic:=ic);have M3:=Jd (rdy:=rdy) (t:=[.dict [],.dict [],.dict [],.list [],.list []]) (fs:=[(1,.int k),(2,.none),(3,.obj (h1.length+1)),(4,.none),(5,.bool I),(6,.none),(11,.str nm),(12,.bool ic),(13,.none),(14,.none),(15,.obj (h1.length+2)),(16,.obj (h1.length+3)),(17,.obj (h1.length+4)),(18,.obj (h1.length+5)),(19,.none),(20,.none),(21,.none)]) hr1 W1' K1 hl hk W0.made U U U (Nat.le_refl _);have hS0:∀{h':H}{N},Mk h h' w mo rdy nm h1.length N->∀k∈nm::ah,oQ h' mo k:=λM k hk=>by
  rcases List.mem_cons.mp hk with e|hk
  ·exact e▸M.new
  ·exact M.has k (A k hk)
 refine Co WB (L0:=[.obj w,.str nm,.unb,.unb,.unb,.unb]) U ?_;unfold Ou;refine bU (s1:=⟨[.obj w,.str nm,.bool ic,.unb,.unb,.unb],h,I⟩) (bz (aE aq ao (hic _)) U) ?_;refine bU (s1:=⟨[.obj w,.str nm,.bool ic,.obj h1.length,.unb,.unb],_,I⟩) (bz (aJ U (aB (aR aq (o3 W U U cx (aO e1))) (aB ao (aB aq (aC aq)))) (nW U U U e2)) U) ?_;refine bU (s1:=⟨[.obj w,.str nm,.bool ic,.obj h1.length,.unb,.unb],_,I⟩) (bz aq (Kb (bG aq (bH W1'.at') U) aq (bH W1'.made) (Nat.lt_of_le_of_lt (rR W1'.nd W1'.known) (by decide)))) ?_;obtain⟨h4,e4,M4,H34⟩:=M3.store (hd:=I) (L:=L) (Z:=Z) (k:=20) (v:=.str nm) (A:=[.obj w,.str nm,.bool ic,.obj h1.length,.unb,.unb]) (by decide) U U U rfl;refine bU (s1:=⟨[.obj w,.str nm,.bool ic,.obj h1.length,.unb,.unb],h4,I⟩) (bz aq (az aq e4)) ?_;refine bU (s1:=⟨[.obj w,.str nm,.bool ic,.obj h1.length,vI par,.unb],h4,I⟩) (bz (Ds ao aq (by exact Ef▸hp)) U) ?_;have C4:nm≠[67,108,97,115,115]->Cl h mo->Cl h4 mo:=λq c a=>by
  have a3:=(H34 _).mpr a;obtain⟨es',v,x,y⟩:=a3;have:es'=nJ nm (.obj h1.length) es1:=by have:=x.symm.trans (dP (bH W1'.made));cases this;rfl
  subst this;replace y:=(mJ hl)▸y;induction z:fE [67,108,97,115,115] es1 with
  |some v2=>exact(H34 _).mp (M3.has _ (c ⟨_,v2,W0.made,z⟩))
  |none=>replace y:=(yZ q)▸y;replace y:=z▸y;cases y
 have hpar:Iy (λv h5=>fB (bJ (aW (au L Z) .Is (B 4) (D .none))) (D .none) (bk (au L Z) (bI L Z (n+(N+2))) (B 0) 66 (am "builtin") [B 4]) ⟨[.obj w,.str nm,.bool ic,.obj h1.length,vI par,.unb],h4,I⟩=.ok v ⟨[.obj w,.str nm,.bool ic,.obj h1.length,vI par,.unb],h5,I⟩) (λ_ h5=>Mk h h5 w mo rdy nm h1.length 18) (λ_ h5=>(∀p∈par.toList,oQ h5 mo p)/\(Cl h mo->Cl h5 mo)):=by clear Bo Bm;induction par with
  |none=>exact⟨.none,h4,dy (aK (aE aq ao U)) (bq U ao),M4,(λp hp=>by cases hp),λc=>C4 (λe=>by replace hp:=e▸hp;have:=hp.symm.trans (show fE [67,108,97,115,115] iH=Y (.str [77,111,100,117,108,101]) by kernel_rfl);cases this) c⟩
  |some p=>
   obtain⟨j,h5,e5,M5,⟨H5,C5⟩,_⟩:=M4.call (n:=n) (Bp p U) (hS0 M4);refine⟨.obj j,h5,dy (aK (aE aq ao U)) (aM U (aR aq (o3 M4.ok U U (aC aq) (aO e5)))),M5,(λq hq=>by exact(List.mem_singleton.mp hq)▸H5),λc=>?_⟩
   by_cases q:nm=[67,108,97,115,115]
   ·have e2:p=[77,111,100,117,108,101]:=Kv (hp.symm.trans ((congrArg (fE · iH) q).trans (by kernel_rfl)))
    exact λ_=>e2▸H5
   ·exact C5 (C4 q c)
 obtain⟨v5,h5,e5,M5,H5,C5⟩:=hpar;obtain⟨h6,e6,M6,H56⟩:=M5.store (hd:=I) (L:=L) (Z:=Z) (k:=13) (v:=v5) (A:=[.obj w,.str nm,.bool ic,.obj h1.length,vI par,.unb]) (by decide) U U U rfl;refine bU (bz e5 (az aq e6)) ?_;obtain⟨j7,h7,e7,M7,⟨H7,C7⟩,_,H67⟩:=M6.call (n:=n) Bo (λk hk=>by
  rcases List.mem_cons.mp hk with e|hk
  ·exact e▸M6.new
  ·rcases List.mem_append.mp hk with hk|hk
   ·exact(H56 _).mp (H5 k hk)
   ·exact M6.has k (A k hk))
 obtain⟨h8,e8,M8,H78⟩:=M7.store (hd:=I) (L:=L) (Z:=Z) (k:=2) (v:=.obj j7) (A:=[.obj w,.str nm,.bool ic,.obj h1.length,vI par,.unb]) (by decide) U U U rfl;have hon:fB (bJ (B 2)) (D (.str [67,108,97,115,115])) (D (.str [77,111,100,117,108,101])) ⟨[.obj w,.str nm,.bool ic,.obj h1.length,vI par,.unb],h6,I⟩=.ok (.str (mw ic)) ⟨[.obj w,.str nm,.bool ic,.obj h1.length,vI par,.unb],h6,I⟩:=by induction ic<;>rfl
 refine bU (bz (aR aq (o3 M6.ok U U (aC hon) (aO e7))) (az aq e8)) ?_;obtain⟨j9,A9,h9,e9,a3,a0,a1,M9,C9,H89⟩:=Q2 (n:=n) (N':=N+2) (A0:=[.obj w,.str nm,.bool ic,.obj h1.length,vI par,.unb]) U hm M8 Bm (λk hk=>by
  rcases List.mem_cons.mp hk with e|hk
  ·exact e▸M8.new
  ·rcases List.mem_cons.mp hk with e|hk
   ·exact e▸(H78 _).mp H7
   ·rcases List.mem_append.mp hk with hk|hk
    ·exact(H78 _).mp (H67 _ ((H56 _).mp (H5 k hk)))
    ·exact M8.has k (A k hk)) M8.keep.1
 obtain⟨h10,e10,M10,H910⟩:=M9.store (hd:=I) (L:=L) (Z:=Z) (k:=17) (v:=.obj j9) (A:=A9) (by decide) U U U rfl;refine bU (bz e9 (az (bM a3 U) e10)) ?_;obtain⟨_,_,_,_,_,_,_,_,_,W10⟩:=id M10.ok;have e11:=sh (L:=L) (Z:=Z) (n:=n+(N+1)) (hd:=I) M10.ok hn;refine bU (s1:=⟨A9,h10,I⟩) (aY (aK (bG (bM a0 U) W10.at' U)) ?_) (nM (bK (bM a3 U)) ⟨_,U,⟨M10.mod.ok (by decide),M10.ok,M10.keep,M10.has,M10.new,λc=>Cl.iff (λk=>H910 k) (C9 (Cl.iff (λk=>H78 k) (C7 (Cl.iff (λk=>H56 k) (C5 c)))))⟩,λp hp=>(H910 _).mp (H89 _ ((H78 _).mp (H67 _ ((H56 _).mp (H5 p hp))))),(H910 _).mp (H89 _ ((H78 _).mp H7))⟩);exact(Bool.eq_false_or_eq_true rdy).elim (λe=>bq e (bO (nA (aR (bM a0 U) (o3 M10.ok U U (aC (bM a1 U)) (aO e11)))))) λe=>aM e aZ
theorem gI{ic:Bool}{par mix:Option (List Nat)}{ah:List (List Nat)}(hic:∀s,p7 (au L Z) .NotIn (.str nm) (.sref 560) s=.ok (.bool ic) s)(hk:(fE nm iH).isSome=S)(hp:fE nm iH=Y (vI par))(hm:Fk nm mix)(hn:nm.length<=1000)
  (Bp:∀p,par=Y p->Bs L Z w mo rdy (N+2) p (nm::ah)) (Bo:Bs L Z w mo rdy (N+2) (mw ic) (nm::(par.toList++ah))) (Bm:∀o,mix=Y o->Bs L Z w mo rdy (N+2) o (nm::mw ic::(par.toList++ah))):Bs L Z w mo rdy (N+4) nm ah:=λn h W A=>by
 obtain⟨nt,pr,y,gl,ou,k0,bX,es,hr,W0⟩:=id W;cases hl:fE nm es with
 |some v=>obtain⟨i,e,P⟩:=ph (L:=L) (Z:=Z) (n:=n+(N+3)) (hd:=I) W ⟨es,v,W0.made,hl⟩;exact⟨i,h,e,P⟩
 |none=>obtain⟨i,h',e,P,_⟩:=sr (n:=n) hic hk hp hm hn Bp Bo Bm W A (λes2 e2=>by have:=e2.symm.trans W0.made;cases this;exact hl);exact⟨i,h',e,P⟩
end
section
variable{L:Nat}{Z:List Int}{n:Nat}{hd:Bool}{h h0:H}{w mo i N N':Nat}{rdy:Bool}{nm:List Nat}
noncomputable abbrev ja:List Nat:=[79,98,106,101,99,116]
noncomputable abbrev f9:List Nat:=[66,97,115,105,99,79,98,106,101,99,116]
noncomputable abbrev w4:List Nat:=[67,108,97,115,115]
noncomputable abbrev xH:List Nat:=[77,111,100,117,108,101]
noncomputable abbrev CK:List Nat:=[75,101,114,110,101,108]
noncomputable abbrev sf:List Nat:=[67,111,109,112,97,114,97,98,108,101]
noncomputable abbrev so:List Nat:=[69,110,117,109,101,114,97,98,108,101]
noncomputable abbrev KY:List Nat:=[83,116,114,105,110,103]
noncomputable abbrev Pi:List Nat:=[65,114,114,97,121]
noncomputable abbrev uS:List Nat:=[69,120,99,101,112,116,105,111,110]
noncomputable abbrev km:List Nat:=[83,116,97,110,100,97,114,100,69,114,114,111,114]
noncomputable abbrev aU:List Nat:=[65,114,103,117,109,101,110,116,69,114,114,111,114]
noncomputable abbrev d5:List Nat:=[84,121,112,101,69,114,114,111,114]
abbrev base:List (List Nat):=[ja,f9,w4,xH]
theorem qD{ah:List (List Nat)}(hS:nm∈ah):Bs L Z w mo rdy 2 nm ah:=λn h W A=>let⟨i,e,P⟩:=ph (n:=n+1) W (A nm hS);⟨i,h,e,P⟩
theorem DD:Bs L Z w mo rdy 4 xH [ja,f9,w4]:=gI (N:=0) (ic:=S) (par:=(Y ja)) (mix:=.none) (λ_=>rfl) (by kernel_rfl) (by kernel_rfl) (show fE _ o5=.none by kernel_rfl) (by decide) (λ_ e=>by cases e;exact qD (by decide)) (qD (by decide)) (λ_ e=>by cases e)
theorem GF:Bs L Z w mo rdy 6 w4 [ja,f9]:=gI (N:=2) (ic:=S) (par:=(Y xH)) (mix:=.none) (λ_=>rfl) (by kernel_rfl) (by kernel_rfl) (show fE _ o5=.none by kernel_rfl) (by decide) (λ_ e=>by obtain rfl:=sI e;exact DD.more (by decide)) ((qD (by decide)).up (by decide)) (λ_ e=>by cases e)
theorem w6:Bs L Z w mo rdy 8 f9 [ja]:=gI (N:=4) (ic:=S) (par:=.none) (mix:=.none) (λ_=>rfl) (by kernel_rfl) (by kernel_rfl) (show fE _ o5=.none by kernel_rfl) (by decide) (λ_ e=>by exact nS e) (GF.more (by decide)) (λ_ e=>by exact nS e)
theorem Lq:Bs L Z w mo rdy 6 CK [ja,f9,w4]:=gI (N:=2) (ic:=I) (par:=.none) (mix:=.none) (λ_=>rfl) (by kernel_rfl) (by kernel_rfl) (show fE _ o5=.none by kernel_rfl) (by decide) (λ_ e=>by exact nS e) (DD.more (by decide)) (λ_ e=>by exact nS e)
theorem yO:Bs L Z w mo rdy 4 sf base:=gI (N:=0) (ic:=I) (par:=.none) (mix:=.none) (λ_=>rfl) (by kernel_rfl) (by kernel_rfl) (show fE _ o5=.none by kernel_rfl) (by decide) (λ_ e=>by exact nS e) (qD (by decide)) (λ_ e=>by exact nS e)
theorem yy:Bs L Z w mo rdy 4 so base:=gI (N:=0) (ic:=I) (par:=.none) (mix:=.none) (λ_=>rfl) (by kernel_rfl) (by kernel_rfl) (show fE _ o5=.none by kernel_rfl) (by decide) (λ_ e=>by exact nS e) (qD (by decide)) (λ_ e=>by exact nS e)
theorem AH:Bs L Z w mo rdy 4 uS base:=gI (N:=0) (ic:=S) (par:=(Y ja)) (mix:=.none) (λ_=>rfl) (by kernel_rfl) (by kernel_rfl) (show fE _ o5=.none by kernel_rfl) (by decide) (λ_ e=>by obtain rfl:=sI e;exact qD (by decide)) (qD (by decide)) (λ_ e=>by cases e)
theorem MH:Bs L Z w mo rdy 6 KY base:=gI (N:=2) (ic:=S) (par:=(Y ja)) (mix:=(Y sf)) (λ_=>rfl) (by kernel_rfl) (by kernel_rfl) (⟨567,by kernel_rfl,by kernel_rfl⟩) (by decide) (λ_ e=>by obtain rfl:=sI e;exact(qD (by decide)).up (by decide)) ((qD (by decide)).up (by decide)) (λ_ e=>by obtain rfl:=sI e;exact yO.more (by decide))
theorem Q4:Bs L Z w mo rdy 6 Pi base:=gI (N:=2) (ic:=S) (par:=(Y ja)) (mix:=(Y so)) (λ_=>rfl) (by kernel_rfl) (by kernel_rfl) (⟨569,by kernel_rfl,by kernel_rfl⟩) (by decide) (λ_ e=>by obtain rfl:=sI e;exact(qD (by decide)).up (by decide)) ((qD (by decide)).up (by decide)) (λ_ e=>by obtain rfl:=sI e;exact yy.more (by decide))
theorem nx:Bs L Z w mo rdy 6 km base:=gI (N:=2) (ic:=S) (par:=(Y uS)) (mix:=.none) (λ_=>rfl) (by kernel_rfl) (by kernel_rfl) (show fE _ o5=.none by kernel_rfl) (by decide) (λ_ e=>by obtain rfl:=sI e;exact AH.more (by decide)) ((qD (by decide)).up (by decide)) (λ_ e=>by cases e)
theorem dZ:Bs L Z w mo rdy 8 aU base:=gI (N:=4) (ic:=S) (par:=(Y km)) (mix:=.none) (λ_=>rfl) (by kernel_rfl) (by kernel_rfl) (show fE _ o5=.none by kernel_rfl) (by decide) (λ_ e=>by obtain rfl:=sI e;exact nx.more (by decide)) ((qD (by decide)).up (by decide)) (λ_ e=>by cases e)
theorem pO:Bs L Z w mo rdy 8 d5 base:=gI (N:=4) (ic:=S) (par:=(Y km)) (mix:=.none) (λ_=>rfl) (by kernel_rfl) (by kernel_rfl) (show fE _ o5=.none by kernel_rfl) (by decide) (λ_ e=>by obtain rfl:=sI e;exact nx.more (by decide)) ((qD (by decide)).up (by decide)) (λ_ e=>by cases e)
end
section
variable{L:Nat}{Z:List Int}{n:Nat}{hd:Bool}{h h':H}{w mo i N:Nat}{nm:List Nat}
structure Wo(h:H)(w mo:Nat):Prop where
 ok:tg h w mo S
 has:∀k∈base,oQ h mo k
theorem Wo.keep{X:List Nat}(W:Wo h w mo)(K:aD X h h')(hx:∀i o,h[i]?=Y o->rm o=I->i∉X):Wo h' w mo:=
 ⟨W.ok.keep K hx,λk hk=>(W.has k hk).keep K (let⟨_,_,_,_,_,_,_,_,_,W⟩:=W.ok;hx _ _ W.made U)⟩
theorem Wo.app{t:H}(W:Wo h w mo):Wo (h++t) w mo:=W.keep (aD.app (X:=[])) λ_ _ _ _ m=>by cases m
theorem Wo.set{o p:AO}(W:Wo h w mo)(e:h[i]?=Y p)(hp:rm p=S):Wo (h.set i o) w mo:=W.keep (aD.set (.head _)) λk q e2 hk m=>by rw[List.mem_singleton.mp m,e]at e2;obtain rfl:=sI e2;rw[hp]at hk;exact nF hk
theorem Wo.nin{p:AO}(W:Wo h w mo)(e:h[i]?=Y p)(hp:rm p=S):i∉[w,mo]:=
 let⟨_,_,_,_,_,_,_,_,_,W⟩:=W.ok
 KM (λq=>by obtain rfl:=Eq.symm q;rw[W.at']at e;obtain rfl:=sI e;cases hp) (λq=>by obtain rfl:=Eq.symm q;rw[W.made]at e;obtain rfl:=sI e;cases hp)
theorem Wo.lt(W:Wo h w mo):w<h.length/\mo<h.length:=let⟨_,_,_,_,_,_,_,_,_,W⟩:=W.ok;⟨qo W.at',qo W.made⟩
theorem Wo.number(W:Wo h w mo):Iy (λk h'=>bI L Z (n+1) hd 608 [.obj w] [] h=.ok (.int k) h') (λ_ h'=>Wo h' w mo) (λ_ h'=>aD [w,mo] h h'):=by obtain⟨k,h',e,W1,K⟩:=rQ (L:=L) (Z:=Z) (n:=n) (hd:=hd) W.ok;exact⟨k,h',e,⟨W1,λk hk=>(W.has k hk).keep K (hY (let⟨_,_,_,_,_,_,_,_,_,W⟩:=W.ok;ff W.made W.at' U))⟩,K.mono λi _ m=>by rw[List.mem_singleton.mp m];exact .head _⟩
theorem Wo.builtin(W:Wo h w mo)(ag:Bs L Z w mo S N nm base):Ai (λi h'=>bI L Z (n+N) I 629 [.obj w,.str nm] [] h=.ok (.obj i) h') (λi h'=>Mod h' i nm) (λ_ h'=>Wo h' w mo) (λ_ h'=>aD [w,mo] h h'):=
 let⟨i,h',e,P⟩:=ag n h W.ok W.has;⟨i,h',e,P.mod,⟨P.ok,λk hk=>P.has k (W.has k hk)⟩,P.keep⟩
inductive dY(h:H)(i:Nat)(x:List Nat):Prop where
 |mk (fs:List (Nat×J)) (a:h[i]?=Y (.inst 62 fs)) (b:d7 7 fs=Y (.str x)):dY h i x
inductive Av(h:H)(i:Nat)(xs:List J):Prop where
 |mk (fs:List (Nat×J)) (j:Nat) (a:h[i]?=Y (.inst 82 fs)) (b:d7 8 fs=Y (.obj j)) (c:h[j]?=Y (.list xs)):Av h i xs
inductive Hg(h:H)(i:Nat)(nm:List Nat):Prop where
 |mk (fs:List (Nat×J)) (o:Nat) (a:h[i]?=Y (.inst 181 fs)) (b:d7 2 fs=Y (.obj o)) (c:Mod h o nm):Hg h i nm
inductive fA(h:H)(x:Nat)(nm:List Nat):Prop where
 |mk (fs:List (Nat×J)) (d t:Nat) (a:h[x]?=Y (.exn 543 I (Y d))) (b:h[d]?=Y (.fd fs)) (c:d7 51 fs=Y (.obj t)) (e:Hg h t nm):fA h x nm
abbrev TK(w mo:Nat)(h h':H):Prop:=aD [w,mo] h h'
theorem oY.app{t:H}(M:oY h i nm N):oY (h++t) i nm N:=let⟨fs,a,b,c,d,e⟩:=M;⟨fs,bH a,b,c,d,e⟩
noncomputable def S5(k:Int)(o d:Nat)(r:List (Nat×J)):List (Nat×J):=(1,.int k)::(2,.obj o)::(3,.obj (d+1))::(4,.none)::(5,.bool I)::(6,.none)::r
theorem oG{x:List Nat}(W:Wo h w mo):TI (λi h'=>bI L Z (n+7) I 691 [.obj w,.str x] [] h=.ok (.obj i) h') (λi h'=>dY h' i x) (λ_ h'=>Wo h' w mo) (λ_ h'=>TK w mo h h') (λi _=>h.length<=i):=by obtain⟨k,h1,e1,W1,K1⟩:=W.number (L:=L) (Z:=Z) (n:=n+5) (hd:=I);obtain⟨o,h2,e2,M2,W2,K2⟩:=W1.builtin (n:=n) (MH (L:=L) (Z:=Z));refine⟨h2.length,h2++[.inst 62 (S5 k o h2.length [(7,.str x)]),.dict []],?_,⟨_,sp,U⟩,W2.app,(K1.trans K2).trans aD.app,Nat.le_trans K1.1 K2.1⟩;apply bC WS (L0:=[.obj w,.str x,.unb]) rfl;exact bF (bK (aJ U (aB (aR aq (o3 W.ok U U cx (aO e1))) (aB (aR aq (o3 W1.ok U U (aC ao) (aO e2))) (aC aq))) (nW U U U (SU (n:=n+4)))))
theorem MU{j:Nat}{xs:List J}(W:Wo h w mo)(hj:h[j]?=Y (.list xs))(hl:xs.length<=1000):TI (λi h'=>bI L Z (n+7) I 698 [.obj w,.obj j] [] h=.ok (.obj i) h') (λi h'=>Av h' i xs) (λ_ h'=>Wo h' w mo) (λ_ h'=>TK w mo h h') (λi _=>h.length<=i):=by
 obtain⟨k,h1,e1,W1,K1⟩:=W.number (L:=L) (Z:=Z) (n:=n+5) (hd:=I);obtain⟨o,h2,e2,M2,W2,K2⟩:=W1.builtin (n:=n) (Q4 (L:=L) (Z:=Z));have hj2:=(K1.trans K2).get hj (W.nin hj U);refine⟨(h2++[AO.list xs]).length,(h2++[AO.list xs])++[.inst 82 (S5 k o (h2++[AO.list xs]).length [(8,.obj h2.length)]),.dict []],?_,⟨_,h2.length,sp,U,bH ba⟩,W2.app.app,((K1.trans K2).trans aD.app).trans aD.app,?_⟩
 ·apply bC Vk (L0:=[.obj w,.obj j,.unb]) rfl
  exact bF (bK (aJ U (aB (aR aq (o3 W.ok U U cx (aO e1))) (aB (aR aq (o3 W1.ok U U (aC ao) (aO e2))) (aC (aJ U (aC aq) (EG (Jy hj2 (Nat.le_trans hl (by decide)))))))) (nW U U U (RO (n:=n+4)))))
 ·rw[List.length_append];exact Nat.le_trans (Nat.le_trans K1.1 K2.1) (Nat.le_add_right _ _)
theorem I1{x:List Nat}(W:Wo h w mo)(ag:Bs L Z w mo S 8 nm base):Ai (λi h'=>bI L Z (n+9) I 754 [.obj w,.str nm,.str x] [] h=.ok (.obj i) h') (λi h'=>Hg h' i nm) (λ_ h'=>Wo h' w mo) (λ_ h'=>TK w mo h h'):=by obtain⟨k,h1,e1,W1,K1⟩:=W.number (L:=L) (Z:=Z) (n:=n+7) (hd:=I);obtain⟨o,h2,e2,M2,W2,K2⟩:=W1.builtin (n:=n) ag;obtain⟨t,h3,e3,T3,W3,K3,_⟩:=oG (L:=L) (Z:=Z) (n:=n+1) (x:=x) W2;have M3:Mod h3 o nm:=M2.get K3 (let⟨_,_,_,_,_,_,_,_,_,V⟩:=W2.ok;let⟨_,a,_,_,_,_⟩:=M2;KM (ff a V.at' U) (ff a V.made U));refine⟨h3.length,h3++[.inst 181 (S5 k o h3.length [(9,.obj t),(10,.none)]),.dict []],?_,⟨_,o,sp,U,M3.app⟩,W3.app,((K1.trans K2).trans K3).trans aD.app⟩;apply bC Ve (L0:=[.obj w,.str nm,.str x,.unb]) rfl;exact bF (bK (aJ U (aB (aR aq (o3 W.ok U U cx (aO e1))) (aB (aR aq (o3 W1.ok U U (aC aq) (aO e2))) (aC (aR aq (o3 W2.ok U U (aC aq) (aO e3)))))) (nW U U U (MG (n:=n+6)))))
theorem MM{x:List Nat}:bI L Z (n+1) hd 520 [.obj h.length,.str x] [] (h++[.exn 543 S .none])=.ok .none (h++[.exn 543 S (Y (h.length+1)),.fd [(50,.str x)]]):=by
 have e:((h++[AO.exn 543 S .none])++[AO.fd [(50,.str x)]]).set h.length (.exn 543 S (Y (h++[AO.exn 543 S .none]).length))=h++[.exn 543 S (Y (h.length+1)),.fd [(50,.str x)]]:=by rw[List.append_assoc,List.set_append_right _ _ (Nat.le_refl _),Nat.sub_self,List.length_append];rfl
 rw[<-e];apply j6 V2 (L0:=[.obj h.length,.str x,.unb]) rfl;exact br (nA (aR ao (ZJ U (aB aq (aC aq)) ba U))) (br (bz aq (EL aq ba U)) aZ)
theorem K8{t:Nat}:bI L Z (n+2) hd 540 [.obj h.length,.obj t] [] (h++[.exn 543 S .none])=.ok .none (h++[.exn 543 S (Y (h.length+1)),.fd [(50,.str [97,32,82,117,98,121,32,101,114,114,111,114]),(51,.obj t)]]):=by
 have e:∀{a b c:AO},(h++[a,b]).set (h.length+1) c=h++[a,c]:=by intro a b c;rw[List.set_append_right _ _ (Nat.le_succ _),show h.length.succ-h.length=1 from Nat.add_sub_cancel_left h.length 1];rfl
 rw[<-e];apply j6 Uk (L0:=[.obj h.length,.obj t,.unb]) rfl;exact br (nA (aR ao (Wa U U (aB aq (aC ao)) (aO MM)))) (br (bz aq (Im aq sp (rK (k:=1) U) U U)) aZ)
theorem jd{x:List Nat}(W:Wo h w mo)(ag:Bs L Z w mo S 8 nm base):Ai (λi h'=>bI L Z (n+10) I 761 [.obj w,.str nm,.str x] [] h=.exc i h') (λi h'=>fA h' i nm) (λ_ h'=>Wo h' w mo) (λ_ h'=>TK w mo h h'):=by
 obtain⟨t,h1,e1,E1,W1,K1⟩:=I1 (n:=n) (x:=x) W ag;have e:∀{a b c:AO},(h1++[a,b]).set h1.length c=h1++[c,b]:=by intro a b c;rw[List.set_append_right _ _ (Nat.le_refl _),Nat.sub_self];rfl
 obtain⟨fs,o,a,b,c⟩:=E1;refine⟨h1.length,h1++[.exn 543 I (Y (h1.length+1)),.fd [(50,.str [97,32,82,117,98,121,32,101,114,114,111,114]),(51,.obj t)]],?_,⟨_,h1.length+1,t,sp,rK (k:=1) U,U,fs,o,bH a,b,c.app⟩,W1.app,K1.trans aD.app⟩;refine(e (a:=.exn 543 S (Y (h1.length+1))))▸?_;apply fT V9 (L0:=[.obj w,.str nm,.str x,.unb]) rfl;exact cZ (Ka (aJ U (aC (aR aq (o3 W.ok U U (aB aq (aC aq)) (aO e1)))) (nW U U U (K8 (n:=n+7)))) U sp U)
theorem xG(M:Mod h i nm):bI L Z (n+1) hd 285 [.obj i] [] h=.ok (.str nm) h:=by obtain⟨fs,a,b,c,d,_⟩:=M;apply bC UP (L0:=[.obj i,.unb]) rfl;exact br (aY (aK (aE (bG aq a (iw U d U)) ao U)) (aM U aZ)) (br (aY (aK (aE (bG aq a (iw U b U)) ao U)) (aM U aZ)) (br (aY (aK (aE (bG aq a (iw U c U)) ao U)) (bq U (bF (bK (bG aq a (iw U b U)))))) d6))
end
section
variable{L:Nat}{Z:List Int}{n:Nat}{hd:Bool}{h h':H}{w mo i N:Nat}{nm x:List Nat}
theorem mQ{k:Int}:bI L Z (n+1) hd 237 [.int k] [] h=.ok (.bool S) h:=by apply bC G0 (L0:=[.int k,.unb]) rfl;exact bF (bK (Ir (eH U aq U) (bq U (No (eH U aq U) U))))
theorem lM{v:J}(hv:vQ v=Y v)(hi:jm v h [.ty "int"]=Y I):bI L Z (n+1) hd 237 [v] [] h=.ok (.bool I) h:=by apply bC G0 (L0:=[v,.unb]) rfl;exact bF (bK (Ir (eH U (bM U hv) hi) (aM U OD)))
theorem yA{p:Bool}:bI L Z (n+1) hd 237 [.bool p] [] h=.ok (.bool I) h:=by apply bC G0 (L0:=[.bool p,.unb]) rfl;exact bF (bK (Ir (eH U aq U) (bq U (No (eH U aq U) U))))
theorem IY:bI L Z (n+1) hd 244 [.none] [] h=.ok (.str [110,105,108]) h:=by apply bC yx (L0:=[.none,.unb]) rfl;exact bF (aY (aK (aE aq ao U)) (bq U (bF (bK ao))))
theorem Ec{p:Bool}:bI L Z (n+1) hd 244 [.bool p] [] h=.ok (.str [98,111,111,108]) h:=by apply bC yx (L0:=[.bool p,.unb]) rfl;exact aG (aY (aK (aE aq ao U)) (aM U aZ)) (bF (aY (aK (eH U aq U)) (bq U (bF (bK ao)))))
theorem IK{k:Int}:bI L Z (n+1) hd 244 [.int k] [] h=.ok (.str [105,110,116]) h:=by apply bC yx (L0:=[.int k,.unb]) rfl;exact aG (aY (aK (aE aq ao U)) (aM U aZ)) (aG (aY (aK (eH U aq U)) (aM U aZ)) (bF (aY (aK (eH U aq U)) (bq U (bF (bK ao))))))
theorem JO:bI L Z (n+1) hd 244 [.str x] [] h=.ok (.str [115,121,109]) h:=by apply bC yx (L0:=[.str x,.unb]) rfl;exact aG (aY (aK (aE aq ao U)) (aM U aZ)) (aG (aY (aK (eH U aq U)) (aM U aZ)) (aG (aY (aK (eH U aq U)) (aM U aZ)) (bF (bK (dy (aK (eH U aq U)) (bq U ao))))))
theorem uU{C:Nat}{fs:List (Nat×J)}(hC:po C=S)(a:h[i]?=Y (.inst C fs)):bI L Z (n+1) hd 244 [.obj i] [] h=.ok (.str [116,104,105,110,103]) h:=by have t1:∀m,sS m=S->jm (.obj i) h [.ty m]=Y I:=λm hm=>iC (x4 a hC hm);apply bC yx (L0:=[.obj i,.unb]) rfl;exact br (aY (aK (aE aq ao U)) (aM U aZ)) (br (aY (aK (eH U aq (t1 _ U))) (aM U aZ)) (br (aY (aK (eH U aq (t1 _ U))) (aM U aZ)) (bF (bK (dy (aK (eH U aq (t1 _ U))) (aM U ao))))))
noncomputable def j5(c:Nat):Bool:=Nat.ble 32 c&&Nat.ble c 126&&!([92,34,35].any (Nat.beq c))
theorem OB{c:Nat}(hc:j5 c=S):(match d7 22 fh.sdict with|some es=>(fE [c] es).isSome|.none=>S)=I:=by
 unfold j5 at hc;simp only[ax]at hc;have h1:=Nat.le_of_ble_eq_true hc.1.1;have h2:=Nat.le_of_ble_eq_true hc.1.2;have key:∀c:Fin 127,(Nat.ble 32 c&&!([92,34,35].any (Nat.beq c)))=S->(match d7 22 fh.sdict with|some es=>(fE [c.1] es).isSome|.none=>S)=I:=by decide+kernel
 exact key ⟨c,by omega⟩ (by rw[hc.1.1,hc.2];rfl)
theorem uC{c:Nat}{f:List Nat}(hc:j5 c=S):bI L Z (n+1) hd 292 [.str [c],.str f] [] h=.ok (.str [c]) h:=by
 have e1:∀s,p7 (au L Z) .In (.str [c]) (.sref 22) s=.ok (.bool I) s:=λs=>by have:=OB hc;show M.bind (Xm (au L Z) (.str [c]) (.sref 22)) yes s=_;refine az (a:=I) (s1:=s) ?_ rfl;unfold Xm jz vC;dsimp only;rw[show d7 22 (au L Z).sdict=d7 22 fh.sdict from rfl];induction q:d7 22 fh.sdict with
  |none=>rw[q]at this;exact nF this
  |some es=>rw[q]at this;have this:(fE [c] es).isSome=I:=this;show M.ret (fE [c] es).isSome s=_;rw[this];rfl
 unfold j5 at hc;simp only[ax]at hc;have h1:=Nat.le_of_ble_eq_true hc.1.1;have h2:=Nat.le_of_ble_eq_true hc.1.2;have h3:(J.bool (eqL [c] [35]))=.bool I:=by
  have:=hc.2;simp only[List.any_cons,List.any_nil,Bool.or_false,Bool.not_or,ax]at this;have h4:Nat.beq c 35=I:=by induction q:Nat.beq c 35 with|true=>rw[q]at this;exact nT this.2.2|false=>rfl
  show J.bool (Nat.beq c 35&&eqL [] [])=_;rw[h4];rfl
 apply bC Uq (L0:=[.str [c],.str f,.unb,.unb,.unb]) rfl;refine br (aY (aK (aE aq ao (e1 _))) (aM U aZ)) (br (aY (mW (aK (p:=I) (aE aq ao (by rw[<-h3];rfl))) (aM U jk)) (aM U aZ)) (br (bz (aJ U (aC aq) (iF U0)) U) (br (aY (p:=I) (s1:=⟨[.str [c],.str f,.int c,.unb,.unb],h,hd⟩) ?_ (aM U aZ)) (bF (bK aq)))));refine qF (aK (aE aq ao U)) (aM (decide_eq_false (by lia)) (qF (aK (xR ao aq U ao U)) (aM ?_ jk)));rw[decide_eq_false (by lia)];rfl
end
section
variable{L:Nat}{Z:List Int}{n:Nat}{hd:Bool}{h h':H}{w mo i N:Nat}{nm x:List Nat}
noncomputable abbrev sg(c:Nat):J:=.str [c]
theorem w7:∀{x:List Nat},lz (x.map sg)=Y (x.map λc=>[c])
 |[]=>rfl
 |c::r=>by show(E4 (sg c)).bind (λy=>(lz (r.map sg)).map λq=>y::q)=_;rw[w7];rfl
theorem oq:∀{x:List Nat},fX [] (x.map λc=>[c])=x
 |[]=>rfl
 |[c]=>rfl
 |c::d::r=>by show[c]++([]++fX [] ((d::r).map λc=>[c]))=_;rw[oq];rfl
theorem t5{o o':AO}:(h++[o]).set h.length o'=h++[o']:=by rw[List.set_append_right _ _ (Nat.le_refl _),Nat.sub_self];rfl
abbrev Py(T:aT)(G:cI):M J:=aN T G (.sref 292) [(eB T (B 0) (B 2)),(fU T (B 0) (bp .Add (B 2) (D (.int 1))) (bp .Add (B 2) (D (.int 2))))] []
theorem wi(hx:x.all j5=S)(hl:x.length<=1000000):∀(r pre:List Nat)(l2:J)(fl:Nat),x=pre++r->r.length<fl->
  ∃l2',kW (kO (Py (au L Z) (bI L Z (n+1))) 2 (M.ret S) h.length) fl (.vals ((List.range' pre.length r.length).map λ(i:Nat)=>.int i)) ⟨[.str x,.unb,l2],h++[.list (pre.map sg)],hd⟩=.ok .none ⟨[.str x,.unb,l2'],h++[.list (x.map sg)],hd⟩
 |_,_,_,0,_,hf=>absurd hf (Nat.not_lt_zero _)
 |[],pre,l2,fl+1,e,_=>⟨l2,by rw[e,List.append_nil];exact qW (lO AK)⟩
 |c::r,pre,l2,fl+1,e,hf=>by
  have hc:j5 c=S:=List.all_eq_true.mp hx c (by rw[e];exact List.mem_append_right _ (.head _));have hk:x[pre.length]?=Y c:=by rw[e,List.getElem?_append_right (Nat.le_refl _),Nat.sub_self];rfl
  have jC:pre.length<x.length:=(List.getElem?_eq_some_iff.mp hk).1;obtain⟨l2',e2⟩:=wi hx hl r (pre++[c]) (.int pre.length) fl (by rw[e,List.append_assoc];rfl) (Nat.lt_of_succ_lt_succ hf);refine⟨l2',?_⟩;rw[List.length_cons,List.range'_succ,List.map_cons];rw[List.length_append,List.map_append]at e2;refine um (oB kL (by show 2<3;decide) U U (aJ U (aB (oH aq aq (mE hk (by exact bE [_,_] [(.v 0,.l 1000000),(.a (.v 1) (.l 1),.v 0)] 0 [1,1] (.a (.v 1) (.l 1)) (.l 4611686018427387904) U hl jC))) (aC (dQ aq (bj aq ao U) (bj aq ao U) (SW (by exact leT hl U))))) (b5 U (aO (uC hc)))) ba (by rw[List.length_map];exact bE [_,_] [(.v 0,.l 1000000),(.a (.v 1) (.l 1),.v 0)] 0 [1,1] (.a (.v 1) (.l 1)) (.l 16777216) U hl jC)) ?_;rw[t5];exact e2
theorem wT(hx:x.all j5=S)(hl:x.length<=1000000):vD (λh'=>bI L Z (n+2) I 297 [.str x] [] h=.ok (.str ((34::x)++[34])) h') (λh'=>∀X,aD X h h'):=by
 obtain⟨l2,e⟩:=wi (L:=L) (Z:=Z) (n:=n) (hd:=I) (h:=h) hx hl x [] .unb fg U (by unfold fg;exact bE [_] [(.v 0,.l 1000000)] 0 [1] (.a (.v 0) (.l 1)) (.l 1000000000) U hl);refine⟨_,?_,λX=>aD.app (t:=[.list (x.map sg)])⟩;apply bC TZ (L0:=[.str x,.unb,.unb]) rfl;refine br (bz (oj U (ny (aJ U (aC aq) (iF (fM (by exact leT hl U)))) ?_) (by show 2<3;decide) (by simp only[Int.toNat_natCast,List.range_eq_range'];exact e)) U) ?_
 ·rw[decide_eq_true (by exact z0 _),decide_eq_true (by exact vA (b:=16777216) (leT (Nat.succ_le_succ hl) U))];rfl
 ·refine bF (bK (bj (bj ao (aR ao (DL U (aC aq) (qe (ws:=x.map λc=>[c]) (by decide) ba w7 (by simp only[oq,List.length_nil];exact leT hl U)))) (cE (by simp only[oq,List.length_cons,List.length_nil];exact bE [_] [(.v 0,.l 1000000)] 0 [1] (.a (.a (.l 0) (.l 1)) (.v 0)) (.l 16777216) U hl))) ao ?_))
  simp only[oq];exact cE (by simp only[List.length_append];exact(by exact bE [_] [(.v 0,.l 1000000)] 0 [1] (.a (.a (.l 1) (.v 0)) (.l 1)) (.l 16777216) U hl:1+x.length+1<=16777216))
theorem sx{b:List Nat}{G:cI}:∀(r:List Nat)(l1:J)(fl:Nat),(r.all λc=>uz c&&Nat.blt c 128)=S->r.length<fl->∃l1',dU (iW (bd 1) (FW (au L Z) G)) fl (.vals (r.map sg)) ⟨[.str b,l1,.unb],h,hd⟩=.ok .nxt ⟨[.str b,l1',.unb],h,hd⟩
 |_,_,0,_,hf=>absurd hf (Nat.not_lt_zero _)
 |[],l1,fl+1,_,_=>⟨l1,U⟩
 |c::r,l1,fl+1,ha,hf=>by
  rw[List.all_cons,ax,ax]at ha;obtain⟨l1',e⟩:=sx r (sg c) fl ha.2 (Nat.lt_of_succ_lt_succ hf);have h1:(!([c]:List Nat).isEmpty&&[c].all uz)=S:=by rw[List.all_cons,ha.1.1];rfl
  have h2:bV [c]=S:=by show((Nat.blt c 128&&S):Bool)=S;rw[ha.1.2];rfl
  refine⟨l1',az (az kL (az (bv U) (az (bO (aY (qz (qF (aK (aR (aq U) (DL U cx (BH (show 1<=16777216 by decide) h2)))) (bq h1 jk)) U) (aM U aZ))) U))) e⟩
theorem uo(hx:(x.all λc=>uz c&&Nat.blt c 128)=S){c:Nat}(h0:x[0]?=Y c)(hc:gM c=I)(hl:x.length<=1000):bI L Z (n+1) I 264 [.str x] [] h=.ok (.bool S) h:=by
 have hne:x≠[]:=λe=>by subst e;exact nS h0
 obtain⟨l1,e⟩:=sx (L:=L) (Z:=Z) (h:=h) (hd:=I) (b:=x) (G:=bI L Z n) x .unb fg hx (by unfold fg;exact bE [_] [(.v 0,.l 1000)] 0 [1] (.a (.v 0) (.l 1)) (.l 1000000000) U hl);have hc2:uz c=S/\Nat.blt c 128=S:=bN.mp (List.all_eq_true.mp hx c (List.mem_of_getElem? h0));have h1:(!([c]:List Nat).isEmpty&&[c].all gM)=I:=by rw[List.all_cons,hc];rfl
 have h2:bV [c]=S:=by show((Nat.blt c 128&&S):Bool)=S;rw[hc2.2];rfl
 have h3:eqL x []=I:=by induction x with|nil=>exact absurd U hne|cons _ _=>rfl
 apply bC Ug (L0:=[.str x,.unb,.unb]) rfl;exact br (aY (qF (aK (aE aq ao U)) (aM h3 (qF (aK (aR (oH aq ao (mE (k:=0) h0 (by decide))) (DL U cx (AR (show 1<=16777216 by decide) h2)))) (aM h1 jk)))) (aM U aZ)) (br (sq U (yc aq) e) (bF (bK ao)))
theorem Sn:bI L Z (n+2) I 278 [.str [115,121,109]] [] h=.ok (.bool S) h:=by
 have e:=uo (L:=L) (Z:=Z) (n:=n) (h:=h) (x:=[115,121,109]) U U U (by decide);apply bC Oc (L0:=[.str [115,121,109],.unb]) rfl;exact br (aY (aK (aE aq ao U)) (aM U aZ)) (br (aY (aK (aE (dQ aq ao ao U) ao U)) (aM U aZ)) (br (aY (aK (oo (dQ aq ao ao U) (aB ao (aC ao)) U U)) (aM U aZ))
  (bF (bK (aJ U (aC (dy (aK (oo (dQ aq (ym ao) ao U) (aB ao (aB ao (aC ao))) U U)) (aM U aq))) (b5 U (aO e)))))))
theorem Lr:bI L Z (n+2) I 278 [.str [115]] [] h=.ok (.bool S) h:=by
 have e:=uo (L:=L) (Z:=Z) (n:=n) (h:=h) (x:=[115]) U U U (by decide);apply bC Oc (L0:=[.str [115],.unb]) rfl;exact br (aY (aK (aE aq ao U)) (aM U aZ)) (br (aY (aK (aE (dQ aq ao ao U) ao U)) (aM U aZ)) (br (aY (aK (oo (dQ aq ao ao U) (aB ao (aC ao)) U U)) (aM U aZ))
  (bF (bK (aJ U (aC (dy (aK (oo (dQ aq (ym ao) ao U) (aB ao (aB ao (aC ao))) U U)) (aM U aq))) (b5 U (aO e)))))))
end
section
variable{L:Nat}{Z:List Int}{n:Nat}{hd:Bool}{h h':H}{w mo i N:Nat}{nm x:List Nat}{as:List J}{d:Int}
theorem u6(e:bI L Z (n+2) I 278 [.str x] [] h=.ok (.bool S) h)(hl:x.length<=1000):bI L Z (n+3) I 304 [.str x] [] h=.ok (.str (58::x)) h:=by apply bC VO (L0:=[.str x,.unb]) rfl;exact bF (bK (bj ao (dy (aK (aJ U (aC aq) (b5 U (aO e)))) (bq U aq)) (cE (by simp only[List.length_cons,List.length_nil];exact bE [_] [(.v 0,.l 1000)] 0 [1] (.a (.a (.l 0) (.l 1)) (.v 0)) (.l 16777216) U hl))))
theorem tI(hl:vH 4 2 [.int 6] as=Y [.none,.int d,.unb,.unb]):bI L Z (n+2) hd 338 as [] h=.ok (.str [110,105,108]) h:=by apply bC wd hl;exact br (bz (aJ U (aC aq) (b5 U (aO IY))) U) (br (aY (aK (aE aq ao U)) (aM U aZ)) (br (aY (aK (aE aq ao U)) (aM U aZ)) (br (aY (aK (aE aq ao U)) (bq U (bF (bK ao)))) d6)))
theorem wy(hl:vH 4 2 [.int 6] as=Y [.bool S,.int d,.unb,.unb]):bI L Z (n+2) hd 338 as [] h=.ok (.str [116,114,117,101]) h:=by apply bC wd hl;exact br (bz (aJ U (aC aq) (b5 U (aO Ec))) U) (br (aY (aK (aE aq ao U)) (aM U aZ)) (br (aY (aK (aE aq ao U)) (aM U aZ)) (br (aY (aK (aE aq ao U)) (aM U aZ)) (br (aY (aK (aE aq ao U)) (bq U (bF (bK (dy (aK aq) (bq U ao)))))) d6))))
theorem zu{k:Int}(hk:small k=S)(hl:vH 4 2 [.int 6] as=Y [.int k,.int d,.unb,.unb]):bI L Z (n+2) hd 338 as [] h=.ok (.str (sU k)) h:=by apply bC wd hl;exact br (bz (aJ U (aC aq) (b5 U (aO IK))) U) (br (aY (aK (aE aq ao U)) (aM U aZ)) (br (aY (aK (aE aq ao U)) (aM U aZ)) (br (aY (aK (aE aq ao U)) (aM U aZ)) (br (aY (aK (aE aq ao U)) (aM U aZ)) (bF (bK (aJ U (aC aq) (EG (Hs hk)))))))))
theorem zz(e:bI L Z (n+2) I 278 [.str x] [] h=.ok (.bool S) h)(hx:x.length<=1000)(hl:vH 4 2 [.int 6] as=Y [.str x,.int d,.unb,.unb]):bI L Z (n+4) I 338 as [] h=.ok (.str (58::x)) h:=by apply bC wd hl;exact br (bz (aJ U (aC aq) (b5 U (aO (JO (n:=n+2))))) U) (br (aY (aK (aE aq ao U)) (aM U aZ)) (br (aY (aK (aE aq ao U)) (bq U (bF (bK (aJ U (aC aq) (b5 U (aO (u6 e hx)))))))) d6))
theorem sN(T:dY h i x)(hx:x.all j5=S)(hl:x.length<=1000000):vD (λh'=>bI L Z (n+3) I 323 [.obj i,.int d] [] h=.ok (.str ((34::x)++[34])) h') (λh'=>∀X,aD X h h'):=by obtain⟨fs,a,b⟩:=T;obtain⟨h1,e,K⟩:=wT (L:=L) (Z:=Z) (n:=n) (h:=h) hx hl;refine⟨h1,?_,K⟩;apply bC NK (L0:=[.obj i,.int d,.unb,.unb]) rfl;exact br (aY (aK (eH U aq (iC (jl a U U)))) (bq U (bF (bK (aJ U (aC (bG aq a (iw U b U))) (b5 U (aO e))))))) d6
theorem jy(T:dY h i x)(hx:x.all j5=S)(hl:x.length<=1000000)(ha:vH 4 2 [.int 6] as=Y [.obj i,.int d,.unb,.unb]):vD (λh'=>bI L Z (n+4) I 338 as [] h=.ok (.str ((34::x)++[34])) h') (λh'=>∀X,aD X h h'):=by obtain⟨h1,e,K⟩:=sN (L:=L) (Z:=Z) (n:=n) (d:=d) T hx hl;obtain⟨fs,a,b⟩:=T;have e1:=uU (L:=L) (Z:=Z) (n:=n+2) (hd:=I) (hC:=rfl) a;refine⟨h1,?_,K⟩;apply bC wd ha;exact br (bz (aJ U (aC aq) (b5 U (aO e1))) U) (br (aY (aK (aE aq ao U)) (bq U (bF (bK (aJ U (aB aq (aC aq)) (b5 U (aO e))))))) d6)
theorem S2:3<4:=by decide
noncomputable abbrev EA(x:List Nat):J:=.str x
theorem sQ{t:Nat}(A:Av h i [.int 1,.obj t])(T:dY h t [113]):vD (λh'=>bI L Z (n+6) I 338 [.obj i] [] h=.ok (.str [91,49,44,32,34,113,34,93]) h') (λh'=>∀X,aD X h h'):=by
 obtain⟨fs,j,a,b,c⟩:=A;have e0:=uU (L:=L) (Z:=Z) (n:=n+4) (hd:=I) (hC:=rfl) a;have e1:=zu (L:=L) (Z:=Z) (n:=n+2) (hd:=I) (h:=h++[.list []]) (k:=1) (d:=5) (as:=[.int 1,.int 5]) U rfl;have T1:dY (h++[.list [EA [49]]]) t [113]:=let⟨fs,a,b⟩:=T;⟨fs,bH a,b⟩;obtain⟨h2,e2,K2⟩:=jy (L:=L) (Z:=Z) (n:=n) (d:=5) (as:=[.obj t,.int 5]) T1 U (by decide) rfl;have hj:(h++[AO.list []])[j]?=Y (.list [.int 1,.obj t]):=bH c;have hj1:(h++[AO.list [EA [49]]])[j]?=Y (.list [.int 1,.obj t]):=bH c;have hm:h2[h.length]?=Y (.list [EA [49]]):=(K2 []).get ba List.not_mem_nil;have hne:h.length≠j:=jP (Nat.ne_of_lt (qo c));have hj2:(h2.set h.length (.list ([EA [49]]++[EA [34,113,34]])))[j]?=Y (.list [.int 1,.obj t]):=iq hne ((K2 []).get hj1 List.not_mem_nil);have hm3:(h2.set h.length (.list ([EA [49]]++[EA [34,113,34]])))[h.length]?=Y (.list [EA [49],EA [34,113,34]]):=dP hm;have e3:bI L Z (n+5) I 323 [.obj i,.int 6] [] h=.ok (.str [91,49,44,32,34,113,34,93]) (h2.set h.length (.list ([EA [49]]++[EA [34,113,34]]))):=by
  apply bC NK (L0:=[.obj i,.int 6,.unb,.unb]) rfl;exact br (aY (aK (eH U (aq U) (iC (jl a U U)))) (aM U aZ)) (br (aY (aK (eH U (aq U) (iC (jl a U U)))) (bq rfl
   (br (aY (mW (aK (aE (aq U) ao U)) (aM U jk)) (aM U aZ))
    (bF (bK (bj (bj ao (aR ao (DL U (aC (oj U (tq (bG (aq U) a (iw U b U)) c) S2
     (um (oB (FL hj U) S2 U U (aJ U (aB (aq U) (aC (bj (aq U) ao U))) (b5 U (aO e1))) ba (by decide)) (by rw[t5];exact um (oB (FL hj1 U) S2 U U (aJ U (aB (aq U) (aC (bj (aq U) ao U))) (b5 U (aO e2))) hm (by decide)) (qW (lO (CQ hj2 U))))))) (qe (ws:=[[49],[34,113,34]]) (by decide) hm3 U (by decide)))) (cE (by decide))) ao (cE (by decide)))))))) d6)
 refine⟨h2.set h.length (.list ([EA [49]]++[EA [34,113,34]])),?_,λX=>((aD.app.trans (K2 X)).setNew (Nat.le_refl _))⟩;apply bC wd (L0:=[.obj i,.int 6,.unb,.unb]) rfl;exact br (bz (aJ U (aC (aq U)) (b5 U (aO e0))) U) (br (aY (aK (aE (aq U) ao U)) (bq U (bF (bK (aJ U (aB (aq U) (aC (aq U))) (b5 U (aO e3))))))) d6)
end
section
variable{L:Nat}{Z:List Int}{n:Nat}{hd:Bool}{h h':H}
noncomputable def digs(b:Nat):Nat->Nat->List Nat
 |0,_=>[]
 |f+1,n=>if n<b then[n]else digs b f (n/b)++[n%b]
noncomputable def Oe(b:Nat)(l:List Nat):Nat:=l.foldl (λa d=>a*b+d) 0
theorem qH{b:Nat}(hb:2<=b):∀{f n:Nat},n<f->Oe b (digs b f n)=n
 |0,_,h=>absurd h (Nat.not_lt_zero _)
 |f+1,n,h=>by
  unfold digs
  split
  ·show 0*b+n=n
   simp only[Nat.zero_mul,Nat.zero_add]
  ·have h1:n/b<n:=Nat.div_lt_self (by lia) (by exact hb)
   have ih:=qH hb (f:=f) (n:=n/b) (by exact bE [_,_,_] [(.a (.v 0) (.l 1),.a (.v 1) (.l 1)),(.a (.v 2) (.l 1),.v 0)] 0 [1,1] (.a (.v 2) (.l 1)) (.v 1) U h h1);unfold Oe at ih⊢;simp only[List.foldl_append,ih];show n/b*b+n%b=n;simp only[Nat.mul_comm];exact Nat.div_add_mod n b
theorem oy{b:Nat}(hb:2<=b):∀{f n:Nat},∀d∈digs b f n,d<b
 |0,_,d,h=>by cases h
 |f+1,n,d,h=>by
  unfold digs at h
  split at h
  ·rename_i q
   refine(List.mem_singleton.mp h)▸?_;exact q
  ·rcases List.mem_append.mp h with h|h
   ·exact oy hb d h
   ·refine(List.mem_singleton.mp h)▸?_;exact Nat.mod_lt _ (by exact bE [_] [(.l 2,.v 0)] 1 [1] (.l 1) (.v 0) U hb)
theorem oD{b:Nat}(hb:2<=b):∀{f n:Nat},n<f->∃d r,digs b f n=d::r/\(d=0->r=[]/\n=0)
 |0,_,h=>absurd h (Nat.not_lt_zero _)
 |f+1,n,h=>by
  unfold digs
  split
  ·exact⟨n,[],U,λe=>⟨U,e⟩⟩
  ·have h1:n/b<n:=Nat.div_lt_self (by lia) (by exact hb)
   obtain⟨d,r,e,k⟩:=oD hb (f:=f) (n:=n/b) (by exact bE [_,_,_] [(.a (.v 0) (.l 1),.a (.v 1) (.l 1)),(.a (.v 2) (.l 1),.v 0)] 0 [1,1] (.a (.v 2) (.l 1)) (.v 1) U h h1);refine⟨d,r++[n%b],by refine e▸?_;rfl,λz=>?_⟩;have:=(k z).2;have:n/b>=1:=(Nat.le_div_iff_mul_le (by exact bE [_] [(.l 2,.v 0)] 1 [1] (.l 1) (.v 0) U hb)).mpr (by lia);lia
theorem yN{b:Nat}(hb:2<=b):∀{k f n:Nat},n<b^(k+1)->(digs b f n).length<=k+1
 |_,0,_,_=>Nat.zero_le _
 |0,f+1,n,h=>by unfold digs;rw[if_pos (by rw[Nat.zero_add,Nat.pow_one]at h;exact h)];exact Nat.le_refl _
 |k+1,f+1,n,h=>by
  unfold digs
  split
  ·exact Nat.le_add_left _ _
  ·simp only[List.length_append]
   exact Nat.succ_le_succ (yN hb (k:=k) (f:=f) ((Nat.div_lt_iff_lt_mul (by lia)).mpr (by rw[<-Nat.pow_succ];exact h)))
noncomputable def sV(b:Nat):Nat->Nat->List Nat
 |0,_=>[]
 |f+1,n=>if n=0 then[]else n%b::sV b f (n/b)
theorem Dt{b:Nat}(hb:2<=b):∀{f n:Nat},n<f->0<n->(sV b f n).reverse=digs b f n
 |0,_,h,_=>absurd h (Nat.not_lt_zero _)
 |f+1,n,h,h0=>by
  unfold sV digs;rw[if_neg (by exact Nat.ne_of_gt (h0)),List.reverse_cons]
  split
  ·rename_i q
   rw[Nat.div_eq_of_lt q,Nat.mod_eq_of_lt q];induction f with
   |zero=>rfl
   |succ f=>unfold sV;rw[if_pos rfl];rfl
  ·have h1:n/b<n:=Nat.div_lt_self (by exact h0) (by exact hb)
   rw[Dt hb (by exact bE [_,_,_] [(.a (.v 0) (.l 1),.a (.v 1) (.l 1)),(.a (.v 2) (.l 1),.v 0)] 0 [1,1] (.a (.v 2) (.l 1)) (.v 1) U h h1) ((Nat.le_div_iff_mul_le (by exact bE [_] [(.l 2,.v 0)] 1 [1] (.l 1) (.v 0) U hb)).mpr (by lia))]
noncomputable def pD(b n:Nat):Nat->List Nat
 |0=>[n%b]
 |k+1=>n/b^(k+1)%b::pD b n k
theorem HD{b n:Nat}:∀k,pD b n (k+1)=pD b (n/b) k++[n%b]
 |0=>by show[n/b^1%b,n%b]=_;rw[Nat.pow_one];rfl
 |k+1=>by show n/b^(k+2)%b::pD b n (k+1)=_;rw[HD k];show _=(n/b/b^(k+1)%b::pD b (n/b) k)++[n%b];rw[Nat.div_div_eq_div_mul,<-Nat.pow_succ'];rfl
theorem CD{b:Nat}(hb:2<=b):∀{k f n:Nat},n<f->b^k<=n\/k=0->n<b^(k+1)->pD b n k=digs b f n
 |_,0,_,h,_,_=>absurd h (Nat.not_lt_zero _)
 |0,f+1,n,_,_,h2=>by rw[Nat.zero_add,Nat.pow_one]at h2;unfold digs;rw[if_pos h2];show[n%b]=_;rw[Nat.mod_eq_of_lt h2]
 |k+1,f+1,n,h,h1,h2=>by
  have h1:b^(k+1)<=n:=by rcases h1 with h1|h1;exact h1;lia
  have hbn:¬n<b:=by have:b^1<=b^(k+1):=Nat.pow_le_pow_right (by exact bE [_] [(.l 2,.v 0)] 1 [1] (.l 1) (.v 0) U hb) (by exact bE [_] [] 0 [] (.l 1) (.a (.v 0) (.l 1)) U);rw[Nat.pow_one]at this;lia
  unfold digs;rw[if_neg hbn,HD];have h3:n/b<n:=Nat.div_lt_self (by exact bE [_,_] [(.l 2,.v 0),(.v 0,.v 1)] 1 [1,1] (.l 1) (.v 1) U hb (Xg hbn)) (by exact hb);rw[CD hb (k:=k) (f:=f) (n:=n/b) (by exact bE [_,_,_] [(.a (.v 0) (.l 1),.a (.v 1) (.l 1)),(.a (.v 2) (.l 1),.v 0)] 0 [1,1] (.a (.v 2) (.l 1)) (.v 1) U h h3) (.inl ((Nat.le_div_iff_mul_le (by exact bE [_] [(.l 2,.v 0)] 1 [1] (.l 1) (.v 0) U hb)).mpr (by rw[<-Nat.pow_succ];exact h1))) ((Nat.div_lt_iff_lt_mul (by exact bE [_] [(.l 2,.v 0)] 1 [1] (.l 1) (.v 0) U hb)).mpr (by rw[<-Nat.pow_succ];exact h2))]
noncomputable def jJ(d:Nat):Nat:=bif Nat.blt d 10 then 48+d else 87+d
def cY(b n:Nat):List Nat:=(digs b (n+1) n).map jJ
noncomputable abbrev Au:List Nat:=[48,49,50,51,52,53,54,55,56,57,97,98,99,100,101,102,103,104,105,106,107,108,109,110,111,112,113,114,115,116,117,118,119,120,121,122]
theorem LY{d:Nat}(h:d<36):Au[d]?=Y (jJ d):=by
 have key:∀d:Fin 36,Au[d.1]?=Y (jJ d.1):=by decide+kernel
 exact key ⟨d,h⟩
theorem Gv{d:Nat}(h:d<36):FF Au (d:Int)=Y (jJ d):=mE (LY h) (by exact leT h U)
theorem Jb(a b:Nat):(a:Int).fmod (b:Int)=((a%b:Nat):Int):=by rw[Int.fmod_eq_emod_of_nonneg _ (d8 b)];rfl
theorem xb(a b:Nat):(a:Int).fdiv (b:Int)=((a/b:Nat):Int):=by rw[Int.fdiv_eq_ediv_of_nonneg _ (d8 b)];rfl
theorem Oo{o o':AO}{t:H}:((h++[o])++t).set h.length o'=(h++[o'])++t:=by rw[List.set_append_left _ _ (by rw[List.length_append];exact Nat.lt_succ_self _),t5]
theorem NJ{T:aT}{G:cI}{m:Nat}{nm:aV}{es:List (M J)}{s:St}{v:J}{A1 xs ys:List J}{B1:Bool}{t:H}(hn:(nm=="append")=S)(h2:db es s=.ok [v] ⟨A1,(h++[.list xs])++t,B1⟩)(hl:xs.length<16777216):uK T G h.length (.list ys) m nm es s=.ok .none ⟨A1,(h++[.list (xs++[v])])++t,B1⟩:=by rw[<-Oo (o:=.list xs)];exact HG hn h2 (bH ba) hl
theorem nC{t:M Bool}{b:M Fl}{s s1 s2:St}{p:Bool}{fl:Nat}{F:lJ St Fl}(h1:t s=.ok p s1)(hp:p=S)(h2:b s1=.ok .nxt s2)(h3:dU (mf t b) fl () s2=F):dU (mf t b) (fl+1) () s=F:=az (a:=Y ((),Fl.nxt)) (az h1 (bq hp (az h2 U))) h3
theorem pc{t:M Bool}{b:M Fl}{s s1:St}{p:Bool}{fl:Nat}(h1:t s=.ok p s1)(hp:p=I):dU (mf t b) (fl+1) () s=.ok .nxt s1:=az (az h1 (aM hp U)) rfl
theorem vX{t:M Bool}{b:M Fl}{s s1 s2:St}{p:Bool}{fl x:Nat}(h1:t s=.ok p s1)(hp:p=S)(h2:b s1=.exc x s2):dU (mf t b) (fl+1) () s=.exc x s2:=eM ((az h1 (bq hp (eM h2))))
theorem zF{a b:Nat}{t:H}{G:cI}(hb:2<=b)(hb2:b<=36):∀(f m:Nat)(acc:List J)(fl:Nat),m<f->f<=fl->acc.length+f<=16000000->
  dU (mf (Hw (au L Z) G) (Ii (au L Z) G)) fl () ⟨[.int (a:Int),.int (b:Int),.int (m:Int),.obj h.length,.unb],(h++[.list acc])++t,hd⟩=.ok .nxt ⟨[.int (a:Int),.int (b:Int),.int (0:Int),.obj h.length,.unb],(h++[.list (acc++(sV b f m).map λd=>sg (jJ d))])++t,hd⟩
 |0,_,_,_,h,_,_=>absurd h (Nat.not_lt_zero _)
 |_+1,_,_,0,_,h,_=>absurd h (Nat.not_succ_le_zero _)
 |f+1,m,acc,fl+1,h1,h2,h3=>by
  by_cases hm:m=0
  ·subst hm
   unfold sV;rw[if_pos U,List.map_nil,List.append_nil];exact pc (aK (aE aq ao U)) rfl
  ·have hd1:m/b<m:=Nat.div_lt_self (by exact(nz hm)) (by exact hb)
   have ih:=zF (a:=a) (t:=t) (G:=G) hb hb2 f (m/b) (acc++[sg (jJ (m%b))]) fl (by exact bE [_,_,_] [(.a (.v 0) (.l 1),.a (.v 1) (.l 1)),(.a (.v 2) (.l 1),.v 0)] 0 [1,1] (.a (.v 2) (.l 1)) (.v 1) U h1 hd1) (Nat.le_of_succ_le_succ h2) (by rw[List.length_append,List.length_cons,List.length_nil];lia);unfold sV;refine(if_neg hm)▸List.map_cons▸?_;rw[List.append_assoc acc]at ih;have hl:∀{o:AO},((h++[o])++t)[h.length]?=Y o:=bH ba;refine nC (s2:=⟨[.int (a:Int),.int (b:Int),.int ((m/b:Nat):Int),.obj h.length,.unb],(h++[.list (acc++[sg (jJ (m%b))])])++t,hd⟩) (aK (aE aq ao U)) (decide_eq_true (by exact vA (a:=0) (Nat.pos_of_ne_zero hm))) ?_ ih;refine br (s1:=⟨[.int (a:Int),.int (b:Int),.int (m:Int),.obj h.length,.unb],(h++[.list (acc++[sg (jJ (m%b))])])++t,hd⟩) (nA ?_) (bO (bz (bj aq aq (zW (by exact vA (a:=0) (Nat.lt_of_lt_of_le Nat.two_pos hb)) (by exact vA (b:=1073741824) (leT (Nat.succ_le_succ hb2) U)))) (by rw[xb];rfl)));exact aR aq (jM hl (NJ U (aC (oH ao (bj aq aq (tR (by exact Ri (b:=0) (Nat.ne_of_gt (Nat.lt_of_lt_of_le Nat.two_pos hb))))) (by rw[Jb];exact Gv (Nat.lt_of_lt_of_le (Nat.mod_lt _ (by exact bE [_] [(.l 2,.v 0)] 1 [1] (.l 1) (.v 0) U hb)) hb2)))) (by exact bE [_,_] [(.a (.v 0) (.a (.v 1) (.l 1)),.l 16000000)] 0 [1] (.a (.v 0) (.l 1)) (.l 16777216) U h3)))
theorem KH{l:List Nat}:(l.map λd=>sg (jJ d))=(l.map jJ).map sg:=by simp only[List.map_map];rfl
theorem qg{b m:Nat}:(digs b (m+1) m).length<=m+1:=by
 have:∀f k,(digs b f k).length<=f:=by intro f;induction f with
  |zero=>intro k;exact Nat.zero_le _
  |succ f ih=>
   intro k;unfold digs
   split
   ·exact Nat.succ_le_succ (Nat.zero_le _)
   ·simp only[List.length_append];exact Nat.succ_le_succ (ih _)
 exact this _ _
theorem Bq{b m:Nat}(hb:2<=b)(hb2:b<=36)(hm:m<=1000000):vD (λh'=>bI L Z (n+1) I 359 [.int (m:Int),.int (b:Int)] [] h=.ok (.str (cY b m)) h') (λh'=>∀X,aD X h h'):=by
 have hl:∀{o:AO}{t:H},((h++[o])++t)[h.length]?=Y o:=bH ba;have e1:=zF (L:=L) (Z:=Z) (h:=h) (hd:=I) (a:=m) (t:=[.tup [.int (m:Int),.obj h.length]]) (G:=bI L Z n) hb hb2 (m+1) m [] fg (Nat.lt_succ_self m) (by unfold fg;exact bE [_] [(.v 0,.l 1000000)] 0 [1] (.a (.v 0) (.l 1)) (.l 1000000000) U hm) (by show 0+(m+1)<=16000000;exact bE [_] [(.v 0,.l 1000000)] 0 [1] (.a (.l 0) (.a (.v 0) (.l 1))) (.l 16000000) U hm);rw[List.nil_append,KH]at e1;have e2:∃xs,xs.reverse=(cY b m).map sg/\xs.length<=1000001/\aH (Hr (au L Z) (bI L Z n)) ⟨[.int (m:Int),.int (b:Int),.int (0:Int),.obj h.length,.unb],(h++[.list (((sV b (m+1) m).map jJ).map sg)])++[.tup [.int (m:Int),.obj h.length]],I⟩=aH (GC (au L Z) (bI L Z n)) ⟨[.int (m:Int),.int (b:Int),.int (0:Int),.obj h.length,.unb],(h++[.list xs])++[.tup [.int (m:Int),.obj h.length]],I⟩:=by
  by_cases hz:m=0
  ·subst hz
   refine⟨[sg 48],?_,by decide,?_⟩
   ·unfold cY digs
    rw[if_pos (by exact bE [_] [(.l 2,.v 0)] 1 [1] (.l 1) (.v 0) U hb)];rfl
   ·have e0:sV b (0+1) 0=[]:=by unfold sV;rw[if_pos rfl]
    rw[e0];exact br (aY (aK (aE (aJ U (aC aq) (iF (tm (xs:=[]) hl (by decide)))) ao U)) (bq U (bO (nA (aR aq (jM hl (NJ (xs:=[]) U (aC ao) (by decide)))))))) rfl
  ·have hr:=Dt hb (f:=m+1) (n:=m) (by exact bE [_] [] 0 [] (.a (.v 0) (.l 1)) (.a (.v 0) (.l 1)) U) (by exact(nz hz))
   have jC:(((sV b (m+1) m).map jJ).map sg).length<=1000001:=by rw[List.length_map,List.length_map,<-List.length_reverse,hr];exact Nat.le_trans qg (by exact bE [_] [(.v 0,.l 1000000)] 0 [1] (.a (.v 0) (.l 1)) (.l 1000001) U hm)
   have hne:(((sV b (m+1) m).map jJ).map sg).length≠0:=by rw[List.length_map,List.length_map,<-List.length_reverse,hr];obtain⟨d,r,e,_⟩:=oD hb (f:=m+1) (n:=m) (by exact bE [_] [] 0 [] (.a (.v 0) (.l 1)) (.a (.v 0) (.l 1)) U);rw[e];exact Nat.succ_ne_zero _
   refine⟨_,?_,jC,br (aY (aK (aE (aJ U (aC aq) (iF (tm hl (by exact leT jC U)))) ao U)) (aM ?_ aZ)) U⟩
   ·rw[<-List.map_reverse,<-List.map_reverse,hr];rfl
   ·exact decide_eq_false (by exact Ri (b:=0) hne)
 obtain⟨xs,x1,x2,e2⟩:=e2;refine⟨((h++[.list xs])++[.tup [.int (m:Int),.obj h.length]])++[.list ((cY b m).map sg)],?_,λX=>(aD.app.trans aD.app).trans aD.app⟩;apply bC U5 (L0:=[.int (m:Int),.int (b:Int),.unb,.unb,.unb]) rfl;refine br (s1:=⟨[.int (m:Int),.int (b:Int),.int (m:Int),.obj h.length,.unb],(h++[.list []])++[.tup [.int (m:Int),.obj h.length]],I⟩) (fm (aB (aJ U (aC aq) (iF sA)) (aC (gj cx U))) U U U (bZ (bv U) (dj (bv U)))) (br (fK e1) (PM (e2.trans (br (aY (aK (aE aq ao U)) (aM (decide_eq_false (by exact dh.mpr (z0 _))) aZ)) (bF (bK ?_))))));rw[<-x1];refine aR ao (DL U (aC (TY aq hl (by exact leT x2 U))) ?_);have:=qe (A0:=[.int (m:Int),.int (b:Int),.int (0:Int),.obj h.length,.unb]) (B0:=I) (w:=[]) (ws:=(cY b m).map λc=>[c]) (by decide) (ba (h:=(h++[.list xs])++[.tup [.int (m:Int),.obj h.length]]) (o:=.list xs.reverse)) (by rw[x1];exact w7) (by rw[oq];unfold cY;rw[List.length_map];have:=qg (b:=b) (m:=m);show _+0<=_;exact bE [_,_] [(.v 0,.l 1000000),(.v 1,.a (.v 0) (.l 1))] 0 [1,1] (.a (.v 1) (.l 0)) (.l 16777216) U hm this);rw[oq]at this;exact this
end
section
variable{L:Nat}{Z:List Int}{n:Nat}{hd:Bool}{h h':H}{b m:Nat}{G:cI}
theorem Hp{j:Nat}:((b^j:Nat):Int)*(b:Int)=((b^(j+1):Nat):Int):=by simp only[Nat.pow_succ,Int.natCast_mul]
theorem NC(hb:2<=b)(hb2:b<=36):∀(f j fl:Nat),m+1<=b^j+f->(b^j<=m\/j=0)->f<fl->J3 (λk=>dU (mf (BY (au L Z) G) (IF (au L Z) G)) fl () ⟨[.int (m:Int),.int (b:Int),.int ((b^j:Nat):Int),.str [],.unb],h,hd⟩=.ok .nxt ⟨[.int (m:Int),.int (b:Int),.int ((b^k:Nat):Int),.str [],.unb],h,hd⟩) (λk=>b^k<=m\/k=0) (λk=>m<b^(k+1))
 |_,_,0,_,_,hf=>absurd hf (Nat.not_lt_zero _)
 |f,j,fl+1,h1,h2,hf=>by
  have ht:∀p,aI (((b^(j+1):Nat):Int)<=(m:Int))=p->BY (au L Z) G ⟨[.int (m:Int),.int (b:Int),.int ((b^j:Nat):Int),.str [],.unb],h,hd⟩=.ok p ⟨[.int (m:Int),.int (b:Int),.int ((b^j:Nat):Int),.str [],.unb],h,hd⟩:=λp hp=>aK (aE (bj aq aq (qy (mB (jZ (by exact(leT (Nat.succ_le_succ hb2) rfl:b<2^63)))))) aq (by rw[Hp,<-hp];rfl))
  by_cases q:b^(j+1)<=m
  ·have hpos:0<b^j:=Nat.pow_pos (by exact bE [_] [(.l 2,.v 0)] 1 [1] (.l 1) (.v 0) U hb)
   have hup:b^j<b^(j+1):=by simp only[Nat.pow_succ];have:=Nat.mul_le_mul_left (b^j) hb;exact bE [_,_] [(.l 1,.v 0),(.n (.v 0) 2,.v 1)] 0 [1,1] (.a (.v 0) (.l 1)) (.v 1) U hpos this
   induction f with
   |zero=>lia
   |succ f=>obtain⟨k,e,k1,k2⟩:=NC hb hb2 f (j+1) fl (by exact bE [_,_,_,_] [(.a (.v 0) (.l 1),.v 1),(.a (.v 2) (.l 1),.a (.v 0) (.a (.v 3) (.l 1)))] 0 [1,1] (.a (.v 2) (.l 1)) (.a (.v 1) (.v 3)) U hup h1) (.inl q) (Nat.lt_of_succ_lt_succ hf);exact⟨k,nC (s2:=⟨[.int (m:Int),.int (b:Int),.int ((b^(j+1):Nat):Int),.str [],.unb],h,hd⟩) (ht S (decide_eq_true (gh.mpr q))) U (bO (bz (bj aq aq (qy (mB (jZ (by exact(leT (Nat.succ_le_succ hb2) rfl:b<2^63)))))) (by simp only[Hp];rfl))) e,k1,k2⟩
  ·exact⟨j,pc (ht I (decide_eq_false λz=>q (gh.mp z))) U,h2,Nat.lt_of_not_le q⟩
theorem Cn(hb:2<=b)(hb2:b<=36):∀(k:Nat)(w:List Nat)(fl:Nat),b^k<1073741824->w.length+k<=1000000->k+1<fl->dU (mf (Be (au L Z) G) (Bc (au L Z) G)) fl () ⟨[.int (m:Int),.int (b:Int),.int ((b^k:Nat):Int),.str w,.unb],h,hd⟩=.ok .nxt ⟨[.int (m:Int),.int (b:Int),.int (0:Int),.str (w++(pD b m k).map jJ),.unb],h,hd⟩
 |_,_,0,_,_,hf=>absurd hf (Nat.not_lt_zero _)
 |k,w,fl+1,h1,h2,hf=>by
  have hpos:0<b^k:=Nat.pow_pos (by exact bE [_] [(.l 2,.v 0)] 1 [1] (.l 1) (.v 0) U hb);have hd36:m/b^k%b<36:=Nat.lt_of_lt_of_le (Nat.mod_lt _ (by exact bE [_] [(.l 2,.v 0)] 1 [1] (.l 1) (.v 0) U hb)) hb2;have ht:Be (au L Z) G ⟨[.int (m:Int),.int (b:Int),.int ((b^k:Nat):Int),.str w,.unb],h,hd⟩=.ok S ⟨[.int (m:Int),.int (b:Int),.int ((b^k:Nat):Int),.str w,.unb],h,hd⟩:=aK (aE aq ao (by rw[<-decide_eq_true (show((b^k:Nat):Int)>0 from fw.mpr hpos)];rfl));have hb1:∀u,((b^k:Nat):Int).fdiv (b:Int)=u->Bc (au L Z) G ⟨[.int (m:Int),.int (b:Int),.int ((b^k:Nat):Int),.str w,.unb],h,hd⟩=.ok .nxt ⟨[.int (m:Int),.int (b:Int),.int u,.str (w++[jJ (m/b^k%b)]),.unb],h,hd⟩:=λu hu=>by refine br (s1:=⟨[.int (m:Int),.int (b:Int),.int ((b^k:Nat):Int),.str (w++[jJ (m/b^k%b)]),.unb],h,hd⟩) (bz (bj aq (oH ao (bj (bj aq aq (zW (by exact vA (a:=0) hpos) (by exact vA (b:=1073741824) h1))) aq (tR (by exact Ri (b:=0) (Nat.ne_of_gt (Nat.lt_of_lt_of_le Nat.two_pos hb))))) (by simp only[xb,Jb];exact Gv hd36)) (cE (show w.length+1<=16777216 by exact bE [_,_] [(.a (.v 0) (.v 1),.l 1000000)] 0 [1] (.a (.v 0) (.l 1)) (.l 16777216) U h2))) U) (bO (bz (bj aq aq (zW (by exact vA (a:=0) (Nat.lt_of_lt_of_le Nat.two_pos hb)) (by exact vA (b:=1073741824) (leT (Nat.succ_le_succ hb2) U)))) (by simp only[hu];rfl)))
  induction k with
  |zero=>induction fl with
   |zero=>lia
   |succ fl=>exact nC ht U (hb1 0 (by simp only[xb,Nat.pow_zero,Nat.div_eq_of_lt (by exact hb)];rfl)) (by simp only[Nat.pow_zero,Nat.div_one];exact pc (aK (aE aq ao U)) U)
  |succ k=>
   have hk:b^(k+1)/b=b^k:=by simp only[Nat.pow_succ];exact Nat.mul_div_cancel _ (by exact bE [_] [(.l 2,.v 0)] 1 [1] (.l 1) (.v 0) U hb)
   have ih:=Cn hb hb2 k (w++[jJ (m/b^(k+1)%b)]) fl (Nat.lt_of_le_of_lt (Nat.pow_le_pow_right (by exact bE [_] [(.l 2,.v 0)] 1 [1] (.l 1) (.v 0) U hb) (Nat.le_succ k)) h1) (by simp only[List.length_append,List.length_cons,List.length_nil];lia) (Nat.lt_of_succ_lt_succ hf);rw[List.append_assoc]at ih;exact nC ht U (hb1 _ (by simp only[xb,hk])) ih
theorem kr(hb:2<=b)(hb2:b<=36)(hm:m<=1000000):vD (λh'=>bI L Z (n+1) I 852 [.int (m:Int),.int (b:Int)] [] h=.ok (.str (cY b m)) h') (λh'=>∀X,aD X h h'):=by
 obtain⟨k,e1,k1,k2⟩:=NC (m:=m) (L:=L) (Z:=Z) (h:=h++[.tup [.int 1,.str []]]) (hd:=I) (G:=bI L Z n) hb hb2 (m+1) 0 fg (by exact bE [_,_] [] 0 [] (.a (.v 0) (.l 1)) (.a (.v 1) (.a (.v 0) (.l 1))) U) (.inr U) (by unfold fg;exact bE [_] [(.v 0,.l 1000000)] 0 [1] (.a (.a (.v 0) (.l 1)) (.l 1)) (.l 1000000000) U hm);have hk:b^k<=1000000:=by rcases k1 with k1|rfl;exact bE [_,_] [(.v 0,.l 1000000),(.v 1,.v 0)] 0 [1,1] (.v 1) (.l 1000000) rfl hm k1;simp only[Nat.pow_zero];exact bE [] [] 0 [] (.l 1) (.l 1000000) rfl
 have hkk:k<=1000000:=by have:k<2^k:=Nat.lt_two_pow_self;have:2^k<=b^k:=Nat.pow_le_pow_left hb k;lia
 have e2:=Cn (L:=L) (Z:=Z) (h:=h++[.tup [.int 1,.str []]]) (hd:=I) (m:=m) (G:=bI L Z n) hb hb2 k [] fg (by exact bE [_] [(.v 0,.l 1000000)] 0 [1] (.a (.v 0) (.l 1)) (.l 1073741824) U hk) (show 0+k<=1000000 by lia) (by unfold fg;exact bE [_] [(.v 0,.l 1000000)] 0 [1] (.a (.a (.v 0) (.l 1)) (.l 1)) (.l 1000000000) U hkk);rw[CD hb (Nat.lt_succ_self m) k1 k2]at e2;refine⟨_,?_,λX=>aD.app (t:=[.tup [.int 1,.str []]])⟩;apply bC Vw (L0:=[.int (m:Int),.int (b:Int),.unb,.unb,.unb]) rfl;exact br (s1:=⟨[.int (m:Int),.int (b:Int),.int ((b^0:Nat):Int),.str [],.unb],_,I⟩) (fm (aB ao (aC ao)) U U U (bZ (bv U) (dj (bv U)))) (br (fK e1) (br (fK e2) (bF (bK aq))))
end
section
variable{L:Nat}{Z:List Int}{n:Nat}{hd:Bool}{h h':H}{T:aT}{G:cI}{fl x:List Nat}{s:St}
noncomputable def iter(f:List Nat->List Nat):Nat->List Nat->List Nat
 |0,x=>x
 |k+1,x=>iter f k (f x)
theorem oN{c:Nat}:∀(k:Nat)(x:List Nat),iter (c::·) k x=List.replicate k c++x
 |0,x=>rfl
 |k+1,x=>by show iter (c::·) k (c::x)=_;simp only[oN k,List.replicate_succ'];simp only[List.append_assoc];rfl
theorem wb{c:Nat}:∀(k:Nat)(x:List Nat),iter (·++[c]) k x=x++List.replicate k c
 |0,x=>(List.append_nil x).symm
 |k+1,x=>by show iter (·++[c]) k (x++[c])=_;simp only[wb k,List.append_assoc];rfl
theorem om{t:M Bool}{b:M Fl}(ah:List Nat->St)(f:List Nat->List Nat)(W:Int)(hf:∀x,(f x).length=x.length+1)(hW:W<=1000000)
  (ht:∀x,x.length<=1000000->t (ah x)=.ok (aI ((x.length:Int)<W)) (ah x)) (hb:∀x,x.length<=1000000->b (ah x)=.ok .nxt (ah (f x))):
  ∀(k fl:Nat)(x:List Nat),(W-x.length).toNat=k->x.length<=1000000->k<fl->dU (mf t b) fl () (ah x)=.ok .nxt (ah (iter f k x))
 |_,0,_,_,_,h=>absurd h (Nat.not_lt_zero _)
 |0,fl+1,x,hk,hx,_=>pc (ht x hx) (decide_eq_false (by exact ZB hk))
 |k+1,fl+1,x,hk,hx,h=>nC (ht x hx) (decide_eq_true (by exact(Xr hk).1)) (hb x hx) (om ah f W hf hW ht hb k fl (f x) (by rw[hf];exact(Xr hk).2) (by rw[hf];exact gh.mp (eN (Int.add_one_le_of_lt (Xr hk).1) hW)) (Nat.lt_of_succ_lt_succ h))
noncomputable def iG(x:List Nat)(w:Int)(fl:List Nat):List Nat:=bif fl.any (Nat.beq 45)then x++List.replicate (w-x.length).toNat 32 else List.replicate (w-x.length).toNat 32++x
theorem sE{w:Int}(hx:x.length<=1000000)(hw:w<=1000000):bI L Z (n+1) hd 859 [.str x,.int w,.str fl] [] h=.ok (.str (iG x w fl)) h:=by
 have ht:∀y:List Nat,y.length<=1000000->JI (au L Z) (bI L Z n) ⟨[.str y,.int w,.str fl,.unb],h,hd⟩=.ok (aI ((y.length:Int)<w)) ⟨[.str y,.int w,.str fl,.unb],h,hd⟩:=λy hy=>aK (aE (aJ U (aC aq) (iF (fM (by exact leT hy U)))) aq U);have key:∀f:List Nat->List Nat,(∀y:List Nat,(f y).length=y.length+1)->(∀y:List Nat,y.length<=1000000->HW (au L Z) (bI L Z n) ⟨[.str y,.int w,.str fl,.unb],h,hd⟩=.ok .nxt ⟨[.str (f y),.int w,.str fl,.unb],h,hd⟩)->bI L Z (n+1) hd 859 [.str x,.int w,.str fl] [] h=.ok (.str (iter f (w-x.length).toNat x)) h:=λf h1 h2=>by apply bC Vz (L0:=[.str x,.int w,.str fl,.unb]) rfl;exact br (fK (om (λy=>⟨[.str y,.int w,.str fl,.unb],h,hd⟩) f w h1 hw ht h2 _ fg x U hx (by unfold fg;exact leT (Nat.succ_le_succ (Xl (K:=1000000) hw)) U))) (bF (bK aq))
 unfold iG;induction q:fl.any (Nat.beq 45)with
 |true=>rw[cond_true,<-wb];exact key _ (λy=>by rw[List.length_append];rfl) λy hy=>bO (bz (dy (aK (aE ao aq U)) (bq q (bj aq ao (cE (show y.length+1<=16777216 by exact bE [_] [(.v 0,.l 1000000)] 0 [1] (.a (.v 0) (.l 1)) (.l 16777216) U hy))))) U)
 |false=>rw[cond_false,<-oN];exact key _ (λy=>rfl) λy hy=>bO (bz (dy (aK (aE ao aq U)) (aM q (bj ao aq (cE (show 1+y.length<=16777216 by exact bE [_] [(.v 0,.l 1000000)] 0 [1] (.a (.l 1) (.v 0)) (.l 16777216) U hy))))) U)
theorem oK(c:Nat):∀k,As [c] k=List.replicate k c
 |0=>rfl
 |k+1=>by show[c]++As [c] k=_;rw[oK c k];rfl
noncomputable def dM(m:Option Nat):J:=match m with
 |some k=>.int (k:Int)
 |.none=>.none
def cN(h:H)(i:Nat)(fl:List Nat)(w:Int)(m:Option Nat):Prop:=h[i]?=Y (.inst 431 [(35,.str fl),(36,.int w),(37,dM m)])
theorem ry{i:Nat}{w:Int}{m:Option Nat}(F:cN h i fl w m)(hx:x.length<=1000000)(hw:w<=1000000)(hw2:-1000000<=w):bI L Z (n+1) hd 421 [.obj i,.str x] [] h=.ok (.str (iG x w fl)) h:=by
 have hr:(List.replicate (w-x.length).toNat 32).length<=1000000:=by rw[List.length_replicate];exact Xl (K:=1000000) hw
 apply bC VN (L0:=[.obj i,.str x,.unb,.unb]) rfl;refine br (s1:=⟨[.obj i,.str x,.str (List.replicate (w-x.length).toNat 32),.unb],h,hd⟩) (bz (bj ao (bj (bG aq F U) (aJ U (aC aq) (iF (fM (by exact leT hx U)))) U) (ID (by exact zT (J6 hw) U) (by exact zB U (zl hw2 hx)))) (by rw[oK];rfl)) ?_;unfold iG;induction q:fl.any (Nat.beq 45)with
 |true=>exact bF (bK (dy (aK (aE ao (bG aq F U) U)) (bq q (bj aq aq (cE (by exact bE [_,_] [(.v 0,.l 1000000),(.v 1,.l 1000000)] 0 [1,1] (.a (.v 0) (.v 1)) (.l 16777216) U hx hr))))))
 |false=>exact bF (bK (dy (aK (aE ao (bG aq F U) U)) (aM q (bj aq aq (cE (by exact bE [_,_] [(.v 0,.l 1000000),(.v 1,.l 1000000)] 0 [1,1] (.a (.v 1) (.v 0)) (.l 16777216) U hx hr))))))
noncomputable def gp(a:Int)(fl:List Nat):List Nat:=bif aI (a<0)then[45]else bif fl.any (Nat.beq 43)then[43]else bif fl.any (Nat.beq 32)then[32]else[]
theorem CB{a:Int}{e1 e2:M J}(h1:e1 s=.ok (.int a) s)(h2:e2 s=.ok (.str fl) s):fB (bJ (aW T .Lt e1 (D (.int 0)))) (D (.str [45])) (fB (bJ (aW T .In (D (.str [43])) e2)) (D (.str [43])) (fB (bJ (aW T .In (D (.str [32])) e2)) (D (.str [32])) (D (.str [])))) s=.ok (.str (gp a fl)) s:=by have t0:bJ (aW T .Lt e1 (D (.int 0))) s=.ok (aI (a<0)) s:=aK (aE h1 ao U);have t1:bJ (aW T .In (D (.str [43])) e2) s=.ok (fl.any (Nat.beq 43)) s:=aK (aE ao h2 U);have t2:bJ (aW T .In (D (.str [32])) e2) s=.ok (fl.any (Nat.beq 32)) s:=aK (aE ao h2 U);refine dy t0 ?_;unfold gp;cases aI (a<0)with
 |true=>exact ao
 |false=>refine dy t1 ?_;cases fl.any (Nat.beq 43)with
  |true=>exact ao
  |false=>refine dy t2 ?_;cases fl.any (Nat.beq 32)<;>exact ao
theorem rM{a:Int}:(gp a fl).length<=1:=by unfold gp;cases aI (a<0)<;>cases fl.any (Nat.beq 43)<;>cases fl.any (Nat.beq 32)<;>decide
noncomputable abbrev kinds:List Nat:=[100,105,117,120,88,111,98,66]
theorem fG{P:Nat->Prop}(h1:P 100)(h2:P 105)(h3:P 117)(h4:P 120)(h5:P 88)(h6:P 111)(h7:P 98)(h8:P 66):∀k∈kinds,P k:=by intro k hk;simp only[kinds,List.mem_cons,List.not_mem_nil,or_false]at hk;rcases hk with rfl|rfl|rfl|rfl|rfl|rfl|rfl|rfl<;>assumption
noncomputable def baseOf(k:Nat):Nat:=bif Nat.beq k 120||Nat.beq k 88 then 16 else bif Nat.beq k 111 then 8 else bif Nat.beq k 98||Nat.beq k 66 then 2 else 10
theorem uh:∀k∈kinds,2<=baseOf k/\baseOf k<=36:=fG (by decide) (by decide) (by decide) (by decide) (by decide) (by decide) (by decide) (by decide)
noncomputable def B8(k:Nat):List Nat:=bif Nat.beq k 111 then[48]else bif[120,88,98,66].any (Nat.beq k)then[48,k]else[]
def gr(a:Int)(k:Nat)(fl:List Nat):List Nat:=bif fl.any (Nat.beq 35)&&!decide (a=0)then B8 k else[]
def sM(k:Nat)(x:List Nat):List Nat:=bif Nat.beq k 88 then x.map Ez else x
noncomputable def jF(m:Option Nat)(x:List Nat):List Nat:=match m with
 |some k=>List.replicate (k-x.length) 48++x
 |.none=>x
noncomputable def iU(m:Option Nat)(fl lead x:List Nat)(w:Int):List Nat:=bif fl.any (Nat.beq 48)&&(!fl.any (Nat.beq 45)&&m.isNone)then List.replicate (w-lead.length-x.length).toNat 48++x else x
def vN(a:Int)(k:Nat)(fl:List Nat)(w:Int)(m:Option Nat):List Nat:=
 iG ((gp a fl++gr a k fl)++iU m fl (gp a fl++gr a k fl) (jF m (sM k (cY (baseOf k) a.natAbs))) w) w fl
end
section
variable{L:Nat}{Z:List Int}{n:Nat}{hd:Bool}{h h':H}{T:aT}{G:cI}{fl x:List Nat}{s:St}{k:Nat}{a w:Int}{m:Option Nat}
theorem rI{A:List J}{ag:Bool}:p7 T .Is (dM m) .none ⟨A,h,ag⟩=.ok (.bool m.isNone) ⟨A,h,ag⟩:=by induction m<;>rfl
theorem qx{A:List J}{ag:Bool}:p7 T .IsNot (dM m) .none ⟨A,h,ag⟩=.ok (.bool m.isSome) ⟨A,h,ag⟩:=by induction m<;>rfl
theorem rt:vQ (dM m)=Y (dM m):=by induction m<;>rfl
theorem GN:∀k∈kinds,∃o,Ob (.str [k]) [((.str [120]),(.int 16)),((.str [88]),(.int 16)),((.str [111]),(.int 8)),((.str [98]),(.int 2)),((.str [66]),(.int 2))]=Y o/\o.getD (.int 10)=.int (baseOf k:Nat):=
 fG ⟨_,U,U⟩ ⟨_,U,U⟩ ⟨_,U,U⟩ ⟨_,U,U⟩ ⟨_,U,U⟩ ⟨_,U,U⟩ ⟨_,U,U⟩ ⟨_,U,U⟩
theorem Lb:∀k∈kinds,∃o,Ob (.str [k]) [((.str [120]),(.str [48,120])),((.str [88]),(.str [48,88])),((.str [111]),(.str [48])),((.str [98]),(.str [48,98])),((.str [66]),(.str [48,66]))]=Y o/\o.getD (.str [])=.str (B8 k):=
 fG ⟨_,U,U⟩ ⟨_,U,U⟩ ⟨_,U,U⟩ ⟨_,U,U⟩ ⟨_,U,U⟩ ⟨_,U,U⟩ ⟨_,U,U⟩ ⟨_,U,U⟩
theorem EI:∀k∈kinds,(d7 364 (au L Z).sdict).bind (fE [k])=Y (.int (baseOf k:Nat)):=fG U U U U U U U rfl
theorem QL:∀k∈kinds,[120,88,98,66,111].any (Nat.beq k)=I->B8 k=[]:=
 fG (λ_=>rfl) (λ_=>rfl) (λ_=>rfl) (λe=>absurd e (by decide)) (λe=>absurd e (by decide)) (λe=>absurd e (by decide)) (λe=>absurd e (by decide)) (λe=>absurd e (by decide))
theorem Kr:∀k∈kinds,[120,88,98,66,111].any (Nat.beq k)=S->B8 k=bif Nat.beq k 111 then[48]else[48,k]:=
 fG (λe=>absurd e (by decide)) (λe=>absurd e (by decide)) (λe=>absurd e (by decide)) (λ_=>rfl) (λ_=>rfl) (λ_=>rfl) (λ_=>rfl) (λ_=>rfl)
theorem xO:rp (au L Z) 37 431 [(35,.str fl),(36,.int w),(37,dM m)]=Y (dM m):=by induction m<;>rfl
theorem y7:(B8 k).length<=2:=by unfold B8;cases Nat.beq k 111<;>cases[120,88,98,66].any (Nat.beq k)<;>first|exact Nat.le_refl 2|exact Nat.le_succ 1|exact Nat.zero_le 2
theorem rN:(gr a k fl).length<=2:=by unfold gr;cases fl.any (Nat.beq 35)&&!decide (a=0)with
 |true=>exact y7
 |false=>exact Nat.zero_le _
theorem oM:(sM k x).length=x.length:=by unfold sM;cases Nat.beq k 88 with
 |true=>exact List.length_map _
 |false=>rfl
theorem rz{j:Nat}(hm:∀i,m=Y i->i<=j)(hx:x.length<=j):(jF m x).length<=j:=by induction m with
 |none=>exact hx
 |some i=>have:=hm i rfl;show(List.replicate (i-x.length) 48++x).length<=j;rw[List.length_append,List.length_replicate];exact Zz this hx
theorem He{j:Nat}:sM k (List.replicate j 48++x)=List.replicate j 48++sM k x:=by unfold sM;cases Nat.beq k 88 with
 |true=>show(List.replicate j 48++x).map Ez=List.replicate j 48++x.map Ez;rw[List.map_append,List.map_replicate];rfl
 |false=>rfl
theorem J9:jF m (sM k x)=sM k (jF m x):=by induction m with
 |none=>rfl
 |some i=>show List.replicate (i-(sM k x).length) 48++sM k x=sM k (List.replicate (i-x.length) 48++x);rw[He,oM]
theorem MS{lead:List Nat}:iU m fl lead (sM k x) w=sM k (iU m fl lead x w):=by unfold iU;cases fl.any (Nat.beq 48)&&(!fl.any (Nat.beq 45)&&m.isNone)with
 |true=>show List.replicate _ 48++sM k x=sM k (List.replicate _ 48++x);rw[He,oM]
 |false=>rfl
theorem An{d:Nat}(hd:d<36):Nat.blt (jJ d) 128=S:=by
 have key:∀d:Fin 36,Nat.blt (jJ d.1) 128=S:=by decide+kernel
 exact key ⟨d,hd⟩
theorem uW{b m:Nat}(hb:2<=b)(hb2:b<=36):bV (cY b m)=S:=by unfold bV cY;rw[List.all_map,List.all_eq_true];intro d hd;exact An (Nat.lt_of_lt_of_le (oy hb d hd) hb2)
theorem wB{j:Nat}(hx:bV x=S):bV (List.replicate j 48++x)=S:=by
 unfold bV at hx⊢;rw[List.all_append,hx,List.all_replicate,jh]
 by_cases q:j=0
 ·rw[if_pos q]
 ·rw[if_neg q];rfl
theorem AA(hx:bV x=S):bV (jF m x)=S:=by induction m with
 |none=>exact hx
 |some i=>exact wB hx
theorem Ak{lead:List Nat}(hx:bV x=S):bV (iU m fl lead x w)=S:=by unfold iU;cases fl.any (Nat.beq 48)&&(!fl.any (Nat.beq 45)&&m.isNone)with
 |true=>exact wB hx
 |false=>exact hx
theorem rT{lead:List Nat}{j:Nat}(hw:w<=j)(hx:x.length<=j):(iU m fl lead x w).length<=j:=by unfold iU;cases fl.any (Nat.beq 48)&&(!fl.any (Nat.beq 45)&&m.isNone)with
 |true=>show(List.replicate _ 48++x).length<=j;refine List.length_append▸List.length_replicate▸?_;exact UU (J6 hw) hx
 |false=>exact hx
theorem cU{c:Nat}:p7 T .Eq (.str [k]) (.str [c]) s=.ok (.bool (Nat.beq k c)) s:=by show lJ.ok (J.bool (Nat.beq k c&&S)) s=_;rw[jh]
theorem zb{e:M J}{A:List J}{ag:Bool}(he:e ⟨A,h,ag⟩=.ok (.str x) ⟨A,h,ag⟩){e2:M J}(h2:e2 ⟨A,h,ag⟩=.ok (.str [k]) ⟨A,h,ag⟩)(hx:bV x=S)(hl:x.length<=16000000):fB (bJ (aW T .Eq e2 (D (.str [88])))) (bk T G e 39 (am "upper") []) e ⟨A,h,ag⟩=.ok (.str (sM k x)) ⟨A,h,ag⟩:=by have e0:bJ (aW T .Eq e2 (D (.str [88]))) ⟨A,h,ag⟩=.ok (Nat.beq k 88) ⟨A,h,ag⟩:=aK (aE h2 ao cU);refine dy e0 ?_;unfold sM;cases Nat.beq k 88 with
 |true=>exact aR he (DL U cx (zv (by exact leT hl U) hx))
 |false=>exact he
theorem zj{A:List J}{i:Nat}{v:J}(e:A[i]?=Y v):A.set i v=A:=by
 refine List.ext_getElem? λj=>?_
 by_cases q:i=j
 ·subst q
  rw[List.getElem?_set_self (List.getElem?_eq_some_iff.mp e).1,e]
 ·rw[List.getElem?_set_ne q]
theorem Mw{A:List J}{ag:Bool}{e1:M J}(hk:k∈kinds)(hx:x.length<=1000)(a1:A[1]?=Y (.int a))(a2:A[2]?=Y (.str [k]))(a4:A[4]?=Y (.str x))(he:e1 ⟨A,h,ag⟩=.ok (.str fl) ⟨A,h,ag⟩):
  eS (cQ (bJ (aW T .In (D (.str [35])) e1)) (cQ (bJ (aW T .In (B 2) (D (.str [120,88,98,66,111])))) (cQ (bJ (aW T .NotEq (B 1) (D (.int 0)))) (M.ret S)))) (aH [yM 4 .Add (fB (bJ (aW T .Eq (B 2) (D (.str [111])))) (D (.str [48])) (bp .Add (D (.str [48])) (B 2)))]) (aH []) ⟨A,h,ag⟩=.ok .nxt ⟨A.set 4 (.str (x++gr a k fl)),h,ag⟩:=by
 have hA:A.set 4 (.str (x++[]))=A:=by rw[List.append_nil];exact zj a4
 have h4:Nat.blt 4 A.length=S:=Nat.ble_eq_true_of_le (List.getElem?_eq_some_iff.mp a4).1;have t1:cQ (bJ (aW T .In (D (.str [35])) e1)) (cQ (bJ (aW T .In (B 2) (D (.str [120,88,98,66,111])))) (cQ (bJ (aW T .NotEq (B 1) (D (.int 0)))) (M.ret S))) ⟨A,h,ag⟩=.ok (fl.any (Nat.beq 35)&&([120,88,98,66,111].any (Nat.beq k)&&(!decide (a=0)&&S))) ⟨A,h,ag⟩:=
  ew (aK (aE ao he U)) (ew (aK (aE (bM a2 U) ao U)) (ew (aK (aE (bM a1 U) ao U)) jk))
 refine aY t1 ?_;unfold gr;cases fl.any (Nat.beq 35)with
 |false=>rw[show(bif I&&!decide (a=0)then B8 k else[])=[]from U,hA];exact aZ
 |true=>induction q:[120,88,98,66,111].any (Nat.beq k)with
  |false=>rw[QL k hk q,show(bif S&&!decide (a=0)then([]:List Nat)else[])=[] by cases aI (a=0)<;>rfl,hA];exact aZ
  |true=>refine(Kr k hk q)▸?_;cases aI (a=0)with
   |true=>rw[show(bif S&&!true then(bif Nat.beq k 111 then[48]else[48,k])else[])=[]from U,hA];exact aZ
   |false=>
    refine bq U (bO (SK (bM a4 U) (dy (aK (aE (bM a2 U) ao cU)) ?_) (v:=.str (x++bif Nat.beq k 111 then[48]else[48,k])) (b:=.str (bif Nat.beq k 111 then[48]else[48,k])) (xZ ?_) h4))
    ·cases Nat.beq k 111 with
     |true=>exact ao
     |false=>exact bj ao (bM a2 U) rfl
    ·cases Nat.beq k 111 with
     |true=>exact(by exact bE [_] [(.v 0,.l 1000)] 0 [1] (.a (.v 0) (.l 1)) (.l 16777216) U hx:x.length+1<=16777216)
     |false=>exact(by exact bE [_] [(.v 0,.l 1000)] 0 [1] (.a (.v 0) (.l 2)) (.l 16777216) U hx:x.length+2<=16777216)
theorem wU{N np g:Nat}{dfl as L0:List J}{C:aT->cI->M Fl}{v:J}{h2:H}(ak:df L Z g N np dfl C)(hl:vH N np dfl as=Y L0)(h1:wX (C (au L Z) (bI L Z n) ⟨L0,h,hd⟩) (λv' h''=>v'=v/\h''=h2)):bI L Z (n+1) hd g as [] h=.ok v h2:=by obtain⟨v',h'',e,p⟩:=Co ak hl h1;exact e▸p.1▸p.2▸rfl
theorem BG{i:Nat}(F:cN h i fl w m)(hk:k∈kinds)(ha:a.natAbs<=1000)(hw:w<=1000)(hw2:-1000<=w)(hm:∀j,m=Y j->j<=1000):
  vD (λh'=>bI L Z (n+2) I 428 [.obj i,.int a,.str [k]] [] h=.ok (.str (vN a k fl w m)) h') (λh'=>∀X,aD X h h'):=by
 obtain⟨b1,b2⟩:=uh k hk;obtain⟨h1,e1,K⟩:=Bq (L:=L) (Z:=Z) (n:=n) (h:=h) (m:=a.natAbs) b1 b2 (by exact leT ha U);have F1:cN h1 i fl w m:=(K []).get F List.not_mem_nil;have hl:(cY (baseOf k) a.natAbs).length<=1001:=by unfold cY;rw[List.length_map];exact Nat.le_trans qg (by exact bE [_] [(.v 0,.l 1000)] 0 [1] (.a (.v 0) (.l 1)) (.l 1001) U ha)
 refine⟨h1,?_,K⟩;refine wU Uu (L0:=[.obj i,.int a,.str [k],.unb,.unb,.unb]) U ?_;refine bU (s1:=⟨[.obj i,.int a,.str [k],.str (cY (baseOf k) a.natAbs),.unb,.unb],h1,I⟩) (bz (aJ U (aB (aJ U (aC aq) (iF sA)) (aC (Ds ao aq (EI k hk)))) (b5 U (aO e1))) U) ?_;refine bU (s1:=⟨[.obj i,.int a,.str [k],.str (jF m (cY (baseOf k) a.natAbs)),.unb,.unb],h1,I⟩) (aY (aK (aE (bG aq F1 xO) ao qx)) ?_) ?_
 ·induction m with
  |none=>exact aZ
  |some j=>have:=hm j rfl;refine bO (bz (bj (bj ao (bj (bG aq F1 U) (aJ U (aC aq) (iF (fM (by exact leT hl U)))) U) (ID (by exact zT (J6 (zY this)) U) (by exact zB U (zl (z0 _) hl)))) aq (cE (by rw[oK,List.length_replicate];exact leT (UU (K:=1001) (zT (zY this) U) hl) U))) ?_);rw[oK,show((j:Int)-((cY (baseOf k) a.natAbs).length:Nat)).toNat=j-(cY (baseOf k) a.natAbs).length by exact jg _ _];rfl
 have hx:(jF m (cY (baseOf k) a.natAbs)).length<=1001:=rz (λi e=>by have:=hm i e;exact leT this U) hl;have hXa:bV (jF m (cY (baseOf k) a.natAbs))=S:=AA (uW b1 b2);have hN:vN a k fl w m=iG ((gp a fl++gr a k fl)++sM k (iU m fl (gp a fl++gr a k fl) (jF m (cY (baseOf k) a.natAbs)) w)) w fl:=by unfold vN;rw[J9,MS]
 rw[hN]
 generalize jF m (cY (baseOf k) a.natAbs)=X at hx hXa
 have hs:(gp a fl).length<=1:=rM;have hh:(gr a k fl).length<=2:=rN;refine bU (s1:=⟨[.obj i,.int a,.str [k],.str X,.str (gp a fl),.unb],h1,I⟩) (bz (CB aq (bG aq F1 U)) U) ?_;refine bU (Mw hk (by exact leT hs U) U U U (bG aq F1 U)) ?_;have hld:(gp a fl++gr a k fl).length<=3:=by rw[List.length_append];exact bE [_,_] [(.v 0,.l 1),(.v 1,.l 2)] 0 [1,1] (.a (.v 0) (.v 1)) (.l 3) U hs hh
 generalize gp a fl++gr a k fl=ld at hld
 have t1:cQ (bJ (aW (au L Z) .In (D (.str [48])) (bT (au L Z) (B 0) 35))) (cQ (bJ (aW (au L Z) .NotIn (D (.str [45])) (bT (au L Z) (B 0) 35))) (cQ (bJ (aW (au L Z) .Is (bT (au L Z) (B 0) 37) (D .none))) (M.ret S))) ⟨[.obj i,.int a,.str [k],.str X,.str ld,.unb],h1,I⟩=.ok (fl.any (Nat.beq 48)&&(!fl.any (Nat.beq 45)&&(m.isNone&&S))) ⟨[.obj i,.int a,.str [k],.str X,.str ld,.unb],h1,I⟩:=
  ew (aK (aE ao (bG aq F1 U) U)) (ew (aK (aE ao (bG aq F1 U) U)) (ew (aK (aE (bG aq F1 xO) ao rI)) jk))
 refine bU (s1:=⟨[.obj i,.int a,.str [k],.str (iU m fl ld X w),.str ld,.unb],h1,I⟩) (aY t1 ?_) ?_
 ·unfold iU
  rw[jh];cases fl.any (Nat.beq 48)&&(!fl.any (Nat.beq 45)&&m.isNone)with
  |false=>exact aZ
  |true=>refine bq U (bO (bz (bj (bj ao (bj (bj (bG aq F1 U) (aJ U (aC aq) (iF (fM (by exact leT hld U)))) U) (aJ U (aC aq) (iF (fM (by exact leT hx U)))) U) (ID (by exact zT (J6 (J6 hw)) U) (by exact zB U (zl (zl hw2 hld) hx)))) aq (cE (by rw[oK,List.length_replicate];exact leT (UU (K:=1001) (zT (J6 hw) U) hx) U))) ?_));rw[oK];rfl
 have hZ:(iU m fl ld X w).length<=1001:=rT (by exact zT hw U) hx;have hZa:bV (iU m fl ld X w)=S:=Ak hXa;have e9:=ry (L:=L) (Z:=Z) (n:=n) (hd:=I) (x:=ld++sM k (iU m fl ld X w)) F1 (by rw[List.length_append,oM];exact bE [_,_] [(.v 0,.l 3),(.v 1,.l 1001)] 0 [1,1] (.a (.v 0) (.v 1)) (.l 1000000) U hld hZ) (by exact zT hw U) (by exact zB U hw2);refine nM (bK (aR aq (jM F1 (cD (g:=421) U U (aC (bj aq (zb aq aq hZa (by exact leT hZ U)) (cE (by rw[oM];exact bE [_,_] [(.v 0,.l 3),(.v 1,.l 1001)] 0 [1,1] (.a (.v 0) (.v 1)) (.l 16777216) U hld hZ)))) (aO e9))))) ⟨U,U⟩
end
section
variable{L:Nat}{Z:List Int}{n:Nat}{hd:Bool}{h h':H}{T:aT}{G:cI}{fl x:List Nat}{s:St}{k:Nat}{a w:Int}{m:Option Nat}
theorem mR{t:M Bool}{p:Bool}{s1:St}(e:t s=.ok p s1):cQ t (M.ret S) s=.ok p s1:=az e (by induction p<;>rfl)
theorem rJ{t:M Bool}{p:Bool}{s1:St}(e:t s=.ok p s1):pj t (M.ret I) s=.ok p s1:=az e (by induction p<;>rfl)
theorem Ad{A:List J}{ag:Bool}(hk:k∈kinds)(hx:x.length<=1000)(a0:A[0]?=Y (.int a))(a1:A[1]?=Y (.str [k]))(a2:A[2]?=Y (.str fl))(a7:A[7]?=Y (.str x)):
  eS (cQ (bJ (aW T .In (D (.str [35])) (B 2))) (cQ (bJ (aW T .NotEq (B 0) (D (.int 0)))) (M.ret S))) (aH [sAsg (bd 7) (bp .Add (B 7) (qA [((.str [120]),(.str [48,120])),((.str [88]),(.str [48,88])),((.str [111]),(.str [48])),((.str [98]),(.str [48,98])),((.str [66]),(.str [48,66]))] (B 1) (D (.str []))))]) (aH []) ⟨A,h,ag⟩=.ok .nxt ⟨A.set 7 (.str (x++gr a k fl)),h,ag⟩:=by
 have hA:A.set 7 (.str (x++[]))=A:=by rw[List.append_nil];exact zj a7
 have h7:Nat.blt 7 A.length=S:=Nat.ble_eq_true_of_le (List.getElem?_eq_some_iff.mp a7).1;have t1:cQ (bJ (aW T .In (D (.str [35])) (B 2))) (cQ (bJ (aW T .NotEq (B 0) (D (.int 0)))) (M.ret S)) ⟨A,h,ag⟩=.ok (fl.any (Nat.beq 35)&&(!decide (a=0)&&S)) ⟨A,h,ag⟩:=
  ew (aK (aE ao (bM a2 U) U)) (ew (aK (aE (bM a0 U) ao U)) jk)
 refine aY t1 ?_;unfold gr;rw[jh];cases fl.any (Nat.beq 35)&&!decide (a=0)with
 |false=>show _=lJ.ok Fl.nxt (St.mk (A.set 7 (.str (x++[]))) h ag);rw[hA];exact aZ
 |true=>obtain⟨o,o1,o2⟩:=Lb k hk;refine bq U (bO (bz (bj (bM a7 U) (Bg (bM a1 U) ao o1) (by rw[o2];exact cE (by have:=y7 (k:=k);exact bE [_,_] [(.v 0,.l 1000),(.v 1,.l 2)] 0 [1,1] (.a (.v 0) (.v 1)) (.l 16777216) U hx this))) (bv h7)))
theorem vG(hk:k∈kinds)(ha:a.natAbs<=1000)(hw:w<=1000)(hm:∀j,m=Y j->j<=1000):
  vD (λh'=>bI L Z (n+2) I 866 [.int a,.str [k],.str fl,.int w,dM m] [] h=.ok (.str (vN a k fl w m)) h') (λh'=>∀X,aD X h h'):=by
 obtain⟨b1,b2⟩:=uh k hk;obtain⟨h1,e1,K⟩:=kr (L:=L) (Z:=Z) (n:=n) (h:=h) (m:=a.natAbs) b1 b2 (by exact leT ha U);obtain⟨o,o1,o2⟩:=GN k hk;have hl:(cY (baseOf k) a.natAbs).length<=1001:=by unfold cY;simp only[List.length_map];exact Nat.le_trans qg (by exact bE [_] [(.v 0,.l 1000)] 0 [1] (.a (.v 0) (.l 1)) (.l 1001) U ha)
 refine⟨h1,?_,K⟩;refine wU Vf (L0:=[.int a,.str [k],.str fl,.int w,dM m,.unb,.unb,.unb,.unb]) U ?_;refine bU (s1:=⟨[.int a,.str [k],.str fl,.int w,dM m,.int (baseOf k:Nat),.unb,.unb,.unb],h,I⟩) (bz (Bg aq ao o1) (by simp only[o2];rfl)) ?_;refine bU (s1:=⟨[.int a,.str [k],.str fl,.int w,dM m,.int (baseOf k:Nat),.str (cY (baseOf k) a.natAbs),.unb,.unb],h1,I⟩) (bz (aJ U (aB (aJ U (aC aq) (iF sA)) (aC aq)) (b5 U (aO e1))) U) ?_;have hfa:=uW (b:=baseOf k) (m:=a.natAbs) b1 b2;refine bU (s1:=⟨[.int a,.str [k],.str fl,.int w,dM m,.int (baseOf k:Nat),.str (sM k (cY (baseOf k) a.natAbs)),.unb,.unb],h1,I⟩) (bz (zb aq aq hfa (by exact leT hl U)) U) ?_;have hu:(sM k (cY (baseOf k) a.natAbs)).length<=1001:=by simp only[oM];exact hl
 have hN:vN a k fl w m=iG ((gp a fl++gr a k fl)++iU m fl (gp a fl++gr a k fl) (jF m (sM k (cY (baseOf k) a.natAbs))) w) w fl:=rfl;simp only[hN]
 generalize sM k (cY (baseOf k) a.natAbs)=X at hu
 refine bU (s1:=⟨[.int a,.str [k],.str fl,.int w,dM m,.int (baseOf k:Nat),.str (jF m X),.unb,.unb],h1,I⟩) (fK ?_) ?_
 ·induction m with
  |none=>exact pc (fl:=999999999) (mW (aK (aE aq ao U)) (aM U jk)) rfl
  |some j=>
   have hj:=hm j rfl;have ht:∀y:List Nat,y.length<=1000000->Hb (au L Z) (bI L Z (n+1)) ⟨[.int a,.str [k],.str fl,.int w,dM (Y j),.int (baseOf k:Nat),.str y,.unb,.unb],h1,I⟩=.ok (aI ((y.length:Int)<(j:Int))) ⟨[.int a,.str [k],.str fl,.int w,dM (Y j),.int (baseOf k:Nat),.str y,.unb,.unb],h1,I⟩:=λy hy=>by exact mW (aK (aE aq ao U)) (bq U (mR (aK (aE (aJ U (aC aq) (iF (fM (by exact leT hy U)))) aq U))))
   have:=om (b:=Gn (au L Z) (bI L Z (n+1))) (λy=>⟨[.int a,.str [k],.str fl,.int w,dM (Y j),.int (baseOf k:Nat),.str y,.unb,.unb],h1,I⟩) (48::·) j (λy=>rfl) (by exact zT (zY hj) U) ht (λy hy=>bO (bz (bj ao aq (cE (w:=[48]) (w':=y) (by show 1+y.length<=16777216;exact bE [_] [(.v 0,.l 1000000)] 0 [1] (.a (.l 1) (.v 0)) (.l 16777216) U hy))) U)) _ fg X U (by exact leT hu U) (by unfold fg;exact leT (Nat.succ_le_succ (Xl (zY hj))) U);rw[oN]at this;simp only[show jF (Y j) X=List.replicate ((j:Int)-X.length).toNat 48++X by show List.replicate (j-X.length) 48++X=_;rw[show((j:Int)-X.length).toNat=j-X.length by exact jg _ _]];exact this
 have hx:(jF m X).length<=1001:=rz (λi e=>by have:=hm i e;exact leT this U) hu
 generalize jF m X=ae at hx
 have hs:(gp a fl).length<=1:=rM;have hh:(gr a k fl).length<=2:=rN;refine bU (s1:=⟨[.int a,.str [k],.str fl,.int w,dM m,.int (baseOf k:Nat),.str ae,.str (gp a fl),.unb],h1,I⟩) (bz (CB aq aq) U) ?_;refine bU (Ad hk (by exact leT hs U) U U U U) ?_;have hld:(gp a fl++gr a k fl).length<=3:=by simp only[List.length_append];exact bE [_,_] [(.v 0,.l 1),(.v 1,.l 2)] 0 [1,1] (.a (.v 0) (.v 1)) (.l 3) U hs hh
 show wX (aH (JH (au L Z) (bI L Z (n+1))) ⟨[.int a,.str [k],.str fl,.int w,dM m,.int (baseOf k:Nat),.str ae,.str (gp a fl++gr a k fl),.unb],h1,I⟩) _
 generalize gp a fl++gr a k fl=ld at hld
 refine bU (s1:=⟨[.int a,.str [k],.str fl,.int w,dM m,.int (baseOf k:Nat),.str (iU m fl ld ae w),.str ld,.unb],h1,I⟩) (fK ?_) ?_
 ·have ht:∀y:List Nat,y.length<=1000000->HX (au L Z) (bI L Z (n+1)) ⟨[.int a,.str [k],.str fl,.int w,dM m,.int (baseOf k:Nat),.str y,.str ld,.unb],h1,I⟩=.ok (fl.any (Nat.beq 48)&&(!fl.any (Nat.beq 45)&&(m.isNone&&(aI (((ld++y).length:Int)<w)&&S)))) ⟨[.int a,.str [k],.str fl,.int w,dM m,.int (baseOf k:Nat),.str y,.str ld,.unb],h1,I⟩:=λy hy=>ew (aK (aE ao aq U)) (ew (aK (aE ao aq U)) (ew (aK (aE (bM U rt) ao rI)) (ew (aK (aE (aJ U (aC (bj aq aq (cE (by exact bE [_,_] [(.v 0,.l 3),(.v 1,.l 1000000)] 0 [1,1] (.a (.v 0) (.v 1)) (.l 16777216) U hld hy)))) (iF (fM (by simp only[List.length_append];exact bE [_,_] [(.v 0,.l 3),(.v 1,.l 1000000)] 0 [1,1] (.a (.v 0) (.v 1)) (.l 16777216) U hld hy)))) aq U)) jk)))
  unfold iU;have hb:∀y:List Nat,(fl.any (Nat.beq 48)&&(!fl.any (Nat.beq 45)&&(m.isNone&&(aI (((ld++y).length:Int)<w)&&S))))=((fl.any (Nat.beq 48)&&(!fl.any (Nat.beq 45)&&m.isNone))&&aI ((y.length:Int)<w-ld.length)):=λy=>by simp only[jh,List.length_append,show aI (((ld.length+y.length:Nat):Int)<w)=aI ((y.length:Int)<w-ld.length)from decide_eq_decide.mpr (by lia),Bool.and_assoc,Bool.and_assoc]
  induction q:fl.any (Nat.beq 48)&&(!fl.any (Nat.beq 45)&&m.isNone)with
  |false=>exact pc (fl:=999999999) (ht ae (by exact leT hx U)) (by simp only[hb,q];rfl)
  |true=>rw[cond_true,<-oN];exact om (λy=>⟨[.int a,.str [k],.str fl,.int w,dM m,.int (baseOf k:Nat),.str y,.str ld,.unb],h1,I⟩) (48::·) (w-ld.length) (λy=>rfl) (by exact zT (J6 hw) U) (λy hy=>by simp only[ht y hy,hb,q,Bool.true_and]) (λy hy=>bO (bz (bj ao aq (cE (w:=[48]) (w':=y) (by show 1+y.length<=16777216;exact bE [_] [(.v 0,.l 1000000)] 0 [1] (.a (.l 1) (.v 0)) (.l 16777216) U hy))) U)) _ fg ae U (by exact leT hx U) (by unfold fg;exact leT (Nat.succ_le_succ (Xl (K:=1000) (J6 hw))) U)
 have hZ:(iU m fl ld ae w).length<=1001:=rT (by exact zT hw U) hx;exact nM (bK (aJ U (aB (bj aq aq (cE (by exact bE [_,_] [(.v 0,.l 3),(.v 1,.l 1001)] 0 [1,1] (.a (.v 0) (.v 1)) (.l 16777216) U hld hZ))) (aB aq (aC aq))) (b5 U (aO (sE (by simp only[List.length_append];exact bE [_,_] [(.v 0,.l 3),(.v 1,.l 1001)] 0 [1,1] (.a (.v 0) (.v 1)) (.l 1000000) U hld hZ) (by exact zT hw U)))))) ⟨U,U⟩
end
section
variable{L:Nat}{Z:List Int}{n:Nat}{hd:Bool}{h h':H}{T:aT}{G:cI}
section
variable{g:qi}{b:M Fl}{s s1 s2:St}{x v:J}{bX:List J}{fl:Nat}{F:lJ St Fl}
theorem Ge:dU (iW g b) (fl+1) (.vals []) s=.ok .nxt s:=rfl
theorem AC(h1:g x s=.ok () s1)(h2:b s1=.ok .nxt s2)(h3:dU (iW g b) fl (.vals bX) s2=F):dU (iW g b) (fl+1) (.vals (x::bX)) s=F:=az (a:=Y (It.vals bX,Fl.nxt)) (az kL (az h1 (az h2 U))) h3
theorem UQ(h1:g x s=.ok () s1)(h2:b s1=.ok (.ret v) s2):dU (iW g b) (fl+1) (.vals (x::bX)) s=.ok (.ret v) s2:=az (a:=Y (It.vals bX,Fl.ret v)) (az kL (az h1 (az h2 U))) rfl
theorem TQ(h1:g x s=.ok () s1)(h2:b s1=.ok .brk s2):dU (iW g b) (fl+1) (.vals (x::bX)) s=.ok .nxt s2:=az (a:=Y (It.vals bX,Fl.brk)) (az kL (az h1 (az h2 U))) rfl
end
theorem gn{α:Type}{xs:List α}{k:Nat}(hl:xs.length<=16777216):qJ xs .none (.int (k:Int))=Y (xs.take k):=by
 by_cases q:k<=xs.length
 ·exact Kj q hl
 ·rw[rx (l:=0) (u:=xs.length) U (by show Y (clip _ _)=_;unfold clip;rw[decide_eq_false (by exact dh.mpr (z0 _))];show Y (min k xs.length)=_;rw[Nat.min_eq_right (by exact Nat.le_of_lt (Nat.lt_of_not_le q))]) hl]
  show Y ((xs.take xs.length).drop 0)=_;rw[List.drop_zero,List.take_of_length_le (Nat.le_refl _),List.take_of_length_le (by exact Nat.le_of_lt (Nat.lt_of_not_le q))]
theorem ui{α:Type}{xs:List α}{k:Nat}(hl:xs.length<=16777216):qJ xs (.int (k:Int)) .none=Y (xs.drop k):=by
 by_cases q:k<=xs.length
 ·exact FS q hl
 ·rw[rx (l:=xs.length) (u:=xs.length) (by show Y (clip _ _)=_;unfold clip;rw[decide_eq_false (by exact dh.mpr (z0 _))];show Y (min k xs.length)=_;rw[Nat.min_eq_right (by exact Nat.le_of_lt (Nat.lt_of_not_le q))]) U hl]
  show Y ((xs.take xs.length).drop xs.length)=_;rw[List.drop_of_length_le (by rw[List.length_take];exact Nat.min_le_left _ _),List.drop_of_length_le (by exact Nat.le_of_lt (Nat.lt_of_not_le q))]
noncomputable abbrev jE:List Nat:=[32,9,10,11,12,13,0]
noncomputable def TF(base own:Int):Bool:=bif aI (0=base)then S else bif aI (own=base)then S else I
def di(base:Int)(p:List Nat)(own:Int)(q:Int×List Nat):Int×List Nat:=bif eqL ((q.2.take 2).map mI) p&&TF base own then(own,q.2.drop 2)else q
def jj(q:Int×List Nat):Int:=bif aI (q.1=0)then(bif eqL (q.2.take 1) [48]&&aI ((q.2.length:Int)>1)then 8 else 10)else q.1
def cG(c:Nat):Int:=ip (mI c) Au 0
def ij(sz:Int)(aS:Bool):List Nat->Int->Bool->Option (Int×Bool)
 |[],f,j=>Y (f,j)
 |c::r,f,j=>bif aI (0<=cG c)&&aI (cG c<sz)then ij sz aS r (f*sz+cG c) S else bif Nat.beq c 95&&j then ij sz aS r f I else bif aS then .none else Y (f,j)
noncomputable def yX(aS neg:Bool)(o:Option (Int×Bool)):J:=match o with
 |.none=>.none
 |some p=>bif aS&&!p.2 then .none else bif neg then .int (-p.1)else .int p.1
def lZ(aS:Bool)(x:List Nat):List Nat:=bif aS then mM jE x else ez jE x
def xc(y:List Nat):Bool:=bif eqL [43] (y.take 1)then S else bif eqL [45] (y.take 1)then S else I
def fj(y:List Nat):List Nat:=bif xc y then y.drop 1 else y
def o0(base:Int)(y:List Nat):Int×List Nat:=di base [48,111] 8 (di base [48,98] 2 (di base [48,120] 16 (base,fj y)))
def fN(x:List Nat)(base:Int)(aS:Bool):J:=yX aS (eqL ((lZ aS x).take 1) [45]) (ij (jj (o0 base (lZ aS x))) aS (o0 base (lZ aS x)).2 0 I)
noncomputable abbrev rS(a0 a1 a3 a4 a6 a7:J)(aS:Bool)(sz f:Int)(j:Bool)(l10 l11:J):List J:=[a0,a1,.bool aS,a3,a4,.int sz,a6,a7,.int f,.bool j,l10,l11,.unb]
def tL(h:H)(ah:Int->Bool->J->J->List J)(x:lJ St Fl)(o:Option (Int×Bool)):Prop:=match o with
 |.none=>Tj (λA h'=>x=.ok (.ret .none) ⟨A,h',I⟩) (λ_ h'=>∀X,aD X h h')
 |some p=>Ye (λh' l10 l11=>x=.ok .nxt ⟨ah p.1 p.2 l10 l11,h',I⟩) (λh' _ _=>∀X,aD X h h')
theorem tL.mono{h2:H}{ah:Int->Bool->J->J->List J}{x:lJ St Fl}{o:Option (Int×Bool)}(k:∀X,aD X h h2)(a:tL h2 ah x o):tL h ah x o:=by induction o with
 |none=>obtain⟨A,h3,e,K⟩:=a;exact⟨A,h3,e,λX=>(k X).trans (K X)⟩
 |some p=>obtain⟨h3,a,b,e,K⟩:=a;exact⟨h3,a,b,e,λX=>(k X).trans (K X)⟩
theorem qZ{a0 a1 a3 a4 a6 a7:J}{aS:Bool}{sz:Int}(hsz:small sz=S):∀(r:List Nat)(f:Int)(j:Bool)(l10 l11:J)(h:H)(fl:Nat),bV r=S->r.length<fl->
  tL h (rS a0 a1 a3 a4 a6 a7 aS sz) (dU (iW (bd 10) (rk (au L Z) G)) fl (.vals (r.map sg)) ⟨rS a0 a1 a3 a4 a6 a7 aS sz f j l10 l11,h,I⟩) (ij sz aS r f j)
 |_,_,_,_,_,_,0,_,hf=>absurd hf (Nat.not_lt_zero _)
 |[],f,j,l10,l11,h,fl+1,_,_=>⟨h,l10,l11,U,λX=>aD.refl⟩
 |c::r,f,j,l10,l11,h,fl+1,ha,hf=>by
  have ha:(Nat.blt c 128&&bV r)=S:=ha;rw[ax]at ha;have hc:bV [c]=S:=by show(Nat.blt c 128&&S)=S;simp only[ha.1];rfl
  have hf:=Nat.lt_of_succ_lt_succ hf;have hfind:bk (au L Z) G (D (.str Au)) 34 (am "find") [(bk (au L Z) G (B 10) 33 (am "lower") [])] ⟨rS a0 a1 a3 a4 a6 a7 aS sz f j (sg c) l11,h,I⟩=.ok (.int (cG c)) ⟨rS a0 a1 a3 a4 a6 a7 aS sz f j (sg c) l11,h,I⟩:=
   aR ao (DL U (aC (aR (aq U) (DL U cx (yv (show 1<=16777216 by decide) hc)))) (MC (by decide)))
  have hst:sAsg (bd 11) (bk (au L Z) G (D (.str Au)) 34 (am "find") [(bk (au L Z) G (B 10) 33 (am "lower") [])]) ⟨rS a0 a1 a3 a4 a6 a7 aS sz f j (sg c) l11,h,I⟩=.ok .nxt ⟨rS a0 a1 a3 a4 a6 a7 aS sz f j (sg c) (.int (cG c)),h,I⟩:=bz hfind rfl;have t1:bJ (pp (au L Z) .LtE .Lt (D (.int 0)) (B 11) (B 5)) ⟨rS a0 a1 a3 a4 a6 a7 aS sz f j (sg c) (.int (cG c)),h,I⟩=.ok (aI (0<=cG c)&&aI (cG c<sz)) ⟨rS a0 a1 a3 a4 a6 a7 aS sz f j (sg c) (.int (cG c)),h,I⟩:=
   aK (xR ao (aq U) U (aq U) U)
  have t2:cQ (bJ (aW (au L Z) .Eq (B 10) (D (.str [95])))) (cQ (bJ (B 9)) (M.ret S)) ⟨rS a0 a1 a3 a4 a6 a7 aS sz f j (sg c) (.int (cG c)),h,I⟩=.ok (Nat.beq c 95&&j) ⟨rS a0 a1 a3 a4 a6 a7 aS sz f j (sg c) (.int (cG c)),h,I⟩:=
   ew (aK (aE (aq U) ao cU)) (mR (aK (aq U)))
  unfold ij;induction q1:aI (0<=cG c)&&aI (cG c<sz)with
  |true=>
   have ih:=qZ (a0:=a0) (a1:=a1) (a3:=a3) (a4:=a4) (a6:=a6) (a7:=a7) (aS:=aS) hsz r (f*sz+cG c) S (sg c) (.int (cG c)) (h++[.tup [.int (f*sz+cG c),.bool S]]) fl ha.2 hf;have e1:dU (iW (bd 10) (rk (au L Z) G)) (fl+1) (.vals ((c::r).map sg)) ⟨rS a0 a1 a3 a4 a6 a7 aS sz f j l10 l11,h,I⟩=dU (iW (bd 10) (rk (au L Z) G)) fl (.vals (r.map sg)) ⟨rS a0 a1 a3 a4 a6 a7 aS sz (f*sz+cG c) S (sg c) (.int (cG c)),h++[.tup [.int (f*sz+cG c),.bool S]],I⟩:=
    AC (bv U) (aG hst (bO (aY t1 (bq q1 (bO (fm (aB (bj (bj (aq U) (aq U) (qy (mB hsz))) (aq U) U) (aC ao)) U U U (bZ (bv U) (dj (bv U))))))))) rfl
   simp only[e1,cond_true];exact tL.mono (λX=>aD.app) ih
  |false=>simp only[cond_false];induction q2:Nat.beq c 95&&j with
   |true=>
    have ih:=qZ (a0:=a0) (a1:=a1) (a3:=a3) (a4:=a4) (a6:=a6) (a7:=a7) (aS:=aS) hsz r f I (sg c) (.int (cG c)) h fl ha.2 hf;have e1:dU (iW (bd 10) (rk (au L Z) G)) (fl+1) (.vals ((c::r).map sg)) ⟨rS a0 a1 a3 a4 a6 a7 aS sz f j l10 l11,h,I⟩=dU (iW (bd 10) (rk (au L Z) G)) fl (.vals (r.map sg)) ⟨rS a0 a1 a3 a4 a6 a7 aS sz f I (sg c) (.int (cG c)),h,I⟩:=
     AC (bv U) (aG hst (bO (aY t1 (aM q1 (bO (aY t2 (bq q2 (bO (bz ao U))))))))) rfl
    simp only[e1];exact ih
   |false=>induction aS with
    |true=>exact⟨_,h,UQ (bv U) (aG hst (bO (aY t1 (aM q1 (bO (aY t2 (aM q2 (bO (aY (aK (aq U)) (bq U (bO (bK ao)))))))))))),λX=>aD.refl⟩
    |false=>exact⟨h,_,_,TQ (bv U) (aG hst (bO (aY t1 (aM q1 (bO (aY t2 (aM q2 (bO (aY (aK (aq U)) (aM U (bO VY))))))))))),λX=>aD.refl⟩
end
section
variable{L:Nat}{Z:List Int}{n:Nat}{hd:Bool}{h h':H}{T:aT}{G:cI}{x y:List Nat}{base:Int}{aS:Bool}
noncomputable abbrev rP(x:List Nat)(base:Int)(aS:Bool)(neg:Bool)(q:Int×List Nat)(p o:J):List J:=[.str x,.int base,.bool aS,.str q.2,.bool neg,.int q.1,p,o,.unb,.unb,.unb,.unb,.unb]
theorem mK{e:List Nat}:∀{x:List Nat},(ez e x).length<=x.length
 |[]=>Nat.le_refl _
 |c::r=>by unfold ez;cases isBlank e c with
  |true=>exact Nat.le_succ_of_le mK
  |false=>exact Nat.le_refl _
theorem jO{e:List Nat}:∀{x:List Nat},bV x=S->bV (ez e x)=S
 |[],_=>rfl
 |c::r,h=>by unfold ez;cases isBlank e c with
  |true=>exact jO (bN.mp (show(Nat.blt c 128&&bV r)=S from h)).2
  |false=>exact h
theorem wc(hx:bV x=S):bV x.reverse=S:=by unfold bV at hx⊢;rw[List.all_reverse];exact hx
theorem D5:(lZ aS x).length<=x.length:=by induction aS with
 |false=>exact mK
 |true=>show((ez jE (ez jE x).reverse).reverse).length<=_;rw[List.length_reverse];exact Nat.le_trans mK (by rw[List.length_reverse];exact mK)
theorem zn(hx:bV x=S):bV (lZ aS x)=S:=by induction aS with
 |false=>exact jO hx
 |true=>exact wc (jO (wc (jO hx)))
theorem uf{k:Nat}(hx:bV x=S):bV (x.drop k)=S:=by unfold bV at hx⊢;rw[List.all_eq_true]at hx⊢;exact λc hc=>hx c (List.mem_of_mem_drop hc)
theorem BB{k:Nat}(hx:bV x=S):bV (x.take k)=S:=by unfold bV at hx⊢;rw[List.all_eq_true]at hx⊢;exact λc hc=>hx c (List.mem_of_mem_take hc)
theorem DM(hx:bV y=S):bV (fj y)=S/\(fj y).length<=y.length:=by unfold fj;cases xc y with
 |true=>exact⟨uf hx,by simp only[cond_true,List.length_drop];exact Nat.sub_le _ _⟩
 |false=>exact⟨hx,Nat.le_refl _⟩
theorem Ao{p:List Nat}{own:Int}{q:Int×List Nat}(ha:bV q.2=S)(hq:q.1.natAbs<=100)(ho:own.natAbs<=100):bV (di base p own q).2=S/\(di base p own q).2.length<=q.2.length/\(di base p own q).1.natAbs<=100:=by unfold di;cases eqL ((q.2.take 2).map mI) p&&TF base own with
 |true=>exact⟨uf ha,by simp only[cond_true,List.length_drop];exact Nat.sub_le _ _,ho⟩
 |false=>exact⟨ha,Nat.le_refl _,hq⟩
theorem PK{own:Int}:lP (.int base) [.int 0,.int own]=Y (TF base own):=by show((Y (aI (0=base))).bind λt=>bif t then Y S else(Y (aI (own=base))).bind λt=>bif t then Y S else Y I)=Y (bif aI (0=base)then S else bif aI (own=base)then S else I);cases aI (0=base)<;>cases aI (own=base)<;>rfl
theorem uR{neg:Bool}{p:List Nat}{own:Int}{q:Int×List Nat}(ha:bV q.2=S)(hl:q.2.length<=1000000):vD (λh'=>AM (au L Z) G ⟨rP x base aS neg q (.str p) (.int own),h,I⟩=.ok .nxt ⟨rP x base aS neg (di base p own q) (.str p) (.int own),h',I⟩) (λh'=>∀X,aD X h h'):=by
 have t1:cQ (bJ (aW (au L Z) .Eq (bk (au L Z) G (fU (au L Z) (B 3) (D .none) (D (.int 2))) 33 (am "lower") []) (B 6))) (cQ (bJ (lu I (B 1) [(D (.int 0)),(B 7)])) (M.ret S)) ⟨rP x base aS neg q (.str p) (.int own),h,I⟩=.ok (eqL ((q.2.take 2).map mI) p&&TF base own) ⟨rP x base aS neg q (.str p) (.int own),h,I⟩:=
  ew (aK (aE (aR (dQ aq ao ao (gn (k:=2) (by exact leT hl U))) (DL U cx (yv (by rw[List.length_take];exact leT (Nat.min_le_left _ _) U) (BB ha)))) aq U)) (mR (aK (oo aq (aB ao (aC aq)) U PK)))
 unfold di;induction qq:eqL ((q.2.take 2).map mI) p&&TF base own with
 |false=>exact⟨h,bO (aY t1 (aM qq aZ)),λX=>aD.refl⟩
 |true=>exact⟨_,bO (aY t1 (bq qq (bO (fm (aB aq (aC (dQ aq ao ao (ui (k:=2) (by exact leT hl U))))) U U U (bZ (bv U) (dj (bv U))))))),λX=>aD.app⟩
theorem kX(hx:bV x=S)(hl:x.length<=1000000)(hb:base.natAbs<=100):vD (λh'=>bI L Z (n+1) I 386 [.str x,.int base,.bool aS] [] h=.ok (fN x base aS) h') (λh'=>∀X,aD X h h'):=by
 have ey:=zn (aS:=aS) hx;have ly:=D5 (aS:=aS) (x:=x);have hre:fN x base aS=yX aS (eqL ((lZ aS x).take 1) [45]) (ij (jj (o0 base (lZ aS x))) aS (o0 base (lZ aS x)).2 0 I):=rfl;refine hre▸?_;have e0:∀A:List J,A[2]?=Y (.bool aS)->A[0]?=Y (.str x)->fB (bJ (B 2)) (bk (au L Z) (bI L Z n) (B 0) 31 (am "strip") [(D (.str [32,9,10,11,12,13,0]))]) (bk (au L Z) (bI L Z n) (B 0) 32 (am "lstrip") [(D (.str [32,9,10,11,12,13,0]))]) ⟨A,h,I⟩=.ok (.str (lZ aS x)) ⟨A,h,I⟩:=λA a2 a0=>by refine dy (aK (bM a2 U)) ?_;induction aS with
  |true=>exact aR (bM a0 U) (DL U (aC ao) (Fi (by exact leT hl U)))
  |false=>exact aR (bM a0 U) (DL U (aC ao) (EH (by exact leT hl U)))
 generalize lZ aS x=y at ey ly e0
 obtain⟨u1,u2⟩:=DM ey;obtain⟨a1,a2,a3⟩:=Ao (base:=base) (p:=[48,120]) (own:=16) (q:=(base,fj y)) u1 hb (by decide);have a2:_<=(fj y).length:=a2;obtain⟨b1,b2,b3⟩:=Ao (base:=base) (p:=[48,98]) (own:=2) a1 a3 (by decide);obtain⟨c1,c2,c3⟩:=Ao (base:=base) (p:=[48,111]) (own:=8) b1 b3 (by decide);obtain⟨h1,e1,K1⟩:=uR (L:=L) (Z:=Z) (G:=bI L Z n) (h:=h) (x:=x) (base:=base) (aS:=aS) (neg:=eqL (y.take 1) [45]) (p:=[48,120]) (own:=16) (q:=(base,fj y)) u1 (show(fj y).length<=1000000 by exact bE [_,_,_] [(.v 0,.l 1000000),(.v 1,.v 0),(.v 2,.v 1)] 0 [1,1,1] (.v 2) (.l 1000000) U hl ly u2);obtain⟨h2,e2,K2⟩:=uR (L:=L) (Z:=Z) (G:=bI L Z n) (h:=h1) (x:=x) (base:=base) (aS:=aS) (neg:=eqL (y.take 1) [45]) (p:=[48,98]) (own:=2) a1 (by exact bE [_,_,_,_] [(.v 0,.l 1000000),(.v 1,.v 0),(.v 2,.v 1),(.v 3,.v 2)] 0 [1,1,1,1] (.v 3) (.l 1000000) U hl ly u2 a2);obtain⟨h3,e3,K3⟩:=uR (L:=L) (Z:=Z) (G:=bI L Z n) (h:=h2) (x:=x) (base:=base) (aS:=aS) (neg:=eqL (y.take 1) [45]) (p:=[48,111]) (own:=8) b1 (by exact bE [_,_,_,_,_] [(.v 0,.l 1000000),(.v 1,.v 0),(.v 2,.v 1),(.v 3,.v 2),(.v 4,.v 3)] 0 [1,1,1,1,1] (.v 4) (.l 1000000) U hl ly u2 a2 b2);have hq:o0 base y=di base [48,111] 8 (di base [48,98] 2 (di base [48,120] 16 (base,fj y))):=rfl;have hfor:uT (eZ (au L Z) [(bd 6),(bd 7)]) (iX (au L Z) (D (.sref 363))) (AM (au L Z) (bI L Z n)) ⟨rP x base aS (eqL (y.take 1) [45]) (base,fj y) .unb .unb,h,I⟩=.ok .nxt ⟨rP x base aS (eqL (y.take 1) [45]) (o0 base y) (.str [48,111]) (.int 8),h3,I⟩:=by refine hq▸?_;exact sq U (CH ao U) (AC (fl:=999999999) (BM U U U (bZ (bv U) (dj (bv U)))) e1 (AC (fl:=999999998) (BM U U U (bZ (bv U) (dj (bv U)))) e2 (AC (fl:=999999997) (BM U U U (bZ (bv U) (dj (bv U)))) e3 (Ge (fl:=999999996)))))
 rw[<-hq]at c1 c2 c3
 generalize o0 base y=q at c1 c2 c3 hfor
 have hql:q.2.length<=1000000:=by exact bE [_,_,_,_,_,_] [(.v 0,.l 1000000),(.v 1,.v 0),(.v 2,.v 1),(.v 3,.v 2),(.v 4,.v 3),(.v 5,.v 4)] 0 [1,1,1,1,1,1] (.v 5) (.l 1000000) U hl ly u2 a2 b2 c2
 have hsz:(jj q).natAbs<=100:=by unfold jj;cases aI (q.1=0)with
  |false=>exact c3
  |true=>simp only[cond_true];cases eqL (q.2.take 1) [48]&&aI ((q.2.length:Int)>1)<;>decide
 have hsl:=qZ (L:=L) (Z:=Z) (G:=bI L Z n) (a0:=.str x) (a1:=.int base) (a3:=.str q.2) (a4:=.bool (eqL (y.take 1) [45])) (a6:=.str [48,111]) (a7:=.int 8) (aS:=aS) (sz:=jj q) (jZ (by exact bE [_] [(.v 0,.l 100)] 0 [1] (.a (.v 0) (.l 1)) (.l 9223372036854775808) U hsz)) q.2 0 I .unb .unb (h3++[.tup [.int 0,.bool I]]) fg c1 (by unfold fg;exact bE [_,_,_,_,_,_] [(.v 0,.l 1000000),(.v 1,.v 0),(.v 2,.v 1),(.v 3,.v 2),(.v 4,.v 3),(.v 5,.v 4)] 0 [1,1,1,1,1,1] (.a (.v 5) (.l 1)) (.l 1000000000) U hl ly u2 a2 b2 c2);have K:∀X,aD X h (h3++[.tup [.int 0,.bool I]]):=λX=>(((K1 X).trans (K2 X)).trans (K3 X)).trans aD.app;have start:∀{P:J->H->Prop},wX (aH (Il (au L Z) (bI L Z n)) ⟨rS (.str x) (.int base) (.str q.2) (.bool (eqL (y.take 1) [45])) (.str [48,111]) (.int 8) aS (jj q) 0 I .unb .unb,h3++[.tup [.int 0,.bool I]],I⟩) P->wX (PT (au L Z) (bI L Z n) ⟨[.str x,.int base,.bool aS,.unb,.unb,.unb,.unb,.unb,.unb,.unb,.unb,.unb,.unb],h,I⟩) P:=λE=>by
  refine bU (s1:=⟨[.str x,.int base,.bool aS,.str y,.unb,.unb,.unb,.unb,.unb,.unb,.unb,.unb,.unb],h,I⟩) (bz (e0 _ U U) U) ?_;refine bU (s1:=⟨[.str x,.int base,.bool aS,.str y,.bool (eqL (y.take 1) [45]),.unb,.unb,.unb,.unb,.unb,.unb,.unb,.unb],h,I⟩) (bz (aE (dQ aq ao ao (gn (k:=1) (by exact bE [_,_] [(.v 0,.l 1000000),(.v 1,.v 0)] 0 [1,1] (.v 1) (.l 16777216) U hl ly))) ao U) U) ?_;have t2:bJ (lu I (fU (au L Z) (B 3) (D .none) (D (.int 1))) [(D (.str [43])),(D (.str [45]))]) ⟨[.str x,.int base,.bool aS,.str y,.bool (eqL (y.take 1) [45]),.unb,.unb,.unb,.unb,.unb,.unb,.unb,.unb],h,I⟩=.ok (xc y) ⟨[.str x,.int base,.bool aS,.str y,.bool (eqL (y.take 1) [45]),.unb,.unb,.unb,.unb,.unb,.unb,.unb,.unb],h,I⟩:=
   aK (oo (dQ aq ao ao (gn (k:=1) (by exact bE [_,_] [(.v 0,.l 1000000),(.v 1,.v 0)] 0 [1,1] (.v 1) (.l 16777216) U hl ly))) (aB ao (aC ao)) U (by show((Y (eqL [43] (y.take 1))).bind λt=>bif t then Y S else(Y (eqL [45] (y.take 1))).bind λt=>bif t then Y S else Y I)=Y (bif eqL [43] (y.take 1)then S else bif eqL [45] (y.take 1)then S else I);cases eqL [43] (y.take 1)<;>cases eqL [45] (y.take 1)<;>rfl))
  refine bU (s1:=⟨[.str x,.int base,.bool aS,.str (fj y),.bool (eqL (y.take 1) [45]),.unb,.unb,.unb,.unb,.unb,.unb,.unb,.unb],h,I⟩) (aY t2 ?_) ?_
  ·unfold fj
   cases xc y with
   |false=>exact aZ
   |true=>exact bq U (bO (bz (dQ aq ao ao (ui (k:=1) (by exact bE [_,_] [(.v 0,.l 1000000),(.v 1,.v 0)] 0 [1,1] (.v 1) (.l 16777216) U hl ly))) U))
  refine bU (s1:=⟨rP x base aS (eqL (y.take 1) [45]) (base,fj y) .unb .unb,h,I⟩) (bz aq U) ?_;refine bU hfor ?_;refine bU (s1:=⟨[.str x,.int base,.bool aS,.str q.2,.bool (eqL (y.take 1) [45]),.int (jj q),.str [48,111],.int 8,.unb,.unb,.unb,.unb,.unb],h3,I⟩) (aY (aK (aE aq ao U)) ?_) ?_
  ·unfold jj
   cases aI (q.1=0)with
   |false=>exact aZ
   |true=>refine bq U (bO (bz (s1:=⟨rP x base aS (eqL (y.take 1) [45]) q (.str [48,111]) (.int 8),h3,I⟩) (v:=.int (bif eqL (q.2.take 1) [48]&&aI ((q.2.length:Int)>1)then 8 else 10)) (dy (ew (aK (aE (dQ aq ao ao (gn (k:=1) (by exact bE [_,_,_,_,_,_] [(.v 0,.l 1000000),(.v 1,.v 0),(.v 2,.v 1),(.v 3,.v 2),(.v 4,.v 3),(.v 5,.v 4)] 0 [1,1,1,1,1,1] (.v 5) (.l 16777216) U hl ly u2 a2 b2 c2))) ao U)) (mR (aK (aE (aJ U (aC aq) (iF (fM (by exact bE [_,_,_,_,_,_] [(.v 0,.l 1000000),(.v 1,.v 0),(.v 2,.v 1),(.v 3,.v 2),(.v 4,.v 3),(.v 5,.v 4)] 0 [1,1,1,1,1,1] (.v 5) (.l 16777216) U hl ly u2 a2 b2 c2)))) ao U)))) ?_) U));cases eqL (q.2.take 1) [48]&&aI ((q.2.length:Int)>1)<;>exact ao
  exact bU (fm (aB ao (aC ao)) U U U (bZ (bv U) (dj (bv U)))) E
 induction ho:ij (jj q) aS q.2 0 I with
 |none=>rw[ho]at hsl;obtain⟨A,h4,e4,K4⟩:=hsl;exact⟨h4,wU DI U (start ⟨_,_,_,_,bF (sq U (yc aq) e4),U,U⟩),λX=>(K X).trans (K4 X)⟩
 |some p=>rw[ho]at hsl;obtain⟨h4,l10,l11,e4,K4⟩:=hsl;refine⟨h4,wU DI U (start (bU (sq U (yc aq) e4) ?_)),λX=>(K X).trans (K4 X)⟩;have t8:cQ (bJ (B 2)) (cQ (vM (bJ (B 9))) (M.ret S)) ⟨rS (.str x) (.int base) (.str q.2) (.bool (eqL (y.take 1) [45])) (.str [48,111]) (.int 8) aS (jj q) p.1 p.2 l10 l11,h4,I⟩=.ok (aS&&!p.2) ⟨rS (.str x) (.int base) (.str q.2) (.bool (eqL (y.take 1) [45])) (.str [48,111]) (.int 8) aS (jj q) p.1 p.2 l10 l11,h4,I⟩:=ew (aK aq) (mR (qz (aK aq) U));unfold yX;induction hs:aS&&!p.2 with
  |true=>exact nM (aY t8 (bq hs (bO (bK ao)))) ⟨by show _=(bif aS&&!p.2 then J.none else _);refine hs▸?_;rfl,U⟩
  |false=>
   have e9:fB (bJ (B 4)) (rh (B 8)) (B 8) ⟨rS (.str x) (.int base) (.str q.2) (.bool (eqL (y.take 1) [45])) (.str [48,111]) (.int 8) aS (jj q) p.1 p.2 l10 l11,h4,I⟩=.ok (bif eqL (y.take 1) [45]then .int (-p.1)else .int p.1) ⟨rS (.str x) (.int base) (.str q.2) (.bool (eqL (y.take 1) [45])) (.str [48,111]) (.int 8) aS (jj q) p.1 p.2 l10 l11,h4,I⟩:=by refine dy (aK aq) ?_;cases eqL (y.take 1) [45]with
    |true=>exact bq U (ym aq)
    |false=>exact aM U (bM (v:=.int p.1) U U)
   exact bU (aY t8 (aM hs aZ)) (nM (bK e9) ⟨by show _=(bif aS&&!p.2 then J.none else _);refine hs▸?_;rfl,U⟩)
end
section
variable{L:Nat}{Z:List Int}{n:Nat}{hd:Bool}{h h':H}{T:aT}{G:cI}{f w mo vi p u:Nat}{t r:List Nat}{vs:List J}{v:J}
section
variable{e:M J}{es:List (M J)}{s s1 s2:St}{x:Nat}{a:J}
theorem E6(h1:e s=.exc x s1):db (e::es) s=.exc x s1:=eM h1
theorem tU(h1:e s=.ok a s1)(h2:db es s1=.exc x s2):db (e::es) s=.exc x s2:=az h1 (eM h2)
theorem w5{b:J}{ks:List (Nat×M J)}(hc:ka T b=S)(h1:db es s=.exc x s1):aN T G b es ks s=.exc x s1:=b4 hc (eM h1)
theorem uB{C g i m:Nat}{fs:List (Nat×J)}{nm:aV}(hm:fq T C m=Y g)(hx:((d7 m fs).isNone&&!nk T C)=S)(h2:db es s=.exc x s1):uK T G i (.inst C fs) m nm es s=.exc x s1:=dR hm (b4 hx (eM h2))
theorem WW(h1:db es s=.exc x s1):mTup es s=.exc x s1:=eM h1
end
noncomputable def yr(w vi:Nat)(t:List Nat)(p u:Nat):List (Nat×J):=[(40,.obj w),(7,.str t),(41,.obj vi),(42,.int (p:Int)),(43,.int (u:Int))]
structure Fs(h:H)(f w mo vi:Nat)(t:List Nat)(vs:List J)(p u:Nat):Prop where
 at':h[f]?=Y (.inst 494 (yr w vi t p u))
 li:h[vi]?=Y (.list vs)
 wo:Wo h w mo
 tl:t.length<=1000000
 vl:vs.length<=1000000
theorem Fs.keep{X:List Nat}(F:Fs h f w mo vi t vs p u)(K:aD X h h')(W:Wo h' w mo)(h1:f∉X)(h2:vi∉X):Fs h' f w mo vi t vs p u:=⟨K.get F.at' h1,K.get F.li h2,W,F.tl,F.vl⟩
theorem Fs.all(F:Fs h f w mo vi t vs p u)(K:∀X,aD X h h'):Fs h' f w mo vi t vs p u:=F.keep (K []) (F.wo.keep (K []) λ_ _ _ _=>List.not_mem_nil) List.not_mem_nil List.not_mem_nil
theorem Fs.step{p' u':Nat}(F:Fs h f w mo vi t vs p u):Fs (h.set f (.inst 494 (yr w vi t p' u'))) f w mo vi t vs p' u':=⟨dP F.at',iq (ff F.at' F.li U) F.li,F.wo.set F.at' U,F.tl,F.vl⟩
abbrev FK(f w mo:Nat)(h h':H):Prop:=aD [f,w,mo] h h'
theorem FK.ofF(k:aD [f] h h'):FK f w mo h h':=k.mono λi _ m=>by refine(List.mem_singleton.mp m)▸?_;exact .head _
theorem FK.ofW(k:aD [w,mo] h h'):FK f w mo h h':=k.mono λi _ m=>.tail _ m
abbrev jD(L:Nat)(Z:List Int)(k g:Nat)(as:List J)(f w mo:Nat)(h:H)(nm:List Nat):Prop:=Ai (λx h'=>bI L Z k I g as [] h=.exc x h') (λx h'=>fA h' x nm) (λ_ h'=>Wo h' w mo) (λ_ h'=>FK f w mo h h')
theorem f8{c:Nat}(F:Fs h f w mo vi t vs p u)(hr:t.drop p=c::r):bI L Z (n+1) hd 463 [.obj f] [] h=.ok (.str [c]) (h.set f (.inst 494 (yr w vi t (p+1) u))):=by
 have hp:t[p]?=Y c:=by rw[<-Nat.add_zero p,<-List.getElem?_drop,hr];rfl
 have hlt:p<t.length:=(List.getElem?_eq_some_iff.mp hp).1;have htl:=F.tl;apply bC Ny (L0:=[.obj f,.unb]) rfl;exact aG (aY (aK (aE (bG aq F.at' U) (aJ U (aC (bG aq F.at' U)) (iF (fM (by exact leT htl U)))) U)) (aM (decide_eq_false (by exact Vn hlt)) aZ)) (aG (rq aq (i5 F.at' U) ao U (kM F.at' U U))
  (bF (bK (oH (bG aq (dP F.at') U) (bj (bG aq (dP F.at') U) ao U) (by show FF t ((p:Int)+1-1)=Y c;rw[fx];exact mE hp (by exact bE [_,_] [(.a (.v 0) (.l 1),.v 1),(.v 1,.l 1000000)] 0 [1,1] (.a (.v 0) (.l 1)) (.l 4611686018427387904) U hlt htl))))))
theorem nB(F:Fs h f w mo vi t vs p u)(hr:t.drop p=[]):jD L Z (n+11) 463 [.obj f] f w mo h aU:=by have hlt:t.length<=p:=List.drop_eq_nil_iff.mp hr;have htl:=F.tl;obtain⟨x,h1,e,R,W,K⟩:=jd (L:=L) (Z:=Z) (n:=n) (x:=[105,110,99,111,109,112,108,101,116,101,32,102,111,114,109,97,116,32,115,112,101,99,105,102,105,101,114,59,32,117,115,101,32,37,37,32,40,100,111,117,98,108,101,32,37,41,32,105,110,115,116,101,97,100]) F.wo dZ;refine⟨x,h1,?_,R,W,FK.ofW K⟩;apply fT Ny (L0:=[.obj f,.unb]) rfl;exact cZ (aY (aK (aE (bG aq F.at' U) (aJ U (aC (bG aq F.at' U)) (iF (fM (by exact leT htl U)))) U)) (bq (decide_eq_true (by exact zY hlt)) (cZ (eI (aR (bG aq F.at' U) (o3 F.wo.ok U U (aB ao (aC ao)) (dN e)))))))
theorem iK(F:Fs h f w mo vi t vs p u)(hv:vs[u]?=Y v):bI L Z (n+1) hd 456 [.obj f] [] h=.ok v (h.set f (.inst 494 (yr w vi t p (u+1)))):=by
 have hlt:u<vs.length:=(List.getElem?_eq_some_iff.mp hv).1;have hvl:=F.vl;have hli:(h.set f (.inst 494 (yr w vi t p (u+1))))[vi]?=Y (.list vs):=iq (ff F.at' F.li U) F.li;apply bC Of (L0:=[.obj f,.unb]) rfl;exact aG (aY (aK (aE (bG aq F.at' U) (aJ U (aC (bG aq F.at' U)) (iF (tm F.li (by exact leT hvl U)))) U)) (aM (decide_eq_false (by exact Vn hlt)) aZ)) (aG (rq aq (i5 F.at' U) ao U (kM F.at' U U))
  (bF (bK (gJ (bG aq (dP F.at') U) (bj (bG aq (dP F.at') U) ao U) hli (by show FF vs ((u:Int)+1-1)=Y v;rw[fx];exact mE hv (by exact bE [_,_] [(.a (.v 0) (.l 1),.v 1),(.v 1,.l 1000000)] 0 [1,1] (.a (.v 0) (.l 1)) (.l 4611686018427387904) U hlt hvl))))))
theorem uA(F:Fs h f w mo vi t vs p u)(hv:vs.length<=u):jD L Z (n+11) 456 [.obj f] f w mo h aU:=by have hvl:=F.vl;obtain⟨x,h1,e,R,W,K⟩:=jd (L:=L) (Z:=Z) (n:=n) (x:=[116,111,111,32,102,101,119,32,97,114,103,117,109,101,110,116,115]) F.wo dZ;refine⟨x,h1,?_,R,W,FK.ofW K⟩;apply fT Of (L0:=[.obj f,.unb]) rfl;exact cZ (aY (aK (aE (bG aq F.at' U) (aJ U (aC (bG aq F.at' U)) (iF (tm F.li (by exact leT hvl U)))) U)) (bq (decide_eq_true (by exact zY hv)) (cZ (eI (aR (bG aq F.at' U) (o3 F.wo.ok U U (aB ao (aC ao)) (dN e)))))))
theorem wH{k:Int}{w:Nat}:bI L Z (n+2) hd 352 [.obj w,.int k] [] h=.ok (.int k) h:=by apply bC NV (L0:=[.obj w,.int k,.unb,.unb]) rfl;exact br (aY (aK (aJ U (aC aq) (b5 U (aO mQ)))) (bq U (bF (bK aq)))) d6
theorem ED(W:Wo h w mo):Ai (λx h'=>bI L Z (n+11) I 352 [.obj w,.none] [] h=.exc x h') (λx h'=>fA h' x d5) (λ_ h'=>Wo h' w mo) (λ_ h'=>TK w mo h h'):=by obtain⟨x,h1,e,R,W1,K⟩:=jd (L:=L) (Z:=Z) (n:=n) (x:=[110,111,32,105,109,112,108,105,99,105,116,32,99,111,110,118,101,114,115,105,111,110,32,102,114,111,109,32,110,105,108,32,116,111,32,105,110,116,101,103,101,114]) W pO;refine⟨x,h1,?_,R,W1,K⟩;apply fT NV (L0:=[.obj w,.none,.unb,.unb]) rfl;exact aG (aY (aK (aJ U (aC aq) (b5 U (aO (lM U U))))) (aM U aZ)) (cZ (aY (aK (aE aq ao U)) (bq U (cZ (eI (aR aq (o3 W.ok U U (aB ao (aC ao)) (dN e))))))))
abbrev Yp(h:H)(j:Nat)(k:Int)(c:Nat):Prop:=h[j]?=Y (.tup [.int k,.str [c]])
end
section
variable{L:Nat}{Z:List Int}{n:Nat}{hd:Bool}{h h':H}{T:aT}{G:cI}{f w mo vi p u:Nat}{t r:List Nat}{vs:List J}{v:J}{c c':Nat}
theorem Lx(hc:gM c=S):[48,49,50,51,52,53,54,55,56,57].any (Nat.beq c)=S:=by
 unfold gM at hc;rw[ax]at hc;have h1:=Nat.le_of_ble_eq_true hc.1;have h2:=Nat.le_of_ble_eq_true hc.2;have key:∀d:Fin 58,Nat.ble 48 d.1=S->[48,49,50,51,52,53,54,55,56,57].any (Nat.beq d.1)=S:=by decide
 exact key ⟨c,by lia⟩ hc.1
theorem wD(hc:gM c=I):[48,49,50,51,52,53,54,55,56,57].any (Nat.beq c)=I:=by induction q:[48,49,50,51,52,53,54,55,56,57].any (Nat.beq c)with
 |false=>rfl
 |true=>
  obtain⟨d,hm,hd2⟩:=List.any_eq_true.mp q;rw[Nat.eq_of_beq_eq_true hd2]at hc;have:∀d∈[48,49,50,51,52,53,54,55,56,57],gM d=S:=by decide
  rw[this d hm]at hc;exact nF hc
noncomputable abbrev cS(f:Nat)(l1:J)(k:Nat)(c:Nat):List J:=[.obj f,l1,.int (k:Int),.str [c],.unb]
theorem iN{l1:J}{k:Nat}{b:Bool}(hb:[48,49,50,51,52,53,54,55,56,57].any (Nat.beq c)=b):F9 (au L Z) G ⟨cS f l1 k c,h,I⟩=.ok b ⟨cS f l1 k c,h,I⟩:=aK (aE aq ao (by rw[<-hb];rfl))
theorem xP{l1:J}{k:Nat}(hc:gM c=S):sAsg (bd 2) (bp .Add (bp .Mult (B 2) (D (.int 10))) (aN (au L Z) G (.ty "int") [(B 3)] [])) ⟨cS f l1 k c,h,I⟩=.ok .nxt ⟨cS f l1 (k*10+(c-48)) c,h,I⟩:=
 bz (bj (bj aq ao (qy (mB U))) (aJ U (aC aq) (EG (UA hc))) U) rfl
theorem nN{l1:J}{k:Nat}(F:Fs h f w mo vi t vs p u)(hr:t.drop p=c'::r)(hc:gM c=S)(hk:k*10+(c-48)<=20000):xx (au L Z) (bI L Z (n+1)) ⟨cS f l1 k c,h,I⟩=.ok .nxt ⟨cS f l1 (k*10+(c-48)) c',h.set f (.inst 494 (yr w vi t (p+1) u)),I⟩:=
 aG (xP hc) (aG (aY (aK (aE aq ao U)) (aM (decide_eq_false (by exact Pw (a:=20000) hk)) aZ)) (bO (bz (aR aq (jM F.at' (cD U U cx (aO (f8 F hr))))) U)))
theorem Ld{l1:J}{k:Nat}(F:Fs h f w mo vi t vs p u)(hc:gM c=S)(hk:20000<k*10+(c-48)):Ai (λx h'=>xx (au L Z) (bI L Z (n+11)) ⟨cS f l1 k c,h,I⟩=.exc x ⟨cS f l1 (k*10+(c-48)) c,h',I⟩) (λx h'=>fA h' x aU) (λ_ h'=>Wo h' w mo) (λ_ h'=>FK f w mo h h'):=by obtain⟨x,h1,e,R,W,K⟩:=jd (L:=L) (Z:=Z) (n:=n+1) (x:=[119,105,100,116,104,32,116,111,111,32,98,105,103]) F.wo dZ;exact⟨x,h1,aG (xP hc) (cZ (aY (aK (aE aq ao U)) (bq (decide_eq_true (by exact vA (a:=20000) hk)) (cZ (eI (aR (bG aq F.at' U) (o3 F.wo.ok U U (aB ao (aC ao)) (dN e)))))))),R,W,FK.ofW K⟩
theorem Md{l1:J}{k:Nat}(F:Fs h f w mo vi t vs p u)(hr:t.drop p=[])(hc:gM c=S)(hk:k*10+(c-48)<=20000):Ai (λx h'=>xx (au L Z) (bI L Z (n+11)) ⟨cS f l1 k c,h,I⟩=.exc x ⟨cS f l1 (k*10+(c-48)) c,h',I⟩) (λx h'=>fA h' x aU) (λ_ h'=>Wo h' w mo) (λ_ h'=>FK f w mo h h'):=by obtain⟨x,h1,e,R,W,K⟩:=nB (L:=L) (Z:=Z) (n:=n) F hr;exact⟨x,h1,aG (xP hc) (aG (aY (aK (aE aq ao U)) (aM (decide_eq_false (by exact Pw (a:=20000) hk)) aZ)) (bO (oL (aR aq (jM F.at' (cD U U cx (dN e))))))),R,W,K⟩
theorem oJ(hc:Nat.beq c 42=I):Rl (au L Z) G ⟨[.obj f,.str [c],.unb,.unb,.unb],h,I⟩=aH (Hl (au L Z) G) ⟨cS f (.str [c]) 0 c,h++[.tup [.int 0,.str [c]]],I⟩:=
 aG (aY (aK (aE aq ao cU)) (aM hc aZ)) (aG (fm (aB ao (aC aq)) U U U (bZ (bv U) (dj (bv U)))) U)
theorem y5{l1:J}{k:Nat}(hc:gM c=I):aH (Ie (au L Z) G) ⟨cS f l1 k c,h,I⟩=.ok (.ret (.obj h.length)) ⟨cS f l1 k c,h++[.tup [.int (k:Int),.str [c]]],I⟩:=bF (bK (gm (aB aq (aC aq)) U))
abbrev qX(L:Nat)(Z:List Int)(k:Nat)(c:Nat)(h:H)(f w mo vi:Nat)(t:List Nat)(vs:List J)(p u:Nat)(q:Int)(c':Nat):Prop:=
 Ai (λj h'=>bI L Z k I 470 [.obj f,.str [c]] [] h=.ok (.obj j) h') (λj h'=>Yp h' j q c') (λ_ h'=>Fs h' f w mo vi t vs p u) (λ_ h'=>FK f w mo h h')
theorem Hn(F:Fs h f w mo vi t vs p u)(hc:Nat.beq c 42=I)(hd':gM c=I):qX L Z (n+1) c h f w mo vi t vs p u 0 c:=
 ⟨_,_,by apply bC sj (L0:=[.obj f,.str [c],.unb,.unb,.unb]) rfl;rw[oJ hc];exact aG (fK (pc (fl:=999999999) (iN (wD hd')) U)) (y5 hd'),ba,F.all λX=>(aD.app.trans aD.app),aD.app.trans aD.app⟩
theorem v0(F:Fs h f w mo vi t vs p u)(hc:Nat.beq c 42=I)(hd':gM c=S)(hr:t.drop p=c'::r)(hc':gM c'=I):qX L Z (n+2) c h f w mo vi t vs (p+1) u ((c-48:Nat):Int) c':=by
 have F1:Fs (h++[.tup [.int 0,.str [c]]]) f w mo vi t vs p u:=F.all λX=>aD.app;have hz:0*10+(c-48)<=20000:=by unfold gM at hd';have:=Nat.le_of_ble_eq_true (bN.mp hd').2;lia
 have e1:=nN (L:=L) (Z:=Z) (n:=n) (l1:=.str [c]) F1 hr hd' hz;rw[Nat.zero_mul,Nat.zero_add]at e1;refine⟨_,_,?_,ba,(F1.step (p':=p+1) (u':=u)).all λX=>aD.app,(aD.app.trans (FK.ofF (aD.set (.head _)))).trans aD.app⟩;apply bC sj (L0:=[.obj f,.str [c],.unb,.unb,.unb]) rfl;rw[oJ hc];exact aG (fK (nC (fl:=999999999) (iN (Lx hd')) U e1 (pc (fl:=999999998) (iN (wD hc')) U))) (y5 hc')
theorem tZ{k:Int}(F:Fs h f w mo vi t vs p u)(hv:vs[u]?=Y (.int k))(hk:k.natAbs<=20000)(hr:t.drop p=c'::r):qX L Z (n+3) 42 h f w mo vi t vs (p+1) (u+1) k c':=by
 have F1:=F.step (p':=p) (u':=u+1);refine⟨_,_,?_,ba,(F1.step (p':=p+1) (u':=u+1)).all λX=>aD.app,((FK.ofF (aD.set (.head _))).trans (FK.ofF (aD.set (.head _)))).trans aD.app⟩;apply bC sj (L0:=[.obj f,.str [42],.unb,.unb,.unb]) rfl;exact br (aY (aK (aE aq ao cU)) (bq U (aG (bz (aJ U (aB (bG aq F.at' U) (aC (aR aq (jM F.at' (cD U U cx (aO (iK (n:=n+1) F hv))))))) (b5 U (aO wH))) U)
  (aG (aY (aK (aE (aJ U (aC aq) (iF sA)) ao U)) (aM (decide_eq_false (by exact Pw (a:=20000) hk)) aZ))
   (bF (bK (gm (aB aq (aC (aR aq (jM F1.at' (cD U U cx (aO (f8 (n:=n+1) F1 hr))))))) U))))))) d6
theorem jw(F:Fs h f w mo vi t vs p u)(hv:vs.length<=u):jD L Z (n+12) 470 [.obj f,.str [42]] f w mo h aU:=by obtain⟨x,h1,e,R,W,K⟩:=uA (L:=L) (Z:=Z) (n:=n) F hv;refine⟨x,h1,?_,R,W,K⟩;apply fT sj (L0:=[.obj f,.str [42],.unb,.unb,.unb]) rfl;exact cZ (aY (aK (aE aq ao cU)) (bq U (cZ (oL (w5 U (tU (bG aq F.at' U) (E6 (aR aq (jM F.at' (cD U U cx (dN e)))))))))))
theorem uq(F:Fs h f w mo vi t vs p u)(hv:vs[u]?=Y .none):jD L Z (n+12) 470 [.obj f,.str [42]] f w mo h d5:=by have F1:=F.step (p':=p) (u':=u+1);obtain⟨x,h1,e,R,W,K⟩:=ED (L:=L) (Z:=Z) (n:=n) F1.wo;refine⟨x,h1,?_,R,W,(FK.ofF (aD.set (.head _))).trans (FK.ofW K)⟩;apply fT sj (L0:=[.obj f,.str [42],.unb,.unb,.unb]) rfl;exact cZ (aY (aK (aE aq ao cU)) (bq U (cZ (oL (aJ U (aB (bG aq F.at' U) (aC (aR aq (jM F.at' (cD U U cx (aO (iK (n:=n+10) F hv))))))) (b5 U (dN e)))))))
theorem ur{k:Int}(F:Fs h f w mo vi t vs p u)(hv:vs[u]?=Y (.int k))(hk:20000<k.natAbs):jD L Z (n+12) 470 [.obj f,.str [42]] f w mo h aU:=by
 have F1:=F.step (p':=p) (u':=u+1);obtain⟨x,h1,e,R,W,K⟩:=jd (L:=L) (Z:=Z) (n:=n+1) (x:=[119,105,100,116,104,32,116,111,111,32,98,105,103]) F1.wo dZ;refine⟨x,h1,?_,R,W,(FK.ofF (aD.set (.head _))).trans (FK.ofW K)⟩;apply fT sj (L0:=[.obj f,.str [42],.unb,.unb,.unb]) rfl;exact cZ (aY (aK (aE aq ao cU)) (bq U (aG (bz (aJ U (aB (bG aq F.at' U) (aC (aR aq (jM F.at' (cD U U cx (aO (iK (n:=n+10) F hv))))))) (b5 U (aO (wH (n:=n+9))))) U)
  (cZ (aY (aK (aE (aJ U (aC aq) (iF sA)) ao U)) (bq (decide_eq_true (by exact vA (a:=20000) hk)) (cZ (eI (aR (bG aq F1.at' U) (o3 F1.wo.ok U U (aB ao (aC ao)) (dN e)))))))))))
end
section
variable{L:Nat}{Z:List Int}{n:Nat}{hd:Bool}{h h':H}{T:aT}{G:cI}{f w mo vi p u i:Nat}{t r x:List Nat}{vs:List J}{v:J}{c c':Nat}{k:Int}
theorem Pt:bI L Z (n+2) hd 393 [.obj w,.int k] [] h=.ok (.int k) h:=by apply bC Cz (L0:=[.obj w,.int k,.unb,.unb]) rfl;exact br (aY (aK (aJ U (aC aq) (b5 U (aO mQ)))) (bq U (bF (bK aq)))) d6
theorem nV{ak:Nat}{fs:List (Nat×J)}(hD:po ak=S)(a:h[i]?=Y (.inst ak fs)):bI L Z (n+1) hd 237 [.obj i] [] h=.ok (.bool I) h:=lM U (iC (x4 a hD U))
theorem KJ(A:dY h i x)(hx:bV x=S)(hl:x.length<=1000000)(hr:fN x 0 S=.int k):vD (λh'=>bI L Z (n+2) I 393 [.obj w,.obj i] [] h=.ok (.int k) h') (λh'=>∀X,aD X h h'):=by
 obtain⟨fs,a,b⟩:=A;obtain⟨h1,e1,K⟩:=kX (L:=L) (Z:=Z) (n:=n) (h:=h) (base:=0) (aS:=S) hx hl (by decide);rw[hr]at e1;refine⟨h1,?_,K⟩;apply bC Cz (L0:=[.obj w,.obj i,.unb,.unb]) rfl;exact aG (aY (aK (aJ U (aC aq) (b5 U (aO (nV U a))))) (aM U aZ)) (br (aY (aK (eH U aq (iC (jl a U U)))) (bq rfl
  (aG (bz (aJ U (aB (bG aq a (iw U b U)) (aB ao (aC ao))) (b5 U (aO e1))) U) (br (aY (aK (aE aq ao U)) (bq U (bF (bK aq)))) d6)))) d6)
abbrev yd(L:Nat)(Z:List Int)(k g:Nat)(as:List J)(w mo:Nat)(h:H)(nm:List Nat):Prop:=Ai (λx h'=>bI L Z k I g as [] h=.exc x h') (λx h'=>fA h' x nm) (λ_ h'=>Wo h' w mo) (λ_ h'=>TK w mo h h')
theorem z6(W:Wo h w mo)(A:dY h i x)(hx:bV x=S)(hp:x.all j5=S)(hl:x.length<=1000)(hr:fN x 0 S=.none):yd L Z (n+11) 393 [.obj w,.obj i] w mo h aU:=by
 obtain⟨fs,a,b⟩:=A;obtain⟨h1,e1,K⟩:=kX (L:=L) (Z:=Z) (n:=n+9) (h:=h) (base:=0) (aS:=S) hx (by exact leT hl U) (by decide);rw[hr]at e1;have a1:=(K []).get a List.not_mem_nil;obtain⟨h2,e2,K2⟩:=jy (L:=L) (Z:=Z) (n:=n+6) (d:=6) (as:=[.obj i]) ⟨fs,a1,b⟩ hp (by exact leT hl U) rfl;have W2:Wo h2 w mo:=(W.keep (K []) λ_ _ _ _=>List.not_mem_nil).keep (K2 []) λ_ _ _ _=>List.not_mem_nil;obtain⟨y,h3,e3,R,W3,K3⟩:=jd (L:=L) (Z:=Z) (n:=n) (x:=[105,110,118,97,108,105,100,32,118,97,108,117,101,32,102,111,114,32,73,110,116,101,103,101,114,40,41,58,32]++((34::x)++[34])) W2 dZ;have W1:Wo h1 w mo:=W.keep (K []) λ_ _ _ _=>List.not_mem_nil;have jC:((34::x)++[34]).length<=1002:=by rw[List.length_append];show x.length+1+1<=1002;exact bE [_] [(.v 0,.l 1000)] 0 [1] (.a (.a (.v 0) (.l 1)) (.l 1)) (.l 1002) U hl
 refine⟨y,h3,?_,R,W3,((K _).trans (K2 _)).trans K3⟩;apply fT Cz (L0:=[.obj w,.obj i,.unb,.unb]) rfl;exact aG (aY (aK (aJ U (aC aq) (b5 U (aO (nV (n:=n+9) U a))))) (aM U aZ)) (cZ (aY (aK (eH U aq (iC (jl a U U)))) (bq rfl
  (aG (bz (aJ U (aB (bG aq a (iw U b U)) (aB ao (aC ao))) (b5 U (aO e1))) U) (aG (aY (aK (aE aq ao U)) (aM U aZ))
   (cZ (eI (aR aq (o3 W1.ok U U (aB ao (aC (Da (jf ao (by decide) (jf (aJ U (aC aq) (b5 U (aO e2))) (by rw[List.length_append];exact Nat.le_trans (Nat.add_le_add_left jC _) (by decide)) C6))))) (dN e3))))))))))
theorem yR{x:List Nat}(hv:vQ v=Y v)(h0:∀s,p7 (au L Z) .Is v .none s=.ok (.bool I) s)(e:bI L Z (n+4) I 338 [v] [] h=.ok (.str x) h)(hi:jm v h [.ty "bool",.ty "int",.ty "str"]=Y S):bI L Z (n+5) I 345 [.obj w,v] [] h=.ok (.str x) h:=by apply bC Np (L0:=[.obj w,v,.unb]) rfl;exact br (aY (qF (aK (aE (bM U hv) ao (h0 _))) (aM U (rJ (aK (eH U (bM U hv) hi))))) (bq U (bF (bK (aJ U (aC (bM U hv)) (b5 U (aO e))))))) d6
theorem DS:bI L Z (n+5) I 345 [.obj w,.none] [] h=.ok (.str [110,105,108]) h:=by apply bC Np (L0:=[.obj w,.none,.unb]) rfl;exact br (aY (qF (aK (aE aq ao U)) (bq U jk)) (bq U (bF (bK (aJ U (aC aq) (b5 U (aO (tI (n:=n+2) U)))))))) d6
theorem B9(W:Wo h w mo)(hv:vQ v=Y v)(hi:bI L Z (n+10) I 237 [v] [] h=.ok (.bool I) h)(ht:jm v h [.sref 62]=Y I)(hn:bI L Z (n+10) I 345 [.obj w,v] [] h=.ok (.str x) h)(hl:x.length<=1000):yd L Z (n+11) 393 [.obj w,v] w mo h d5:=by
 obtain⟨y,h3,e3,R,W3,K3⟩:=jd (L:=L) (Z:=Z) (n:=n) (x:=([99,97,110,39,116,32,99,111,110,118,101,114,116,32]++x)++[32,105,110,116,111,32,73,110,116,101,103,101,114]) W pO;refine⟨y,h3,?_,R,W3,K3⟩;apply fT Cz (L0:=[.obj w,v,.unb,.unb]) rfl;have l1:([99,97,110,39,116,32,99,111,110,118,101,114,116,32]++x).length<=16777216:=by rw[List.length_append];exact Nat.le_trans (Nat.add_le_add_left hl _) (by decide)
 have l2:(([99,97,110,39,116,32,99,111,110,118,101,114,116,32]++x)++[32,105,110,116,111,32,73,110,116,101,103,101,114]).length<=16777216:=by rw[List.length_append,List.length_append];exact Nat.le_trans (Nat.add_le_add_right (Nat.add_le_add_left hl _) _) (by decide)
 exact aG (aY (aK (aJ U (aC (bM U hv)) (b5 U (aO hi)))) (aM U aZ)) (aG (aY (aK (eH U (bM U hv) ht)) (aM U aZ))
  (cZ (eI (aR aq (o3 W.ok U U (aB ao (aC (Da (jf ao (by decide) (jf (aJ U (aB aq (aC (bM U hv))) (b5 U (aO hn))) l1 (jf ao l2 C6)))))) (dN e3))))))
theorem wR(A:dY h i x):bI L Z (n+1) hd 371 [.obj w,.obj i] [] h=.ok (.str x) h:=by obtain⟨fs,a,b⟩:=A;apply bC Nf (L0:=[.obj w,.obj i,.unb,.unb,.unb]) rfl;exact br (aY (aK (eH U aq (iC (jl a U U)))) (bq U (bF (bK (bG aq a (iw U b U)))))) d6
theorem z9(W:Wo h w mo):yd L Z (n+11) 371 [.obj w,.none] w mo h d5:=by
 obtain⟨y,h3,e3,R,W3,K3⟩:=jd (L:=L) (Z:=Z) (n:=n) (x:=[110,111,32,105,109,112,108,105,99,105,116,32,99,111,110,118,101,114,115,105,111,110,32,111,102,32,110,105,108,32,105,110,116,111,32,83,116,114,105,110,103]) W pO;refine⟨y,h3,?_,R,W3,K3⟩;apply fT Nf (L0:=[.obj w,.none,.unb,.unb,.unb]) rfl;exact aG (aY (aK (eH U (aq U) U)) (aM U aZ)) (aG (bz (Tx (aE (aq U) ao U) (bq U OD)) U) (aG (bz (dy (aK (aq U)) (bq U (aJ U (aC (aq U)) (b5 U (aO (tI (n:=n+8) U)))))) U)
  (cZ (eI (aR (aq U) (o3 W.ok U U (aB ao (aC (Da (jf ao (by decide) (jf (aq U) (by decide) (jf ao (by decide) C6)))))) (dN e3)))))))
end
section
variable{L:Nat}{Z:List Int}{n:Nat}{hd:Bool}{h h':H}{T:aT}{G:cI}{f w mo vi p u i b:Nat}{t r x d s:List Nat}{vs:List J}{v:J}{c c':Nat}{k:Int}
inductive V6(b:Nat)(h:H):J->List Nat->List Nat->Prop where
 |text (i:Nat) (x:List Nat) (A:dY h i x) (q:x.all j5=S) (l:x.length<=1000):V6 b h (.obj i) x ((34::x)++[34])
 |int (k:Int) (q:small k=S):V6 b h (.int k) (sU k) (sU k)
 |sym:V6 b h (.str [115,121,109]) [115,121,109] [58,115,121,109]
 |nil:V6 b h .none [] [110,105,108]
 |tru:V6 b h (.bool S) [116,114,117,101] [116,114,117,101]
 |list (i j t:Nat) (fs:List (Nat×J)) (a:h[i]?=Y (.inst 82 fs)) (e:d7 8 fs=Y (.obj j)) (c:h[j]?=Y (.list [.int 1,.obj t])) (A:dY h t [113]) (q:j≠b):V6 b h (.obj i) [91,49,44,32,34,113,34,93] [91,49,44,32,34,113,34,93]
structure tv(b:Nat)(h:H)(X:List Nat):Prop where
 th:∀i C fs,h[i]?=Y (.inst C fs)->(Nat.beq C 62||Nat.beq C 82)=S->i∉X
 li:∀i xs,h[i]?=Y (.list xs)->i≠b->i∉X
theorem dY.keep{X:List Nat}(A:dY h i x)(K:aD X h h')(O:tv b h X):dY h' i x:=let⟨fs,a,e⟩:=A;⟨fs,K.get a (O.th _ _ _ a U),e⟩
theorem V6.keep{X:List Nat}(V:V6 b h v d s)(K:aD X h h')(O:tv b h X):V6 b h' v d s:=by cases V with
 |text i x A q l=>exact .text i d (A.keep K O) q l
 |int k q=>exact .int k q
 |sym=>exact .sym
 |nil=>exact .nil
 |tru=>exact .tru
 |list i j t fs a e c A q=>exact .list i j t fs (K.get a (O.th _ _ _ a U)) e (K.get c (O.li _ _ c q)) (A.keep K O) q
theorem tv.all:tv b h []:=⟨λ_ _ _ _ _=>List.not_mem_nil,λ_ _ _ _=>List.not_mem_nil⟩
theorem Fs.off(F:Fs h f w mo vi t vs p u):tv b h [f,w,mo]:=
 ⟨λi C fs e q m=>by
  have hw:=F.wo.nin e (by show(!(Nat.beq (C+10) 2||Nat.beq (C+10) 837||Nat.beq (C+10) 238))=S;rw[dz]at q;rcases q with q|q<;>(rw[Nat.eq_of_beq_eq_true q];rfl));rcases List.mem_cons.mp m with rfl|m
  ·have:=e.symm.trans F.at'
   cases this;cases q
  ·exact hw m,
 λi xs e _ m=>by
  rcases List.mem_cons.mp m with rfl|m
  ·have:=e.symm.trans F.at'
   cases this
  ·exact F.wo.nin e U m⟩
theorem tv.sub{X ae:List Nat}(O:tv b h X)(s:∀x∈ae,x∈X):tv b h ae:=⟨λi C fs e q m=>O.th i C fs e q (s _ m),λi xs e q m=>O.li i xs e q (s _ m)⟩
theorem tv.ofF(O:tv b h [f,w,mo]):tv b h [f]:=O.sub λx m=>by simp only[List.mem_singleton.mp m];exact .head _
theorem V6.nou(V:V6 b h v d s):vQ v=Y v:=by induction V<;>rfl
theorem V6.show(V:V6 b h v d s):vD (λh'=>bI L Z (n+6) I 338 [v] [] h=.ok (.str s) h') (λh'=>∀X,aD X h h'):=by induction V with
 |text i x A q l=>exact jy (n:=n+2) (d:=6) A q (by exact leT l U) rfl
 |int k q=>exact⟨h,zu (n:=n+4) (d:=6) q U,λX=>aD.refl⟩
 |sym=>exact⟨h,zz (n:=n+2) (d:=6) Sn (by decide) U,λX=>aD.refl⟩
 |nil=>exact⟨h,tI (n:=n+4) (d:=6) U,λX=>aD.refl⟩
 |tru=>exact⟨h,wy (n:=n+4) (d:=6) U,λX=>aD.refl⟩
 |list i j t fs a e c A q=>exact sQ ⟨fs,j,a,e,c⟩ A
theorem V6.disp(V:V6 b h v d s):vD (λh'=>bI L Z (n+7) I 400 [v] [] h=.ok (.str d) h') (λh'=>∀X,aD X h h'):=by
 obtain⟨h1,e1,K⟩:=V.show (L:=L) (Z:=Z) (n:=n);have go:vQ v=Y v->jm v h [.sref 62]=Y I->(∀s,p7 (au L Z) .Is v .none s=.ok (.bool I) s)->jm v h [.ty "str"]=Y I->bI L Z (n+7) I 400 [v] [] h=.ok (.str s) h1:=λa1 a2 a3 a4=>by apply bC CN (L0:=[v,.unb]) rfl;exact aG (aY (aK (eH U (bM U a1) a2)) (aM U aZ)) (aG (aY (aK (aE (bM U a1) ao (a3 _))) (aM U aZ)) (bF (bK (dy (aK (eH U (bM U a1) a4)) (aM U (aJ U (aC (bM U a1)) (b5 U (aO e1))))))))
 induction V with
 |text i x A q l=>obtain⟨fs,a,e⟩:=A;refine⟨h,?_,λX=>aD.refl⟩;apply bC CN (L0:=[.obj i,.unb]) rfl;exact br (aY (aK (eH U aq (iC (jl a U U)))) (bq U (bF (bK (bG aq a (iw U e U)))))) d6
 |int k q=>exact⟨h1,go U U (λ_=>rfl) U,K⟩
 |sym=>refine⟨h,?_,λX=>aD.refl⟩;apply bC CN (L0:=[.str [115,121,109],.unb]) rfl;exact aG (aY (aK (eH U aq U)) (aM U aZ)) (aG (aY (aK (aE aq ao U)) (aM U aZ)) (bF (bK (dy (aK (eH U aq U)) (bq U aq)))))
 |nil=>refine⟨h,?_,λX=>aD.refl⟩;apply bC CN (L0:=[.none,.unb]) rfl;exact aG (aY (aK (eH U aq U)) (aM U aZ)) (br (aY (aK (aE aq ao U)) (bq U (bF (bK ao)))) d6)
 |tru=>exact⟨h1,go U U (λ_=>rfl) U,K⟩
 |list i j t fs a e c A q=>exact⟨h1,go U (iC (jl a U U)) (λ_=>rfl) (iC (x4 a U U)),K⟩
inductive Sg(h:H):J->Nat->Prop where
 |int (k:Nat) (q:k<128):Sg h (.int (k:Int)) k
 |text (i c:Nat) (r:List Nat) (A:dY h i (c::r)) (l:r.length<=1000):Sg h (.obj i) c
theorem Sg.keep{X:List Nat}(V:Sg h v c)(K:aD X h h')(O:tv b h X):Sg h' v c:=by cases V with
 |int k q=>exact .int c q
 |text i c r A l=>exact .text i c r (A.keep K O) l
theorem Fh(F:Fs h f w mo vi t vs p u)(V:Sg h v c):bI L Z (n+2) I 477 [.obj f,v] [] h=.ok (.str [c]) h:=by cases V with
 |int k q=>apply bC CY (L0:=[.obj f,.int (c:Int),.unb]) rfl;exact aG (aY (qz (aK (aJ U (aC (aq U)) (b5 U (aO mQ)))) U) (aM U aZ)) (bF (bK (dy (aK (xR ao (aq U) U ao U)) (bq (by rw[decide_eq_true (by exact z0 _),decide_eq_true (by exact vA (b:=1114112) (leT q U))];rfl) (aJ U (aC (aq U)) (iF (Nh (by rw[decide_eq_true (by exact z0 _),decide_eq_true (by exact vA (b:=128) q)];rfl))))))))
 |text i c r A l=>have e1:=wR (L:=L) (Z:=Z) (n:=n) (hd:=I) (w:=w) A;obtain⟨fs,a,e⟩:=A;apply bC CY (L0:=[.obj f,.obj i,.unb]) rfl;exact br (aY (qz (aK (aJ U (aC (aq U)) (b5 U (aO (nV U a))))) U) (bq U (bF (bK (dQ (aJ U (aB (bG (aq U) F.at' U) (aC (aq U))) (b5 U (aO e1))) ao ao (gn (k:=1) (by simp only[List.length_cons];exact bE [_] [(.v 0,.l 1000)] 0 [1] (.a (.v 0) (.l 1)) (.l 16777216) U l))))))) d6
theorem FQ(F:Fs h f w mo vi t vs p u)(hk:k<0):jD L Z (n+11) 477 [.obj f,.int k] f w mo h aU:=by obtain⟨x,h1,e,R,W,K⟩:=jd (L:=L) (Z:=Z) (n:=n) (x:=[105,110,118,97,108,105,100,32,99,104,97,114,97,99,116,101,114]) F.wo dZ;refine⟨x,h1,?_,R,W,FK.ofW K⟩;apply fT CY (L0:=[.obj f,.int k,.unb]) rfl;exact aG (aY (qz (aK (aJ U (aC aq) (b5 U (aO (mQ (n:=n+9)))))) U) (aM U aZ)) (cZ (eI (dy (aK (xR ao aq U ao U)) (aM (by rw[decide_eq_false (by exact kt.mpr hk)];rfl) (aR (bG aq F.at' U) (o3 F.wo.ok U U (aB ao (aC ao)) (dN e)))))))
theorem TV{e l r:M J}{s s1:St}{x:Nat}(h1:e s=.exc x s1):fU T e l r s=.exc x s1:=eM h1
theorem HC(F:Fs h f w mo vi t vs p u):jD L Z (n+12) 477 [.obj f,.none] f w mo h d5:=by obtain⟨x,h1,e,R,W,K⟩:=z9 (L:=L) (Z:=Z) (n:=n) F.wo;refine⟨x,h1,?_,R,W,FK.ofW K⟩;apply fT CY (L0:=[.obj f,.none,.unb]) rfl;exact cZ (aY (qz (aK (aJ U (aC aq) (b5 U (aO (lM (n:=n+10) U U))))) U) (bq U (cZ (eI (TV (aJ U (aB (bG aq F.at' U) (aC aq)) (b5 U (dN e))))))))
end
section
variable{L:Nat}{Z:List Int}{n:Nat}{hd:Bool}{h h':H}{T:aT}{G:cI}{f w mo vi p u i b:Nat}{t r x d s fl:List Nat}{vs:List J}{v l3:J}{c c':Nat}{k W:Int}{m:Option Nat}
noncomputable abbrev pS(f i:Nat)(c:Nat)(l3 l4:J):List J:=[.obj f,.obj i,.str [c],l3,l4,.unb]
abbrev Az(L:Nat)(Z:List Int)(n:Nat)(f i k:Nat)(l3:J)(h:H)(w mo vi:Nat)(t:List Nat)(vs:List J)(p u:Nat)(d:List Nat):Prop:=
 Iy (λA h'=>aH (ki (au L Z) (bI L Z (n+20))) ⟨pS f i k l3 .unb,h,I⟩=.ok (.ret (.str d)) ⟨A,h',I⟩) (λ_ h'=>Fs h' f w mo vi t vs p u) (λ_ h'=>FK f w mo h h')
theorem cN.keep{X:List Nat}(F:cN h i fl W m)(K:aD X h h')(hi:i∉X):cN h' i fl W m:=K.get F hi
theorem cN.fs(M:cN h i fl W m)(F:Fs h f w mo vi t vs p u):i∉[f,w,mo]:=λq=>by
 rcases List.mem_cons.mp q with rfl|q
 ·have:h[i]?=_:=M
  replace this:=F.at'▸this;cases this
 ·exact F.wo.nin (show h[i]?=_ from M) U q
theorem Iu(F:Fs h f w mo vi t vs p u):Az L Z n f i 37 l3 h w mo vi t vs p u [37]:=
 ⟨_,h,br (aY (aK (aE aq ao U)) (bq U (bF (bK (dy (aK (aE aq ao cU)) (bq U ao)))))) d6,F,aD.refl⟩
theorem LJ(F:Fs h f w mo vi t vs p u):Az L Z n f i 10 l3 h w mo vi t vs p u [37,10]:=
 ⟨_,h,br (aY (aK (aE aq ao U)) (bq U (bF (bK (dy (aK (aE aq ao cU)) (aM U (bj ao aq (cE (by decide))))))))) d6,F,aD.refl⟩
inductive Nm(h:H):J->Int->Prop where
 |int (k:Int):Nm h (.int k) k
 |text (i:Nat) (x:List Nat) (k:Int) (A:dY h i x) (a:bV x=S) (l:x.length<=1000) (e:fN x 0 S=.int k):Nm h (.obj i) k
theorem Nm.keep{X:List Nat}(V:Nm h v k)(K:aD X h h')(O:tv b h X):Nm h' v k:=by induction V with
 |int k=>exact .int k
 |text i x k A a l e=>exact .text i x k (A.keep K O) a l e
theorem Nm.nou(V:Nm h v k):vQ v=Y v:=by induction V<;>rfl
theorem Nm.read(V:Nm h v k):vD (λh'=>bI L Z (n+2) I 393 [.obj w,v] [] h=.ok (.int k) h') (λh'=>∀X,aD X h h'):=by induction V with
 |int k=>exact⟨h,Pt,λX=>aD.refl⟩
 |text i x k A a l e=>exact KJ A a (by exact leT l U) e
theorem rL{q:Nat}(hk:q∈kinds):[37,10,0].any (Nat.beq q)=I/\∀s,p7 (au L Z) .In (.str [q]) (.sref 364) s=.ok (.bool S) s:=
 fG (P:=λq=>[37,10,0].any (Nat.beq q)=I/\∀s,p7 (au L Z) .In (.str [q]) (.sref 364) s=.ok (.bool S) s) ⟨U,λ_=>rfl⟩ ⟨U,λ_=>rfl⟩ ⟨U,λ_=>rfl⟩ ⟨U,λ_=>rfl⟩ ⟨U,λ_=>rfl⟩ ⟨U,λ_=>rfl⟩ ⟨U,λ_=>rfl⟩ ⟨U,λ_=>rfl⟩ q hk
theorem Hi{q:Nat}(F:Fs h f w mo vi t vs p u)(M:cN h i fl W m)(hk:q∈kinds)(hv:vs[u]?=Y v)(V:Nm h v k)(ha:k.natAbs<=1000)(hw:W<=1000)(hw2:-1000<=W)(hm:∀j,m=Y j->j<=1000):Az L Z n f i q l3 h w mo vi t vs p (u+1) (vN k q fl W m):=by have F1:=F.step (p':=p) (u':=u+1);have K1:aD [f] h (h.set f (.inst 494 (yr w vi t p (u+1)))):=aD.set (.head _);have M1:=M.keep K1 (λe=>M.fs F (by simp only[List.mem_singleton.mp e];exact .head _));have V1:=V.keep K1 (F.off (b:=0)).ofF;obtain⟨h2,e2,K2⟩:=V1.read (L:=L) (Z:=Z) (n:=n+18) (w:=w);have M2:=M1.keep (K2 []) List.not_mem_nil;obtain⟨h3,e3,K3⟩:=BG (L:=L) (Z:=Z) (n:=n+18) (a:=k) M2 hk ha hw hw2 hm;obtain⟨t1,t2⟩:=rL (L:=L) (Z:=Z) hk;refine⟨pS f i q l3 .unb,h3,?_,(F1.all K2).all K3,((FK.ofF K1).trans (K2 _)).trans (K3 _)⟩;exact aG (aY (aK (aE aq ao U)) (aM t1 aZ)) (br (aY (aK (aE aq ao (t2 _))) (bq U (bF (bK (aR aq (jM M (cD U U (aB (aJ U (aB (bG aq F.at' U) (aC (aR aq (jM F.at' (cD U U cx (aO (iK (n:=n+19) F hv))))))) (b5 U (aO e2))) (aC aq)) (aO e3)))))))) d6)
theorem QD(F:Fs h f w mo vi t vs p u)(M:cN h i fl W m)(hv:vs[u]?=Y v)(V:Sg h v c)(hw:W<=1000)(hw2:-1000<=W):Az L Z n f i 99 l3 h w mo vi t vs p (u+1) (iG [c] W fl):=by have F1:=F.step (p':=p) (u':=u+1);have K1:aD [f] h (h.set f (.inst 494 (yr w vi t p (u+1)))):=aD.set (.head _);have M1:=M.keep K1 (λe=>M.fs F (by simp only[List.mem_singleton.mp e];exact .head _));have V1:=V.keep K1 (F.off (b:=0)).ofF;have e2:=Fh (L:=L) (Z:=Z) (n:=n+18) F1 V1;have e3:=ry (L:=L) (Z:=Z) (n:=n+19) (hd:=I) (x:=[c]) M1 (show 1<=1000000 by decide) (by exact zT hw U) (by exact zB U hw2);refine⟨pS f i 99 l3 .unb,_,?_,F1,FK.ofF K1⟩;exact aG (aY (aK (aE aq ao U)) (aM U aZ)) (aG (aY (aK (aE aq ao U)) (aM U aZ)) (br (aY (aK (aE aq ao cU)) (bq U (bF (bK (aR aq (jM M (cD U U (aC (aR aq (jM F.at' (cD U U (aC (aR aq (jM F.at' (cD U U cx (aO (iK (n:=n+19) F hv)))))) (aO e2))))) (aO e3)))))))) d6))
noncomputable def uV(m:Option Nat)(x:List Nat):List Nat:=match m with
 |.none=>x
 |some j=>x.take j
theorem qw:(uV m x).length<=x.length:=by induction m with
 |none=>exact Nat.le_refl _
 |some j=>exact(by rw[List.length_take];exact Nat.min_le_right _ _:(x.take j).length<=x.length)
theorem yC{q:Nat}(F:Fs h f w mo vi t vs p u)(M:cN h i fl W m)(hx:x.length<=10000)(hw:W<=1000)(hw2:-1000<=W):aH (Do (au L Z) (bI L Z (n+20))) ⟨pS f i q l3 (.str x),h,I⟩=.ok (.ret (.str (iG (uV m x) W fl))) ⟨pS f i q l3 (.str x),h,I⟩:=by
 have hl:(uV m x).length<=10000:=Nat.le_trans qw hx;have e3:=ry (L:=L) (Z:=Z) (n:=n+19) (hd:=I) (x:=uV m x) M (by exact leT hl U) (by lia) (by lia);have e1:fB (bJ (aW (au L Z) .Is (bT (au L Z) (B 1) 37) (D .none))) (B 4) (fU (au L Z) (B 4) (D .none) (bT (au L Z) (B 1) 37)) ⟨pS f i q l3 (.str x),h,I⟩=.ok (.str (uV m x)) ⟨pS f i q l3 (.str x),h,I⟩:=by refine dy (aK (aE (bG aq M xO) ao rI)) ?_;induction m with
  |none=>exact bq U aq
  |some j=>exact aM U (dQ aq ao (bG aq M xO) (gn (by exact leT hx U)))
 exact bF (bK (aR aq (jM M (cD U U (aC e1) (aO e3)))))
theorem OW(F:Fs h f w mo vi t vs p u)(M:cN h i fl W m)(hv:vs[u]?=Y v)(V:V6 b h v d s)(hx:d.length<=10000)(hw:W<=1000)(hw2:-1000<=W):Az L Z n f i 115 l3 h w mo vi t vs p (u+1) (iG (uV m d) W fl):=by
 have F1:=F.step (p':=p) (u':=u+1);have K1:aD [f] h (h.set f (.inst 494 (yr w vi t p (u+1)))):=aD.set (.head _);have M1:=M.keep K1 (λe=>M.fs F (by rw[List.mem_singleton.mp e];exact .head _));have V1:=V.keep K1 F.off.ofF;obtain⟨h2,e2,K2⟩:=V1.disp (L:=L) (Z:=Z) (n:=n+13);refine⟨pS f i 115 l3 (.str d),h2,?_,F1.all K2,(FK.ofF K1).trans (K2 _)⟩;exact aG (aY (aK (aE aq ao U)) (aM U aZ)) (aG (aY (aK (aE aq ao U)) (aM U aZ)) (aG (aY (aK (aE aq ao cU)) (aM U aZ)) (aG (aY (aK (aE aq ao U)) (aM U aZ))
  (aG (bz (dy (aK (aE aq ao cU)) (bq U (aJ U (aC (aR aq (jM F.at' (cD U U cx (aO (iK (n:=n+19) F hv)))))) (b5 U (aO e2))))) U) (yC (F1.all K2) (M1.keep (K2 []) List.not_mem_nil) hx hw hw2)))))
theorem RK(F:Fs h f w mo vi t vs p u)(M:cN h i fl W m)(hv:vs[u]?=Y v)(V:V6 b h v d s)(hx:s.length<=10000)(hw:W<=1000)(hw2:-1000<=W):Az L Z n f i 112 l3 h w mo vi t vs p (u+1) (iG (uV m s) W fl):=by
 have F1:=F.step (p':=p) (u':=u+1);have K1:aD [f] h (h.set f (.inst 494 (yr w vi t p (u+1)))):=aD.set (.head _);have M1:=M.keep K1 (λe=>M.fs F (by simp only[List.mem_singleton.mp e];exact .head _));have V1:=V.keep K1 F.off.ofF;obtain⟨h2,e2,K2⟩:=V1.show (L:=L) (Z:=Z) (n:=n+14);refine⟨pS f i 112 l3 (.str s),h2,?_,F1.all K2,(FK.ofF K1).trans (K2 _)⟩;exact aG (aY (aK (aE aq ao U)) (aM U aZ)) (aG (aY (aK (aE aq ao U)) (aM U aZ)) (aG (aY (aK (aE aq ao cU)) (aM U aZ)) (aG (aY (aK (aE aq ao U)) (aM U aZ))
  (aG (bz (dy (aK (aE aq ao cU)) (aM U (aJ U (aC (aR aq (jM F.at' (cD U U cx (aO (iK (n:=n+19) F hv)))))) (b5 U (aO e2))))) U) (yC (F1.all K2) (M1.keep (K2 []) List.not_mem_nil) hx hw hw2)))))
end
section
variable{L:Nat}{Z:List Int}{n:Nat}{hd:Bool}{h h':H}{T:aT}{G:cI}{f w mo vi p u i b p' u':Nat}{t r x d s fl:List Nat}{vs:List J}{v l3:J}{c c':Nat}{k W:Int}{m:Option Nat}
abbrev N9(L:Nat)(Z:List Int)(n:Nat)(x:lJ St Fl)(k:aT->cI->List (M Fl))(f i c:Nat)(h:H)(w mo vi:Nat)(t:List Nat)(vs:List J)(p u:Nat)(fl:List Nat)(W:Int)(m:Option Nat):Prop:=
 Ai (λl3 h'=>x=aH (k (au L Z) (bI L Z (n+20))) ⟨pS f i c l3 .unb,h',I⟩) (λ_ h'=>cN h' i fl W m) (λ_ h'=>Fs h' f w mo vi t vs p u) (λ_ h'=>FK f w mo h h')
abbrev AL(L:Nat)(Z:List Int)(n:Nat)(x:lJ St Fl)(k:aT->cI->List (M Fl))(f i c:Nat)(h:H)(X:List Nat)(w mo vi:Nat)(t:List Nat)(vs:List J)(p u:Nat)(fl:List Nat):Prop:=
 KL (λh'=>x=aH (k (au L Z) (bI L Z (n+20))) ⟨pS f i c .unb .unb,h',I⟩) (λh'=>cN h' i fl 0 .none) (λh'=>Fs h' f w mo vi t vs p u) (λh'=>aD X h h')
theorem NF(F:Fs h f w mo vi t vs p u)(hr:t.drop p=c::r):AL L Z n (sP (au L Z) (bI L Z (n+20)) ⟨[.obj f,.unb,.unb,.unb,.unb,.unb],h,I⟩) At f h.length c h [f,w,mo] w mo vi t vs (p+1) u []:=by
 have F1:Fs (h++[.inst 431 [(35,.str []),(36,.int 0),(37,.none)]]) f w mo vi t vs p u:=F.all λX=>aD.app;have F2:=F1.step (p':=p+1) (u':=u);have hne:f≠h.length:=Nat.ne_of_lt (qo F.at');exact⟨_,aG (fm (aB (aJ U cx (nW U U U (Dr (n:=n+19)))) (aC (aR aq (jM F1.at' (cD U U cx (aO (f8 (n:=n+19) F1 hr))))))) U U U (bZ (bv U) (dj (bv U)))) U,
  bH (iq hne ba),F2.all λX=>aD.app,(aD.app.trans (FK.ofF (aD.set (.head _)))).trans aD.app⟩
noncomputable def ji(c:Nat):Bool:=[45,43,32,48,35].any (Nat.beq c)
theorem wE:∀(fs acc:List Nat)(c0:Nat)(r0:List Nat)(p:Nat)(h:H)(g:Nat),c0::r0=fs++c::r->fs.all ji=S->ji c=I->Fs h f w mo vi t vs p u->t.drop p=r0->cN h i acc 0 .none->acc.length+fs.length<=1000->fs.length<g->
  KL (λh'=>dU (mf (GW (au L Z) (bI L Z (n+20))) (xY (au L Z) (bI L Z (n+20)))) g () ⟨pS f i c0 .unb .unb,h,I⟩=.ok .nxt ⟨pS f i c .unb .unb,h',I⟩) (λh'=>cN h' i (acc++fs) 0 .none) (λh'=>Fs h' f w mo vi t vs (p+fs.length) u) (λh'=>aD [i,f,w,mo] h h')
 |_,_,_,_,_,_,0,_,_,_,_,_,_,_,hg=>absurd hg (Nat.not_lt_zero _)
 |[],acc,c0,r0,p,h,g+1,e,_,hc,F,hr,M,_,_=>by cases e;exact⟨h,pc (aK (aE (aq U) ao U)) hc,by simp only[List.append_nil];exact M,F,aD.refl⟩
 |a::fs,acc,c0,r0,p,h,g+1,e,ha,hc,F,hr,M,hl,hg=>by
  rw[List.cons_append,List.cons.injEq]at e;obtain⟨e1,e2⟩:=e;subst e1;rw[List.all_cons,ax]at ha;rw[List.length_cons]at hl hg;obtain⟨c1,r1,er⟩:∃c1 r1,fs++c::r=c1::r1:=by induction fs with|nil=>exact⟨_,_,U⟩|cons a q=>exact⟨_,_,U⟩
  have hM:h[i]?=Y (.inst 431 [(35,.str acc),(36,.int 0),(37,.none)]):=M;have M1:cN (h.set i (.inst 431 [(35,.str (acc++[c0])),(36,.int 0),(37,.none)])) i (acc++[c0]) 0 .none:=dP hM;have F1:Fs (h.set i (.inst 431 [(35,.str (acc++[c0])),(36,.int 0),(37,.none)])) f w mo vi t vs p u:=F.keep (aD.set (X:=[i]) (.head _)) (F.wo.set hM U) (hY (ff F.at' hM U)) (hY (ff F.li hM U));have hd1:t.drop p=c1::r1:=hr.trans (e2.trans er);have F2:=F1.step (p':=p+1) (u':=u);have M2:cN ((h.set i (.inst 431 [(35,.str (acc++[c0])),(36,.int 0),(37,.none)])).set f (.inst 494 (yr w vi t (p+1) u))) i (acc++[c0]) 0 .none:=iq (ff F.at' hM U) M1;obtain⟨h3,e3,M3,F3,K3⟩:=wE fs (acc++[c0]) c1 r1 (p+1) _ g er.symm ha.2 hc F2 (by rw[<-List.drop_drop,hd1];rfl) M2 (by simp only[List.length_append,List.length_cons,List.length_nil];lia) (by exact bE [_,_] [(.a (.a (.v 0) (.l 1)) (.l 1),.a (.v 1) (.l 1))] 0 [1] (.a (.v 0) (.l 1)) (.v 1) U hg);refine⟨h3,nC (aK (aE (aq U) ao U)) ha.1 (aG (rq (aq U) (i5 hM U) (aq U) (xZ (show acc.length+1<=16777216 by exact bE [_,_] [(.a (.v 0) (.a (.v 1) (.l 1)),.l 1000)] 0 [1] (.a (.v 0) (.l 1)) (.l 16777216) U hl)) (kM hM U U)) (bO (bz (aR (aq U) (jM F1.at' (cD U U cx (aO (f8 (n:=n+19) F1 hd1))))) U))) e3,?_,?_,?_⟩
  ·rw[List.append_assoc]at M3;exact M3
  ·exact(show p+(c0::fs).length=p+1+fs.length by simp only[List.length_cons];exact Nat.le_antisymm (bE [_,_] [] 0 [] (.a (.v 0) (.a (.v 1) (.l 1))) (.a (.a (.v 0) (.l 1)) (.v 1)) U) (bE [_,_] [] 0 [] (.a (.a (.v 0) (.l 1)) (.v 1)) (.a (.v 0) (.a (.v 1) (.l 1))) U))▸F3
  ·exact((aD.set (.head _)).trans (aD.set (.tail _ (.head _)))).trans K3
abbrev ME(i f w mo:Nat)(h h':H):Prop:=aD [i,f,w,mo] h h'
theorem ME.old(K:ME i f w mo h h'){h0:H}(hi:h0.length<=i)(k:FK f w mo h0 h):FK f w mo h0 h':=⟨Nat.le_trans k.1 K.1,λj hj hn=>(K.2 j (Nat.lt_of_lt_of_le hj k.1) λq=>by
 rcases List.mem_cons.mp q with q|q
 ·exact nf (bE [_,_,_] [(.v 0,.v 1),(.a (.v 2) (.l 1),.v 0),(.v 1,.v 2)] 0 [1,1,1] (.l 1) (.l 0) U hi hj (IA q))
 ·exact hn q).trans (k.2 j hj hn)⟩
theorem FK.toI(K:FK f w mo h h'):ME i f w mo h h':=K.mono λ_ _ m=>.tail _ m
abbrev uu(L:Nat)(Z:List Int)(n:Nat)(x:lJ St Fl)(k:aT->cI->List (M Fl))(f i c:Nat)(h:H)(w mo vi:Nat)(t:List Nat)(vs:List J)(p u:Nat)(fl:List Nat)(W:Int)(m:Option Nat):Prop:=
 Ai (λl3 h'=>x=aH (k (au L Z) (bI L Z (n+20))) ⟨pS f i c l3 .unb,h',I⟩) (λ_ h'=>cN h' i fl W m) (λ_ h'=>Fs h' f w mo vi t vs p u) (λ_ h'=>ME i f w mo h h')
theorem UO{fs r0:List Nat}{c0:Nat}(F:Fs h f w mo vi t vs p u)(M:cN h i [] 0 .none)(hr:t.drop p=r0)(e:c0::r0=fs++c::r)(ha:fs.all ji=S)(hc:ji c=I)(hl:fs.length<=1000):AL L Z n (aH (At (au L Z) (bI L Z (n+20))) ⟨pS f i c0 .unb .unb,h,I⟩) uL f i c h [i,f,w,mo] w mo vi t vs (p+fs.length) u fs:=by obtain⟨h1,e1,M1,F1,K1⟩:=wE (L:=L) (Z:=Z) (n:=n) fs [] c0 r0 p h fg e ha hc F hr M (by simp only[List.length_nil];lia) (by unfold fg;exact bE [_] [(.v 0,.l 1000)] 0 [1] (.a (.v 0) (.l 1)) (.l 1000000000) U hl);exact⟨h1,aG (fK e1) U,M1,F1,K1⟩
theorem Up{q:Int}(F:Fs h f w mo vi t vs p u)(M:cN h i fl 0 .none)(C:qX L Z (n+20) c h f w mo vi t vs p' u' q c'):uu L Z n (aH (uL (au L Z) (bI L Z (n+20))) ⟨pS f i c .unb .unb,h,I⟩) BJ f i c' h w mo vi t vs p' u' fl q .none:=by
 obtain⟨j,h1,e1,P,F1,K1⟩:=C;have M1:h1[i]?=Y (.inst 431 [(35,.str fl),(36,.int 0),(37,.none)]):=M.keep K1 (M.fs F);exact⟨.unb,_,aG (bz (aR aq (jM F.at' (cD U U (aC aq) (aO e1)))) (qv U P U (bZ (ru aq M1 U U) (dj (bv U))))) U,dP M1,
  F1.keep (aD.set (X:=[i]) (.head _)) (F1.wo.set M1 U) (hY (ff F1.at' M1 U)) (hY (ff F1.li M1 U)),K1.toI.trans (aD.set (.head _))⟩
noncomputable def Bu(fl:List Nat)(q:Int):List Nat:=bif aI (q<0)then fl++[45]else fl
noncomputable def nc(q:Int):Int:=bif aI (q<0)then-q else q
theorem Ue{q:Int}{l3:J}(F:Fs h f w mo vi t vs p u)(M:cN h i fl q .none)(hl:fl.length<=1000):uu L Z n (aH (BJ (au L Z) (bI L Z (n+20))) ⟨pS f i c l3 .unb,h,I⟩) pE f i c h w mo vi t vs p u (Bu fl q) (nc q) .none:=by have hM:h[i]?=Y (.inst 431 [(35,.str fl),(36,.int q),(37,.none)]):=M;unfold Bu nc;induction z:aI (q<0)with
 |false=>exact⟨l3,h,aG (aY (aK (aE (bG aq hM U) ao U)) (aM z aZ)) U,M,F,aD.refl⟩
 |true=>have hM1:(h++[AO.tup [.str (fl++[45]),.int (-q)]])[i]?=Y (.inst 431 [(35,.str fl),(36,.int q),(37,.none)]):=bH hM;have F1:Fs (h++[AO.tup [.str (fl++[45]),.int (-q)]]) f w mo vi t vs p u:=F.all λX=>aD.app;have hM2:=dP (o:=.inst 431 (lY 35 (.str (fl++[45])) [(35,.str fl),(36,.int q),(37,.none)])) hM1;refine⟨l3,_,aG (aY (aK (aE (bG aq hM U) ao U)) (bq z (bO (fm (aB (bj (bG aq hM U) ao (cE (show fl.length+1<=16777216 by exact bE [_] [(.v 0,.l 1000)] 0 [1] (.a (.v 0) (.l 1)) (.l 16777216) U hl))) (aC (ym (bG aq hM U)))) U U U (bZ (ru aq hM1 U U) (dj (ru aq hM2 U U))))))) U,dP hM2,?_,(aD.app.trans (aD.set (.head _))).trans (aD.set (.head _))⟩;refine F1.keep (X:=[i]) ((aD.set (.head _)).trans (aD.set (.head _))) ?_ (hY (ff F1.at' hM1 U)) (hY (ff F1.li hM1 U));exact(F1.wo.set hM1 U).set hM2 rfl
noncomputable def mZ(q:Int):Option Nat:=bif aI (q<0)then .none else Y q.toNat
theorem CO{q:Int}:dM (mZ q)=bif aI (q<0)then J.none else .int q:=by unfold mZ;induction z:aI (q<0)with
 |true=>rfl
 |false=>have:=of_decide_eq_false z;show J.int ((q.toNat:Nat):Int)=.int q;rw[eT (by exact dh.mp (of_decide_eq_false z))]
theorem JW{l3:J}(F:Fs h f w mo vi t vs p u)(M:cN h i fl W .none)(hc:Nat.beq c 46=I):uu L Z n (aH (pE (au L Z) (bI L Z (n+20))) ⟨pS f i c l3 .unb,h,I⟩) ki f i c h w mo vi t vs p u fl W .none:=
 ⟨l3,h,aG (aY (aK (aE aq ao cU)) (aM hc aZ)) U,M,F,aD.refl⟩
theorem NL{q:Int}{l3:J}(F:Fs h f w mo vi t vs p u)(M:cN h i fl W .none)(hr:t.drop p=c::r)(C:∀h1,Fs h1 f w mo vi t vs (p+1) u->qX L Z (n+20) c h1 f w mo vi t vs p' u' q c'):uu L Z n (aH (pE (au L Z) (bI L Z (n+20))) ⟨pS f i 46 l3 .unb,h,I⟩) ki f i c' h w mo vi t vs p' u' fl W (mZ q):=by
 have hM:h[i]?=Y (.inst 431 [(35,.str fl),(36,.int W),(37,.none)]):=M;have F1:=F.step (p':=p+1) (u':=u);have M1:cN (h.set f (.inst 494 (yr w vi t (p+1) u))) i fl W .none:=iq (ff F.at' hM U) hM;obtain⟨j,h1,e1,P,F2,K2⟩:=C _ F1;have M2:h1[i]?=Y (.inst 431 [(35,.str fl),(36,.int W),(37,.none)]):=M1.keep K2 (M1.fs F1);have e2:fB (bJ (aW (au L Z) .Lt (B 3) (D (.int 0)))) (D .none) (B 3) ⟨pS f i c' (.int q) .unb,h1,I⟩=.ok (dM (mZ q)) ⟨pS f i c' (.int q) .unb,h1,I⟩:=by rw[CO];refine dy (aK (aE aq ao U)) ?_;cases aI (q<0)with
  |true=>exact bq U ao
  |false=>exact aM U (bM (v:=.int q) U U)
 refine⟨.int q,h1.set i (.inst 431 (lY 37 (dM (mZ q)) [(35,.str fl),(36,.int W),(37,.none)])),aG (aY (aK (aE aq ao cU)) (bq U (aG (bz (aR aq (jM F.at' (cD U U (aC (aR aq (jM F.at' (cD U U cx (aO (f8 (n:=n+19) F hr)))))) (aO e1)))) (qv U P U (bZ (bv U) (dj (bv U))))) (bO (bz e2 (ru aq M2 U U)))))) U,dP M2,?_,?_⟩
 ·exact F2.keep (aD.set (X:=[i]) (.head _)) (F2.wo.set M2 U) (hY (ff F2.at' M2 U)) (hY (ff F2.li M2 U))
 ·exact(FK.toI (aD.trans (FK.ofF (aD.set (.head _))) K2)).trans (aD.set (.head _))
end
section
variable{L:Nat}{Z:List Int}{n:Nat}{hd:Bool}{h h' h0:H}{T:aT}{G:cI}{f w mo vi p u i b p' u':Nat}{t r x d s fl fs wt mt:List Nat}{vs f1 f2 bX:List J}{v l3:J}{c c':Nat}{k W q:Int}{m:Option Nat}
inductive fP:List Nat->List J->Int->Prop where
 |no:fP [] [] 0
 |told (d:Nat) (h:Nat.ble 49 d&&Nat.ble d 57):fP [d] [] ((d-48:Nat):Int)
 |star (q:Int) (h:q.natAbs<=20000):fP [42] [.int q] q
inductive i7:List Nat->List J->Option Nat->Prop where
 |no:i7 [] [] .none
 |told (d:Nat) (h:gM d=S):i7 [46,d] [] (Y (d-48))
 |star (q:Int) (h:q.natAbs<=20000):i7 [46,42] [.int q] (mZ q)
structure nh(c:Nat):Prop where
 fl:ji c=I
 dg:gM c=I
 st:Nat.beq c 42=I
theorem nh.dot:nh 46:=⟨U,U,U⟩
theorem bD{α:Type}{l:List α}{j:Nat}{a:α}{r:List α}(e:l.drop j=a::r):l[j]?=Y a/\l.drop (j+1)=r:=⟨by rw[<-Nat.add_zero j,<-List.getElem?_drop,e];rfl,by rw[<-List.drop_drop,e];rfl⟩
theorem Ei{j:Nat}:mZ (j:Int)=Y j:=by unfold mZ;rw[decide_eq_false (by exact dh.mpr (z0 _))];rfl
theorem E9(WI:fP wt f1 q)(F:Fs h f w mo vi t vs p u){c0:Nat}{r0:List Nat}(e:c0::r0=wt++c::r)(hc:nh c)(hr:t.drop p=r0)(hv:vs.drop u=f1++bX):ji c0=I/\Iy (λp' u'=>qX L Z (n+20) c0 h f w mo vi t vs p' u' q c) (λp' _=>t.drop p'=r) (λ_ u'=>vs.drop u'=bX):=by induction WI with
 |no=>cases e;exact⟨hc.fl,p,u,Hn (n:=n+19) F hc.st hc.dg,hr,hv⟩
 |told d hd'=>
  cases e;rw[ax]at hd';have h1:=Nat.le_of_ble_eq_true hd'.1;have h2:=Nat.le_of_ble_eq_true hd'.2;have key:∀d:Fin 58,Nat.ble 49 d.1=S->ji d.1=I/\Nat.beq d.1 42=I/\gM d.1=S:=by decide
  obtain⟨k1,k2,k3⟩:=key ⟨c0,by lia⟩ hd'.1;exact⟨k1,p+1,u,v0 (n:=n+18) F k2 k3 hr hc.dg,(bD hr).2,hv⟩
 |star q hq=>cases e;exact⟨U,p+1,u+1,tZ (n:=n+17) F (bD hv).1 hq hr,(bD hr).2,(bD hv).2⟩
theorem KZ(MI:i7 mt f2 m)(F:Fs h f w mo vi t vs p u)(M:cN h i fl W .none){c0:Nat}{r0:List Nat}(e:c0::r0=mt++c::r)(hc:nh c)(hc2:Nat.beq c 46=I)(hr:t.drop p=r0)(hv:vs.drop u=f2++bX):Iy (λp' u'=>uu L Z n (aH (pE (au L Z) (bI L Z (n+20))) ⟨pS f i c0 l3 .unb,h,I⟩) ki f i c h w mo vi t vs p' u' fl W m) (λp' _=>t.drop p'=r) (λ_ u'=>vs.drop u'=bX):=by induction MI with
 |no=>cases e;exact⟨p,u,JW F M hc2,hr,hv⟩
 |told d hd'=>
  cases e;have hd2:=bD hr;have:=NL (L:=L) (Z:=Z) (n:=n) (l3:=l3) (q:=((d-48:Nat):Int)) (p':=p+1+1) (u':=u) (c':=c) F M hr λh1 F1=>v0 (n:=n+18) F1 (by unfold gM at hd';rw[ax]at hd';have:=Nat.le_of_ble_eq_true hd'.1;induction z:Nat.beq d 42 with
   |true=>have:=Nat.eq_of_beq_eq_true z;lia
   |false=>rfl) hd' hd2.2 hc.dg
  rw[Ei]at this;exact⟨p+1+1,u,this,(bD hd2.2).2,hv⟩
 |star q hq=>cases e;have hd2:=bD hr;exact⟨p+1+1,u+1,NL (L:=L) (Z:=Z) (n:=n) (l3:=l3) (q:=q) (c':=c) F M hr λh1 F1=>tZ (n:=n+17) F1 (bD hv).1 hq hd2.2,(bD hd2.2).2,(bD hv).2⟩
theorem Kl{wt':List Nat}:∃c0 r0,wt'++c::r=c0::r0:=by induction wt' with|nil=>exact⟨_,_,U⟩|cons a q=>exact⟨_,_,U⟩
theorem Aj(MI:i7 mt f2 m)(hc:nh c):∃c0 r0,mt++c::r=c0::r0/\nh c0:=by induction MI with
 |no=>exact⟨_,_,U,hc⟩
 |told d hd'=>exact⟨_,_,U,nh.dot⟩
 |star q hq=>exact⟨_,_,U,nh.dot⟩
theorem xS(F:Fs h f w mo vi t vs p u)(hr:t.drop p=fs++c::r)(ha:fs.all ji=S)(hl:fs.length<=100)(hc:ji c=I):vD (λp'=>AL L Z n (sP (au L Z) (bI L Z (n+20)) ⟨[.obj f,.unb,.unb,.unb,.unb,.unb],h,I⟩) uL f h.length c h [f,w,mo] w mo vi t vs p' u fs) (λp'=>t.drop p'=r):=by
 obtain⟨c1,r1,e1⟩:=Kl (c:=c) (r:=r) (wt':=fs);rw[e1]at hr;obtain⟨h1,s1,M1,F1,K1⟩:=NF (L:=L) (Z:=Z) (n:=n) F hr;obtain⟨h2,s2,M2,F2,K2⟩:=UO (L:=L) (Z:=Z) (n:=n) F1 M1 (bD hr).2 e1.symm ha hc (by exact leT hl U);refine⟨p+1+fs.length,⟨h2,s1.trans s2,M2,F2,ME.old K2 (Nat.le_refl _) K1⟩,?_⟩;have:(c1::r1).drop (fs.length+1)=r:=by refine e1▸List.drop_drop▸List.drop_left▸?_;rfl
 rw[<-hr,List.drop_drop]at this;refine this▸?_;congr 1;lia
theorem yl(WI:fP wt f1 q)(hc:nh c):∃c0 r0,wt++c::r=c0::r0/\ji c0=I:=by induction WI with
 |no=>exact⟨_,_,U,hc.fl⟩
 |told d hd'=>
  rw[ax]at hd';have h2:=Nat.le_of_ble_eq_true hd'.2;have key:∀d:Fin 58,Nat.ble 49 d.1=S->ji d.1=I:=by decide
  exact⟨_,_,U,key ⟨d,by lia⟩ hd'.1⟩
 |star q hq=>exact⟨_,_,U,U⟩
theorem Aw(F:Fs h f w mo vi t vs p u)(hr:t.drop p=fs++(wt++c::r))(ha:fs.all ji=S)(hl:fs.length<=100)(WI:fP wt f1 q)(hc:nh c)(hv:vs.drop u=f1++bX):
  Iy (λp' u'=>N9 L Z n (sP (au L Z) (bI L Z (n+20)) ⟨[.obj f,.unb,.unb,.unb,.unb,.unb],h,I⟩) pE f h.length c h w mo vi t vs p' u' (Bu fs q) (nc q) .none) (λp' _=>t.drop p'=r) (λ_ u'=>vs.drop u'=bX):=by
 obtain⟨c2,r2,e2,hfl⟩:=yl (r:=r) WI hc;rw[e2]at hr;obtain⟨p2,⟨h2,s2,M2,F2,K2⟩,hr2⟩:=xS (L:=L) (Z:=Z) (n:=n) F hr ha hl hfl;obtain⟨_,p3,u3,C3,hp3,hu3⟩:=E9 (L:=L) (Z:=Z) (n:=n) WI F2 e2.symm hc hr2 hv;obtain⟨l3,h3,s3,M3,F3,K3⟩:=Up F2 M2 C3;obtain⟨l4,h4,s4,M4,F4,K4⟩:=Ue (l3:=l3) F3 M3 (by lia);exact⟨p3,u3,⟨l4,h4,s2.trans (s3.trans s4),M4,F4,ME.old (K3.trans K4) (Nat.le_refl _) K2⟩,hp3,hu3⟩
theorem xT(F:Fs h f w mo vi t vs p u)(hr:t.drop p=fs++(wt++(mt++c::r)))(ha:fs.all ji=S)(hl:fs.length<=100)(WI:fP wt f1 q)(MI:i7 mt f2 m)(hc:nh c)(hc2:Nat.beq c 46=I)(hv:vs.drop u=f1++(f2++bX)):
  Iy (λp' u'=>N9 L Z n (sP (au L Z) (bI L Z (n+20)) ⟨[.obj f,.unb,.unb,.unb,.unb,.unb],h,I⟩) ki f h.length c h w mo vi t vs p' u' (Bu fs q) (nc q) m) (λp' _=>t.drop p'=r) (λ_ u'=>vs.drop u'=bX):=by
 obtain⟨c3,r3,e3,hc3⟩:=Aj (r:=r) MI hc;rw[e3]at hr;obtain⟨p3,u3,⟨l4,h4,s4,M4,F4,K4⟩,hp3,hu3⟩:=Aw (L:=L) (Z:=Z) (n:=n) F hr ha hl WI hc3 hv;obtain⟨p5,u5,⟨l5,h5,s5,M5,F5,K5⟩,hp5,hu5⟩:=KZ (L:=L) (Z:=Z) (n:=n) (l3:=l4) MI F4 M4 e3.symm hc hc2 hp3 hu3;exact⟨p5,u5,⟨l5,h5,s4.trans s5,M5,F5,ME.old K5 (Nat.le_refl _) K4⟩,hp5,hu5⟩
end
section
variable{L:Nat}{Z:List Int}{n:Nat}{hd:Bool}{h h' h0 h1:H}{T:aT}{G:cI}{f w mo vi p u i b p' u':Nat}{t r x d s fl fs wt mt:List Nat}{vs f1 f2 f3 bX:List J}{v l3:J}{c c':Nat}{k W q:Int}{m:Option Nat}
structure s9(b:Nat)(h h':H):Prop where
 th:∀(i C:Nat)(fs:List (Nat×J)),h[i]?=Y (AO.inst C fs)->(Nat.beq C 62||Nat.beq C 82)=S->h'[i]?=Y (AO.inst C fs)
 li:∀(i:Nat)(xs:List J),h[i]?=Y (AO.list xs)->i≠b->h'[i]?=Y (AO.list xs)
theorem s9.of{X:List Nat}(K:aD X h h')(O:tv b h X):s9 b h h':=⟨λi C fs e q=>K.get e (O.th i C fs e q),λi xs e q=>K.get e (O.li i xs e q)⟩
theorem dY.ext(A:dY h i x)(E:s9 b h h'):dY h' i x:=let⟨fs,a,e⟩:=A;⟨fs,E.th _ _ _ a U,e⟩
theorem V6.ext(V:V6 b h v d s)(E:s9 b h h'):V6 b h' v d s:=by cases V with
 |text i x A q l=>exact .text i d (A.ext E) q l
 |int k q=>exact .int k q
 |sym=>exact .sym
 |nil=>exact .nil
 |tru=>exact .tru
 |list i j t fs a e c A q=>exact .list i j t fs (E.th _ _ _ a U) e (E.li _ _ c q) (A.ext E) q
inductive gN(b:Nat)(h:H):Nat->List J->(List Nat->Int->Option Nat->List Nat)->Prop where
 |pct:gN b h 37 [] (λ_ _ _=>[37])
 |nl:gN b h 10 [] (λ_ _ _=>[37,10])
 |num (q:Nat) (v:J) (k:Int) (hk:q∈kinds) (V:Nm h v k) (hb:k.natAbs<=1000):gN b h q [v] (λfl W m=>vN k q fl W m)
 |chr (v:J) (c:Nat) (V:Sg h v c):gN b h 99 [v] (λfl W _=>iG [c] W fl)
 |plain (v:J) (d s:List Nat) (V:V6 b h v d s) (l:d.length<=1000):gN b h 115 [v] (λfl W m=>iG (uV m d) W fl)
 |shown (v:J) (d s:List Nat) (V:V6 b h v d s) (l:s.length<=1000):gN b h 112 [v] (λfl W m=>iG (uV m s) W fl)
variable{ak:List Nat->Int->Option Nat->List Nat}
theorem gN.ext(K:gN b h c f3 ak)(E:s9 b h h'):gN b h' c f3 ak:=by induction K with
 |pct=>exact .pct
 |nl=>exact .nl
 |num q v k hk V hb=>refine .num _ v k hk ?_ hb;induction V with
  |int k=>exact .int k
  |text i x k A a l e=>exact .text i x k (A.ext E) a l e
 |chr v c V=>refine .chr v c ?_;cases V with
  |int k q=>exact .int c q
  |text i c r A l=>exact .text i c r (A.ext E) l
 |plain v d s V l=>exact .plain v d s (V.ext E) l
 |shown v d s V l=>exact .shown v d s (V.ext E) l
theorem gN.endc(K:gN b h c f3 ak):nh c/\Nat.beq c 46=I:=by induction K with
 |pct=>exact⟨⟨U,U,U⟩,U⟩
 |nl=>exact⟨⟨U,U,U⟩,U⟩
 |num q v k hk V hb=>exact fG (P:=λc=>nh c/\Nat.beq c 46=I) ⟨⟨U,U,U⟩,U⟩ ⟨⟨U,U,U⟩,U⟩ ⟨⟨U,U,U⟩,U⟩ ⟨⟨U,U,U⟩,U⟩ ⟨⟨U,U,U⟩,U⟩ ⟨⟨U,U,U⟩,U⟩ ⟨⟨U,U,U⟩,U⟩ ⟨⟨U,U,U⟩,U⟩ _ hk
 |chr v c V=>exact⟨⟨U,U,U⟩,U⟩
 |plain v d s V l=>exact⟨⟨U,U,U⟩,U⟩
 |shown v d s V l=>exact⟨⟨U,U,U⟩,U⟩
theorem KN(K:gN b h c f3 ak)(F:Fs h f w mo vi t vs p u)(M:cN h i fl W m)(hv:vs.drop u=f3++bX)(hw:W<=1000)(hw2:-1000<=W)(hm:∀j,m=Y j->j<=1000):vD (λu'=>Az L Z n f i c l3 h w mo vi t vs p u' (ak fl W m)) (λu'=>vs.drop u'=bX):=by induction K with
 |pct=>exact⟨u,Iu F,hv⟩
 |nl=>exact⟨u,LJ F,hv⟩
 |num q v k hk V hb=>exact⟨u+1,Hi F M hk (bD hv).1 V hb hw hw2 hm,(bD hv).2⟩
 |chr v c V=>exact⟨u+1,QD F M (bD hv).1 V hw hw2,(bD hv).2⟩
 |plain v d s V l=>exact⟨u+1,OW F M (bD hv).1 V (by exact leT l U) hw hw2,(bD hv).2⟩
 |shown v d s V l=>exact⟨u+1,RK F M (bD hv).1 V (by exact leT l U) hw hw2,(bD hv).2⟩
inductive fu(b:Nat)(h:H):List Nat->List J->List Nat->Prop where
 |mk (fs wt mt:List Nat) (c:Nat) (f1 f2 f3:List J) (q:Int) (m:Option Nat) (ak:List Nat->Int->Option Nat->List Nat) (ha:fs.all ji=S) (hl:fs.length<=100) (WI:fP wt f1 q) (MI:i7 mt f2 m) (K:gN b h c f3 ak) (hq:q.natAbs<=1000) (hm:∀j,m=Y j->j<=1000):fu b h (fs++(wt++(mt++[c]))) (f1++(f2++f3)) (ak (Bu fs q) (nc q) m)
theorem fu.ext(P:fu b h x f1 d)(E:s9 b h h'):fu b h' x f1 d:=let⟨fs,wt,mt,c,g1,g2,g3,q,m,ak,ha,hl,WI,MI,K,hq,hm⟩:=P;.mk fs wt mt c g1 g2 g3 q m ak ha hl WI MI (K.ext E) hq hm
theorem xe(hq:q.natAbs<=1000):nc q<=1000/\-1000<=nc q:=by unfold nc;induction z:aI (q<0)with
 |true=>exact⟨by simp only[cond_true];exact(DC (k:=1000) hq).2,by simp only[cond_true];exact zB U (iO (Int.neg_pos_of_neg (of_decide_eq_true z)))⟩
 |false=>exact⟨by simp only[cond_false];exact(DC (k:=1000) hq).1,by simp only[cond_false];exact zB U (dh.mp (of_decide_eq_false z))⟩
abbrev Kz(L:Nat)(Z:List Int)(n f w mo vi:Nat)(t:List Nat)(vs:List J)(h:H)(d r:List Nat)(bX:List J):Prop:=
 Yf (λp' u' h'=>bI L Z (n+21) I 484 [.obj f] [] h=.ok (.str d) h') (λp' _ _=>t.drop p'=r) (λ_ u' _=>vs.drop u'=bX) (λp' u' h'=>Fs h' f w mo vi t vs p' u') (λ_ _ h'=>FK f w mo h h')
theorem G2(P:fu b h x f1 d)(F:Fs h f w mo vi t vs p u)(hr:t.drop p=x++r)(hv:vs.drop u=f1++bX):Kz L Z n f w mo vi t vs h d r bX:=by obtain⟨fs,wt,mt,c,g1,g2,g3,q,m,ak,ha,hb,WI,MI,K,hq,hm⟩:=P;obtain⟨ec,ec2⟩:=K.endc;obtain⟨p1,u1,⟨l3,h1,s1,M1,F1,K1⟩,hp1,hu1⟩:=xT (L:=L) (Z:=Z) (n:=n) (r:=r) (bX:=g3++bX) F (by simp only[hr];simp only[List.append_assoc,List.cons_append,List.nil_append]) ha hb WI MI ec ec2 (by simp only[hv];simp only[List.append_assoc]);have E1:s9 b h h1:=s9.of K1 F.off;obtain⟨u2,⟨A,h2,s2,F2,K2⟩,hu2⟩:=KN (L:=L) (Z:=Z) (n:=n) (l3:=l3) (K.ext E1) F1 M1 hu1 (xe hq).1 (xe hq).2 hm;exact⟨p1,u2,h2,bC NA (L0:=[.obj f,.unb,.unb,.unb,.unb,.unb]) U (s1.trans s2),hp1,hu2,F2,K1.trans K2⟩
theorem xj{e:M J}{g:qi}{ms:List (M Fl)}{st st':St}{y:Nat}(h1:e st=.exc y st'):aH (sAsg g e::ms) st=.exc y st':=cZ (oL h1)
abbrev dl(x:lJ St Fl)(f w mo:Nat)(h:H)(nm:List Nat):Prop:=WO (λy A h'=>x=.exc y ⟨A,h',I⟩) (λy _ h'=>fA h' y nm) (λ_ _ h'=>Wo h' w mo) (λ_ _ h'=>FK f w mo h h')
theorem dl.old{x:lJ St Fl}{nm:List Nat}(K:FK f w mo h h1)(a:dl x f w mo h1 nm):dl x f w mo h nm:=let⟨y,A,h2,e,R,W,k⟩:=a;⟨y,A,h2,e,R,W,K.trans k⟩
theorem D4(K:gN b h0 c f3 ak)(h3:f3≠[])(F:Fs h f w mo vi t vs p u)(M:cN h i fl W m)(hv:vs.drop u=[]):dl (aH (ki (au L Z) (bI L Z (n+20))) ⟨pS f i c l3 .unb,h,I⟩) f w mo h aU:=by obtain⟨y,h1,e,R,Wd,k⟩:=uA (L:=L) (Z:=Z) (n:=n+9) F (List.drop_eq_nil_iff.mp hv);have ev:∀A:List J,A[0]?=Y (.obj f)->bk (au L Z) (bI L Z (n+20)) (B 0) 44 (am "value") [] ⟨A,h,I⟩=.exc y ⟨A,h1,I⟩:=λA a=>aR (bM a U) (jM F.at' (cD U U cx (dN e)));refine⟨y,pS f i c l3 .unb,h1,?_,R,Wd,k⟩;induction K with
 |pct=>exact absurd U h3
 |nl=>exact absurd U h3
 |num q v k hk V hb=>obtain⟨t1,t2⟩:=rL (L:=L) (Z:=Z) hk;exact aG (aY (aK (aE aq ao U)) (aM t1 aZ)) (cZ (aY (aK (aE aq ao (t2 _))) (bq U (cZ (eI (aR aq (jM M (uB U U (E6 (w5 U (tU (bG aq F.at' U) (E6 (ev _ U)))))))))))))
 |chr v c V=>exact aG (aY (aK (aE aq ao U)) (aM U aZ)) (aG (aY (aK (aE aq ao U)) (aM U aZ)) (cZ (aY (aK (aE aq ao cU)) (bq U (cZ (eI (aR aq (jM M (uB U U (E6 (aR aq (jM F.at' (uB U U (E6 (ev _ U)))))))))))))))
 |plain v d s V l=>exact aG (aY (aK (aE aq ao U)) (aM U aZ)) (aG (aY (aK (aE aq ao U)) (aM U aZ)) (aG (aY (aK (aE aq ao cU)) (aM U aZ)) (aG (aY (aK (aE aq ao U)) (aM U aZ))
   (xj (dy (aK (aE aq ao cU)) (bq U (w5 U (E6 (ev _ U)))))))))
 |shown v d s V l=>exact aG (aY (aK (aE aq ao U)) (aM U aZ)) (aG (aY (aK (aE aq ao U)) (aM U aZ)) (aG (aY (aK (aE aq ao cU)) (aM U aZ)) (aG (aY (aK (aE aq ao U)) (aM U aZ))
   (xj (dy (aK (aE aq ao cU)) (aM U (w5 U (E6 (ev _ U)))))))))
theorem w8{nm:List Nat}(F:Fs h f w mo vi t vs p u)(C:jD L Z (n+20) 470 [.obj f,.str [c]] f w mo h nm):dl (aH (uL (au L Z) (bI L Z (n+20))) ⟨pS f i c .unb .unb,h,I⟩) f w mo h nm:=by obtain⟨y,h1,e,R,Wd,k⟩:=C;exact⟨y,_,h1,xj (aR aq (jM F.at' (cD U U (aC aq) (dN e)))),R,Wd,k⟩
theorem CM{nm:List Nat}(F:Fs h f w mo vi t vs p u)(hr:t.drop p=c::r)(C:∀h1,Fs h1 f w mo vi t vs (p+1) u->jD L Z (n+20) 470 [.obj f,.str [c]] f w mo h1 nm):dl (aH (pE (au L Z) (bI L Z (n+20))) ⟨pS f i 46 l3 .unb,h,I⟩) f w mo h nm:=by obtain⟨y,h1,e,R,Wd,k⟩:=C _ (F.step (p':=p+1) (u':=u));exact⟨y,_,h1,cZ (aY (aK (aE aq ao cU)) (bq U (xj (aR aq (jM F.at' (cD U U (aC (aR aq (jM F.at' (cD U U cx (aO (f8 (n:=n+19) F hr)))))) (dN e))))))),R,Wd,aD.trans (FK.ofF (aD.set (.head _))) k⟩
theorem nY{nm:List Nat}(a:dl (sP (au L Z) (bI L Z (n+20)) ⟨[.obj f,.unb,.unb,.unb,.unb,.unb],h,I⟩) f w mo h nm):jD L Z (n+21) 484 [.obj f] f w mo h nm:=
 let⟨y,_,h1,e,R,W,k⟩:=a;⟨y,h1,fT NA (L0:=[.obj f,.unb,.unb,.unb,.unb,.unb]) U e,R,W,k⟩
theorem BS(P:fu b h x f1 d)(hf:f1≠[])(F:Fs h f w mo vi t vs p u)(hr:t.drop p=x++r)(hv:vs.drop u=f1.dropLast):jD L Z (n+21) 484 [.obj f] f w mo h aU:=by
 obtain⟨fs,wt,mt,c,g1,g2,g3,q,m,ak,ha,hb,WI,MI,K,hq,hm⟩:=P;obtain⟨ec,ec2⟩:=K.endc;have hr:t.drop p=fs++(wt++(mt++c::r)):=by rw[hr];simp only[List.append_assoc,List.cons_append,List.nil_append]
 refine nY ?_;have h3:g3=[]\/∃v,g3=[v]:=by induction K with|pct=>exact .inl U|nl=>exact .inl U|num=>exact .inr ⟨_,U⟩|chr=>exact .inr ⟨_,U⟩|plain=>exact .inr ⟨_,U⟩|shown=>exact .inr ⟨_,U⟩
 rcases h3 with e3|⟨v,e3⟩
 ·subst e3
  rw[List.append_nil]at hf hv;induction MI with
  |star q2 hq2=>rw[List.dropLast_concat]at hv;obtain⟨p1,u1,⟨l3,h1,s1,M1,F1,K1⟩,hp1,hu1⟩:=Aw (L:=L) (Z:=Z) (n:=n) (bX:=[]) F hr ha hb WI nh.dot (by rw[List.append_nil];exact hv);rw[s1];exact dl.old K1 (CM F1 hp1 λh2 F2=>jw (n:=n+8) F2 (List.drop_eq_nil_iff.mp hu1))
  |no=>rw[List.append_nil]at hf hv;induction WI with
   |no=>exact absurd U hf
   |told d hd'=>exact absurd U hf
   |star q hq'=>obtain⟨p2,⟨h2,s2,M2,F2,K2⟩,hr2⟩:=xS (L:=L) (Z:=Z) (n:=n) F hr ha hb rfl;rw[s2];exact dl.old K2 (w8 F2 (jw (n:=n+8) F2 (List.drop_eq_nil_iff.mp hv)))
  |told d hd'=>rw[List.append_nil]at hf hv;induction WI with
   |no=>exact absurd U hf
   |told d hd'=>exact absurd U hf
   |star q hq'=>obtain⟨p2,⟨h2,s2,M2,F2,K2⟩,hr2⟩:=xS (L:=L) (Z:=Z) (n:=n) F hr ha hb rfl;rw[s2];exact dl.old K2 (w8 F2 (jw (n:=n+8) F2 (List.drop_eq_nil_iff.mp hv)))
 ·subst e3
  rw[<-List.append_assoc,List.dropLast_concat]at hv;obtain⟨p1,u1,⟨l3,h1,s1,M1,F1,K1⟩,hp1,hu1⟩:=xT (L:=L) (Z:=Z) (n:=n) (r:=r) (bX:=[]) F hr ha hb WI MI ec ec2 (by rw[hv,List.append_nil]);rw[s1];exact dl.old K1 (D4 K (List.cons_ne_nil _ _) F1 M1 hu1)
end
section
variable{L:Nat}{Z:List Int}{n:Nat}{hd:Bool}{h h' h0 h1:H}{T:aT}{G:cI}{f w mo vi p u i b p' u' j:Nat}{t r x y d e s fl fs wt mt:List Nat}{vs f1 f2 f3 bX acc:List J}{v l3:J}{c c':Nat}{k W q:Int}{m:Option Nat}
inductive eK(b:Nat)(h:H):List Nat->List J->List Nat->Prop where
 |nil:eK b h [] [] []
 |lit (c:Nat) (hc:Nat.beq c 37=I) (x:List Nat) (g:List J) (d:List Nat) (P:eK b h x g d):eK b h (c::x) g (c::d)
 |place (y:List Nat) (f:List J) (e:List Nat) (A:fu b h y f e) (x:List Nat) (g:List J) (d:List Nat) (P:eK b h x g d):eK b h (37::(y++x)) (f++g) (e++d)
theorem eK.ext(P:eK b h x f1 d)(E:s9 b h h'):eK b h' x f1 d:=by induction P with
 |nil=>exact .nil
 |lit c hc x g d P ih=>exact .lit c hc x g d ih
 |place y f e A x g d P ih=>exact .place y f e (A.ext E) x g d ih
theorem eK.app(P:eK b h x f1 d)(Q:eK b h y f2 e):eK b h (x++y) (f1++f2) (d++e):=by induction P with
 |nil=>exact Q
 |lit c hc x g d P ih=>exact .lit c hc _ _ _ ih
 |place z f e' A x g d P ih=>have:=eK.place z f e' A _ _ _ ih;rw[List.append_assoc,List.append_assoc,<-List.append_assoc z x y]at*;exact this
theorem aD.newer(K:aD [w,mo] h0 h)(k:aD [f,w,mo] h h')(hf:h0.length<=f):aD [w,mo] h0 h':=
 ⟨Nat.le_trans K.1 k.1,λi hi hx=>(k.2 i (Nat.lt_of_lt_of_le hi K.1) (λm=>by
  rcases List.mem_cons.mp m with rfl|m
  ·exact nf (bE [_,_] [(.a (.v 0) (.l 1),.v 1),(.v 1,.v 0)] 0 [1,1] (.l 1) (.l 0) U hi hf)
  ·exact hx m)).trans (K.2 i hi hx)⟩
theorem Wo.off(W:Wo h w mo):tv b h [w,mo]:=⟨λi C fs e q=>W.nin e (by show(!(Nat.beq (C+10) 2||Nat.beq (C+10) 837||Nat.beq (C+10) 238))=S;rw[dz]at q;rcases q with q|q<;>(rw[Nat.eq_of_beq_eq_true q];rfl)),λi xs e _=>W.nin e U⟩
structure Wh(h0 h:H)(f w mo vi j:Nat)(t:List Nat)(vs:List J)(p u:Nat)(acc:List (List Nat)):Prop where
 fs:Fs h f w mo vi t vs p u
 kp:aD [w,mo] h0 h
 at':h[j]?=Y (.list (acc.map .str))
 fn:h0.length<=f
 jn:h0.length<=j
 jb:j≠vi
variable{ac:List (List Nat)}
theorem Wh.put(A:Wh h0 h f w mo vi j t vs p u ac):Wh h0 (h.set j (.list (ac.map .str++[.str x]))) f w mo vi j t vs p u (ac++[x]):=
 ⟨A.fs.keep (aD.set (.head _)) (A.fs.wo.set A.at' U) (hY (ff A.fs.at' A.at' U)) (hY (jP A.jb)),A.kp.setNew A.jn,by rw[dP A.at',List.map_append];rfl,A.fn,A.jn,A.jb⟩
theorem Wh.go(A:Wh h0 h f w mo vi j t vs p u ac)(F:Fs h' f w mo vi t vs p' u')(K:FK f w mo h h'):Wh h0 h' f w mo vi j t vs p' u' ac:=
 ⟨F,A.kp.newer K A.fn,K.get A.at' (λm=>by
  rcases List.mem_cons.mp m with rfl|m
  ·have:=A.at'.symm.trans A.fs.at';cases this
  ·exact A.fs.wo.nin A.at' U m),A.fn,A.jn,A.jb⟩
theorem mF(F:Fs h f w mo vi t vs p u){l1 l2 l3:J}:AP (au L Z) (bI L Z (n+21)) ⟨[.obj f,l1,l2,l3],h,I⟩=.ok (aI (p<t.length)) ⟨[.obj f,l1,l2,l3],h,I⟩:=by have htl:=F.tl;have e:aI ((p:Int)<(t.length:Int))=aI (p<t.length):=decide_eq_decide.mpr fw;rw[<-e];exact aK (aE (bG aq F.at' U) (aJ U (aC (bG aq F.at' U)) (iF (fM (by exact leT htl U)))) U)
theorem kT{α:Type}{l:List α}{j:Nat}{a:α}{r:List α}(e:l.drop j=a::r):aI (j<l.length)=S:=decide_eq_true (List.getElem?_eq_some_iff.mp (bD e).1).1
theorem Nq{X:J}(A:Wh h0 h f w mo vi j t vs p u ac)(hr:t.drop p=c::r)(hl:ac.length<=1000000)
  (hx:∀h1,Wh h0 h1 f w mo vi j t vs (p+1) u ac->∃p' u' h2,(fB (bJ (aW (au L Z) .Eq (B 2) (D (.str [37])))) (bk (au L Z) (bI L Z (n+21)) (B 0) 48 (am "piece") []) (B 2)) ⟨[.obj f,.obj j,.str [c],.unb],h1,I⟩=.ok (.str x) ⟨[.obj f,.obj j,.str [c],.unb],h2,I⟩/\Wh h0 h2 f w mo vi j t vs p' u' ac/\t.drop p'=y/\vs.drop u'=bX):
  Xh (λp' u' h'=>rn (au L Z) (bI L Z (n+21)) ⟨[.obj f,.obj j,X,.unb],h,I⟩=.ok .nxt ⟨[.obj f,.obj j,.str [c],.unb],h',I⟩) (λp' u' h'=>Wh h0 h' f w mo vi j t vs p' u' (ac++[x])) (λp' u' _=>t.drop p'=y/\vs.drop u'=bX):=by
 have A1:=A.go (A.fs.step (p':=p+1) (u':=u)) (FK.ofF (aD.set (.head _)));obtain⟨p',u',h2,e2,A2,e3⟩:=hx _ A1;have e1:=f8 (L:=L) (Z:=Z) (n:=n+20) (hd:=I) A.fs hr;exact⟨p',u',_,aG (bz (aR aq (jM A.fs.at' (cD U U cx (aO e1)))) (bv U)) (bO (nA (aR aq (jM A1.at' (HG U (aC e2) A2.at' (by rw[List.length_map];exact bE [_] [(.v 0,.l 1000000)] 0 [1] (.a (.v 0) (.l 1)) (.l 16777216) U hl)))))),A2.put,e3⟩
end
section
variable{L:Nat}{Z:List Int}{n:Nat}{hd:Bool}{h h' h0 h1:H}{T:aT}{G:cI}{f w mo vi p u i b p' u' j fl:Nat}{t r x y d e s:List Nat}{vs f1 f2 g bX acc:List J}{v X:J}{c c':Nat}{ac:List (List Nat)}
theorem Wo.ext(W:Wo h0 w mo)(K:aD [w,mo] h0 h):s9 b h0 h:=s9.of K W.off
theorem Hu(A:Wh h0 h f w mo vi j t vs p u ac)(hr:t.drop p=c::r)(hc:Nat.beq c 37=I)(hl:ac.length<=1000000):
  Xh (λp' u' h'=>rn (au L Z) (bI L Z (n+21)) ⟨[.obj f,.obj j,X,.unb],h,I⟩=.ok .nxt ⟨[.obj f,.obj j,.str [c],.unb],h',I⟩) (λp' u' h'=>Wh h0 h' f w mo vi j t vs p' u' (ac++[[c]])) (λp' u' _=>t.drop p'=r/\vs.drop u'=vs.drop u):=
 Nq A hr hl λh1 A1=>⟨p+1,u,h1,dy (aK (aE aq ao cU)) (aM hc aq),A1,(bD hr).2,U⟩
theorem DJ(A:Wh h0 h f w mo vi j t vs p u ac)(W0:Wo h0 w mo)(P:fu b h0 y g e)(hr:t.drop p=37::(y++r))(hv:vs.drop u=g++bX)(hl:ac.length<=1000000):
  Xh (λp' u' h'=>rn (au L Z) (bI L Z (n+21)) ⟨[.obj f,.obj j,X,.unb],h,I⟩=.ok .nxt ⟨[.obj f,.obj j,.str [37],.unb],h',I⟩) (λp' u' h'=>Wh h0 h' f w mo vi j t vs p' u' (ac++[e])) (λp' u' _=>t.drop p'=r/\vs.drop u'=bX):=
 Nq A hr hl λh1 A1=>by obtain⟨p',u',h2,e2,hp,hu,F2,K2⟩:=G2 (L:=L) (Z:=Z) (n:=n) (P.ext (W0.ext A1.kp)) A1.fs (bD hr).2 hv;exact⟨p',u',h2,dy (aK (aE aq ao cU)) (bq U (aR aq (jM A1.fs.at' (cD U U cx (aO e2))))),A1.go F2 K2,hp,hu⟩
abbrev NO(L:Nat)(Z:List Int)(n fl f j:Nat)(X:J)(h:H):lJ St Fl:=dU (mf (AP (au L Z) (bI L Z (n+21))) (rn (au L Z) (bI L Z (n+21)))) fl () ⟨[.obj f,.obj j,X,.unb],h,I⟩
theorem FM(W0:Wo h0 w mo)(P:eK b h0 x g d):∀{h:H}{p u fl:Nat}{X:J}{ac:List (List Nat)},Wh h0 h f w mo vi j t vs p u ac->t.drop p=x->vs.drop u=g++bX->x.length<fl->ac.length+x.length<=1000000->
  Ye (λX' ac' h'=>NO L Z n fl f j X h=.ok .nxt ⟨[.obj f,.obj j,X',.unb],h',I⟩/\ac'.flatten=ac.flatten++d) (λ_ ac' h'=>∃p' u',Wh h0 h' f w mo vi j t vs p' u' ac'):=by
 induction P with
 |nil=>intro h p u fl X ac A hr hv hf hl;obtain⟨fl,rfl⟩:∃k,fl=k+1:=⟨fl-1,by exact Xi hf⟩;exact⟨X,ac,h,⟨pc (mF A.fs) (decide_eq_false (by have:=List.drop_eq_nil_iff.mp hr;lia)),(List.append_nil _).symm⟩,p,u,A⟩
 |lit c hc x g d P ih=>intro h p u fl X ac A hr hv hf hl;obtain⟨fl,rfl⟩:∃k,fl=k+1:=⟨fl-1,by exact Xi hf⟩;rw[List.length_cons]at hf hl;obtain⟨p',u',h1,e1,A1,hr1,hu1⟩:=Hu (L:=L) (Z:=Z) (n:=n) (X:=X) A hr hc (by lia);obtain⟨X',ac',h2,⟨e2,e3⟩,A2⟩:=ih (fl:=fl) (X:=.str [c]) A1 hr1 (hu1.trans hv) (by exact Nat.lt_of_succ_lt_succ hf) (by rw[List.length_append];show _+1+_<=_;lia);exact⟨X',ac',h2,⟨nC (mF A.fs) (kT hr) e1 e2,by rw[e3,List.flatten_append,List.append_assoc];rfl⟩,A2⟩
 |place y f' e ag x g d P ih=>intro h p u fl X ac A hr hv hf hl;obtain⟨fl,rfl⟩:∃k,fl=k+1:=⟨fl-1,by exact Xi hf⟩;rw[List.length_cons,List.length_append]at hf hl;obtain⟨p',u',h1,e1,A1,hr1,hu1⟩:=DJ (L:=L) (Z:=Z) (n:=n) (X:=X) A W0 ag hr (hv.trans (List.append_assoc ..)) (by lia);obtain⟨X',ac',h2,⟨e2,e3⟩,A2⟩:=ih (fl:=fl) (X:=.str [37]) A1 hr1 hu1 (by lia) (by rw[List.length_append];show _+1+_<=_;lia);exact⟨X',ac',h2,⟨nC (mF A.fs) (kT hr) e1 e2,by rw[e3,List.flatten_append,List.append_assoc,List.flatten_singleton]⟩,A2⟩
theorem ye{nm:List Nat}(A:Wh h0 h f w mo vi j t vs p u ac)(hr:t.drop p=37::r)(C:∀h1,Wh h0 h1 f w mo vi j t vs (p+1) u ac->jD L Z (n+21) 484 [.obj f] f w mo h1 nm):
  WO (λy ag h'=>rn (au L Z) (bI L Z (n+21)) ⟨[.obj f,.obj j,X,.unb],h,I⟩=.exc y ⟨ag,h',I⟩) (λy _ h'=>fA h' y nm) (λ_ _ h'=>Wo h' w mo) (λ_ _ h'=>aD [w,mo] h0 h'):=by
 have A1:=A.go (A.fs.step (p':=p+1) (u':=u)) (FK.ofF (aD.set (.head _)));obtain⟨y,h2,e2,R,W,K⟩:=C _ A1;have e1:=f8 (L:=L) (Z:=Z) (n:=n+20) (hd:=I) A.fs hr;exact⟨y,_,h2,aG (bz (aR aq (jM A.fs.at' (cD U U cx (aO e1)))) (bv U)) (bO (IQ (aR aq (jM A1.at' (b4 U (eM (E6 (dy (aK (aE aq ao cU)) (bq U (aR aq (jM A1.fs.at' (cD U U cx (dN e2))))))))))))),R,W,A1.kp.newer K A.fn⟩
abbrev Gf(L:Nat)(Z:List Int)(n fl f j:Nat)(X:J)(h h0:H)(w mo:Nat)(nm:List Nat):Prop:=WO (λy ag h'=>NO L Z n fl f j X h=.exc y ⟨ag,h',I⟩) (λy _ h'=>fA h' y nm) (λ_ _ h'=>Wo h' w mo) (λ_ _ h'=>aD [w,mo] h0 h')
theorem BE(W0:Wo h0 w mo)(P:eK b h0 x g d):g≠[]->∀{h:H}{p u fl:Nat}{X:J}{ac:List (List Nat)},Wh h0 h f w mo vi j t vs p u ac->t.drop p=x->vs.drop u=g.dropLast->x.length<fl->ac.length+x.length<=1000000->
  Gf L Z n fl f j X h h0 w mo aU:=by
 induction P with
 |nil=>intro h;exact absurd U h
 |lit c hc x g d P ih=>intro hg h p u fl X ac A hr hv hf hl;obtain⟨fl,rfl⟩:∃k,fl=k+1:=⟨fl-1,by lia⟩;rw[List.length_cons]at hf hl;obtain⟨p',u',h1,e1,A1,hr1,hu1⟩:=Hu (L:=L) (Z:=Z) (n:=n) (X:=X) A hr hc (by lia);obtain⟨y,ag,h2,e2,R1,R2,R3⟩:=ih hg (fl:=fl) (X:=.str [c]) A1 hr1 (hu1.trans hv) (by lia) (by rw[List.length_append];show _+1+_<=_;lia);exact⟨y,ag,h2,nC (mF A.fs) (kT hr) e1 e2,R1,R2,R3⟩
 |place y f' e ag x g d P ih=>
  intro hg h p u fl X ac A hr hv hf hl;obtain⟨fl,rfl⟩:∃k,fl=k+1:=⟨fl-1,by lia⟩;rw[List.length_cons,List.length_append]at hf hl
  by_cases q:g=[]
  ·obtain rfl:=Eq.symm q
   rw[List.append_nil]at hg hv;obtain⟨y,C,h2,e2,R1,R2,R3⟩:=ye (L:=L) (Z:=Z) (n:=n) (X:=X) A hr λh1 A1=>BS (ag.ext (W0.ext A1.kp)) hg A1.fs (bD hr).2 hv;exact⟨y,C,h2,vX (mF A.fs) (kT hr) e2,R1,R2,R3⟩
  ·rw[List.dropLast_append_of_ne_nil q]at hv
   obtain⟨p',u',h1,e1,A1,hr1,hu1⟩:=DJ (L:=L) (Z:=Z) (n:=n) (X:=X) A W0 ag hr hv (by lia);obtain⟨y,ag,h2,e2,R1,R2,R3⟩:=ih q (fl:=fl) (X:=.str [37]) A1 hr1 hu1 (by lia) (by rw[List.length_append];show _+1+_<=_;lia);exact⟨y,ag,h2,nC (mF A.fs) (kT hr) e1 e2,R1,R2,R3⟩
end
section
variable{L:Nat}{Z:List Int}{n:Nat}{hd:Bool}{h h' h0 h1:H}{T:aT}{G:cI}{f w mo vi p u i b p' u' j fl y:Nat}{t r x d e s nm:List Nat}{vs f1 f2 g bX acc:List J}{v X:J}{c c':Nat}{ac:List (List Nat)}
theorem t7:∀{ac:List (List Nat)},lz (ac.map .str)=Y ac
 |[]=>rfl
 |x::r=>by show(E4 (.str x)).bind (λy=>(lz (r.map .str)).map λq=>y::q)=_;rw[t7];rfl
theorem lL:∀{ac:List (List Nat)},fX [] ac=ac.flatten
 |[]=>rfl
 |[x]=>by rw[List.flatten_singleton];rfl
 |x::y::r=>by show x++([]++fX [] (y::r))=_;rw[lL];rfl
theorem HN(hd':d.length<=20000):bI L Z (n+1) hd 378 [.obj w,.str d] [] h=.ok (.str d) h:=by apply bC VC (L0:=[.obj w,.str d,.unb]) rfl;exact bF (bK (dy (aK (aE (aJ U (aC aq) (iF (fM (by exact leT hd' U)))) ao U)) (bq (decide_eq_true (by exact zY (b:=20000) hd')) aq)))
theorem Wh.start(F:Fs h f w mo vi t vs p u)(K:aD [w,mo] h0 h)(hf:h0.length<=f):Wh h0 (h++[.list []]) f w mo vi h.length t vs p u []:=
 ⟨F.keep (aD.app (X:=[])) F.wo.app List.not_mem_nil List.not_mem_nil,K.trans aD.app,ba,hf,K.1,λe=>by have:=qo F.li;exact nf (bE [_,_] [(.v 0,.v 1),(.a (.v 1) (.l 1),.v 0)] 0 [1,1] (.l 1) (.l 0) U (Fp e) this)⟩
theorem Fy(W0:Wo h0 w mo)(P:eK b h0 t g d)(F:Fs h f w mo vi t (g++bX) 0 0)(K:aD [w,mo] h0 h)(hf:h0.length<=f)(hd':d.length<=20000):J3 (λh'=>bI L Z (n+22) I 491 [.obj f] [] h=.ok (.str d) h') (λh'=>Wo h' w mo) (λh'=>aD [w,mo] h0 h'):=by have htl:=F.tl;obtain⟨X',ac',h1,⟨e1,e2⟩,p',u',A⟩:=FM (L:=L) (Z:=Z) (n:=n) (fl:=fg) (X:=.unb) (bX:=bX) W0 P (Wh.start F K hf) U U (by rw[iZ];exact bE [_] [(.v 0,.l 1000000)] 0 [1] (.a (.v 0) (.l 1)) (.a (.l 999999999) (.l 1)) U htl) (by show 0+_<=_;lia);have e2:ac'.flatten=d:=e2;refine⟨h1,?_,A.fs.wo,A.kp⟩;apply bC Nd (L0:=[.obj f,.unb,.unb,.unb]) rfl;exact aG (bz (gj cx U) (bv U)) (aG (fK e1) (bF (bK (aJ U (aB (bG aq A.fs.at' U) (aC (aR ao (DL U (aC aq) (qe (by decide) A.at' t7 (by rw[lL,e2];show d.length+0<=_;exact leT hd' U)))))) (b5 U (aO (by rw[lL,e2];exact HN (n:=n+20) hd')))))))
abbrev PZ(L:Nat)(Z:List Int)(k:Nat)(f:Nat)(as:List J)(w mo:Nat)(h0 h:H)(nm:List Nat):Prop:=Ai (λy h'=>bI L Z k I f as [] h=.exc y h') (λy h'=>fA h' y nm) (λ_ h'=>Wo h' w mo) (λ_ h'=>aD [w,mo] h0 h')
theorem K7(F:Fs h f w mo vi t vs p u)(C:Gf L Z n fg f h.length .unb (h++[.list []]) h0 w mo nm):PZ L Z (n+22) 491 [.obj f] w mo h0 h nm:=by obtain⟨y,ag,h1,e1,R,W,K⟩:=C;exact⟨y,h1,fT Nd (L0:=[.obj f,.unb,.unb,.unb]) U (aG (bz (gj cx U) (bv U)) (cZ (fK e1))),R,W,K⟩
theorem Fs.start(W:Wo h w mo)(hl:h[vi]?=Y (.list vs))(ht:t.length<=1000000)(hv:vs.length<=1000000):Fs (h++[.inst 494 (yr w vi t 0 0)]) h.length w mo vi t vs 0 0:=⟨ba,bH hl,W.app,ht,hv⟩
theorem DX(W:Wo h w mo)(P:eK b h t g d)(hl:h[vi]?=Y (.list (g++bX)))(ht:t.length<=20000)(hv:(g++bX).length<=20000)(hd':d.length<=20000):J3 (λh'=>bI L Z (n+23) I 505 [.obj w,.str t,.obj vi] [] h=.ok (.str d) h') (λh'=>Wo h' w mo) (λh'=>aD [w,mo] h h'):=by have F:=Fs.start (t:=t) W hl (by exact leT ht U) (by exact leT hv U);obtain⟨h1,e1,W1,K1⟩:=Fy (L:=L) (Z:=Z) (n:=n) W P F aD.app (Nat.le_refl _) hd';refine⟨h1,?_,W1,K1⟩;apply bC NX (L0:=[.obj w,.str t,.obj vi,.unb]) rfl;exact bF (bK (aR (aJ U (aB aq (aB aq (aC aq))) (nW U U U (CR (n:=n+21)))) (jM F.at' (cD U U cx (aO e1)))))
theorem uO(W:Wo h w mo)(hl:h[vi]?=Y (.list vs))(ht:t.length<=20000)(hv:vs.length<=20000)(C:Fs (h++[AO.inst 494 (yr w vi t 0 0)]) h.length w mo vi t vs 0 0->Gf L Z n fg h.length (h++[AO.inst 494 (yr w vi t 0 0)]).length .unb ((h++[AO.inst 494 (yr w vi t 0 0)])++[AO.list []]) h w mo nm):PZ L Z (n+23) 505 [.obj w,.str t,.obj vi] w mo h h nm:=by have F:=Fs.start (t:=t) W hl (by exact leT ht U) (by exact leT hv U);obtain⟨y,h1,e1,R,W1,K1⟩:=K7 (h0:=h) F (C F);refine⟨y,h1,?_,R,W1,K1⟩;apply fT NX (L0:=[.obj w,.str t,.obj vi,.unb]) rfl;exact cZ (eI (aR (aJ U (aB aq (aB aq (aC aq))) (nW U U U (CR (n:=n+21)))) (jM F.at' (cD U U cx (dN e1)))))
abbrev Dw(L:Nat)(Z:List Int)(k w vi:Nat)(t:List Nat)(mo:Nat)(h:H)(nm:List Nat):Prop:=Ai (λi h'=>bI L Z k I 883 [.obj w,.str t,.obj vi] [] h=.ok (.obj i) h') (λi h'=>h'[i]?=Y (.list [.str nm])) (λ_ h'=>Wo h' w mo) (λ_ h'=>aD [w,mo] h h')
theorem CI(W:Wo h w mo)(P:eK b h t g d)(hl:h[vi]?=Y (.list (g++bX)))(ht:t.length<=20000)(hv:(g++bX).length<=20000)(hd':d.length<=20000):J3 (λh'=>bI L Z (n+24) I 883 [.obj w,.str t,.obj vi] [] h=.ok (.str d) h') (λh'=>Wo h' w mo) (λh'=>aD [w,mo] h h'):=by obtain⟨h1,e1,W1,K1⟩:=DX (L:=L) (Z:=Z) (n:=n) W P hl ht hv hd';exact⟨h1,bC Nz (L0:=[.obj w,.str t,.obj vi,.unb,.unb]) U (bF (Hk (bF (bK (aJ U (aB aq (aB aq (aC aq))) (b5 U (aO e1))))))),W1,K1⟩
theorem By(C:PZ L Z (n+23) 505 [.obj w,.str t,.obj vi] w mo h h nm):Dw L Z (n+24) w vi t mo h nm:=by
 obtain⟨y,h1,e1,⟨fs,d,t',a,b,c,fs2,o,a2,b2,c2⟩,W1,K1⟩:=C;refine⟨h1.length,h1++[.list [.str nm]],?_,ba,W1.app,K1.trans aD.app⟩;apply bC Nz (L0:=[.obj w,.str t,.obj vi,.unb,.unb]) rfl;exact bF (MP (cZ (eI (aJ U (aB aq (aB aq (aC aq))) (b5 U (dN e1))))) a rfl
  (bF (bK (gj (aC (aJ U (aC (bG (E8 aq a b U (by rw[c];rfl)) a2 (iw U b2 U))) (b5 U (aO (xG (n:=n+22) c2))))) U))) U)
theorem Ep(W:Wo h w mo)(P:eK b h t g d)(hg:g≠[])(hl:h[vi]?=Y (.list g.dropLast))(ht:t.length<=20000)(hv:g.dropLast.length<=20000):Dw L Z (n+24) w vi t mo h aU:=
 By (uO W hl ht hv λF=>BE (ac:=[]) W P hg (Wh.start F aD.app (Nat.le_refl _)) U U (by simp only[iZ];exact bE [_] [(.v 0,.l 20000)] 0 [1] (.a (.v 0) (.l 1)) (.a (.l 999999999) (.l 1)) U ht) (by show 0+_<=_;lia))
end
section
variable{L:Nat}{Z:List Int}{n:Nat}{hd:Bool}{h h' h0 h1:H}{T:aT}{G:cI}{f w mo vi p u i b p' u' j fl y:Nat}{t r x d e s nm:List Nat}{vs:List J}{v X l3:J}{c c' c0 c1:Nat}{W:Int}{m:Option Nat}
theorem mD{q:Nat}(F:Fs h f w mo vi t vs p u)(M:cN h i d W m)(hk:q∈kinds)(hv:vs[u]?=Y v)(C:∀h1,aD [f] h h1->Wo h1 w mo->yd L Z (n+20) 393 [.obj w,v] w mo h1 nm):dl (aH (ki (au L Z) (bI L Z (n+20))) ⟨pS f i q l3 .unb,h,I⟩) f w mo h nm:=by have F1:=F.step (p':=p) (u':=u+1);have K1:aD [f] h (h.set f (.inst 494 (yr w vi t p (u+1)))):=aD.set (.head _);obtain⟨y,h2,e2,R,W2,K2⟩:=C _ K1 F1.wo;obtain⟨t1,t2⟩:=rL (L:=L) (Z:=Z) hk;refine⟨y,pS f i q l3 .unb,h2,?_,R,W2,aD.trans (FK.ofF K1) (FK.ofW K2)⟩;exact aG (aY (aK (aE aq ao U)) (aM t1 aZ)) (cZ (aY (aK (aE aq ao (t2 _))) (bq U (cZ (eI (aR aq (jM M (uB U U (E6 (aJ U (aB (bG aq F.at' U) (aC (aR aq (jM F.at' (cD U U cx (aO (iK (n:=n+19) F hv))))))) (b5 U (dN e2))))))))))))
theorem zD(F:Fs h f w mo vi t vs p u)(M:cN h i d W m)(hv:vs[u]?=Y v)(C:∀h1,Fs h1 f w mo vi t vs p (u+1)->jD L Z (n+20) 477 [.obj f,v] f w mo h1 nm):dl (aH (ki (au L Z) (bI L Z (n+20))) ⟨pS f i 99 l3 .unb,h,I⟩) f w mo h nm:=by have F1:=F.step (p':=p) (u':=u+1);obtain⟨y,h2,e2,R,W2,K2⟩:=C _ F1;refine⟨y,pS f i 99 l3 .unb,h2,?_,R,W2,aD.trans (FK.ofF (aD.set (.head _))) K2⟩;exact aG (aY (aK (aE aq ao U)) (aM U aZ)) (aG (aY (aK (aE aq ao U)) (aM U aZ)) (cZ (aY (aK (aE aq ao cU)) (bq U (cZ (eI (aR aq (jM M (uB U U (E6 (aR aq (jM F.at' (cD U U (aC (aR aq (jM F.at' (cD U U cx (aO (iK (n:=n+19) F hv)))))) (dN e2))))))))))))))
theorem Tq(F:Fs h f w mo vi t vs p u):dl (aH (ki (au L Z) (bI L Z (n+20))) ⟨pS f i 121 l3 .unb,h,I⟩) f w mo h aU:=by obtain⟨y,h2,e2,R,W2,K2⟩:=jd (L:=L) (Z:=Z) (n:=n+10) (x:=[109,97,108,102,111,114,109,101,100,32,102,111,114,109,97,116,32,115,116,114,105,110,103,32,45,32,37,121]) F.wo dZ;refine⟨y,pS f i 121 l3 .unb,h2,?_,R,W2,FK.ofW K2⟩;exact aG (aY (aK (aE aq ao U)) (aM U aZ)) (aG (aY (aK (aE aq ao U)) (aM U aZ)) (aG (aY (aK (aE aq ao cU)) (aM U aZ)) (cZ (aY (aK (aE aq ao U)) (bq U (cZ (eI (aR (bG aq F.at' U) (o3 F.wo.ok U U (aB ao (aC (Da (jf ao (by decide) (jf aq (by decide) C6))))) (dN e2))))))))))
theorem Ku(F:Fs h f w mo vi t vs p u)(hr:t.drop p=[]):dl (sP (au L Z) (bI L Z (n+20)) ⟨[.obj f,.unb,.unb,.unb,.unb,.unb],h,I⟩) f w mo h aU:=by have F1:Fs (h++[.inst 431 [(35,.str []),(36,.int 0),(37,.none)]]) f w mo vi t vs p u:=F.all λX=>aD.app;obtain⟨y,h2,e2,R,W2,K2⟩:=nB (L:=L) (Z:=Z) (n:=n+9) F1 hr;exact⟨y,[.obj f,.unb,.unb,.unb,.unb,.unb],h2,cZ (oL (WW (tU (aJ U cx (nW U U U (Dr (n:=n+19)))) (E6 (aR aq (jM F1.at' (cD U U cx (dN e2)))))))),R,W2,aD.trans aD.app K2⟩
theorem H6{acc:List Nat}(F:Fs h f w mo vi t vs p u)(M:cN h i acc 0 .none)(hr:t.drop p=c1::r)(hl:acc.length<=1000):KL (λh'=>xY (au L Z) (bI L Z (n+20)) ⟨pS f i c0 .unb .unb,h,I⟩=.ok .nxt ⟨pS f i c1 .unb .unb,h',I⟩) (λh'=>cN h' i (acc++[c0]) 0 .none) (λh'=>Fs h' f w mo vi t vs (p+1) u) (λh'=>aD [i,f,w,mo] h h'):=by have hM:h[i]?=Y (.inst 431 [(35,.str acc),(36,.int 0),(37,.none)]):=M;have F1:Fs (h.set i (.inst 431 [(35,.str (acc++[c0])),(36,.int 0),(37,.none)])) f w mo vi t vs p u:=F.keep (aD.set (X:=[i]) (.head _)) (F.wo.set hM U) (hY (ff F.at' hM U)) (hY (ff F.li hM U));exact⟨_,aG (rq (aq U) (i5 hM U) (aq U) (xZ (show acc.length+1<=16777216 by lia)) (kM hM U U)) (bO (bz (aR (aq U) (jM F1.at' (cD U U cx (aO (f8 (n:=n+19) F1 hr))))) U)),iq (ff F.at' hM U) (dP hM),F1.step,(aD.set (.head _)).trans (aD.set (.tail _ (.head _)))⟩
theorem Ru{acc:List Nat}(F:Fs h f w mo vi t vs p u)(M:cN h i acc 0 .none)(hr:t.drop p=[])(hl:acc.length<=1000):WO (λy A h'=>xY (au L Z) (bI L Z (n+20)) ⟨pS f i c0 .unb .unb,h,I⟩=.exc y ⟨A,h',I⟩) (λy _ h'=>fA h' y aU) (λ_ _ h'=>Wo h' w mo) (λ_ _ h'=>ME i f w mo h h'):=by have hM:h[i]?=Y (.inst 431 [(35,.str acc),(36,.int 0),(37,.none)]):=M;have F1:Fs (h.set i (.inst 431 [(35,.str (acc++[c0])),(36,.int 0),(37,.none)])) f w mo vi t vs p u:=F.keep (aD.set (X:=[i]) (.head _)) (F.wo.set hM U) (hY (ff F.at' hM U)) (hY (ff F.li hM U));obtain⟨y,h2,e2,R,W2,K2⟩:=nB (L:=L) (Z:=Z) (n:=n+9) F1 hr;exact⟨y,_,h2,aG (rq (aq U) (i5 hM U) (aq U) (xZ (show acc.length+1<=16777216 by lia)) (kM hM U U)) (bO (oL (aR (aq U) (jM F1.at' (cD U U cx (dN e2)))))),R,W2,aD.trans (aD.set (.head _)) (FK.toI K2)⟩
theorem M0(F:Fs h f w mo vi t vs p u)(hr:t.drop p=[45,48]):dl (sP (au L Z) (bI L Z (n+20)) ⟨[.obj f,.unb,.unb,.unb,.unb,.unb],h,I⟩) f w mo h aU:=by obtain⟨h1,e1,M1,F1,K1⟩:=NF (L:=L) (Z:=Z) (n:=n) F hr;have r1:=(bD hr).2;obtain⟨h2,e2,M2,F2,K2⟩:=H6 (L:=L) (Z:=Z) (n:=n) (c0:=45) F1 M1 r1 (by decide);obtain⟨y,A,h3,e3,R,W3,K3⟩:=Ru (L:=L) (Z:=Z) (n:=n) (c0:=48) F2 M2 (bD r1).2 (by decide);refine⟨y,A,h3,?_,R,W3,ME.old (K2.trans K3) (Nat.le_refl _) K1⟩;rw[e1];exact cZ (fK (nC (fl:=999999999) (aK (aE aq ao U)) U e2 (vX (fl:=999999998) (aK (aE aq ao U)) U e3)))
theorem Em(F:Fs h f w mo vi t vs p u)(hr:t.drop p=[]):jD L Z (n+12) 470 [.obj f,.str [53]] f w mo h aU:=by have F1:Fs (h++[.tup [.int 0,.str [53]]]) f w mo vi t vs p u:=F.all λX=>aD.app;obtain⟨y,h2,e2,R,W2,K2⟩:=Md (L:=L) (Z:=Z) (n:=n) (l1:=.str [53]) (k:=0) (c:=53) F1 hr U (by decide);refine⟨y,h2,?_,R,W2,aD.trans aD.app K2⟩;apply fT sj (L0:=[.obj f,.str [53],.unb,.unb,.unb]) rfl;rw[oJ rfl];exact cZ (fK (vX (fl:=999999999) (iN U) U e2))
theorem uE(F:Fs h f w mo vi t vs p u)(hr:t.drop p=48::48::48::49::r):jD L Z (n+12) 470 [.obj f,.str [50]] f w mo h aU:=by have F1:Fs (h++[.tup [.int 0,.str [50]]]) f w mo vi t vs p u:=F.all λX=>aD.app;have r1:=(bD hr).2;have r2:=(bD r1).2;have r3:=(bD r2).2;have e1:=nN (L:=L) (Z:=Z) (n:=n+10) (l1:=.str [50]) (k:=0) (c:=50) F1 hr U (by decide);have F2:=F1.step (p':=p+1) (u':=u);have e2:=nN (L:=L) (Z:=Z) (n:=n+10) (l1:=.str [50]) (k:=2) (c:=48) F2 r1 U (by decide);have F3:=F2.step (p':=p+1+1) (u':=u);have e3:=nN (L:=L) (Z:=Z) (n:=n+10) (l1:=.str [50]) (k:=20) (c:=48) F3 r2 U (by decide);have F4:=F3.step (p':=p+1+1+1) (u':=u);have e4:=nN (L:=L) (Z:=Z) (n:=n+10) (l1:=.str [50]) (k:=200) (c:=48) F4 r3 U (by decide);have F5:=F4.step (p':=p+1+1+1+1) (u':=u);obtain⟨y,h2,e5,R,W2,K2⟩:=Ld (L:=L) (Z:=Z) (n:=n) (l1:=.str [50]) (k:=2000) (c:=49) F5 U (by decide);refine⟨y,h2,?_,R,W2,aD.trans ((((aD.app.trans (FK.ofF (aD.set (.head _)))).trans (FK.ofF (aD.set (.head _)))).trans (FK.ofF (aD.set (.head _)))).trans (FK.ofF (aD.set (.head _)))) K2⟩;apply fT sj (L0:=[.obj f,.str [50],.unb,.unb,.unb]) rfl;rw[oJ rfl];exact cZ (fK (nC (fl:=999999999) (iN U) U e1 (nC (fl:=999999998) (iN U) U e2 (nC (fl:=999999997) (iN U) U e3 (nC (fl:=999999996) (iN U) U e4 (vX (fl:=999999995) (iN U) U e5))))))
end
section
variable{L:Nat}{Z:List Int}{n:Nat}{hd:Bool}{h h' h0 h1:H}{T:aT}{G:cI}{f w mo vi p u i b p' u' j fl y:Nat}{t r x d e s nm:List Nat}{vs:List J}{v X l3:J}{c c' c0 c1:Nat}{W:Int}{m:Option Nat}
inductive nD(h:H):List Nat->List J->List Nat->Prop where
 |y:nD h [37,121] [.int 1] aU
 |cut:nD h [37] [.int 1] aU
 |five:nD h [97,37,53] [.int 1] aU
 |flags:nD h [37,45,48] [] aU
 |dnil:nD h [37,100] [.none] d5
 |dtext (x:Nat) (A:dY h x [120,49]):nD h [37,100] [.obj x] aU
 |xtrue:nD h [37,120] [.bool S] d5
 |dsym:nD h [37,100] [.str [115]] d5
 |cneg:nD h [37,99] [.int (-1)] aU
 |sbig:nD h [37,42,100] [.int 30000,.int 1] aU
 |cnil:nD h [37,99] [.none] d5
 |wbig:nD h [37,50,48,48,48,49,100] [.int 1] aU
 |snil:nD h [37,42,100] [.none,.int 1] d5
 |mbig:nD h [37,46,50,48,48,48,49,100] [.int 1] aU
theorem nD.keep{ae:List Nat}(ag:nD h t vs nm)(O:tv b h ae)(K:aD ae h h'):nD h' t vs nm:=by induction ag with
 |dtext x A=>exact .dtext x (A.keep K O)
 |y=>exact .y
 |cut=>exact .cut
 |five=>exact .five
 |flags=>exact .flags
 |dnil=>exact .dnil
 |xtrue=>exact .xtrue
 |dsym=>exact .dsym
 |cneg=>exact .cneg
 |sbig=>exact .sbig
 |cnil=>exact .cnil
 |wbig=>exact .wbig
 |snil=>exact .snil
 |mbig=>exact .mbig
theorem nD.two(ag:nD h t vs nm):vs.length<=2/\t.length<=100:=by induction ag<;>exact⟨Nat.le_of_ble_eq_true U,Nat.le_of_ble_eq_true U⟩
theorem i9{y:List Nat}(W:Wo h w mo)(hl:h[vi]?=Y (.list vs))(ht:(37::y).length<=20000)(hv:vs.length<=20000)(C:∀f h2,Fs h2 f w mo vi (37::y) vs 1 0->aD [w,mo] h h2->dl (sP (au L Z) (bI L Z (n+20)) ⟨[.obj f,.unb,.unb,.unb,.unb,.unb],h2,I⟩) f w mo h2 nm):Dw L Z (n+24) w vi (37::y) mo h nm:=
 By (uO W hl ht hv λF=>by obtain⟨z,ag,h2,e2,R,W2,K2⟩:=ye (L:=L) (Z:=Z) (n:=n) (X:=.unb) (ac:=[]) (Wh.start F aD.app (Nat.le_refl _)) (r:=y) U λh1 A1=>nY (C _ _ A1.fs A1.kp);exact⟨z,ag,h2,vX (fl:=999999999) (mF (Wh.start F aD.app (Nat.le_refl _)).fs) (kT (l:=37::y) (j:=0) U) e2,R,W2,K2⟩)
theorem Bl(F:Fs h f w mo vi t vs p u)(hr:t.drop p=c::r)(hc:nh c)(hc2:Nat.beq c 46=I)(C:∀i l3 h3 p1 u1,Fs h3 f w mo vi t vs p1 u1->cN h3 i [] 0 .none->FK f w mo h h3->vs.drop u1=vs.drop u->dl (aH (ki (au L Z) (bI L Z (n+20))) ⟨pS f i c l3 .unb,h3,I⟩) f w mo h3 nm):dl (sP (au L Z) (bI L Z (n+20)) ⟨[.obj f,.unb,.unb,.unb,.unb,.unb],h,I⟩) f w mo h nm:=by obtain⟨p1,u1,⟨l3,h1,s1,M1,F1,K1⟩,hp1,hu1⟩:=xT (L:=L) (Z:=Z) (n:=n) (fs:=[]) (wt:=[]) (mt:=[]) (f1:=[]) (f2:=[]) (bX:=vs.drop u) F hr U (by decide) .no .no hc hc2 rfl;rw[s1];exact dl.old K1 (C _ _ _ _ _ F1 M1 K1 hu1)
theorem xr(F:Fs h f w mo vi t vs p u)(hr:t.drop p=c::r)(hc:ji c=I)(C:∀h1 p1,Fs h1 f w mo vi t vs p1 u->t.drop p1=r->jD L Z (n+20) 470 [.obj f,.str [c]] f w mo h1 nm):dl (sP (au L Z) (bI L Z (n+20)) ⟨[.obj f,.unb,.unb,.unb,.unb,.unb],h,I⟩) f w mo h nm:=by obtain⟨p2,⟨h2,s2,M2,F2,K2⟩,hr2⟩:=xS (L:=L) (Z:=Z) (n:=n) (fs:=[]) F hr U (by decide) hc;rw[s2];exact dl.old K2 (w8 F2 (C _ _ F2 hr2))
theorem EV(ag:nD h t vs nm)(W:Wo h w mo)(hl:h[vi]?=Y (.list vs)):Dw L Z (n+24) w vi t mo h nm:=by have e100:nh 100:=⟨U,U,U⟩;have e99:nh 99:=⟨U,U,U⟩;induction ag with
 |y=>exact i9 W hl (by decide) (Nat.le_of_ble_eq_true U) λf h2 F K=>Bl F U ⟨U,U,U⟩ U λi l3 h3 p1 u1 F3 M3 K3 hu=>Tq F3
 |cut=>exact i9 W hl (by decide) (Nat.le_of_ble_eq_true U) λf h2 F K=>Ku F rfl
 |five=>refine By (uO W hl (by decide) (Nat.le_of_ble_eq_true U) λF=>?_);have A:=Wh.start F aD.app (Nat.le_refl _);obtain⟨p',u',h1,e1,A1,hr1,hu1⟩:=Hu (L:=L) (Z:=Z) (n:=n) (X:=.unb) A (r:=[37,53]) (c:=97) U U (by decide);obtain⟨z,ag,h2,e2,R,W2,K2⟩:=ye (L:=L) (Z:=Z) (n:=n) (X:=.str [97]) A1 hr1 λh1 A2=>nY (xr A2.fs (bD hr1).2 U λh3 p3 F3 hr3=>Em (n:=n+8) F3 hr3);exact⟨z,ag,h2,nC (fl:=999999999) (mF A.fs) (kT (l:=[97,37,53]) (j:=0) U) e1 (vX (fl:=999999998) (mF A1.fs) (kT hr1) e2),R,W2,K2⟩
 |flags=>exact i9 W hl (by decide) (Nat.le_of_ble_eq_true U) λf h2 F K=>M0 F rfl
 |dnil=>exact i9 W hl (by decide) (Nat.le_of_ble_eq_true U) λf h2 F K=>Bl F U e100 U λi l3 h3 p1 u1 F3 M3 K3 hu=>mD F3 M3 (.head _) (bD hu).1 λh4 K4 W4=>B9 (n:=n+9) W4 U (lM (n:=n+18) U U) U (DS (n:=n+14)) (by decide)
 |dtext x A=>exact i9 W hl (by decide) (Nat.le_of_ble_eq_true U) λf h2 F K=>Bl F U e100 U λi l3 h3 p1 u1 F3 M3 K3 hu=>mD F3 M3 (.head _) (bD hu).1 λh4 K4 W4=>z6 (n:=n+9) W4 (((A.keep K (W.off (b:=0))).keep K3 (F.off (b:=0))).keep K4 (F3.off (b:=0)).ofF) U U (by decide) rfl
 |xtrue=>exact i9 W hl (by decide) (Nat.le_of_ble_eq_true U) λf h2 F K=>Bl F U ⟨U,U,U⟩ U λi l3 h3 p1 u1 F3 M3 K3 hu=>mD F3 M3 (by decide) (bD hu).1 λh4 K4 W4=>B9 (n:=n+9) W4 U (yA (n:=n+18)) U (yR (n:=n+14) U (λ_=>rfl) (wy (n:=n+16) (d:=6) U) U) (by decide)
 |dsym=>exact i9 W hl (by decide) (Nat.le_of_ble_eq_true U) λf h2 F K=>Bl F U e100 U λi l3 h3 p1 u1 F3 M3 K3 hu=>mD F3 M3 (.head _) (bD hu).1 λh4 K4 W4=>B9 (n:=n+9) W4 U (lM (n:=n+18) U U) U (yR (n:=n+14) U (λ_=>rfl) (zz (n:=n+14) (d:=6) Lr (by decide) U) U) (by decide)
 |cneg=>exact i9 W hl (by decide) (Nat.le_of_ble_eq_true U) λf h2 F K=>Bl F U e99 U λi l3 h3 p1 u1 F3 M3 K3 hu=>zD F3 M3 (bD hu).1 λh4 F4=>FQ (n:=n+9) F4 (by decide)
 |cnil=>exact i9 W hl (by decide) (Nat.le_of_ble_eq_true U) λf h2 F K=>Bl F U e99 U λi l3 h3 p1 u1 F3 M3 K3 hu=>zD F3 M3 (bD hu).1 λh4 F4=>HC (n:=n+8) F4
 |sbig=>exact i9 W hl (by decide) (Nat.le_of_ble_eq_true U) λf h2 F K=>xr F (c:=42) (r:=[100]) U U λh3 p3 F3 hr3=>ur (n:=n+8) F3 U (by decide)
 |snil=>exact i9 W hl (by decide) (Nat.le_of_ble_eq_true U) λf h2 F K=>xr F (c:=42) (r:=[100]) U U λh3 p3 F3 hr3=>uq (n:=n+8) F3 rfl
 |wbig=>exact i9 W hl (by decide) (Nat.le_of_ble_eq_true U) λf h2 F K=>xr F (c:=50) (r:=[48,48,48,49,100]) U U λh3 p3 F3 hr3=>uE (n:=n+8) F3 hr3
 |mbig=>refine i9 W hl (by decide) (Nat.le_of_ble_eq_true U) λf h2 F K=>?_;obtain⟨p1,u1,⟨l3,h1,s1,M1,F1,K1⟩,hp1,hu1⟩:=Aw (L:=L) (Z:=Z) (n:=n) (fs:=[]) (wt:=[]) (f1:=[]) (c:=46) (r:=[50,48,48,48,49,100]) (bX:=[.int 1]) F U U (by decide) .no nh.dot rfl;rw[s1];exact dl.old K1 (CM F1 hp1 λh3 F3=>uE (n:=n+8) F3 (bD hp1).2)
end
section
variable{b:Nat}{L:Nat}{Z:List Int}{n:Nat}{hd:Bool}{h h' h0 h1:H}{T:aT}{G:cI}{f w mo vi p u i p' u' j fl y N k:Nat}{t r x d s nm:List Nat}{vs A ys:List J}{v X l3:J}{e:M J}{es:List (M J)}
inductive iJ(h:H)(v:J):Prop where
 |mk (i vi:Nat) (t:List Nat) (vs:List J) (nm:List Nat) (e:v=.obj i) (a:h[i]?=Y (.tup [.str t,.obj vi,.str nm])) (b:h[vi]?=Y (.list vs)) (ag:nD h t vs nm):iJ h v
theorem iJ.keep(g:iJ h v)(W:Wo h w mo)(K:aD [w,mo] h h'):iJ h' v:=let⟨i,vi,t,vs,nm,e,a,b,ag⟩:=g;⟨i,vi,t,vs,nm,e,K.get a (W.nin a U),K.get b (W.nin b U),ag.keep (W.off (b:=0)) K⟩
abbrev KP(P:H->J->Prop)(w mo:Nat):Prop:=∀h h' v,P h v->Wo h w mo->aD [w,mo] h h'->P h' v
theorem iJ.kp:KP iJ w mo:=λ_ _ _ g W K=>g.keep W K
def rj(h:H)(b:Nat):Prop:=∃vs:List J,h[b]?=Y (.list vs)/\vs.length=4
theorem rj.keep(F:rj h b)(W:Wo h w mo)(K:aD [w,mo] h h'):rj h' b:=let⟨vs,a,l⟩:=F;⟨vs,K.get a (W.nin a U),l⟩
theorem rj.ne(F:rj h b)(a:h[j]?=Y (.list vs))(hl:vs.length≠4):j≠b:=λq=>by subst q;obtain⟨us,a2,l⟩:=F;have:=a.symm.trans a2;cases this;exact hl l
abbrev D0(P:H->J->Prop)(e:M J)(b w mo:Nat):Prop:=∀(A:List J)(h:H),A[1]?=Y (.obj w)->Wo h w mo->rj h b->Ai (λv h'=>e ⟨A,h,I⟩=.ok v ⟨A,h',I⟩) (λv h'=>P h' v) (λ_ h'=>Wo h' w mo) (λ_ h'=>aD [w,mo] h h')
abbrev HT(P:H->J->Prop)(es:List (M J))(b w mo k:Nat):Prop:=∀(A:List J)(h:H),A[1]?=Y (.obj w)->Wo h w mo->rj h b->Ai (λvs h'=>db es ⟨A,h,I⟩=.ok vs ⟨A,h',I⟩) (λvs h'=>(∀v∈vs,P h' v)/\vs.length=k) (λ_ h'=>Wo h' w mo) (λ_ h'=>aD [w,mo] h h')
theorem lR{P:H->J->Prop}:HT P [] b w mo 0:=λ_ h _ W _=>⟨[],h,cx,⟨λ_ m=>(List.not_mem_nil m).elim,U⟩,W,aD.refl⟩
theorem cK{P:H->J->Prop}(kp:KP P w mo)(a:D0 P e b w mo)(c:HT P es b w mo k):HT P (e::es) b w mo (k+1):=λA h hA W F=>by
 obtain⟨v,h1,e1,g1,W1,K1⟩:=a A h hA W F;obtain⟨vs,h2,e2,⟨g2,l2⟩,W2,K2⟩:=c A h1 hA W1 (F.keep W K1);refine⟨v::vs,h2,aB e1 e2,⟨λx m=>?_,by simp only[List.length_cons,l2]⟩,W2,K1.trans K2⟩;rcases List.mem_cons.mp m with e0|m
 ·exact e0▸kp _ _ _ g1 W1 K2
 ·exact g2 x m
theorem gf(hv:∀s,db es s=.ok vs s)(ag:∀h,nD h t vs nm)(hl:Nat.ble vs.length 1000=S):D0 iJ (mTup [D (.str t),dm es,D (.str nm)]) b w mo:=λA h hA W _=>⟨.obj (h++[AO.list vs]).length,(h++[AO.list vs])++[.tup [.str t,.obj h.length,.str nm]],gm (aB ao (aB (gj (hv _) hl) (aC ao))) U,⟨_,h.length,t,vs,nm,U,ba,bH ba,ag _⟩,W.app.app,aD.app.trans aD.app⟩
theorem Hf:D0 iJ (mTup [D (.str [37,100]),dm [bk (au L Z) (bI L Z (n+24)) (B 1) 7 (am "text") [D (.str [120,49])]],D (.str aU)]) b w mo:=λA h hA W _=>by obtain⟨i,h1,e1,T1,W1,K1,_⟩:=oG (L:=L) (Z:=Z) (n:=n+17) (x:=[120,49]) W;refine⟨.obj (h1++[AO.list [.obj i]]).length,(h1++[AO.list [.obj i]])++[.tup [.str [37,100],.obj h1.length,.str aU]],gm (aB ao (aB (gj (aC (aR (bM hA U) (o3 W.ok U U (aC ao) (aO e1)))) U) (aC ao))) U,⟨_,h1.length,_,_,_,U,ba,bH ba,.dtext i ?_⟩,W1.app.app,(K1.trans aD.app).trans aD.app⟩;obtain⟨fs,a,b⟩:=T1;exact⟨fs,bH (bH a),b⟩
theorem Je:∀s,db [] s=.ok [] s:=λ_=>rfl
theorem iL:∀s,db [D v] s=.ok [v] s:=λ_=>rfl
theorem zt:∀s,db [D v,D X] s=.ok [v,X] s:=λ_=>rfl
theorem IN{q:Int}:∀s,db [rh (D (.int q))] s=.ok [.int (-q)] s:=λ_=>rfl
noncomputable abbrev Xf(b w:Nat)(l2:J):List J:=[.obj b,.obj w,l2,.unb,.unb,.unb,.unb]
structure Yh(P:H->J->Prop)(h:H)(w mo j k:Nat):Prop where
 wo:Wo h w mo
 ex:∃vs,h[j]?=Y (.list vs)/\vs.length=k/\∀v∈vs,P h v
theorem wP{P:H->J->Prop}{l:Nat}(kp:KP P w mo)(hA:A[1]?=Y (.obj w))(hl:Nat.blt l A.length=S)(W:Wo h w mo)(F:rj h b)(R:HT P es b w mo k)(hk:k<=100):Iy (λj h'=>sAsg (bd l) (dm es) ⟨A,h,I⟩=.ok .nxt ⟨A.set l (.obj j),h',I⟩) (λj h'=>Yh P h' w mo j k) (λ_ h'=>aD [w,mo] h h'):=by obtain⟨vs,h1,e1,⟨g1,l1⟩,W1,K1⟩:=R A h hA W F;exact⟨h1.length,_,bz (gj e1 (Nat.ble_eq_true_of_le (by lia))) (bv hl),⟨W1.app,vs,ba,l1,λv m=>kp _ _ _ (g1 v m) W1 aD.app⟩,K1.trans aD.app⟩
theorem qt{P:H->J->Prop}{j k' l:Nat}(kp:KP P w mo)(hA:A[1]?=Y (.obj w))(hl:Nat.blt l A.length=S)(hj:A[l]?=Y (.obj j))(R0:Yh P h w mo j k)(F:rj h b)(R:HT P es b w mo k')(hk:k<=100)(hk':k'<=100):Iy (λj' h'=>sAsg (bd l) (bp .Add (B l) (dm es)) ⟨A,h,I⟩=.ok .nxt ⟨A.set l (.obj j'),h',I⟩) (λj' h'=>Yh P h' w mo j' (k+k')) (λ_ h'=>aD [w,mo] h h'):=by
 obtain⟨W,xs,a,l0,g0⟩:=R0;obtain⟨vs,h1,e1,⟨g1,l1⟩,W1,K1⟩:=R A h hA W F;have a1:(h1++[AO.list vs])[j]?=Y (.list xs):=bH (K1.get a (W.nin a U));refine⟨_,_,bz (bj (bM hj U) (gj e1 (Nat.ble_eq_true_of_le (by lia))) (ud a1 ba (by exact bE [_,_,_,_] [(.v 0,.l 100),(.v 1,.l 100),(.v 2,.v 0),(.v 3,.v 1)] 0 [1,1,1,1] (.a (.v 2) (.v 3)) (.l 16777216) U hk hk' (Fp l0) (Fp l1)))) (bv hl),⟨W1.app.app,xs++vs,ba,by simp only[List.length_append,l0,l1],λv m=>?_⟩,(K1.trans aD.app).trans aD.app⟩;rcases List.mem_append.mp m with m|m
 ·exact kp _ _ _ (kp _ _ _ (g0 v m) W K1) W1 (aD.app.trans aD.app)
 ·exact kp _ _ _ (g1 v m) W1 (aD.app.trans aD.app)
theorem im.keep(ag:im h b N)(W:Wo h w mo)(K:aD [w,mo] h h'):im h' b N:=by obtain⟨g,s,c,sm,a,r1,r2,r3,r4⟩:=ag;exact⟨g,s,c,sm,K.get a (W.nin a U),r1,r2,r3,r4⟩
theorem im.four(ag:im h b N):rj h b:=let⟨_,_,_,_,a,_,_,_,_⟩:=ag;⟨_,a,U⟩
theorem im.off(ag:im h b N):tv b h [b]:=by obtain⟨g,s,c,sm,a,r1,r2,r3,r4⟩:=ag;exact⟨λi C fs e q m=>(by rw[List.mem_singleton.mp m]at e;have:=e.symm.trans a;cases this),λi xs e q m=>q (List.mem_singleton.mp m)⟩
theorem im.wo(ag:im h b N)(W:Wo h w mo)(K:aD [b] h h'):Wo h' w mo:=by obtain⟨g,s,c,sm,a,r1,r2,r3,r4⟩:=ag;exact W.keep K λi o e hk m=>by rw[List.mem_singleton.mp m]at e;have:=e.symm.trans a;obtain rfl:=sI this;cases hk
theorem im.lt(ag:im h b N):b<h.length:=by obtain⟨g,s,c,sm,a,r1,r2,r3,r4⟩:=ag;exact qo a
theorem im.ne4(ag:im h b N)(a:h[j]?=Y (.list vs))(hl:vs.length≠4):j≠b:=λq=>by subst q;obtain⟨g,s,c,sm,a2,r1,r2,r3,r4⟩:=ag;have:=a.symm.trans a2;cases this;exact hl rfl
theorem iJ.box(g:iJ h v)(ag:im h b N)(K:aD [b] h h'):iJ h' v:=by have O:=ag.off;obtain⟨i,vi,t,vs,nm,e,a,c,ak⟩:=g;have l2:=ak.two.1;have nb:=ag.ne4 c (by exact Nat.ne_of_lt (bE [_] [(.v 0,.l 2)] 0 [1] (.a (.v 0) (.l 1)) (.l 4) U l2));obtain⟨g,s,k,sm,a2,r1,r2,r3,r4⟩:=ag;exact⟨i,vi,t,vs,nm,e,K.get a (hY (ff a a2 U)),K.get c (O.li _ _ c nb),ak.keep O K⟩
theorem aD.tob(K:aD [w,mo] h h'):aD [b,w,mo] h h':=K.mono λ_ _ m=>.tail _ m
theorem aD.bb(K:aD [b] h h'):aD [b,w,mo] h h':=K.mono λ_ _ m=>by rw[List.mem_singleton.mp m];exact .head _
theorem IP{i j:Nat}{x:List Nat}{A0:List J}{B0:Bool}(h1:h[i]?=Y (.list [.str x]))(h2:h[j]?=Y (.list [.str x])):p7 T .Eq (.obj i) (.obj j) ⟨A0,h,B0⟩=.ok (.bool S) ⟨A0,h,B0⟩:=by
 have q:∀x:List Nat,eqL x x=S:=λx=>by induction x with
  |nil=>rfl
  |cons a r ih=>show(Nat.beq a a&&eqL r r)=S;rw[ih,Nat.beq_refl];rfl
 refine az (lV h1 (lV h2 (dR (a:=S) ?_ U))) rfl;show(Y (eqL x x)).bind (λt=>(Y S).map λu=>t&&u)=Y S;rw[q];rfl
theorem Ay(W:Wo h w mo)(ag:im h b N)(hN:N<100000):KL (λh'=>bI L Z (n+25) I 897 [.obj b,.obj w] [] h=.ok (.bool S) h') (λh'=>Wo h' w mo) (λh'=>im h' b (N+1)) (λh'=>aD [b,w,mo] h h'):=by
 obtain⟨j1,h1,e1,R1,K1⟩:=wP (A:=Xf b w .unb) (l:=2) iJ.kp U U W ag.four (cK iJ.kp (gf iL (λ_=>nD.y) U) (cK iJ.kp (gf iL (λ_=>nD.cut) U) (cK iJ.kp (gf iL (λ_=>nD.five) U) (cK iJ.kp (gf Je (λ_=>nD.flags) U) lR)))) (by decide);have F1:=ag.four.keep W K1;obtain⟨j2,h2,e2,R2,K2⟩:=qt (A:=Xf b w (.obj j1)) (l:=2) iJ.kp U U U R1 F1 (cK iJ.kp (gf iL (λ_=>nD.dnil) U) (cK iJ.kp (Hf (L:=L) (Z:=Z) (n:=n)) (cK iJ.kp (gf iL (λ_=>nD.xtrue) U) (cK iJ.kp (gf iL (λ_=>nD.dsym) U) lR)))) (by decide) (by decide);have F2:=F1.keep R1.wo K2;obtain⟨j3,h3,e3,R3,K3⟩:=qt (A:=Xf b w (.obj j2)) (l:=2) iJ.kp U U U R2 F2 (cK iJ.kp (gf IN (λ_=>nD.cneg) U) (cK iJ.kp (gf zt (λ_=>nD.sbig) U) lR)) (by decide) (by decide);have F3:=F2.keep R2.wo K3;obtain⟨j4,h4,e4,⟨W4,vs,a4,l4,g4⟩,K4⟩:=qt (A:=Xf b w (.obj j3)) (l:=2) iJ.kp U U U R3 F3 (cK iJ.kp (gf iL (λ_=>nD.cnil) U) (cK iJ.kp (gf iL (λ_=>nD.wbig) U) (cK iJ.kp (gf zt (λ_=>nD.snil) U) (cK iJ.kp (gf iL (λ_=>nD.mbig) U) lR)))) (by decide) (by decide);have K04:=((K1.trans K2).trans K3).trans K4;have B4:=ag.keep W K04;obtain⟨d,h5,e5,d0,d1,B5,K5⟩:=CE (L:=L) (Z:=Z) (n:=n+23) (m:=14) B4 hN (by decide) (by decide);have W5:=B4.wo W4 K5;have hd1:d.toNat<vs.length:=by rw[l4];show d.toNat<14;exact Xu (m:=14) (Nat.succ_pos 13) d1
 have ev:vs[d.toNat]?=Y vs[d.toNat]:=List.getElem?_eq_getElem hd1;have ed:((d.toNat:Nat):Int)=d:=eT d0;have jb:j4≠b:=B4.ne4 a4 (by rw[l4];decide);have a5:h5[j4]?=Y (.list vs):=K5.get a4 (hY jb);have ix:FF vs d=Y vs[d.toNat]:=by
  have:=mE ev (by exact leT (Xu (m:=14) (Nat.succ_pos 13) d1) U)
  rwa[ed]at this
 obtain⟨i,vi,t,xs,nm,ei,ai,al,ak⟩:=(g4 _ (List.getElem_mem hd1)).box B4 K5;obtain⟨r,h6,e6,r6,W6,K6⟩:=EV (L:=L) (Z:=Z) (n:=n) ak W5 al;refine⟨h6++[.list [.str nm]],?_,W6.app,(B5.keep W5 K6).keep W6 aD.app,(((K04.tob).trans K5.bb).trans K6.tob).trans aD.app⟩;apply bC UF (L0:=[.obj b,.obj w,.unb,.unb,.unb,.unb,.unb]) rfl;exact aG e1 (aG e2 (aG e3 (aG e4 (aG (bz (gJ aq (aJ U (aB aq (aC ao)) (b5 U (aO e5))) a5 (ix.trans (congrArg Y ei))) (qv U ai U (bZ (bv U) (bZ (bv U) (dj (bv U))))))
  (bF (bK (aE (aJ U (aB aq (aB aq (aC aq))) (b5 U (aO e6))) (gj (aC aq) U) (IP (bH r6) ba))))))))
end
section
variable{L:Nat}{Z:List Int}{n:Nat}{h h' h0 h1:H}{w mo nt pr y gl ou i:Nat}{k:Int}{rdy:Bool}{fs fs':List (Nat×J)}{es:List (List Nat×J)}
theorem Vx.put(W:Vx h w mo nt pr fs es):Vx (h.set w (.inst 827 fs')) w mo nt pr fs' es:=
 ⟨dP W.at',iq (ff W.at' W.nat U) W.nat,iq (ff W.at' W.pre U) W.pre,iq (ff W.at' W.made U) W.made,W.n1,W.n2,W.nd,W.known,λp hp=>by obtain⟨i,e,fs,h1,h2,h3,h4,h5⟩:=W.mods p hp;exact⟨i,e,fs,iq (ff W.at' h1 U) h1,h2,h3,h4,h5⟩⟩
theorem Ac{A:List J}{xs:List J}(hA:A[0]?=Y (.obj w))(hA5:5<A.length)(W:tg h w mo S)(hl:h[i]?=Y (.list xs))(hx:∀x∈xs,∃nm:List Nat,x=.str nm/\nm.length<=1000):∀(r:List J)(k fl:Nat)(a:J),xs.drop k=r->r.length<fl->
  ∃A',dU (iW (bd 5) (GQ (au L Z) (bI L Z (n+1)))) fl (.live i k) ⟨A.set 5 a,h,I⟩=.ok .nxt ⟨A',h,I⟩
 |_,_,0,_,_,h=>absurd h (Nat.not_lt_zero _)
 |[],k,fl+1,a,e,_=>⟨_,az (az (CQ hl (List.getElem?_eq_none (List.drop_eq_nil_iff.mp e))) U) U⟩
 |x::r,k,fl+1,a,e,hf=>by
  have ex:=(bD e).1;obtain⟨nm,rfl,hn⟩:=hx x (List.mem_of_getElem? ex);obtain⟨A',e2⟩:=Ac hA hA5 W hl hx r (k+1) fl (.str nm) (bD e).2 (by rw[List.length_cons]at hf;exact bE [_,_] [(.a (.a (.v 0) (.l 1)) (.l 1),.a (.v 1) (.l 1))] 0 [1] (.a (.v 0) (.l 1)) (.v 1) U hf);have e3:=sh (L:=L) (Z:=Z) (n:=n) (hd:=I) W hn;have s0:(A.set 5 (.str nm))[0]?=Y (.obj w):=by rw[List.getElem?_set_ne (by decide)];exact hA
  have s5:(A.set 5 (.str nm))[5]?=Y (.str nm):=List.getElem?_set_self hA5;refine⟨A',az (a:=Y (It.live i (k+1),Fl.nxt)) (az (FL hl ex) (az (bv (A0:=A.set 5 a) (Nat.ble_eq_true_of_le (by rw[List.length_set];exact hA5))) (az (s1:=⟨A.set 5 (.str nm),h,I⟩) (a:=Fl.nxt) ?_ U))) e2⟩;rw[List.set_set];exact bO (nA (aR (bM s0 U) (o3 W U U (aC (bM s5 U)) (aO e3))))
theorem yG:∀{nm:List Nat},(fE nm iH).isSome=S->nm.length<=1000:=λ{nm} e=>by
 obtain⟨v,hv⟩:=bL.mp e;have key:(iH.all λp=>Nat.ble p.1.length 1000)=S:=by kernel_rfl
 exact Nat.le_of_ble_eq_true (List.all_eq_true.mp key _ (s7 hv))
theorem Q7{A0:List J}{P P':H}{ag:Bool}{ms:List (M Fl)}{F:lJ St Fl}(e:P=P')(h1:aH ms ⟨A0,P',ag⟩=F):aH ms ⟨A0,P,ag⟩=F:=by subst e;exact h1
theorem Js(hn:h[nt]?=Y (.dict [])):J3 (λp=>bI L Z (n+11) I 587 [.obj h.length,.obj nt] [] (h++[.inst 827 []])=.ok .none p.2) (λp=>Wo p.2 h.length p.1) (λ(p:Nat×H)=>aD [] h p.2):=by
 have W0:tg (h++[.inst 827 (zN nt (h.length+1) (h.length+2) (h.length+3) (h.length+4) (h.length+5) 0 I []),.dict [],.dict [],.dict [],.dict [],.list []]) h.length (h.length+3) I:=
  ⟨nt,h.length+1,h.length+2,h.length+4,h.length+5,0,[],[],.inl U,sp,bH hn,rK (k:=1) U,rK (k:=3) U,by have:=qo hn;exact Nat.ne_of_lt (bE [_,_] [(.a (.v 0) (.l 1),.v 1)] 0 [1] (.a (.v 0) (.l 1)) (.a (.v 1) (.l 3)) U this),by exact Nat.ne_of_lt (bE [_] [] 0 [] (.a (.a (.v 0) (.l 1)) (.l 1)) (.a (.v 0) (.l 3)) U),List.nodup_nil,λp m=>(List.not_mem_nil m).elim,λp m=>(List.not_mem_nil m).elim⟩
 obtain⟨k,h2,e2,W2,K2⟩:=rQ (L:=L) (Z:=Z) (n:=n+9) (hd:=I) W0;have d2:h2[h.length+3]?=Y (.dict []):=K2.get (rK (k:=3) U) (hY (by exact Nat.ne_of_gt (bE [_] [] 0 [] (.a (.v 0) (.l 1)) (.a (.v 0) (.l 3)) U)));have c2:Cl h2 (h.length+3):=λ⟨es,v,a,b⟩=>by have:=a.symm.trans d2;cases this;cases b
 obtain⟨o,h3,e3,P3,hpar,hown⟩:=sr (L:=L) (Z:=Z) (n:=n) (N:=6) (nm:=ja) (ic:=S) (par:=(Y f9)) (mix:=(Y CK)) (ah:=[]) (λ_=>rfl) (by kernel_rfl) (by kernel_rfl) (⟨565,by kernel_rfl,by kernel_rfl⟩) (by decide) (λ_ e=>by exact(sI e)▸w6) ((GF.more (by decide)).up (by decide)) (λ_ e=>by exact(sI e)▸(Lq.more (by decide)).up (by decide)) W2 (λk m=>(List.not_mem_nil m).elim) (λes e=>by have:=e.symm.trans d2;cases this;rfl);have hbase:∀k∈base,oQ h3 (h.length+3) k:=λk m=>by
  rcases List.mem_cons.mp m with e0|m
  ·exact e0▸P3.new
  rcases List.mem_cons.mp m with e0|m
  ·exact e0▸hpar _ (.head _)
  rcases List.mem_cons.mp m with e0|m
  ·exact e0▸hown
  ·rw[List.mem_singleton.mp m];exact P3.cl c2 hown
 have e4:=Hc (L:=L) (Z:=Z) (n:=n+9) (hd:=I) (h:=h3) (C:=40) (a:=.int k) (b:=.obj o) U U U U U U U rfl;obtain⟨nt3,pr3,y3,gl3,ou3,k3,rest3,es3,hr3,W4⟩:=id (P3.ok.app (t:=[.inst 40 [(1,.int k),(2,.obj o),(3,.obj (h3.length+1)),(4,.none),(5,.bool I),(6,.none)],.dict []]));have W5:=W4.put (fs':=zN nt3 pr3 y3 (h.length+3) gl3 ou3 k3 I [(65,.obj h3.length)]);have W6:=W5.put (fs':=zN nt3 pr3 y3 (h.length+3) gl3 ou3 k3 S [(65,.obj h3.length)]);have V6:tg _ h.length (h.length+3) S:=⟨nt3,pr3,y3,gl3,ou3,k3,_,es3,.inr ⟨_,U⟩,W6⟩;have p5:lY 65 (.obj h3.length) (zN nt3 pr3 y3 (h.length+3) gl3 ou3 k3 I rest3)=zN nt3 pr3 y3 (h.length+3) gl3 ou3 k3 I [(65,.obj h3.length)]:=by rcases hr3 with rfl|⟨v,rfl⟩<;>rfl
 have p6:lY 64 (.bool S) (zN nt3 pr3 y3 (h.length+3) gl3 ou3 k3 I [(65,.obj h3.length)])=zN nt3 pr3 y3 (h.length+3) gl3 ou3 k3 S [(65,.obj h3.length)]:=rfl;have KK:aD [h.length] h3 _:=((aD.app (t:=[.inst 40 [(1,.int k),(2,.obj o),(3,.obj (h3.length+1)),(4,.none),(5,.bool I),(6,.none)],.dict []])).trans (aD.set (o:=.inst 827 (zN nt3 pr3 y3 (h.length+3) gl3 ou3 k3 I [(65,.obj h3.length)])) (.head _))).trans (aD.set (o:=.inst 827 (zN nt3 pr3 y3 (h.length+3) gl3 ou3 k3 S [(65,.obj h3.length)])) (.head _));obtain⟨A',e7⟩:=Ac (L:=L) (Z:=Z) (n:=n+9) (A:=[.obj h.length,.obj nt,.none,.none,.int 20000,.unb,.unb]) (xs:=es3.map λp=>.str p.1) U (by show 5<7;decide) V6.app ba (λx m=>by
  obtain⟨p,hp,rfl⟩:=List.mem_map.mp m;exact⟨p.1,U,yG (W6.known p hp)⟩) _ 0 fg .unb U (by
  have:=rR W6.nd W6.known;rw[List.drop_zero,List.length_map];exact Nat.lt_of_le_of_lt this (by rw[iZ];decide))
 have V7:=V6.app (t:=[AO.list (es3.map λp=>.str p.1)]);have B7:=λk m=>((hbase k m).keep KK (hY (by exact Nat.ne_of_gt (bE [_] [] 0 [] (.a (.v 0) (.l 1)) (.a (.v 0) (.l 3)) U)))).keep (aD.app (X:=[]) (t:=[AO.list (es3.map λp=>.str p.1)])) List.not_mem_nil;refine⟨(h.length+3,_),?_,⟨V7,B7⟩,?_⟩
 ·apply j6 Wb (L0:=[.obj h.length,.obj nt,.none,.none,.int 20000,.unb,.unb]) rfl
  refine bQ aq U U U (bQ (dy (aK (aE aq ao U)) (bq U kn)) U U U (bQ aq U U U (bQ aq U U U (bQ ao U U U (bQ ao U U U (bQ ao U U U (bQ kn U U U (bQ kn U U U (bQ ao U U U (bQ ao U U U (bQ kn U U U (bQ xh U U U (bQ ao U U U (Q7 (P':=h++[.inst 827 (zN nt (h.length+1) (h.length+2) (h.length+3) (h.length+4) (h.length+5) 0 I []),.dict [],.dict [],.dict [],.dict [],.list []]) (by kernel_rfl) ?_))))))))))))));refine aG (bz (aJ U (aB (aR aq (o3 W0 U U cx (aO e2))) (aC (aR aq (o3 W2 U U (aC ao) (aO e3))))) (nW U U U e4)) (ru aq W4.at' U (HU hr3))) ?_;rw[p5];refine aG (bz ao (ru aq W5.at' U (HU (.inr ⟨_,U⟩)))) ?_;rw[p6];exact bO (sq U (tq (aJ U (aC (bG aq W6.at' U)) (EG (Ig W6.made (Nat.le_trans (rR W6.nd W6.known) (by decide)) U))) ba) e7)
 ·have Kall:aD [h.length,h.length+3] (h++[.inst 827 (zN nt (h.length+1) (h.length+2) (h.length+3) (h.length+4) (h.length+5) 0 I []),.dict [],.dict [],.dict [],.dict [],.list []]) _:=(((K2.mono λ_ _ m=>by rw[List.mem_singleton.mp m];exact .head _).trans P3.keep).trans (KK.mono λ_ _ m=>by rw[List.mem_singleton.mp m];exact .head _)).trans (aD.app (t:=[AO.list (es3.map λp=>.str p.1)]))
  have K0:=aD.trans (aD.app (h:=h)) Kall;exact K0.mono λi hi m=>by
   rcases List.mem_cons.mp m with rfl|m
   ·lia
   ·have:=List.mem_singleton.mp m;lia
end
section
variable{L:Nat}{Z:List Int}{n:Nat}{h h' h0 h1:H}{i:Nat}
noncomputable abbrev TH(L:Nat)(sd g:Int)(sm:Bool)(v:J):List J:=[.sref L,.int sd,.int g,.bool sm,v,.unb]
theorem Hm{sd g c:Int}{sm:Bool}(h1:0<=g):∃sd' g' sm' h',AY (au L Z) (bI L Z n) ⟨TH L sd g sm (.int c),h,I⟩=.ok .nxt ⟨TH L sd' g' sm' (.int c),h',I⟩/\aD [] h h'/\0<=sd'/\sd'<2147483629/\0<=g':=by
 have e1:sAsg (eZ (au L Z) [(bd 1),(bd 3)]) (mTup [bp .Mod (bp .Add (bp .Add (bp .Mult (B 1) (D (.int 48271))) (bp .Mult (B 4) (D (.int 69621)))) (D (.int 41))) (D (.int 2147483629)),Ap (B 3) (aW (au L Z) .Eq (B 4) (D (.int 0)))]) ⟨TH L sd g sm (.int c),h,I⟩=.ok .nxt ⟨TH L ((sd*48271+c*69621+41).fmod 2147483629) g (sm&&aI (c=0)) (.int c),h++[.tup [.int ((sd*48271+c*69621+41).fmod 2147483629),.bool (sm&&aI (c=0))]],I⟩:=
  fm (aB (bj (bj (bj (bj aq ao (qy (mB U))) (bj aq ao (qy (mB U))) U) ao U) ao (tR (by decide))) (aC (LK aq (aE aq ao U)))) U U U (bZ (bv U) (dj (bv U)))
 have a1:=fy (sd*48271+c*69621+41) (show(0:Int)<2147483629 by decide);have a2:=gU (sd*48271+c*69621+41) (show(0:Int)<2147483629 by decide);have e2:∃p,∀ah:List J,ah[2]?=Y (.int g)->ah[4]?=Y (.int c)->∀P,(cQ (bJ (aW (au L Z) .Eq (B 2) (D (.int 0)))) (cQ (bJ (aW (au L Z) .GtE (aN (au L Z) (bI L Z n) (.bi "abs") [(B 4)] []) (bp .Pow (D (.int 10)) (D (.int 18))))) (M.ret S))) ⟨ah,P,I⟩=.ok p ⟨ah,P,I⟩:=
  ⟨_,λah s2 s4 P=>ew (aK (aE (bM s2 U) ao U)) (ew (aK (aE (aJ U (aC (bM s4 U)) (iF sA)) (bj ao ao (Dg U (by decide) (by decide))) U)) jk)⟩
 obtain⟨p,e2⟩:=e2;induction p with
 |true=>exact⟨_,_,_,_,aG e1 (bO (aY (e2 _ U U _) (bq U (bO (bz (aJ U (aC aq) (iF sA)) (bv U)))))),aD.app,a1,a2,d8 _⟩
 |false=>exact⟨_,_,_,_,aG e1 (bO (aY (e2 _ U U _) (aM U aZ))),aD.app,a1,a2,h1⟩
theorem yu{xs:List J}(hx:∀x∈xs,∃c:Int,x=.int c):∀(r:List J)(k fl:Nat)(h:H)(sd g:Int)(sm:Bool)(v:J),xs.drop k=r->r.length<fl->h[i]?=Y (.list xs)->0<=g->0<=sd->sd<2147483629->
  ∃sd' g' sm' v' h',dU (iW (bd 4) (AY (au L Z) (bI L Z n))) fl (.live i k) ⟨TH L sd g sm v,h,I⟩=.ok .nxt ⟨TH L sd' g' sm' v',h',I⟩/\aD [] h h'/\0<=sd'/\sd'<2147483629/\0<=g'
 |_,_,0,_,_,_,_,_,_,h,_,_,_,_=>absurd h (Nat.not_lt_zero _)
 |[],k,fl+1,h,sd,g,sm,v,e,_,hl,g0,s0,s1=>⟨sd,g,sm,v,h,az (az (CQ hl (List.getElem?_eq_none (List.drop_eq_nil_iff.mp e))) U) U,aD.refl,s0,s1,g0⟩
 |x::r,k,fl+1,h,sd,g,sm,v,e,hf,hl,g0,s0,s1=>by have ex:=(bD e).1;obtain⟨c,rfl⟩:=hx x (List.mem_of_getElem? ex);obtain⟨sd1,g1,sm1,h1,e1,K1,a1,a2,a3⟩:=Hm (L:=L) (Z:=Z) (n:=n) (h:=h) (sd:=sd) (g:=g) (c:=c) (sm:=sm) g0;obtain⟨sd2,g2,sm2,v2,h2,e2,K2,b1,b2,b3⟩:=yu hx r (k+1) fl h1 sd1 g1 sm1 (.int c) (bD e).2 (by rw[List.length_cons]at hf;exact bE [_,_] [(.a (.a (.v 0) (.l 1)) (.l 1),.a (.v 1) (.l 1))] 0 [1] (.a (.v 0) (.l 1)) (.v 1) U hf) (K1.get hl List.not_mem_nil) a3 a1 a2;exact⟨sd2,g2,sm2,v2,h2,az (a:=Y (It.live i (k+1),Fl.nxt)) (az (FL hl ex) (az (bv U) (az e1 U))) e2,K1.trans K2,b1,b2,b3⟩
theorem Qq(hL:d7 L (au L Z).slist=Y (Z.map .int))(hs:Z.length<=1000):J3 (λp=>bI L Z (n+1) I 838 [.sref L] [] h=.ok (.obj p.1) p.2) (λp=>im p.2 p.1 0) (λ(p:Nat×H)=>aD [] h p.2/\h.length<=p.1):=by obtain⟨sd,g,sm,v,h',e,K,b1,b2,b3⟩:=yu (L:=L) (Z:=Z) (n:=n) (i:=(h++[AO.tup [.int 47,.int 0,.bool S]]).length) (xs:=(Z.map J.int).take 24) (λx m=>by obtain⟨c,_,rfl⟩:=List.mem_map.mp (List.mem_of_mem_take m);exact⟨c,U⟩) _ 0 fg ((h++[AO.tup [.int 47,.int 0,.bool S]])++[.list ((Z.map J.int).take 24)]) 47 0 S .unb U (by simp only[List.drop_zero,List.length_take,iZ];exact Nat.lt_succ_of_le (leT (Nat.min_le_left _ _) U)) ba (by decide) (by decide) (by decide);refine⟨(h'.length,h'++[.list [.int g,.int sd,.int 0,.bool sm]]),?_,⟨g,sd,0,sm,ba,b3,b1,b2,Nat.le_refl _⟩,((aD.app.trans aD.app).trans K).trans aD.app,Nat.le_trans (by simp only[List.length_append,List.length_append];exact bE [_] [] 0 [] (.v 0) (.a (.a (.v 0) (.a (.l 0) (.l 1))) (.a (.l 0) (.l 1))) U) K.1⟩;apply bC TW (L0:=[.sref L,.unb,.unb,.unb,.unb,.unb]) rfl;exact aG (fm (aB ao (aB ao (aC ao))) U U U (bZ (bv U) (bZ (bv U) (dj (bv U))))) (aG (sq U (tq (Lf aq ao ao hL (gn (k:=24) (by simp only[List.length_map];exact leT hs U))) ba) e) (bF (bK (gj (aB aq (aB aq (aB ao (aC aq)))) U))))
end
section
variable{b a k:Nat}{g:Nat->Nat}{x y z p q r:List Nat}{s:Bool}{c:Nat}
def gu(c:Nat):Bool:=uz c||Nat.beq c 95
structure J5(g:Nat->Nat):Prop where
 f:∀d,d<36->cG (g d)=(d:Int)
 w:∀d,d<36->gu (g d)=S
 z:∀d,d<36->g d=48->d=0
def Nl(g:Nat->Nat)(d:Nat):Bool:=aI (cG (g d)=(d:Int))&&(gu (g d)&&(Nat.beq d 0||!Nat.beq (g d) 48))
theorem Jx(h:((List.range 36).all (Nl g))=S):J5 g:=by
 have t:∀d,d<36->cG (g d)=(d:Int)/\gu (g d)=S/\(g d=48->d=0):=λd hd=>by have:=List.all_eq_true.mp h d (List.mem_range.mpr hd);unfold Nl at this;rw[ax,ax]at this;refine⟨of_decide_eq_true this.1,this.2.1,λe=>?_⟩;have h2:=this.2.2;rw[e]at h2;induction z:Nat.beq d 0 with
  |true=>exact Nat.eq_of_beq_eq_true z
  |false=>rw[z]at h2;exact nT h2
 exact⟨λd h=>(t d h).1,λd h=>(t d h).2.1,λd h=>(t d h).2.2⟩
theorem C8:J5 jJ:=Jx (by kernel_rfl)
theorem OI:J5 (λd=>Ez (jJ d)):=Jx (by kernel_rfl)
theorem lK(G:J5 g)(hb:b<=36):∀(ds:List Nat)(f:Nat)(j:Bool),(∀d∈ds,d<b)->ij (b:Int) s (ds.map g++r) (f:Int) j=ij (b:Int) s r ((ds.foldl (λa d=>a*b+d) f:Nat):Int) (j||!ds.isEmpty)
 |[],f,j,_=>by simp only[List.map_nil,List.nil_append,List.foldl_nil];simp
 |d::ds,f,j,h=>by
  have hd:=h d (.head _);have e:((f:Int)*(b:Int)+(d:Int))=((f*b+d:Nat):Int):=by push_cast;rfl
  simp only[List.map_cons,List.cons_append,List.foldl_cons];show(bif aI (0<=cG (g d))&&aI (cG (g d)<(b:Int))then ij (b:Int) s (ds.map g++r) ((f:Int)*(b:Int)+cG (g d)) S else _)=_;rw[G.f d (by exact bE [_,_] [(.v 0,.l 36),(.a (.v 1) (.l 1),.v 0)] 0 [1,1] (.a (.v 1) (.l 1)) (.l 36) U hb hd),decide_eq_true (by exact z0 _),decide_eq_true (by exact vA hd),e];show ij (b:Int) s (ds.map g++r) ((f*b+d:Nat):Int) S=_;simp only[lK G hb ds _ S λx m=>h x (.tail _ m)];simp
theorem LS{f:Int}:ij (b:Int) s (95::r) f S=ij (b:Int) s r f I:=rfl
structure gv(b a:Nat)(x:List Nat):Prop where
 sc:∀(s:Bool)(r:List Nat),ij (b:Int) s (x++r) 0 I=ij (b:Int) s r (a:Int) S
 hd:∃c r,x=c::r/\(c=48->r=[])
 ok:x.all gu=S
 ln:x.length<=60
theorem mP(hb:2<=b)(ha:a<1000000):(digs b (a+1) a).length<=20:=yN (k:=19) hb (by
 have:2^20<=b^20:=Nat.pow_le_pow_left hb 20;show a<b^20;have:(2:Nat)^20=1048576:=by decide
 lia)
theorem u8(G:J5 g){ds:List Nat}(h:∀d∈ds,d<36):(ds.map g).all gu=S:=by rw[List.all_map];exact List.all_eq_true.mpr λd m=>G.w d (h d m)
theorem rD(G:J5 g)(hb:2<=b)(hb2:b<=36)(ha:a<1000000):gv b a ((digs b (a+1) a).map g):=by
 have lt:∀d∈digs b (a+1) a,d<b:=oy hb;obtain⟨d,r,e,hz⟩:=oD hb (Nat.lt_succ_self a);refine⟨λs r'=>?_,?_,u8 G λd m=>Nat.lt_of_lt_of_le (lt d m) hb2,by rw[List.length_map];exact Nat.le_trans (mP hb ha) (by decide)⟩
 ·have:=lK (s:=s) (r:=r') G hb2 _ 0 I lt
  rw[show(digs b (a+1) a).foldl (λa d=>a*b+d) 0=a from qH hb (Nat.lt_succ_self a)]at this;rw[show(0:Int)=((0:Nat):Int)from U,this,e];rfl
 ·refine⟨g d,r.map g,by rw[e];rfl,λh=>?_⟩
  rw[(hz (G.z d (Nat.lt_of_lt_of_le (lt d (by rw[e];exact .head _)) hb2) h)).1];rfl
theorem MK(G:J5 g)(hb:2<=b)(hb2:b<=36)(ha:a<1000000)(h0:0<k)(hk:k<(digs b (a+1) a).length):gv b a (((digs b (a+1) a).take k).map g++95::((digs b (a+1) a).drop k).map g):=by
 have lt:∀d∈digs b (a+1) a,d<b:=oy hb;have lt1:∀d∈(digs b (a+1) a).take k,d<b:=λd m=>lt d (List.mem_of_mem_take m);have lt2:∀d∈(digs b (a+1) a).drop k,d<b:=λd m=>lt d (List.mem_of_mem_drop m);have ls:=mP hb ha;obtain⟨d,r,e,hz⟩:=oD hb (Nat.lt_succ_self a);have n1:(digs b (a+1) a).take k≠[]:=λq=>by have:=congrArg List.length q;rw[List.length_take,List.length_nil]at this;exact absurd ((Nat.min_eq_left (Nat.le_of_lt hk)).symm.trans this) (Nat.ne_of_gt h0)
 have n2:(digs b (a+1) a).drop k≠[]:=λq=>by have:=congrArg List.length q;rw[List.length_drop,List.length_nil]at this;exact Nat.sub_ne_zero_of_lt hk this
 have i1:((digs b (a+1) a).take k).isEmpty=I:=by induction q:(digs b (a+1) a).take k with|nil=>exact absurd q n1|cons _ _=>rfl
 have i2:((digs b (a+1) a).drop k).isEmpty=I:=by induction q:(digs b (a+1) a).drop k with|nil=>exact absurd q n2|cons _ _=>rfl
 refine⟨λs r'=>?_,?_,?_,?_⟩
 ·simp only[List.append_assoc,List.cons_append,show(0:Int)=((0:Nat):Int)from U,lK G hb2 _ 0 I lt1,i1]
  show ij (b:Int) s (95::_) _ S=_;rw[LS,lK G hb2 _ _ I lt2,i2,<-List.foldl_append,List.take_append_drop,show(digs b (a+1) a).foldl (λa d=>a*b+d) 0=a from qH hb (Nat.lt_succ_self a)];rfl
 ·obtain⟨k',rfl⟩:∃k',k=k'+1:=⟨k-1,by exact Xi h0⟩
  refine⟨g d,(r.take k').map g++95::((digs b (a+1) a).drop (k'+1)).map g,by simp only[e];rfl,λh=>?_⟩;have:=(hz (G.z d (Nat.lt_of_lt_of_le (lt d (by simp only[e];exact .head _)) hb2) h)).1;rw[e,this]at hk;exact absurd hk (by show¬k'+1<1;exact Nat.not_lt_of_le (Nat.le_add_left 1 _))
 ·simp only[List.all_append,List.all_cons,u8 G λd m=>Nat.lt_of_lt_of_le (lt1 d m) hb2,u8 G λd m=>Nat.lt_of_lt_of_le (lt2 d m) hb2];rfl
 ·simp only[List.length_append,List.length_cons,List.length_map,List.length_map,List.length_take,List.length_drop];exact leT (ZI hk ls) rfl
theorem mG{E:List Nat}:∀{p:List Nat},(∀c∈p,isBlank E c=S)->c::z=y->isBlank E c=I->ez E (p++y)=y
 |[],_,e,h=>by subst e;show(bif isBlank E c then _ else c::z)=_;simp only[h];rfl
 |d::p,hp,e,h=>by show(bif isBlank E d then ez E (p++y)else _)=_;simp only[hp d (.head _),cond_true];exact mG (λc m=>hp c (.tail _ m)) e h
theorem Ee{E:List Nat}{c':Nat}{r':List Nat}(hp:∀c∈p,isBlank E c=S)(hq:∀c∈q,isBlank E c=S)(e:z=c::r)(hc:isBlank E c=I)(e':z.reverse=c'::r')(hc':isBlank E c'=I):mM E (p++(z++q))=z:=by unfold mM;simp only[mG (y:=z++q) (z:=r++q) (c:=c) hp (by rw[e];rfl) hc,List.reverse_append,mG (y:=z.reverse) (z:=r') (c:=c') (λc m=>hq c (List.mem_reverse.mp m)) e'.symm hc',List.reverse_reverse]
end
section
variable{b a k:Nat}{g:Nat->Nat}{x y z p q r u w sg fr:List Nat}{s:Bool}{c d:Nat}{base sz f:Int}
theorem nO{k:Nat}{P:Nat->Bool}(hc:P c=S)(hk:P k=I):Nat.beq c k=I:=by induction e:Nat.beq c k with
 |false=>rfl
 |true=>rw[Nat.eq_of_beq_eq_true e,hk]at hc;exact nT hc
theorem CX{k:Nat}{P:Nat->Bool}(hc:P c=S)(hk:P k=I):Nat.beq k c=I:=by induction e:Nat.beq k c with
 |false=>rfl
 |true=>rw[<-Nat.eq_of_beq_eq_true e,hk]at hc;exact nT hc
theorem jV(hc:gu c=S):isBlank jE c=I:=by show(Nat.beq c 32||(Nat.beq c 9||(Nat.beq c 10||(Nat.beq c 11||(Nat.beq c 12||(Nat.beq c 13||(Nat.beq c 0||false)))))))=I;simp only[nO hc (k:=32) U,nO hc (k:=9) U,nO hc (k:=10) U,nO hc (k:=11) U,nO hc (k:=12) U,nO hc (k:=13) U,nO hc (k:=0) rfl];rfl
theorem i6(h:x.all gu=S):bV x=S:=List.all_eq_true.mpr λc m=>by have:=List.all_eq_true.mp h c m;unfold gu uz gM at this;induction e:Nat.blt c 128 with
 |true=>rfl
 |false=>
  have hc:128<=c:=by
   have:¬c<128:=λq=>by replace e:=(show Nat.blt c 128=S from Nat.ble_eq_true_of_le q)▸e;exact nF e
   exact(Xg this)
  replace this:=(show Nat.beq c 95=I by induction t:Nat.beq c 95 with|false=>rfl|true=>exact absurd (Nat.eq_of_beq_eq_true t) (by exact Nat.ne_of_gt (bE [_] [(.l 128,.v 0)] 3 [3] (.l 96) (.v 0) U hc)))▸(show Nat.ble c 122=I by induction t:Nat.ble c 122 with|false=>rfl|true=>exact absurd (Nat.le_of_ble_eq_true t) (by lia))▸(show Nat.ble c 90=I by induction t:Nat.ble c 90 with|false=>rfl|true=>exact absurd (Nat.le_of_ble_eq_true t) (by lia))▸(show Nat.ble c 57=I by induction t:Nat.ble c 57 with|false=>rfl|true=>exact absurd (Nat.le_of_ble_eq_true t) (by lia))▸this;simp at this
abbrev gR(sg:List Nat):Prop:=sg=[]\/sg=[45]\/sg=[43]
theorem ro(hu:gu c=S)(hs:gR sg):fj (sg++c::r)=c::r/\eqL ((sg++c::r).take 1) [45]=eqL sg [45]:=by
 rcases hs with rfl|rfl|rfl
 ·constructor
  ·show(bif(bif(Nat.beq 43 c&&S)then S else bif(Nat.beq 45 c&&S)then S else I)then _ else c::r)=_
   rw[CX hu (k:=43) U,CX hu (k:=45) rfl];rfl
  ·show(Nat.beq c 45&&S)=I
   rw[nO hu (k:=45) rfl];rfl
 ·exact⟨U,U⟩
 ·exact⟨U,U⟩
theorem Vl(h:mI c=48):c=48:=by unfold mI at h;induction e:Nat.ble 65 c&&Nat.ble c 90 with
 |false=>rw[e]at h;exact h
 |true=>rw[e,cond_true]at h;rw[ax]at e;have:=Nat.le_of_ble_eq_true e.1;lia
def NP(r:List Nat):Prop:=∀d r',r=d::r'->cG d≠33/\cG d≠11/\cG d≠24
theorem gP{own:Int}(hk:k=120\/k=98\/k=111)(h:c=48->NP r):di base [48,k] own (sz,c::r)=(sz,c::r):=by
 have e:eqL ((((c::r):List Nat).take 2).map mI) [48,k]=I:=by induction r using List.casesOn with
  |nil=>show(Nat.beq (mI c) 48&&I)=I;exact ku _
  |cons d r=>show(Nat.beq (mI c) 48&&(Nat.beq (mI d) k&&S))=I;induction e1:Nat.beq (mI c) 48 with
   |false=>rfl
   |true=>have n:=h (Vl (Nat.eq_of_beq_eq_true e1)) d r rfl;induction e2:Nat.beq (mI d) k with
    |false=>rfl
    |true=>
     have e3:cG d=ip k Au 0:=by unfold cG;exact(Nat.eq_of_beq_eq_true e2)▸rfl
     rcases hk with rfl|rfl|rfl
     ·exact absurd e3 n.1
     ·exact absurd e3 n.2.1
     ·exact absurd e3 n.2.2
 show(bif eqL ((((c::r):List Nat).take 2).map mI) [48,k]&&_ then _ else(sz,c::r))=_;rw[e];rfl
inductive dJ:Nat->List Nat->Prop where
 |no (b:Nat):dJ b []
 |x:dJ 16 [48,120]
 |b:dJ 2 [48,98]
 |o:dJ 8 [48,111]
theorem pR(F:dJ b fr)(hc:gu c=S):∃c' r',fr++c::r=c'::r'/\gu c'=S:=by induction F with
 |no=>exact⟨c,r,U,hc⟩
 |x=>exact⟨48,_,U,U⟩
 |b=>exact⟨48,_,U,U⟩
 |o=>exact⟨48,_,U,U⟩
theorem Cu(hw:gu c=S)(F:dJ b fr)(hs:gR sg):o0 base (sg++(fr++c::r))=di base [48,111] 8 (di base [48,98] 2 (di base [48,120] 16 (base,fr++c::r))):=by obtain⟨c',r',e,hc'⟩:=pR (r:=r) F hw;unfold o0;rw[e,(ro hc' hs).1]
theorem LR(hw:gu c=S)(hn:c=48->NP r)(F:dJ b fr)(hs:gR sg):o0 (b:Int) (sg++(fr++c::r))=((b:Int),c::r):=by rw[Cu hw F hs];induction F with
 |no=>rw[List.nil_append,gP (.inl U) hn,gP (.inr (.inl U)) hn,gP (.inr (.inr U)) hn]
 |x=>show di _ [48,111] 8 (di _ [48,98] 2 (16,c::r))=_;rw[gP (.inr (.inl U)) hn,gP (.inr (.inr U)) hn];rfl
 |b=>show di _ [48,111] 8 (2,c::r)=_;rw[gP (.inr (.inr U)) hn];rfl
 |o=>rfl
theorem HI(hw:gu c=S)(hn:c=48->NP r)(F:dJ b fr)(hs:gR sg)(hf:fr≠[]):o0 0 (sg++(fr++c::r))=((b:Int),c::r):=by rw[Cu hw F hs];induction F with
 |no=>exact absurd U hf
 |x=>show di _ [48,111] 8 (di _ [48,98] 2 (16,c::r))=_;rw[gP (.inr (.inl U)) hn,gP (.inr (.inr U)) hn];rfl
 |b=>show di _ [48,111] 8 (2,c::r)=_;rw[gP (.inr (.inr U)) hn];rfl
 |o=>rfl
abbrev dq(q:List Nat):Prop:=q=[]\/q=[32]\/q=[9]\/q=[10]
theorem I4(hq:dq q):NP q:=λd r' e=>by rcases hq with rfl|rfl|rfl|rfl<;>cases e<;>exact⟨by decide,by decide,by decide⟩
theorem pM(hq:dq q):∀c∈q,isBlank jE c=S:=by
 rcases hq with rfl|rfl|rfl|rfl<;>intro c m
 ·exact(List.not_mem_nil m).elim
 all_goals(rw[List.mem_singleton.mp m];rfl)
theorem I5{v:Int}(hq:dq q)(hs:s=S->q=[]):ij sz s q v S=Y (v,S):=by induction s with
 |true=>refine(hs U)▸?_;rfl
 |false=>rcases hq with rfl|rfl|rfl|rfl<;>rfl
theorem Cr(h:b≠0){x:List Nat}:jj ((b:Int),x)=(b:Int):=by unfold jj;rw[decide_eq_false (by exact Ri (b:=0) h)];rfl
def kG(sg:List Nat)(a:Nat):Int:=bif eqL sg [45]then-(a:Int)else(a:Int)
theorem tS(hp:dq p)(hq:dq q){z:List Nat}{c c':Nat}{r r':List Nat}(e:z=c::r)(hc:isBlank jE c=I)(e':z.reverse=c'::r')(hc':isBlank jE c'=I):lZ s (p++(z++q))=z++(bif s then[]else q):=by induction s with
 |true=>show mM jE _=z++[];rw[Ee (pM hp) (pM hq) e hc e' hc',List.append_nil]
 |false=>exact mG (pM hp) (by rw[e];rfl) hc
theorem gv.last(R:gv b a x){y:List Nat}:∃c' r',(y++x).reverse=c'::r'/\gu c'=S:=by obtain⟨c,r,e,_⟩:=R.hd;induction h:x.reverse with
 |nil=>rw[List.reverse_eq_nil_iff]at h;replace e:=h▸e;cases e
 |cons c' r'=>exact⟨c',r'++y.reverse,by refine List.reverse_append▸h▸?_;rfl,List.all_eq_true.mp R.ok c' (List.mem_reverse.mp (by refine h▸?_;exact .head _))⟩
theorem gv.first(R:gv b a x):∃c r,x=c::r/\(c=48->r=[])/\gu c=S:=by obtain⟨c,r,e,h⟩:=R.hd;exact⟨c,r,e,h,List.all_eq_true.mp R.ok c (by refine e▸?_;exact .head _)⟩
theorem EJ(hs:gR sg){c:Nat}{r:List Nat}(hc:gu c=S):∃c' r',sg++c::r=c'::r'/\isBlank jE c'=I:=by
 rcases hs with rfl|rfl|rfl
 ·exact⟨c,r,U,jV hc⟩
 ·exact⟨45,_,U,U⟩
 ·exact⟨43,_,U,U⟩
theorem xW(R:gv b a x)(F:dJ b fr)(hs:gR sg)(hp:dq p)(hq:dq q)(hQ:∀r,dq r->(s=S->r=[])->jj (o0 base (sg++(fr++(x++r))))=(b:Int)/\(o0 base (sg++(fr++(x++r)))).2=x++r):fN (p++((sg++(fr++x))++q)) base s=.int (kG sg a):=by
 obtain⟨c,r,e,h0,hw⟩:=R.first;obtain⟨c1,r1,e1,hw1⟩:=pR (r:=r) F hw;obtain⟨c2,r2,e2,n2⟩:=EJ (r:=r1) hs hw1;obtain⟨c3,r3,e3,hw3⟩:=R.last (y:=sg++fr);unfold fN;rw[tS (s:=s) hp hq (z:=sg++(fr++x)) (c:=c2) (r:=r2) (c':=c3) (r':=r3) (by rw[e,e1,e2]) n2 (by rw[<-List.append_assoc];exact e3) (jV hw3),List.append_assoc,List.append_assoc];have hb:dq (bif s then[]else q):=by induction s;exact hq;exact .inl rfl
 have hb2:s=S->(bif s then[]else q)=[]:=λh=>by refine h▸?_;rfl
 generalize (bif s then[]else q)=q' at hb hb2
 rw[(hQ q' hb hb2).1,(hQ q' hb hb2).2,R.sc,I5 hb hb2];obtain⟨c4,r4,e4,hw4⟩:=pR (b:=b) (fr:=fr) (r:=r++q') F hw;refine e▸List.cons_append▸e4▸((ro hw4 hs).2)▸?_;unfold yX kG;induction s<;>cases eqL sg [45]<;>rfl
theorem NP.of(R:gv b a x)(hq:dq q):∃c r,x++q=c::r/\gu c=S/\(c=48->NP r):=by obtain⟨c,r,e,h0,hw⟩:=R.first;exact⟨c,r++q,by refine e▸?_;rfl,hw,λh=>by refine(h0 h)▸?_;exact I4 hq⟩
theorem Fu(R:gv b a x)(F:dJ b fr)(hs:gR sg)(hp:dq p)(hq:dq q)(hb:b≠0):fN (p++((sg++(fr++x))++q)) (b:Int) s=.int (kG sg a):=xW R F hs hp hq λr hr _=>by obtain⟨c,r',e,hw,hn⟩:=NP.of R hr;exact e▸(LR hw hn F hs)▸⟨Cr hb,U⟩
theorem wg(R:gv b a x)(F:dJ b fr)(hs:gR sg)(hp:dq p)(hq:dq q)(hb:b≠0)(hf:fr≠[]):fN (p++((sg++(fr++x))++q)) 0 s=.int (kG sg a):=xW R F hs hp hq λr hr _=>by obtain⟨c,r',e,hw,hn⟩:=NP.of R hr;exact e▸(HI hw hn F hs hf)▸⟨Cr hb,U⟩
theorem zQ(R:gv 10 a x)(hs:gR sg)(hp:dq p):fN (p++((sg++([]++x))++[])) 0 S=.int (kG sg a):=by
 obtain⟨c,r,e,h0,hw⟩:=R.first;exact xW (base:=0) (s:=S) (fr:=[]) (q:=[]) R (.no 10) hs hp (.inl U) λq hq h1=>by
  rw[h1 U,List.append_nil,e];have hn:c=48->NP r:=λh d r' e'=>by replace e':=(h0 h)▸e';cases e'
  have e1:o0 0 (sg++([]++(c::r)))=(0,c::r):=by rw[Cu hw (.no 10) hs,List.nil_append,gP (.inl U) hn,gP (.inr (.inl U)) hn,gP (.inr (.inr U)) hn]
  refine e1▸?_;refine⟨?_,U⟩;show(bif(Nat.beq c 48&&S)&&aI (((c::r).length:Int)>1)then(8:Int)else 10)=10;induction t:Nat.beq c 48 with
  |false=>rfl
  |true=>refine(h0 (Nat.eq_of_beq_eq_true t))▸?_;rfl
theorem zP(G:J5 g)(g0:g 0=48)(ha:a<1000000):fN (48::(digs 8 (a+1) a).map g) 0 S=.int (a:Int):=by
 have R:=rD (a:=a) G (by decide) (by decide:8<=36) ha;have lt:∀d∈digs 8 (a+1) a,d<8:=oy (by decide);obtain⟨c3,r3,e3,hw3⟩:=R.last (y:=[48]);obtain⟨d,ds,ed,_⟩:=oD (b:=8) (by decide) (Nat.lt_succ_self a);have hn:NP ((digs 8 (a+1) a).map g):=λc r' e=>by rw[ed]at e;cases e;have:=lt d (by exact ed▸.head _);exact(G.f d (by exact leT this U))▸⟨by exact Ri (b:=33) (Nat.ne_of_lt (leT this U)),by exact Ri (b:=11) (Nat.ne_of_lt (leT this U)),by exact Ri (b:=24) (Nat.ne_of_lt (leT this U))⟩
 unfold fN;have e1:=tS (s:=S) (p:=[]) (q:=[]) (.inl U) (.inl U) (z:=48::(digs 8 (a+1) a).map g) (c:=48) U U e3 (jV hw3);rw[List.nil_append,List.append_nil,cond_true,List.append_nil]at e1;rw[e1];have e2:=Cu (sg:=[]) (b:=8) (fr:=[]) (base:=0) (r:=(digs 8 (a+1) a).map g) (show gu 48=S from U) (.no 8) (.inl U);rw[List.nil_append,List.nil_append,gP (.inl U) λ_=>hn,gP (.inr (.inl U)) λ_=>hn,gP (.inr (.inr U)) λ_=>hn]at e2;rw[e2];have e4:jj (0,48::(digs 8 (a+1) a).map g)=((8:Nat):Int):=by rw[ed];show(bif aI (((48::g d::ds.map g).length:Int)>1)then(8:Int)else 10)=8;rw[decide_eq_true (by rw[List.length_cons,List.length_cons];exact vA (a:=1) (Nat.le_add_left 2 _))];rfl
 rw[e4];have e5:=lK (s:=S) (r:=[]) G (by decide:8<=36) (0::digs 8 (a+1) a) 0 I (λd m=>by
  rcases List.mem_cons.mp m with rfl|m
  ·decide
  ·exact lt d m)
 rw[List.map_cons,g0,List.append_nil,List.foldl_cons,show(digs 8 (a+1) a).foldl (λa d=>a*8+d) (0*8+0)=a from qH (by decide) (Nat.lt_succ_self a)]at e5;rw[show ij ((8:Nat):Int) S ((0:Int),48::(digs 8 (a+1) a).map g).2 0 I=_ from e5];rfl
end
section
noncomputable def fronts:List (List Nat×Nat):=[([],10),([48,120],16),([48,98],2),([48,111],8)]
def jL(k:Int)(front:List Nat)(base:Nat):List Nat:=((bif aI (k<0)then[32,45]else[])++front)++cY base k.natAbs
theorem HJ{p:List Nat×Nat}(hp:p∈fronts):dJ p.2 p.1/\(p.1=[]->p.2=10)/\2<=p.2/\p.2<=36:=by
 rcases List.mem_cons.mp hp with e0|hp
 ·exact e0▸⟨.no 10,λ_=>rfl,by decide,by decide⟩
 rcases List.mem_cons.mp hp with e0|hp
 ·exact e0▸⟨.x,(λh=>by cases h),by decide,by decide⟩
 rcases List.mem_cons.mp hp with e0|hp
 ·exact e0▸⟨.b,(λh=>by cases h),by decide,by decide⟩
 ·exact(List.mem_singleton.mp hp)▸⟨.o,(λh=>by cases h),by decide,by decide⟩
theorem Hh{k:Int}{fr:List Nat}{b:Nat}(hp:(fr,b)∈fronts)(hk:k.natAbs<1000000):fN (jL k fr b) 0 S=.int k/\bV (jL k fr b)=S/\(jL k fr b).length<=1000:=by
 obtain⟨F,f0,b1,b2⟩:dJ b fr/\(fr=[]->b=10)/\2<=b/\b<=36:=HJ hp;have R:gv b k.natAbs (cY b k.natAbs):=rD C8 b1 b2 hk;have fo:bV fr=S/\fr.length<=2:=by induction F<;>exact⟨U,Nat.le_of_ble_eq_true U⟩
 have go:∀(q sg:List Nat),dq q->gR sg->fN (q++((sg++(fr++cY b k.natAbs))++[])) 0 S=.int (kG sg k.natAbs):=λq sg hq hs=>by
  by_cases z:fr=[]
  ·have e:=f0 z
   subst z e;exact zQ R hs hq
  ·exact wg R F hs hq (.inl U) (by exact Nat.ne_of_gt (Nat.lt_of_lt_of_le Nat.two_pos b1)) z
 refine⟨?_,?_,?_⟩
 ·unfold jL
  induction z:aI (k<0)with
  |true=>have:=go [32] [45] (.inr (.inl U)) (.inr (.inl U));rw[List.append_nil]at this;simp only[show((bif S then[32,45]else[])++fr)++cY b k.natAbs=[32]++([45]++(fr++cY b k.natAbs)) by simp only[cond_true,List.append_assoc];rfl,this,show kG [45] k.natAbs=-(k.natAbs:Int)from rfl];exact congrArg J.int (by have:=of_decide_eq_true z;exact ZS (of_decide_eq_true z))
  |false=>have:=go [] [] (.inl U) (.inl U);rw[List.append_nil,List.nil_append,List.nil_append]at this;simp only[cond_false,List.nil_append,this,show kG [] k.natAbs=(k.natAbs:Int)from rfl];exact congrArg J.int (by have:=of_decide_eq_false z;exact ZP this)
 ·refine List.all_eq_true.mpr λc m=>?_
  have ra:=List.all_eq_true.mp (i6 R.ok);rcases List.mem_append.mp m with m|m
  ·rcases List.mem_append.mp m with m|m
   ·induction z:aI (k<0)with
    |true=>replace m:=z▸m;exact List.all_eq_true.mp (show bV [32,45]=S from U) c m
    |false=>replace m:=z▸m;cases m
   ·exact List.all_eq_true.mp fo.1 c m
  ·exact ra c m
 ·have lr:(cY b k.natAbs).length<=60:=R.ln
  have:(bif aI (k<0)then[32,45]else([]:List Nat)).length<=2:=by cases aI (k<0)<;>decide
  unfold jL;simp only[List.length_append,List.length_append];lia
end
section
variable{L:Nat}{Z:List Int}{n:Nat}{h h' h0 h1:H}{w mo b N q:Nat}{v l3 l4:J}{k:Int}
theorem Qe{d:Int}(h0:0<=d)(h1:d<601){p:List Nat×Nat}(hp:p∈fronts):fN (jL (d-300) p.1 p.2) 0 S=.int (d-300)/\bV (jL (d-300) p.1 p.2)=S/\(jL (d-300) p.1 p.2).length<=1000:=Hh hp (by exact leT (Nat.succ_le_succ (ZD h0 h1)) U)
inductive N3(L:Nat)(Z:List Int)(k b w mo N:Nat)(m:Nat)(h:H):Prop where
 |mk (d:Nat) (hd:d<m) (h':H) (e:bI L Z k I 845 [.obj b,.int (m:Int)] [] h=.ok (.int (d:Int)) h') (W:Wo h' w mo) (ag:im h' b (N+1)) (K:aD [b,w,mo] h h'):N3 L Z k b w mo N m h
theorem mA{m:Nat}(W:Wo h w mo)(ag:im h b N)(hN:N<100000)(hm:0<m)(hm2:m<1073741824):N3 L Z (n+1) b w mo N m h:=by obtain⟨d,h',e,d0,d1,B1,K1⟩:=CE (L:=L) (Z:=Z) (n:=n) (hd:=I) (m:=(m:Int)) ag hN (by exact vA (a:=0) hm) (by exact vA (b:=1073741824) hm2);exact⟨d.toNat,by exact Xu hm d1,h',by rw[eT d0];exact e,ag.wo W K1,B1,K1.bb⟩
theorem im.up{N':Nat}(ag:im h b N)(hN:N<=N'):im h b N':=let⟨g,s,c,sm,a,r1,r2,r3,r4⟩:=ag;⟨g,s,c,sm,a,r1,r2,r3,Nat.le_trans r4 hN⟩
theorem im.app{t:H}(ag:im h b N):im (h++t) b N:=let⟨g,s,c,sm,a,r1,r2,r3,r4⟩:=ag;⟨g,s,c,sm,bH a,r1,r2,r3,r4⟩
inductive JU(L:Nat)(Z:List Int)(k b w mo N:Nat)(e:M J)(os A:List J)(h h1:H):Prop where
 |mk (d:Nat) (v:J) (hd:os[d]?=Y v) (h':H) (e':e ⟨A,h,I⟩=.ok v ⟨A,h',I⟩) (W:Wo h' w mo) (ag:im h' b (N+1)) (K:aD [b,w,mo] h1 h'):JU L Z k b w mo N e os A h h1
theorem zd{es:List (M J)}{os A:List J}{m:Nat}(e:db es ⟨A,h,I⟩=.ok os ⟨A,h1,I⟩)(W:Wo h1 w mo)(ag:im h1 b N)(hN:N<99999)(hA:A[0]?=Y (.obj b))(hl:os.length=m)(hm:0<m)(hm2:m<=1000):
  JU L Z (n+1) b w mo N (eB (au L Z) (dm es) (aN (au L Z) (bI L Z (n+1)) (.sref 845) [B 0,D (.int (m:Int))] [])) os A h h1:=by
 obtain⟨d,hd,h',e2,W2,B2,K2⟩:=mA (L:=L) (Z:=Z) (n:=n) (m:=m) (W.app (t:=[.list os])) (ag.app (t:=[.list os])) (by exact leT hN U) hm (by exact bE [_] [(.v 0,.l 1000)] 0 [1] (.a (.v 0) (.l 1)) (.l 1073741824) U hm2);have ev:os[d]?=Y os[d]:=List.getElem?_eq_getElem (by exact bE [_,_,_] [(.v 1,.v 0),(.a (.v 2) (.l 1),.v 1)] 0 [1,1] (.a (.v 2) (.l 1)) (.v 0) U (IA hl) hd);have lb:=ag.lt;have lw:=W.lt;have a2:h'[h1.length]?=Y (.list os):=K2.get ba (EF (by exact Nat.ne_of_gt (lb)) (by exact Nat.ne_of_gt (lw.1)) (by exact Nat.ne_of_gt (lw.2)));exact⟨d,_,ev,h',gJ (gj e (Nat.ble_eq_true_of_le (by lia))) (aJ U (aB (bM hA U) (aC ao)) (b5 U (aO e2))) a2 (mE ev (by exact bE [_,_] [(.v 0,.l 1000),(.a (.v 1) (.l 1),.v 0)] 0 [1,1] (.a (.v 1) (.l 1)) (.l 4611686018427387904) U hm2 hd)),W2,B2,aD.app.trans K2⟩
inductive Xe(es:List (M J))(rows:List (List J))(A:List J)(h:H):Prop where
 |mk (os:List J) (h':H) (e:db es ⟨A,h,I⟩=.ok os ⟨A,h',I⟩) (K:∀X,aD X h h') (l:os.length=rows.length) (g:∀(d:Nat)(v:J),os[d]?=Y v->vD (λp:Nat×List J=>v=.obj p.1/\rows[d]?=Y p.2) (λp:Nat×List J=>h'[p.1]?=Y (.tup p.2)/\h.length<=p.1)):Xe es rows A h
theorem Li{A:List J}:Xe [] [] A h:=⟨[],h,cx,λ_=>aD.refl,U,λd v e=>by exact nS e⟩
theorem qp{A vs:List J}{es fs:List (M J)}{rows:List (List J)}(e:∀s,db fs s=.ok vs s)(hl:Nat.ble vs.length 1000=S)(T:Xe es rows A (h++[.tup vs])):Xe (mTup fs::es) (vs::rows) A h:=by obtain⟨os,h',e2,K,l,g⟩:=T;refine⟨.obj h.length::os,h',aB (gm (e _) hl) e2,λX=>aD.app.trans (K X),by simp only[List.length_cons,List.length_cons,l],λd v ev=>?_⟩;induction d with
 |zero=>obtain rfl:=sI ev;exact⟨(h.length,vs),⟨U,U⟩,(K []).get ba List.not_mem_nil,Nat.le_refl _⟩
 |succ d=>obtain⟨p,e3,e4,e5⟩:=g d v ev;exact⟨p,e3,e4,Nat.le_trans (by simp only[List.length_append];exact bE [_] [] 0 [] (.v 0) (.a (.v 0) (.a (.l 0) (.l 1))) U) e5⟩
theorem Lu{a c:J}:∀s,db [D a,D c] s=.ok [a,c] s:=λ_=>rfl
noncomputable abbrev vS(b w q:Nat)(l3 l4 l5:J):List J:=[.obj b,.obj w,.str [q],l3,l4,l5,.unb,.unb,.unb,.unb,.unb]
abbrev Fq(L:Nat)(Z:List Int)(k b w q mo N:Nat)(h:H)(P:H->J->J->Prop):Prop:=
 TI (λi h'=>bI L Z k I 871 [.obj b,.obj w,.str [q]] [] h=.ok (.obj i) h') (λi h'=>Tj (λv a=>h'[i]?=Y (.tup [v,a])) (λv a=>P h' v a)) (λ_ h'=>Wo h' w mo) (λ_ h'=>im h' b N) (λi h'=>aD [b,w,mo] h h')
inductive W7(h:H)(v a:J):Prop where
 |mk (k:Int) (e:a=.int k) (V:Nm h v k) (l:k.natAbs<=300):W7 h v a
theorem wV{q:Nat}(hk:q∈kinds):∀s,p7 (au L Z) .In (.str [q]) (.str [100,105,117,120,88,111,98,66]) s=.ok (.bool S) s:=
 fG (P:=λq=>∀s,p7 (au L Z) .In (.str [q]) (.str [100,105,117,120,88,111,98,66]) s=.ok (.bool S) s) (λ_=>rfl) (λ_=>rfl) (λ_=>rfl) (λ_=>rfl) (λ_=>rfl) (λ_=>rfl) (λ_=>rfl) (λ_=>rfl) q hk
theorem dY.app{i:Nat}{x:List Nat}{t:H}(A:dY h i x):dY (h++t) i x:=let⟨fs,a,b⟩:=A;⟨fs,bH a,b⟩
theorem Ev{d:Nat}(hd:d<4):∃p∈fronts,fronts[d]?=Y p/\2<=p.2/\p.2<=36/\p.1.length<=2:=by
 have key:∀d:Fin 4,∃p∈fronts,fronts[d.1]?=Y p/\2<=p.2/\p.2<=36/\p.1.length<=2:=λd=>by
  rcases d with⟨_|_|_|_|d,h⟩
  ·exact⟨_,.head _,U,by decide,by decide,by decide⟩
  ·exact⟨_,.tail _ (.head _),U,by decide,by decide,by decide⟩
  ·exact⟨_,.tail _ (.tail _ (.head _)),U,by decide,by decide,by decide⟩
  ·exact⟨_,.tail _ (.tail _ (.tail _ (.head _))),U,by decide,by decide,by decide⟩
  ·lia
 exact key ⟨d,hd⟩
theorem DW(hk:q∈kinds)(W:Wo h w mo)(ag:im h b N)(hN:N<99000):Fq L Z (n+8) b w q mo (N+3) h W7:=by obtain⟨d,hd,h1,e1,W1,B1,K1⟩:=mA (L:=L) (Z:=Z) (n:=n+6) (m:=601) W ag (by exact leT hN U) (by decide) (by decide);obtain⟨d2,hd2,h2,e2,W2,B2,K2⟩:=mA (L:=L) (Z:=Z) (n:=n+6) (m:=4) W1 B1 (by exact bE [_] [(.a (.v 0) (.l 1),.l 99000)] 0 [1] (.a (.a (.v 0) (.l 1)) (.l 1)) (.l 100000) U hN) (by decide) (by decide);induction z:aI ((d2:Int)>0)with
 |true=>refine⟨h2.length,h2++[.tup [.int ((d:Int)-300),.int ((d:Int)-300)]],?_,⟨_,_,ba,⟨_,U,.int _,by exact Pl d 300 300 (Nat.le_of_lt_succ hd) (Nat.le_add_left _ _)⟩⟩,W2.app,B2.app.up (by exact bE [_] [] 0 [] (.a (.a (.v 0) (.l 1)) (.l 1)) (.a (.v 0) (.l 3)) U),(K1.trans K2).trans aD.app⟩;apply bC yT (L0:=vS b w q .unb .unb .unb) rfl;exact bF (aY (aK (aE aq ao (wV hk _))) (bq U (aG (bz (bj (aJ U (aB aq (aC ao)) (b5 U (aO e1))) ao U) (bv U)) (bF (aY (aK (aE (aJ U (aB aq (aC ao)) (b5 U (aO e2))) ao U)) (bq z (bF (bK (gm (aB aq (aC aq)) U)))))))))
 |false=>
  obtain⟨os,h3,e3,K3,l3',g3⟩:=qp (h:=h2) (A:=vS b w q (.int ((d:Int)-300)) .unb .unb) (Lu (a:=.str []) (c:=.int 10)) U (qp (Lu (a:=.str [48,120]) (c:=.int 16)) U (qp (Lu (a:=.str [48,98]) (c:=.int 2)) U (qp (Lu (a:=.str [48,111]) (c:=.int 8)) U Li)));obtain⟨d4,v4,hd4,h4,e4,W4,B4,K4⟩:=zd (L:=L) (Z:=Z) (n:=n+6) (m:=4) e3 (W2.keep (K3 []) λ_ _ _ _=>List.not_mem_nil) (B2.keep W2 (K3 _)) (by exact bE [_] [(.a (.v 0) (.l 1),.l 99000)] 0 [1] (.a (.a (.a (.v 0) (.l 1)) (.l 1)) (.l 1)) (.l 99999) U hN) U l3' (by decide) (by decide);obtain⟨⟨i,row⟩,⟨rfl,hr⟩,hi,hlt⟩:=g3 d4 v4 hd4;have lb:=B2.lt;have lw:=W2.lt;have hi4:h4[i]?=Y (.tup row):=K4.get hi (EF (by have:h2.length<=i:=hlt;exact Nat.ne_of_gt (bE [_,_,_] [(.v 0,.v 1),(.a (.v 2) (.l 1),.v 0)] 0 [1,1] (.a (.v 2) (.l 1)) (.v 1) U hlt lb)) (by have:h2.length<=i:=hlt;exact Nat.ne_of_gt (bE [_,_,_] [(.v 0,.v 1),(.a (.v 2) (.l 1),.v 0)] 0 [1,1] (.a (.v 2) (.l 1)) (.v 1) U hlt lw.1)) (by have:h2.length<=i:=hlt;exact Nat.ne_of_gt (bE [_,_,_] [(.v 0,.v 1),(.a (.v 2) (.l 1),.v 0)] 0 [1,1] (.a (.v 2) (.l 1)) (.v 1) U hlt lw.2)));obtain⟨p,hp,hp2,b2,b36,fl⟩:=Ev (d:=d4) (by have:=(List.getElem?_eq_some_iff.mp hr).1;exact this);have hrow:row=[.str p.1,.int (p.2:Int)]:=by
   have:∀d:Fin 4,([[.str [],.int 10],[.str [48,120],.int 16],[.str [48,98],.int 2],[.str [48,111],.int 8]]:List (List J))[d.1]?=(fronts[d.1]?).map λp=>[.str p.1,.int (p.2:Int)]:=λd=>by rcases d with⟨_|_|_|_|d,h⟩<;>first|rfl|lia
   have:=(this ⟨d4,(List.getElem?_eq_some_iff.mp hr).1⟩).symm.trans hr;rw[hp2]at this;obtain rfl:=sI this;rfl
  subst hrow;obtain⟨r1,r2,r3⟩:=Qe (d:=(d:Int)) (by exact z0 _) (by exact vA (b:=601) hd) hp;obtain⟨h5,e5,K5⟩:=kr (L:=L) (Z:=Z) (n:=n+6) (h:=h4) (b:=p.2) (m:=((d:Int)-300).natAbs) b2 b36 (by exact leT (Pl d 300 300 (Nat.le_of_lt_succ hd) (Nat.le_add_left _ _)) U);have W5:Wo h5 w mo:=W4.keep (K5 []) λ_ _ _ _=>List.not_mem_nil;obtain⟨t,h6,e6,T6,W6,K6,_⟩:=oG (L:=L) (Z:=Z) (n:=n) (x:=jL ((d:Int)-300) p.1 p.2) W5;have lsg:(bif aI ((d:Int)-300<0)then[32,45]else([]:List Nat)).length<=2:=by cases aI ((d:Int)-300<0)<;>decide
  have lfg:((bif aI ((d:Int)-300<0)then[32,45]else([]:List Nat))++p.1).length+(cY p.2 ((d:Int)-300).natAbs).length<=1000:=by rw[<-List.length_append];exact r3
  have esg:∀(ah:List J)(P:H),ah[3]?=Y (.int ((d:Int)-300))->fB (bJ (aW (au L Z) .Lt (B 3) (D (.int 0)))) (D (.str [32,45])) (D (.str [])) ⟨ah,P,I⟩=.ok (.str (bif aI ((d:Int)-300<0)then[32,45]else[])) ⟨ah,P,I⟩:=λah P hS=>by refine dy (aK (aE (bM hS U) ao U)) ?_;cases aI ((d:Int)-300<0)<;>exact ao
  refine⟨h6.length,h6++[.tup [.obj t,.int ((d:Int)-300)]],?_,⟨_,_,ba,⟨_,U,.text t _ _ T6.app r2 r3 r1,by exact Pl d 300 300 (Nat.le_of_lt_succ hd) (Nat.le_add_left _ _)⟩⟩,W6.app,(((B4.keep W4 (K5 _)).keep W5 K6)).app.up (by exact bE [_] [] 0 [] (.a (.a (.a (.v 0) (.l 1)) (.l 1)) (.l 1)) (.a (.v 0) (.l 3)) U),(((((K1.trans K2).trans (K3 _)).trans K4).trans (K5 _)).trans K6.tob).trans aD.app⟩;apply bC yT (L0:=vS b w q .unb .unb .unb) rfl;exact bF (aY (aK (aE aq ao (wV hk _))) (bq U (aG (bz (bj (aJ U (aB aq (aC ao)) (b5 U (aO e1))) ao U) (bv U)) (aG (aY (aK (aE (aJ U (aB aq (aC ao)) (b5 U (aO e2))) ao U)) (aM z aZ))
   (aG (bz e4 (qv U hi4 U (bZ (bv U) (dj (bv U))))) (bF (bK (gm (aB (aR aq (o3 W4.ok U U (aC (bj (bj (esg _ _ U) aq (cE (by exact bE [_,_] [(.v 0,.l 2),(.v 1,.l 2)] 0 [1,1] (.a (.v 1) (.v 0)) (.l 16777216) U fl lsg))) (aJ U (aB (aJ U (aC aq) (iF sA)) (aC aq)) (b5 U (aO e5))) (cE (by exact leT lfg U)))) (aO e6))) (aC aq)) U))))))))
end
section
variable{L:Nat}{Z:List Int}{n:Nat}{h h' h0 h1:H}{w mo b N q k:Nat}{v X l2:J}{d s:List Nat}{es:List (M J)}{e:M J}
inductive YY(h:H)(v a:J):Prop where
 |mk (c:Nat) (e:a=.str [c]) (V:Sg h v c):YY h v a
theorem Om{a c:AO}:(h++[a]).length≠((h++[a])++[c]).length:=by simp only[List.length_append,List.length_cons,List.length_nil];exact Nat.ne_of_lt (bE [_] [] 0 [] (.a (.a (.v 0) (.a (.l 0) (.l 1))) (.l 1)) (.a (.a (.v 0) (.a (.l 0) (.l 1))) (.a (.l 0) (.l 1))) U)
theorem Ls{a:AO}:(h++[a]).length≠h.length:=by simp only[List.length_append,List.length_cons,List.length_nil];exact Nat.ne_of_gt (bE [_] [] 0 [] (.a (.v 0) (.l 1)) (.a (.v 0) (.a (.l 0) (.l 1))) U)
noncomputable abbrev cH(h2:H)(d2:Nat):H:=(((h2++[AO.list [.int (d2:Int)]])++[AO.list []])++[AO.tup [.int (97+(d2:Int)),.str [97+d2]]]).set (h2++[AO.list [.int (d2:Int)]]).length (AO.list [.obj ((h2++[AO.list [.int (d2:Int)]])++[AO.list []]).length])
theorem Km(W:Wo h w mo)(ag:im h b N)(hN:N<99000):Fq L Z (n+8) b w 99 mo (N+2) h YY:=by obtain⟨d,hd,h1,e1,W1,B1,K1⟩:=mA (L:=L) (Z:=Z) (n:=n+6) (m:=2) W ag (by exact leT hN U) (by decide) (by decide);have s1:eS (bJ (aW (au L Z) .In (B 2) (D (.str [100,105,117,120,88,111,98,66])))) (aH (zG (au L Z) (bI L Z (n+7)))) (aH []) ⟨vS b w 99 .unb .unb .unb,h,I⟩=.ok .nxt ⟨vS b w 99 .unb .unb .unb,h,I⟩:=aY (aK (aE aq ao U)) (aM U aZ);induction z:aI ((d:Int)=0)with
 |true=>
  obtain⟨d2,hd2,h2,e2,W2,B2,K2⟩:=mA (L:=L) (Z:=Z) (n:=n+6) (m:=26) W1 B1 (by exact bE [_] [(.a (.v 0) (.l 1),.l 99000)] 0 [1] (.a (.a (.v 0) (.l 1)) (.l 1)) (.l 100000) U hN) (by decide) (by decide);have lb:=B2.lt;have lw:=W2.lt;have W5:Wo (cH h2 d2) w mo:=W2.app.app.app.set (bH ba) rfl;have at5:(cH h2 d2)[((h2++[AO.list [.int (d2:Int)]])++[AO.list []]).length]?=Y (.tup [.int (97+(d2:Int)),.str [97+d2]]):=iq Om ba;have K25:aD [b,w,mo] h2 (cH h2 d2):=(aD.app.trans (aD.app.trans aD.app)).setNew (by simp only[List.length_append];exact bE [_] [] 0 [] (.v 0) (.a (.v 0) (.a (.l 0) (.l 1))) U);have B5:im (cH h2 d2) b (N+1+1):=by obtain⟨g,s,c,sm,a,r1,r2,r3,r4⟩:=B2;exact⟨g,s,c,sm,iq (by simp only[List.length_append];exact Nat.ne_of_gt (bE [_,_] [(.a (.v 0) (.l 1),.v 1)] 0 [1] (.a (.v 0) (.l 1)) (.a (.v 1) (.a (.l 0) (.l 1))) U lb)) (bH (bH (bH a))),r1,r2,r3,r4⟩
  refine⟨_,_,?_,⟨_,_,at5,97+d2,U,.int (97+d2) (by exact bE [_] [(.a (.v 0) (.l 1),.l 26)] 0 [1] (.a (.a (.l 97) (.v 0)) (.l 1)) (.l 128) U hd2)⟩,W5,B5,(K1.trans K2).trans K25⟩;apply bC yT (L0:=vS b w 99 .unb .unb .unb) rfl;exact aG s1 (bF (aY (aK (aE aq ao cU)) (bq U (bF (bK (dy (aK (aE (aJ U (aB aq (aC ao)) (b5 U (aO e1))) ao U)) (bq z (gJ (oj U (tq (gj (aC (aJ U (aB aq (aC ao)) (b5 U (aO e2)))) U) ba) (by show 10<11;decide)
   (um (fl:=999999999) (oB (FL (bH ba) U) (by show 10<11;decide) U U (gm (aB (bj ao aq U) (aC (aJ U (aC (bj ao aq U)) (iF (Nh (w:=97+(d2:Int)) (by rw[decide_eq_true (by exact z0 (97+d2)),decide_eq_true (by exact vA (a:=97+d2) (b:=128) (leT (Nat.add_le_add_left hd2 97) U))];rfl)))))) U) (bH ba) (by decide)) (qW (fl:=999999998) (lO (CQ (iq Ls (bH (bH ba))) U))))) ao (dP (bH ba)) U))))))))
 |false=>obtain⟨t,h6,e6,T6,W6,K6,_⟩:=oG (L:=L) (Z:=Z) (n:=n) (x:=[122,101,100]) W1;refine⟨h6.length,h6++[.tup [.obj t,.str [122]]],?_,⟨_,_,ba,122,U,.text t 122 [101,100] T6.app (by decide)⟩,W6.app,(B1.keep W1 K6).app.up (by exact bE [_] [] 0 [] (.a (.v 0) (.l 1)) (.a (.v 0) (.l 2)) U),(K1.trans K6.tob).trans aD.app⟩;apply bC yT (L0:=vS b w 99 .unb .unb .unb) rfl;exact aG s1 (bF (aY (aK (aE aq ao cU)) (bq U (bF (bK (dy (aK (aE (aJ U (aB aq (aC ao)) (b5 U (aO e1))) ao U)) (aM z (gm (aB (aR aq (o3 W1.ok U U (aC ao) (aO e6))) (aC ao)) U))))))))
end
section
variable{L:Nat}{Z:List Int}{n:Nat}{h h' h0 h1:H}{w mo b N q k i:Nat}{v X l2:J}{d s:List Nat}{es:List (M J)}{e:M J}
inductive Ca(b:Nat)(h:H)(v:J):Prop where
 |mk (i:Nat) (x:J) (d s:List Nat) (e:v=.obj i) (a:h[i]?=Y (.tup [x,.str d,.str s])) (V:V6 b h x d s) (ld:d.length<=1000) (ls:s.length<=1000):Ca b h v
theorem Ca.kp:KP (Ca b) w mo:=λ_ _ _ g W K=>let⟨i,x,d,s,e,a,V,ld,ls⟩:=g;⟨i,x,d,s,e,K.get a (W.nin a U),V.ext (s9.of K W.off),ld,ls⟩
theorem xy{x:J}(V:V6 b h x d s)(ld:d.length<=1000)(ls:s.length<=1000):Ca b (h++[.tup [x,.str d,.str s]]) (.obj h.length):=
 ⟨_,x,d,s,U,ba,V.ext (s9.of (aD.app (X:=[])) tv.all),ld,ls⟩
theorem tz{x:J}(he:∀s,e s=.ok x s)(V:∀h,V6 b h x d s)(ld:d.length<=1000)(ls:s.length<=1000):D0 (Ca b) (mTup [e,D (.str d),D (.str s)]) b w mo:=λA h hA W _=>⟨_,_,gm (aB (he _) (aB ao (aC ao))) U,xy (V h) ld ls,W.app,aD.app⟩
theorem HR:D0 (Ca b) (mTup [bk (au L Z) (bI L Z (n+7)) (B 1) 7 (am "text") [D (.str [97,98,32,99])],D (.str [97,98,32,99]),D (.str [34,97,98,32,99,34])]) b w mo:=λA h hA W _=>by obtain⟨i,h1,e1,T1,W1,K1,_⟩:=oG (L:=L) (Z:=Z) (n:=n) (x:=[97,98,32,99]) W;exact⟨_,_,gm (aB (aR (bM hA U) (o3 W.ok U U (aC ao) (aO e1))) (aB ao (aC ao))) U,xy (.text i _ T1 U (by decide)) (by decide) (by decide),W1.app,K1.trans aD.app⟩
theorem Ib:D0 (Ca b) (mTup [bk (au L Z) (bI L Z (n+7)) (B 1) 71 (am "list_of") [dm [D (.int 1),bk (au L Z) (bI L Z (n+7)) (B 1) 7 (am "text") [D (.str [113])]]],D (.str [91,49,44,32,34,113,34,93]),D (.str [91,49,44,32,34,113,34,93])]) b w mo:=λA h hA W F=>by obtain⟨t,h1,e1,T1,W1,K1,_⟩:=oG (L:=L) (Z:=Z) (n:=n) (x:=[113]) W;obtain⟨i,h2,e2,⟨fs,j,a,c,g⟩,W2,K2,_⟩:=MU (L:=L) (Z:=Z) (n:=n) (W1.app (t:=[.list [.int 1,.obj t]])) ba (Nat.le_of_ble_eq_true U);have F2:=F.keep W ((K1.trans aD.app).trans K2);have T2:=(T1.app (t:=[.list [.int 1,.obj t]])).ext (s9.of (b:=b) K2 W1.app.off);exact⟨_,_,gm (aB (aR (bM hA U) (o3 W.ok U U (aC (gj (aB ao (aC (aR (bM hA U) (o3 W.ok U U (aC ao) (aO e1))))) U)) (aO e2))) (aB ao (aC ao))) U,xy (.list i j t fs a c g T2 (F2.ne g λq=>by cases q)) (by decide) (by decide),W2.app,((K1.trans aD.app).trans K2).trans aD.app⟩
inductive Ze(q b:Nat)(h:H)(v a:J):Prop where
 |mk (d s:List Nat) (e:a=.str (bif Nat.beq q 115 then d else s)) (V:V6 b h v d s) (ld:d.length<=1000) (ls:s.length<=1000):Ze q b h v a
theorem rj.off(F:rj h b):tv b h [b]:=by obtain⟨vs,a,_⟩:=F;exact⟨λi C fs e q m=>(by rw[List.mem_singleton.mp m]at e;have:=e.symm.trans a;cases this),λi xs e q m=>q (List.mem_singleton.mp m)⟩
theorem ZF:V6 b h (.int (-12)) [45,49,50] [45,49,50]:=by
 have e:sU (-12)=[45,49,50]:=by decide
 have:=V6.int (b:=b) (h:=h) (-12) rfl
 rwa[e]at this
theorem CT(hq:q=115\/q=112)(W:Wo h w mo)(ag:im h b N)(hN:N<99000):Fq L Z (n+8) b w q mo (N+1) h (Ze q b):=by
 obtain⟨j1,h1,e1,R1,K1⟩:=wP (A:=vS b w q .unb .unb .unb) (l:=6) (b:=b) Ca.kp U U W ag.four (cK Ca.kp (HR (L:=L) (Z:=Z) (n:=n)) (cK Ca.kp (tz (e:=rh (D (.int 12))) (λ_=>rfl) (λ_=>ZF) (by decide) (by decide)) (cK Ca.kp (tz (e:=D _) (λ_=>ao) (λ_=>.sym) (by decide) (by decide)) (cK Ca.kp (tz (e:=D _) (λ_=>ao) (λ_=>.nil) (by decide) (by decide)) lR)))) (by decide);obtain⟨j2,h2,e2,⟨W2,vs,a2,l2,g2⟩,K2⟩:=qt (A:=(vS b w q .unb .unb .unb).set 6 (.obj j1)) (l:=6) (b:=b) Ca.kp U U U R1 (ag.four.keep W K1) (cK Ca.kp (tz (e:=D _) (λ_=>ao) (λ_=>.tru) (by decide) (by decide)) (cK Ca.kp (Ib (L:=L) (Z:=Z) (n:=n)) lR)) (by decide) (by decide);have K02:=K1.trans K2;have B2:=ag.keep W K02;have F2:=B2.four;obtain⟨d,hd,h3,e3,W3,B3,K3⟩:=mA (L:=L) (Z:=Z) (n:=n+6) (m:=6) W2 B2 (by exact leT hN U) (by decide) (by decide);have hd1:d<vs.length:=by refine l2▸?_;exact hd
 have ev:vs[d]?=Y vs[d]:=List.getElem?_eq_getElem hd1;obtain⟨i,x,p,s,ei,ai,V,ld,ls⟩:=g2 _ (List.getElem_mem hd1);have nb:=F2.ne a2 (by refine l2▸?_;decide);have nw:=qs (W2.nin a2 U);have a3:h3[j2]?=Y (.list vs):=K3.get a2 (EF nb nw.1 nw.2);have nw2:=qs (W2.nin ai U);have ai3:h3[i]?=Y (.tup [x,.str p,.str s]):=by obtain⟨us,c,_⟩:=F2;exact K3.get ai (EF (ff ai c U) nw2.1 nw2.2)
 have O3:tv b h2 [b,w,mo]:=⟨λi C fs e q m=>by
  rcases List.mem_cons.mp m with rfl|m
  ·exact F2.off.th _ _ _ e q (.head _)
  ·exact W2.off (b:=b)|>.th _ _ _ e q m,λi xs e q m=>by
  rcases List.mem_cons.mp m with rfl|m
  ·exact q rfl
  ·exact W2.off (b:=b)|>.li _ _ e q m⟩
 have V3:V6 b h3 x p s:=V.keep K3 O3;refine⟨h3.length,h3++[.tup [x,.str (bif Nat.beq q 115 then p else s)]],?_,⟨_,_,ba,p,s,U,V3.ext (s9.of (aD.app (X:=[])) tv.all),ld,ls⟩,W3.app,B3.app,((K02.tob).trans K3).trans aD.app⟩;have t1:∀s,p7 (au L Z) .In (.str [q]) (.str [100,105,117,120,88,111,98,66]) s=.ok (.bool I) s:=by rcases hq with rfl|rfl<;>exact λ_=>rfl
 have t2:∀s,p7 (au L Z) .Eq (.str [q]) (.str [99]) s=.ok (.bool I) s:=by rcases hq with rfl|rfl<;>exact λ_=>rfl
 have ix:FF vs (d:Int)=Y (.obj i):=(mE ev (by exact leT hd U)).trans (congrArg Y ei);have ee:∀(ah:List J)(P:H),ah[2]?=Y (.str [q])->ah[8]?=Y (.str p)->ah[9]?=Y (.str s)->fB (bJ (aW (au L Z) .Eq (B 2) (D (.str [115])))) (B 8) (B 9) ⟨ah,P,I⟩=.ok (.str (bif Nat.beq q 115 then p else s)) ⟨ah,P,I⟩:=λah P a b c=>by
  refine dy (aK (aE (bM a U) ao cU)) ?_;cases Nat.beq q 115
  ·exact bM c rfl
  ·exact bM b rfl
 apply bC yT (L0:=vS b w q .unb .unb .unb) rfl;exact aG (aY (aK (aE aq ao (t1 _))) (aM U aZ)) (aG (aY (aK (aE aq ao (t2 _))) (aM U aZ)) (aG e1 (aG e2
  (aG (bz (gJ aq (aJ U (aB aq (aC ao)) (b5 U (aO e3))) a3 ix) (qv U ai3 U (bZ (bv U) (bZ (bv U) (dj (bv U))))))
   (bF (bK (gm (aB (bM U V3.nou) (aC (ee _ _ U U U))) U)))))))
end
section
variable{L:Nat}{Z:List Int}{n:Nat}{h h' h0 h1:H}{w mo b N q k i c:Nat}{v X l2 l9 l10 l11 l12 l13:J}{d s fs wt mt:List Nat}{es:List (M J)}{e:M J}
theorem im.any{ae:List Nat}(ag:im h b N)(K:aD ae h h')(hb:b∉ae):im h' b N:=let⟨g,s,c,sm,a,r1,r2,r3,r4⟩:=ag;⟨g,s,c,sm,K.get a hb,r1,r2,r3,r4⟩
noncomputable abbrev LG(b w:Nat)(l2 l3 l4 l5 l6 l7 l8 l9 l10 l11 l12 l13:J):List J:=[.obj b,.obj w,l2,l3,l4,l5,l6,l7,l8,l9,l10,l11,l12,l13]
abbrev Mf(b w:Nat)(l:J):List J:=LG b w .unb .unb .unb .unb .unb .unb .unb .unb .unb .unb .unb l
inductive Zj(x:lJ St J)(b w mo N i:Nat)(h:H)(r acc:List Nat):Prop where
 |mk (l:J) (fs:List Nat) (h':H) (e:x=.ok .none ⟨Mf b w l,h',I⟩) (a:h'[i]?=Y (.list ((acc++fs).map λc=>.str [c]))) (W:Wo h' w mo) (ag:im h' b N) (K:aD [i,b,w,mo] h h') (m:∀c∈fs,c∈r) (ll:fs.length<=r.length):Zj x b w mo N i h r acc
abbrev ZC(L:Nat)(Z:List Int)(n i fl:Nat)(r:List Nat)(A:List J)(h:H):lJ St J:=kW (kO (B 13) 13 (bJ (aW (au L Z) .Eq (aN (au L Z) (bI L Z (n+8)) (.sref 845) [B 0,D (.int 3)] []) (D (.int 0)))) i) fl (.vals (r.map λc=>.str [c])) ⟨A,h,I⟩
theorem uP:∀(r acc:List Nat)(fl N:Nat)(l:J)(h:H),r.length<fl->Wo h w mo->im h b N->N+r.length<100000->h[i]?=Y (.list (acc.map λc=>.str [c]))->acc.length+r.length<=1000->i≠b->Zj (ZC L Z n i fl r (Mf b w l) h) b w mo (N+r.length) i h r acc
 |_,_,0,_,_,_,hf,_,_,_,_,_,_=>absurd hf (Nat.not_lt_zero _)
 |[],acc,fl+1,N,l,h,_,W,ag,_,a,_,_=>⟨l,[],h,qW (lO AK),by simp only[List.append_nil];exact a,W,ag,aD.refl,λ_ m=>(List.not_mem_nil m).elim,Nat.le_refl _⟩
 |c::r,acc,fl+1,N,l,h,hf,W,ag,hN,a,hl,ib=>by rw[List.length_cons]at hf hN hl;obtain⟨d,hd,h1,e1,W1,B1,K1⟩:=mA (L:=L) (Z:=Z) (n:=n+7) (m:=3) W ag (by exact bE [_,_] [(.a (.a (.v 0) (.a (.v 1) (.l 1))) (.l 1),.l 100000)] 0 [1] (.a (.v 0) (.l 1)) (.l 100000) U hN) (by decide) (by decide);have nw:=qs (W.nin a U);have a1:=K1.get a (EF ib nw.1 nw.2);have K1':aD [i,b,w,mo] h h1:=K1.mono λ_ _ m=>.tail _ m;induction z:aI ((d:Int)=0)with
  |true=>
   obtain⟨l2,fs,h2,e2,a2,W2,B2,K2,m2,l2'⟩:=uP r (acc++[c]) fl (N+1) (.str [c]) (h1.set i (.list ((acc.map λc=>.str [c])++[.str [c]]))) (by exact bE [_,_] [(.a (.a (.v 0) (.l 1)) (.l 1),.a (.v 1) (.l 1))] 0 [1] (.a (.v 0) (.l 1)) (.v 1) U hf) (W1.set a1 U) (B1.any (aD.set (.head _)) (hY (jP ib))) (by lia) (by simp only[dP a1,List.map_append];rfl) (by simp only[List.length_append];show _+1+_<=_;lia) ib;refine⟨l2,c::fs,h2,um (oB kL (by show 13<14;decide) (aK (aE (aJ U (aB aq (aC ao)) (b5 U (aO e1))) ao U)) z aq a1 (by simp only[List.length_map];exact bE [_,_] [(.a (.v 0) (.a (.v 1) (.l 1)),.l 1000)] 0 [1] (.a (.v 0) (.l 1)) (.l 16777216) U hl)) e2,by rw[List.append_assoc]at a2;exact a2,W2,B2.up (by simp only[List.length_cons];exact bE [_,_] [] 0 [] (.a (.a (.v 0) (.l 1)) (.v 1)) (.a (.v 0) (.a (.v 1) (.l 1))) U),(K1'.trans (aD.set (.head _))).trans K2,λx m=>?_,by simp only[List.length_cons,List.length_cons];exact bE [_,_] [(.v 0,.v 1)] 0 [1] (.a (.v 0) (.l 1)) (.a (.v 1) (.l 1)) U l2'⟩;rcases List.mem_cons.mp m with e0|m
   ·exact e0▸.head _
   ·exact .tail _ (m2 x m)
  |false=>obtain⟨l2,fs,h2,e2,a2,W2,B2,K2,m2,l2'⟩:=uP r acc fl (N+1) (.str [c]) h1 (by exact bE [_,_] [(.a (.a (.v 0) (.l 1)) (.l 1),.a (.v 1) (.l 1))] 0 [1] (.a (.v 0) (.l 1)) (.v 1) U hf) W1 B1 (by lia) a1 (by exact bE [_,_] [(.a (.v 0) (.a (.v 1) (.l 1)),.l 1000)] 0 [1] (.a (.v 0) (.v 1)) (.l 1000) U hl) ib;exact⟨l2,fs,h2,um (Kf kL (by show 13<14;decide) (aK (aE (aJ U (aB aq (aC ao)) (b5 U (aO e1))) ao U)) z) e2,a2,W2,B2.up (by simp only[List.length_cons];exact bE [_,_] [] 0 [] (.a (.a (.v 0) (.l 1)) (.v 1)) (.a (.v 0) (.a (.v 1) (.l 1))) U),K1'.trans K2,λx m=>.tail _ (m2 x m),by simp only[List.length_cons];exact bE [_,_] [(.v 0,.v 1)] 0 [1] (.v 0) (.a (.v 1) (.l 1)) U l2'⟩
theorem aD.new1{ae:List Nat}(K0:aD ae h0 h)(K:aD (i::ae) h h')(hi:h0.length<=i):aD ae h0 h':=
 ⟨Nat.le_trans K0.1 K.1,λj hj hn=>(K.2 j (Nat.lt_of_lt_of_le hj K0.1) λm=>by
  rcases List.mem_cons.mp m with rfl|m
  ·exact nf (bE [_,_] [(.a (.v 0) (.l 1),.v 1),(.v 1,.v 0)] 0 [1,1] (.l 1) (.l 0) U hj hi)
  ·exact hn m).trans (K0.2 j hj hn)⟩
theorem ri:∀{fs:List Nat},(fs.map λc=>[c]).flatten=fs
 |[]=>rfl
 |c::r=>by simp only[List.map_cons,List.flatten_cons,ri];rfl
abbrev N8(c:Nat):Prop:=c∈kinds\/c=115\/c=112\/c=99\/c=37
theorem Ft:∀c∈[100,105,117,120,88,111,98,66,115,112,99,37],N8 c:=by decide
abbrev BF(b w:Nat)(fs:List Nat)(c i:Nat)(wt:List Nat)(W:Int)(l7 l8 l9 l10 l11 l12 l13:J):List J:=LG b w (.str fs) (.str [c]) (.obj i) (.str wt) (.int W) l7 l8 l9 l10 l11 l12 l13
structure vJ(h0 h:H)(b w mo N i:Nat)(f:List J):Prop where
 wo:Wo h w mo
 bx:im h b N
 kp:aD [b,w,mo] h0 h
 li:h[i]?=Y (.list f)
 ge:h0.length<=i
abbrev xt(x:lJ St Fl)(ms:List (M Fl))(A:List J)(h':H):Prop:=x=aH ms ⟨A,h',I⟩
inductive Y6(x:lJ St Fl)(ms:List (M Fl))(h0:H)(b w mo N:Nat):Prop where
 |mk (fs:List Nat) (c i:Nat) (l13:J) (h':H) (e:xt x ms (BF b w fs c i [] 0 .unb .unb .unb .unb .unb .unb l13) h') (ha:fs.all ji=S) (hl:fs.length<=5) (hc:N8 c) (P:vJ h0 h' b w mo N i []):Y6 x ms h0 b w mo N
theorem P6(W:Wo h w mo)(ag:im h b N)(hN:N<99000):Y6 (Mg (au L Z) (bI L Z (n+8)) ⟨Mf b w .unb,h,I⟩) (xB (au L Z) (bI L Z (n+8))) h b w mo (N+6):=by
 have lb:=ag.lt;obtain⟨l,fs,h1,e1,a1,W1,B1,K1,m1,l1⟩:=uP (L:=L) (Z:=Z) (n:=n) (i:=h.length) [45,43,32,48,35] [] fg N .unb (h++[.list []]) (by simp only[iZ];show 5<_;exact bE [] [] 0 [] (.l 6) (.a (.l 999999999) (.l 1)) U) W.app ag.app (by show N+5<_;exact bE [_] [(.a (.v 0) (.l 1),.l 99000)] 0 [1] (.a (.a (.v 0) (.l 5)) (.l 1)) (.l 100000) U hN) ba (by decide) (by exact Nat.ne_of_gt (lb));have K01:aD [b,w,mo] h h1:=aD.new1 aD.app K1 (Nat.le_refl _);obtain⟨d,hd,h2,e2,W2,B2,K2⟩:=mA (L:=L) (Z:=Z) (n:=n+7) (m:=12) W1 B1 (by show N+5<_;exact bE [_] [(.a (.v 0) (.l 1),.l 99000)] 0 [1] (.a (.a (.v 0) (.l 5)) (.l 1)) (.l 100000) U hN) (by decide) (by decide);have l1:fs.length<=5:=l1;have ev:([100,105,117,120,88,111,98,66,115,112,99,37]:List Nat)[d]?=Y ([100,105,117,120,88,111,98,66,115,112,99,37]:List Nat)[d]:=List.getElem?_eq_getElem hd;have ej:(bk (au L Z) (bI L Z (n+8)) (D (.str [])) 24 (am "join") [(kN (B 13) 13 (iX (au L Z) (D (.str [45,43,32,48,35]))) (Y (bJ (aW (au L Z) .Eq (aN (au L Z) (bI L Z (n+8)) (.sref 845) [(B 0),(D (.int 3))] []) (D (.int 0))))))]) ⟨Mf b w .unb,h,I⟩=.ok (.str (fX [] (fs.map λc=>[c]))) ⟨Mf b w l,h1,I⟩:=
  aR ao (DL (nm:=am "join") (w:=[]) U (aC (oj (A1:=Mf b w .unb) U (yc ao) (by show 13<14;decide) e1)) (qe (ws:=fs.map λc=>[c]) (by decide) a1 (by simp only[List.nil_append,show(fs.map λc=>J.str [c])=(fs.map λc=>[c]).map .str by simp only[List.map_map];rfl];exact t7) (by simp only[lL,ri];show fs.length+0<=_;exact leT l1 U)))
 rw[lL,ri]at ej;refine⟨fs,_,h2.length,l,(h2++[.list []])++[.tup [.obj h2.length,.str [],.int 0]],?_,List.all_eq_true.mpr λc m=>List.any_eq_true.mpr ⟨c,m1 c m,Nat.beq_refl c⟩,l1,Ft _ (List.getElem_mem hd),⟨W2.app.app,B2.app.app,((K01.trans K2).trans aD.app).trans aD.app,bH ba,Nat.le_trans K01.1 K2.1⟩⟩;exact aG (bz ej (bv U)) (aG (bz (oH ao (aJ U (aB aq (aC ao)) (b5 U (aO e2))) (mE ev (by exact leT hd U))) (bv U)) (aG (fm (aB (gj cx U) (aB ao (aC ao))) U U U (bZ (bv U) (bZ (bv U) (dj (bv U))))) U))
end
section
variable{L:Nat}{Z:List Int}{n:Nat}{h h' h0 h1:H}{w mo b N q k i c:Nat}{v X l2 l7 l8 l9 l10 l11 l12 l13:J}{d s fs wt mt:List Nat}{es:List (M J)}{e:M J}{f f1 f2:List J}{W:Int}
theorem yI{d:Nat}(hd:d<10):sU (d:Int)=[48+d]:=by
 have t:((List.range 10).all λd=>eqL (sU (d:Int)) [48+d])=S:=by kernel_rfl
 exact xv (List.all_eq_true.mp t d (List.mem_range.mpr hd))
theorem vJ.app{t:H}(P:vJ h0 h b w mo N i f):vJ h0 (h++t) b w mo N i f:=⟨P.wo.app,P.bx.app,P.kp.trans aD.app,bH P.li,P.ge⟩
theorem vJ.nin(P:vJ h0 h b w mo N i f)(hb:b<h0.length):i∉[b,w,mo]:=let q:=qs (P.wo.nin P.li U);EF (by have:=P.ge;exact Nat.ne_of_gt (bE [_,_,_] [(.a (.v 0) (.l 1),.v 1),(.v 1,.v 2)] 0 [1,1] (.a (.v 0) (.l 1)) (.v 2) U hb this)) q.1 q.2
theorem vJ.go(P:vJ h0 h b w mo N i f)(hb:b<h0.length)(W:Wo h' w mo)(ag:im h' b k)(K:aD [b,w,mo] h h'):vJ h0 h' b w mo k i f:=⟨W,ag,P.kp.trans K,K.get P.li (P.nin hb),P.ge⟩
theorem vJ.re{N':Nat}(P:vJ h0 h b w mo N i f)(hi:h[k]?=Y (.list f1))(hk:h0.length<=k)(hN:N<=N'):vJ h0 h b w mo N' k f1:=⟨P.wo,P.bx.up hN,P.kp,hi,hk⟩
theorem vJ.up{N':Nat}(P:vJ h0 h b w mo N i f)(hN:N<=N'):vJ h0 h b w mo N' i f:=P.re P.li P.ge hN
inductive YX(x:lJ St Fl)(ms:List (M Fl))(h0:H)(b w mo N:Nat)(fs:List Nat)(c:Nat)(l7 l8 l9 l10 l11 l12 l13:J):Prop where
 |mk (i:Nat) (wt:List Nat) (f:List J) (W:Int) (h':H) (e:xt x ms (BF b w fs c i wt W l7 l8 l9 l10 l11 l12 l13) h') (WI:fP wt f W) (hW:W.natAbs<=9) (P:vJ h0 h' b w mo N i f) (l1:f.length<=1):YX x ms h0 b w mo N fs c l7 l8 l9 l10 l11 l12 l13
theorem Tn(P:vJ h0 h b w mo N i [])(hb:b<h0.length)(hN:N<99000):YX (aH (xB (au L Z) (bI L Z (n+8))) ⟨BF b w fs c i [] 0 l7 l8 l9 l10 l11 l12 l13,h,I⟩) (ux (au L Z) (bI L Z (n+8))) h0 b w mo (N+3) fs c l7 l8 l9 l10 l11 l12 l13:=by obtain⟨d1,hd1,h1,e1,W1,B1,K1⟩:=mA (L:=L) (Z:=Z) (n:=n+7) (m:=2) P.wo P.bx (by exact leT hN U) (by decide) (by decide);have P1:=P.go hb W1 B1 K1;induction z1:aI ((d1:Int)=0)with
 |false=>exact⟨i,[],[],0,h1,aG (aY (aK (aE (aJ U (aB aq (aC ao)) (b5 U (aO e1))) ao U)) (aM z1 aZ)) U,.no,by decide,P1.up (by exact bE [_] [] 0 [] (.a (.v 0) (.l 1)) (.a (.v 0) (.l 3)) U),by decide⟩
 |true=>
  obtain⟨d2,hd2,h2,e2,W2,B2,K2⟩:=mA (L:=L) (Z:=Z) (n:=n+7) (m:=9) W1 B1 (by exact bE [_] [(.a (.v 0) (.l 1),.l 99000)] 0 [1] (.a (.a (.v 0) (.l 1)) (.l 1)) (.l 100000) U hN) (by decide) (by decide);have P2:=(P1.go hb W2 B2 K2).app (t:=[.tup [.int (1+(d2:Int)),.str []]]);obtain⟨d3,hd3,h3,e3,W3,B3,K3⟩:=mA (L:=L) (Z:=Z) (n:=n+7) (m:=4) P2.wo P2.bx (by exact bE [_] [(.a (.v 0) (.l 1),.l 99000)] 0 [1] (.a (.a (.a (.v 0) (.l 1)) (.l 1)) (.l 1)) (.l 100000) U hN) (by decide) (by decide);have P3:=P2.go hb W3 B3 K3;have es:sU (1+(d2:Int))=[49+d2]:=by have:=yI (d:=1+d2) (by exact bE [_] [(.a (.v 0) (.l 1),.l 9)] 0 [1] (.a (.a (.l 1) (.v 0)) (.l 1)) (.l 10) U hd2);rw[show((1+d2:Nat):Int)=1+(d2:Int) by exact U,show 48+(1+d2)=49+d2 by exact Nat.le_antisymm (bE [_] [] 0 [] (.a (.l 48) (.a (.l 1) (.v 0))) (.a (.l 49) (.v 0)) U) (bE [_] [] 0 [] (.a (.l 49) (.v 0)) (.a (.l 48) (.a (.l 1) (.v 0))) U)]at this;exact this
  have s1:∀{F:lJ St Fl},aH (yQ (au L Z) (bI L Z (n+8))) ⟨BF b w fs c i [49+d2] (1+(d2:Int)) l7 l8 l9 l10 l11 l12 l13,h2++[.tup [.int (1+(d2:Int)),.str []]],I⟩=F->aH (ue (au L Z) (bI L Z (n+8))) ⟨BF b w fs c i [] 0 l7 l8 l9 l10 l11 l12 l13,h1,I⟩=F:=λ{F} e=>aG (fm (aB (bj ao (aJ U (aB aq (aC ao)) (b5 U (aO e2))) U) (aC ao)) U U U (bZ (bv U) (dj (bv U)))) (aG (bz (aJ U (aC aq) (EG (Hs (jZ (by exact(leT (Nat.succ_le_succ (Nat.add_le_add_left (Nat.le_of_lt hd2) 1)) rfl:1+d2<2^63)))))) (bv U)) (by exact es▸e));have go:∀{A:List J}{h':H},aH (ue (au L Z) (bI L Z (n+8))) ⟨BF b w fs c i [] 0 l7 l8 l9 l10 l11 l12 l13,h1,I⟩=.ok .nxt ⟨A,h',I⟩->aH (xB (au L Z) (bI L Z (n+8))) ⟨BF b w fs c i [] 0 l7 l8 l9 l10 l11 l12 l13,h,I⟩=aH (ux (au L Z) (bI L Z (n+8))) ⟨A,h',I⟩:=λe=>aG (aY (aK (aE (aJ U (aB aq (aC ao)) (b5 U (aO e1))) ao U)) (bq z1 e)) rfl;induction z3:aI ((d3:Int)=0)with
  |false=>
   have WI:fP [49+d2] [] (1+(d2:Int)):=by
    have:=fP.told (49+d2) (by rw[Nat.ble_eq_true_of_le (by lia),Nat.ble_eq_true_of_le (by lia)];rfl)
    rwa[show((49+d2-48:Nat):Int)=1+(d2:Int) by lia]at this
   exact⟨i,_,_,_,h3,go (s1 (bO (aY (aK (aE (aJ U (aB aq (aC ao)) (b5 U (aO e3))) ao U)) (aM z3 aZ)))),WI,by exact(Nat.add_le_add_left (Nat.le_of_lt_succ hd2) 1:1+d2<=9),P3,by decide⟩
  |true=>refine⟨h3.length,[42],[.int (1+(d2:Int)-5)],1+(d2:Int)-5,(h3++[AO.list [.int (1+(d2:Int)-5)]])++[AO.tup [.obj h3.length,.str [42]]],go (s1 (bO (aY (aK (aE (aJ U (aB aq (aC ao)) (b5 U (aO e3))) ao U)) (bq z3 ?_)))),.star _ (by exact leT (Pl (1+d2) 5 9 (leT (Nat.add_le_add_left (Nat.le_of_lt hd2) 1) U) (Nat.le_trans (Nat.le_of_ble_eq_true U) (Nat.le_add_left 9 _))) U),by exact Pl (1+d2) 5 9 (leT (Nat.add_le_add_left (Nat.le_of_lt hd2) 1) U) (Nat.le_trans (Nat.le_of_ble_eq_true U) (Nat.le_add_left 9 _)),P3.app.app.re (bH ba) P3.kp.1 (by exact bE [_] [] 0 [] (.a (.a (.a (.v 0) (.l 1)) (.l 1)) (.l 1)) (.a (.v 0) (.l 3)) U),by exact Nat.le_refl 1⟩;exact aG (bz (bj aq ao U) (bv U)) (bO (fm (aB (gj (aC aq) U) (aC ao)) U U U (bZ (bv U) (dj (bv U)))))
inductive Zk(x:lJ St Fl)(ms:List (M Fl))(h0:H)(b w mo N:Nat)(fs:List Nat)(c:Nat)(wt:List Nat)(W:Int)(f1:List J)(l10 l11 l12 l13:J):Prop where
 |mk (i:Nat) (mt:List Nat) (f2:List J) (m:Option Nat) (l9:J) (h':H) (e:xt x ms (BF b w fs c i wt W (dM m) (.str mt) l9 l10 l11 l12 l13) h') (MI:i7 mt f2 m) (hm:∀j,m=Y j->j<=9) (P:vJ h0 h' b w mo N i (f1++f2)) (l1:f2.length<=1):Zk x ms h0 b w mo N fs c wt W f1 l10 l11 l12 l13
theorem Ea{ah:List J}{q:Int}(hS:ah[9]?=Y (.int q)):fB (bJ (aW (au L Z) .GtE (B 9) (D (.int 0)))) (B 9) (D .none) ⟨ah,h,I⟩=.ok (dM (mZ q)) ⟨ah,h,I⟩:=by refine dy (aK (aE (bM hS U) ao U)) ?_;refine CO▸?_;induction z:aI (q<0)with
 |true=>rw[decide_eq_false (by have:=of_decide_eq_true z;exact kt.mpr (of_decide_eq_true z))];exact ao
 |false=>rw[decide_eq_true (by have:=of_decide_eq_false z;exact dh.mp (of_decide_eq_false z))];exact bM hS rfl
theorem RE(P:vJ h0 h b w mo N i f1)(hb:b<h0.length)(hN:N<99000)(hf:f1.length<=1):Zk (aH (ux (au L Z) (bI L Z (n+8))) ⟨BF b w fs c i wt W l7 l8 .unb l10 l11 l12 l13,h,I⟩) (xC (au L Z) (bI L Z (n+8))) h0 b w mo (N+4) fs c wt W f1 l10 l11 l12 l13:=by have P0:=P.app (t:=[.tup [.none,.str []]]);obtain⟨d1,hd1,h1,e1,W1,B1,K1⟩:=mA (L:=L) (Z:=Z) (n:=n+7) (m:=3) P0.wo P0.bx (by exact leT hN U) (by decide) (by decide);have P1:=P0.go hb W1 B1 K1;have go:∀{A:List J}{h':H},(bif aI ((d1:Int)=0)then aH (ug (au L Z) (bI L Z (n+8)))else aH []) ⟨BF b w fs c i wt W .none (.str []) .unb l10 l11 l12 l13,h1,I⟩=.ok .nxt ⟨A,h',I⟩->aH (ux (au L Z) (bI L Z (n+8))) ⟨BF b w fs c i wt W l7 l8 .unb l10 l11 l12 l13,h,I⟩=aH (xC (au L Z) (bI L Z (n+8))) ⟨A,h',I⟩:=λe=>aG (fm (aB ao (aC ao)) U U U (bZ (bv U) (dj (bv U)))) (aG (aY (aK (aE (aJ U (aB aq (aC ao)) (b5 U (aO e1))) ao U)) e) U);induction z1:aI ((d1:Int)=0)with
 |false=>rw[z1]at go;exact⟨i,[],[],.none,.unb,h1,go aZ,.no,(λj e=>by cases e),P1.re (f1:=f1++[]) (by rw[List.append_nil];exact P1.li) P1.ge (by exact bE [_] [] 0 [] (.a (.v 0) (.l 1)) (.a (.v 0) (.l 4)) U),by decide⟩
 |true=>rw[z1]at go;obtain⟨d2,hd2,h2,e2,W2,B2,K2⟩:=mA (L:=L) (Z:=Z) (n:=n+7) (m:=5) W1 B1 (by exact bE [_] [(.a (.v 0) (.l 1),.l 99000)] 0 [1] (.a (.a (.v 0) (.l 1)) (.l 1)) (.l 100000) U hN) (by decide) (by decide);have P2:=P1.go hb W2 B2 K2;obtain⟨d3,hd3,h3,e3,W3,B3,K3⟩:=mA (L:=L) (Z:=Z) (n:=n+7) (m:=4) P2.wo P2.bx (by exact bE [_] [(.a (.v 0) (.l 1),.l 99000)] 0 [1] (.a (.a (.a (.v 0) (.l 1)) (.l 1)) (.l 1)) (.l 100000) U hN) (by decide) (by decide);have P3:=P2.go hb W3 B3 K3;have es:sU (d2:Int)=[48+d2]:=yI (by exact leT hd2 U);have s1:∀{F:lJ St Fl},aH (zo (au L Z) (bI L Z (n+8))) ⟨BF b w fs c i wt W (.int (d2:Int)) (.str [46,48+d2]) .unb l10 l11 l12 l13,h2,I⟩=F->aH (ug (au L Z) (bI L Z (n+8))) ⟨BF b w fs c i wt W .none (.str []) .unb l10 l11 l12 l13,h1,I⟩=F:=λ{F} e=>aG (bz (aJ U (aB aq (aC ao)) (b5 U (aO e2))) (bv U)) (aG (bz (bj ao (aJ U (aC aq) (EG (Hs (jZ (by exact(leT hd2 rfl:d2<2^63)))))) (cE (by exact es▸Nat.le_of_ble_eq_true U))) (bv U)) (by exact es▸e));induction z3:aI ((d3:Int)=0)with
  |false=>
   have MI:i7 [46,48+d2] [] (Y d2):=by
    have:=i7.told (48+d2) (by unfold gM;rw[Nat.ble_eq_true_of_le (by lia),Nat.ble_eq_true_of_le (by lia)];rfl)
    rwa[show 48+d2-48=d2 by lia]at this
   exact⟨i,_,_,Y d2,.unb,h3,go (s1 (bO (aY (aK (aE (aJ U (aB aq (aC ao)) (b5 U (aO e3))) ao U)) (aM z3 aZ)))),MI,(λj e=>by exact(sI e)▸bE [_] [(.a (.v 0) (.l 1),.l 5)] 0 [1] (.v 0) (.l 9) U hd2),P3.re (f1:=f1++[]) (by rw[List.append_nil];exact P3.li) P3.ge (by exact bE [_] [] 0 [] (.a (.a (.a (.v 0) (.l 1)) (.l 1)) (.l 1)) (.a (.v 0) (.l 4)) U),by decide⟩
  |true=>
   obtain⟨d4,v,hv,h4,e4,W4,B4,K4⟩:=zd (L:=L) (Z:=Z) (n:=n+7) (m:=2) (A:=BF b w fs c i wt W (.int (d2:Int)) (.str [46,48+d2]) .unb l10 l11 l12 l13) (h1:=h3) (h:=h3) (es:=[B 7,bp .Sub (B 7) (D (.int 5))]) (os:=[.int (d2:Int),.int ((d2:Int)-5)]) (aB aq (aC (bj aq ao U))) W3 B3 (by exact bE [_] [(.a (.v 0) (.l 1),.l 99000)] 0 [1] (.a (.a (.a (.a (.v 0) (.l 1)) (.l 1)) (.l 1)) (.l 1)) (.l 99999) U hN) U U (by decide) (by decide);have P4:=P3.go hb W4 B4 K4;obtain⟨q,rfl,hq⟩:∃q:Int,v=.int q/\q.natAbs<=9/\q<=9:=by
    match d4,hv with
    |0,e=>exact(sI e)▸⟨_,U,by exact(leT (Nat.le_of_lt hd2) rfl:d2<=9),by exact zY (b:=9) (leT (Nat.le_of_lt hd2) U)⟩
    |1,e=>exact(sI e)▸⟨_,U,by exact Pl d2 5 9 (leT (Nat.le_of_lt hd2) U) (Nat.le_trans (Nat.le_of_ble_eq_true U) (Nat.le_add_left 9 _)),by exact zT (J6 (v:=5) (zY (Nat.le_of_lt hd2))) U⟩
    |_+2,e=>exact nS e
   refine⟨(h4++[AO.list [.int q]]).length,[46,42],[.int q],mZ q,.int q,((h4++[AO.list [.int q]])++[AO.list (f1++[.int q])])++[AO.tup [.obj (h4++[AO.list [.int q]]).length,.str [46,42],dM (mZ q)]],go (s1 (bO (aY (aK (aE (aJ U (aB aq (aC ao)) (b5 U (aO e3))) ao U)) (bq z3 ?_)))),.star _ (by exact leT hq.1 U),λj e=>?_,P4.app.app.app.re (bH ba) P4.app.kp.1 (by exact bE [_] [] 0 [] (.a (.a (.a (.a (.v 0) (.l 1)) (.l 1)) (.l 1)) (.l 1)) (.a (.v 0) (.l 4)) U),by exact Nat.le_refl 1⟩
   ·exact aG (bz e4 (bv U)) (bO (fm (aB (bj aq (gj (aC aq) U) (ud (bH P4.li) ba (by show f1.length+1<=_;exact bE [_] [(.v 0,.l 1)] 0 [1] (.a (.v 0) (.l 1)) (.l 16777216) U hf))) (aB ao (aC (Ea U)))) U U U (bZ (bv U) (bZ (bv U) (dj (bv U))))))
   ·unfold mZ at e
    induction z:aI (q<0)with
    |true=>rw[z]at e;exact nS e
    |false=>rw[z]at e;exact(sI e)▸mS.mpr hq.2
end
section
variable{L:Nat}{Z:List Int}{n:Nat}{h h' h0 h1:H}{w mo b N q i c:Nat}{v X l2 l5 l7 l8 l9 l10 l11 l12 l13:J}{d s fs wt mt t x fl p:List Nat}{es:List (M J)}{e:M J}{f f1 f2:List J}{W k:Int}{m:Option Nat}
theorem oI{j:Nat}(hx:x.length<=j)(hw:W<=j):(iG x W fl).length<=j:=by unfold iG;cases fl.any (Nat.beq 45)with
 |true=>simp only[cond_true,List.length_append,List.length_replicate];exact ZN hw hx
 |false=>simp only[cond_false,List.length_append,List.length_replicate];exact UU hw hx
theorem GV(hk:k.natAbs<=1000)(hw:W<=1000)(hm:∀j,m=Y j->j<=1000):(vN k q fl W m).length<=1004:=by
 have hl:(cY (baseOf q) k.natAbs).length<=1001:=by unfold cY;simp only[List.length_map];exact Nat.le_trans qg (by exact bE [_] [(.v 0,.l 1000)] 0 [1] (.a (.v 0) (.l 1)) (.l 1001) U hk)
 have hu:(sM q (cY (baseOf q) k.natAbs)).length<=1001:=by simp only[oM];exact hl
 have hx:(jF m (sM q (cY (baseOf q) k.natAbs))).length<=1001:=rz (λi e=>by have:=hm i e;exact leT this U) hu;have hz:=rT (m:=m) (fl:=fl) (w:=W) (lead:=gp k fl++gr k q fl) (j:=1001) (by exact zT hw U) hx;have hs:(gp k fl).length<=1:=rM;have hh:(gr k q fl).length<=2:=rN;refine oI ?_ (by exact zT hw U);simp only[List.length_append,List.length_append];exact bE [_,_,_] [(.v 0,.l 1001),(.v 1,.l 1),(.v 2,.l 2)] 0 [1,1,1] (.a (.a (.v 1) (.v 2)) (.v 0)) (.l 1004) U hz hs hh
inductive rc(x:lJ St Fl)(h:H)(t:List Nat)(f:List J)(d:List Nat):Prop where
 |mk (i fi:Nat) (A:List J) (h':H) (e:x=.ok (.ret (.obj i)) ⟨A,h',I⟩) (a:h'[i]?=Y (.tup [.str t,.obj fi,.str d])) (c:h'[fi]?=Y (.list f)) (K:∀X,aD X h h'):rc x h t f d
theorem vZ{ah:List J}(hf:f.length<=100)(li:h[i]?=Y (.list f))(s4:ah[4]?=Y (.obj i))(s11:ah[11]?=Y v)(nu:vQ v=Y v):bp .Add (B 4) (dm [B 11]) ⟨ah,h,I⟩=.ok (.obj (h++[AO.list [v]]).length) ⟨ah,(h++[AO.list [v]])++[AO.list (f++[v])],I⟩:=
 bj (bM s4 U) (gj (aC (bM s11 nu)) U) (ud (bH li) ba (by show f.length+1<=_;exact bE [_] [(.v 0,.l 100)] 0 [1] (.a (.v 0) (.l 1)) (.l 16777216) U hf))
theorem G6{s:St}(hq:q=115\/q=112\/q=99):p7 (au L Z) .In (.str [q]) (.str [100,105,117,120,88,111,98,66]) s=.ok (.bool I) s:=by rcases hq with rfl|rfl|rfl<;>rfl
theorem Ip(hq:q∈kinds)(li:h[i]?=Y (.list f))(hf:f.length<=100)(nu:vQ v=Y v)(ha:k.natAbs<=1000)(hw:W<=1000)(hm:∀j,m=Y j->j<=1000):rc (aH (qc (au L Z) (bI L Z (n+8))) ⟨LG b w (.str fl) (.str [q]) (.obj i) l5 (.int W) (dM m) l8 l9 (.str t) v (.int k) l13,h,I⟩) h t (f++[v]) (vN k q fl W m):=by obtain⟨h2,e2,K2⟩:=vG (L:=L) (Z:=Z) (n:=n+6) (h:=(h++[AO.list [v]])++[AO.list (f++[v])]) (a:=k) (fl:=fl) (w:=W) (m:=m) hq ha hw hm;exact⟨h2.length,(h++[AO.list [v]]).length,_,h2++[.tup [.str t,.obj (h++[AO.list [v]]).length,.str (vN k q fl W m)]],bF (aY (aK (aE aq ao (wV hq _))) (bq U (bF (bK (gm (aB aq (aB (vZ hf li U U nu) (aC (aJ U (aB aq (aB aq (aB aq (aB aq (aC (bM U rt)))))) (b5 U (aO e2)))))) U))))),ba,bH ((K2 []).get ba List.not_mem_nil),λX=>((aD.app.trans aD.app).trans (K2 X)).trans aD.app⟩
theorem v7(li:h[i]?=Y (.list f))(hf:f.length<=100)(nu:vQ v=Y v)(hx:x.length<=1000)(hw:W<=1000):rc (aH (CG (au L Z) (bI L Z (n+8))) ⟨LG b w (.str fl) (.str [q]) (.obj i) l5 (.int W) l7 l8 l9 (.str t) v (.str x) l13,h,I⟩) h t (f++[v]) (iG x W fl):=
 ⟨_,(h++[AO.list [v]]).length,_,_,bF (bK (gm (aB aq (aB (vZ hf li U U nu) (aC (aJ U (aB aq (aB aq (aC aq))) (b5 U (aO (sE (n:=n+7) (by exact leT hx U) (by exact zT hw U)))))))) U)),ba,bH ba,λX=>(aD.app.trans aD.app).trans aD.app⟩
theorem FU(li:h[i]?=Y (.list f))(hf:f.length<=100)(nu:vQ v=Y v)(hw:W<=1000):rc (aH (qc (au L Z) (bI L Z (n+8))) ⟨LG b w (.str fl) (.str [99]) (.obj i) l5 (.int W) l7 l8 l9 (.str t) v (.str [c]) l13,h,I⟩) h t (f++[v]) (iG [c] W fl):=by obtain⟨j,fi,A,h1,e1,a1,c1,K1⟩:=v7 (L:=L) (Z:=Z) (n:=n) (b:=b) (w:=w) (q:=99) (l5:=l5) (l7:=l7) (l8:=l8) (l9:=l9) (l13:=l13) (fl:=fl) (t:=t) (x:=[c]) (W:=W) li hf nu (by decide:[0].length<=1000) hw;exact⟨j,fi,A,h1,aG (aY (aK (aE aq ao (G6 (.inr (.inr U))))) (aM U aZ)) (aG (aY (mW (aK (aE aq ao U)) (aM U jk)) (aM U aZ)) e1),a1,c1,K1⟩
theorem Cs(hq:q=115\/q=112)(li:h[i]?=Y (.list f))(hf:f.length<=100)(nu:vQ v=Y v)(hx:x.length<=1000)(hw:W<=1000):rc (aH (qc (au L Z) (bI L Z (n+8))) ⟨LG b w (.str fl) (.str [q]) (.obj i) l5 (.int W) (dM m) l8 l9 (.str t) v (.str x) l13,h,I⟩) h t (f++[v]) (iG (uV m x) W fl):=by
 obtain⟨j,fi,A,h1,e1,a1,c1,K1⟩:=v7 (L:=L) (Z:=Z) (n:=n) (b:=b) (w:=w) (q:=q) (l5:=l5) (l7:=dM m) (l8:=l8) (l9:=l9) (l13:=l13) (fl:=fl) (t:=t) (x:=uV m x) (W:=W) li hf nu (Nat.le_trans qw hx) hw;have i2:∀s,p7 (au L Z) .In (.str [q]) (.str [115,112]) s=.ok (.bool S) s:=by rcases hq with rfl|rfl<;>exact λ_=>rfl
 refine⟨j,fi,A,h1,aG (aY (aK (aE aq ao (G6 (by rcases hq with rfl|rfl;exact .inl rfl;exact .inr (.inl rfl))))) (aM rfl aZ)) (aG (aY (mW (aK (aE aq ao (i2 _))) (bq rfl (mR (aK (aE (bM rfl rt) ao qx))))) ?_) e1),a1,c1,K1⟩;induction m with
 |none=>exact aZ
 |some j=>exact bO (bz (dQ aq ao aq (gn (by exact leT hx U))) (bv U))
end
section
variable{L:Nat}{Z:List Int}{n:Nat}{h h' h0 h1:H}{w mo b N q i c:Nat}{v X l2 l5 l7 l8 l9 l10 l11 l12 l13:J}{d s fs wt mt t x fl p:List Nat}{es:List (M J)}{e:M J}{f f1 f2:List J}{W k:Int}{m:Option Nat}
inductive A6(L:Nat)(Z:List Int)(k b w mo N:Nat)(h:H):Prop where
 |mk (i fi:Nat) (y:List Nat) (f:List J) (d:List Nat) (h':H) (e:bI L Z k I 876 [.obj b,.obj w] [] h=.ok (.obj i) h') (a:h'[i]?=Y (.tup [.str (37::y),.obj fi,.str d])) (c:h'[fi]?=Y (.list f)) (P:fu b h' y f d) (W:Wo h' w mo) (ag:im h' b N) (K:aD [b,w,mo] h h') (lf:f.length<=3) (ly:y.length<=9) (ld:d.length<=1004):A6 L Z k b w mo N h
noncomputable abbrev TE(fs wt mt:List Nat)(c:Nat):List Nat:=37::(fs++(wt++(mt++[c])))
theorem OY(hl:fs.length<=5)(l1:wt.length<=1)(l2:mt.length<=2):xt (aH (xC (au L Z) (bI L Z (n+8))) ⟨BF b w fs c i wt W (dM m) (.str mt) l9 l10 l11 l12 l13,h,I⟩) (BX (au L Z) (bI L Z (n+8))) (LG b w (.str (Bu fs W)) (.str [c]) (.obj i) (.str wt) (.int (nc W)) (dM m) (.str mt) l9 (.str (TE fs wt mt c)) l11 l12 l13) (h++[.tup [.str (Bu fs W),.int (nc W)]]):=by
 have et:((([37]++fs)++wt)++mt)++[c]=TE fs wt mt c:=by simp only[List.append_assoc,List.cons_append,List.nil_append]
 rw[<-et];refine aG (bz (bj (bj (bj (bj ao aq (cE (by show 1+fs.length<=_;exact bE [_] [(.v 0,.l 5)] 0 [1] (.a (.l 1) (.v 0)) (.l 16777216) U hl))) aq (cE (by simp only[List.length_append];show 1+fs.length+_<=_;exact bE [_,_] [(.v 0,.l 5),(.v 1,.l 1)] 0 [1,1] (.a (.a (.l 1) (.v 0)) (.v 1)) (.l 16777216) U hl l1))) aq (cE (by simp only[List.length_append,List.length_append];show 1+fs.length+_+_<=_;exact bE [_,_,_] [(.v 0,.l 5),(.v 1,.l 1),(.v 2,.l 2)] 0 [1,1,1] (.a (.a (.a (.l 1) (.v 0)) (.v 1)) (.v 2)) (.l 16777216) U hl l1 l2))) aq (cE (by simp only[List.length_append,List.length_append,List.length_append];show 1+fs.length+_+_+1<=_;exact bE [_,_,_] [(.v 0,.l 5),(.v 1,.l 1),(.v 2,.l 2)] 0 [1,1,1] (.a (.a (.a (.a (.l 1) (.v 0)) (.v 1)) (.v 2)) (.l 1)) (.l 16777216) U hl l1 l2))) (bv U)) ?_;have e:∀(ah:List J)(P:H),ah[2]?=Y (.str fs)->ah[6]?=Y (.int W)->fB (bJ (aW (au L Z) .Lt (B 6) (D (.int 0)))) (mTup [(bp .Add (B 2) (D (.str [45]))),(bp .Sub (D (.int 0)) (B 6))]) (mTup [(B 2),(B 6)]) ⟨ah,P,I⟩=.ok (.obj P.length) ⟨ah,P++[.tup [.str (Bu fs W),.int (nc W)]],I⟩:=λah P a b=>by refine dy (aK (aE (bM b U) ao U)) ?_;unfold Bu nc;induction z:aI (W<0)with
  |true=>simp only[cond_true,cond_true,cond_true,show-W=0-W by exact(Int.zero_sub _).symm];exact gm (aB (bj (bM a U) ao (cE (by show fs.length+1<=_;exact bE [_] [(.v 0,.l 5)] 0 [1] (.a (.v 0) (.l 1)) (.l 16777216) U hl))) (aC (bj ao (bM b U) U))) rfl
  |false=>exact gm (aB (bM a U) (aC (bM b U))) rfl
 exact aG (bz (e _ _ U U) (qv U ba U (bZ (bv U) (dj (bv U))))) rfl
theorem fP.len(WI:fP wt f W):wt.length<=1/\f.length<=1:=by induction WI with
 |no=>exact⟨Nat.zero_le _,Nat.zero_le _⟩
 |told d h=>exact⟨Nat.le_refl _,Nat.zero_le _⟩
 |star q h=>exact⟨Nat.le_refl _,Nat.le_refl _⟩
theorem i7.len(MI:i7 mt f m):mt.length<=2/\f.length<=1:=by induction MI with
 |no=>exact⟨Nat.zero_le _,Nat.zero_le _⟩
 |told d h=>exact⟨Nat.le_refl _,Nat.zero_le _⟩
 |star q h=>exact⟨Nat.le_refl _,Nat.le_refl _⟩
theorem oE{iv N2:Nat}{a:J}{ak:List Nat->Int->Option Nat->List Nat}{h2:H}(e0:xt (Mg (au L Z) (bI L Z (n+8)) ⟨Mf b w .unb,h,I⟩) (BX (au L Z) (bI L Z (n+8))) (LG b w (.str (Bu fs W)) (.str [c]) (.obj i) l5 (.int (nc W)) l7 l8 l9 (.str (TE fs wt mt c)) l11 l12 l13) h1)
  (P:vJ h h1 b w mo N i (f1++f2)) (ha:fs.all ji=S) (hl:fs.length<=5) (WI:fP wt f1 W) (MI:i7 mt f2 m) (hq:W.natAbs<=1000) (hm:∀j,m=Y j->j<=1000)
  (e1:bI L Z (n+8) I 871 [.obj b,.obj w,.str [c]] [] h1=.ok (.obj iv) h2) (av:h2[iv]?=Y (.tup [v,a])) (W2:Wo h2 w mo) (B2:im h2 b N2) (K2:aD [b,w,mo] h1 h2) (hc:Nat.beq c 37=I) (KI:gN b h2 c [v] ak)
  (dn:rc (aH (qc (au L Z) (bI L Z (n+8))) ⟨LG b w (.str (Bu fs W)) (.str [c]) (.obj i) l5 (.int (nc W)) l7 l8 l9 (.str (TE fs wt mt c)) v a l13,h2,I⟩) h2 (TE fs wt mt c) ((f1++f2)++[v]) (ak (Bu fs W) (nc W) m)) (ld:(ak (Bu fs W) (nc W) m).length<=1004):A6 L Z (n+9) b w mo N2 h:=by
 obtain⟨j,fi,A,h3,e3,a3,c3,K3⟩:=dn;have l1:=WI.len;have l2:=MI.len;rw[List.append_assoc]at c3;refine⟨j,fi,_,_,_,h3,?_,a3,c3,fu.mk fs wt mt c f1 f2 [v] W m ak ha (by exact leT hl U) WI MI (KI.ext (s9.of (K3 []) tv.all)) hq hm,W2.keep (K3 []) λ_ _ _ _=>List.not_mem_nil,B2.any (K3 []) List.not_mem_nil,(P.kp.trans K2).trans (K3 _),?_,?_,ld⟩
 ·exact bC N6 (L0:=Mf b w .unb) U (e0.trans (aG (aY (aK (aE aq ao cU)) (aM hc aZ)) (aG (bz (aJ U (aB aq (aB aq (aC aq))) (b5 U (aO e1))) (qv U av U (bZ (bv U) (dj (bv U))))) e3)))
 ·simp only[List.length_append,List.length_append];show _+(_+1)<=3;exact bE [_,_] [(.v 0,.l 1),(.v 1,.l 1)] 0 [1,1] (.a (.v 0) (.a (.v 1) (.l 1))) (.l 3) U l1.2 l2.2
 ·simp only[List.length_append,List.length_append,List.length_append];show _+(_+(_+1))<=9;exact bE [_,_,_] [(.v 0,.l 5),(.v 1,.l 1),(.v 2,.l 2)] 0 [1,1,1] (.a (.v 0) (.a (.v 1) (.a (.v 2) (.l 1)))) (.l 9) U hl l1.1 l2.1
theorem JE(W0:Wo h w mo)(B0:im h b N)(hN:N<98000):A6 L Z (n+9) b w mo (N+16) h:=by
 have lb:=B0.lt;obtain⟨fs,c,i1,l13,h1,e1,ha,hl,hc,P1⟩:=P6 (L:=L) (Z:=Z) (n:=n) W0 B0 (by exact leT hN U);obtain⟨i2,wt,f1,W,h2,e2,WI,hW,P2,l1⟩:=Tn (L:=L) (Z:=Z) (n:=n) (fs:=fs) (c:=c) (l7:=.unb) (l8:=.unb) (l9:=.unb) (l10:=.unb) (l11:=.unb) (l12:=.unb) (l13:=l13) P1 lb (by exact bE [_] [(.a (.v 0) (.l 1),.l 98000)] 0 [1] (.a (.a (.v 0) (.l 6)) (.l 1)) (.l 99000) U hN);obtain⟨i,mt,f2,m,l9,h3,e3,MI,hm,P3,l2⟩:=RE (L:=L) (Z:=Z) (n:=n) (fs:=fs) (c:=c) (wt:=wt) (W:=W) (l7:=.unb) (l8:=.unb) (l10:=.unb) (l11:=.unb) (l12:=.unb) (l13:=l13) P2 lb (by exact bE [_] [(.a (.v 0) (.l 1),.l 98000)] 0 [1] (.a (.a (.a (.v 0) (.l 6)) (.l 3)) (.l 1)) (.l 99000) U hN) l1;have e4:=OY (L:=L) (Z:=Z) (n:=n) (b:=b) (w:=w) (c:=c) (i:=i) (W:=W) (m:=m) (l9:=l9) (l10:=.unb) (l11:=.unb) (l12:=.unb) (l13:=l13) (h:=h3) hl WI.len.1 MI.len.1;have e0:=((e1.trans e2).trans e3).trans e4;have P:=P3.app (t:=[.tup [.str (Bu fs W),.int (nc W)]]);have hq:W.natAbs<=1000:=by exact leT hW rfl
 have hm':∀j,m=Y j->j<=1000:=λj e=>Nat.le_trans (hm j e) (by decide);have aw:=(xe hq).1;have lf:(f1++f2).length<=100:=by simp only[List.length_append];exact bE [_,_] [(.v 0,.l 1),(.v 1,.l 1)] 0 [1,1] (.a (.v 0) (.v 1)) (.l 100) U l1 l2
 rcases hc with hk|rfl|rfl|rfl|rfl
 ·obtain⟨iv,h5,e5,⟨v,a,av,k,rfl,V,hk3⟩,W5,B5,K5⟩:=DW (L:=L) (Z:=Z) (n:=n) hk P.wo P.bx (by exact bE [_] [(.a (.v 0) (.l 1),.l 98000)] 0 [1] (.a (.a (.a (.a (.v 0) (.l 6)) (.l 3)) (.l 4)) (.l 1)) (.l 99000) U hN)
  exact oE e0 P ha hl WI MI hq hm' e5 av W5 (B5.up (by exact bE [_] [] 0 [] (.a (.a (.a (.a (.v 0) (.l 6)) (.l 3)) (.l 4)) (.l 3)) (.a (.v 0) (.l 16)) U)) K5 (fG (P:=λc=>Nat.beq c 37=I) U U U U U U U U c hk) (.num c v k hk V (by exact leT hk3 U)) (Ip hk (K5.get P.li (P.nin lb)) lf V.nou (by exact leT hk3 U) aw hm') (GV (by exact leT hk3 U) aw hm')
 ·obtain⟨iv,h5,e5,⟨v,a,av,p,s,rfl,V,l3,l4⟩,W5,B5,K5⟩:=CT (L:=L) (Z:=Z) (n:=n) (.inl U) P.wo P.bx (by exact bE [_] [(.a (.v 0) (.l 1),.l 98000)] 0 [1] (.a (.a (.a (.a (.v 0) (.l 6)) (.l 3)) (.l 4)) (.l 1)) (.l 99000) U hN)
  exact oE e0 P ha hl WI MI hq hm' e5 av W5 (B5.up (by exact bE [_] [] 0 [] (.a (.a (.a (.a (.v 0) (.l 6)) (.l 3)) (.l 4)) (.l 1)) (.a (.v 0) (.l 16)) U)) K5 U (.plain v p s V l3) (Cs (.inl U) (K5.get P.li (P.nin lb)) lf V.nou l3 aw) (Nat.le_trans (oI (Nat.le_trans qw l3) aw) (by decide))
 ·obtain⟨iv,h5,e5,⟨v,a,av,p,s,rfl,V,l3,l4⟩,W5,B5,K5⟩:=CT (L:=L) (Z:=Z) (n:=n) (.inr U) P.wo P.bx (by exact bE [_] [(.a (.v 0) (.l 1),.l 98000)] 0 [1] (.a (.a (.a (.a (.v 0) (.l 6)) (.l 3)) (.l 4)) (.l 1)) (.l 99000) U hN)
  exact oE e0 P ha hl WI MI hq hm' e5 av W5 (B5.up (by exact bE [_] [] 0 [] (.a (.a (.a (.a (.v 0) (.l 6)) (.l 3)) (.l 4)) (.l 1)) (.a (.v 0) (.l 16)) U)) K5 U (.shown v p s V l4) (Cs (.inr U) (K5.get P.li (P.nin lb)) lf V.nou l4 aw) (Nat.le_trans (oI (Nat.le_trans qw l4) aw) (by decide))
 ·obtain⟨iv,h5,e5,⟨v,a,av,c,rfl,V⟩,W5,B5,K5⟩:=Km (L:=L) (Z:=Z) (n:=n) P.wo P.bx (by exact bE [_] [(.a (.v 0) (.l 1),.l 98000)] 0 [1] (.a (.a (.a (.a (.v 0) (.l 6)) (.l 3)) (.l 4)) (.l 1)) (.l 99000) U hN)
  exact oE e0 P ha hl WI MI hq hm' e5 av W5 (B5.up (by exact bE [_] [] 0 [] (.a (.a (.a (.a (.v 0) (.l 6)) (.l 3)) (.l 4)) (.l 2)) (.a (.v 0) (.l 16)) U)) K5 U (.chr v c V) (FU (K5.get P.li (P.nin lb)) lf (by induction V<;>rfl) aw) (Nat.le_trans (oI (j:=1000) (Nat.le_of_ble_eq_true U) aw) (by decide))
 ·have PI:fu b (h3++[.tup [.str (Bu fs W),.int (nc W)]]++[.tup [.str (TE fs wt mt 37),.obj i,.str [37]]]) (fs++(wt++(mt++[37]))) (f1++(f2++[])) [37]:=fu.mk fs wt mt 37 f1 f2 [] W m (λ_ _ _=>[37]) ha (by exact leT hl U) WI MI .pct hq hm'
  rw[List.append_nil]at PI;refine⟨_,i,_,_,_,_,bC N6 (L0:=Mf b w .unb) U (e0.trans (bF (aY (aK (aE aq ao cU)) (bq U (bF (bK (gm (aB aq (aB aq (aC ao))) U))))))),ba,bH P.li,PI,P.wo.app,(P.bx.app).up (by exact bE [_] [] 0 [] (.a (.a (.a (.v 0) (.l 6)) (.l 3)) (.l 4)) (.a (.v 0) (.l 16)) U),P.kp.trans aD.app,by simp only[List.length_append];exact bE [_,_] [(.v 0,.l 1),(.v 1,.l 1)] 0 [1,1] (.a (.v 0) (.v 1)) (.l 3) U l1 l2,?_,by decide⟩;simp only[List.length_append,List.length_append,List.length_append];have:=WI.len.1;have:=MI.len.1;show _+(_+(_+1))<=9;lia
end
section
variable{L:Nat}{Z:List Int}{n:Nat}{h h' h0 h1:H}{w mo b N q i j:Nat}{v X l2 l5 l6 l7 l8 l9:J}{d s t x y e:List Nat}{f g:List J}
theorem Vh(W:Wo h w mo)(F:rj h b):tv b h [b,w,mo]:=⟨λi C fs e q m=>by
 rcases List.mem_cons.mp m with rfl|m
 ·exact F.off.th _ _ _ e q (.head _)
 ·exact W.off (b:=b)|>.th _ _ _ e q m,λi xs e q m=>by
 rcases List.mem_cons.mp m with rfl|m
 ·exact q rfl
 ·exact W.off (b:=b)|>.li _ _ e q m⟩
theorem eK.one(A:fu b h y f e):eK b h (37::y) f e:=by
 have:=eK.place y f e A [] [] [] .nil
 rwa[List.append_nil,List.append_nil,List.append_nil]at this
theorem FP:eK b h [37,37] [] [37]:=eK.one (fu.mk [] [] [] 37 [] [] [] 0 .none (λ_ _ _=>[37]) U (by decide) .no .no .pct (by decide) (λj e=>by exact nS e))
theorem Mn:eK b h [37,10] [] [37,10]:=eK.one (fu.mk [] [] [] 10 [] [] [] 0 .none (λ_ _ _=>[37,10]) U (by decide) .no .no .nl (by decide) (λj e=>by exact nS e))
structure XM(x d:List Nat):Prop where
 p:∀(b:Nat)(h:H),eK b h x [] d
 e:(bif eqL x [37,37]then[37]else x)=d
 lx:x.length<=4
 ld:d.length<=4
theorem MO{k:Nat}(e:([.str [],.str [97],.str [120,32,61,32],.str [37,37],.str [37,10]]:List J)[k]?=Y v):∃x d,v=.str x/\XM x d:=by
 match k,e with
 |0,e=>exact(sI e)▸⟨_,[],U,λ_ _=>.nil,U,by decide,by decide⟩
 |1,e=>exact(sI e)▸⟨_,[97],U,λ_ _=>.lit 97 U _ _ _ .nil,U,by decide,by decide⟩
 |2,e=>exact(sI e)▸⟨_,[120,32,61,32],U,λ_ _=>.lit 120 U _ _ _ (.lit 32 U _ _ _ (.lit 61 U _ _ _ (.lit 32 U _ _ _ .nil))),U,by decide,by decide⟩
 |3,e=>exact(sI e)▸⟨_,[37],U,λ_ _=>FP,U,by decide,by decide⟩
 |4,e=>exact(sI e)▸⟨_,[37,10],U,λ_ _=>Mn,U,by decide,by decide⟩
 |_+5,e=>exact nS e
noncomputable abbrev Ix(b w:Nat)(t:List Nat)(i:Nat)(d:List Nat)(l5 l6 l7 l8 l9:J):List J:=[.obj b,.obj w,.str t,.obj i,.str d,l5,l6,l7,l8,l9,.unb]
structure PR(h0 h:H)(b w mo N i:Nat)(t:List Nat)(g:List J)(d:List Nat)(j:Nat):Prop where
 p:vJ h0 h b w mo N i g
 pt:eK b h t g d
 lt:t.length<=20*j
 lg:g.length<=3*j
 ld:d.length<=1010*j
inductive Yj(x:List J->H->Prop)(h0:H)(b w mo N j:Nat):Prop where
 |mk (t:List Nat) (i:Nat) (g:List J) (d:List Nat) (l5 l6 l7 l8 l9:J) (h':H) (e:x (Ix b w t i d l5 l6 l7 l8 l9) h') (A:PR h0 h' b w mo N i t g d j):Yj x h0 b w mo N j
theorem MB(A:PR h0 h b w mo N i t g d j)(hb:b<h0.length)(hN:N<97000)(hj:j<=100):Yj (λah h'=>BO (au L Z) (bI L Z (n+9)) ⟨Ix b w t i d l5 l6 l7 l8 l9,h,I⟩=.ok .nxt ⟨ah,h',I⟩) h0 b w mo (N+17) (j+1):=by
 obtain⟨k,v,hv,h1,e1,W1,B1,K1⟩:=zd (L:=L) (Z:=Z) (n:=n+8) (m:=5) (A:=Ix b w t i d l5 l6 l7 l8 l9) (h1:=h) (h:=h) (es:=[D (.str []),D (.str [97]),D (.str [120,32,61,32]),D (.str [37,37]),D (.str [37,10])]) (os:=[.str [],.str [97],.str [120,32,61,32],.str [37,37],.str [37,10]]) U A.p.wo A.p.bx (by exact leT hN U) U U (by decide) (by decide);obtain⟨x,du,rfl,BT⟩:=MO hv;have P1:=A.p.go hb W1 B1 K1;obtain⟨pi,fi,y,f,dp,h2,e2,a2,c2,P,W2,B2,K2,lf,ly,ldp⟩:=JE (L:=L) (Z:=Z) (n:=n) W1 B1 (by exact bE [_] [(.a (.v 0) (.l 1),.l 97000)] 0 [1] (.a (.a (.v 0) (.l 1)) (.l 1)) (.l 98000) U hN);have P2:=P1.go hb W2 B2 K2;have E:s9 b h h2:=s9.of (K1.trans K2) (Vh A.p.wo A.p.bx.four);have hlt:=A.lt;have hlg:=A.lg;have hld:=A.ld;have lx:=BT.lx;have ldu:=BT.ld;have ex:∀(ah:List J)(P:H),ah[6]?=Y (.str x)->fB (bJ (aW (au L Z) .Eq (B 6) (D (.str [37,37])))) (D (.str [37])) (B 6) ⟨ah,P,I⟩=.ok (.str du) ⟨ah,P,I⟩:=λah P a=>by refine dy (p:=eqL x [37,37]) (aK (aE (bM a U) ao U)) ?_;refine BT.e▸?_;cases eqL x [37,37]with
  |true=>exact ao
  |false=>exact bM a rfl
 refine⟨(t++x)++(37::y),h2.length,g++f,(d++du)++dp,l5,.str x,.str (37::y),.obj fi,.str dp,(h2++[.list (g++f)])++[.tup [.str ((t++x)++(37::y)),.obj h2.length,.str ((d++du)++dp)]],?_,⟨P2.app.app.re (bH ba) P2.kp.1 (by exact bE [_] [] 0 [] (.a (.a (.v 0) (.l 1)) (.l 16)) (.a (.v 0) (.l 17)) U),?_,?_,?_,?_⟩⟩
 ·exact aG (bz e1 (bv U)) (aG (bz (aJ U (aB aq (aC aq)) (b5 U (aO e2))) (qv U a2 U (bZ (bv U) (bZ (bv U) (dj (bv U))))))
   (bO (fm (aB (bj (bj aq aq (cE (by exact bE [_,_,_] [(.v 0,.l 100),(.v 1,.m 20 (.v 0)),(.v 2,.l 4)] 0 [20,1,1] (.a (.v 1) (.v 2)) (.l 16777216) U hj hlt lx))) aq (cE (by simp only[List.length_append,List.length_cons];exact bE [_,_,_,_] [(.v 0,.l 100),(.v 1,.l 9),(.v 2,.m 20 (.v 0)),(.v 3,.l 4)] 0 [20,1,1,1] (.a (.a (.v 2) (.v 3)) (.a (.v 1) (.l 1))) (.l 16777216) U hj ly hlt lx))) (aB (bj aq aq (ud P2.li c2 (by exact bE [_,_,_] [(.v 0,.l 100),(.v 1,.l 3),(.v 2,.m 3 (.v 0))] 0 [3,1,1] (.a (.v 2) (.v 1)) (.l 16777216) U hj lf hlg))) (aC (bj (bj aq (ex _ _ U) (cE (by exact bE [_,_,_] [(.v 0,.l 100),(.v 1,.m 1010 (.v 0)),(.v 2,.l 4)] 0 [1010,1,1] (.a (.v 1) (.v 2)) (.l 16777216) U hj hld ldu))) aq (cE (by simp only[List.length_append];exact bE [_,_,_,_] [(.v 0,.l 100),(.v 1,.l 1004),(.v 2,.m 1010 (.v 0)),(.v 3,.l 4)] 0 [1010,1,1,1] (.a (.a (.v 2) (.v 3)) (.v 1)) (.l 16777216) U hj ldp hld ldu)))))) U U U (bZ (bv U) (bZ (bv U) (dj (bv U)))))))
 ·have:=((A.pt.ext E).app (BT.p b h2)).app (eK.one P)
  rw[List.append_nil]at this;exact this.ext (s9.of (aD.app.trans aD.app) (tv.all))
 ·simp only[List.length_append,List.length_append,List.length_cons];exact bE [_,_,_,_] [(.v 0,.l 9),(.v 1,.m 20 (.v 2)),(.v 3,.l 4)] 0 [1,1,1] (.a (.a (.v 1) (.v 3)) (.a (.v 0) (.l 1))) (.m 20 (.a (.v 2) (.l 1))) U ly hlt lx
 ·refine List.length_append▸?_;exact bE [_,_,_] [(.v 0,.l 3),(.v 1,.m 3 (.v 2))] 0 [1,1] (.a (.v 1) (.v 0)) (.m 3 (.a (.v 2) (.l 1))) U lf hlg
 ·simp only[List.length_append,List.length_append];exact bE [_,_,_,_] [(.v 0,.l 1004),(.v 1,.m 1010 (.v 2)),(.v 3,.l 4)] 0 [1,1,1] (.a (.a (.v 1) (.v 3)) (.v 0)) (.m 1010 (.a (.v 2) (.l 1))) U ldp hld ldu
theorem DG(hb:b<h0.length):∀(r:List J)(fl N i j:Nat)(t:List Nat)(g:List J)(d:List Nat)(l5 l6 l7 l8 l9:J)(h:H),r.length<fl->j+r.length<=50->N+17*r.length<97000->PR h0 h b w mo N i t g d j->Yj (λah h'=>dU (iW (bd 5) (BO (au L Z) (bI L Z (n+9)))) fl (.vals r) ⟨Ix b w t i d l5 l6 l7 l8 l9,h,I⟩=.ok .nxt ⟨ah,h',I⟩) h0 b w mo (N+17*r.length) (j+r.length)
 |_,0,_,_,_,_,_,_,_,_,_,_,_,_,hf,_,_,_=>absurd hf (Nat.not_lt_zero _)
 |[],fl+1,N,i,j,t,g,d,l5,l6,l7,l8,l9,h,_,_,_,A=>⟨t,i,g,d,l5,l6,l7,l8,l9,h,Ge,A⟩
 |v::r,fl+1,N,i,j,t,g,d,l5,l6,l7,l8,l9,h,hf,hj,hN,A=>by rw[List.length_cons]at hf hj hN⊢;obtain⟨t1,i1,g1,d1,a5,a6,a7,a8,a9,h1,e1,A1⟩:=MB (L:=L) (Z:=Z) (n:=n) (l5:=v) (l6:=l6) (l7:=l7) (l8:=l8) (l9:=l9) A hb (by exact bE [_,_] [(.a (.a (.v 0) (.m 17 (.a (.v 1) (.l 1)))) (.l 1),.l 97000)] 0 [1] (.a (.v 0) (.l 1)) (.l 97000) U hN) (by exact bE [_,_] [(.a (.v 0) (.a (.v 1) (.l 1)),.l 50)] 0 [1] (.v 0) (.l 100) U hj);obtain⟨t2,i2,g2,d2,c5,c6,c7,c8,c9,h2,e2,A2⟩:=DG hb r fl (N+17) i1 (j+1) t1 g1 d1 a5 a6 a7 a8 a9 h1 (by exact bE [_,_] [(.a (.a (.v 0) (.l 1)) (.l 1),.a (.v 1) (.l 1))] 0 [1] (.a (.v 0) (.l 1)) (.v 1) U hf) (by lia) (by lia) A1;simp only[show N+17*(r.length+1)=N+17+17*r.length by exact Nat.le_antisymm (bE [_,_] [] 0 [] (.a (.v 0) (.m 17 (.a (.v 1) (.l 1)))) (.a (.a (.v 0) (.l 17)) (.m 17 (.v 1))) U) (bE [_,_] [] 0 [] (.a (.a (.v 0) (.l 17)) (.m 17 (.v 1))) (.a (.v 0) (.m 17 (.a (.v 1) (.l 1)))) U),show j+(r.length+1)=j+1+r.length by exact Nat.le_antisymm (bE [_,_] [] 0 [] (.a (.v 0) (.a (.v 1) (.l 1))) (.a (.a (.v 0) (.l 1)) (.v 1)) U) (bE [_,_] [] 0 [] (.a (.a (.v 0) (.l 1)) (.v 1)) (.a (.v 0) (.a (.v 1) (.l 1))) U)];exact⟨t2,i2,g2,d2,c5,c6,c7,c8,c9,h2,AC (bv U) e1 e2,A2⟩
end
section
variable{L:Nat}{Z:List Int}{n:Nat}{h h' h0 h1:H}{w mo b N q i j:Nat}{v X l2 l5 l6 l7 l8 l9:J}{d s t x y e:List Nat}{f g:List J}
theorem BI{T:aT}{s:St}:p7 T .NotEq (.str d) (.str d) s=.ok (.bool I) s:=
 dR (o:=nK (.str d) (.str d)) (f:=λt=>yes (!t)) (a:=S) (by show Y (eqL d d)=Y S;rw[nG]) rfl
theorem CL{T:aT}{A:List J}{ag:Bool}(h1:h[i]?=Y (.list g))(h2:h[j]?=Y (.list [])):p7 T .Eq (.obj i) (.obj j) ⟨A,h,ag⟩=.ok (.bool g.isEmpty) ⟨A,h,ag⟩:=by refine az (lV h1 (lV h2 (dR (a:=g.isEmpty) ?_ U))) rfl;induction g<;>rfl
theorem JC(hl:g.length<=16777216):qJ g .none (.int (-1))=Y g.dropLast:=by rw[rx (l:=0) (u:=g.length-1) U (by show Y (clip _ _)=_;unfold clip;rw[decide_eq_true (by decide),cond_true,show((-1:Int)+(g.length:Int)).toNat=g.length-1 by exact Zw _]) hl,List.dropLast_eq_take];rfl
theorem PR.go{h2:H}{N2:Nat}(A:PR h0 h b w mo N i t g d j)(hb:b<h0.length)(W2:Wo h2 w mo)(B2:im h2 b N2)(K:aD [b,w,mo] h h2):PR h0 h2 b w mo N2 i t g d j:=⟨A.p.go hb W2 B2 K,A.pt.ext (s9.of K (Vh A.p.wo A.p.bx.four)),A.lt,A.lg,A.ld⟩
theorem Fj(A:PR h0 h b w mo N i t g d 0)(hb:b<h0.length)(hN:N<97000):∃k h2,k<=4/\nP (fB (bJ (eB (au L Z) (B 0) (D (.int 3)))) (D (.int 2)) (bp .Add (D (.int 1)) (aN (au L Z) (bI L Z (n+24)) (.sref 845) [(B 0),(D (.int 4))] []))) ⟨Ix b w t i d .unb .unb .unb .unb .unb,h,I⟩=.ok (.vals ((List.range k).map λ(i:Nat)=>.int i)) ⟨Ix b w t i d .unb .unb .unb .unb .unb,h2,I⟩/\PR h0 h2 b w mo (N+1) i t g d 0:=by obtain⟨z,s,c,sm,a,r1,r2,r3,r4⟩:=A.p.bx;have t0:bJ (eB (au L Z) (B 0) (D (.int 3))) ⟨Ix b w t i d .unb .unb .unb .unb .unb,h,I⟩=.ok sm ⟨Ix b w t i d .unb .unb .unb .unb .unb,h,I⟩:=aK (gJ aq ao a U);induction sm with
 |true=>exact⟨2,h,by decide,ny (dy t0 (bq U ao)) U,⟨A.p.up (by exact bE [_] [] 0 [] (.v 0) (.a (.v 0) (.l 1)) U),A.pt,A.lt,A.lg,A.ld⟩⟩
 |false=>obtain⟨d1,hd1,h2,e2,W2,B2,K2⟩:=mA (L:=L) (Z:=Z) (n:=n+23) (m:=4) A.p.wo A.p.bx (by exact leT hN U) (by decide) (by decide);exact⟨(1+(d1:Int)).toNat,h2,by exact(Nat.add_le_add_left (Nat.le_of_lt_succ hd1) 1:1+d1<=4),ny (dy t0 (aM U (bj ao (aJ U (aB aq (aC ao)) (b5 U (aO e2))) U))) (by rw[decide_eq_true (by exact z0 (1+d1)),decide_eq_true (by exact vA (a:=1+d1) (b:=16777216) (leT (Nat.add_le_add_left hd1 1) U))];rfl),A.go hb W2 B2 K2⟩
theorem Am(A:PR h0 h b w mo N i t g d j)(hj:j<=10)(hb:b<h0.length):KL (λh'=>∃ah,aH (Ce (au L Z) (bI L Z (n+24))) ⟨Ix b w t i d l5 l6 l7 l8 l9,h,I⟩=.ok (.ret (.bool S)) ⟨ah,h',I⟩) (λh'=>Wo h' w mo) (λh'=>im h' b N) (λh'=>aD [b,w,mo] h0 h'):=by obtain⟨⟨W,ag,K,li,ge⟩,pt,lt,lg,ld⟩:=A;obtain⟨h1,e1,W1,K1⟩:=CI (L:=L) (Z:=Z) (n:=n) (bX:=[]) W pt (by rw[List.append_nil];exact li) (by exact bE [_,_] [(.v 0,.l 10),(.v 1,.m 20 (.v 0))] 0 [20,1] (.v 1) (.l 20000) U hj lt) (by rw[List.append_nil];exact bE [_,_] [(.v 0,.l 10),(.v 1,.m 3 (.v 0))] 0 [3,1] (.v 1) (.l 20000) U hj lg) (by exact bE [_,_] [(.v 0,.l 10),(.v 1,.m 1010 (.v 0))] 0 [1010,1] (.v 1) (.l 20000) U hj ld);have li1:=K1.get li (W.nin li U);have pt1:=pt.ext (s9.of K1 W.off);have W2:Wo ((h1++[AO.list [.int 7]])++[AO.list (g++[.int 7])]) w mo:=W1.app.app;have K2:aD [w,mo] h1 ((h1++[AO.list [.int 7]])++[AO.list (g++[.int 7])]):=aD.app.trans aD.app;have pt2:=(pt1.ext (s9.of K2 W1.off)).app (.lit 33 U _ _ _ .nil);rw[List.append_nil]at pt2;obtain⟨h3,e3,W3,K3⟩:=CI (L:=L) (Z:=Z) (n:=n) (bX:=[.int 7]) W2 pt2 ba (by rw[List.length_append];show _+1<=_;exact bE [_,_] [(.v 0,.l 10),(.v 1,.m 20 (.v 0))] 0 [20,1] (.a (.v 1) (.l 1)) (.l 20000) U hj lt) (by rw[List.length_append];show _+1<=_;exact bE [_,_] [(.v 0,.l 10),(.v 1,.m 3 (.v 0))] 0 [3,1] (.a (.v 1) (.l 1)) (.l 20000) U hj lg) (by rw[List.length_append];show _+1<=_;exact bE [_,_] [(.v 0,.l 10),(.v 1,.m 1010 (.v 0))] 0 [1010,1] (.a (.v 1) (.l 1)) (.l 20000) U hj ld);have K13:=K2.trans K3;have li3:=K13.get li1 (W1.nin li1 U);have pt3:=pt1.ext (s9.of K13 W1.off);have s1:∀{F:lJ St Fl},aH (GJ (au L Z) (bI L Z (n+24))) ⟨Ix b w t i d l5 l6 l7 l8 l9,h3,I⟩=F->aH (Ce (au L Z) (bI L Z (n+24))) ⟨Ix b w t i d l5 l6 l7 l8 l9,h,I⟩=F:=λe=>aG (aY (qF (aK (aE (aJ U (aB aq (aB aq (aC aq))) (b5 U (aO e1))) aq BI)) (aM U (rJ (aK (aE (aJ U (aB aq (aB (bj aq ao (cE (by show _+1<=_;exact bE [_,_] [(.v 0,.l 10),(.v 1,.m 20 (.v 0))] 0 [20,1] (.a (.v 1) (.l 1)) (.l 16777216) U hj lt))) (aC (bj aq (gj (aC ao) U) (ud (bH li1) ba (by show _+1<=_;exact bE [_,_] [(.v 0,.l 10),(.v 1,.m 3 (.v 0))] 0 [3,1] (.a (.v 1) (.l 1)) (.l 16777216) U hj lg)))))) (b5 U (aO e3))) (bj aq ao (cE (by show _+1<=_;exact bE [_,_] [(.v 0,.l 10),(.v 1,.m 1010 (.v 0))] 0 [1010,1] (.a (.v 1) (.l 1)) (.l 16777216) U hj ld))) BI))))) (aM U aZ)) e;have K0:=(K1.trans K13).tob (b:=b);have BK:∀{h2:H},aD [w,mo] h3 h2->im h2 b N:=λk=>((ag.keep W K1).keep W1 K13).keep W3 k;induction ge0:g.isEmpty with
 |true=>refine⟨h3++[.list []],⟨_,s1 (bF (bK (Tx (aE aq (gj cx U) (CL (bH li3) ba)) (bq ge0 OD))))⟩,W3.app,BK aD.app,(K.trans K0).trans aD.app⟩
 |false=>
  have hg:g≠[]:=λe=>by rw[e]at ge0;exact nF ge0
  have K4:aD [w,mo] h3 ((h3++[AO.list []])++[AO.list g.dropLast]):=aD.app.trans aD.app;obtain⟨k,h5,e5,a5,W5,K5⟩:=Ep (L:=L) (Z:=Z) (n:=n) (vi:=(h3++[AO.list []]).length) (W3.app.app:Wo ((h3++[AO.list []])++[AO.list g.dropLast]) w mo) (pt3.ext (s9.of K4 W3.off)) hg ba (by exact bE [_,_] [(.v 0,.l 10),(.v 1,.m 20 (.v 0))] 0 [20,1] (.v 1) (.l 20000) U hj lt) (by rw[List.length_dropLast];exact Nat.le_trans (Nat.sub_le _ _) (Nat.le_trans lg (leT (Nat.mul_le_mul_left 3 hj) U)));refine⟨h5++[.list [.str aU]],⟨_,s1 (bF (bK (Tx (aE aq (gj cx U) (CL (bH li3) ba)) (aM ge0 (aE (aJ U (aB aq (aB aq (aC (Lw aq ao (ym ao) (bH li3) (JC (by exact bE [_,_] [(.v 0,.l 10),(.v 1,.m 3 (.v 0))] 0 [3,1] (.v 1) (.l 16777216) U hj lg)))))) (b5 U (aO e5))) (gj (aC ao) U) (IP (bH a5) ba))))))⟩,W5.app,BK ((K4.trans K5).trans aD.app),((K.trans K0).trans (K4.trans K5).tob).trans aD.app⟩
theorem EQ(W:Wo h w mo)(ag:im h b N)(hN:N<90000):KL (λh'=>bI L Z (n+25) I 890 [.obj b,.obj w] [] h=.ok (.bool S) h') (λh'=>Wo h' w mo) (λh'=>im h' b (N+100)) (λh'=>aD [b,w,mo] h h'):=by
 have lb:=ag.lt;have A0:PR h ((h++[AO.list []])++[AO.tup [.str [],.obj h.length,.str []]]) b w mo N h.length [] [] [] 0:=⟨⟨W.app.app,ag.app.app,aD.app.trans aD.app,bH ba,Nat.le_refl _⟩,.nil,by decide,by decide,by decide⟩;obtain⟨k,h1,hk,e1,A1⟩:=Fj (L:=L) (Z:=Z) (n:=n) A0 lb (by exact leT hN U);have lr:((List.range k).map λ(i:Nat)=>J.int i).length=k:=by rw[List.length_map,List.length_range]
 obtain⟨t,i,g,d,l5,l6,l7,l8,l9,h2,e2,A2⟩:=DG (L:=L) (Z:=Z) (n:=n+15) lb ((List.range k).map λ(i:Nat)=>.int i) fg (N+1) h.length 0 [] [] [] .unb .unb .unb .unb .unb h1 (by rw[lr,iZ];exact bE [_] [(.v 0,.l 4)] 0 [1] (.a (.v 0) (.l 1)) (.a (.l 999999999) (.l 1)) U hk) (by rw[lr];lia) (by rw[lr];exact bE [_,_] [(.a (.v 0) (.l 1),.l 90000),(.v 1,.l 4)] 0 [1,17] (.a (.a (.a (.v 0) (.l 1)) (.m 17 (.v 1))) (.l 1)) (.l 97000) U hN hk) A1;rw[lr]at A2;obtain⟨h3,⟨ah,e3⟩,W3,B3,K3⟩:=Am (L:=L) (Z:=Z) (n:=n) (l5:=l5) (l6:=l6) (l7:=l7) (l8:=l8) (l9:=l9) A2 (by lia) lb;exact⟨h3,bC Vv (L0:=[.obj b,.obj w,.unb,.unb,.unb,.unb,.unb,.unb,.unb,.unb,.unb]) U (aG (fm (aB ao (aB (gj cx U) (aC ao))) U U U (bZ (bv U) (bZ (bv U) (dj (bv U))))) (aG (sq U e1 e2) e3)),W3,B3.up (by exact bE [_,_] [(.v 0,.l 4)] 0 [17] (.a (.a (.v 1) (.l 1)) (.m 17 (.v 0))) (.a (.v 1) (.l 100)) U hk),K3⟩
end
section
variable{b a k:Nat}{x y z p q r w:List Nat}{c d:Nat}{base sz:Int}{v:J}
theorem nH:∀(y:List Nat)(f:Int)(j:Bool),ij sz S (y++[95]) f j=.none\/∃f',ij sz S (y++[95]) f j=Y (f',I)
 |[],f,j=>by induction j with
  |true=>exact .inr ⟨f,U⟩
  |false=>exact .inl rfl
 |c::y,f,j=>by show(bif aI (0<=cG c)&&aI (cG c<sz)then ij sz S (y++[95]) (f*sz+cG c) S else bif Nat.beq c 95&&j then ij sz S (y++[95]) f I else hH)=hH\/∃f',(bif aI (0<=cG c)&&aI (cG c<sz)then ij sz S (y++[95]) (f*sz+cG c) S else bif Nat.beq c 95&&j then ij sz S (y++[95]) f I else hH)=Y (f',I);cases aI (0<=cG c)&&aI (cG c<sz)with
  |true=>exact nH y _ S
  |false=>cases Nat.beq c 95&&j with
   |true=>exact nH y _ I
   |false=>exact .inl rfl
theorem tP(hf:aI (0<=cG c)=I)(h95:Nat.beq c 95=I):∀(y:List Nat)(f:Int)(j:Bool),ij sz S (y++c::r) f j=.none
 |[],f,j=>by show(bif aI (0<=cG c)&&_ then _ else bif Nat.beq c 95&&j then _ else hH)=hH;rw[hf,h95];rfl
 |d::y,f,j=>by show(bif aI (0<=cG d)&&aI (cG d<sz)then ij sz S (y++c::r) (f*sz+cG d) S else bif Nat.beq d 95&&j then ij sz S (y++c::r) f I else hH)=hH;cases aI (0<=cG d)&&aI (cG d<sz)with
  |true=>exact tP hf h95 y _ S
  |false=>cases Nat.beq d 95&&j with
   |true=>exact tP hf h95 y _ I
   |false=>rfl
theorem Lj:o0 10 y=(10,fj y):=by
 have e:∀p own,TF 10 own=I->∀q,di 10 p own q=q:=λp own h q=>by unfold di;rw[h,ku];rfl
 unfold o0;rw[e _ 16 (by decide),e _ 2 (by decide),e _ 8 (by decide)]
theorem nQ(e:lZ S w=y):fN w 10 S=yX S (eqL (y.take 1) [45]) (ij 10 S (fj y) 0 I):=by unfold fN;rw[e,Lj];rfl
theorem Gj{neg:Bool}{o:Option (Int×Bool)}(h:o=.none\/∃f,o=Y (f,I)):yX S neg o=.none:=by rcases h with rfl|⟨f,rfl⟩<;>rfl
theorem q9{c c':Nat}{r r':List Nat}(e:z=c::r)(hc:isBlank jE c=I)(e':z.reverse=c'::r')(hc':isBlank jE c'=I):lZ S z=z:=by
 have:=tS (s:=S) (p:=[]) (q:=[]) (.inl U) (.inl U) e hc e' hc'
 rwa[List.nil_append,List.append_nil,cond_true,List.append_nil]at this
theorem sF(hc:gu c=S):fj (c::r)=c::r:=(ro (sg:=[]) hc (.inl U)).1
theorem H9(R:gv b a x):fN (x++[95]) 10 S=.none:=by obtain⟨c,r,e,h0,hw⟩:=R.first;rw[nQ (q9 (z:=x++[95]) (c:=c) (r:=r++[95]) (c':=95) (r':=x.reverse) (by rw[e];rfl) (jV hw) (by rw[List.reverse_append];rfl) U),e,List.cons_append,sF hw,<-List.cons_append];exact Gj (nH _ 0 I)
theorem D9(R:gv b a x){t:List Nat}{c':Nat}(hf:aI (0<=cG c')=I)(h95:Nat.beq c' 95=I){d':Nat}{r':List Nat}(ht:(c'::t).reverse=d'::r')(hd:isBlank jE d'=I):fN (x++c'::t) 10 S=.none:=by obtain⟨c,r,e,h0,hw⟩:=R.first;rw[nQ (q9 (z:=x++c'::t) (c:=c) (r:=r++c'::t) (c':=d') (r':=r'++x.reverse) (by rw[e];rfl) (jV hw) (by rw[List.reverse_append,ht];rfl) hd),e,List.cons_append,sF hw,<-List.cons_append,tP hf h95];rfl
theorem Ej(R:gv b a x){t:List Nat}{c:Nat}(hc:isBlank jE c=I)(hs:∀neg,yX S neg (ij 10 S (fj (c::t++x)) 0 I)=.none):fN (c::t++x) 10 S=.none:=by obtain⟨c3,r3,e3,hw3⟩:=R.last (y:=c::t);rw[nQ (q9 (z:=c::t++x) U hc e3 (jV hw3))];exact hs _
def j8(w x:List Nat):Int:=bif !eqL (w.take 1) [48]then 10 else bif eqL w (x++[95])then 10 else 0
theorem vg(h:eqL (w.take 1) [48]=I):j8 w x=10:=by unfold j8;rw[h];rfl
theorem Es:j8 (x++[95]) x=10:=by unfold j8;rw[nG];cases eqL ((x++[95]).take 1) [48]<;>rfl
theorem kS(R:gv b a x)(hd:Nat.beq d 95=I):j8 (48::d::r) x=0:=by
 obtain⟨c,r',e,h0,hw⟩:=R.first;have:eqL (48::d::r) (x++[95])=I:=by rw[e];show(Nat.beq 48 c&&eqL (d::r) (r'++[95]))=I;induction t:Nat.beq 48 c with
  |false=>rfl
  |true=>rw[h0 (Nat.eq_of_beq_eq_true t).symm];show(Nat.beq d 95&&_)=I;rw[hd];rfl
 unfold j8;rw[this];rfl
structure HV(w x:List Nat):Prop where
 r:fN w (j8 w x) S=.none
 a:bV w=S
 l:w.length<=100
theorem jN(h1:bV x=S)(h2:bV y=S):bV (x++y)=S:=by unfold bV at*;simp only[List.all_append,h1,h2];rfl
noncomputable abbrev IM(x:List Nat):List (List Nat):=[x++[95],95::([]++x),49::([95,95]++x),x++32::[49],x++45::[],[],[45],[43],[48,120],45::([32]++x),[48,98,50],[48,111,56]]
theorem v6(R:gv b a x){t:List Nat}{c':Nat}(hf:aI (0<=cG c')=I)(h95:Nat.beq c' 95=I){d':Nat}{r':List Nat}(ht:(c'::t).reverse=d'::r')(hd:isBlank jE d'=I)(h48:fN (48::c'::t) 0 S=.none)(ha:bV (c'::t)=S)(hl:t.length<=10):HV (x++c'::t) x:=by obtain⟨c,r,e,h0,hw⟩:=R.first;refine⟨?_,jN (i6 R.ok) ha,by have:=R.ln;simp only[List.length_append,List.length_cons];exact bE [_,_] [(.v 0,.l 10),(.v 1,.l 60)] 0 [1,1] (.a (.v 1) (.a (.v 0) (.l 1))) (.l 100) U hl this⟩;induction z:Nat.beq c 48 with
 |true=>
  have ec:=Nat.eq_of_beq_eq_true z;have ex:x=[48]:=by exact e▸(h0 ec)▸ec▸rfl
  have w0:=kS (d:=c') (r:=t) R h95;rw[ex]at w0⊢;simp only[List.cons_append,List.nil_append,w0];exact h48
 |false=>rw[vg (by rw[e];show(Nat.beq c 48&&S)=I;simp only[z];rfl)];exact D9 R hf h95 ht hd
theorem rG(R:gv b a x){t:List Nat}{c:Nat}(hc:isBlank jE c=I)(h48:Nat.beq c 48=I)(hs:∀neg,yX S neg (ij 10 S (fj (c::t++x)) 0 I)=.none)(ha:bV (c::t)=S)(hl:t.length<=10):HV (c::t++x) x:=
 ⟨by rw[vg (by show(Nat.beq c 48&&S)=I;rw[h48];rfl)];exact Ej R hc hs,jN ha (i6 R.ok),by have:=R.ln;simp only[List.length_append,List.length_cons];exact bE [_,_] [(.v 0,.l 10),(.v 1,.l 60)] 0 [1,1] (.a (.a (.v 0) (.l 1)) (.v 1)) (.l 100) U hl this⟩
theorem H4(R:gv b a x){k:Nat}(e:(IM x)[k]?=Y w):HV w x:=by
 match k,e with
 |0,e=>exact(sI e)▸⟨by rw[Es];exact H9 R,jN (i6 R.ok) U,by have:=R.ln;rw[List.length_append];show _+1<=_;exact bE [_] [(.v 0,.l 60)] 0 [1] (.a (.v 0) (.l 1)) (.l 100) U this⟩
 |1,e=>exact(sI e)▸rG R U U (λneg=>rfl) U (by decide)
 |2,e=>exact(sI e)▸rG R U U (λneg=>rfl) U (by decide)
 |3,e=>exact(sI e)▸v6 R (by decide) U U U U U (by decide)
 |4,e=>exact(sI e)▸v6 R (by decide) U U U U U (by decide)
 |5,e=>exact(sI e)▸⟨U,U,by decide⟩
 |6,e=>exact(sI e)▸⟨U,U,by decide⟩
 |7,e=>exact(sI e)▸⟨U,U,by decide⟩
 |8,e=>exact(sI e)▸⟨by rw[kS R rfl];rfl,U,by decide⟩
 |9,e=>exact(sI e)▸rG R U U (λneg=>rfl) U (by decide)
 |10,e=>exact(sI e)▸⟨by rw[kS R rfl];rfl,U,by decide⟩
 |11,e=>exact(sI e)▸⟨by rw[kS R rfl];rfl,U,by decide⟩
 |_+12,e=>exact nS e
end
section
variable{L:Nat}{Z:List Int}{n:Nat}{hd:Bool}{h h' h0 h1:H}{w mo b N i k a bs:Nat}{v l1 l2 l3 l4 l5 l6 l7 l8 l9:J}{x y sg fr p q:List Nat}{g:Nat->Nat}
noncomputable def rB(k:Nat)(r:List Nat):List Nat:=bif aI ((k:Int)>0)then(r.take k++[95])++r.drop k else r
def D7(up:Bool)(r:List Nat):List Nat:=bif up then r.map Ez else r
structure Mx(b a:Nat)(x:List Nat):Prop where
 row:gv b a x
 oct:b=8->fN (48::x.filter (λd=>!Nat.beq d 95)) 0 S=.int (a:Int)
theorem GI(G:J5 g){ds:List Nat}(h:∀d∈ds,d<36):(ds.map g).filter (λd=>!Nat.beq d 95)=ds.map g:=List.filter_eq_self.mpr λc m=>by obtain⟨d,hd,rfl⟩:=List.mem_map.mp m;induction z:Nat.beq (g d) 95 with
 |false=>rfl
 |true=>
  have:=G.f d (h d hd);rw[Nat.eq_of_beq_eq_true z]at this;have e:cG 95=-1:=by decide
  lia
theorem Od(G:J5 g)(g0:g 0=48)(hb:2<=b)(hb2:b<=36)(ha:a<1000000)(hk:k<(digs b (a+1) a).length):Mx b a (bif aI ((k:Int)>0)then((digs b (a+1) a).take k).map g++95::((digs b (a+1) a).drop k).map g else(digs b (a+1) a).map g):=by have lt:∀d∈digs b (a+1) a,d<b:=oy hb;induction z:aI ((k:Int)>0)with
 |false=>exact⟨rD G hb hb2 ha,λe=>by subst e;simp only[cond_false,GI G λd m=>Nat.lt_of_lt_of_le (lt d m) hb2];exact zP G g0 ha⟩
 |true=>
  have hk0:=of_decide_eq_true z;refine⟨MK G hb hb2 ha (by exact fw.mp (of_decide_eq_true z)) hk,λe=>?_⟩;subst e;simp only[cond_true,List.filter_append,List.filter_cons,GI G λd m=>Nat.lt_of_lt_of_le (lt d (List.mem_of_mem_take m)) hb2,GI G λd m=>Nat.lt_of_lt_of_le (lt d (List.mem_of_mem_drop m)) hb2];have:(((digs 8 (a+1) a).take k).map g++if(!Nat.beq 95 95)=S then 95::((digs 8 (a+1) a).drop k).map g else((digs 8 (a+1) a).drop k).map g)=(digs 8 (a+1) a).map g:=by rw[if_neg (by decide),<-List.map_append,List.take_append_drop]
  exact this▸zP G g0 ha
theorem N4(hb:2<=b)(hb2:b<=36)(ha:a<1000000)(hk:k<(cY b a).length)(up:Bool):Mx b a (D7 up (rB k (cY b a))):=by
 have hk:k<(digs b (a+1) a).length:=by unfold cY at hk;rwa[List.length_map]at hk
 induction up with
 |false=>have:=Od C8 U hb hb2 ha hk;unfold D7 rB cY;rw[cond_false,<-List.map_take,<-List.map_drop,List.append_assoc];exact this
 |true=>
  have:=Od OI U hb hb2 ha hk;have e:D7 S (rB k (cY b a))=bif aI ((k:Int)>0)then((digs b (a+1) a).take k).map (λd=>Ez (jJ d))++95::((digs b (a+1) a).drop k).map (λd=>Ez (jJ d))else(digs b (a+1) a).map (λd=>Ez (jJ d)):=by unfold D7 rB cY;simp only[cond_true];cases aI ((k:Int)>0)with
   |true=>rw[cond_true,cond_true,List.map_append,List.map_append,<-List.map_take,<-List.map_drop,List.map_map,List.map_map,List.append_assoc];rfl
   |false=>simp only[cond_false,cond_false,List.map_map];rfl
  exact e▸this
noncomputable abbrev pK(b:Nat)(l1 l2 l3 l4 l5 l6 l7 l8 l9:J):List J:=[.obj b,l1,l2,l3,l4,l5,l6,l7,l8,l9,.unb]
structure RH(h0 h:H)(b w mo N:Nat):Prop where
 wo:Wo h w mo
 bx:im h b N
 kp:aD [b,w,mo] h0 h
theorem RH.go{N2:Nat}(R:RH h0 h b w mo N)(W:Wo h' w mo)(ag:im h' b N2)(K:aD [b,w,mo] h h'):RH h0 h' b w mo N2:=⟨W,ag,R.kp.trans K⟩
theorem RH.all(R:RH h0 h b w mo N)(K:∀X,aD X h h'):RH h0 h' b w mo N:=⟨R.wo.keep (K []) λ_ _ _ _=>List.not_mem_nil,R.bx.any (K []) List.not_mem_nil,R.kp.trans (K _)⟩
abbrev pW(bs:Nat):Prop:=bs=10\/bs=16\/bs=2\/bs=8\/bs=36
theorem pW.le(ag:pW bs):2<=bs/\bs<=36:=by rcases ag with rfl|rfl|rfl|rfl|rfl<;>decide
theorem My{d:Nat}(e:([.int 10,.int 16,.int 2,.int 8,.int 36]:List J)[d]?=Y v):∃bs:Nat,v=.int (bs:Int)/\pW bs:=by
 match d,e with
 |0,e=>exact(sI e)▸⟨10,U,.inl U⟩
 |1,e=>exact(sI e)▸⟨16,U,.inr (.inl U)⟩
 |2,e=>exact(sI e)▸⟨2,U,.inr (.inr (.inl U))⟩
 |3,e=>exact(sI e)▸⟨8,U,.inr (.inr (.inr (.inl U)))⟩
 |4,e=>exact(sI e)▸⟨36,U,.inr (.inr (.inr (.inr U)))⟩
 |_+5,e=>exact nS e
theorem LH{d:Nat}(e:([.str [],.str [45],.str [43]]:List J)[d]?=Y v):∃sg,v=.str sg/\gR sg:=by
 match d,e with
 |0,e=>exact(sI e)▸⟨_,U,.inl U⟩
 |1,e=>exact(sI e)▸⟨_,U,.inr (.inl U)⟩
 |2,e=>exact(sI e)▸⟨_,U,.inr (.inr U)⟩
 |_+3,e=>exact nS e
theorem QH{d:Nat}(e:([.str [32],.str [],.str [10]]:List J)[d]?=Y v):∃q,v=.str q/\dq q:=by
 match d,e with
 |0,e=>obtain rfl:=sI e;exact⟨_,U,.inr (.inl U)⟩
 |1,e=>obtain rfl:=sI e;exact⟨_,U,.inl U⟩
 |2,e=>obtain rfl:=sI e;exact⟨_,U,.inr (.inr (.inr U))⟩
 |_+3,e=>exact nS e
theorem LN{d:Nat}(e:([.str [],.str [32],.str [9]]:List J)[d]?=Y v):∃q,v=.str q/\dq q:=by
 match d,e with
 |0,e=>exact(sI e)▸⟨_,U,.inl U⟩
 |1,e=>exact(sI e)▸⟨_,U,.inr (.inl U)⟩
 |2,e=>exact(sI e)▸⟨_,U,.inr (.inr (.inl U))⟩
 |_+3,e=>exact nS e
theorem Mc{s:St}:G9 .Pow (.int 10) (.int 6) s=.ok (.int ((1000000:Nat):Int)) s:=Dg U (by decide) (by decide)
inductive Y8(x:lJ St Fl)(ms:List (M Fl))(h0:H)(b w mo N:Nat):Prop where
 |mk (bs a k:Nat) (sg:List Nat) (h':H) (e:xt x ms (pK b (.int (bs:Int)) (.int (a:Int)) (.str sg) (.str (cY bs a)) (.int (k:Int)) .unb .unb .unb .unb) h') (hb:pW bs) (ha:a<1000000) (hs:gR sg) (hk:k<(cY bs a).length) (R:RH h0 h' b w mo N):Y8 x ms h0 b w mo N
theorem T7(R:RH h0 h b w mo N)(hN:N<90000):Y8 (SG (au L Z) (bI L Z (n+24)) ⟨pK b .unb .unb .unb .unb .unb .unb .unb .unb .unb,h,I⟩) (BU (au L Z) (bI L Z (n+24))) h0 b w mo (N+4):=by
 obtain⟨d1,v,hv,h1,e1,W1,B1,K1⟩:=zd (L:=L) (Z:=Z) (n:=n+23) (m:=5) (A:=pK b .unb .unb .unb .unb .unb .unb .unb .unb .unb) (h1:=h) (h:=h) (es:=[D (.int 10),D (.int 16),D (.int 2),D (.int 8),D (.int 36)]) (os:=[.int 10,.int 16,.int 2,.int 8,.int 36]) U R.wo R.bx (by exact leT hN U) U U (by decide) (by decide);obtain⟨bs,rfl,hb⟩:=My hv;obtain⟨a,ha,h2,e2,W2,B2,K2⟩:=mA (L:=L) (Z:=Z) (n:=n+23) (m:=1000000) W1 B1 (by exact bE [_] [(.a (.v 0) (.l 1),.l 90000)] 0 [1] (.a (.a (.v 0) (.l 1)) (.l 1)) (.l 100000) U hN) (by decide) (by decide);obtain⟨d3,v3,hv3,h3,e3,W3,B3,K3⟩:=zd (L:=L) (Z:=Z) (n:=n+23) (m:=3) (A:=pK b (.int (bs:Int)) .unb .unb .unb .unb .unb .unb .unb .unb) (h1:=h2) (h:=h2) (es:=[D (.str []),D (.str [45]),D (.str [43])]) (os:=[.str [],.str [45],.str [43]]) U W2 B2 (by exact bE [_] [(.a (.v 0) (.l 1),.l 90000)] 0 [1] (.a (.a (.a (.v 0) (.l 1)) (.l 1)) (.l 1)) (.l 99999) U hN) U U (by decide) (by decide);obtain⟨sg,rfl,hs⟩:=LH hv3;have R3:=((((R.go W1 B1 K1).go W2 B2 K2).go W3 B3 K3).all (λX=>aD.app (t:=[.tup [.int (a:Int),.str sg]])));obtain⟨h4,e4,K4⟩:=kr (L:=L) (Z:=Z) (n:=n+23) (h:=h3++[.tup [.int (a:Int),.str sg]]) (b:=bs) (m:=a) hb.le.1 hb.le.2 (by exact bE [_] [(.a (.v 0) (.l 1),.l 1000000)] 0 [1] (.v 0) (.l 1000000) U ha);have R4:=R3.all K4;have lf:(cY bs a).length<=20:=by unfold cY;rw[List.length_map];exact mP hb.le.1 ha
 have lp:0<(cY bs a).length:=by obtain⟨d,r,e,_⟩:=oD hb.le.1 (Nat.lt_succ_self a);unfold cY;exact e▸Nat.succ_pos _
 obtain⟨k,hk,h5,e5,W5,B5,K5⟩:=mA (L:=L) (Z:=Z) (n:=n+23) (m:=(cY bs a).length) R4.wo R4.bx (by exact bE [_] [(.a (.v 0) (.l 1),.l 90000)] 0 [1] (.a (.a (.a (.a (.v 0) (.l 1)) (.l 1)) (.l 1)) (.l 1)) (.l 100000) U hN) lp (by exact bE [_] [(.v 0,.l 20)] 0 [1] (.a (.v 0) (.l 1)) (.l 1073741824) U lf);refine⟨bs,a,k,sg,h5,?_,hb,ha,hs,hk,R4.go W5 B5 K5⟩;exact aG (bz e1 (bv U)) (aG (fm (aB (aJ U (aB aq (aC (bj ao ao Mc))) (b5 U (aO e2))) (aC e3)) U U U (bZ (bv U) (dj (bv U))))
  (aG (bz (aJ U (aB aq (aC aq)) (b5 U (aO e4))) (bv U)) (aG (bz (aJ U (aB aq (aC (aJ U (aC aq) (iF (fM (by exact leT lf U)))))) (b5 U (aO e5))) (bv U)) U)))
inductive YW(x:lJ St Fl)(ms:List (M Fl))(h0:H)(b w mo N bs a:Nat)(l2 l3 l5:J):Prop where
 |mk (r fr:List Nat) (h':H) (e:xt x ms (pK b (.int (bs:Int)) l2 l3 (.str r) l5 (.str fr) .unb .unb .unb) h') (F:dJ bs fr) (X:Mx bs a r) (R:RH h0 h' b w mo N):YW x ms h0 b w mo N bs a l2 l3 l5
theorem El(hb:pW bs):∃o fr,Ob (.int (bs:Int)) [((.int 16),(.str [48,120])),((.int 2),(.str [48,98])),((.int 8),(.str [48,111]))]=Y o/\o.getD (.str [])=.str fr/\dJ bs fr:=by
 rcases hb with rfl|rfl|rfl|rfl|rfl
 ·exact⟨_,_,U,U,.no _⟩
 ·exact⟨_,_,U,U,.x⟩
 ·exact⟨_,_,U,U,.b⟩
 ·exact⟨_,_,U,U,.o⟩
 ·exact⟨_,_,U,U,.no _⟩
theorem T0(R:RH h0 h b w mo N)(hN:N<90000)(hb:pW bs)(ha:a<1000000)(hk:k<(cY bs a).length):YW (aH (BU (au L Z) (bI L Z (n+24))) ⟨pK b (.int (bs:Int)) l2 l3 (.str (cY bs a)) (.int (k:Int)) .unb .unb .unb .unb,h,I⟩) (A8 (au L Z) (bI L Z (n+24))) h0 b w mo (N+2) bs a l2 l3 (.int (k:Int)):=by
 have lf:(cY bs a).length<=20:=by unfold cY;simp only[List.length_map];exact mP hb.le.1 ha
 obtain⟨d1,hd1,h1,e1,W1,B1,K1⟩:=mA (L:=L) (Z:=Z) (n:=n+23) (m:=2) R.wo R.bx (by exact leT hN U) (by decide) (by decide);obtain⟨d2,hd2,h2,e2,W2,B2,K2⟩:=mA (L:=L) (Z:=Z) (n:=n+23) (m:=3) W1 B1 (by exact bE [_] [(.a (.v 0) (.l 1),.l 90000)] 0 [1] (.a (.a (.v 0) (.l 1)) (.l 1)) (.l 100000) U hN) (by decide) (by decide);have s4:∀(ah:List J)(P:H),ah[4]?=Y (.str (cY bs a))->ah[5]?=Y (.int (k:Int))->fB (bJ (aW (au L Z) .Gt (B 5) (D (.int 0)))) (bp .Add (bp .Add (fU (au L Z) (B 4) (D .none) (B 5)) (D (.str [95]))) (fU (au L Z) (B 4) (B 5) (D .none))) (B 4) ⟨ah,P,I⟩=.ok (.str (rB k (cY bs a))) ⟨ah,P,I⟩:=λah P a4 a5=>by refine dy (aK (aE (bM a5 U) ao U)) ?_;unfold rB;cases aI ((k:Int)>0)with
  |true=>exact bj (bj (dQ (bM a4 U) ao (bM a5 U) (gn (by exact leT lf U))) ao (cE (by simp only[List.length_take];show _+1<=_;exact leT (Nat.succ_le_succ (Nat.le_trans (Nat.min_le_right _ _) lf)) U))) (dQ (bM a4 U) (bM a5 U) ao (ui (by exact leT lf U))) (cE (by simp only[List.length_append,List.length_take,List.length_drop];show _+1+_<=_;exact leT (Zx hk lf) U))
  |false=>exact bM a4 rfl
 obtain⟨o,fr0,f1,f2,F0⟩:=El hb;have s5:∃fr,dJ bs fr/\fB (bJ (aW (au L Z) .Eq (aN (au L Z) (bI L Z (n+24)) (.sref 845) [(B 0),(D (.int 2))] []) (D (.int 0)))) (qA [((.int 16),(.str [48,120])),((.int 2),(.str [48,98])),((.int 8),(.str [48,111]))] (B 1) (D (.str []))) (D (.str [])) ⟨pK b (.int (bs:Int)) l2 l3 (.str (rB k (cY bs a))) (.int (k:Int)) .unb .unb .unb .unb,h,I⟩=.ok (.str fr) ⟨pK b (.int (bs:Int)) l2 l3 (.str (rB k (cY bs a))) (.int (k:Int)) .unb .unb .unb .unb,h1,I⟩:=by induction z:aI ((d1:Int)=0)with
  |true=>exact⟨fr0,F0,dy (aK (aE (aJ U (aB aq (aC ao)) (b5 U (aO e1))) ao U)) (bq z (by exact f2▸Bg aq ao f1))⟩
  |false=>exact⟨[],.no _,dy (aK (aE (aJ U (aB aq (aC ao)) (b5 U (aO e1))) ao U)) (aM z ao)⟩
 obtain⟨fr,F,e5⟩:=s5;have X:=N4 hb.le.1 hb.le.2 ha hk (aI ((d2:Int)=0));have X0:=(N4 hb.le.1 hb.le.2 ha hk I).row;have X0:(rB k (cY bs a)).all gu=S/\(rB k (cY bs a)).length<=60:=⟨X0.ok,X0.ln⟩;have s6:fB (bJ (aW (au L Z) .Eq (aN (au L Z) (bI L Z (n+24)) (.sref 845) [(B 0),(D (.int 3))] []) (D (.int 0)))) (bk (au L Z) (bI L Z (n+24)) (B 4) 39 (am "upper") []) (B 4) ⟨pK b (.int (bs:Int)) l2 l3 (.str (rB k (cY bs a))) (.int (k:Int)) (.str fr) .unb .unb .unb,h1,I⟩=.ok (.str (D7 (aI ((d2:Int)=0)) (rB k (cY bs a)))) ⟨pK b (.int (bs:Int)) l2 l3 (.str (rB k (cY bs a))) (.int (k:Int)) (.str fr) .unb .unb .unb,h2,I⟩:=by refine dy (aK (aE (aJ U (aB aq (aC ao)) (b5 U (aO e2))) ao U)) ?_;unfold D7;cases aI ((d2:Int)=0)with
  |true=>exact aR aq (DL U cx (zv (by lia) (i6 X0.1)))
  |false=>exact aM U aq
 exact⟨_,fr,h2,aG (bz (s4 _ _ U U) (bv U)) (aG (bz e5 (bv U)) (aG (bz s6 (bv U)) U)),F,X,(R.go W1 B1 K1).go W2 B2 K2⟩
end
section
variable{L:Nat}{Z:List Int}{n:Nat}{hd:Bool}{h h' h0 h1:H}{w mo b N i k a bs:Nat}{v l1 l2 l3 l4 l5 l6 l7 l8 l9:J}{x y sg fr p q t:List Nat}{g:Nat->Nat}
theorem Qz{v1 v2:J}:bI L Z (n+1) hd 386 [v1,v2] [] h=bI L Z (n+1) hd 386 [v1,v2,.bool I] [] h:=(DI n hd _ [v1,v2,.bool I] h U).trans (DI n hd [v1,v2,.bool I] [v1,v2,.bool I] h U).symm
theorem Vu:(ft 386).map (λfi=>(fi.pn.length,fi.dfl.length,(fi.pn[2]?).bind (lB (au L Z))))=Y (3,1,Y 72):=by kernel_rfl
theorem Vp{v1 v2 v3:J}:bI L Z (n+1) hd 386 [v1,v2] [(72,v3)] h=bI L Z (n+1) hd 386 [v1,v2,v3] [] h:=by
 obtain⟨fi,e1,e2⟩:=aP.mp (Vu (L:=L) (Z:=Z));rw[lC,lC]at e2;obtain⟨e3,e4,e5⟩:=e2;have b1:uX (au L Z) fi [v1,v2] [(72,v3)]=Y [v1,v2,v3]:=by show(bif S&&Nat.beq fi.pn.length 3&&Nat.beq fi.dfl.length 1&&S&&((fi.pn[2]?).bind (lB (au L Z))==Y 72)then Y [v1,v2,v3]else .none)=_;rw[e3,e4,e5];rfl
 have b2:uX (au L Z) fi [v1,v2,v3] []=Y [v1,v2,v3]:=by show zH fi.pn.length fi.dfl [v1,v2,v3]=_;unfold zH;rw[e3,e4,List.drop_eq_nil_of_le (by rw[e4];exact Nat.le_of_ble_eq_true U)];rfl
 show(match ft 386 with
  |some fi=>zZ (au L Z) (bI L Z n) fi hd [v1,v2] [(72,v3)] h
  |.none=>.stuck)=(match ft 386 with
  |some fi=>zZ (au L Z) (bI L Z n) fi hd [v1,v2,v3] [] h
  |.none=>.stuck)
 rw[e1];unfold zZ;dsimp only;exact b1▸b2▸rfl
theorem Lg{T:aT}{G:cI}{a:J}{es:List (M J)}{vs kv:List J}{ks:List (Nat×M J)}{s s1 s2:St}{R:lJ St J}(hc:ka T a=S)(h1:db es s=.ok vs s1)(h2:db (ks.map (·.2)) s1=.ok kv s2)(h3:pg T G a vs ((ks.map (·.1)).zip kv) s2=R):aN T G a es ks s=R:=Rh hc h1 h2 h3
theorem tT{T:aT}{k:Int}{s:St}:p7 T .NotEq (.int k) (.int k) s=.ok (.bool I) s:=
 dR (o:=nK (.int k) (.int k)) (f:=λt=>yes (!t)) (a:=S) (by show Y (aI (k=k))=Y S;rw[decide_eq_true rfl]) rfl
abbrev MQ(h h':H):Prop:=∀X,aD X h h'
noncomputable abbrev Ah(p sg fr x q:List Nat):List Nat:=(((p++sg)++fr)++x)++q
theorem xz:Ah p sg fr x q=p++((sg++(fr++x))++q):=by simp only[Ah,List.append_assoc]
theorem y6(hs:gR sg):bV sg=S/\sg.length<=1:=by rcases hs with rfl|rfl|rfl<;>decide
theorem qd(hq:dq q):bV q=S/\q.length<=1:=by rcases hq with rfl|rfl|rfl|rfl<;>decide
theorem dJ.ok(F:dJ bs fr):bV fr=S/\fr.length<=2:=by induction F<;>exact⟨U,Nat.le_of_ble_eq_true U⟩
inductive Zl(x:lJ St Fl)(ms:List (M Fl))(h0:H)(b w mo N:Nat)(l1 l2:J)(a:Nat)(sg fr r:List Nat)(l5:J):Prop where
 |mk (p q:List Nat) (h':H) (e:xt x ms (pK b l1 l2 (.str sg) (.str r) l5 (.str fr) (.str (Ah p sg fr r q)) (.int (kG sg a)) .unb) h') (hp:dq p) (hq:dq q) (R:RH h0 h' b w mo N):Zl x ms h0 b w mo N l1 l2 a sg fr r l5
theorem U1(R:RH h0 h b w mo N)(hN:N<90000)(hs:gR sg)(F:dJ bs fr)(lx:x.length<=60):Zl (aH (A8 (au L Z) (bI L Z (n+24))) ⟨pK b l1 (.int (a:Int)) (.str sg) (.str x) l5 (.str fr) .unb .unb .unb,h,I⟩) (Bj (au L Z) (bI L Z (n+24))) h0 b w mo (N+2) l1 (.int (a:Int)) a sg fr x l5:=by
 obtain⟨d1,v1,hv1,h1,e1,W1,B1,K1⟩:=zd (L:=L) (Z:=Z) (n:=n+23) (m:=3) (A:=pK b l1 (.int (a:Int)) (.str sg) (.str x) l5 (.str fr) .unb .unb .unb) (h1:=h) (h:=h) (es:=[D (.str [32]),D (.str []),D (.str [10])]) (os:=[.str [32],.str [],.str [10]]) U R.wo R.bx (by exact leT hN U) U U (by decide) (by decide);obtain⟨p,rfl,hp⟩:=QH hv1;obtain⟨d2,v2,hv2,h2,e2,W2,B2,K2⟩:=zd (L:=L) (Z:=Z) (n:=n+23) (m:=3) (A:=pK b l1 (.int (a:Int)) (.str sg) (.str x) l5 (.str fr) .unb .unb .unb) (h1:=h1) (h:=h1) (es:=[D (.str []),D (.str [32]),D (.str [9])]) (os:=[.str [],.str [32],.str [9]]) U W1 B1 (by exact bE [_] [(.a (.v 0) (.l 1),.l 90000)] 0 [1] (.a (.a (.v 0) (.l 1)) (.l 1)) (.l 99999) U hN) U U (by decide) (by decide);obtain⟨q,rfl,hq⟩:=LN hv2;have s8:∀(ah:List J)(P:H),ah[3]?=Y (.str sg)->ah[2]?=Y (.int (a:Int))->fB (bJ (aW (au L Z) .Eq (B 3) (D (.str [45])))) (bp .Sub (D (.int 0)) (B 2)) (B 2) ⟨ah,P,I⟩=.ok (.int (kG sg a)) ⟨ah,P,I⟩:=λah P a3 a2=>by refine dy (p:=eqL sg [45]) (aK (aE (bM a3 U) ao U)) ?_;unfold kG;cases eqL sg [45]with
  |true=>simp only[cond_true,cond_true,show-(a:Int)=0-(a:Int) by exact(Int.zero_sub _).symm];exact bj ao (bM a2 U) rfl
  |false=>exact bM a2 rfl
 have ls:=(y6 hs).2;have lf:=F.ok.2;have lp:=(qd hp).2;have lq:=(qd hq).2;refine⟨p,q,h2,?_,hp,hq,(R.go W1 B1 K1).go W2 B2 K2⟩;exact aG (bz (bj (bj (bj (bj e1 aq (cE (by exact bE [_,_] [(.v 0,.l 1),(.v 1,.l 1)] 0 [1,1] (.a (.v 1) (.v 0)) (.l 16777216) U ls lp))) aq (cE (by simp only[List.length_append];exact bE [_,_,_] [(.v 0,.l 1),(.v 1,.l 2),(.v 2,.l 1)] 0 [1,1,1] (.a (.a (.v 2) (.v 0)) (.v 1)) (.l 16777216) U ls lf lp))) aq (cE (by simp only[List.length_append,List.length_append];exact bE [_,_,_,_] [(.v 0,.l 60),(.v 1,.l 1),(.v 2,.l 2),(.v 3,.l 1)] 0 [1,1,1,1] (.a (.a (.a (.v 3) (.v 1)) (.v 2)) (.v 0)) (.l 16777216) U lx ls lf lp))) e2 (cE (by simp only[List.length_append,List.length_append,List.length_append];exact bE [_,_,_,_,_] [(.v 0,.l 60),(.v 1,.l 1),(.v 2,.l 2),(.v 3,.l 1),(.v 4,.l 1)] 0 [1,1,1,1,1] (.a (.a (.a (.a (.v 3) (.v 1)) (.v 2)) (.v 0)) (.v 4)) (.l 16777216) U lx ls lf lp lq))) (bv U)) (aG (bz (s8 _ _ U U) (bv U)) U)
theorem Uy(hb:pW bs)(hs:gR sg)(F:dJ bs fr)(X:Mx bs a x)(hp:dq p)(hq:dq q):vD (λh'=>xt (aH (Bj (au L Z) (bI L Z (n+24))) ⟨pK b (.int (bs:Int)) (.int (a:Int)) (.str sg) (.str x) l5 (.str fr) (.str (Ah p sg fr x q)) (.int (kG sg a)) .unb,h,I⟩) (w9 (au L Z) (bI L Z (n+24))) (pK b (.int (bs:Int)) (.int (a:Int)) (.str sg) (.str x) l5 (.str fr) (.str (Ah p sg fr x q)) (.int (kG sg a)) .unb) h') (λh'=>MQ h h'):=by
 have b0:bs≠0:=by have:=hb.le.1;exact Nat.ne_of_gt (bE [_] [(.l 2,.v 0)] 1 [1] (.l 1) (.v 0) U this)
 have bn:(bs:Int).natAbs<=100:=by have:=hb.le.2;exact(leT this rfl:bs<=100)
 have xa:=i6 X.row.ok;have xl:=X.row.ln;obtain⟨sa,sl⟩:=y6 hs;obtain⟨fa,fl⟩:=F.ok;obtain⟨pa,pl⟩:=qd hp;obtain⟨qa,ql⟩:=qd hq;have ta:bV (Ah p sg fr x q)=S:=jN (jN (jN (jN pa sa) fa) xa) qa;have tl:(Ah p sg fr x q).length<=1000000:=by simp only[List.length_append,List.length_append,List.length_append,List.length_append];exact bE [_,_,_,_,_] [(.v 0,.l 60),(.v 1,.l 1),(.v 2,.l 2),(.v 3,.l 1),(.v 4,.l 1)] 0 [1,1,1,1,1] (.a (.a (.a (.a (.v 3) (.v 1)) (.v 2)) (.v 0)) (.v 4)) (.l 1000000) U xl sl fl pl ql
 obtain⟨h1,e1,K1⟩:=kX (L:=L) (Z:=Z) (n:=n+23) (h:=h) (aS:=S) ta tl bn;obtain⟨h2,e2,K2⟩:=kX (L:=L) (Z:=Z) (n:=n+23) (h:=h1) (aS:=I) ta tl bn;rw[xz,Fu X.row F hs hp hq b0,<-xz]at e1 e2;rw[<-Qz]at e2;have t9:(pj (bJ (aW (au L Z) .NotEq (aN (au L Z) (bI L Z (n+24)) (.sref 386) [(B 7),(B 1),(D (.bool S))] []) (B 8))) (pj (bJ (aW (au L Z) .NotEq (aN (au L Z) (bI L Z (n+24)) (.sref 386) [(B 7),(B 1)] []) (B 8))) (M.ret I))) ⟨pK b (.int (bs:Int)) (.int (a:Int)) (.str sg) (.str x) l5 (.str fr) (.str (Ah p sg fr x q)) (.int (kG sg a)) .unb,h,I⟩=.ok I ⟨pK b (.int (bs:Int)) (.int (a:Int)) (.str sg) (.str x) l5 (.str fr) (.str (Ah p sg fr x q)) (.int (kG sg a)) .unb,h2,I⟩:=
  qF (aK (aE (aJ U (aB aq (aB aq (aC ao))) (b5 U (aO e1))) aq tT)) (aM U (rJ (aK (aE (aJ U (aB aq (aC aq)) (b5 U (aO e2))) aq tT))))
 have t10a:∃h3,(cQ (bJ (aW (au L Z) .NotEq (B 6) (D (.str [])))) (cQ (bJ (aW (au L Z) .NotEq (aN (au L Z) (bI L Z (n+24)) (.sref 386) [(B 7),(D (.int 0))] [(72,(D (.bool S)))]) (B 8))) (M.ret S))) ⟨pK b (.int (bs:Int)) (.int (a:Int)) (.str sg) (.str x) l5 (.str fr) (.str (Ah p sg fr x q)) (.int (kG sg a)) .unb,h2,I⟩=.ok I ⟨pK b (.int (bs:Int)) (.int (a:Int)) (.str sg) (.str x) l5 (.str fr) (.str (Ah p sg fr x q)) (.int (kG sg a)) .unb,h3,I⟩/\MQ h2 h3:=by induction fe:fr with
  |nil=>exact⟨h2,mW (aK (aE aq ao BI)) (aM U jk),λX=>aD.refl⟩
  |cons f0 f1=>obtain⟨h3,e3,K3⟩:=kX (L:=L) (Z:=Z) (n:=n+23) (h:=h2) (base:=0) (aS:=S) ta tl (by decide);rw[xz,wg X.row F hs hp hq b0 (by exact fe▸List.cons_ne_nil _ _),<-xz,<-Vp,fe]at e3;exact⟨h3,mW (aK (aE aq ao U)) (bq U (mR (aK (aE (Lg U (aB aq (aC ao)) (aC ao) (b5 U (aO e3))) aq tT)))),K3⟩
 obtain⟨h3,t10a,K3⟩:=t10a;have t10b:∃h4,(cQ (bJ (aW (au L Z) .Eq (B 1) (D (.int 10)))) (cQ (bJ (aW (au L Z) .NotEq (aN (au L Z) (bI L Z (n+24)) (.sref 386) [(bp .Add (B 3) (B 4)),(D (.int 0)),(D (.bool S))] []) (B 8))) (M.ret S))) ⟨pK b (.int (bs:Int)) (.int (a:Int)) (.str sg) (.str x) l5 (.str fr) (.str (Ah p sg fr x q)) (.int (kG sg a)) .unb,h3,I⟩=.ok I ⟨pK b (.int (bs:Int)) (.int (a:Int)) (.str sg) (.str x) l5 (.str fr) (.str (Ah p sg fr x q)) (.int (kG sg a)) .unb,h4,I⟩/\MQ h3 h4:=by induction z:aI ((bs:Int)=10)with
  |false=>exact⟨h3,mW (aK (aE aq ao U)) (aM z jk),λX=>aD.refl⟩
  |true=>
   have eb:bs=10:=by have:=of_decide_eq_true z;exact pu.mp (of_decide_eq_true z)
   obtain⟨h4,e4,K4⟩:=kX (L:=L) (Z:=Z) (n:=n+23) (h:=h3) (x:=sg++x) (base:=0) (aS:=S) (jN sa xa) (by simp only[List.length_append];exact bE [_,_] [(.v 0,.l 60),(.v 1,.l 1)] 0 [1,1] (.a (.v 1) (.v 0)) (.l 1000000) U xl sl) (by decide);have e6:=zQ (p:=[]) (by exact eb▸X.row) hs (.inl U);rw[List.nil_append,List.append_nil,List.nil_append]at e6;rw[e6]at e4;exact⟨h4,mW (aK (aE aq ao U)) (bq z (mR (aK (aE (aJ U (aB (bj aq aq (cE (by exact bE [_,_] [(.v 0,.l 60),(.v 1,.l 1)] 0 [1,1] (.a (.v 1) (.v 0)) (.l 16777216) U xl sl))) (aB ao (aC ao))) (b5 U (aO e4))) aq tT)))),K4⟩
 obtain⟨h4,t10b,K4⟩:=t10b;have t11:∃h5,(cQ (bJ (aW (au L Z) .Eq (B 1) (D (.int 8)))) (cQ (bJ (aW (au L Z) .NotEq (aN (au L Z) (bI L Z (n+24)) (.sref 386) [(bp .Add (D (.str [48])) (we (B 4) [95] [])),(D (.int 0)),(D (.bool S))] []) (B 2))) (M.ret S))) ⟨pK b (.int (bs:Int)) (.int (a:Int)) (.str sg) (.str x) l5 (.str fr) (.str (Ah p sg fr x q)) (.int (kG sg a)) .unb,h4,I⟩=.ok I ⟨pK b (.int (bs:Int)) (.int (a:Int)) (.str sg) (.str x) l5 (.str fr) (.str (Ah p sg fr x q)) (.int (kG sg a)) .unb,h5,I⟩/\MQ h4 h5:=by induction z:aI ((bs:Int)=8)with
  |false=>exact⟨h4,mW (aK (aE aq ao U)) (aM z jk),λX=>aD.refl⟩
  |true=>
   have eb:bs=8:=by have:=of_decide_eq_true z;exact pu.mp (of_decide_eq_true z)
   have la:(x.filter λd=>!Nat.beq d 95).length<=x.length:=List.length_filter_le _ _;obtain⟨h5,e5,K5⟩:=kX (L:=L) (Z:=Z) (n:=n+23) (h:=h4) (x:=[48]++x.filter (λd=>!Nat.beq d 95)) (base:=0) (aS:=S) (jN U (List.all_eq_true.mpr λc m=>List.all_eq_true.mp xa c (List.mem_filter.mp m).1)) (by simp only[List.length_append];show 1+_<=_;exact bE [_,_] [(.v 0,.l 60),(.v 1,.v 0)] 0 [1,1] (.a (.l 1) (.v 1)) (.l 1000000) U xl la) (by decide);simp only[show fN ([48]++x.filter (λd=>!Nat.beq d 95)) 0 S=_ from X.oct eb]at e5;exact⟨h5,mW (aK (aE aq ao U)) (bq z (mR (aK (aE (aJ U (aB (bj ao (Q5 aq (by exact leT xl U) U) (cE (by show 1+_<=_;exact bE [_,_] [(.v 0,.l 60),(.v 1,.v 0)] 0 [1,1] (.a (.l 1) (.v 1)) (.l 16777216) U xl la))) (aB ao (aC ao))) (b5 U (aO e5))) aq tT)))),K5⟩
 obtain⟨h5,t11,K5⟩:=t11;exact⟨h5,aG (aY t9 (aM U aZ)) (aG (aY (qF t10a (aM U (rJ t10b))) (aM U aZ)) (aG (aY t11 (aM U aZ)) U)),λX=>((((K1 X).trans (K2 X)).trans (K3 X)).trans (K4 X)).trans (K5 X)⟩
theorem O0{ws:List (List Nat)}{k:Nat}(e:(ws.map J.str)[k]?=Y v):∃w,v=.str w/\ws[k]?=Y w:=by rw[List.getElem?_map]at e;obtain⟨w,e1,e2⟩:=aP.mp e;exact⟨w,e2.symm,e1⟩
theorem Wz(R:RH h0 h b w mo N)(hN:N<90000)(X:gv bs a x):KL (λh'=>∃ah,aH (w9 (au L Z) (bI L Z (n+24))) ⟨pK b l1 l2 l3 (.str x) l5 l6 l7 l8 .unb,h,I⟩=.ok (.ret (.bool S)) ⟨ah,h',I⟩) (λh'=>Wo h' w mo) (λh'=>im h' b (N+1)) (λh'=>aD [b,w,mo] h0 h'):=by
 have xl:=X.ln;have c1:∀{c:List Nat},c.length<=3->x.length+c.length<=16777216:=λh=>by exact bE [_,_] [(.v 0,.l 60),(.v 1,.l 3)] 0 [1,1] (.a (.v 0) (.v 1)) (.l 16777216) U xl h
 have c2:∀{c:List Nat},c.length<=3->c.length+x.length<=16777216:=λh=>by exact bE [_,_] [(.v 0,.l 60),(.v 1,.l 3)] 0 [1,1] (.a (.v 1) (.v 0)) (.l 16777216) U xl h
 obtain⟨d1,v,hv,h1,e1,W1,B1,K1⟩:=zd (L:=L) (Z:=Z) (n:=n+23) (m:=12) (A:=pK b l1 l2 l3 (.str x) l5 l6 l7 l8 .unb) (h1:=h) (h:=h) (es:=[(bp .Add (B 4) (D (.str [95]))),(bp .Add (D (.str [95])) (B 4)),(bp .Add (D (.str [49,95,95])) (B 4)),(bp .Add (B 4) (D (.str [32,49]))),(bp .Add (B 4) (D (.str [45]))),(D (.str [])),(D (.str [45])),(D (.str [43])),(D (.str [48,120])),(bp .Add (D (.str [45,32])) (B 4)),(D (.str [48,98,50])),(D (.str [48,111,56]))]) (os:=(IM x).map .str)
  (aB (bj aq ao (cE (c1 (by decide)))) (aB (bj ao aq (cE (c2 (by decide)))) (aB (bj ao aq (cE (c2 (by decide)))) (aB (bj aq ao (cE (c1 (by decide)))) (aB (bj aq ao (cE (c1 (by decide)))) (aB ao (aB ao (aB ao (aB ao (aB (bj ao aq (cE (c2 (by decide)))) (aB ao (aC ao)))))))))))) R.wo R.bx (by exact leT hN U) U U (by decide) (by decide)
 obtain⟨wr,rfl,hw⟩:=O0 hv;have Q:=H4 X hw;have ql:=Q.l;have nb:(j8 wr x).natAbs<=100:=by unfold j8;cases eqL (wr.take 1) [48]with
  |false=>exact Nat.le_of_ble_eq_true rfl
  |true=>cases eqL wr (x++[95])<;>exact Nat.le_of_ble_eq_true rfl
 obtain⟨h2,e2,K2⟩:=kX (L:=L) (Z:=Z) (n:=n+23) (h:=h1) (aS:=S) Q.a (by exact leT ql U) nb;rw[Q.r]at e2;have eb:fB (pj (bJ (aW (au L Z) .NotEq (fU (au L Z) (B 9) (D .none) (D (.int 1))) (D (.str [48])))) (pj (bJ (aW (au L Z) .Eq (B 9) (bp .Add (B 4) (D (.str [95]))))) (M.ret I))) (D (.int 10)) (D (.int 0)) ⟨pK b l1 l2 l3 (.str x) l5 l6 l7 l8 (.str wr),h1,I⟩=.ok (.int (j8 wr x)) ⟨pK b l1 l2 l3 (.str x) l5 l6 l7 l8 (.str wr),h1,I⟩:=by
  have t1:pj (bJ (aW (au L Z) .NotEq (fU (au L Z) (B 9) (D .none) (D (.int 1))) (D (.str [48])))) (pj (bJ (aW (au L Z) .Eq (B 9) (bp .Add (B 4) (D (.str [95]))))) (M.ret I)) ⟨pK b l1 l2 l3 (.str x) l5 l6 l7 l8 (.str wr),h1,I⟩=.ok (!eqL (wr.take 1) [48]||eqL wr (x++[95])) ⟨pK b l1 l2 l3 (.str x) l5 l6 l7 l8 (.str wr),h1,I⟩:=
   SJ (aK (aE (dQ aq ao ao (gn (k:=1) (by exact leT ql U))) ao U)) (rJ (aK (aE aq (bj aq ao (cE (c1 (by decide)))) U)))
  refine dy t1 ?_;unfold j8;cases eqL (wr.take 1) [48]with
  |false=>exact ao
  |true=>cases eqL wr (x++[95])with
   |false=>exact ao
   |true=>exact ao
 have R2:=(R.go W1 B1 K1).all K2;exact⟨h2,⟨_,aG (bz e1 (bv U)) (bF (bK (aE (aJ U (aB aq (aB eb (aC ao))) (b5 U (aO e2))) ao U)))⟩,R2.wo,R2.bx,R2.kp⟩
theorem vB(W:Wo h w mo)(ag:im h b N)(hN:N<80000):KL (λh'=>bI L Z (n+25) I 904 [.obj b] [] h=.ok (.bool S) h') (λh'=>Wo h' w mo) (λh'=>im h' b (N+9)) (λh'=>aD [b,w,mo] h h'):=by obtain⟨bs,a,k,sg,h1,e1,hb,ha,hs,hk,R1⟩:=T7 (L:=L) (Z:=Z) (n:=n) (⟨W,ag,aD.refl⟩:RH h h b w mo N) (by exact leT hN U);obtain⟨x,fr,h2,e2,F,X,R2⟩:=T0 (L:=L) (Z:=Z) (n:=n) (l2:=.int (a:Int)) (l3:=.str sg) R1 (by exact bE [_] [(.a (.v 0) (.l 1),.l 80000)] 0 [1] (.a (.a (.v 0) (.l 4)) (.l 1)) (.l 90000) U hN) hb ha hk;obtain⟨p,q,h3,e3,hp,hq,R3⟩:=U1 (L:=L) (Z:=Z) (n:=n) (a:=a) (l1:=.int (bs:Int)) (l5:=.int (k:Int)) R2 (by exact bE [_] [(.a (.v 0) (.l 1),.l 80000)] 0 [1] (.a (.a (.a (.v 0) (.l 4)) (.l 2)) (.l 1)) (.l 90000) U hN) hs F X.row.ln;obtain⟨h4,e4,K4⟩:=Uy (L:=L) (Z:=Z) (n:=n) (b:=b) (l5:=.int (k:Int)) (h:=h3) hb hs F X hp hq;obtain⟨h5,⟨ah,e5⟩,W5,B5,K5⟩:=Wz (L:=L) (Z:=Z) (n:=n) (l1:=.int (bs:Int)) (l2:=.int (a:Int)) (l3:=.str sg) (l5:=.int (k:Int)) (l6:=.str fr) (l7:=.str (Ah p sg fr x q)) (l8:=.int (kG sg a)) (R3.all K4) (by exact bE [_] [(.a (.v 0) (.l 1),.l 80000)] 0 [1] (.a (.a (.a (.a (.v 0) (.l 4)) (.l 2)) (.l 2)) (.l 1)) (.l 90000) U hN) X.row;exact⟨h5,bC Uj (L0:=pK b .unb .unb .unb .unb .unb .unb .unb .unb .unb) U ((((e1.trans e2).trans e3).trans e4).trans e5),W5,B5.up (by exact bE [_] [] 0 [] (.a (.a (.a (.a (.v 0) (.l 4)) (.l 2)) (.l 2)) (.l 1)) (.a (.v 0) (.l 9)) U),K5⟩
end
section
variable{L:Nat}{Z:List Int}{n:Nat}{hd:Bool}{h h' h0 h1:H}{w mo b N:Nat}{v l3:J}
noncomputable abbrev NM(L b w:Nat)(l3:J):List J:=[.sref L,.obj b,.obj w,l3,.unb]
inductive Vq(x:List J->H->Prop)(L b w:Nat):Prop where
 |mk (l3:J) (h':H) (e:x (NM L b w l3) h'):Vq x L b w
theorem IJ(W:Wo h w mo)(ag:im h b N)(hN:N<70000):J3 (λh'=>AJ (au L Z) (bI L Z (n+25)) ⟨NM L b w l3,h,I⟩=.ok .nxt ⟨NM L b w l3,h',I⟩) (λh'=>Wo h' w mo) (λh'=>im h' b (N+110)):=by obtain⟨h1,e1,W1,B1,K1⟩:=EQ (L:=L) (Z:=Z) (n:=n) W ag (by exact leT hN U);obtain⟨h2,e2,W2,B2,K2⟩:=Ay (L:=L) (Z:=Z) (n:=n) W1 B1 (by exact bE [_] [(.a (.v 0) (.l 1),.l 70000)] 0 [1] (.a (.a (.v 0) (.l 100)) (.l 1)) (.l 100000) U hN);obtain⟨h3,e3,W3,B3,K3⟩:=vB (L:=L) (Z:=Z) (n:=n) W2 B2 (by exact bE [_] [(.a (.v 0) (.l 1),.l 70000)] 0 [1] (.a (.a (.a (.v 0) (.l 100)) (.l 1)) (.l 1)) (.l 80000) U hN);exact⟨h3,bO (aY (qF (qz (aK (aJ U (aB aq (aC aq)) (b5 U (aO e1)))) U) (aM U (qF (qz (aK (aJ U (aB aq (aC aq)) (b5 U (aO e2)))) U) (aM U (rJ (qz (aK (aJ U (aC aq) (b5 U (aO e3)))) U)))))) (aM U aZ)),W3,B3.up (by exact bE [_] [] 0 [] (.a (.a (.a (.v 0) (.l 100)) (.l 1)) (.l 9)) (.a (.v 0) (.l 110)) U)⟩
theorem zm:∀(r:List J)(fl N:Nat)(l3:J)(h:H),r.length<fl->Wo h w mo->im h b N->N+110*r.length<70000->Vq (λah h'=>dU (iW (bd 3) (AJ (au L Z) (bI L Z (n+25)))) fl (.vals r) ⟨NM L b w l3,h,I⟩=.ok .nxt ⟨ah,h',I⟩) L b w
 |_,0,_,_,_,hf,_,_,_=>absurd hf (Nat.not_lt_zero _)
 |[],fl+1,N,l3,h,_,W,ag,_=>⟨l3,h,Ge⟩
 |v::r,fl+1,N,l3,h,hf,W,ag,hN=>by rw[List.length_cons]at hf hN;obtain⟨h1,e1,W1,B1⟩:=IJ (L:=L) (Z:=Z) (n:=n) (l3:=v) W ag (by exact bE [_,_] [(.a (.a (.v 0) (.m 110 (.a (.v 1) (.l 1)))) (.l 1),.l 70000)] 0 [1] (.a (.v 0) (.l 1)) (.l 70000) U hN);obtain⟨l,h2,e2⟩:=zm r fl (N+110) v h1 (by exact bE [_,_] [(.a (.a (.v 0) (.l 1)) (.l 1),.a (.v 1) (.l 1))] 0 [1] (.a (.v 0) (.l 1)) (.v 1) U hf) W1 B1 (by lia);exact⟨l,h2,AC (bv U) e1 e2⟩
theorem Eg(ag:im h b N):∃k,k<=4/\nP (fB (bJ (eB (au L Z) (B 1) (D (.int 3)))) (D (.int 1)) (D (.int 4))) ⟨NM L b w .unb,h,I⟩=.ok (.vals ((List.range k).map λ(i:Nat)=>.int i)) ⟨NM L b w .unb,h,I⟩:=by obtain⟨z,s,c,sm,a,r1,r2,r3,r4⟩:=ag;have t0:bJ (eB (au L Z) (B 1) (D (.int 3))) ⟨NM L b w .unb,h,I⟩=.ok sm ⟨NM L b w .unb,h,I⟩:=aK (gJ aq ao a U);induction sm with
 |true=>exact⟨1,by decide,ny (dy t0 (bq U ao)) U⟩
 |false=>exact⟨4,by decide,ny (dy t0 (aM U ao)) U⟩
theorem TL(L:Nat)(Z:List Int)(hs:Z.length<=63):∃H',oZ (au L Z) ft 40 I 911 [.sref L] [] []=.ok (.bool S) H':=by obtain⟨⟨b,h1⟩,e1,B1,K1,_⟩:=Qq (L:=L) (Z:=Z) (n:=38) (h:=[]) (by show(bif Nat.beq L L then Y (Z.map J.int)else _)=_;rw[Nat.beq_refl];rfl) (by exact leT hs U);obtain⟨⟨mo,h2⟩,e2,W2,K2⟩:=Js (L:=L) (Z:=Z) (n:=28) (h:=h1++[.dict []]) (nt:=h1.length) ba;have B2:=B1.any (aD.app.trans K2:aD [] h1 h2) List.not_mem_nil;have W3:=W2.app (t:=[.tup [.obj b,.obj (h1++[AO.dict []]).length]]);have B3:=B2.app (t:=[.tup [.obj b,.obj (h1++[AO.dict []]).length]]);obtain⟨k,hk,e3⟩:=Eg (L:=L) (Z:=Z) (w:=(h1++[AO.dict []]).length) B3;obtain⟨l,h4,e4⟩:=zm (L:=L) (Z:=Z) (n:=14) ((List.range k).map λ(i:Nat)=>.int i) fg 0 .unb _ (by rw[List.length_map,List.length_range,iZ];exact bE [_] [(.v 0,.l 4)] 0 [1] (.a (.v 0) (.l 1)) (.a (.l 999999999) (.l 1)) U hk) W3 B3 (by rw[List.length_map,List.length_range];exact bE [_] [(.v 0,.l 4)] 0 [110] (.a (.a (.l 0) (.m 110 (.v 0))) (.l 1)) (.l 70000) U hk);exact⟨h4,bC (n:=39) TU (L0:=[.sref L,.unb,.unb,.unb,.unb]) U (aG (fm (aB (aJ U (aC aq) (b5 U (aO e1))) (aC (aJ U (aC KT) (nW U U U e2)))) U U U (bZ (bv U) (dj (bv U)))) (aG (sq U e3 e4) (bF (bK ao))))⟩
end
section
open PySem PySem.W PySem.Calls PyProof.Rows
abbrev cM:=List (List bf)
inductive RV(ρ:cM):J->ar->Prop where
 |none:RV ρ .none .none
 |bool (b:Bool):RV ρ (.bool b) (.bool b)
 |int (i:Int) (t:qV):RV ρ (.int i) (.int i t)
 |str {l:List Nat} (x:aV) (t:qV) (h:x.cps.toList=l):RV ρ (.str l) (.str x t)
 |sref (a:Nat):RV ρ (.sref a) (.ref a)
 |obj {i:Nat} {a:bf} {r:List bf} (h:ρ[i]?=Y (a::r)):RV ρ (.obj i) (.ref a)
 |bi (n:String):RV ρ (.bi n) (.builtin n)
 |ty (n:String):RV ρ (.ty n) (.type n)
theorem b6{α:Type}{l l':List α}(h:l<+:l'){i:Nat}{x:α}(e:l[i]?=Y x):l'[i]?=Y x:=by obtain⟨t,rfl⟩:=h;rw[List.getElem?_append_left (List.getElem?_eq_some_iff.mp e).1];exact e
theorem RV.mono{ρ ρ':cM}(h:ρ<+:ρ'){v:J}{u:ar}(x:RV ρ v u):RV ρ' v u:=by induction x with
 |none=>exact .none
 |bool b=>exact .bool b
 |int i t=>exact .int i t
 |str x t e=>exact .str x t e
 |sref a=>exact .sref a
 |obj e=>exact .obj (b6 h e)
 |bi n=>exact .bi n
 |ty n=>exact .ty n
section
variable{α β:Type}{R ah:α->β->Prop}{l l':List α}{m m':List β}
inductive bP(R:α->β->Prop):List α->List β->Prop where
 |nil:bP R [] []
 |cons {a b l m}:R a b->bP R l m->bP R (a::l) (b::m)
theorem bP.mono(x:bP R l m)(h:∀a b,R a b->ah a b):bP ah l m:=by induction x with
 |nil=>exact .nil
 |cons p _ ih=>exact .cons (h _ _ p) ih
theorem bP.length(x:bP R l m):l.length=m.length:=by induction x with
 |nil=>rfl
 |cons _ _ ih=>exact congrArg (·+1) ih
theorem bP.get(x:bP R l m){i:Nat}{a:α}(e:l[i]?=Y a):∃b,m[i]?=Y b/\R a b:=by induction x generalizing i with
 |nil=>exact nS e
 |cons p _ ih=>induction i with
  |zero=>exact(sI e)▸⟨_,U,p⟩
  |succ i=>exact ih e
theorem bP.set(x:bP R l m){i:Nat}{a:α}{b:β}(h:R a b):bP R (l.set i a) (m.set i b):=by induction x generalizing i with
 |nil=>exact .nil
 |cons p q ih=>induction i with
  |zero=>exact .cons h q
  |succ i=>exact .cons p ih
theorem bP.append(x:bP R l m)(y:bP R l' m'):bP R (l++l') (m++m'):=by induction x with
 |nil=>exact y
 |cons p _ ih=>exact .cons p ih
theorem bP.drop(x:bP R l m):∀n,bP R (l.drop n) (m.drop n):=by induction x with
 |nil=>intro n;simp only[List.drop_nil,List.drop_nil];exact .nil
 |cons p q ih=>intro n;induction n with
  |zero=>exact .cons p q
  |succ n=>exact ih n
end
structure Wd where
 prog:oU
 w:World
 K:kJ
 h0:cT
 p:oU
 loose:List aV
 mean:ExcName->Option ar
 mg:aV->Option ar
 mb:aV->Option ar
 low:fZ<h0.objs.size
section
variable(T:aT)(W:Wd)
inductive pT(ρ:cM)(p:Nat×J)(e:b7):Prop where
 |mk (nm:aV) (t:qV) (a:T.names[p.1]?=Y nm) (b:e.key=.str nm t) (c:RV ρ p.2 e.val):pT ρ p e
inductive mH(ρ:cM)(p:List Nat×J)(e:b7):Prop where
 |mk (x:aV) (t:qV) (a:x.cps.toList=p.1) (b:e.key=.str x t) (c:e.hash=d9 W.w.params x) (d:RV ρ p.2 e.val):mH ρ p e
inductive XD(ρ:cM):Option Nat->Option bf->Prop where
 |no:XD ρ .none .none
 |at{j:Nat} {d:bf} (h:ρ[j]?=Y [d]):XD ρ (Y j) (Y d)
inductive t4(ρ:cM)(h:cT)(xs:List J)(a:bf)(r:List bf):Prop where
 |mk (vs:List ar) (n:Nat) (g:h.get? a=Y (listOf vs.toArray n)) (l:bP (RV ρ) xs vs) (e:r=[]):t4 ρ h xs a r
inductive DK(ρ:cM)(h:cT)(xs:List J)(a:bf)(r:List bf):Prop where
 |mk (vs:List ar) (n:Nat) (g:h.get? a=Y {cls:=.type "tuple",data:=.seq vs.toArray n}) (l:bP (RV ρ) xs vs) (e:r=[]):DK ρ h xs a r
inductive xN(ρ:cM)(h:cT)(es:List (List Nat×J))(a:bf)(r:List bf):Prop where
 |mk (ds:List b7) (n:Nat) (g:h.get? a=Y (fJ ds n)) (l:bP (mH W ρ) es ds) (nd:(es.map (·.1)).Nodup) (ns:(a==fZ)=I) (e:r=[]):xN ρ h es a r
inductive xf(ρ:cM)(h:cT)(C:Nat)(fs:List (Nat×J))(a:bf)(r:List bf):Prop where
 |mk (d:bf) (ds:List b7) (n:Nat) (g:h.get? a=Y (tD C d)) (g2:h.get? d=Y (fJ ds n)) (l:bP (pT T ρ) fs ds) (e:r=[d]):xf ρ h C fs a r
inductive mY(ρ:cM)(h:cT)(C:Nat)(b:Bool)(fd:Option Nat)(a:bf)(r:List bf):Prop where
 |mk (o:iS) (vs:Array ar) (nb:b=S->vs[1]?=Y .none) (g:h.get? a=Y o) (k:o.cls=.ref C) (x:XD ρ fd o.dict) (d:o.data=.fields vs) (sl:o.slots=#[]) (z:6<=vs.size) (e:r=[]):mY ρ h C b fd a r
inductive MR(ρ:cM)(h:cT)(fs:List (Nat×J))(d:bf)(r:List bf):Prop where
 |mk (ds:List b7) (n:Nat) (g:h.get? d=Y (fJ ds n)) (l:bP (pT T ρ) fs ds) (e:r=[]):MR ρ h fs d r
def yK(ρ:cM)(h:cT)(a:bf)(r:List bf)(o:AO):Prop:=match o with
 |.list xs=>t4 ρ h xs a r
 |.tup xs=>DK ρ h xs a r
 |.dict es=>xN W ρ h es a r
 |.inst C fs=>xf T ρ h C fs a r
 |.exn C b fd=>mY ρ h C b fd a r
 |.fd fs=>MR T ρ h fs a r
def rE(ρ:cM)(h:cT)(o:AO)(as:List bf):Prop:=match as with
 |[]=>False
 |a::r=>yK T W ρ h a r o
inductive Hd where
 |ns (m:aV->Option ar)
 |cell (v:ar)
 |obj (o:iS)
inductive LA(h:cT)(a:bf):Hd->Prop where
 |ns {m:aV->Option ar} (x:h.Ns a m):LA h a (.ns m)
 |cell {v:ar} (o:iS) (g:h.get? a=Y o) (d:o.data=.cell (Y v)):LA h a (.cell v)
 |obj {o:iS} (g:h.get? a=Y o):LA h a (.obj o)
structure Fx where
 env:pv
 V:VI
 held:List (bf×Hd)
 envs:List pv
 hand:Bool
 lo:Nat
 low:List J
inductive vU(c:Fx)(ρ:cM)(m:aV->Option ar)(x:aV)(v:J):Prop where
 |loc (k:c.V.scope.names.lookup x=Y .local) (u:ar) (e:m x=Y u) (r:RV ρ v u):vU c ρ m x v
 |cell (k:c.V.scope.names.lookup x=Y .cell\/c.V.scope.names.lookup x=Y .free) (ca:bf) (u:ar) (e:c.env.cells.lookup x=Y ca) (hd:(ca,Hd.cell u)∈c.held) (r:RV ρ v u):vU c ρ m x v
abbrev pG(c:Fx)(ρ:cM)(loc:List J)(m:aV->Option ar):Prop:=∀(x:aV)(i:Nat)(v:J),eE c.V x=Y i->loc[i]?=Y v->v≠.unb->vU c ρ m x v
inductive LP(W:Wd)(c:Fx)(loc:List J)(ρ:cM)(h:cT):Prop where
 |mk (m:aV->Option ar) (F:Fr W.h0 c.env.locals h m) (L:pG c ρ loc m):LP W c loc ρ h
noncomputable def addrs(c:Fx)(ρ:cM):List bf:=c.held.map (·.1)++ρ.flatten
structure dB(c:Fx)(σ:St)(ρ:cM)(h:cT):Prop where
 fr:LP W c σ.loc ρ h
 len:ρ.length=σ.heap.length
 obs:∀(i:Nat)(o:AO)(as:List bf),σ.heap[i]?=Y o->ρ[i]?=Y as->rE T W ρ h o as
 held:∀p∈c.held,LA h p.1 p.2
 nd:(c.env.locals::addrs c ρ).Nodup
 fresh:∀b∈addrs c ρ,W.h0.get? b=cV/\b<h.objs.size
 hand:σ.hand=c.hand
 frz:∀i,i<c.lo->σ.loc[i]?=c.low[i]?
variable{T W}{c:Fx}{σ:St}{ρ ρ':cM}{h h':cT}{o:AO}{as:List bf}{i:Nat}{a b d:bf}{k:Hd}{m:aV->Option ar}
theorem pT.mono(h:ρ<+:ρ'){p:Nat×J}{e:b7}(x:pT T ρ p e):pT T ρ' p e:=let⟨n,t,a,b,c⟩:=x;⟨n,t,a,b,c.mono h⟩
theorem mH.mono(h:ρ<+:ρ'){p:List Nat×J}{e:b7}(x:mH W ρ p e):mH W ρ' p e:=let⟨n,t,a,b,d,c⟩:=x;⟨n,t,a,b,d,c.mono h⟩
theorem XD.mono(h:ρ<+:ρ'){fd:Option Nat}{d:Option bf}(x:XD ρ fd d):XD ρ' fd d:=by induction x with
 |no=>exact .no
 |«at» e=>exact .at (b6 h e)
abbrev m0(h h':cT)(a:bf):Prop:=∀o,h.get? a=Y o->h'.get? a=Y o
theorem yK.same{r:List bf}(x:yK T W ρ h a r o)(hρ:ρ<+:ρ')(k:∀b∈a::r,m0 h h' b):yK T W ρ' h' a r o:=match o,x with
 |.list _,⟨vs,n,g,l,e⟩=>⟨vs,n,k _ (.head _) _ g,l.mono λ_ _=>RV.mono hρ,e⟩
 |.tup _,⟨vs,n,g,l,e⟩=>⟨vs,n,k _ (.head _) _ g,l.mono λ_ _=>RV.mono hρ,e⟩
 |.dict _,⟨ds,n,g,l,nd,ns,e⟩=>⟨ds,n,k _ (.head _) _ g,l.mono λ_ _=>mH.mono hρ,nd,ns,e⟩
 |.inst _ _,⟨d,ds,n,g,g2,l,e⟩=>⟨d,ds,n,k _ (.head _) _ g,k d (e▸.tail _ (.head _)) _ g2,l.mono λ_ _=>pT.mono hρ,e⟩
 |.exn _ _ _,⟨o,vs,nb,g,c,x,d,s,z,e⟩=>⟨o,vs,nb,k _ (.head _) _ g,c,x.mono hρ,d,s,z,e⟩
 |.fd _,⟨ds,n,g,l,e⟩=>⟨ds,n,k _ (.head _) _ g,l.mono λ_ _=>pT.mono hρ,e⟩
theorem rE.same(x:rE T W ρ h o as)(hρ:ρ<+:ρ')(k:∀a∈as,m0 h h' a):rE T W ρ' h' o as:=match as,x,k with
 |_::_,x,k=>yK.same x hρ k
theorem LA.same(x:LA h a k)(q:m0 h h' a):LA h' a k:=by induction x with
 |ns x=>exact .ns (cT.Ns.at x q)
 |cell o g d=>exact .cell o (q _ g) d
 |obj g=>exact .obj (q _ g)
theorem vU.mono{x:aV}{v:J}(L:vU c ρ m x v)(hρ:ρ<+:ρ'):vU c ρ' m x v:=by induction L with
 |loc k u e r=>exact .loc k u e (r.mono hρ)
 |cell k ca u e hd r=>exact .cell k ca u e hd (r.mono hρ)
theorem lS{r:List bf}(e:r=[]){ob:iS}(g:h.get? a=Y ob):∀b∈a::r,∃ob,h.get? b=Y ob:=λb hb=>by subst e;rw[List.mem_singleton.mp hb];exact⟨_,g⟩
theorem yK.live{r:List bf}(x:yK T W ρ h a r o):∀b∈a::r,∃ob,h.get? b=Y ob:=match o,x with
 |.list _,⟨_,_,g,_,e⟩=>lS e g
 |.tup _,⟨_,_,g,_,e⟩=>lS e g
 |.dict _,⟨_,_,g,_,_,_,e⟩=>lS e g
 |.inst _ _,⟨_,_,_,g,g2,_,e⟩=>λb hb=>(List.mem_cons.mp hb).elim (λq=>q▸⟨_,g⟩) λq=>lS U g2 b (e▸q)
 |.exn _ _ _,⟨_,_,_,g,_,_,_,_,_,e⟩=>lS e g
 |.fd _,⟨_,_,g,_,e⟩=>lS e g
theorem rE.live(x:rE T W ρ h o as):∀a∈as,∃ob,h.get? a=Y ob:=match as,x with
 |_::_,x=>yK.live x
theorem LA.live(x:LA h a k):∃ob,h.get? a=Y ob:=by induction x with
 |ns x=>obtain⟨o,_,_,ho,_⟩:=x;exact⟨o,ho⟩
 |cell o g d=>exact⟨o,g⟩
 |obj g=>exact⟨_,g⟩
theorem fV(e:ρ[i]?=Y as)(ha:a∈as):a∈addrs c ρ:=List.mem_append_right _ (List.mem_flatten.mpr ⟨as,List.mem_of_getElem? e,ha⟩)
theorem kh{p:bf×Hd}(hp:p∈c.held):p.1∈addrs c ρ:=List.mem_append_left _ (List.mem_map_of_mem hp)
theorem dB.live(R:dB T W c σ ρ h)(hb:b∈addrs c ρ):∃ob,h.get? b=Y ob:=by
 rcases List.mem_append.mp hb with hb|hb
 ·obtain⟨p,hp,rfl⟩:=List.mem_map.mp hb
  exact(R.held p hp).live
 ·obtain⟨as,hm,ha⟩:=List.mem_flatten.mp hb
  obtain⟨i,hi,rfl⟩:=List.getElem_of_mem hm;exact(R.obs i _ _ (List.getElem?_eq_getElem (by rw[<-R.len];exact hi)) (List.getElem?_eq_getElem hi)).live _ ha
theorem dB.freshAt(R:dB T W c σ ρ h)(k:∀b∈addrs c ρ,∃o,h'.get? b=Y o):∀b∈addrs c ρ,W.h0.get? b=cV/\b<h'.objs.size:=λb hb=>⟨(R.fresh b hb).1,let⟨_,g⟩:=k b hb;cz g⟩
abbrev Ly(W:Wd)(c:Fx)(h h':cT):Prop:=∀m,Fr W.h0 c.env.locals h m->Fr W.h0 c.env.locals h' m
theorem LP.to{loc:List J}(x:LP W c loc ρ h)(hf:Ly W c h h')(hρ:ρ<+:ρ'):LP W c loc ρ' h':=let⟨m,F,L⟩:=x;⟨m,hf m F,λx i v a b c=>(L x i v a b c).mono hρ⟩
theorem dB.stay(R:dB T W c σ ρ h)(hf:Ly W c h h')(k:∀b∈addrs c ρ,m0 h h' b):dB T W c σ ρ h':=
 ⟨R.fr.to hf (List.prefix_refl _),R.len,λi o as e1 e2=>(R.obs i o as e1 e2).same (List.prefix_refl _) λa ha=>k a (fV e2 ha),λp hp=>(R.held p hp).same (k p.1 (kh hp)),R.nd,
  R.freshAt λb hb=>let⟨o,g⟩:=R.live hb;⟨o,k b hb o g⟩,R.hand,R.frz⟩
theorem dB.keepsIn(R:dB T W c σ ρ h)(k:h.StaysIn h'):dB T W c σ ρ h':=R.stay (λm F=>F.keptAll k) λb _ o e=>k b o e
theorem dB.push(R:dB T W c σ ρ h)(o:iS):dB T W c σ ρ (h.push o):=R.keepsIn λ_ _ e=>cA _ e
structure ng(W:Wd)(c:Fx)(ρ:cM)(aj:bf):Prop where
 addrs:aj∉addrs c ρ
 loc:aj≠c.env.locals
 h0:W.h0.get? aj=cV
theorem dB.free(R:dB T W c σ ρ h):ng W c ρ h.objs.size:=by obtain⟨m,F,_⟩:=R.fr;refine⟨λhm=>Nat.lt_irrefl _ (R.fresh _ hm).2,Nat.ne_of_gt F.ns.lt,?_⟩;induction q:W.h0.get? h.objs.size with
 |none=>rfl
 |some o=>exact absurd (cz (F.keep _ _ q)) (Nat.lt_irrefl _)
theorem dB.new(R:dB T W c σ ρ h)(hf:Ly W c h h')(k:∀b∈addrs c ρ,m0 h h' b)(hn:as.Nodup)(hg:∀b∈as,ng W c ρ b)(hb:rE T W (ρ++[as]) h' o as):dB T W c {σ with heap:=σ.heap++[o]} (ρ++[as]) h':=by
 have pre:ρ<+:ρ++[as]:=List.prefix_append _ _;have ef:addrs c (ρ++[as])=addrs c ρ++as:=by simp[addrs]
 have ah:=R.stay hf k;refine⟨R.fr.to hf pre,by simp[R.len],λi ob bs e1 e2=>?_,ah.held,?_,λb hb'=>?_,R.hand,R.frz⟩
 ·by_cases hi:i<σ.heap.length
  ·rw[List.getElem?_append_left hi]at e1
   rw[List.getElem?_append_left (by rw[R.len];exact hi)]at e2;exact(ah.obs i ob bs e1 e2).same pre λ_ _ _ e=>e
  ·have:i=σ.heap.length:=by have:=(List.getElem?_eq_some_iff.mp e1).1;simp at this;exact Nat.le_antisymm (bE [_,_] [(.a (.v 0) (.l 1),.a (.v 1) (.l 1))] 0 [1] (.v 0) (.v 1) U this) ((Xg hi))
   subst this;rw[List.getElem?_concat_length]at e1;rw[<-R.len,List.getElem?_concat_length]at e2;obtain rfl:=sI e1;exact(sI e2)▸hb
 ·rw[ef,<-List.cons_append]
  exact List.nodup_append.mpr ⟨R.nd,hn,λa ha b hb q=>(List.mem_cons.mp ha).elim (λe=>(hg b hb).loc (q.symm.trans e)) λha=>(hg b hb).addrs (q▸ha)⟩
 ·rw[ef]at hb'
  rcases List.mem_append.mp hb' with hb'|hb'
  ·exact ah.fresh b hb'
  ·obtain⟨_,g⟩:=hb.live b hb'
   exact⟨(hg b hb').h0,cz g⟩
theorem yf:∀{l:cM},l.flatten.Nodup->∀{i j:Nat}{x y:List bf},i<j->l[i]?=Y x->l[j]?=Y y->∀a∈x,∀b∈y,a≠b
 |[],_,i,_,_,_,_,e,_,_,_,_,_=>by cases e
 |z::l,nd,i,0,x,y,hij,e1,e2,a,ha,b,hb=>absurd hij (Nat.not_lt_zero _)
 |z::l,nd,0,j+1,x,y,hij,e1,e2,a,ha,b,hb=>by obtain rfl:=sI e1;exact(List.nodup_append.mp nd).2.2 a ha b (List.mem_flatten.mpr ⟨y,List.mem_of_getElem? e2,hb⟩)
 |z::l,nd,i+1,j+1,x,y,hij,e1,e2,a,ha,b,hb=>yf (List.nodup_append.mp nd).2.1 (Nat.lt_of_succ_lt_succ hij) e1 e2 a ha b hb
theorem dB.ne(R:dB T W c σ ρ h){j:Nat}{x y:List bf}(hij:i≠j)(e1:ρ[i]?=Y x)(e2:ρ[j]?=Y y):∀a∈x,∀b∈y,a≠b:=λa ha b hb=>by
 have nd:=(List.nodup_append.mp (List.nodup_cons.mp R.nd).2).2.1;rcases Nat.lt_or_gt_of_ne hij with hij|hij
 ·exact yf nd hij e1 e2 a ha b hb
 ·exact(yf nd hij e2 e1 b hb a ha).symm
theorem dB.neL(R:dB T W c σ ρ h)(hb:b∈addrs c ρ):b≠c.env.locals:=λq=>(List.nodup_cons.mp R.nd).1 (q▸hb)
theorem dB.neHeld(R:dB T W c σ ρ h)(e:ρ[i]?=Y as)(ha:a∈as):∀p∈c.held,p.1≠a:=λp hp=>(List.nodup_append.mp (List.nodup_cons.mp R.nd).2).2.2 p.1 (List.mem_map_of_mem hp) a (List.mem_flatten.mpr ⟨as,List.mem_of_getElem? e,ha⟩)
theorem Cq{α:Type}{l:List α}{i:Nat}{x y:α}(e:(l.set i x)[i]?=Y y):y=x:=by have hl:=(List.getElem?_eq_some_iff.mp e).1;rw[List.length_set]at hl;rw[List.getElem?_set_self hl]at e;exact(aQ e).symm
theorem dB.updAt(R:dB T W c σ ρ h)(e:ρ[i]?=Y as)(hd:d∈as)(hf:Ly W c h h')(k:∀b∈addrs c ρ,b≠d->m0 h h' b)(hb:rE T W ρ h' o as):dB T W c {σ with heap:=σ.heap.set i o} ρ h':=by
 refine⟨R.fr.to hf (List.prefix_refl _),by simp only[List.length_set];exact R.len,λj ob bs e1 e2=>?_,λp hp=>(R.held p hp).same (k _ (kh hp) (R.neHeld e hd p hp)),R.nd,R.freshAt λb hb'=>?_,R.hand,R.frz⟩
 ·by_cases hij:i=j
  ·subst hij
   rw[Cq e1,<-aQ (e.symm.trans e2)];exact hb
  ·rw[List.getElem?_set_ne hij]at e1
   exact(R.obs j ob bs e1 e2).same (List.prefix_refl _) λa ha=>k a (fV e2 ha) (R.ne (jP hij) e2 e a ha d hd)
 ·by_cases q:b=d
  ·subst q;exact hb.live b hd
  ·obtain⟨o',g⟩:=R.live hb'
   exact⟨o',k b hb' q _ g⟩
theorem dB.upd(R:dB T W c σ ρ h)(e:ρ[i]?=Y as)(hd:d∈as)(hs:jQ d h h')(hb:rE T W ρ h' o as):dB T W c {σ with heap:=σ.heap.set i o} ρ h':=
 have hm:d∈addrs c ρ:=fV e hd
 R.updAt e hd (λm F=>F.change hs (R.neL hm) (R.fresh d hm).1) (λb _ hne o q=>(hs.2 b hne).trans q) hb
theorem dB.store(R:dB T W c σ ρ h){x:aV}{v:J}{u:ar}(hx:eE c.V x=Y i)(hl:c.V.scope.names.lookup x=Y .local)
  (hinj:∀y,eE c.V y=Y i->y=x) (hlo:c.lo<=i) (hv:v≠.unb->RV ρ v u) (hs:jQ c.env.locals h h')
  (hn:∀m,h.Ns c.env.locals m->h'.Ns c.env.locals (λy=>if y=x then Y u else m y)):dB T W c {σ with loc:=σ.loc.set i v} ρ h':=by
 obtain⟨m,F,L⟩:=R.fr;have q:∀b∈addrs c ρ,m0 h h' b:=λb hb o g=>(hs.2 b (R.neL hb)).trans g;refine⟨⟨_,F.set (hn m F.ns) hs,λy j z e1 e2 e3=>?_⟩,R.len,λj ob bs e1 e2=>(R.obs j ob bs e1 e2).same (List.prefix_refl _) λa ha=>q a (fV e2 ha),
  λp hp=>(R.held p hp).same (q _ (kh hp)),R.nd,λb hb=>⟨(R.fresh b hb).1,hs.1▸(R.fresh b hb).2⟩,R.hand,λj hj=>(List.getElem?_set_ne (Nat.ne_of_gt (Nat.lt_of_lt_of_le hj hlo))).trans (R.frz j hj)⟩
 by_cases hij:i=j
 ·subst hij
  have:=Cq e2;subst this;rw[hinj y e1];exact .loc hl u (if_pos U) (hv e3)
 ·replace e2:=(List.getElem?_set_ne hij)▸e2
  have hne:y≠x:=λq=>hij (by replace e1:=hx▸q▸e1;exact aQ e1);cases L y j z e1 e2 e3 with
  |loc k u e r=>exact .loc k u ((if_neg hne).trans e) r
  |cell k ca u e hd r=>exact .cell k ca u e hd r
def newsBut(c:Fx)(ρ:cM)(h:cT)(d:bf):List (bf×iS):=(addrs c ρ).filterMap λb=>if b=d then cV else(h.get? b).map λo=>(b,o)
theorem tM{p:bf×iS}(hp:p∈newsBut c ρ h d):p.1≠d/\p.1∈addrs c ρ/\h.get? p.1=Y p.2:=by
 obtain⟨b,hb,e⟩:=List.mem_filterMap.mp hp
 by_cases q:b=d
 ·rw[if_pos q]at e;exact nS e
 ·rw[if_neg q]at e
  obtain⟨o,ho,rfl⟩:=aP.mp e;exact⟨q,hb,ho⟩
theorem kQ{o:iS}(hb:b∈addrs c ρ)(hd:b≠d)(ho:h.get? b=Y o):(b,o)∈newsBut c ρ h d:=List.mem_filterMap.mpr ⟨b,hb,by rw[if_neg hd,ho];rfl⟩
theorem dB.news(R:dB T W c σ ρ h)(d:bf):News W.h0 c.env.locals h (newsBut c ρ h d):=λp hp=>let⟨_,hb,ho⟩:=tM hp;⟨ho,R.neL hb,(R.fresh _ hb).1⟩
theorem dB.newsCons(R:dB T W c σ ρ h){o:iS}(hd:d∈addrs c ρ)(ho:h.get? d=Y o):News W.h0 c.env.locals h ((d,o)::newsBut c ρ h d):=λp hp=>(List.mem_cons.mp hp).elim (λe=>e▸⟨ho,R.neL hd,(R.fresh _ hd).1⟩) (R.news d p)
theorem DZ{L:bf}{o':iS}(N:News W.h0 L h' ((d,o')::newsBut c ρ h d)):∀b∈addrs c ρ,b≠d->m0 h h' b:=λb hb hd o ho=>(N (b,o) (.tail _ (kQ hb hd ho))).1
section
variable{r:List bf}{xs:List J}{es:List (List Nat×J)}{fs:List (Nat×J)}{C:Nat}{f:Bool}{fo:Option Nat}
theorem dB.list(R:dB T W c σ ρ h)(e:σ.heap[i]?=Y (.list xs))(ea:ρ[i]?=Y (a::r)):t4 ρ h xs a r:=R.obs i _ _ e ea
theorem dB.tup(R:dB T W c σ ρ h)(e:σ.heap[i]?=Y (.tup xs))(ea:ρ[i]?=Y (a::r)):DK ρ h xs a r:=R.obs i _ _ e ea
theorem dB.dict(R:dB T W c σ ρ h)(e:σ.heap[i]?=Y (.dict es))(ea:ρ[i]?=Y (a::r)):xN W ρ h es a r:=R.obs i _ _ e ea
theorem dB.inst(R:dB T W c σ ρ h)(e:σ.heap[i]?=Y (.inst C fs))(ea:ρ[i]?=Y (a::r)):xf T ρ h C fs a r:=R.obs i _ _ e ea
theorem dB.exn(R:dB T W c σ ρ h)(e:σ.heap[i]?=Y (.exn C f fo))(ea:ρ[i]?=Y (a::r)):mY ρ h C f fo a r:=R.obs i _ _ e ea
theorem dB.fd(R:dB T W c σ ρ h)(e:σ.heap[i]?=Y (.fd fs))(ea:ρ[i]?=Y (a::r)):MR T ρ h fs a r:=R.obs i _ _ e ea
end
theorem rE.list{xs:List J}{vs:List ar}{n:Nat}(g:h.get? a=Y (listOf vs.toArray n))(l:bP (RV ρ) xs vs):rE T W ρ h (.list xs) [a]:=(⟨vs,n,g,l,U⟩:t4 ρ h xs a [])
theorem rE.tup{xs:List J}{vs:List ar}{n:Nat}(g:h.get? a=Y {cls:=.type "tuple",data:=.seq vs.toArray n})(l:bP (RV ρ) xs vs):rE T W ρ h (.tup xs) [a]:=(⟨vs,n,g,l,U⟩:DK ρ h xs a [])
theorem rE.dict{es:List (List Nat×J)}{ds:List b7}{n:Nat}(g:h.get? a=Y (fJ ds n))(l:bP (mH W ρ) es ds)(nd:(es.map (·.1)).Nodup)(ns:(a==fZ)=I):rE T W ρ h (.dict es) [a]:=(⟨ds,n,g,l,nd,ns,U⟩:xN W ρ h es a [])
theorem rE.inst{C:Nat}{fs:List (Nat×J)}{ds:List b7}{n:Nat}(g:h.get? a=Y (tD C d))(g2:h.get? d=Y (fJ ds n))(l:bP (pT T ρ) fs ds):rE T W ρ h (.inst C fs) [a,d]:=(⟨d,ds,n,g,g2,l,U⟩:xf T ρ h C fs a [d])
theorem rE.fd{fs:List (Nat×J)}{ds:List b7}{n:Nat}(g:h.get? d=Y (fJ ds n))(l:bP (pT T ρ) fs ds):rE T W ρ h (.fd fs) [d]:=(⟨ds,n,g,l,U⟩:MR T ρ h fs d [])
theorem dB.newPush(R:dB T W c σ ρ h)(ob:iS)(hb:rE T W (ρ++[[h.objs.size]]) (h.push ob) o [h.objs.size]):dB T W c {σ with heap:=σ.heap++[o]} (ρ++[[h.objs.size]]) (h.push ob):=
 R.new (λm F=>F.push _) (λb _ o e=>cA _ e) (List.nodup_cons.mpr ⟨List.not_mem_nil,List.nodup_nil⟩) (λb hb=>by refine(List.mem_singleton.mp hb)▸?_;exact R.free) hb
theorem RV.new(R:dB T W c σ ρ h){r:List bf}:RV (ρ++[a::r]) (.obj σ.heap.length) (.ref a):=.obj (by rw[<-R.len];exact List.getElem?_concat_length)
theorem dB.stays(R:dB T W c σ ρ h):W.h0.StaysIn h:=let⟨_,F,_⟩:=R.fr;F.keep
theorem dB.sysSize(R:dB T W c σ ρ h):(h.objs.size==fZ)=I:=by obtain⟨m,F,_⟩:=R.fr;have h1:=F.above;have h2:=F.ns.lt;have h3:=W.low;exact beq_eq_false_iff_ne.mpr λq=>by rw[<-q]at h3;exact Nat.lt_irrefl _ (Nat.lt_trans h3 (Nat.lt_of_le_of_lt h1 h2))
theorem cF{vs:List ar}{n:Nat}(e:h.get? a=Y (listOf vs.toArray n)):h.IsList a vs.toArray:=⟨_,e,U,n,U⟩
end
end
section
open PySem PySem.W PySem.Calls PyProof.Rows
def kH{α:Type}(P:α->St->Prop)(X:Nat->St->Prop)(r:lJ St α):Prop:=match r with
 |.ok a s=>P a s
 |.exc x s=>X x s
 |.stuck=>False
abbrev M.wp{α:Type}(m:M α)(σ:St)(P:α->St->Prop)(X:Nat->St->Prop):Prop:=kH P X (m σ)
section
variable{α β:Type}{σ:St}{X X':Nat->St->Prop}
theorem cg{m:M α}{f:α->M β}{P:β->St->Prop}(h:(m.bind f).wp σ P X):m.wp σ (λa s=>(f a).wp s P X) X:=by unfold M.wp M.bind at h;unfold M.wp;induction e:m σ with
 |ok a s=>replace h:=e▸h;exact h
 |exc x s=>replace h:=e▸h;exact h
 |stuck=>replace h:=e▸h;exact h
theorem cC{r:lJ St α}{P P':α->St->Prop}(h:kH P X r)(hP:∀a s,P a s->P' a s)(hX:∀x s,X x s->X' x s):kH P' X' r:=match r,h with
 |.ok _ _,h=>hP _ _ h
 |.exc _ _,h=>hX _ _ h
end
inductive AS(W:Wd)(x:aV)(v:J):Prop where
 |glob (u:ar) (h:∀ρ,RV ρ v u) (n:nsIn W.K jp x=Y (Y u)):AS W x v
 |bi (u:ar) (h:∀ρ,RV ρ v u) (n:nsIn W.K jp x=Y .none) (b:bootBuiltins x=Y u) (e:x≠"__name__"):AS W x v
structure Gd(T:aT)(W:Wd):Prop where
 X:W.K.In W.h0
 top:TopRead W.p W.loose W.mg W.mb W.h0
 dbg:∀(x:aV)(v:J),T.glob.lookup x=Y v->(x==("__debug__":aV))=I
 glob:∀(x:aV)(v:J),T.glob.lookup x=Y v->AS W x v
structure fD(c:Fx)(A:ch):Prop where
 scope:c.env.scope=c.V.scope
 kind:c.env.scope.kind=.function
 glob:c.env.globals=jp
 bi:c.env.builtins=builtinsNs
 inj:∀(x y:aV)(i:Nat),eE c.V x=Y i->eE c.V y=Y i->x=y
 nd:∀(x:aV)(i:Nat),eE c.V x=Y i->(x==("__debug__":aV))=I/\(x==("__classdict__":aV))=I
 frames:A.frames=Y c.envs
 envs:∀e∈c.envs,e.scope.kind=.function/\∃L,e.frame=Y L/\(L=c.env.locals\/∃m,(L,Hd.ns m)∈c.held)
 hand:c.hand=I->A.handled=cV
 top:∀(y:aV)(i:Nat),eE c.V y=Y i->i<c.V.top
 cells:∀x:aV,c.V.scope.names.lookup x=Y .cell->(c.env.cells.lookup x).isSome=S
 lo:∀(x:aV)(i:Nat),cy c.V x=Y i->c.lo<=i
 lotop:c.lo<=c.V.top
inductive Jh(W:Wd)(c:Fx)(ρ:cM)(h:cT)(P:ar->Prop)(v:ar):Prop where
 |mk (t:bf) (ot:iS) (ts:Array ar) (e:v=.ref t) (g:h.get? t=Y ot) (d:ot.data=.fields ts) (n:t∉addrs c ρ) (f:W.h0.get? t=cV) (u:ar) (k:ts[3]?=Y u) (p:P u):Jh W c ρ h P v
inductive xU(h:cT)(e:bf)(P:ar->Prop):Prop where
 |mk (o:iS) (vs:Array ar) (g:h.get? e=Y o) (d:o.data=.fields vs) (u:ar) (k:vs[1]?=Y u) (p:P u):xU h e P
abbrev ZQ(W:Wd)(c:Fx)(ρ:cM)(h:cT)(e:bf):Prop:=xU h e λu=>u=.none\/Jh W c ρ h (λu=>u=.none\/u=pY c.env.locals) u
abbrev XI(W:Wd)(c:Fx)(ρ:cM)(h:cT)(e:bf):Prop:=xU h e (Jh W c ρ h λu=>u=.none\/u=pY c.env.locals)
abbrev VR(W:Wd)(c:Fx)(ρ:cM)(h:cT)(e:bf):Prop:=xU h e (Jh W c ρ h λu=>u=.none)
structure Cx where
 T:aT
 W:Wd
 c:Fx
 A:ch
abbrev Cx.R(K:Cx)(σ:St)(ρ:cM)(h:cT):Prop:=dB K.T K.W K.c σ ρ h
abbrev WT(α:Type):=(α->aF->Prop)->(ar->aF->Prop)->aF->Prop
def PW(K:Cx){α:Type}(t:o7 α):WT α:=λQ E s=>bY (cB K.W.prog K.W.w) K.A t Q E s
noncomputable abbrev eJ(s:aF)(h:cT)(tk:Nat):aF:={s with heap:=h,toks:=tk}
inductive kU(K:Cx)(σ:St)(ρ:cM)(x:Nat)(e:ar)(h:cT)(P:bf->Prop):Prop where
 |mk (rep:K.R σ ρ h) (a:bf) (r:List bf) (C:Nat) (fd:Option Nat) (ev:e=.ref a) (er:ρ[x]?=Y (a::r)) (eh:σ.heap[x]?=Y (.exn C I fd)) (f:P a):kU K σ ρ x e h P
abbrev AI(K:Cx)(σ:St)(ρ:cM)(x:Nat)(e:ar)(h:cT):Prop:=kU K σ ρ x e h (ZQ K.W K.c ρ h)
def vK{α β:Type}(K:Cx)(ρ:cM)(s:aF)(R:cM->β->α->Prop)(Q:α->aF->Prop)(b:β)(σ':St):Prop:=
 ∀(ρ':cM)(h':cT)(tk:Nat)(a:α),ρ<+:ρ'->K.R σ' ρ' h'->R ρ' b a->0<tk->Q a (eJ s h' tk)
def lU(K:Cx)(ρ:cM)(s:aF)(E:ar->aF->Prop)(x:Nat)(σ':St):Prop:=
 ∀(ρ':cM)(h':cT)(tk:Nat)(e:ar),ρ<+:ρ'->AI K σ' ρ' x e h'->0<tk->E e (eJ s h' tk)
def bB{α β:Type}(K:Cx)(σ:St)(ρ:cM)(s:aF)(w:WT α)(m:M β)(R:cM->β->α->Prop):Prop:=∀Q E,kH (vK K ρ s R Q) (lU K ρ s E) (m σ)->w Q E s
def aX{α β:Type}(K:Cx)(ρ0:cM)(w:WT α)(m:M β)(R:cM->β->α->Prop):Prop:=∀σ ρ s,ρ0<+:ρ->K.R σ ρ s.heap->0<s.toks->bB K σ ρ s w m R
section
variable{α β γ δ:Type}{K:Cx}{σ σ':St}{ρ ρ0:cM}{s:aF}{w w':WT α}{m:M β}{R:cM->β->α->Prop}{b:β}{t:o7 α}{v:J}{va:ar}{wv:ar->WT α}
theorem aX.pre(aj:aX K ρ0 w m R)(H:∀Q E s,w Q E s->w' Q E s):aX K ρ0 w' m R:=λσ ρ s a b c Q E h=>H Q E s (aj σ ρ s a b c Q E h)
theorem vK.from{h:cT}{tk:Nat}{ρ1:cM}{Q:α->aF->Prop}(hp:ρ<+:ρ1)(x:vK K ρ s R Q b σ'):vK K ρ1 (eJ s h tk) R Q b σ':=λρ' h' tk a p=>x ρ' h' tk a (hp.trans p)
theorem lU.from{h:cT}{tk x:Nat}{ρ1:cM}{E:ar->aF->Prop}(hp:ρ<+:ρ1)(y:lU K ρ s E x σ'):lU K ρ1 (eJ s h tk) E x σ':=λρ' h' tk a p=>y ρ' h' tk a (hp.trans p)
theorem bB.bind{f:α->WT γ}{g:β->M δ}{ah:cM->δ->γ->Prop}(aj:bB K σ ρ s w m R)(af:∀ρ1 a b,ρ<+:ρ1->R ρ1 b a->aX K ρ1 (f a) (g b) ah):bB K σ ρ s (λQ E s=>w (λa s'=>f a Q E s') E s) (m.bind g) ah:=λQ E h=>aj _ _ (cC (cg h) (λb σ' hq ρ' h' tk a p hr hR ht=>af ρ' a b p hR σ' ρ' (eJ s h' tk) (List.prefix_refl _) hr ht Q E (cC hq (λ_ _ x=>x.from p) λ_ _ x=>x.from p)) λ_ _ x=>x)
theorem aX.bind{f:α->WT γ}{g:β->M δ}{ah:cM->δ->γ->Prop}(aj:aX K ρ0 w m R)(af:∀ρ1 a b,ρ0<+:ρ1->R ρ1 b a->aX K ρ1 (f a) (g b) ah):aX K ρ0 (λQ E s=>w (λa s'=>f a Q E s') E s) (m.bind g) ah:=λσ ρ s hp hr ht=>bB.bind (aj σ ρ s hp hr ht) λρ1 a b p=>af ρ1 a b (hp.trans p)
theorem bB.no:bB K σ ρ s w (M.no:M β) R:=λ_ _ h=>h.elim
theorem aX.no:aX K ρ0 w (M.no:M β) R:=λ_ _ _ _ _ _=>bB.no
theorem bB.gd{q:Bool}(af:q=S->bB K σ ρ s w m R):bB K σ ρ s w (gd q m) R:=by induction q with
 |true=>exact af rfl
 |false=>exact bB.no
theorem aX.gd{q:Bool}(af:q=S->aX K ρ0 w m R):aX K ρ0 w (gd q m) R:=by induction q with
 |true=>exact af rfl
 |false=>exact aX.no
theorem bB.gO{o:Option γ}{k:γ->M β}(af:∀x,o=Y x->bB K σ ρ s w (k x) R):bB K σ ρ s w (gO o k) R:=by induction o with
 |some x=>exact af x rfl
 |none=>exact bB.no
theorem aX.gO{o:Option γ}{k:γ->M β}(af:∀x,o=Y x->aX K ρ0 w (k x) R):aX K ρ0 w (gO o k) R:=by induction o with
 |some x=>exact af x rfl
 |none=>exact aX.no
theorem aX.on0{l:List γ}(af:l=[]->aX K ρ0 w m R):aX K ρ0 w (q7 l m) R:=by induction l with
 |nil=>exact af rfl
 |cons x r=>exact aX.no
theorem aX.on1{l:List γ}{k:γ->M β}(af:∀x,l=[x]->aX K ρ0 w (k x) R):aX K ρ0 w (qE l k) R:=by induction l with
 |nil=>exact aX.no
 |cons x r=>exact aX.on0 λe=>af x (e▸rfl)
theorem aX.on2{l:List γ}{k:γ->γ->M β}(af:∀x y,l=[x,y]->aX K ρ0 w (k x y) R):aX K ρ0 w (Lk l k) R:=by induction l with
 |nil=>exact aX.no
 |cons x r=>exact aX.on1 λy e=>af x y (e▸rfl)
theorem aX.bif{q:Bool}{m':M β}(af:q=S->aX K ρ0 w m R)(J':q=I->aX K ρ0 w m' R):aX K ρ0 w (bif q then m else m') R:=by induction q with
 |true=>exact af rfl
 |false=>exact J' rfl
theorem bB.gH{i:Nat}{k:AO->M β}(af:∀o,σ.heap[i]?=Y o->bB K σ ρ s w (k o) R):bB K σ ρ s w (gH i k) R:=λQ E h=>bB.gO (k:=k) (o:=σ.heap[i]?) (λx e=>af x e) Q E h
theorem bB.gL{i:Nat}{k:List J->M β}(af:∀x,σ.heap[i]?=Y (.list x)->bB K σ ρ s w (k x) R):bB K σ ρ s w (gL i k) R:=bB.gH λo e=>by induction o with
 |list xs=>exact af xs e
 |_=>exact bB.no
theorem bB.gD{i:Nat}{k:List (List Nat×J)->M β}(af:∀x,σ.heap[i]?=Y (.dict x)->bB K σ ρ s w (k x) R):bB K σ ρ s w (gD i k) R:=bB.gH λo e=>by induction o with
 |dict xs=>exact af xs e
 |_=>exact bB.no
theorem bB.gF{i:Nat}{k:List (Nat×J)->M β}(af:∀x,σ.heap[i]?=Y (.fd x)->bB K σ ρ s w (k x) R):bB K σ ρ s w (gF i k) R:=bB.gH λo e=>by induction o with
 |fd xs=>exact af xs e
 |_=>exact bB.no
theorem bB.gX{i:Nat}{k:Nat->Bool->Option Nat->M β}(af:∀C b fd,σ.heap[i]?=Y (.exn C b fd)->bB K σ ρ s w (k C b fd) R):bB K σ ρ s w (gX i k) R:=bB.gH λo e=>by induction o with
 |exn C b fd=>exact af C b fd e
 |_=>exact bB.no
theorem aX.oInt{k:Int->M β}(hv:RV ρ0 v va)(af:∀x t,aX K ρ0 (wv (.int x t)) (k x) R):aX K ρ0 (wv va) (gS v k) R:=by induction hv with
 |int x t=>exact af x t
 |_=>exact aX.no
theorem aX.oStr{k:List Nat->M β}(hv:RV ρ0 v va)(af:∀x t,aX K ρ0 (wv (.str x t)) (k x.cps.toList) R):aX K ρ0 (wv va) (jz v k) R:=by induction hv with
 |str x t e=>subst e;exact af x t
 |_=>exact aX.no
theorem aX.oBool{k:Bool->M β}(hv:RV ρ0 v va)(af:∀x,aX K ρ0 (wv (.bool x)) (k x) R):aX K ρ0 (wv va) (kP v k) R:=by induction hv with
 |bool x=>exact af x
 |_=>exact aX.no
theorem aX.oNone(hv:RV ρ0 v va)(af:aX K ρ0 (wv .none) m R):aX K ρ0 (wv va) (pq v m) R:=by induction hv with
 |none=>exact af
 |_=>exact aX.no
theorem aX.oObj{k:Nat->M β}(hv:RV ρ0 v va)(af:∀i a r,ρ0[i]?=Y (a::r)->aX K ρ0 (wv (.ref a)) (k i) R):aX K ρ0 (wv va) (na v k) R:=by induction hv with
 |obj e=>exact af _ _ _ e
 |_=>exact aX.no
theorem bB.go(e:m σ=.ok b σ')(H:∀Q E,vK K ρ s R Q b σ'->w Q E s):bB K σ ρ s w m R:=λQ E h=>H Q E (by rw[e]at h;exact h)
abbrev ZK(K:Cx)(ρ:cM)(s:aF)(σ':St)(R:cM->β->α->Prop)(b:β)(Q:α->aF->Prop):Prop:=∀(ρ':cM)(h':cT)(tk:Nat)(a:α),ρ<+:ρ'->K.R σ' ρ' h'->R ρ' b a->Q a (eJ s h' tk)
theorem bB.put(ht:0<s.toks)(e:m σ=.ok b σ')(H:∀Q E,ZK K ρ s σ' R b Q->PW K t Q E s):bB K σ ρ s (PW K t) m R:=
 bB.go e λQ E h=>cq (n:=1) ht (H (λa s'=>1<=s'.toks->Q a s') (λe s'=>1<=s'.toks->E e s') λρ' h' tk a p hr r htk=>h ρ' h' tk a p hr r htk)
theorem bB.leaf(hr:K.R σ ρ s.heap)(ht:0<s.toks)(H:∀Q E,(∀tk a,R ρ b a->Q a (eJ s s.heap tk))->PW K t Q E s):bB K σ ρ s (PW K t) (M.ret b) R:=
 bB.put ht U λQ E h=>H Q E λtk a r=>h ρ s.heap tk a (List.prefix_refl _) hr r
theorem bB.stay(hr:K.R σ ρ s.heap)(ht:0<s.toks)(a:α)(r:R ρ b a)(H:∀Q E,Q a s->w Q E s):bB K σ ρ s w (M.ret b) R:=bB.go U λQ E h=>H Q E (h ρ s.heap s.toks a (List.prefix_refl _) hr r ht)
theorem aX.leaf(H:∀ρ Q E s,ρ0<+:ρ->(∀tk a,R ρ b a->Q a (eJ s s.heap tk))->PW K t Q E s):aX K ρ0 (PW K t) (M.ret b) R:=λσ ρ s hp hr ht=>bB.leaf hr ht λQ E=>H ρ Q E s hp
theorem aX.stay(a:α)(r:∀ρ,ρ0<+:ρ->R ρ b a)(H:∀Q E s,Q a s->w Q E s):aX K ρ0 w (M.ret b) R:=λσ ρ s hp hr ht=>bB.stay hr ht a (r ρ hp) λQ E=>H Q E s
end
abbrev Rv:cM->J->ar->Prop:=λρ b a=>RV ρ b a
abbrev Bv:cM->Bool->Bool->Prop:=λ_ b a=>b=a
abbrev eR(K:Cx){α β:Type}(t:o7 α)(m:M β)(R:cM->β->α->Prop):Prop:=∀ρ,aX K ρ (PW K t) m R
abbrev b8(K:Cx)(e:Expr)(m:M J):Prop:=eR K (rV e K.c.env) m Rv
abbrev lN(K:Cx)(e:Expr)(m:M Bool):Prop:=eR K (isTrue e K.c.env (rV e K.c.env)) m Bv
section
variable{K:Cx}{σ:St}{ρ:cM}{s:aF}{x:aV}{i:Nat}{v:J}{pos:da}
theorem jU{k:Const}(n:Nat)(hv:AT k=Y v):b8 K (.Constant k n pos) (D v):=λρ=>by induction k with
 |none=>exact(sI hv)▸aX.stay _ (λ_ _=>.none) λ_ _ _=>wpAny_Constant_none
 |bool b=>exact(sI hv)▸aX.stay _ (λ_ _=>.bool b) λ_ _ _=>wpAny_Constant_bool
 |int i=>exact(sI hv)▸aX.leaf λ_ Q E s _ h=>kx (h _ _ (.int i _))
 |str x=>exact(sI hv)▸aX.leaf λ_ Q E s _ h=>gV (h _ _ (.str x _ U))
 |_=>exact nS hv
def ZM(v:J):Bool:=vC I (a:=v) (unb:=S)
theorem Gs{w:J}(e:vQ v=Y w):v=w/\v≠.unb:=by induction v with
 |unb=>exact nS e
 |_=>exact⟨sI e,λq=>nT (congrArg ZM q)⟩
theorem xi(C:fD K.c K.A)(hx:eE K.c.V x=Y i)(hr:K.R σ ρ s.heap)(hv:σ.loc[i]?=Y v)(hu:v≠.unb){Q:ar->aF->Prop}{E:ar->aF->Prop}(h:∀u,RV ρ v u->Q u s):PW K (loadName K.c.env x) Q E s:=by obtain⟨m,F,L⟩:=hr.fr;cases L x i v hx hv hu with
 |loc k u hm hR=>exact wpAny_loadName_local C.kind (by unfold f6;exact C.scope▸k) F.ns hm (h u hR)
 |cell k ca u hc hm hR=>cases hr.held _ hm with
  |cell o ho hd=>
   rcases k with k|k
   ·exact wpAny_loadName_cell C.kind (by unfold f6;exact C.scope▸k) hc ⟨o,ho,hd⟩ (h u hR)
   ·exact wpAny_loadName_free C.kind (by unfold f6;exact C.scope▸k) hc ⟨o,ho,hd⟩ (h u hR) (C.nd x i hx).2
theorem Dk(C:fD K.c K.A)(hx:eE K.c.V x=Y i):eR K (loadName K.c.env x) (B i) Rv:=λ_ σ ρ s _ hr ht=>bB.gO (o:=(σ.loc[i]?).bind vQ) (K:=K) (ρ:=ρ) (σ:=σ) (s:=s) (R:=Rv) λa e=>by obtain⟨w,e1,e2⟩:=aA.mp e;obtain⟨rfl,hu⟩:=Gs e2;exact bB.go U λQ E h=>xi C hx hr e1 hu λu hR=>h ρ s.heap s.toks u (List.prefix_refl _) hr hR ht
theorem L8(C:fD K.c K.A)(hx:eE K.c.V x=Y i):b8 K (.Name x pos) (B i):=λρ=>(Dk C hx ρ).pre λQ E s h=>wpAny_Name h (C.nd x i hx).1
theorem zM{V:VI}(h:iE V x=S):V.scope.names.lookup x=Y .globalImplicit:=by unfold iE at h;induction q:(V.scope.names.lookup x==Y .globalImplicit)with
 |true=>exact eq_of_beq q
 |false=>rw[q]at h;exact nT h
theorem jX(G:Gd K.T K.W)(C:fD K.c K.A)(hg:iE K.c.V x=S)(hv:K.T.glob.lookup x=Y v)(hr:K.R σ ρ s.heap){Q:ar->aF->Prop}{E:ar->aF->Prop}(h:∀u,(∀ρ,RV ρ v u)->Q u s):PW K (rV (.Name x pos) K.c.env) Q E s:=by obtain⟨m,F,_⟩:=hr.fr;refine Name_function_global C.kind (by unfold f6;exact C.scope▸zM hg) ?_ (G.dbg x v hv);cases G.glob x v hv with
 |glob u hR hn=>exact loadGlobal_global (by exact C.glob▸G.top.g.keeps F.keep) (mg_of G.X G.top.g hn) (h u hR)
 |bi u hR hn hb hne=>exact loadGlobal_builtin (by exact C.glob▸G.top.g.keeps F.keep) (mg_none_of G.X G.top.g hn) (by exact C.bi▸G.top.b.keeps F.keep) ((G.top.builtins x hne).trans hb) (h u hR)
theorem GH(G:Gd K.T K.W)(C:fD K.c K.A)(hg:iE K.c.V x=S)(hv:K.T.glob.lookup x=Y v):b8 K (.Name x pos) (D v):=λ_ σ ρ s _ hr ht=>bB.go U λQ E h=>jX G C hg hv hr λu hR=>h ρ s.heap s.toks u (List.prefix_refl _) hr (hR ρ) ht
theorem pQ{a:Int}(h:small a=S):tF.Int.intBits a<=64:=by have h':a.natAbs<2^63:=of_decide_eq_true h;exact intBits_le_64 (by exact Int.neg_lt_of_neg_lt (gW (DC (k:=2^63) (Nat.le_of_lt h')).2 (of_decide_eq_true U))) (by exact gW (DC (k:=2^63) (Nat.le_of_lt h')).1 (of_decide_eq_true U))
end
end
section
open PySem PySem.W PySem.Calls PyProof.Rows
theorem td:∀{a b:List Nat},eqL a b=S↔a=b
 |[],[]=>⟨λ_=>rfl,λ_=>rfl⟩
 |[],_::_=>⟨λh=>(by exact nT h),λh=>(by cases h)⟩
 |_::_,[]=>⟨λh=>(by exact nT h),λh=>(by cases h)⟩
 |a::r,b::q=>by show(Nat.beq a b&&eqL r q)=S↔_;simp only[ax,List.cons.injEq,td (a:=r) (b:=q),Nat.beq_eq]
theorem BD{x y:aV}(h:x.cps.toList=y.cps.toList):x=y:=by induction x;induction y;exact congrArg aV.mk (Array.ext' h)
theorem xq(x y:aV):(x==y)=eqL x.cps.toList y.cps.toList:=by rw[dL,td,beq_iff_eq];exact⟨λh=>by rw[h],BD⟩
theorem xF(x y:aV):aI (x=y)=eqL x.cps.toList y.cps.toList:=by rw[dL,td,decide_eq_true_eq];exact⟨λh=>by rw[h],BD⟩
theorem jc(x:aV):x.length=x.cps.toList.length:=by show x.cps.size=_;simp
theorem wZ(x y:aV):(x++y).cps.toList=x.cps.toList++y.cps.toList:=by show(x.cps++y.cps).toList=_;simp
theorem zi(d:Nat):∀(k:Nat)(a:Array Nat),((List.replicate k #[d]).foldl (·++·) a).toList=a.toList++As [d] k
 |0,a=>(List.append_nil _).symm
 |k+1,a=>by simp only[List.replicate_succ,List.foldl_cons,zi d k];show(a++#[d]).toList++_=_++([d]++_);simp only[Array.toList_append,List.append_assoc]
theorem ML(x:aV)(n:Int){d:Nat}(hx:x.cps.toList=[d]):(Txt.mul x n).cps.toList=As [d] n.toNat:=by
 unfold Txt.mul
 by_cases h1:n<1
 ·rw[if_pos h1,show n.toNat=0 by exact Int.toNat_of_nonpos (Int.le_of_lt_add_one h1)];rfl
 ·rw[if_neg h1]
  by_cases h2:(n==1||x.length==0)=S
  ·rw[if_pos h2]
   have:n=1:=by
    rcases o8.mp h2 with h2|h2
    ·exact eq_of_beq h2
    ·rw[jc,hx]at h2;exact nT h2
   subst this;rw[hx];rfl
  ·rw[if_neg h2,show x.cps=#[d]from Array.ext' hx]
   exact zi d n.toNat #[]
variable{K:Cx}{σ:St}{ρ:cM}{s:aF}{a b:J}{va vb:ar}
theorem Ry(ha:RV ρ a va)(hb:RV ρ b vb):aX K ρ (PW K (ek .Add va vb)) (Nw a b) Rv:=by induction ha with
 |int x t=>exact aX.oInt (wv:=λv=>PW K (ek .Add (.int x t) v)) hb λy u=>aX.leaf λ_ Q E s _ h=>add_int (h _ _ (.int _ _))
 |str x t e=>subst e;refine aX.oStr (wv:=λv=>PW K (ek .Add (.str x t) v)) hb λy u=>aX.gd λq=>aX.leaf λ_ Q E s _ h=>add_str (λt' tk=>h tk _ (.str _ _ (wZ x y))) ?_;have:=Nat.le_of_ble_eq_true q;rw[List.length_append]at this;rw[jc,jc];exact this
 |obj e1=>
  refine aX.oObj (wv:=λv=>PW K (ek .Add (.ref _) v)) hb λj c r e2 σ ρ' s hp hr ht=>bB.gL λxs o1=>bB.gL λys o2=>bB.gd λq=>?_;obtain⟨vs,n,g1,l1,_⟩:=hr.list o1 (b6 hp e1);obtain⟨ws,n2,g2,l2,_⟩:=hr.list o2 (b6 hp e2);have lx:=l1.length;have ly:=l2.length;exact bB.put ht U λQ E h=>P.add_list (items:=vs.toArray) (items2:=ws.toArray) (n:=n) (n2:=n2) g1 g2
   (h _ _ s.toks _ (List.prefix_append _ _) (hr.newPush _ (.list (n:=0) (vs:=vs++ws) (by rw[bA _ U,List.append_toArray]) ((l1.append l2).mono λ_ _=>RV.mono (List.prefix_append _ _)))) (RV.new hr))
   (by rw[List.size_toArray,List.size_toArray,<-lx,<-ly];exact Nat.le_of_ble_eq_true q)
 |_=>exact aX.no
theorem SR(ha:RV ρ a va)(hb:RV ρ b vb):aX K ρ (PW K (ek .Mult va vb)) (Nt a b) Rv:=by induction ha with
 |int x t=>exact aX.oInt (wv:=λv=>PW K (ek .Mult (.int x t) v)) hb λy u=>aX.gd λq=>aX.leaf λ_ Q E s _ h=>mul_int (h _ _ (.int _ _)) ((o8.mp q).elim (λq=>IntMulOk.of_left (pQ q)) λq=>IntMulOk.of_right (pQ q))
 |str x t e=>
  subst e;refine aX.oInt (wv:=λv=>PW K (ek .Mult (.str x t) v)) hb λy u=>aX.gd λq=>?_;rw[ax,ax,decide_eq_true_eq,decide_eq_true_eq]at q;obtain⟨⟨q1,q2⟩,q3⟩:=q;obtain⟨d,hd⟩:=List.length_eq_one_iff.mp (Nat.eq_of_beq_eq_true q1);have hl:x.length=1:=by rw[jc,hd];rfl
  refine hd▸?_;refine aX.leaf λ_ Q E s _ h=>SB.mul ⟨?_,λh1 h2=>?_,λh1 h2=>?_⟩ λt' k=>h k _ (.str _ _ (ML x y hd))
  ·rw[cO,decide_eq_false_iff_not,decide_eq_false_iff_not];exact⟨dh.mpr (zB U q3),kt.mpr (gW q2 (of_decide_eq_true U))⟩
  ·refine hl▸?_
   have:(1:Int)<=(2^63-1)/y:=Int.le_ediv_of_mul_le (by lia) (by lia);lia
  ·refine hl▸?_
   unfold tF.Str.tooLong;rw[decide_eq_false_iff_not,cP];exact Nat.not_lt_of_le (Nat.le_trans (Nat.le_of_eq (Nat.one_mul _)) (mS.mpr q2))
 |_=>exact aX.no
theorem Qw{o:eO}(ha:RV ρ a va)(hb:RV ρ b vb):aX K ρ (PW K (ek o va vb)) (G9 o a b) Rv:=by induction o with
 |Add=>exact Ry ha hb
 |Mult=>exact SR ha hb
 |Sub=>exact aX.oInt (wv:=λv=>PW K (ek .Sub v vb)) ha λx t=>aX.oInt (wv:=λv=>PW K (ek .Sub (.int x t) v)) hb λy u=>aX.leaf λ_ Q E s _ h=>sub_int (h _ _ (.int _ _))
 |FloorDiv=>refine aX.oInt (wv:=λv=>PW K (ek .FloorDiv v vb)) ha λx t=>aX.oInt (wv:=λv=>PW K (ek .FloorDiv (.int x t) v)) hb λy u=>aX.gd λq=>aX.leaf λ_ Q E s _ h=>?_;rw[dt,cO,decide_eq_false_iff_not,decide_eq_false_iff_not]at q;exact floordiv_int q.1 (h _ _ (.int _ _)) (.inl (PyProof.noPylong_small (Nat.lt_of_not_le q.2)))
 |Mod=>refine aX.oInt (wv:=λv=>PW K (ek .Mod v vb)) ha λx t=>aX.oInt (wv:=λv=>PW K (ek .Mod (.int x t) v)) hb λy u=>aX.gd λq=>aX.leaf λ_ Q E s _ h=>?_;rw[dt,decide_eq_false_iff_not]at q;exact mod_int' q (h _ _ (.int _ _))
 |Pow=>refine aX.oInt (wv:=λv=>PW K (ek .Pow v vb)) ha λx t=>aX.oInt (wv:=λv=>PW K (ek .Pow (.int x t) v)) hb λy u=>aX.gd λq=>aX.leaf λ_ Q E s _ h=>?_;rw[ax,ax,decide_eq_true_eq,decide_eq_true_eq]at q;exact pow_int q.1.2 (eN (Int.mul_le_mul (c:=64) (d:=64) (gh.mpr (pQ q.1.1)) q.2 q.1.2 (by decide)) (by decide)) (h _ _ (.int _ _))
 |_=>exact aX.no
variable{l r x y z:Expr}{pos:da}{ml mr mx my mz:M J}{tx:M Bool}
theorem Le{o:eO}(il:b8 K l ml)(ir:b8 K r mr):b8 K (.BinOp l o r pos) (bp o ml mr):=λρ=>((il ρ).bind λρ1 va a p1 ha=>(ir ρ1).bind λρ2 vb b p2 hb=>Qw (ha.mono p2) hb).pre λQ E s h=>wpAny_BinOp h
theorem Sa(ha:RV ρ a va):aX K ρ (PW K (unaryOp .USub va)) (gS a λx=>M.ret (.int (-x))) Rv:=aX.oInt (wv:=λv=>PW K (unaryOp .USub v)) ha λx t=>aX.leaf λ_ Q E s _ h=>neg_int (h _ _ (.int _ _))
theorem KF(ix:b8 K x mx):b8 K (.UnaryOp .USub x pos) (rh mx):=λρ=>((ix ρ).bind λρ1 va a p1 ha=>Sa ha).pre λQ E s h=>pw h
theorem SV(ha:RV ρ a va):aX K ρ (PW K (unaryOp .Not va)) (kP a λt=>yes (!t)) Rv:=aX.oBool (wv:=λv=>PW K (unaryOp .Not v)) ha λx=>aX.stay _ (λ_ _=>.bool _) λQ E s h=>not_of (dv h)
theorem KD(ix:b8 K x mx):b8 K (.UnaryOp .Not x pos) (KC mx):=λρ=>((ix ρ).bind λρ1 va a p1 ha=>SV ha).pre λQ E s h=>pw h
theorem JR(ha:RV ρ a va):aX K ρ (PW K (nZ va)) (kP a M.ret) Bv:=aX.oBool (wv:=λv=>PW K (nZ v)) ha λx=>aX.stay x (λ_ _=>rfl) λQ E s h=>dv h
end
section
open PySem PySem.W PySem.Calls PyProof.Rows
inductive qh(W:Wd)(p:List Nat×J)(e:b7):Prop where
 |mk (x:aV) (t:qV) (a:x.cps.toList=p.1) (b:e.key=.str x t) (c:e.hash=d9 W.w.params x) (d:∀ρ,RV ρ p.2 e.val):qh W p e
theorem qh.toD{W:Wd}{ρ:cM}{p:List Nat×J}{e:b7}(x:qh W p e):mH W ρ p e:=let⟨a,b,c,d,e,f⟩:=x;⟨a,b,c,d,e,f ρ⟩
abbrev Sv(v:J)(u:ar):Prop:=∀ρ,RV ρ v u
inductive NU(W:Wd)(d:bf)(es:List (List Nat×J)):Prop where
 |mk (ns:(d==fZ)=I) (ds:List b7) (n:Nat) (l:W.K.lookup d=Y ⟨.type "dict",.none,.dict ds.toArray n,#[]⟩) (r:bP (qh W) es ds):NU W d es
inductive JG(W:Wd)(d:bf)(vs:List J):Prop where
 |mk (us:List ar) (l:W.h0.IsList d us.toArray) (r:bP Sv vs us):JG W d vs
inductive Ul(W:Wd)(d:bf)(vs:List J):Prop where
 |mk (us:List ar) (n:Nat) (dd:Option bf) (sl:Array (Option ar)) (l:W.K.lookup d=Y ⟨.type "tuple",dd,.seq us.toArray n,sl⟩) (r:bP Sv vs us):Ul W d vs
structure Gt(T:aT)(W:Wd):Prop where
 sdict:∀d es,d7 d T.sdict=Y es->NU W d es
 slist:∀d vs,d7 d T.slist=Y vs->JG W d vs
 stup:∀d vs,d7 d T.stup=Y vs->Ul W d vs
section
variable{W:Wd}{ρ:cM}{h:cT}{es:List (List Nat×J)}{ds:List b7}{n:Nat}{a:bf}
theorem kq(ho:h.get? a=Y (fJ ds n))(r:bP (mH W ρ) es ds):h.MapOf (strKind W.prog W.w) a (λk=>findBy pz ds.toArray k):=by refine⟨_,ds.toArray,n,ho,⟨U,U,U⟩,U,λe he=>?_,λ_=>rfl⟩;obtain⟨i,hi,rfl⟩:=List.getElem_of_mem (show e∈ds by simpa using he);obtain⟨b,e2,x,t,a1,a2,a3,a4⟩:=r.get (i:=i) (List.getElem?_eq_getElem (by exact r.length▸hi));rw[List.getElem?_eq_getElem hi]at e2;exact(sI e2)▸⟨x,by exact a2▸fz W.prog W.w x t,a3⟩
inductive yU(ρ:cM)(x:aV)(es:List (List Nat×J))(o:Option ar):Prop where
 |yes (v:J) (u:ar) (a:fE x.cps.toList es=Y v) (b:o=Y u) (r:RV ρ v u):yU ρ x es o
 |no (a:fE x.cps.toList es=.none) (b:o=.none):yU ρ x es o
theorem qk(r:bP (mH W ρ) es ds)(x:aV):yU ρ x es (findBy pz ds.toArray x):=by unfold findBy;simp only[List.find?_toArray];induction r with
 |nil=>exact .no U rfl
 |@cons pe de l m p q ih=>
  obtain⟨y,t,a1,a2,a3,a4⟩:=p;have hb:pz x de.key=eqL pe.1 x.cps.toList:=by exact a2▸a1▸xq y x
  refine(List.find?_cons)▸hb▸?_;induction q:eqL pe.1 x.cps.toList with
  |true=>exact .yes pe.2 _ (by unfold fE;refine q▸?_;rfl) U a4
  |false=>induction ih with
   |yes v u a b r=>exact .yes v u (by unfold fE;exact q▸a) b r
   |no a b=>exact .no (by unfold fE;exact q▸a) b
theorem yU.some{x:aV}{o:Option ar}(F:yU ρ x es o):o.isSome=(fE x.cps.toList es).isSome:=by induction F with
 |yes v u a b r=>refine a▸b▸?_;rfl
 |no a b=>refine a▸b▸?_;rfl
theorem qn{us:List ar}{dd:Option bf}{sl:Array (Option ar)}(e:h.get? a=Y ⟨.type "tuple",dd,.seq us.toArray n,sl⟩):n5 h a us.toArray:=⟨_,e,U,n,U⟩
end
theorem xD(x y:Int):(x==y)=aI (x=y):=by rw[dL,beq_iff_eq,decide_eq_true_eq]
variable{K:Cx}{σ:St}{ρ:cM}{s:aF}{a b:J}{va vb:ar}{E:ar->aF->Prop}
inductive Qt(ρ:cM)(t:Bool):J->J->ar->ar->Prop where
 |int (x y:Int) (t1 t2:qV) (e:aI (x=y)=t):Qt ρ t (.int x) (.int y) (.int x t1) (.int y t2)
 |str (x y:aV) (t1 t2:qV) (e:eqL x.cps.toList y.cps.toList=t):Qt ρ t (.str x.cps.toList) (.str y.cps.toList) (.str x t1) (.str y t2)
theorem xX{t:Bool}(ha:RV ρ a va)(hb:RV ρ b vb)(e:nK a b=Y t):Qt ρ t a b va vb:=by induction ha with
 |int x t1=>induction hb with
  |int y t2=>exact .int x y t1 t2 (aQ e)
  |_=>exact nS e
 |str x t1 e1=>induction hb with
  |str y t2 e2=>subst e1 e2;exact .str x y t1 t2 (aQ e)
  |_=>exact nS e
 |_=>exact nS e
theorem Dz{t:Bool}{Q:Bool->aF->Prop}(ha:RV ρ a va)(hb:RV ρ b vb)(e:nK a b=Y t)(h:Q t s):PW K (eqBool va vb) Q E s:=by cases xX ha hb e with
 |int x y t1 t2 k=>exact wpAny_eqBool_int (by simp only[xD,k];exact h)
 |str x y t1 t2 k=>exact wpAny_eqBool_str (by simp only[xF,k];exact h)
theorem qj{xs:List J}{vs:List ar}{t:bf}{b:Bool}{Q:Bool->aF->Prop}(ht:n5 s.heap t vs.toArray)(hl:bP (RV ρ) xs vs)(ha:RV ρ a va)(e:lP a xs=Y b)(h:Q b s):PW K (vn (.ref t) va) Q E s:=by
 show bY _ _ _ _ _ _;unfold vn;refine bS ?_;refine ay (wpAny_specialOf ht.typeIs jG.lookup ?_);rw[if_neg (by decide)];refine ay (wpAny_callSpecialUnlessNone?_slot (name:=am "__contains__") ht.typeIs jG
  (wpAny_call_entry jG ht.typeIs entry_tuple_contains ?_ (args_tuple_contains _ _)))
 show bY _ _ (tF.Tuple.tupleItemsOf (.ref t)>>=_) _ _ s;refine ay (tupleItemsOf_ ht ?_);refine ay (forIn_array_ _ (λbX r s'=>r.1=cV/\s'=s/\∃ys,bP (RV ρ) ys bX/\lP a ys=Y b) _ ?_ ?_ vs.toArray _ ⟨U,U,xs,by simpa using hl,e⟩)
 ·rintro y bX r s' ⟨hb,rfl,ys,hy,hin⟩
  cases hy with
  |@cons z _ zs _ p q=>unfold lP at hin;induction q1:nK z a with
   |none=>rw[q1]at hin;exact nS hin
   |some t=>rw[q1]at hin;refine ay (Dz (K:={K with A:=K.A.in1}) p ha q1 ?_);induction t with
    |true=>obtain rfl:=sI hin;exact ay (aL (aL (aL (by exact⟨_,U,dv h⟩))))
    |false=>exact aL ⟨U,U,zs,q,hin⟩
 ·rintro⟨b1,b2⟩ s' ⟨hb,rfl,ys,hy,hin⟩
  cases hy;obtain rfl:=sI hin;simp only at hb;subst hb;exact aL ⟨_,U,dv h⟩
section
variable{xs:List J}{vs:List ar}{t:bf}{b:Bool}{Q:ar->aF->Prop}
theorem Ho(ht:n5 s.heap t vs.toArray)(hl:bP (RV ρ) xs vs)(ha:RV ρ a va)(e:lP a xs=Y b)(h:Q (.bool b) s):PW K (b9 .In va (.ref t)) Q E s:=by show bY _ _ (do return .bool (<-vn (.ref t) va)) Q E s;exact ay (qj (K:=K) ht hl ha e (aL h))
theorem wq(ht:n5 s.heap t vs.toArray)(hl:bP (RV ρ) xs vs)(ha:RV ρ a va)(e:lP a xs=Y b)(h:Q (.bool (!b)) s):PW K (b9 .NotIn va (.ref t)) Q E s:=by show bY _ _ (do return .bool (!(<-vn (.ref t) va))) Q E s;exact ay (qj (K:=K) ht hl ha e (aL h))
end
theorem wJ(x:aV)(y:aV){d:Nat}(hy:y.cps.toList=[d]):(!(tF.Str.occurrences x y 0 x.length 1).isEmpty)=x.cps.toList.any (Nat.beq d):=by
 have:y=⟨#[d]⟩:=BD (by exact hy▸rfl);subst this;rw[StrLaws.found_one,dL,decide_eq_true_eq,List.any_eq_true];constructor
 ·intro m;exact⟨d,m,Nat.beq_refl d⟩
 ·rintro⟨e,m,q⟩
  rw[Nat.beq_eq]at q;subst q;exact m
theorem CV{b:Bool}(h:RV ρ a va)(e:Ws a=Y b):(va==ar.none)=b:=by induction h<;>first|exact nS e|exact sI e
def Dc(xs ys:List J)(j:Nat):Bool:=(xs[j]?.bind λa=>ys[j]?.bind λb=>nK a b).getD I
theorem si:∀{xs ys:List J}{t:Bool},tu xs ys=Y t->(List.range xs.length).all (Dc xs ys)=t/\∀j a b,xs[j]?=Y a->ys[j]?=Y b->nK a b=Y (Dc xs ys j)
 |[],[],t,e=>by exact(sI e)▸⟨U,λj a b h=>by cases h⟩
 |[],_::_,t,e=>by cases e
 |_::_,[],t,e=>by cases e
 |a::r,b::q,t,e=>by
  obtain⟨t1,h1,h2⟩:=aA.mp (show(nK a b).bind _=Y t from e);obtain⟨u,h3,rfl⟩:=aP.mp h2;obtain⟨h4,h5⟩:=si h3;have e0:Dc (a::r) (b::q) 0=t1:=by show(nK a b).getD I=t1;simp only[h1];rfl
  refine⟨?_,λj x y hx hy=>?_⟩
  ·simp only[List.length_cons,List.range_succ_eq_map,List.all_cons,List.all_map,e0]
   exact congrArg _ h4
  ·induction j with
   |zero=>obtain rfl:=sI hx;obtain rfl:=sI hy;simp only[e0];exact h1
   |succ j=>exact h5 j x y hx hy
theorem Dl{vs:List ar}{j:Nat}{u:ar}(h:j<vs.toArray.size)(e:vs[j]?=Y u):vs.toArray[j]=u:=by rw[List.size_toArray]at h;simp only[List.getElem_toArray];exact aQ ((List.getElem?_eq_getElem h).symm.trans e)
theorem FX{c d:bf}{n k:Nat}{vs us:List ar}{xs ys:List J}{t:Bool}{Q:ar->aF->Prop}(hu:K.A.units+64<cLine)(ha:s.heap.get? c=Y (listOf vs.toArray n))(hb:s.heap.get? d=Y (listOf us.toArray k))(l1:bP (RV ρ) xs vs)(l2:bP (RV ρ) ys us)
  (e:(bif Nat.beq xs.length ys.length then tu xs ys else Y I)=Y t) (hq:Q (.bool t) s):PW K (b9 .Eq (.ref c) (.ref d)) Q E s:=by
 have z1:vs.toArray.size=xs.length:=by rw[List.size_toArray,l1.length]
 have z2:us.toArray.size=ys.length:=by rw[List.size_toArray,l2.length]
 induction hl:Nat.beq xs.length ys.length with
 |false=>rw[hl]at e;obtain rfl:=sI e;refine PySem.SeqAt.eq_list_lengthsAt (cF ha) (cF hb) ?_ (by exact bE [_,_] [(.a (.a (.v 0) (.l 64)) (.l 1),.v 1)] 0 [1] (.a (.v 0) (.l 1)) (.v 1) U hu) hq;exact z1▸z2▸bne_iff_ne.mpr λq=>by rw[q,Nat.beq_refl]at hl;exact nF hl
 |true=>rw[hl]at e;have hl:=Nat.eq_of_beq_eq_true hl;obtain⟨h1,h2⟩:=si e;refine PySem.SeqAt.eq_listAt (e:=Dc xs ys) (cF ha) (cF hb) (by exact z1▸z2▸hl▸rfl) (by exact bE [_,_] [(.a (.a (.v 0) (.l 64)) (.l 1),.v 1)] 0 [1] (.a (.v 0) (.l 1)) (.v 1) U hu) (λj j1 j2=>?_) (by exact z1▸h1▸hq);intro prog w E' Q' hq';have j1':j<xs.length:=z1▸j1;have j2':j<ys.length:=z2▸j2;obtain⟨u1,g1,r1⟩:=l1.get (List.getElem?_eq_getElem j1');obtain⟨u2,g2,r2⟩:=l2.get (List.getElem?_eq_getElem j2');exact(Dl j1 g1)▸(Dl j2 g2)▸Dz (K:={K with W:={K.W with prog:=prog,w:=w},A:=K.A.in1}) r1 r2 (h2 j _ _ (List.getElem?_eq_getElem j1') (List.getElem?_eq_getElem j2')) hq'
def BW(K:Cx)(t:o7 ar):WT Bool:=λQ E s=>PW K t (λv s'=>∃b,v=.bool b/\Q b s') E s
theorem BW.out{t:o7 ar}{Q:ar->aF->Prop}(h:BW K t (λb=>Q (.bool b)) E s):PW K t Q E s:=bu h (λv s'⟨b,e,q⟩=>e▸q) λ_ _ x=>x
abbrev Nv:cM->Bool->Bool->Prop:=λ_ b a=>a=!b
theorem xw{t:o7 ar}{R:cM->Bool->Bool->Prop}{b c:Bool}(r:∀ρ,R ρ b c)(H:∀Q E s,(∀tk,Q (.bool c) (eJ s s.heap tk))->PW K t Q E s):aX K ρ (BW K t) (M.ret b) R:=λσ ρ s hp hr ht=>bB.go U λQ E h=>cq (n:=1) ht (H _ _ s λtk htk=>⟨c,U,h ρ s.heap tk c (List.prefix_refl _) hr (r ρ) htk⟩)
theorem bB.bwLeaf{t:o7 ar}{R:cM->Bool->Bool->Prop}{b c:Bool}(hr:K.R σ ρ s.heap)(ht:0<s.toks)(r:R ρ b c)(H:∀Q E,(∀tk,Q (.bool c) (eJ s s.heap tk))->PW K t Q E s):bB K σ ρ s (BW K t) (M.ret b) R:=bB.go U λQ E h=>cq (n:=1) ht (H _ _ λtk htk=>⟨c,U,h ρ s.heap tk c (List.prefix_refl _) hr r htk⟩)
theorem R9(hu:K.A.units+64<cLine)(ha:RV ρ a va)(hb:RV ρ b vb):aX K ρ (BW K (b9 .Eq va vb)) (Y0 a b) Bv:=by
 have flat:aX K ρ (BW K (b9 .Eq va vb)) (gO (nK a b) M.ret) Bv:=aX.gO λt e=>xw (c:=t) (λ_=>rfl) λQ E s h=>by cases xX ha hb e with
  |int x y t1 t2 k=>exact eq_int (by rw[xD,k];exact h s.toks)
  |str x y t1 t2 k=>exact PyProof.Rows.eq_str (by rw[xq,k];exact h s.toks)
 induction ha with
 |obj e1=>refine aX.oObj (v:=b) (wv:=λv=>BW K (b9 .Eq (.ref _) v)) hb λj c r e2 σ ρ' s hp hr ht=>bB.gL λxs o1=>bB.gL λys o2=>bB.gO λt e=>?_;obtain⟨vs,n,g1,l1,_⟩:=hr.list o1 (b6 hp e1);obtain⟨ws,k,g2,l2,_⟩:=hr.list o2 (b6 hp e2);exact bB.bwLeaf hr ht U λQ E h=>FX hu g1 g2 l1 l2 e (h s.toks)
 |_=>exact flat
theorem WE(ha:RV ρ a va)(hb:RV ρ b vb):aX K ρ (PW K (b9 .NotEq va vb)) (gO (nK a b) λt=>yes (!t)) Rv:=aX.gO λt e=>aX.stay _ (λ_ _=>.bool _) λQ E s h=>by cases xX ha hb e with
 |int x y t1 t2 k=>exact ne_int (by simp only[bne,xD,k];exact h)
 |str x y t1 t2 k=>exact PyProof.Rows.ne_str (by simp only[bne,xq,k];exact h)
theorem V4(G:Gd K.T K.W)(Gt:Gt K.T K.W)(ha:RV ρ a va)(hb:RV ρ b vb):aX K ρ (BW K (b9 .In va vb)) (Xm K.T a b) Bv:=
 aX.oStr (wv:=λv=>BW K (b9 .In v vb)) ha λx t=>by induction hb with
  |str y u e=>subst e;exact aX.on1 λc e=>xw (c:=y.cps.toList.any (Nat.beq c)) (λ_=>rfl) λQ E s h=>PyProof.Rows.in_str (by exact(wJ y x e)▸h s.toks)
  |sref d=>
   show aX K ρ _ (match d7 d K.T.sdict with
    |some es=>M.ret (fE x.cps.toList es).isSome
    |.none=>gO (d7 d K.T.stup) λvs=>gO (lP (.str x.cps.toList) vs) M.ret) Bv
   induction q:d7 d K.T.sdict with
   |some es=>obtain⟨lo,ds,n,hl,r⟩:=Gt.sdict _ _ q;have r':bP (mH K.W ρ) es ds:=r.mono λ_ _=>qh.toD;exact λσ ρ' s hp hr ht=>bB.bwLeaf hr ht (c:=(fE x.cps.toList es).isSome) U λQ E h=>wpAny_in_of (fz K.W.prog K.W.w x t) lo (kq (n:=n) (hr.stays _ _ (G.X _ _ hl)) r') (by exact((qk r' x).some)▸h _)
   |none=>refine aX.gO λvs q=>aX.gO λb e=>?_;obtain⟨us,n,dd,sl,hl,r⟩:=Gt.stup _ _ q;exact λσ ρ' s hp hr ht=>bB.bwLeaf hr ht (c:=b) U λQ E h=>Ho (qn (hr.stays _ _ (G.X _ _ hl))) (r.mono λ_ _ z=>z ρ) (.str x t U) e (h s.toks)
  |obj eb=>intro σ ρ' s hp hr ht;refine bB.gD λes q=>?_;obtain⟨ds,n,g,r,_,ns,_⟩:=hr.dict q (b6 hp eb);exact bB.bwLeaf hr ht (c:=(fE x.cps.toList es).isSome) U λQ E h=>wpAny_in_of (fz K.W.prog K.W.w x t) ns (kq (n:=n) g r) (by exact((qk r x).some)▸h _)
  |_=>exact aX.no
theorem Io(G:Gd K.T K.W)(Gt:Gt K.T K.W)(ha:RV ρ a va)(hb:RV ρ b vb):aX K ρ (BW K (b9 .NotIn va vb)) (VD K.T a b) Nv:=
 aX.oStr (wv:=λv=>BW K (b9 .NotIn v vb)) ha λx t=>by induction hb with
  |str y u e=>subst e;exact aX.on1 λc e=>xw (c:=!y.cps.toList.any (Nat.beq c)) (λ_=>rfl) λQ E s h=>PyProof.Rows.notIn_str (by exact(wJ y x e)▸h s.toks)
  |sref d=>refine aX.gO λvs q=>aX.gO λb e=>?_;obtain⟨us,n,dd,sl,hl,r⟩:=Gt.stup _ _ q;exact λσ ρ' s hp hr ht=>bB.bwLeaf hr ht (c:=!b) U λQ E h=>wq (qn (hr.stays _ _ (G.X _ _ hl))) (r.mono λ_ _ z=>z ρ) (.str x t U) e (h s.toks)
  |_=>exact aX.no
theorem UH(ha:RV ρ a va)(hb:RV ρ b vb):aX K ρ (PW K (b9 .Is va vb)) (pq b (gO (Ws a) yes)) Rv:=aX.oNone (wv:=λv=>PW K (b9 .Is va v)) hb (aX.gO λt e=>aX.stay _ (λ_ _=>.bool t) λQ E s h=>is_none (by exact(CV ha e)▸h))
theorem Gz(ha:RV ρ a va)(hb:RV ρ b vb):aX K ρ (PW K (b9 .IsNot va vb)) (pq b (gO (Ws a) λt=>yes (!t))) Rv:=aX.oNone (wv:=λv=>PW K (b9 .IsNot va v)) hb (aX.gO λt e=>aX.stay _ (λ_ _=>.bool (!t)) λQ E s h=>isNot_none (by exact(CV ha e)▸h))
theorem rg{t:Bool}{c:Bool}{R:cM->J->ar->Prop}(r:∀ρ,R ρ (.bool t) (.bool c)):aX K ρ (λQ E s=>Q (.bool c) s) (yes t) R:=aX.stay _ (λ_ _=>r _) λ_ _ _ h=>h
section
variable{p q:fQ}
theorem yb{o:fQ}{f:Int->Int->Bool}(ha:RV ρ a va)(hb:RV ρ b vb)(H:∀x y t u(Q:ar->aF->Prop) E s,Q (.bool (f x y)) s->PW K (b9 o (.int x t) (.int y u)) Q E s):aX K ρ (PW K (b9 o va vb)) (gS a λx=>gS b λy=>yes (f x y)) Rv:=
 aX.oInt (wv:=λv=>PW K (b9 o v vb)) ha λx t=>aX.oInt (wv:=λv=>PW K (b9 o (.int x t) v)) hb λy u=>aX.stay _ (λ_ _=>.bool _) λQ E s h=>H x y t u Q E s h
end
theorem tN(G:Gd K.T K.W)(Gt:Gt K.T K.W)(hu:K.A.units+64<cLine){o:fQ}(ha:RV ρ a va)(hb:RV ρ b vb):aX K ρ (PW K (b9 o va vb)) (p7 K.T o a b) Rv:=by induction o with
 |Lt=>exact yb ha hb λ_ _ _ _ _ _ _ h=>lt_int h
 |LtE=>exact yb ha hb λ_ _ _ _ _ _ _ h=>le_int h
 |Gt=>exact yb ha hb λ_ _ _ _ _ _ _ h=>gt_int h
 |GtE=>exact yb ha hb λ_ _ _ _ _ _ _ h=>ge_int h
 |Eq=>exact((R9 hu ha hb).bind λρ1 t u p e=>e▸rg λ_=>.bool _).pre λQ E s h=>BW.out h
 |NotEq=>exact WE ha hb
 |In=>exact((V4 G Gt ha hb).bind λρ1 t u p e=>e▸rg λ_=>.bool _).pre λQ E s h=>BW.out h
 |NotIn=>exact((Io G Gt ha hb).bind λρ1 t u p e=>(show t=!u from e)▸rg λ_=>.bool _).pre λQ E s h=>BW.out h
 |Is=>exact UH ha hb
 |IsNot=>exact Gz ha hb
end
section
open PySem PySem.W PySem.Calls PyProof.Rows
variable{K:Cx}{σ:St}{ρ:cM}{s:aF}{a b:J}{va vb:ar}{E:ar->aF->Prop}{x y z:Expr}{mx my mz:M J}{tx:M Bool}{pos:da}
structure Fa(K:Cx):Prop where
 g:Gd K.T K.W
 t:Gt K.T K.W
 u:K.A.units+64<cLine
theorem aX.ite{α β:Type}{w1 w2:WT α}{m1 m2:M β}{R:cM->β->α->Prop}{t:Bool}(J1:t=S->aX K ρ w1 m1 R)(J2:t=I->aX K ρ w2 m2 R):aX K ρ (λQ E s=>if t=S then w1 Q E s else w2 Q E s) (bif t then m1 else m2) R:=by induction t with
 |true=>exact J1 rfl
 |false=>exact J2 rfl
def KV(K:Cx)(x:Expr)(o:fQ)(y:Expr):WT ar:=λQ E s=>PW K (rV x K.c.env) (λa s=>PW K (rV y K.c.env) (λb s=>PW K (b9 o a b) Q E s) E s) E s
theorem Ct(F:Fa K){o:fQ}(ix:b8 K x mx)(iy:b8 K y my):aX K ρ (KV K x o y) (aW K.T o mx my) Rv:=
 (ix ρ).bind λρ1 va a p1 ha=>(iy ρ1).bind λρ2 vb b p2 hb=>tN F.g F.t F.u (ha.mono p2) hb
theorem Di{o:fQ}{m:M J}(hm:gz o y=I)(aj:∀ρ,aX K ρ (KV K x o y) m Rv):b8 K (.Compare x [o] [y] pos) m:=λρ=>(aj ρ).pre λQ E s h=>wpAny_Compare1 h hm
theorem zh{o:fQ}{m:M J}(hm:gz o y=I)(aj:∀ρ,aX K ρ (KV K x o y) m Rv):lN K (.Compare x [o] [y] pos) (bJ m):=λρ=>((aj ρ).bind λρ3 vd d p3 hd=>JR hd).pre λQ E s h=>wpAny_isTrue_Compare1 h hm
theorem tH{o p:fQ}(hm:gz p z=I):lastMarks [o,p] [y,z]=I:=by simp[lastMarks,hm]
theorem Jf(ha:RV ρ a va){α β:Type}{w1 w2:WT α}{m1 m2:M β}{R:cM->β->α->Prop}(J1:aX K ρ w1 m1 R)(J2:a=.bool I->va=.bool I->aX K ρ w2 m2 R):aX K ρ (λQ E s=>PW K (nZ va) (λt s=>if t=S then w1 Q E s else w2 Q E s) E s) (kP a λt=>bif t then m1 else m2) R:=by induction ha with
 |bool t=>induction t with
  |true=>exact J1.pre λQ E s h=>dv h
  |false=>exact(J2 U U).pre λQ E s h=>dv h
 |_=>exact aX.no
theorem GB(F:Fa K){o p:fQ}(hm:gz p z=I)(ix:b8 K x mx)(iy:b8 K y my)(iz:b8 K z mz):b8 K (.Compare x [o,p] [y,z] pos) (pp K.T o p mx my mz):=λρ=>((ix ρ).bind λρ1 va a p1 ha=>((iy ρ1).bind λρ2 vb b p2 hb=>(tN F.g F.t F.u (ha.mono p2) hb).bind λρ3 vd d p3 hd=>Jf hd (((iz ρ3).bind λρ4 ve e p4 he=>tN F.g F.t F.u ((hb.mono p3).mono p4) he).pre λQ E s h=>chain_last h) λe1 e2=>by subst e2;exact rg λ_=>.bool I).pre λQ E s h=>chain_link h).pre λQ E s h=>Compare_chain (ops:=[]) (rs:=[]) h (tH hm)
theorem M.assoc{α β γ:Type}{m:M α}{f:α->M β}{g:β->M γ}:(m.bind f).bind g=m.bind λa=>(f a).bind g:=by
 funext s
 unfold M.bind;cases m s<;>rfl
theorem Bi{α β:Type}{k:Bool->M α}{g:α->M β}:(kP a k).bind g=kP a λt=>(k t).bind g:=by induction a<;>rfl
theorem G1{T:aT}{o p:fQ}:bJ (pp T o p mx my mz)=mx.bind λa=>my.bind λb=>(p7 T o a b).bind λc=>kP c λt=>bif t then(mz.bind λd=>p7 T p b d).bind (λv=>kP v M.ret)else M.ret I:=by
 unfold bJ pp;simp only[M.assoc,Bi]
 congr;funext a;congr;funext b;congr;funext c;congr;funext t
 induction t with
 |true=>exact M.assoc
 |false=>rfl
theorem De{e:Expr}{m:M J}(he:∀whole,PySem.isTrue e K.c.env whole=(do let v<-whole;standAt e.pos;qO [v] (nZ v)))(i:b8 K e m):lN K e (bJ m):=λρ=>((i ρ).bind λρ1 va a p1 ha=>JR ha).pre λQ E s h=>wpAny_isTrue_value h (he _)
theorem Ex{pos:da}{a:ar}{op op':fQ}{r r':o7 ar}{Q:Bool->aF->Prop}{M:vp}{A:ch}
  (h:bY M A r (λb s₁=>bY M A (b9 op a b) (λc s₂=>bY M A (nZ c)
   (λt s₃=>if t then bY M A (rW pos b [op'] [r']) Q E s₃ else Q I s₃) E s₂) E s₁) E s):
  bY M A (rW pos a [op,op'] [r,r']) Q E s:=by
 show bY M A (do
  let rv<-qO [a] r
  standAt pos
  let c<-qO [a,rv] (b9 op a rv)
  release [a,rv] [c]
  if<-qO [c,rv] (nZ c)then rW pos rv [op'] [r']else pure I) Q E s
 refine ay (bS (bu h (λb s₁ h₁=>ay (cX (ay (bS (bu h₁ (λc s₂ h₂=>ay (wpAny_release' (ay (bS (bu h₂ (λt s₃ h₃=>?_) λ_ _ x=>x))))) λ_ _ x=>x))))) λ_ _ x=>x));induction t with
 |false=>exact aL h₃
 |true=>exact h₃
theorem EX{pos:da}{a:ar}{op:fQ}{r:o7 ar}{Q:Bool->aF->Prop}{M:vp}{A:ch}
  (h:bY M A r (λb s₁=>bY M A (b9 op a b) (λc s₂=>bY M A (nZ c) Q E s₂) E s₁) E s):bY M A (rW pos a [op] [r]) Q E s:=by
 show bY M A (do
  let rv<-qO [a] r
  standAt pos
  let c<-operate [a,rv] (b9 op a rv)
  qO [c] (nZ c)) Q E s
 exact ay (bS (bu h (λb s₁ h₁=>ay (cX (ay (wpAny_operate' (bu h₁ (λc s₂ h₂=>bS h₂) λ_ _ x=>x))))) λ_ _ x=>x))
theorem Eh(F:Fa K){o p:fQ}(hm:gz p z=I)(ix:b8 K x mx)(iy:b8 K y my)(iz:b8 K z mz):lN K (.Compare x [o,p] [y,z] pos) (bJ (pp K.T o p mx my mz)):=λρ=>by simp only[G1];exact((ix ρ).bind λρ1 va a p1 ha=>((iy ρ1).bind λρ2 vb b p2 hb=>(tN F.g F.t F.u (ha.mono p2) hb).bind λρ3 vd d p3 hd=>Jf hd ((((iz ρ3).bind λρ4 ve e p4 he=>tN F.g F.t F.u ((hb.mono p3).mono p4) he).bind λρ5 vf f p5 hf=>JR hf).pre λQ E s h=>EX h) λ_ _=>aX.stay I (λ_ _=>rfl) λ_ _ _ h=>h).pre λQ E s h=>Ex h).pre λQ E s h=>isTrue_chain (ops:=[]) (rs:=[]) h (tH hm)
theorem iD{α β:Type}{R:cM->β->α->Prop}{b:β}(a:α)(r:∀ρ,R ρ b a):aX K ρ (λQ E s=>Q a s) (M.ret b) R:=aX.stay a (λ_ _=>r _) λ_ _ _ h=>h
theorem Ih(ix:lN K x tx):lN K (.UnaryOp .Not x pos) (vM tx):=λρ=>((ix ρ).bind λρ1 va a p1 e=>by subst e;exact iD (!a) λ_=>rfl).pre λQ E s h=>wpAny_isTrue_Not h
theorem LU(ix:b8 K x mx)(iy:b8 K y my):b8 K (.BoolOp .And [x,y] pos) (Ap mx my):=λρ=>((ix ρ).bind λρ1 va a p1 ha=>Jf ha (iy ρ1) λe1 e2=>by subst e2;exact rg (c:=I) λ_=>.bool I).pre λQ E s h=>wpAny_And2 h
theorem V5(ha:RV ρ a va){w1:WT ar}{m1:M J}(J1:aX K ρ w1 m1 Rv):aX K ρ (λQ E s=>PW K (nZ va) (λt s=>if t=S then Q va s else w1 Q E s) E s) (kP a λt=>bif t then yes S else m1) Rv:=by induction ha with
 |bool t=>induction t with
  |true=>exact(rg λ_=>.bool S).pre λQ E s h=>dv h
  |false=>exact J1.pre λQ E s h=>dv h
 |_=>exact aX.no
theorem QB(ix:b8 K x mx)(iy:b8 K y my):b8 K (.BoolOp .Or [x,y] pos) (VW mx my):=λρ=>((ix ρ).bind λρ1 va a p1 ha=>V5 ha (iy ρ1)).pre λQ E s h=>wpAny_Or2 h
theorem yg{α β:Type}{w1 w2:WT α}{m1 m2:M β}{R:cM->β->α->Prop}{t u:Bool}(e:t=u)(J1:aX K ρ w1 m1 R)(J2:aX K ρ w2 m2 R):aX K ρ (λQ E s=>if u=S then w1 Q E s else w2 Q E s) (bif t then m1 else m2) R:=by subst e;exact aX.ite (λ_=>J1) λ_=>J2
theorem LZ(ix:lN K x tx)(iy:b8 K y my)(iz:b8 K z mz):b8 K (.IfExp x y z pos) (fB tx my mz):=λρ=>((ix ρ).bind λρ1 va a p1 e=>yg e (iy ρ1) (iz ρ1)).pre λQ E s h=>wpAny_IfExp h
abbrev Br(K:Cx)(o:BoolOp)(es:List Expr)(m:M Bool):Prop:=eR K (allTrue o es K.c.env) m Bv
theorem wY:Br K .And [] (M.ret S):=λρ=>(iD S λ_=>rfl).pre λQ E s h=>wpAny_allTrue_And_nil h
theorem zJ:Br K .Or [] (M.ret I):=λρ=>(iD I λ_=>rfl).pre λQ E s h=>wpAny_allTrue_Or_nil h
section
variable{r:List Expr}{t2:M Bool}
theorem vL(ix:lN K x tx)(ir:Br K .And r t2):Br K .And (x::r) (cQ tx t2):=λρ=>((ix ρ).bind λρ1 va a p1 e=>yg e (ir ρ1) (iD I λ_=>rfl)).pre λQ E s h=>wpAny_allTrue_And_cons h
theorem wS(ix:lN K x tx)(ir:Br K .Or r t2):Br K .Or (x::r) (pj tx t2):=λρ=>((ix ρ).bind λρ1 va a p1 e=>yg e (iD S λ_=>rfl) (ir ρ1)).pre λQ E s h=>wpAny_allTrue_Or_cons h
end
theorem wf{o:BoolOp}{es:List Expr}{t:M Bool}(i:Br K o es t):lN K (.BoolOp o es pos) t:=λρ=>(i ρ).pre λQ E s h=>wpAny_isTrue_BoolOp h
inductive fW(K:Cx):List Expr->List (M J)->Prop where
 |nil:fW K [] []
 |cons {e:Expr} {m:M J} {es:List Expr} {ms:List (M J)}:fR e=I->b8 K e m->fW K es ms->fW K (e::es) (m::ms)
theorem fF{e:Expr}{r:List Expr}{env:pv}(h:fR e=I):dF (e::r) env=(I,rV e env)::dF r env:=by cases e<;>first|rfl|exact nF h
abbrev Lv:cM->List J->List ar->Prop:=λρ b a=>bP (RV ρ) b a
theorem qI{es:List Expr}{ms:List (M J)}(i:fW K es ms):eR K (oV (gY pos (dF es K.c.env))) (db ms) Lv:=by induction i with
 |nil=>exact λρ=>(iD [] λ_=>.nil).pre λQ E s h=>gK h
 |cons he ie _ ih=>exact λρ=>((ie ρ).bind λρ1 va a p1 ha=>(ih ρ1).bind λρ2 vs as p2 hs=>aX.stay (R:=Lv) (va::vs) (λρ3 p3=>.cons ((ha.mono p2).mono p3) (hs.mono λ_ _=>RV.mono p3)) λQ E s h=>h).pre λQ E s h=>dC h (fF he)
theorem GR{xs:List J}{vs:List ar}{o:AO}{ob:iS}(l:bP (RV ρ) xs vs)(ho:∀ρ h a,h.get? a=Y ob->bP (RV ρ) xs vs->rE K.T K.W ρ h o [a])(hf:ob.isFreed=I):aX K ρ (λQ E s=>vs.length<=gA/\Q (.ref s.heap.objs.size) (eJ s (s.heap.push ob) s.toks)) (gd (Nat.ble xs.length 1000) (o4 o)) Rv:=aX.gd λq σ ρ' s hp hr ht=>bB.go U λQ E h=>
 ⟨by rw[<-l.length];exact Nat.le_trans (Nat.le_of_ble_eq_true q) (by rw[cP];decide),
  h _ _ s.toks _ (List.prefix_append _ _) (hr.newPush _ (ho _ _ _ (bA _ hf) (l.mono λ_ _ r=>(r.mono hp).mono (List.prefix_append _ _)))) (RV.new hr) ht⟩
theorem LF{es:List Expr}{ms:List (M J)}{k:Nat}(i:fW K es ms):b8 K (.Tuple es k pos) (mTup ms):=λρ=>((qI i ρ).bind λρ1 vs xs p1 l=>GR (ob:={cls:=.type "tuple",data:=.seq vs.toArray}) l (λ_ _ _ g l=>.tup (n:=0) g l) U).pre λQ E s h=>sH h
theorem La{es:List Expr}{ms:List (M J)}(i:fW K es ms):b8 K (.List es pos) (dm ms):=λρ=>((qI i ρ).bind λρ1 vs xs p1 l=>GR (ob:=listOf vs.toArray 0) l (λ_ _ _ g l=>.list g l) U).pre λQ E s h=>wpAny_List h
theorem JQ{neg:Bool}{xs:List J}{vs:List ar}(ha:RV ρ a va)(l:bP (RV ρ) xs vs):aX K ρ (λQ E s=>vs.length<=gA/\PW K (b9 (bif neg then .NotIn else .In) va (.ref s.heap.objs.size)) Q E (eJ s (s.heap.push {cls:=.type "tuple",data:=.seq vs.toArray}) s.toks)) (gd (Nat.ble xs.length 1000) (gO (lP a xs) λt=>yes (bif neg then !t else t))) Rv:=aX.gd λq=>aX.gO λt e σ ρ' s hp hr ht=>bB.go U λQ E h=>by refine⟨by rw[<-l.length];exact Nat.le_trans (Nat.le_of_ble_eq_true q) (by simp only[cP];decide),?_⟩;have ob:n5 (s.heap.push ({cls:=.type "tuple",data:=.seq vs.toArray}:iS)) s.heap.objs.size vs.toArray:=⟨_,bA _ U,U,0,U⟩;have hq:=h _ _ s.toks _ (List.prefix_refl _) (hr.push ({cls:=.type "tuple",data:=.seq vs.toArray}:iS)) (.bool _) ht;induction neg with
 |false=>exact Ho (s:=eJ s _ s.toks) ob l ha e hq
 |true=>exact wq (s:=eJ s _ s.toks) ob l ha e hq
theorem wO{es:List Expr}{ms:List (M J)}{k:Nat}{p2:da}(neg:Bool)(ix:b8 K x mx)(i:fW K es ms):aX K ρ (KV K x (bif neg then .NotIn else .In) (.Tuple es k p2)) (lu neg mx ms) Rv:=(ix ρ).bind λρ1 va a p1 ha=>((qI i ρ1).bind λρ2 vs xs p2 l=>JQ (neg:=neg) (ha.mono p2) l).pre λQ E s h=>sH (Q:=λv s=>PW K (b9 (bif neg then .NotIn else .In) va v) Q E s) h
end
section
open PySem PySem.W PySem.Calls PyProof.Rows
structure UN(W:Wd)(C:Nat)(nm:aV):Prop where
 get:n6 W.K C nm=S
 dict:mm W.K C=S
 no:eF W.K (.ref C) nm=Y .none
 set:eF W.K (.ref C) "__setattr__"=Y (Y (.builtin "object.__setattr__"))
 over:plainOver W.K C=S
 take:takerIn W.K C nm=Y .none
structure Gc(T:aT)(W:Wd):Prop where
 nd:T.names.Nodup
 ok:∀(C n:Nat)(nm:aV),sO T C n=S->T.names[n]?=Y nm->UN W C nm
section
variable{T:aT}{W:Wd}{ρ:cM}{h:cT}{n:Nat}{nm:aV}{fs:List (Nat×J)}{ds:List b7}
theorem EU(G:Gc T W){i j:Nat}(a:T.names[i]?=Y nm)(b:T.names[j]?=Y nm):i=j:=(List.getElem?_inj (List.getElem?_eq_some_iff.mp a).1 G.nd).mp (a.trans b.symm)
theorem AE(G:Gc T W)(hn:T.names[n]?=Y nm){p:Nat×J}{e:b7}(x:pT T ρ p e):e.key.isStr nm=Nat.beq p.1 n/\e.refKey=I:=by obtain⟨y,t,a1,a2,a3⟩:=x;unfold b7.refKey;rw[a2];refine⟨?_,U⟩;show(y==nm)=_;rw[dL,beq_iff_eq,Nat.beq_eq];exact⟨λe=>by subst e;exact EU G a1 hn,λe=>by rw[e,hn]at a1;exact(aQ a1).symm⟩
inductive Kd(ρ:cM)(n:Nat)(fs:List (Nat×J))(o:Option (Option ar)):Prop where
 |yes (v:J) (u:ar) (a:d7 n fs=Y v) (b:o=Y (Y u)) (r:RV ρ v u):Kd ρ n fs o
 |no (a:d7 n fs=.none) (b:o=Y .none):Kd ρ n fs o
theorem qb(G:Gc T W)(r:bP (pT T ρ) fs ds)(hn:T.names[n]?=Y nm):Kd ρ n fs (getL nm ds):=by
 have nr:ds.any (·.refKey)=I:=by induction r with
  |nil=>rfl
  |cons p q ih=>refine List.any_cons▸ih▸((AE G hn p).2)▸?_;rfl
 have key:Kd ρ n fs ((ds.find? (·.key.isStr nm)).elim (Y .none) λe=>Y (Y e.val)):=by clear nr;induction r with
  |nil=>exact .no U rfl
  |@cons pe de l m p q ih=>have hb:=(AE G hn p).1;obtain⟨y,t,a1,a2,a3⟩:=p;refine(List.find?_cons)▸hb▸?_;induction q:Nat.beq pe.1 n with
   |true=>exact .yes pe.2 de.val (by unfold d7;refine q▸?_;rfl) U a3
   |false=>induction ih with
    |yes v u a b r=>exact .yes v u (by unfold d7;exact q▸a) b r
    |no a b=>exact .no (by unfold d7;exact q▸a) b
 have e:getL nm ds=(ds.find? (·.key.isStr nm)).elim (Y .none) λe=>Y (Y e.val):=by unfold getL;cases ds.find? (·.key.isStr nm)with
  |none=>refine nr▸?_;rfl
  |some e=>rfl
 exact e▸key
theorem wm{v w:J}(e:x5 v=Y w):v=w:=by induction v with
 |unb=>exact nS e
 |bi _=>exact nS e
 |_=>exact sI e
theorem IR{v w:J}{u:ar}(h:RV ρ v u)(e:x5 v=Y w):handedIn u=S:=by induction h with
 |bi _=>exact nS e
 |_=>rfl
theorem on{a d:bf}{C:Nat}{k:Nat}(h1:h.get? a=Y (tD C d))(h2:h.get? d=Y (fJ ds k)):InstAt h a (tD C d) C (Y (fJ ds k)):=⟨h1,U,U,h2⟩
end
def Fz(T:aT)(W:Wd):Prop:=∀(c:Fx)(A:ch)(σ:St)(ρ:cM)(s:aF)(Q:ar->aF->Prop)(E:ar->aF->Prop)(i C n:Nat)(a:bf)(r:List bf)(j:Nat)(fs:List (Nat×J))(nm:aV)(v:J)(ex b:Bool),
 dB T W c σ ρ s.heap->σ.heap[i]?=Y (.exn C b (Y j))->ρ[i]?=Y (a::r)->T.names[n]?=Y nm->Mv T C n=S->σ.heap[j]?=Y (.fd fs)->d7 n fs=Y v->x5 v=Y v->
 (∀tk u,RV ρ v u->Q u (eJ s s.heap tk))->PW ⟨T,W,c,A⟩ (tE (.ref a) nm ex) Q E s
structure Fb(K:Cx):Prop extends Fa K where
 c:Gc K.T K.W
 xg:Fz K.T K.W
variable{K:Cx}{σ:St}{ρ:cM}{s:aF}{a b:J}{va vb:ar}{E:ar->aF->Prop}{x y z:Expr}{mx my mz:M J}{tx:M Bool}{pos:da}{n:Nat}{nm:aV}
theorem Dx(F:Fb K){ex:Bool}(hn:K.T.names[n]?=Y nm)(ha:RV ρ a va):aX K ρ (PW K (tE va nm ex)) (FH K.T n a) Rv:=
 aX.oObj (wv:=λv=>PW K (tE v nm ex)) ha λi c r e σ ρ' s hp hr ht=>bB.gH λo oe=>by have er:=b6 hp e;induction o with
  |inst C fs=>refine bB.gd λq=>bB.gO λv e1=>?_;obtain⟨w,e2,e3⟩:=aA.mp e1;obtain⟨d,ds,k,g1,g2,l,_⟩:=hr.inst oe er;have c:=F.c.ok C n nm q hn;obtain⟨m,Fm,_⟩:=hr.fr;cases qb F.c l hn with
   |yes v' u a b r=>
    have hv:v'=v:=(aQ (a.symm.trans e2)).trans (wm e3);subst hv;have h2:x5 v'=Y v':=by rw[<-aQ (a.symm.trans e2)]at e3;exact e3
    exact bB.leaf hr ht λQ E h=>get_own Fm F.g.X (on g1 g2) c.get c.dict c.no U b (IR r h2) (h _ _ r)
   |no a b=>rw[a]at e2;exact nS e2
  |exn C f fd=>refine bB.gd λq=>bB.gO λj e0=>bB.gF λfs e4=>bB.gO λv e1=>?_;obtain⟨w,e2,e3⟩:=aA.mp e1;have hv:=wm e3;subst hv;subst e0;exact bB.leaf hr ht λQ E h=>F.xg K.c K.A σ ρ' s Q E i C n _ _ j fs nm w ex f hr oe er hn q e4 e2 e3 h
  |_=>exact bB.no
theorem lQ{o:Expr}{a:aV}{env:pv}{whole:o7 ar}(h:nq o=S):attributeBase o a env whole=whole:=by induction o using bg with
 |Call f as ks p=>induction f using bg with
  |Name x q=>induction as with
   |nil=>induction ks with
    |nil=>exact nT h
    |cons _ _=>rfl
   |cons _ _=>rfl
  |_=>rfl
 |_=>rfl
theorem Ga(F:Fb K)(hn:K.T.names[n]?=Y nm)(hs:nq x=S)(ix:b8 K x mx):b8 K (.Attribute x nm pos) (bT K.T mx n):=λρ=>((ix ρ).bind λρ1 va a p1 ha=>Dx F (ex:=S) hn ha).pre λQ E s h=>by show bY _ _ _ _ _ _;rw[arm_eval_Attribute,lQ hs];exact ay (bu h (λv s1 h1=>ay (cX (ay (bS (bu h1 (λv s2 h2=>ay (wpAny_letTemporaryGo (aL h2))) λ_ _ x=>x))))) λ_ _ x=>x)
theorem ut{i:Int}{n j:Nat}(h:AW i n=Y j):0<=i/\i<n/\i<4611686018427387904/\i.toNat=j:=by unfold AW at h;induction q:(aI (0<=i)&&aI (i<n)&&aI (i<4611686018427387904))with
 |false=>rw[q]at h;exact nS h
 |true=>rw[q]at h;rw[ax,ax,decide_eq_true_eq,decide_eq_true_eq,decide_eq_true_eq]at q;exact⟨q.1.1,q.1.2,q.2,aQ h⟩
theorem ke{sl:Expr}{o i:ar}(h:Ll sl=I):subscripted sl I o i=operate [o,i] (getItem o i):=by cases sl<;>first|rfl|exact nF h
theorem L6(F:Fb K){value sl:Expr}(hsl:Ll sl=I)(ha:RV ρ a va)(hb:RV ρ b vb):aX K ρ (PW K (dW value sl va vb)) (U8 K.T a b) Rv:=by induction ha with
 |obj ea=>refine aX.oInt (wv:=λv=>PW K (dW value sl (.ref _) v)) hb λk u σ ρ' s hp hr ht=>bB.gL λxs e1=>bB.gO λv e=>?_;obtain⟨j,e2,e3⟩:=aA.mp e;obtain⟨i0,i1,i2,rfl⟩:=ut e2;obtain⟨vs,n,g1,l1,_⟩:=hr.list e1 (b6 hp ea);obtain⟨w,hu,hR⟩:=l1.get e3;have hL:=cF g1;exact bB.leaf hr ht λQ E h=>n7 hL.typeIs kY.lookup (wpAny_getItem_list hL i0 (by exact zU i2 U) (by simpa using hu) (h s.toks w hR)) (ke hsl)
 |str x t e0=>
  subst e0;refine aX.oInt (wv:=λv=>PW K (dW value sl (.str x t) v)) hb λk u=>aX.gO λd e=>aX.leaf λ_ Q E s _ h=>?_;obtain⟨j,e2,e3⟩:=aA.mp e;obtain⟨i0,i1,i2,rfl⟩:=ut e2;refine n7 (typeIs_str s x t) slot_str_getitem.lookup (PyProof.Rows.getItem_str (c:=d) ?_ ?_ (h _ _ (.str _ _ U))) (ke hsl)
  ·rw[cO,decide_eq_false_iff_not,decide_eq_false_iff_not];exact⟨dh.mpr (zB U i0),kt.mpr (zU i2 U)⟩
  ·have h1:seqIndex? k x.length=Y k.toNat:=by unfold seqIndex?;rw[jc];simp only[show¬k<0 by exact dh.mpr i0,if_false];rw[ce]at i1⊢;simp[i0,i1]
   rw[h1,Option.bind_some,<-ck];exact e3
 |sref d=>refine aX.oStr (wv:=λv=>PW K (dW value sl (.ref d) v)) hb λx t=>aX.gO λv e=>?_;obtain⟨es,e1,e2⟩:=aA.mp e;obtain⟨lo,ds,n,hl,r⟩:=F.t.sdict _ _ e1;have r':bP (mH K.W ρ) es ds:=r.mono λ_ _=>qh.toD;intro σ ρ' s hp hr ht;have hm:=kq (n:=n) (hr.stays _ _ (F.g.X _ _ hl)) r';cases qk r' x with
  |yes v' u a b r=>have:=aQ (a.symm.trans e2);exact this▸bB.leaf hr ht λQ E h=>n7 hm.typeIs slot_dict_getitem.lookup (wpAny_getItem_of (fz K.W.prog K.W.w x t) hm b (h _ _ (r.mono hp))) (ke hsl)
  |no a b=>rw[e2]at a;exact TC a
 |_=>exact aX.no
theorem MD(F:Fb K)(hsl:Ll y=I)(ix:b8 K x mx)(iy:b8 K y my):b8 K (.Subscript x y pos) (eB K.T mx my):=λρ=>((ix ρ).bind λρ1 va a p1 ha=>(iy ρ1).bind λρ2 vb b p2 hb=>L6 F hsl (ha.mono p2) hb).pre λQ E s h=>Subscript_ h
end
section
open PySem PySem.W PySem.Calls PyProof.Rows
theorem kj{α:Type}(xs:List α)(a:Nat):∀m,((List.range m).map (λk=>a+k)).filterMap (xs[·]?)=(xs.drop a).take m
 |0=>by simp only[List.take_zero];rfl
 |m+1=>by
  simp only[List.range_succ,List.map_append,List.filterMap_append,kj xs a m,List.take_add_one]
  congr 1
  simp only[List.getElem?_drop];simp only[List.map_cons,List.map_nil,List.filterMap_cons,List.filterMap_nil];cases xs[a+m]?<;>rfl
theorem E0(a b:Nat):el a b 1=(List.range (b-a)).map (λk=>a+k):=by
 unfold el;simp only[show(1:Int)>0 by decide,if_true];have:(if(a:Int)<b then((b:Int)-a+1-1)/1 else 0).toNat=b-a:=by
  split
  ·simp only[Int.ediv_one];exact ZA _ _
  ·simp only[Int.toNat_zero];exact(Nat.sub_eq_zero_of_le (gh.mp (dh.mp ‹_›))).symm
 simp only[this];exact List.map_congr_left λk _=>by exact sm2 _ _
theorem pL{α:Type}(xs:List α)(a b:Nat):(el a b 1).filterMap (xs[·]?)=cut xs a b/\(el a b 1).length=b-a:=by rw[E0];exact⟨by rw[kj];exact(List.drop_take ..).symm,by rw[List.length_map,List.length_range]⟩
theorem Ck(n:Nat)(i:Int):max 0 (min (if i<0 then i+(n:Int)else i) (n:Int))=((clip n i:Nat):Int)/\clip n i<=n:=by
 unfold clip
 by_cases q:i<0
 ·simp only[q,if_true,decide_true,cond];exact Zq n q
 ·simp only[q,if_false,decide_false,cond];exact Zs n q
theorem LC{α:Type}{xs:List α}{a b:Nat}(hb:b<=xs.length)(h:b-a=xs.length):cut xs a b=xs:=by unfold cut;induction xs with
 |nil=>rw[List.take_nil,List.drop_nil]
 |cons x r=>
  rw[List.length_cons]at hb h;have:a=0/\b=r.length+1:=by exact Zr hb h
  refine this.1▸this.2▸List.drop_zero▸?_;exact List.take_of_length_le (Nat.le_refl _)
theorem bP.pick{α β:Type}{R:α->β->Prop}{l:List α}{m:List β}(x:bP R l m):∀ix:List Nat,bP R (ix.filterMap (l[·]?)) (ix.filterMap (m[·]?))
 |[]=>.nil
 |i::r=>by
  have ih:=bP.pick x r;simp only[List.filterMap_cons,List.filterMap_cons]
  by_cases hi:i<l.length
  ·obtain⟨b,hb,hR⟩:=x.get (List.getElem?_eq_getElem hi)
   exact(List.getElem?_eq_getElem hi)▸hb▸.cons hR ih
  ·exact(List.getElem?_eq_none (Nat.le_of_not_lt hi))▸(List.getElem?_eq_none (by rw[<-x.length];exact Nat.le_of_not_lt hi))▸ih
noncomputable abbrev IG(d n:Nat)(b:Option Int):Int:=match b with
 |.none=>(d:Int)
 |some i=>max 0 (min (if i<0 then i+(n:Int)else i) (n:Int))
inductive Cj(d n:Nat)(u:ar)(l:Nat):Prop where
 |mk (p:Option (Int×qV)) (e:u=partValue p) (q:IsPart u (p.map (·.1))) (h:IG d n (p.map (·.1))=(l:Int)) (le:d<=n->l<=n):Cj d n u l
theorem I8{ρ:cM}{d n l:Nat}{a:J}{u:ar}(ha:RV ρ a u)(e:zx d n a=Y l):Cj d n u l:=by induction ha with
 |none=>exact(sI e)▸⟨.none,U,.none,U,λh=>h⟩
 |int i t=>exact(sI e)▸⟨Y (i,t),U,.int _ _,(Ck _ _).1,λ_=>(Ck _ _).2⟩
 |_=>exact nS e
theorem S7{n l h:Nat}{bl bh:Option Int}(e1:IG 0 n bl=(l:Int))(e2:IG n n bh=(h:Int)):jR bl bh 1 n=el l h 1:=by unfold jR;simp only[show(1:Int)>0 by decide,if_true];refine e1▸e2▸?_;induction bl<;>induction bh<;>rfl
theorem MX{n l h:Nat}{bl bh:Option Int}(e1:IG 0 n bl=(l:Int))(e2:IG n n bh=(h:Int)):sJ bl bh .none n=((l:Int),(h:Int),1):=by unfold sJ;simp only[Option.getD_none,show(1:Int)>0 by decide,if_true];refine e1▸e2▸?_;induction bl<;>induction bh<;>rfl
inductive N1{α:Type}(xs:List α)(vl vu:ar)(ys:List α):Prop where
 |mk (l h:Nat) (L:Cj 0 xs.length vl l) (aa:Cj xs.length xs.length vu h) (le:xs.length<=gA) (e:cut xs l h=ys):N1 xs vl vu ys
theorem FY{α:Type}{xs ys:List α}{ρ:cM}{l u:J}{vl vu:ar}(hl:RV ρ l vl)(hu:RV ρ u vu)(e:qJ xs l u=Y ys):N1 xs vl vu ys:=by obtain⟨n1,e1,e2⟩:=aA.mp e;obtain⟨n2,e3,e4⟩:=aA.mp e2;induction q:Nat.ble xs.length cj with
 |false=>rw[q]at e4;exact nS e4
 |true=>rw[q]at e4;exact⟨n1,n2,I8 hl e1,I8 hu e3,Nat.le_of_ble_eq_true q,aQ e4⟩
variable{K:Cx}{σ:St}{ρ:cM}{s:aF}{a l u:J}{va vl vu:ar}{E:ar->aF->Prop}{x:Expr}{mx ml mu:M J}{pos p:da}
abbrev LD(K:Cx)(e:Option Expr)(m:M J):Prop:=eR K (evalPart e K.c.env) m Rv
theorem En:LD K .none (D .none):=λρ=>aX.stay .none (λ_ _=>.none) λQ E s h=>aL h
noncomputable abbrev fY(vl vu vs:ar):iS:={cls:=.type "slice",data:=.fields #[vl,vu,vs]}
abbrev Zc(K:Cx)(value:Expr)(lo hi:Option Expr)(p:da)(va vl vu:ar):WT ar:=λQ E s=>PW K (dW value (.Slice lo hi .none p) va (.ref s.heap.objs.size)) Q E (eJ s (s.heap.push (fY vl vu .none)) s.toks)
theorem ze{value:Expr}{lo hi:Option Expr}{xs:List J}{ra:bf}{vs:List ar}(hr:K.R σ ρ s.heap)(ht:0<s.toks)(hL:(s.heap.push (fY vl vu .none)).IsList ra vs.toArray)(l1:bP (RV ρ) xs vs)(hl:RV ρ l vl)(hu:RV ρ u vu):
  bB K σ ρ s (Zc K value lo hi p (.ref ra) vl vu) (AN xs l u) Rv:=bB.gO λys e=>bB.go U λQ E h=>by
 obtain⟨n1,n2,⟨p1,_,q1,f1,_⟩,⟨p2,_,q2,f2,_⟩,le,rfl⟩:=FY hl hu e;have hr':=hr.push (fY vl vu .none);have hsz:vs.toArray.size=xs.length:=by simp only[List.size_toArray,l1.length]
 refine n7 (s:=eJ s _ s.toks) hL.typeIs kY.lookup (lD hL (pZ ..) q1 q2 .none (λh=>by exact nS h) ?_ (by exact hsz▸le)) rfl;refine h (ρ++[[(s.heap.push (fY vl vu .none)).objs.size]]) _ s.toks _ (List.prefix_append _ _) (hr'.newPush _ (.list (n:=0) (vs:=(el n1 n2 1).filterMap (vs[·]?)) ?_ ?_)) (RV.new hr') ht
 ·rw[bA _ rfl]
  unfold slicePick;refine hsz▸(MX f1 f2)▸?_;simp only[List.getElem?_toArray]
 ·exact((pL xs n1 n2).1)▸(l1.mono λ_ _=>RV.mono (List.prefix_append _ _)).pick _
theorem Ki(F:Fb K){value:Expr}{lo hi:Option Expr}(ha:RV ρ a va)(hl:RV ρ l vl)(hu:RV ρ u vu):aX K ρ (Zc K value lo hi p va vl vu) (UD K.T a l u) Rv:=by induction ha with
 |str x t e0=>
  subst e0;refine aX.gO λys e σ ρ' s hp hr ht=>bB.go U λQ E h=>cq (n:=1) ht ?_;obtain⟨n1,n2,⟨p1,g1,_,f1,_⟩,⟨p2,g2,_,f2,le2⟩,le,rfl⟩:=FY hl hu e;have hr':=hr.push (fY vl vu .none);have hpick:n8 x p1 p2 .none=el n1 n2 1:=by unfold n8;simp only[jc];exact S7 f1 f2
  have hc:(el n1 n2 1).filterMap (x.cps[·]?)=cut x.cps.toList n1 n2:=by have:=(pL x.cps.toList n1 n2).1;simpa only[ck]using this
  refine n7 (typeIs_str _ x t) slot_str_getitem.lookup (wpAny_getItem_str_slice (l:=p1) (u:=p2) (st:=.none) ⟨_,bA _ U,U,by simp only[g1,g2];rfl⟩ U ?_) rfl;unfold sliceMade;refine post_val_or_str ?_;have hR:(if(((.none:Option (Int×qV)).map (·.1)).getD 1==1&&(n8 x p1 p2 .none).length==x.length)=S then x else⟨((n8 x p1 p2 .none).filterMap (x.cps[·]?)).toArray⟩:aV).cps.toList=cut x.cps.toList n1 n2:=by
   split
   ·rename_i z
    rw[ax,beq_iff_eq,hpick]at z;exact(LC (le2 (Nat.le_refl _)) (by rw[<-(pL x.cps.toList n1 n2).2,eq_of_beq z.2,jc])).symm
   ·simp only[hpick,hc]
  refine⟨?_,λt' k hk=>h ρ' _ k _ (List.prefix_refl _) hr' (.str _ _ hR) hk⟩;rw[jc,hR];exact Nat.le_trans (by unfold cut;simp only[List.length_drop,List.length_take];exact Nat.le_trans (Nat.sub_le _ _) (Nat.min_le_right _ _)) le
 |obj ea=>refine λσ ρ' s hp hr ht=>bB.gL λxs e0=>?_;obtain⟨vs,n,gg,l1,_⟩:=(hr.push (fY vl vu .none)).list e0 (b6 hp ea);exact ze hr ht (cF gg) l1 (hl.mono hp) (hu.mono hp)
 |sref d=>refine aX.gO λxs e0 σ ρ' s hp hr ht=>?_;obtain⟨vs,gg,l1⟩:=F.t.slist _ _ e0;exact ze hr ht (gg.at λo e=>(hr.push (fY vl vu .none)).stays _ o e) (l1.mono λ_ _ z=>z ρ') (hl.mono hp) (hu.mono hp)
 |_=>exact aX.no
theorem Mi(F:Fb K){lo hi:Option Expr}(ix:b8 K x mx)(il:LD K lo ml)(iu:LD K hi mu):b8 K (.Subscript x (.Slice lo hi .none p) pos) (fU K.T mx ml mu):=λρ=>((ix ρ).bind λρ1 va a p1 ha=>((il ρ1).bind λρ2 vl l p2 hl=>(iu ρ2).bind λρ3 vu u p3 hu=>Ki F ((ha.mono p2).mono p3) (hl.mono p3) hu).pre λQ E s h=>wpAny_Slice (Q:=λi s=>PW K (dW x (.Slice lo hi .none p) va i) Q E s) (bu h (λl s h=>bu h (λu s h=>by simp only[evalPart_none];exact aL h) λ_ _ x=>x) λ_ _ x=>x)).pre λQ E s h=>Subscript_ h
theorem y8{α β:Type}{f g:α->Option β}:∀{l:List α},(∀x∈l,f x=g x)->l.filterMap f=l.filterMap g
 |[],_=>rfl
 |a::r,h=>by simp only[List.filterMap_cons,List.filterMap_cons,h a (.head _),y8 λx hx=>h x (.tail _ hx)]
theorem IE{α:Type}(xs:List α):(el ((xs.length:Int)-1) (-1) (-1)).filterMap (xs[·]?)=xs.reverse:=by
 have e:el ((xs.length:Int)-1) (-1) (-1)=(List.range xs.length).map (λk=>xs.length-1-k):=by
  unfold el;simp only[show¬(-1:Int)>0 by decide,if_false];have:(if((xs.length:Int)-1)>-1 then((xs.length:Int)-1- -1- -1-1)/(- -1)else 0).toNat=xs.length:=by
   split
   ·rw[Int.neg_neg,Int.ediv_one];exact ZE _
   ·refine Int.toNat_zero▸?_;lia
  rw[this];exact List.map_congr_left λk hk=>by have:=List.mem_range.mp hk;exact ZL _ _
 rw[e,List.filterMap_map];have h1:(List.range xs.length).filterMap ((λx=>xs[x]?)∘λk=>xs.length-1-k)=(List.range xs.length).filterMap (λk=>xs.reverse[k]?):=y8 λk hk=>(List.getElem?_reverse (List.mem_range.mp hk)).symm;have:=kj xs.reverse 0 xs.length;simp only[Nat.zero_add,List.map_id',List.drop_zero]at this;rw[h1,this,List.take_of_length_le (by rw[List.length_reverse];exact Nat.le_refl _)]
theorem P8{value:Expr}{k:Nat}{p1 p2:da}{t:qV}(ha:RV ρ a va):aX K ρ (λQ E s=>PW K (dW value (.Slice .none .none (Y (.UnaryOp .USub (.Constant (.int 1) k p1) p2)) p) va (.ref s.heap.objs.size)) Q E (eJ s (s.heap.push (fY .none .none (.int (-1) t))) s.toks)) (na a λi=>gL i λxs=>gd (Nat.ble xs.length cj) (o4 (.list xs.reverse))) Rv:=
 aX.oObj (wv:=λva Q E s=>PW K (dW value (.Slice .none .none (Y (.UnaryOp .USub (.Constant (.int 1) k p1) p2)) p) va (.ref s.heap.objs.size)) Q E (eJ s (s.heap.push (fY .none .none (.int (-1) t))) s.toks)) ha λi c r ea σ ρ' s hp hr ht=>bB.gL λxs e0=>bB.gd λq=>bB.go U λQ E h=>by
  have hr':=hr.push (fY .none .none (.int (-1) t));obtain⟨vs,n,gg,l1,_⟩:=hr'.list e0 (b6 hp ea);have hL:=cF gg;have hsz:vs.toArray.size=xs.length:=by rw[List.size_toArray,l1.length]
  refine n7 (s:=eJ s _ s.toks) hL.typeIs kY.lookup (lD (s:=eJ s _ s.toks) hL (pZ ..) .none .none (.int (-1) _) (by decide) ?_ (by exact hsz▸Nat.le_of_ble_eq_true q)) rfl;refine h (ρ'++[[(s.heap.push (fY .none .none (.int (-1) t))).objs.size]]) _ s.toks _ (List.prefix_append _ _) (hr'.newPush _ (.list (n:=0) (vs:=(el ((xs.length:Int)-1) (-1) (-1)).filterMap (vs[·]?)) ?_ ?_)) (RV.new hr') ht
  ·rw[bA _ rfl]
   unfold slicePick;rw[hsz];unfold sJ;simp only[Option.getD_some,show¬(-1:Int)>0 by decide,if_false,List.getElem?_toArray]
  ·exact(IE xs)▸(l1.mono λ_ _=>RV.mono (List.prefix_append _ _)).pick _
theorem aX.tok{α β:Type}{w:Nat->WT α}{m:M β}{R:cM->β->α->Prop}(k:Nat)(aj:∀t,aX K ρ (w t) m R):aX K ρ (λQ E s=>w s.toks Q E (eJ s s.heap (s.toks+k))) m R:=λσ ρ' s hp hr ht Q E h=>aj s.toks σ ρ' (eJ s s.heap (s.toks+k)) hp hr (Nat.lt_of_lt_of_le ht (Nat.le_add_right _ _)) Q E h
theorem Kh{k:Nat}{p1 p2:da}(ix:b8 K x mx):b8 K (.Subscript x (.Slice .none .none (Y (.UnaryOp .USub (.Constant (.int 1) k p1) p2)) p) pos) (K9 mx):=λρ=>((ix ρ).bind λρ1 va a p1 ha=>(aX.tok 2 λt=>P8 (t:=t+1) ha).pre λQ E s h=>wpAny_Slice (Q:=λi s=>PW K (dW x (.Slice .none .none (Y (.UnaryOp .USub (.Constant (.int 1) k _) p2)) p) va i) Q E s) (by simp only[evalPart_none,evalPart_some];exact aL (aL (pw (kx (neg_int h)))))).pre λQ E s h=>Subscript_ h
end
section
open PySem PySem.W PySem.Calls PyProof.Rows
variable{K:Cx}{σ σ':St}{ρ:cM}{s s₁:aF}{E:ar->aF->Prop}{pos:da}
inductive GG(T:aT)(ρ:cM)(p:Nat×J)(e:aV×ar):Prop where
 |mk (n:T.names[p.1]?=Y e.1) (r:RV ρ p.2 e.2):GG T ρ p e
def wx(K:Cx)(f:ar)(m:List J->List (Nat×J)->M J):Prop:=∀(ρ:cM)(as:List J)(ks:List (Nat×J))(us:List ar)(kws:List (aV×ar)),bP (RV ρ) as us->bP (GG K.T ρ) ks kws->aX K ρ (PW K (call f us kws)) (m as ks) Rv
inductive sv(K:Cx):List eU->List (Nat×M J)->Prop where
 |nil:sv K [] []
 |cons {x:aV} {e:Expr} {p:da} {k:Nat} {m:M J} {r:List eU} {q:List (Nat×M J)}:K.T.names[k]?=Y x->b8 K e m->sv K r q->sv K (⟨Y x,e,p⟩::r) ((k,m)::q)
theorem RA{ks:List eU}{kms:List (Nat×M J)}(i:sv K ks kms):eR K (evalAll ((f7 pos (dH ks K.c.env)).map (·.2))) (db (kms.map (·.2))) Lv:=by induction i with
 |nil=>exact λρ=>(iD [] λ_=>.nil).pre λQ E s h=>eP h
 |cons hn ie _ ih=>exact λρ=>((ie ρ).bind λρ1 va a p1 ha=>(ih ρ1).bind λρ2 vs as p2 hs=>aX.stay (R:=Lv) (va::vs) (λρ3 p3=>.cons ((ha.mono p2).mono p3) (hs.mono λ_ _=>RV.mono p3)) λQ E s h=>h).pre λQ E s h=>wpAny_evalAll_cons (ay (bu h (λv s h=>ay (cX (aL h))) λ_ _ x=>x))
theorem S3{ks:List eU}{kms:List (Nat×M J)}(i:sv K ks kms):(f7 pos (dH ks K.c.env)).all (·.1.isSome)=S/\(f7 pos (dH ks K.c.env)).any (·.1.isNone)=I/\
  bP (λ(k:Nat)(x:aV)=>K.T.names[k]?=Y x) (kms.map (·.1)) ((f7 pos (dH ks K.c.env)).filterMap (·.1)):=by
 induction i with
 |nil=>exact⟨U,U,.nil⟩
 |cons hn ie _ ih=>exact⟨ih.1,ih.2.1,.cons hn ih.2.2⟩
theorem KB{T:aT}{ks:List Nat}{xs:List aV}{vs:List J}{us:List ar}(a:bP (λ(k:Nat)(x:aV)=>T.names[k]?=Y x) ks xs)(b:bP (RV ρ) vs us):bP (GG T ρ) (ks.zip vs) (xs.zip us):=by induction a generalizing vs us with
 |nil=>exact .nil
 |cons p _ ih=>induction b with
  |nil=>exact .nil
  |cons q r=>exact .cons ⟨p,q⟩ (ih r)
theorem j0{es:List Expr}{ms:List (M J)}(i:fW K es ms):(gY pos (dF es K.c.env)).any (·.1)=I:=by induction i with
 |nil=>rfl
 |cons he ie _ ih=>rw[fF he];exact ih
theorem hG{f:ar}{es:List Expr}{ms:List (M J)}(i:fW K es ms){kws:List (Option aV×o7 ar)}{Q:Args->aF->Prop}(hall:kws.all (·.1.isSome)=S){M:vp}{A:ch}
  (h:bY M A (oV (gY pos (dF es K.c.env))) (λvs s₁=>bY M A (evalAll (kws.map (·.2))) (λks s₂=>Q ⟨vs,(kws.filterMap (·.1)).zip ks⟩ s₂) E s₁) E s):
  bY M A (evalArgs f S (gY pos (dF es K.c.env)) kws) Q E s:=by
 induction i with
 |nil=>unfold evalArgs;show bY M A (oV []>>=_) Q E s;refine ay (bu h (λvs s₁ h₁=>ay (aL (bS ?_))) λ_ _ x=>x);simp only[hall,if_true];exact ay (bu h₁ (λks s₂ h₂=>ay (aL (aL h₂))) λ_ _ x=>x)
 |cons he ie ir=>rw[fF he]at h⊢;exact evalArgs_kw hall h
def ww(W:Wd)(f:ar):Prop:=∀h,W.K.In h->∃k,(k=Keeper.frame\/k=Keeper.machine\/k=Keeper.boundFrame)/\jq (cB W.prog W.w) h (keeperOf f) k
theorem iB{W:Wd}(n:String):ww W (.builtin n):=λh _=>⟨.machine,.inr (.inl U),.now⟩
theorem FG{W:Wd}(n:String):ww W (.type n):=λh _=>⟨.machine,.inr (.inl U),.now⟩
theorem aX.side{α β:Type}{w:WT α}{m:M β}{R:cM->β->α->Prop}{P:cT->Prop}(aj:aX K ρ w m R)(hP:∀σ ρ h,K.R σ ρ h->P h):aX K ρ (λQ E s=>P s.heap/\w Q E s) m R:=λσ ρ' s hp hr ht Q E h=>⟨hP _ _ _ hr,aj σ ρ' s hp hr ht Q E h⟩
theorem yn(G:Gd K.T K.W){f:ar}{fs:List J}{first:List ar}{es:List Expr}{ms:List (M J)}{ks:List eU}{kms:List (Nat×M J)}{m:List J->List (Nat×J)->M J}
  (hk:ww K.W f) (i:fW K es ms) (ik:sv K ks kms) (cr:wx K f m) (hf:bP (RV ρ) fs first):
  aX K ρ (PW K (n9 pos f first (gY pos (dF es K.c.env)) (f7 pos (dH ks K.c.env)))) ((db ms).bind λas=>(db (kms.map (·.2))).bind λkv=>m (fs++as) ((kms.map (·.1)).zip kv)) Rv:=by
 obtain⟨ha,hn,hz⟩:=S3 (pos:=pos) ik;exact((qI (pos:=pos) i ρ).bind λρ1 us as p1 hl=>(RA (pos:=pos) ik ρ1).bind λρ2 uk kv p2 hl2=>(cr ρ2 _ _ _ _ ((hf.mono λ_ _=>RV.mono (p1.trans p2)).append (hl.mono λ_ _=>RV.mono p2)) (KB hz hl2)).side (P:=K.W.K.In) λ_ _ _ hr=>G.X.keeps hr.stays).pre λQ E s h=>jr (P:=K.W.K.In) (by rw[j0 i,hn];rfl) hk (hG i ha h)
noncomputable def cellHeld(cells:List (aV×bf))(cm:aV->Option ar):List (bf×Hd):=cells.filterMap λp=>if cells.lookup p.1=Y p.2 then(cm p.1).map λv=>(p.2,Hd.cell v)else cV
def Fx.callee(c:Fx)(env:pv)(V:VI)(m cm:aV->Option ar):Fx:=
 {env,V,held:=cellHeld env.cells cm++(c.env.locals,Hd.ns m)::c.held,envs:=env::c.envs,hand:=c.hand,lo:=0,low:=[]}
theorem rH{cells:List (aV×bf)}{cm:aV->Option ar}{q:aV×bf}{p:bf×Hd}(h:(if cells.lookup q.1=Y q.2 then(cm q.1).map λv=>(q.2,Hd.cell v)else cV)=Y p):cells.lookup q.1=Y q.2/\q.2=p.1/\∃v,cm q.1=Y v/\p.2=.cell v:=by
 by_cases z:cells.lookup q.1=Y q.2
 ·rw[if_pos z]at h
  obtain⟨v,hv,rfl⟩:=aP.mp h;exact⟨z,U,v,hv,U⟩
 ·rw[if_neg z]at h;exact nS h
theorem qm{cells:List (aV×bf)}{cm:aV->Option ar}{p:bf×Hd}(h:p∈cellHeld cells cm):∃n v,cells.lookup n=Y p.1/\(n,p.1)∈cells/\cm n=Y v/\p.2=.cell v:=by obtain⟨⟨n,ca⟩,hm,e⟩:=List.mem_filterMap.mp h;obtain⟨e1,e2,v,e3,e4⟩:=rH e;exact e2▸⟨n,v,e1,hm,e3,e4⟩
theorem xn{cells:List (aV×bf)}{cm:aV->Option ar}{n:aV}{ca:bf}{v:ar}(h:cells.lookup n=Y ca)(hv:cm n=Y v):(ca,Hd.cell v)∈cellHeld cells cm:=
 List.mem_filterMap.mpr ⟨(n,ca),mem_of_lookup h,by rw[if_pos h,hv];rfl⟩
theorem nR{cells:List (aV×bf)}{cm:aV->Option ar}:∀{l:List (aV×bf)},(l.Pairwise λx y=>x.2≠y.2)->((l.filterMap λp=>if cells.lookup p.1=Y p.2 then(cm p.1).map λv=>(p.2,Hd.cell v)else cV).map (·.1)).Nodup
 |[],_=>List.nodup_nil
 |q::r,hp=>by
  obtain⟨h1,h2⟩:=List.pairwise_cons.mp hp;have ih:=nR (cells:=cells) (cm:=cm) h2;rw[List.filterMap_cons]
  split
  ·exact ih
  ·rename_i b e
   rw[List.map_cons,List.nodup_cons];refine⟨λhm=>?_,ih⟩;obtain⟨z,hz,e2⟩:=List.mem_map.mp hm;obtain⟨w,hm',e'⟩:=List.mem_filterMap.mp hz;exact h1 _ hm' ((rH e).2.1.trans (e2.symm.trans (rH e').2.1.symm))
theorem jK{c:Fx}{env:pv}{V:VI}{m cm:aV->Option ar}:addrs (c.callee env V m cm) ρ=(cellHeld env.cells cm).map (·.1)++(c.env.locals::addrs c ρ):=by simp[addrs,Fx.callee]
section
variable{T:aT}{W:Wd}{c:Fx}{h':cT}
theorem dB.enter(R:dB T W c σ ρ s.heap){m:aV->Option ar}(F:Fr W.h0 c.env.locals s.heap m){env:pv}{V:VI}{m' cm:aV->Option ar}(x:InCallC s env.locals m' env.cells cm s₁)(hL:env.locals=s.heap.objs.size)
  {loc:List J} (L:pG (c.callee env V m cm) ρ loc m'):dB T W (c.callee env V m cm) {σ with loc:=loc} ρ s₁.heap:=by
 have keep:=x.toInCall.keep;have hcl:c.env.locals<s.heap.objs.size:=F.ns.lt;have hsz:s.heap.objs.size<s₁.heap.objs.size:=hL▸x.toInCall.ns.lt;have h0:∀b,W.h0.objs.size<=b->W.h0.get? b=cV:=λb hb=>by induction q:W.h0.get? b with
  |none=>rfl
  |some ob=>exact absurd (cz q) (Nat.not_lt.mpr hb)
 have old:∀b∈c.env.locals::addrs c ρ,b<s.heap.objs.size:=λb hb=>(List.mem_cons.mp hb).elim (λe=>e▸hcl) λhb=>(R.fresh b hb).2;have cel:∀p∈cellHeld env.cells cm,s.heap.objs.size<p.1/\p.1<s₁.heap.objs.size:=λp hp=>by obtain⟨n,v,h1,h2,h3,h4⟩:=qm hp;exact⟨hL▸x.above _ _ h2,(x.cell _ _ h1).lt⟩
 refine⟨⟨m',⟨x.toInCall.ns,λb o e=>keep b o (F.keep b o e),Nat.le_trans F.above (Nat.le_of_lt (hL▸hcl))⟩,L⟩,R.len,λi o as e1 e2=>(R.obs i o as e1 e2).same (List.prefix_refl _) λa _ ob e=>keep a ob e,λp hp=>?_,?_,λb hb=>?_,R.hand,λi hi=>(Nat.not_lt_zero _ hi).elim⟩
 ·rcases List.mem_append.mp hp with hp|hp
  ·obtain⟨n,v,h1,h2,h3,h4⟩:=qm hp
   have:=x.cell _ _ h1;replace this:=h3▸this;obtain⟨o,g,d⟩:=this;exact h4▸.cell o g d
  ·rcases List.mem_cons.mp hp with e0|hp
   ·exact e0▸.ns (vR F.ns keep)
   ·exact(R.held p hp).same λob e=>keep _ ob e
 ·rw[jK,List.nodup_cons]
  refine⟨λhm=>?_,List.nodup_append.mpr ⟨nR x.apart,R.nd,λa ha b hb q=>?_⟩⟩
  ·replace hm:=(show(c.callee env V m cm).env.locals=s.heap.objs.size from hL)▸hm
   rcases List.mem_append.mp hm with hm|hm
   ·obtain⟨p,hp,e⟩:=List.mem_map.mp hm
    exact Nat.ne_of_gt (cel p hp).1 e
   ·exact Nat.lt_irrefl _ (old _ hm)
  ·obtain⟨p,hp,rfl⟩:=List.mem_map.mp ha
   have:=old _ hb;replace this:=q▸this;exact Nat.lt_asymm (cel p hp).1 this
 ·replace hb:=jK▸hb
  have hle:W.h0.objs.size<=s.heap.objs.size:=Nat.le_trans F.above (Nat.le_of_lt hcl);rcases List.mem_append.mp hb with hb|hb
  ·obtain⟨p,hp,rfl⟩:=List.mem_map.mp hb
   exact⟨h0 _ (Nat.le_trans hle (Nat.le_of_lt (cel p hp).1)),(cel p hp).2⟩
  ·refine⟨?_,Nat.lt_trans (old b hb) hsz⟩
   rcases List.mem_cons.mp hb with e0|hb
   ·exact e0▸h0 _ F.above
   ·exact(R.fresh b hb).1
theorem dB.leave{env:pv}{V:VI}{m cm:aV->Option ar}{ρ':cM}(R:dB T W (c.callee env V m cm) σ' ρ' h')(R0:dB T W c σ ρ s.heap)(hp:ρ<+:ρ')(L:pG c ρ σ.loc m)(ab:W.h0.objs.size<=c.env.locals):
  dB T W c {σ with heap:=σ'.heap} ρ' h':=by
 obtain⟨m2,F2,_⟩:=R.fr;cases R.held (c.env.locals,Hd.ns m) (List.mem_append_right _ (.head _))with
 |ns hns=>have nd:=R.nd;have fresh:=R.fresh;rw[jK]at nd fresh;exact⟨⟨m,⟨hns,F2.keep,ab⟩,λx i v a b e=>(L x i v a b e).mono hp⟩,R.len,R.obs,λp hp=>R.held p (List.mem_append_right _ (.tail _ hp)),(List.nodup_append.mp (List.nodup_cons.mp nd).2).2.1,λb hb=>fresh b (List.mem_append_right _ (.tail _ hb)),R0.hand,R0.frz⟩
end
noncomputable abbrev Cx.to(K:Cx)(c:Fx)(A:ch):Cx:=⟨K.T,K.W,c,A⟩
theorem XRep0.leave{env:pv}{V:VI}{m cm:aV->Option ar}{ρ':cM}{x:Nat}{e:ar}{h':cT}{A:ch}(R:kU (K.to (K.c.callee env V m cm) A) σ' ρ' x e h' (VR K.W (K.c.callee env V m cm) ρ' h'))(R0:K.R σ ρ s.heap)(hp:ρ<+:ρ')(L:pG K.c ρ σ.loc m)(ab:K.W.h0.objs.size<=K.c.env.locals):
  AI K {σ with heap:=σ'.heap} ρ' x e h':=by
 obtain⟨r,a,q,C,fd,h1,h2,h3,⟨o,vs,k1,k2,u,k,⟨t,ot,ts,k3,k4,k5,k6,k7,v,k8,k9⟩⟩⟩:=R;rw[jK]at k6;exact⟨r.leave R0 hp L ab,a,q,C,fd,h1,h2,h3,⟨o,vs,k1,k2,u,k,.inr ⟨t,ot,ts,k3,k4,k5,λhm=>k6 (List.mem_append_right _ (.tail _ hm)),k7,v,k8,.inl k9⟩⟩⟩
structure yi(c:Fx):Prop where
 frame:c.env.frame=Y c.env.locals
 envs:∃r,c.envs=c.env::r
def CJ(T:aT)(W:Wd):Prop:=∀(c:Fx)(A:ch)(σ:St)(ρ:cM)(s:aF)(x:Nat)(e:ar)(Q:Unit->aF->Prop)(E:ar->aF->Prop),fD c A->yi c->0<s.toks->AI ⟨T,W,c,A⟩ σ ρ x e s.heap->
 (∀h' tk,kU ⟨T,W,c,A⟩ σ ρ x e h' (VR W c ρ h')->0<tk->Q () (eJ s h' tk))->PW ⟨T,W,c,A⟩ (leaving c.env e) Q E s
inductive Fv(ρ:cM):Fl->qP->Prop where
 |nxt:Fv ρ .nxt .next
 |brk:Fv ρ .brk .brk
 |ret {v:J} {u:ar} (h:RV ρ v u):Fv ρ (.ret v) (.ret u)
abbrev vc(K:Cx)(b:List eD)(m:M Fl):Prop:=eR K (execs b K.c.env) m Fv
structure Fn where
 (name qual:aV) (params:oS) (body:List eD) (scope:cL) (dV kV doc pm cdv ct oc:ar) (an od:Option bf) (osl:Array (Option ar))
noncomputable def Fn.fd(F:Fn):FuncData:=fnOf F.name F.qual F.params F.body F.scope F.dV F.kV F.doc F.pm F.an F.cdv F.ct
inductive Jn(F:Fn)(x:aV):Prop where
 |loc (h:F.scope.names.lookup x=Y .local):Jn F x
 |cell (h:F.scope.names.lookup x=Y .cell) (k:∀n,((eX n F.scope.names []).lookup x).isSome=S):Jn F x
inductive NI(T:aT)(W:Wd)(F:Fn)(pn:List aV)(as:List J)(ks:List (Nat×J))(bs:List J):Prop where
 |mk (l:bs.length=pn.length) (h:∀ρ us kws,bP (RV ρ) as us->bP (GG T ρ) ks kws->∃vals,bP (RV ρ) bs vals/\∀ah,peek W.K ah (vq F.fd ⟨us,kws⟩)=Y (pn.zip vals)):NI T W F pn as ks bs
structure LL(W:Wd)(T:aT)(f:bf)(F:Fn)(pn:List aV)(bind:List J->List (Nat×J)->Option (List J)):Prop where
 obj:W.K.lookup f=Y ⟨F.oc,F.od,.func F.fd,F.osl⟩
 code:codeIn W.K F.cdv F.qual=S
 co:F.scope.isCoroutine=I
 gen:F.scope.isGenerator=I
 kind:F.scope.kind=.function
 pnd:pn.Nodup
 kinds:∀x∈pn,Jn F x
 slots:∀i x,pn[i]?=Y x->eE (gc F.scope) x=Y i
 inj:∀x y i,eE (gc F.scope) x=Y i->eE (gc F.scope) y=Y i->x=y
 nd:∀x i,eE (gc F.scope) x=Y i->(x==("__debug__":aV))=I/\(x==("__classdict__":aV))=I
 top:∀y i,eE (gc F.scope) y=Y i->i<(gc F.scope).top
 bnd:∀as ks bs,bind as ks=Y bs->NI T W F pn as ks bs
section
variable{k:aV->Option dr}{x:aV}{u:ar}
theorem zr:∀{l:List (aV×ar)}{m:aV->Option ar},(∀p∈l,p.1≠x)->bindL k l m x=m x
 |[],_,_=>rfl
 |(n,v)::r,m,h=>by
  unfold bindL;rw[zr λp hp=>h p (.tail _ hp)]
  split
  ·exact if_neg λ(q:x=n)=>h (n,v) (.head _) q.symm
  ·rfl
theorem Ij{r:List aV}{vs:List ar}(h:x∉r):∀p∈r.zip vs,p.1≠x:=λp hp q=>h (q▸(List.of_mem_zip (a:=p.1) (b:=p.2) hp).1)
theorem wA(hk:k x=Y .local):∀{pn:List aV}{vals:List ar}{m:aV->Option ar}{i:Nat},pn.Nodup->pn[i]?=Y x->vals[i]?=Y u->bindL k (pn.zip vals) m x=Y u
 |[],_,_,i,_,e,_=>by cases e
 |y::r,[],_,i,_,_,e=>by cases e
 |y::r,v::vs,m,0,nd,e1,e2=>by obtain rfl:=sI e1;obtain rfl:=sI e2;rw[List.zip_cons_cons];unfold bindL;rw[if_pos hk,zr (Ij (List.nodup_cons.mp nd).1)];exact if_pos rfl
 |y::r,v::vs,m,i+1,nd,e1,e2=>by rw[List.zip_cons_cons];unfold bindL;exact wA hk (List.nodup_cons.mp nd).2 e1 e2
theorem zk:∀{l:List (aV×ar)}{m:aV->Option ar},(∀p∈l,p.1≠x)->vt k l m x=m x
 |[],_,_=>rfl
 |(n,v)::r,m,h=>by
  unfold vt;rw[zk λp hp=>h p (.tail _ hp)]
  split
  ·rfl
  ·exact if_neg λ(q:x=n)=>h (n,v) (.head _) q.symm
theorem wC(hk:k x=Y .cell):∀{pn:List aV}{vals:List ar}{m:aV->Option ar}{i:Nat},pn.Nodup->pn[i]?=Y x->vals[i]?=Y u->vt k (pn.zip vals) m x=Y u
 |[],_,_,i,_,e,_=>by cases e
 |y::r,[],_,i,_,_,e=>by cases e
 |y::r,v::vs,m,0,nd,e1,e2=>by obtain rfl:=sI e1;obtain rfl:=sI e2;rw[List.zip_cons_cons];unfold vt;rw[if_neg (by rw[hk];decide),zk (Ij (List.nodup_cons.mp nd).1)];exact if_pos rfl
 |y::r,v::vs,m,i+1,nd,e1,e2=>by rw[List.zip_cons_cons];unfold vt;exact wC hk (List.nodup_cons.mp nd).2 e1 e2
theorem lm:∀(l:List (aV×dr))(n:Nat){acc:List (aV×bf)},(acc.lookup x).isSome=S->((eX n l acc).lookup x).isSome=S
 |[],_,_,h=>h
 |(y,k)::r,n,acc,h=>by
  unfold eX
  split
  ·refine lm r (n+1) ?_
   rw[List.lookup_cons];induction q:x==y with
   |true=>rfl
   |false=>exact h
  ·exact lm r n h
theorem kd:∀{l:List (aV×dr)}(n:Nat)(acc:List (aV×bf)),(x,lE)∈l->((eX n l acc).lookup x).isSome=S
 |(y,k)::r,n,acc,h=>by
  unfold eX;rcases List.mem_cons.mp h with e|h
  ·cases e
   rw[if_pos (by rfl)];exact lm r (n+1) (by rw[List.lookup_cons,beq_self_eq_true];rfl)
  ·split
   ·exact kd _ _ h
   ·exact kd _ _ h
end
end
section
open PySem PySem.W PySem.Calls PyProof.Rows
variable{K:Cx}{σ σ':St}{ρ:cM}{s s₁:aF}{E:ar->aF->Prop}{pos:da}
noncomputable def Nc(r:Jc)(s:St):lJ St J:=match r with
 |.ok v h=>.ok v {s with heap:=h}
 |.exc x h=>.exc x {s with heap:=h}
 |.stuck=>.stuck
def AF(fn:Bool->List J->List (Nat×J)->H->Jc)(as:List J)(ks:List (Nat×J)):M J:=λs=>Nc (fn s.hand as ks s.heap) s
def YA(P:J->St->Prop)(s:St)(f:Fl)(σ':St):Prop:=match f with
 |.nxt=>P .none {s with heap:=σ'.heap}
 |.ret v=>P v {s with heap:=σ'.heap}
 |.brk=>False
theorem JX{P:J->St->Prop}{X:Nat->St->Prop}{n:Nat}{mb:M Fl}{hand:Bool}{bs:List J}{h:H}{s:St}(hw:kH P X (Nc (pJ n mb hand bs h) s)):kH (YA P s) (λx σ'=>X x {s with heap:=σ'.heap}) (mb ⟨bs++List.replicate (n-bs.length) .unb,h,hand⟩):=by unfold pJ at hw;induction e:mb ⟨bs++List.replicate (n-bs.length) .unb,h,hand⟩with
 |ok f s'=>replace hw:=e▸hw;induction f<;>exact hw
 |exc x s'=>replace hw:=e▸hw;exact hw
 |stuck=>replace hw:=e▸hw;exact hw
def Zt(Q E:ar->aF->Prop)(r:Result)(s':aF):Prop:=match r with
 |.ok (.ret v)=>Q v s'
 |.ok _=>False
 |.error e=>E e s'
def CW(K:Cx)(f:ar)(us:List ar)(kws:List (aV×ar)):WT ar:=λQ E s=>oW (cB K.W.prog K.W.w) K.A (.call f ⟨us,kws⟩) (Zt Q E) s
def z7(K:Cx)(f:ar)(m:List J->List (Nat×J)->M J):Prop:=∀(ρ:cM)(as:List J)(ks:List (Nat×J))(us:List ar)(kws:List (aV×ar)),bP (RV ρ) as us->bP (GG K.T ρ) ks kws->aX K ρ (CW K f us kws) (m as ks) Rv
theorem z7.rule{f:ar}{m:List J->List (Nat×J)->M J}(k:z7 K f m):wx K f m:=λρ as ks us kws a b=>(k ρ as ks us kws a b).pre λQ E s h=>mT h
section
variable{F:Fn}{pn:List aV}{f:bf}{bind:List J->List (Nat×J)->Option (List J)}{env:pv}{m cm:aV->Option ar}
structure FZ(F:Fn)(env:pv)(L:bf):Prop where
 loc:env.locals=L
 sc:env.scope=F.scope
 cl:env.cells=eX (L+1) F.scope.names []
 fr:env.frame=Y env.locals
 gl:env.globals=jp
 bi:env.builtins=builtinsNs
theorem Bb(FA:LL K.W K.T f F pn bind)(C:fD K.c K.A){L:bf}(e:FZ F env L):fD (K.c.callee env (gc F.scope) m cm) (K.A.deeper env)where
 scope:=e.sc
 kind:=by show env.scope.kind=_;exact e.sc▸FA.kind
 glob:=e.gl
 bi:=e.bi
 inj:=λx y i=>FA.inj x y i
 nd:=λx i=>FA.nd x i
 frames:=by show K.A.frames.map (env::·)=_;rw[C.frames];rfl
 envs:=λz hm=>by
  rcases List.mem_cons.mp hm with rfl|hm
  ·exact⟨by exact e.sc▸FA.kind,_,e.fr,.inl U⟩
  ·obtain⟨k,L,h1,h2⟩:=C.envs z hm
   refine⟨k,L,h1,.inr ?_⟩;rcases h2 with rfl|⟨m2,h2⟩
   ·exact⟨m,List.mem_append_right _ (.head _)⟩
   ·exact⟨m2,List.mem_append_right _ (.tail _ h2)⟩
 hand:=C.hand
 top:=λy i e=>FA.top y i e
 cells:=λy hy=>by show(env.cells.lookup y).isSome=S;exact e.cl▸kd _ _ (mem_of_lookup hy)
 lo:=λ_ _ _=>Nat.zero_le _
 lotop:=Nat.zero_le _
theorem Bd(FA:LL K.W K.T f F pn bind){L:bf}(e:FZ F env L){c:Fx}{bs:List J}{vals:List ar}{n:Nat}(jC:bs.length=pn.length)(hv:bP (RV ρ) bs vals):
  pG (c.callee env (gc F.scope) m (vt env.kindOf (pn.zip vals) λ_=>cV)) ρ (bs++List.replicate (n-bs.length) .unb) (bindL env.kindOf (pn.zip vals) λ_=>cV):=λy i v e1 e2 e3=>by
 have hi:i<bs.length:=Nat.lt_of_not_le λhn=>by
  rw[List.getElem?_append_right hn,List.getElem?_replicate]at e2
  split at e2
  ·obtain rfl:=sI e2;exact e3 rfl
  ·exact nS e2
 rw[List.getElem?_append_left hi]at e2;obtain⟨u,hu,hR⟩:=hv.get e2;obtain⟨z,hz⟩:∃z,pn[i]?=Y z:=⟨_,List.getElem?_eq_getElem (by exact jC▸hi)⟩;have hyz:y=z:=FA.inj y z i e1 (FA.slots i z hz);subst hyz;have hko:env.kindOf y=F.scope.names.lookup y:=by unfold f6;exact e.sc▸rfl
 cases FA.kinds y (List.mem_of_getElem? hz)with
 |loc k=>exact .loc k u (wA (hko.trans k) FA.pnd hz hu) hR
 |cell k k2=>
  obtain⟨ca,hca⟩:=bL.mp (k2 (L+1));have hca':env.cells.lookup y=Y ca:=by exact e.cl▸hca
  exact .cell (.inl k) ca u hca' (List.mem_append_left _ (xn hca' (wC (hko.trans k) FA.pnd hz hu))) hR
theorem Kg(G:Gd K.T K.W)(LO:CJ K.T K.W)(FA:LL K.W K.T f F pn bind)(C:fD K.c K.A)(hd:K.A.depth<recursionLimit){n:Nat}{mb:M Fl}
  (IB:∀(c':Fx)(A':ch),fD c' A'->yi c'->c'.V=gc F.scope->A'=K.A.deeper c'.env->vc (K.to c' A') F.body mb):
  z7 K (.ref f) (AF λhand as ks h=>match bind as ks with
   |some bs=>pJ n mb hand bs h
   |.none=>.stuck):=λρ0 as ks us kws ha hk σ ρ s hp hr ht Q E hw=>by
 unfold AF at hw;dsimp only at hw;induction hb:bind as ks with
 |none=>rw[hb]at hw;exact hw.elim
 |some bs=>
  rw[hb]at hw;have hw:=JX hw;obtain⟨jC,hbs⟩:=FA.bnd as ks bs hb;obtain⟨vals,hv,hpk⟩:=hbs ρ us kws (ha.mono λ_ _=>RV.mono hp) (hk.mono λ_ _ x=>let⟨n,r⟩:=x;⟨n,r.mono hp⟩);obtain⟨m,Fc,Lc⟩:=hr.fr;have XK:=G.X.keeps hr.stays;refine codeAny_call_function hd (XK _ _ FA.obj) U FA.co FA.gen U (codeRec_of XK FA.code) ((jq.of_peek (M:=cB K.W.prog K.W.w) XK (hpk _)).here ?_);have hkn:∀N,∀x∈pn.zip vals,F.scope.names.lookup x.1=Y .local\/(F.scope.names.lookup x.1=Y .cell/\((eX N F.scope.names []).lookup x.1).isSome=S):=λN x hx=>by cases FA.kinds x.1 (List.of_mem_zip (a:=x.1) (b:=x.2) hx).1 with
   |loc k=>exact .inl k
   |cell k k2=>exact .inr ⟨k,k2 N⟩
  refine cq (n:=1) ht (wpAny_newFunctionEnv_cells FA.kind (hkn _) λenv he s₁ x htk1=>⟨(G.top.nolimit.keeps hr.stays).keeps x.toInCall.keep,codeAny_func ?_⟩);have hE:FZ F env s.heap.objs.size:=by rw[he];exact⟨U,U,U,U,U,U⟩
  clear he;have hC:=Bb (m:=m) (cm:=vt env.kindOf (pn.zip vals) λ_=>cV) FA C hE;have hO:yi (K.c.callee env (gc F.scope) m (vt env.kindOf (pn.zip vals) λ_=>cV)):=⟨hE.fr,_,U⟩;have hrep:=hr.enter Fc x hE.loc (Bd (c:=K.c) (m:=m) FA hE (n:=n) jC hv);obtain⟨h1,tk1,rfl,_⟩:=x.done;refine IB _ _ hC hO U U ρ _ ρ _ (List.prefix_refl _) hrep htk1 _ _ (cC hw (λfl σ' hP ρ' h' tk a hp2 hr' hfl htk=>?_) λe σ' hP ρ' h' tk ev hp2 hx htk=>?_)
  ·have hb:=hr'.leave hr hp2 Lc Fc.above
   induction hfl with
   |nxt=>exact hP ρ' h' tk _ hp2 hb .none htk
   |brk=>exact hP.elim
   |ret hv=>exact hP ρ' h' tk _ hp2 hb hv htk
  ·exact LO _ _ _ _ _ _ _ _ _ hC hO htk hx λh2 tk2 hx0 htk2=>hP ρ' h2 tk2 ev hp2 (XRep0.leave hx0 hr hp2 Lc Fc.above) htk2
end
end
section
open PySem PySem.W PySem.Calls PyProof.Rows
variable{K:Cx}{σ σ':St}{ρ:cM}{s s₁:aF}{E:ar->aF->Prop}{pos:da}{a b v:J}{va vb u:ar}
abbrev lW(K:Cx)(b:eD)(m:M Fl):Prop:=eR K (exec b K.c.env) m Fv
abbrev Uv:cM->Unit->Unit->Prop:=λ_ _ _=>True
def pH(K:Cx)(t:ar->o7 Unit)(g:qi):Prop:=∀(ρ:cM)(v:J)(u:ar),RV ρ v u->aX K ρ (PW K (t u)) (g v) Uv
inductive yt(K:Cx):List eD->List (M Fl)->Prop where
 |nil:yt K [] []
 |cons {b:eD} {m:M Fl} {bs:List eD} {ms:List (M Fl)}:lW K b m->yt K bs ms->yt K (b::bs) (m::ms)
def XO(K:Cx)(t:o7 qP)(f:qP):WT qP:=λQ E s=>match f with
 |.next=>PW K t Q E s
 |f=>Q f s
theorem RC{t:o7 qP}{m:M Fl}{f:Fl}{fl:qP}(hf:Fv ρ f fl)(af:aX K ρ (PW K t) m Fv):aX K ρ (XO K t fl) (yH f m) Fv:=by induction hf with
 |nxt=>exact af
 |brk=>exact iD (R:=Fv) .brk λ_=>.brk
 |ret h=>exact aX.stay (R:=Fv) (.ret _) (λρ2 p2=>.ret (h.mono p2)) λ_ _ _ h=>h
theorem Iz{bs:List eD}{ms:List (M Fl)}(i:yt K bs ms):vc K bs (aH ms):=by induction i with
 |nil=>exact λρ=>(iD (R:=Fv) .next λ_=>.nxt).pre λQ E s h=>jB h
 |cons is _ ih=>exact λρ=>((is ρ).bind λρ1 fl f p1 hf=>RC hf (ih ρ1)).pre λQ E s h=>wpAny_execs_cons (bu h (λf s h=>by induction f<;>exact h) λ_ _ x=>x)
theorem oP{h:cT}{a:bf}{m m':aV->Option ar}(x:h.Ns a m)(y:h.Ns a m'):m=m':=by
 obtain⟨o,es,ep,ho,hd,hk,hf⟩:=x;obtain⟨o2,es2,ep2,ho2,hd2,hk2,hf2⟩:=y;replace ho2:=ho▸ho2;obtain rfl:=sI ho2;replace hd2:=hd▸hd2;cases hd2
 funext n;exact(hf n)▸(hf2 n)▸rfl
theorem eL{V:VI}{x:aV}{i:Nat}(e:cy V x=Y i):eE V x=Y i/\V.scope.names.lookup x=Y .local:=by unfold cy at e;unfold eE;induction q:(V.scope.names.lookup x==Y .local)with
 |false=>rw[q]at e;exact nS e
 |true=>rw[q]at e;have:=eq_of_beq q;rw[this];exact⟨e,U⟩
theorem uw(C:fD K.c K.A):(K.c.env.scope.kind==.class||(K.c.env.scope.kind==.module&&K.c.env.locals !=K.c.env.globals))=I:=by rw[C.kind];rfl
theorem Al{α:Type}{w:WT α}{i:Nat}{R:cM->Unit->α->Prop}(af:∀σ ρ' s,ρ<+:ρ'->K.R σ ρ' s.heap->0<s.toks->cb i v σ=.ok () {σ with loc:=σ.loc.set i v}->bB K σ ρ' s w (cb i v) R):aX K ρ w (cb i v) R:=λσ ρ' s hp hr ht=>by induction q:Nat.blt i σ.loc.length with
 |true=>exact af σ ρ' s hp hr ht (by unfold cb;refine q▸?_;rfl)
 |false=>
  intro Q E hw;have e:cb i v σ=.stuck:=by unfold cb;refine q▸?_;rfl
  rw[e]at hw;exact hw.elim
theorem lT(C:fD K.c K.A){x:aV}{i:Nat}(hx:cy K.c.V x=Y i)(hv:v≠.unb->RV ρ v u):aX K ρ (PW K (storeName K.c.env x u)) (cb i v) Uv:=Al λσ ρ' s hp hr ht e=>by obtain⟨hs,hl⟩:=eL hx;obtain⟨m,F,L⟩:=hr.fr;exact bB.put ht e λQ E h=>ni (by unfold f6;exact C.scope▸hl) F.ns (λh' hn' hs'=>h ρ' h' _ () (List.prefix_refl _) (hr.store hs hl (λy hy=>C.inj y x i hy hs) (C.lo x i hx) (λz=>(hv z).mono hp) hs' λm' hm'=>by exact(oP hm' F.ns)▸hn') trivial) (uw C)
theorem IC(C:fD K.c K.A){x:aV}{i:Nat}{p:da}(hx:cy K.c.V x=Y i):pH K (iP (.Name x p) K.c.env) (bd i):=λρ v u hv=>(lT C hx λ_=>hv).pre λQ E s h=>gB h
theorem IH{o:eO}(ha:RV ρ a va)(hb:RV ρ b vb):aX K ρ (PW K (inplaceOp o va vb)) (TJ o a b) Rv:=by induction o with
 |Add=>induction ha with
  |int x t=>exact aX.oInt (wv:=λv=>PW K (inplaceOp .Add (.int x t) v)) hb λy u=>aX.leaf λ_ Q E s _ h=>iadd_int (h _ _ (.int _ _))
  |str x t e=>subst e;refine aX.oStr (wv:=λv=>PW K (inplaceOp .Add (.str x t) v)) hb λy u=>aX.gd λq=>aX.leaf λ_ Q E s _ h=>SB.iadd (λt' tk=>h tk _ (.str _ _ (wZ x y))) ?_;have:=Nat.le_of_ble_eq_true q;rw[List.length_append]at this;rw[jc,jc];exact this
  |_=>exact aX.no
 |_=>exact aX.no
section
variable{e x q:Expr}{me mx mq:M J}{b o:List eD}{mb mo:M Fl}{tx:M Bool}
theorem II(ie:b8 K e me):lW K (.Return (Y e) pos) (bR me):=λρ=>((ie ρ).bind λρ1 va a p1 ha=>aX.stay (R:=Fv) (.ret va) (λρ2 p2=>.ret (ha.mono p2)) λ_ _ _ h=>h).pre λQ E s h=>wpAny_Return_some h
theorem IT:lW K (.Break pos) Lm:=λρ=>(iD (R:=Fv) .brk λ_=>.brk).pre λQ E s h=>wpAny_Break h
theorem MT(ix:lN K x tx)(ib:vc K b mb)(io:vc K o mo):lW K (.If x b o pos) (eS tx mb mo):=λρ=>((ix ρ).bind λρ1 va a p1 e=>yg e (ib ρ1) (io ρ1)).pre λQ E s h=>wpAny_If h
theorem vj(C:fD K.c K.A):interactive K.c.env=I:=by
 unfold interactive
 first
 |(rw[C.kind];rfl)
 |(simp[C.kind])
def Wl(v:ar):WT qP:=λQ E s=>match v with
 |.ref _=>False
 |_=>Q .next s
theorem ES(C:fD K.c K.A)(hs:nI e=I)(ie:b8 K e me):lW K (.Expr e pos) (iV me):=λρ=>((ie ρ).bind λρ1 va a p1 ha=>aX.oNone (wv:=Wl) ha (aX.stay (R:=Fv) .next (λ_ _=>.nxt) λ_ _ _ h=>h)).pre λQ E s h=>wpAny_Expr (bu h (λv s h=>by induction v<;>exact h) λ_ _ x=>x) (vj C) (by cases e<;>first|rfl|exact nF hs)
theorem tf{ρ:cM}:aX K ρ (λQ E s=>Q .next s) (M.ret .nxt) Fv:=iD (R:=Fv) .next λ_=>.nxt
theorem EM(C:fD K.c K.A){y:aV}{i:Nat}{op:eO}{p:da}(hx:cy K.c.V y=Y i)(ie:b8 K e me):lW K (.AugAssign (.Name y p) op e pos) (yM i op me):=λρ=>((Dk C (eL hx).1 ρ).bind λρ1 va a p1 ha=>(ie ρ1).bind λρ2 vb b p2 hb=>(IH (ha.mono p2) hb).bind λρ3 vr r p3 hr=>(lT C hx λ_=>hr).bind λ_ _ _ _ _=>tf).pre λQ E s h=>wpAny_AugAssign_Name h
end
abbrev lX(K:Cx)(σ:St)(ρ:cM)(x:Nat)(e:ar)(h:cT):Prop:=kU K σ ρ x e h (XI K.W K.c ρ h)
def C0(T:aT)(W:Wd):Prop:=∀(c:Fx)(A:ch)(σ:St)(ρ:cM)(s:aF)(x:Nat)(e:ar)(E:ar->aF->Prop),fD c A->yi c->0<s.toks->AI ⟨T,W,c,A⟩ σ ρ x e s.heap->
 (∀h' tk,lX ⟨T,W,c,A⟩ σ ρ x e h'->0<tk->E e (eJ s h' tk))->notedBy (cB W.prog W.w) A c.env E e s
def GY(T:aT)(W:Wd):Prop:=∀(c:Fx)(A:ch)(σ:St)(ρ:cM)(s:aF)(x:Nat)(e:ar)(E:ar->aF->Prop),fD c A->yi c->0<s.toks->lX ⟨T,W,c,A⟩ σ ρ x e s.heap->
 (∀h' tk,AI ⟨T,W,c,A⟩ σ ρ x e h'->0<tk->E e (eJ s h' tk))->cameBackBy (cB W.prog W.w) A c.env E e s
inductive O8(h:H)(i C:Nat)(b:Bool)(n:Nat)(v:J):Option Nat->H->Prop where
 |new:O8 h i C b n v .none ((h++[AO.fd [(n,v)]]).set i (.exn C b (Y h.length)))
 |old (j:Nat) (fs:List (Nat×J)) (e:h[j]?=Y (.fd fs)) (l:fs.length<=100):O8 h i C b n v (Y j) (h.set j (.fd (Mine.Internal.lY n v fs)))
def JV(T:aT)(W:Wd):Prop:=∀(c:Fx)(A:ch)(σ:St)(ρ:cM)(s:aF)(Q:Unit->aF->Prop)(E:ar->aF->Prop)(i C n:Nat)(a:bf)(r:List bf)(fd:Option Nat)(H':H)(nm:aV)(v:J)(u:ar)(b:Bool),
 dB T W c σ ρ s.heap->σ.heap[i]?=Y (.exn C b fd)->ρ[i]?=Y (a::r)->T.names[n]?=Y nm->Mv T C n=S->O8 σ.heap i C b n v fd H'->RV ρ v u->
 (∀ρ' h' tk,ρ<+:ρ'->dB T W c {σ with heap:=H'} ρ' h'->Q () (eJ s h' tk))->PW ⟨T,W,c,A⟩ (setAttr (.ref a) nm u) Q E s
structure Fc(K:Cx):Prop extends Fb K where
 C:fD K.c K.A
 n:C0 K.T K.W
 b:GY K.T K.W
 xs:JV K.T K.W
theorem lU.noted(F:Fc K)(O:yi K.c){x:Nat}(hx:lU K ρ s E x σ'):lU K ρ s (notedBy (cB K.W.prog K.W.w) K.A K.c.env λe s'=>cameBackBy (cB K.W.prog K.W.w) K.A K.c.env E e s') x σ':=λρ' h' tk e hp hxr ht=>F.n K.c K.A σ' ρ' _ x e _ F.C O ht hxr λh2 tk2 hx1 ht2=>F.b K.c K.A σ' ρ' _ x e _ F.C O ht2 hx1 λh3 tk3 hx3 ht3=>hx ρ' h3 tk3 e hp hx3 ht3
inductive Zn(K:Cx)(ρ:cM)(s:aF)(Q:qP->aF->Prop)(E:ar->aF->Prop)(tx:M Bool)(mb:M Fl)(n:Nat)(s':aF):Prop where
 |mk (σ':St) (ρ':cM) (h':cT) (tk:Nat) (e:s'=eJ s h' tk) (hp:ρ<+:ρ') (hr:K.R σ' ρ' h') (ht:0<tk) (hw:kH (vK K ρ s Fv Q) (lU K ρ s E) (dU (mf tx mb) n () σ')):Zn K ρ s Q E tx mb n s'
theorem AB(F:Fc K)(O:yi K.c){x:Expr}{tx:M Bool}{b:List eD}{mb:M Fl}(ix:lN K x tx)(ib:vc K b mb):lW K (.While x b [] pos) (jA tx mb):=λρ0 σ ρ s _ hr ht Q E hw=>wpAny_While (codeAny_whileLoop (Zn K ρ s Q E tx mb) (by rintro n _ ⟨σ',ρ',h',tk',rfl,hp,hr',ht',hw'⟩;induction n with
  |zero=>exact hw'.elim
  |succ n=>have hw1:=cg (cg hw');refine ix ρ' σ' ρ' (eJ s h' tk') (List.prefix_refl _) hr' ht' _ _ (cC hw1 (λt σ1 hP ρ1 h1 tk1 va hp1 hr1 ha ht1=>?_) λx σ1 hx=>(hx.from hp).noted F O);subst ha;induction t with
   |true=>refine ib ρ1 σ1 ρ1 (eJ s h1 tk1) (List.prefix_refl _) hr1 ht1 _ _ (cC (cg (show((mb.bind λf=>M.ret (Y ((),f))):M (Option (Unit×Fl))).wp σ1 _ _ from hP)) (λf σ2 hP2 ρ2 h2 tk2 fl hp2 hr2 hf ht2=>?_) λx σ2 hx=>(hx.from (hp.trans hp1)).noted F O);have hp3:=(hp.trans hp1).trans hp2;induction hf with
    |nxt=>exact⟨n,Nat.lt_succ_self n,σ2,ρ2,h2,tk2,U,hp3,hr2,ht2,hP2⟩
    |brk=>exact hP2 ρ2 h2 tk2 .next hp3 hr2 .nxt ht2
    |ret hv=>exact hP2 ρ2 h2 tk2 (.ret _) hp3 hr2 (.ret hv) ht2
   |false=>exact jB (hP ρ1 h1 tk1 .next (hp.trans hp1) hr1 .nxt ht1)) fg ⟨σ,ρ,s.heap,s.toks,U,List.prefix_refl _,hr,ht,hw⟩)
end
section
open PySem PySem.W PySem.Calls PyProof.Rows
variable{K:Cx}{σ σ':St}{ρ:cM}{s s₁:aF}{E:ar->aF->Prop}{pos:da}{a b v:J}{va vb u:ar}{n:Nat}{nm:aV}
theorem wN:∀{l:cM}{x:List bf},l.flatten.Nodup->x∈l->x.Nodup
 |y::r,x,nd,hm=>by
  rw[List.flatten_cons,List.nodup_append]at nd;rcases List.mem_cons.mp hm with e0|hm
  ·exact e0▸nd.1
  ·exact wN nd.2.1 hm
theorem Ab{T:aT}{W:Wd}(G:Gc T W){fs:List (Nat×J)}{ds:List b7}(r:bP (pT T ρ) fs ds)(hn:T.names[n]?=Y nm)(hv:RV ρ v u)(hs:Int)(t:qV):bP (pT T ρ) (Mine.Internal.lY n v fs) (putL nm hs (.str nm t) u ds):=by induction r with
 |nil=>exact .cons ⟨nm,t,hn,U,hv⟩ .nil
 |@cons pe de l m p q ih=>have hb:=(AE G hn p).1;obtain⟨x,t',a1,a2,a3⟩:=p;unfold Mine.Internal.lY putL;rw[hb];induction z:Nat.beq pe.1 n with
  |true=>exact .cons ⟨x,t',by rw[<-a1,Nat.eq_of_beq_eq_true z],a2,hv⟩ q
  |false=>exact .cons ⟨x,t',a1,a2,a3⟩ ih
theorem uj(nm:aV)(hs:Int)(k u:ar):∀ds:List b7,(putL nm hs k u ds).length<=ds.length+1
 |[]=>Nat.le_refl _
 |d::r=>by
  unfold putL
  split
  ·exact Nat.le_succ _
  ·exact Nat.succ_le_succ (uj nm hs k u r)
theorem Dh(F:Fc K)(hn:K.T.names[n]?=Y nm)(ha:RV ρ a va)(hv:RV ρ v u):aX K ρ (PW K (setAttr va nm u)) (B6 K.T n a v) Uv:=
 aX.oObj (wv:=λva=>PW K (setAttr va nm u)) ha λi c r ea σ ρ' s hp hr ht=>bB.gH λo oe=>by have er:=b6 hp ea;induction o with
  |inst C fs=>
   refine bB.gd λq=>?_;obtain⟨q1,q2⟩:=bN.mp q;obtain⟨d,ds,k,g1,g2,l,hre⟩:=hr.inst oe er;subst hre;have co:=F.c.ok C n nm q1 hn;obtain⟨m,Fm,_⟩:=hr.fr;have hd:d∈addrs K.c ρ':=fV er (.tail _ (.head _));have hgl:(getL nm ds).isSome=S:=by cases qb F.c l hn with
    |yes v u a b r=>refine b▸?_;rfl
    |no a b=>refine b▸?_;rfl
   refine bB.put ht U λQ E h=>set_dict Fm F.g.X (hr.newsCons hd g2) (on g1 g2) U co.set co.over co.take co.dict hgl U (.head λp hp=>(tM hp).1) ?_ λh' F' N'=>?_
   ·refine Nat.le_trans (uj nm _ _ u ds) ?_
    exact l.length▸Nat.le_trans (Nat.succ_le_succ (Nat.le_of_ble_eq_true q2)) (by decide)
   ·have kk:=DZ N'
    have nd:[c,d].Nodup:=wN (List.nodup_append.mp (List.nodup_cons.mp hr.nd).2).2.1 (List.mem_of_getElem? er);have ne:c≠d:=λz=>(List.nodup_cons.mp nd).1 (z▸.head _);exact h ρ' h' _ () (List.prefix_refl _) (hr.updAt er (.tail _ (.head _)) (λm' Fm'=>by exact(oP Fm'.ns Fm.ns)▸F') kk (.inst (kk c (fV er (.head _)) ne _ g1) (N' _ (.head _)).1 (Ab F.c l hn (hv.mono hp) _ _))) trivial
  |exn C f fd=>refine bB.gd λq=>?_;induction fd with
   |none=>exact bB.put ht U λQ E h=>F.xs K.c K.A σ ρ' s Q E i C n _ _ _ _ nm v u f hr oe er hn q .new (hv.mono hp) λρ2 h' tk hp2 hr'=>h ρ2 h' tk () hp2 hr' trivial
   |some j=>exact bB.gF λfs e4=>bB.gd λq2=>bB.put ht U λQ E h=>F.xs K.c K.A σ ρ' s Q E i C n _ _ _ _ nm v u f hr oe er hn q (.old j fs e4 (Nat.le_of_ble_eq_true q2)) (hv.mono hp) λρ2 h' tk hp2 hr'=>h ρ2 h' tk () hp2 hr' trivial
  |_=>exact bB.no
theorem DQ(F:Fc K){x:Expr}{mx:M J}{p:da}(hn:K.T.names[n]?=Y nm)(ix:b8 K x mx):pH K (iP (.Attribute x nm p) K.c.env) (cf K.T mx n):=λρ v u hv=>((ix ρ).bind λρ1 va a p1 ha=>Dh F hn ha (hv.mono p1)).pre λQ E s h=>by show bY _ _ _ _ _ _;rw[assign_Attribute];exact ay (bS (bu h (λva s h=>ay (cX (ay (bS (bu h (λ_ s h=>wpAny_release h) λ_ _ x=>x))))) λ_ _ x=>x))
inductive yw(ρ:cM)(p:List Nat×J)(q:aV×ar):Prop where
 |mk (e:q.1.cps.toList=p.1) (r:RV ρ p.2 q.2):yw ρ p q
section
variable{W:Wd}{es:List (List Nat×J)}{ds:List b7}{kvs:List (aV×ar)}{h:cT}
theorem zw(r:bP (mH W ρ) es ds):∃kvs:List (aV×ar),PySem.Pairs (strKind W.prog W.w) ds kvs/\bP (yw ρ) es kvs:=by induction r with
 |nil=>exact⟨[],.nil,.nil⟩
 |cons p _ ih=>obtain⟨x,t,a1,a2,a3,a4⟩:=p;obtain⟨kvs,b1,b2⟩:=ih;exact⟨(x,_)::kvs,.cons (by rw[a2];exact fz W.prog W.w x t) U b1,.cons ⟨a1,a4⟩ b2⟩
theorem v8(r:bP (mH W ρ) es ds):PySem.KeysOf (strKind W.prog W.w) ds.toArray:=λe he=>by obtain⟨i,hi,rfl⟩:=List.getElem_of_mem (show e∈ds by simpa using he);obtain⟨b,e2,x,t,a1,a2,a3,a4⟩:=r.get (i:=i) (List.getElem?_eq_getElem (by exact r.length▸hi));rw[List.getElem?_eq_getElem hi]at e2;exact(sI e2)▸⟨x,by exact a2▸fz W.prog W.w x t,a3⟩
theorem I0(r:bP (yw ρ) es kvs):kvs.map (λq=>q.1.cps.toList)=es.map (·.1):=by induction r with
 |nil=>rfl
 |cons p q ih=>obtain⟨e,r⟩:=p;rw[List.map_cons,List.map_cons,ih,e]
theorem wM(r:bP (yw ρ) es kvs)(nd:(es.map (·.1)).Nodup):(kvs.map (·.1)).Nodup:=by
 rw[<-I0 r]at nd;have:∀l:List (aV×ar),(l.map λq=>q.1.cps.toList).Nodup->(l.map (·.1)).Nodup:=λl=>by induction l with
  |nil=>exact λ_=>List.nodup_nil
  |cons q l ih=>intro nd;rw[List.map_cons,List.nodup_cons]at nd⊢;exact⟨λhm=>nd.1 (by obtain⟨z,hz,e⟩:=List.mem_map.mp hm;exact e▸List.mem_map.mpr ⟨z,hz,U⟩),ih nd.2⟩
 exact this kvs nd
theorem yF{x:aV}{u:ar}:∀{m:List (aV×ar)},x∉m.map (·.1)->m.map (λkv=>if kv.1=x then(kv.1,u)else kv)=m
 |[],_=>rfl
 |kv::m,h=>by rw[List.map_cons,List.mem_cons,not_or]at h;rw[List.map_cons,if_neg (λe=>h.1 e.symm),yF h.2]
theorem yz(r:bP (yw ρ) es kvs)(nd:(kvs.map (·.1)).Nodup){x:aV}{v:J}{u:ar}(hv:RV ρ v u):bP (yw ρ) (nJ x.cps.toList v es) (stored kvs x u):=by induction r with
 |nil=>exact .cons ⟨U,hv⟩ .nil
 |@cons a b l m p q ih=>
  rw[List.map_cons,List.nodup_cons]at nd;obtain⟨e1,r1⟩:=p;have hb:eqL a.1 x.cps.toList=aI (b.1=x):=by rw[<-e1,<-xF]
  unfold nJ;rw[hb]
  by_cases z:b.1=x
  ·subst z
   rw[decide_eq_true rfl];unfold stored;rw[List.any_cons,decide_eq_true U,if_pos (by rw[Bool.true_or]),List.map_cons,if_pos U,yF nd.1];exact .cons ⟨e1,hv⟩ q
  ·rw[decide_eq_false z]
   have ih':=ih nd.2;unfold stored at ih'⊢;rw[List.any_cons,decide_eq_false z,gC]
   split at ih'
   ·rename_i w
    rw[if_pos w,List.map_cons,if_neg z];exact .cons ⟨e1,r1⟩ ih'
   ·rename_i w
    rw[if_neg w];exact .cons ⟨e1,r1⟩ ih'
theorem zS{k:List Nat}{v:J}:∀{es:List (List Nat×J)}{x:List Nat},x∈(nJ k v es).map (·.1)->x=k\/x∈es.map (·.1)
 |[],x,hm=>.inl (List.mem_singleton.mp hm)
 |p::r,x,hm=>by unfold nJ at hm;induction q:eqL p.1 k with
  |true=>rw[q]at hm;exact .inr hm
  |false=>
   rw[q]at hm;rcases List.mem_cons.mp hm with h|h
   ·exact .inr (h▸.head _)
   ·exact(zS h).imp id λh=>.tail _ h
theorem tV{k:List Nat}{v:J}:∀{es:List (List Nat×J)},(es.map (·.1)).Nodup->((nJ k v es).map (·.1)).Nodup
 |[],_=>List.nodup_cons.mpr ⟨List.not_mem_nil,List.nodup_nil⟩
 |p::r,nd=>by unfold nJ;rw[List.map_cons,List.nodup_cons]at nd;induction q:eqL p.1 k with
  |true=>exact List.nodup_cons.mpr nd
  |false=>refine List.nodup_cons.mpr ⟨λhm=>(zS hm).elim (λh=>?_) nd.1,tV nd.2⟩;rw[td.mpr h]at q;exact nF q
theorem zO{a:bf}(hd:h.DictOf (strKind W.prog W.w) a kvs)(r:bP (yw ρ) es kvs):∃ds n,h.get? a=Y (fJ ds n)/\bP (mH W ρ) es ds:=by
 obtain⟨⟨oc,od,odt,osl⟩,arr,ep,ho,⟨x1,x2,x3⟩,hdt,hk,hp,hnd⟩:=hd;clear hnd;dsimp only at x1 x2 x3 hdt;subst x1 x2 x3 hdt;refine⟨arr.toList,ep,ho,?_⟩;have hk':∀e∈arr.toList,∃k,(strKind W.prog W.w).is k e.key=S/\e.hash=(strKind W.prog W.w).hash k:=λe he=>hk e (by simpa using he)
 generalize arr.toList=l at hp hk'
 induction hp generalizing es with
 |nil=>cases r;exact .nil
 |@cons e kv es' sY a1 a2 _ ih=>cases r with
  |cons p q=>obtain⟨e1,r1⟩:=p;obtain⟨k,k1,k2⟩:=hk' e (.head _);obtain⟨t,ht⟩:=ar.isStrOf_shape a1;have:k=kv.1:=(lF W.prog W.w).inj _ _ _ k1 a1;exact .cons ⟨kv.1,t,e1,ht,by refine k2▸this▸?_;rfl,a2▸r1⟩ (ih q λe he=>hk' e (.tail _ he))
end
theorem H3{l:bf}{items:Array ar}{n:Nat}{k:Int}{t:qV}{v:ar}{Q:Unit->aF->Prop}(ho:s.heap.get? l=Y (listOf items n))(h0:0<=k)(hfit:k<2^63)(hn:k<items.size)
  (hQ:∀h' n',h'.get? l=Y (listOf (items.setIfInBounds k.toNat v) n')->jQ l s.heap h'->Q () {s with heap:=h'}):PW K (setItem (.ref l) (.int k t) v) Q E s:=by
 show bY _ _ _ _ _ _;have hl:s.heap.IsList l items:=⟨_,ho,U,n,U⟩;unfold setItem
 try with_reducible refine bS ?_
 first|refine ay (aL ?_)|skip
 refine ay (wpAny_sequenceKey hl.typeIs (by decide) ?_);refine ay (wpAny_callSpecial?_slot (name:=am "__setitem__") hl.typeIs slot_list_setitem
  (wpAny_call_entry slot_list_setitem hl.typeIs entry_list_setitem ?_ (args_list_setitem _ _ _)))
 show bY _ _ (tF.List.listSubscript? (.int k t)>>=_) _ _ s;refine ay (wpAny_listSubscript_int (fitsIndex_of h0 hfit) ?_);obtain⟨j,rfl⟩:=eW h0;have hj:j<items.size:=fw.mp hn;show bY _ _ ((seqItemAt l j>>=λr=>pure (r.map (j,·)))>>=_) _ _ s;refine ay (ay (wpAny_seqItemAt ho U (aL ?_)));refine(kK hj)▸?_;show bY _ _ (setSeqItemAt l j v>>=_) _ _ s;have fin:∃n',(s.heap.update l (iS.mapSeq (·.setIfInBounds j v))).get? l=Y (listOf (items.setIfInBounds j v) n'):=⟨_,dA _ ho U⟩;obtain⟨n',fin⟩:=fin;refine ay (wpAny_setSeqItemAt ho U ?_)
 first
  |exact ay (aL (aL ⟨.none,U,aL (hQ _ _ fin (dw ..))⟩))
  |exact aL ⟨.none,U,aL (hQ _ _ fin (dw ..))⟩
theorem Kk(ha:RV ρ a va)(hb:RV ρ b vb)(hv:RV ρ v u):aX K ρ (PW K (setItem va vb u)) (UI a b v) Uv:=
 aX.oObj (wv:=λva=>PW K (setItem va vb u)) ha λi c r ea=>by induction hb with
  |int k tk=>refine λσ ρ' s hp hr ht=>bB.gL λxs e1=>bB.gO λj e2=>?_;obtain⟨i0,i1,i2,rfl⟩:=ut e2;obtain⟨vs,n,g1,l1,hre⟩:=hr.list e1 (b6 hp ea);subst hre;refine bB.put ht U λQ E h=>H3 g1 i0 (by exact zU i2 U) (by exact List.size_toArray▸l1.length▸i1) λh' n' hL hs=>h ρ' h' s.toks () (List.prefix_refl _) (hr.upd (b6 hp ea) (.head _) hs (.list (vs:=vs.set k.toNat u) (n:=n') ?_ (l1.set (hv.mono hp)))) trivial;rw[hL,List.setIfInBounds_toArray]
  |str x tk e=>subst e;refine λσ ρ' s hp hr ht=>bB.gD λes e1=>bB.gd λq=>?_;obtain⟨ds,n,g1,l1,nd,ns,hre⟩:=hr.dict e1 (b6 hp ea);subst hre;obtain⟨kvs,p1,p2⟩:=zw l1;have nd2:=wM p2 nd;refine bB.put ht U λQ E h=>wpAny_setItem_pairs (fz K.W.prog K.W.w x tk) ⟨_,_,_,g1,⟨U,U,U⟩,U,v8 l1,by simpa using p1,nd2⟩ (λh' hD hs=>?_) (by exact p2.length▸cP▸Nat.le_of_lt (Nat.le_of_ble_eq_true q));obtain⟨ds',n',d1,d2⟩:=zO hD (yz p2 nd2 (x:=x) (hv.mono hp));exact h ρ' h' _ () (List.prefix_refl _) (hr.upd (b6 hp ea) (.head _) hs (.dict d1 d2 (tV nd) ns)) trivial
  |_=>exact aX.no
theorem HE{x y:Expr}{mx my:M J}{p:da}(ix:b8 K x mx)(iy:b8 K y my):pH K (iP (.Subscript x y p) K.c.env) (Aq mx my):=λρ v u hv=>((ix ρ).bind λρ1 va a p1 ha=>(iy ρ1).bind λρ2 vb b p2 hb=>Kk (ha.mono p2) hb ((hv.mono p1).mono p2)).pre λQ E s h=>by show bY _ _ _ _ _ _;rw[assign_Subscript];exact ay (bS (bu h (λva s h=>ay (bS (bu h (λvb s h=>ay (cX (ay (bS (bu h (λ_ s h=>wpAny_release h) λ_ _ x=>x))))) λ_ _ x=>x))) λ_ _ x=>x))
end
section
open PySem PySem.W PySem.Calls PyProof.Rows
variable{K:Cx}{σ σ':St}{ρ:cM}{s s₁:aF}{E:ar->aF->Prop}{pos:da}{a b v:J}{va vb u:ar}{n:Nat}{nm:aV}
theorem zC{t e:Expr}{line:Nat}{env:pv}(h:nI e=I):lG [t] e line env=pure I:=by show rX e (Y t) line env=pure I;cases e<;>first|rfl|exact nF h
theorem Ht{t elt:Expr}{gs:List cW}{sc:cL}{p:da}{line:Nat}{env:pv}(h:JT t=I):lG [t] (.ListComp elt gs sc p) line env=pure I:=by show rX (.ListComp elt gs sc p) (Y t) line env=pure I;cases t<;>first|rfl|exact nF h
noncomputable def sw(c1 c2 c3 c4 c5:Bool)(ns:List aV):o7 (Option (List aV)):=do
 if c1 then return cV
 if c2 then return cV
 if c3 then return cV
 if c4 then return cV
 if c5 then unsupported "assign.tuple-of-constant-expressions:order-of-the-stores"
 return Y ns
theorem Vo{ts vs:List Expr}{k1 k2:Nat}{p1 p2:da}{env:pv}:∃(f:Expr->Bool)(g:Expr->Option aV),(∀x,f x=fR x)/\(∀x,g x=Y9 env.scope ((ts.head?.map (·.pos.line)).getD 0) x)/\
  gE [.Tuple ts k1 p1] (.Tuple vs k2 p2) env=sw (!(ts.length==2||ts.length==3)||vs.length !=ts.length||env.blockKind !=.function) (vs.any f) ((ts.filterMap g).length !=ts.length||(ts.filterMap g).eraseDups.length !=(ts.filterMap g).length) (vs.all (foldedForSure 8)) (vs.all (constantsAlone 8)) (ts.filterMap g):=
 ⟨_,_,λx=>by cases x<;>rfl,λx=>by cases x<;>rfl,U⟩
theorem SI{c1 c2 c3 c4 c5:Bool}{ns:List aV}{r:Option (List aV)}(h:(if c1=S then Y .none else if c2=S then Y .none else if c3=S then Y .none else if c4=S then Y .none else if c5=S then .none else Y (Y ns))=Y r):sw c1 c2 c3 c4 c5 ns=pure r:=by induction c1 with
 |true=>obtain rfl:=sI h;rfl
 |false=>induction c2 with
  |true=>obtain rfl:=sI h;rfl
  |false=>induction c3 with
   |true=>obtain rfl:=sI h;rfl
   |false=>induction c4 with
    |true=>obtain rfl:=sI h;rfl
    |false=>induction c5 with
     |true=>exact nS h
     |false=>obtain rfl:=sI h;rfl
theorem A7{sc:cL}{t e:Expr}{r:Option (List aV)}(h1:iT t=.none)(h:pk sc t e=Y r):r=.none/\(zc t=S->iT e=.none):=by unfold pk at h;replace h:=h1▸h;induction q:iT e with
 |none=>replace h:=q▸h;exact⟨(aQ h).symm,λ_=>rfl⟩
 |some vs=>replace h:=q▸h;induction q2:zc t with
  |true=>replace h:=q2▸h;exact nS h
  |false=>replace h:=q2▸h;exact⟨(aQ h).symm,λh=>by exact nT h⟩
theorem AD{sc:cL}{t e:Expr}{r:Option (List aV)}(h1:iT e=.none)(h:pk sc t e=Y r):r=.none:=by unfold pk at h;rw[h1]at h;exact(aQ h).symm
theorem yj{t e:Expr}{env:pv}(h:iT e=.none):gE [t] e env=pure .none:=by
 have T:∀ts k p,gE [.Tuple ts k p] e env=pure .none:=λts k p=>by cases e<;>first|rfl|exact TC h
 have L:∀ts p,gE [.List ts p] e env=pure .none:=λts p=>by cases e<;>first|rfl|exact TC h
 induction t using bg with
 |Tuple ts k p=>exact T ts k p
 |List ts p=>exact L ts p
 |_=>rfl
theorem ya{t e:Expr}{env:pv}(h:iT t=.none)(h2:zc t=I):gE [t] e env=pure .none:=by induction t using bg with
 |Tuple ts k p=>exact TC h
 |List ts p=>exact nF h2
 |_=>rfl
theorem Ic{t:Expr}{ts:List Expr}(q:iT t=Y ts):∃k p,t=.Tuple ts k p:=by obtain⟨a,k,p,h1,h2⟩:=Yx ns q;exact⟨k,p,sI h2▸h1⟩
theorem uI{t e:Expr}{env:pv}{r:Option (List aV)}(hk:env.scope.kind=.function)(h:pk env.scope t e=Y r):gE [t] e env=pure r:=by induction q:iT e with
 |none=>exact(AD q h)▸yj q
 |some vs=>induction q2:iT t with
  |none=>obtain⟨rfl,n⟩:=A7 q2 h;refine ya q2 ?_;induction q3:zc t with
   |false=>rfl
   |true=>replace q:=(n q3)▸q;exact nS q
  |some ts=>
   obtain⟨k1,p1,rfl⟩:=Ic q2;obtain⟨k2,p2,rfl⟩:=Ic q;obtain⟨f,g,hf,hg,e⟩:=Vo (env:=env);have hb:(env.blockKind !=.function)=I:=by simp[pv.blockKind,hk,ScopeKind.isAnnotationScope]
   rw[e,hb,Bool.or_false,show f=fR from funext hf,show g=_ from funext hg];exact SI h
theorem Sd(t:Expr)(hs:fR t=I)(env:pv):(kz [t] env).map (·.2)=[iP t env]:=by cases t<;>first|rfl|exact nF hs
theorem JZ(F:Fc K){t e:Expr}{g:qi}{me:M J}(hs:fR t=I)(hn:∀line,lG [t] e line K.c.env=pure I)(hw0:pk K.c.V.scope t e=Y cV)(ig:pH K (iP t K.c.env) g)(ie:b8 K e me):lW K (.Assign [t] e pos) (sAsg g me):=λρ=>((ie ρ).bind λρ1 va a p1 ha=>(ig ρ1 a va ha).bind λ_ _ _ _ _=>tf).pre λQ E s h=>wpAny_Assign_stores (bu h (λv s h=>by rw[Sd t hs];exact h) λ_ _ x=>x) (hn _) (uI F.C.kind (by rw[F.C.scope];exact hw0))
def Ta(K:Cx):List (ar->o7 Unit)->List ar->WT Unit
 |[],us=>match us with
  |[]=>λQ _ s=>Q () s
  |_::_=>λ_ _ _=>False
 |t::ts,us=>match us with
  |[]=>λ_ _ _=>False
  |u::us=>λQ E s=>PW K (t u) (λ_ s=>Ta K ts us Q E s) E s
theorem xK:∀{ts:List (ar->o7 Unit)}{us:List ar}{Q:Unit->aF->Prop}{s:aF},Ta K ts us Q E s->PW K (assignInOrder ts us) Q E s
 |[],[],Q,s,h=>aL h
 |[],_::_,Q,s,h=>h.elim
 |_::_,[],Q,s,h=>h.elim
 |t::ts,u::us,Q,s,h=>ay (bS (bu h (λ_ s h=>xK h) λ_ _ x=>x))
theorem y4{t:ar->o7 Unit}{u:ar}:∀{ts:List (ar->o7 Unit)}{us:List ar},ts.length=us.length->Ta K (ts++[t]) (us++[u])=λQ E s=>Ta K ts us (λ_ s=>PW K (t u) Q E s) E s
 |[],[],_=>rfl
 |[],_::_,h=>by cases h
 |_::_,[],h=>by cases h
 |t0::ts,u0::us,h=>by show(λQ E s=>PW K (t0 u0) (λ_ s=>Ta K (ts++[t]) (us++[u]) Q E s) E s)=_;refine(y4 (Nat.succ.inj h))▸?_;rfl
inductive u7(K:Cx):List Expr->List qi->Prop where
 |nil:u7 K [] []
 |cons {t:Expr} {g:qi} {ts:List Expr} {gs:List qi}:fR t=I->pH K (iP t K.c.env) g->u7 K ts gs->u7 K (t::ts) (g::gs)
theorem m8{t:Expr}{ts:List Expr}{env:pv}(h:fR t=I):kz (t::ts) env=(I,iP t env)::kz ts env:=by cases t<;>first|rfl|exact nF h
theorem Id{ts:List Expr}{gs:List qi}(i:u7 K ts gs):(kz ts K.c.env).length=gs.length/\(kz ts K.c.env).findIdx? (·.1)=cV:=by induction i with
 |nil=>exact⟨U,U⟩
 |cons hs _ _ ih=>exact(m8 hs)▸⟨congrArg (·+1) ih.1,by rw[List.findIdx?_cons,ih.2];rfl⟩
theorem QJ{ts:List Expr}{gs:List qi}(i:u7 K ts gs):∀{ρ:cM}{vs:List J}{us:List ar},bP (RV ρ) vs us->aX K ρ (Ta K ((kz ts K.c.env).map (·.2)) us) (o6 gs vs) Uv:=by induction i with
 |nil=>intro ρ vs us hl;induction hl with
  |nil=>exact iD (R:=Uv) () λ_=>trivial
  |cons _ _=>exact aX.no
 |cons hs ig _ ih=>intro ρ vs us hl;refine(m8 hs)▸?_;induction hl with
  |nil=>exact aX.no
  |cons p q=>exact(ig ρ _ _ p).bind λρ1 _ _ p1 _=>ih (q.mono λ_ _=>RV.mono p1)
inductive SQ(K:Cx)(σ:St)(ρ:cM)(s:aF)(n:Nat)(v:J)(u:ar):Prop where
 |mk (t:bf) (xs:List J) (us:List ar) (e:u=.ref t) (h:K.A.handled=cV) (i:n5 s.heap t us.toArray) (l:bP (RV ρ) xs us) (k:xs.length=n) (m:je K.T n v σ=.ok xs σ):SQ K σ ρ s n v u
theorem Ew(F:Fc K)(hr:K.R σ ρ s.heap)(hv:RV ρ v u){r:lJ St (List J)}(hw:je K.T n v σ=r):r=.stuck\/SQ K σ ρ s n v u:=by subst hw;induction q:σ.hand with
 |true=>exact .inl (by unfold je M.bind iA;rw[q];rfl)
 |false=>
  have hh:=F.C.hand (by exact hr.hand▸q▸rfl);have e0:iA σ=.ok () σ:=by unfold iA;rw[q];rfl
  have e1:∀f:Unit->M (List J),(iA.bind f) σ=f () σ:=λf=>by unfold M.bind;exact e0▸rfl
  have fin:∀(ys:List J)(us:List ar)(t:bf),u=.ref t->je K.T n v σ=gd (Nat.beq ys.length n) (M.ret ys) σ->n5 s.heap t us.toArray->bP (RV ρ) ys us->je K.T n v σ=.stuck\/SQ K σ ρ s n v u:=λys us t eu e it l=>by induction z:Nat.beq ys.length n with
   |false=>rw[z]at e;exact .inl e
   |true=>rw[z]at e;exact .inr ⟨t,ys,us,eu,hh,it,l,Nat.eq_of_beq_eq_true z,e⟩
  induction hv with
  |@obj i a r ea=>have e2:je K.T n (.obj i) σ=gT i (λxs=>gd (Nat.beq xs.length n) (M.ret xs)) σ:=e1 _;induction o:σ.heap[i]? with
   |none=>exact .inl (by rw[e2];unfold gT gH;rw[o];rfl)
   |some ob=>induction ob with
    |tup ys=>obtain⟨vs,k,g1,l1,_⟩:=hr.tup o ea;exact fin ys vs _ U (by rw[e2];unfold gT gH;exact o▸rfl) ⟨_,g1,U,k,U⟩ l1
    |_=>exact .inl (by rw[e2];unfold gT gH;rw[o];rfl)
  |sref d=>have e2:je K.T n (.sref d) σ=gO (d7 d K.T.stup) (λxs=>gd (Nat.beq xs.length n) (M.ret xs)) σ:=e1 _;induction o:d7 d K.T.stup with
   |none=>exact .inl (by rw[e2,o];rfl)
   |some ys=>obtain⟨us,k,dd,sl,hl,r⟩:=F.t.stup _ _ o;exact fin ys us _ U (by exact e2▸o▸rfl) (qn (hr.stays _ _ (F.g.X _ _ hl))) (r.mono λ_ _ w=>w ρ)
  |_=>exact .inl (e1 _)
theorem t6{α β:Type}(F:Fc K)(hv:RV ρ v u){w:WT α}{k:List J->M β}{R:cM->β->α->Prop}(af:∀σ ρ' s t xs us,ρ<+:ρ'->K.R σ ρ' s.heap->0<s.toks->u=.ref t->K.A.handled=cV->n5 s.heap t us.toArray->bP (RV ρ') xs us->xs.length=n->bB K σ ρ' s w (k xs) R):aX K ρ w ((je K.T n v).bind k) R:=λσ ρ' s hp hr ht Q E hw=>by
 rcases Ew F hr (hv.mono hp) (r:=je K.T n v σ) U with e|⟨t,xs,us,eu,hh,it,l,kk,m⟩
 ·have hw:=cg hw
  rw[M.wp,e]at hw;exact hw.elim
 ·have hw:=cg hw
  rw[M.wp,m]at hw;exact af σ ρ' s t xs us hp hr ht eu hh it l kk Q E hw
theorem vY{h h':cT}(x:cT.ExtBut h.objs.size h h'):h.StaysIn h':=λb o e=>x b o (Nat.ne_of_lt (cz e)) e
theorem Gp(F:Fc K){ts:List Expr}{gs:List qi}{k:Nat}{p:da}(i:u7 K ts gs):pH K (iP (.Tuple ts k p) K.c.env) (eZ K.T gs):=λρ v u hv=>t6 F hv λσ ρ' s t xs us hp hr ht eu hh it l kk Q E hw=>by obtain⟨g1,g2⟩:=Id i;subst eu;exact assign_Tuple_tuple hh it (by rw[g1,List.size_toArray,<-l.length,kk]) g2 λh' he=>xK (QJ i l σ ρ' (eJ s h' s.toks) (List.prefix_refl _) (hr.keepsIn (vY he)) ht Q E (cC hw (λ_ _ x=>x.from (List.prefix_refl _)) λ_ _ x=>x.from (List.prefix_refl _)))
theorem IX{α:Type}{i j:Nat}{v w:J}{k:M α}(hij:i≠j):(cb i v).bind (λ_=>(cb j w).bind λ_=>k)=(cb j w).bind λ_=>(cb i v).bind λ_=>k:=by
 funext s
 unfold M.bind cb;cases q1:Nat.blt i s.loc.length<;>cases q2:Nat.blt j s.loc.length<;>simp only[cond,M.no,List.length_set,q1,q2];rw[List.set_comm _ _ hij]
theorem F6{m:M Unit}:m.bind (λ_=>M.ret ())=m:=by
 funext s
 unfold M.bind;cases m s<;>rfl
theorem Df{i:Nat}:∀{is:List Nat}{vs:List J},i∉is->(cb i v).bind (λ_=>o6 (is.map bd) vs)=(o6 (is.map bd) vs).bind λ_=>cb i v
 |[],[],_=>F6.trans rfl
 |[],_::_,_=>by funext s;show M.bind _ _ s=_;unfold M.bind cb;cases Nat.blt i s.loc.length<;>rfl
 |_::_,[],_=>by funext s;show M.bind _ _ s=_;unfold M.bind cb;cases Nat.blt i s.loc.length<;>rfl
 |j::is,w::vs,h=>by show(cb i v).bind (λ_=>(cb j w).bind λ_=>o6 (is.map bd) vs)=((cb j w).bind λ_=>o6 (is.map bd) vs).bind λ_=>cb i v;have hij:i≠j:=λe=>h (by exact e▸.head _);simp only[IX hij,M.assoc,Df λm=>h (.tail _ m)]
inductive DO(K:Cx):List aV->List Nat->Prop where
 |nil:DO K [] []
 |cons {x:aV} {i:Nat} {ns:List aV} {is:List Nat} (h:cy K.c.V x=Y i) (r:DO K ns is):DO K (x::ns) (i::is)
theorem DO.len{ns:List aV}{is:List Nat}(ah:DO K ns is):ns.length=is.length:=by induction ah with
 |nil=>rfl
 |cons _ _ ih=>exact congrArg (·+1) ih
theorem Gu(C:fD K.c K.A){ns:List aV}{is:List Nat}(ah:DO K ns is):is.Nodup->∀{ρ:cM}{vs:List J}{us:List ar},bP (RV ρ) vs us->vs.length=is.length->aX K ρ (Ta K (ns.reverse.map λn=>bindName K.c.env n) us.reverse) (o6 (is.map bd) vs) Uv:=by induction ah with
 |nil=>intro _ ρ vs us l hl;induction l with
  |nil=>exact iD (R:=Uv) () λ_=>trivial
  |cons _ _=>cases hl
 |@cons x i ns is h ah ih=>intro nd ρ vs us l hl;obtain⟨n1,n2⟩:=List.nodup_cons.mp nd;induction l with
  |nil=>cases hl
  |@cons v u vs us p q=>have hl:=Nat.succ.inj hl;show aX K ρ _ ((cb i v).bind λ_=>o6 (is.map bd) vs) Uv;rw[Df n1,List.reverse_cons,List.reverse_cons,List.map_append,List.map_cons,List.map_nil,y4 (by rw[List.length_map,List.length_reverse,List.length_reverse,ah.len,<-hl,q.length])];exact(ih n2 q hl).bind λρ1 _ _ p1 _=>(lT C h λ_=>p.mono p1).pre λQ E s h=>oa h
theorem EW(F:Fc K){ns:List aV}{is:List Nat}{ts:List Expr}{k:Nat}{tp:da}{e:Expr}{me:M J}(ah:DO K ns is)(nd:is.Nodup)(hn:nI e=I)(hw0:pk K.c.V.scope (.Tuple ts k tp) e=Y (Y ns))(ie:b8 K e me):lW K (.Assign [.Tuple ts k tp] e pos) (sAsg (eZ K.T (is.map bd)) me):=λρ=>((ie ρ).bind λρ1 va a p1 ha=>(show aX K ρ1 (λQ E s=>PW K (unpackItems va ns.length cV) (λitems s=>PW K (assignInOrder (ns.reverse.map λn=>bindName K.c.env n) items.reverse) Q E s) E s) (eZ K.T (is.map bd) a) Uv from t6 F ha λσ ρ' s t xs us hp hr ht eu hh it l kk Q E hw=>by subst eu;rw[List.length_map]at kk;rw[show ns.length=us.toArray.size by rw[ah.len,List.size_toArray,<-l.length,kk]];exact unpackItems_tuple hh it λh' he=>xK (Gu F.C ah nd l kk σ ρ' (eJ s h' s.toks) (List.prefix_refl _) (hr.keepsIn (vY he)) ht Q E (cC hw (λ_ _ x=>x.from (List.prefix_refl _)) λ_ _ x=>x.from (List.prefix_refl _)))).bind λ_ _ _ _ _=>tf).pre λQ E s h=>Assign_Tuple_swapped h (zC hn) (uI F.C.kind (by rw[F.C.scope];exact hw0))
theorem EZ(F:Fc K){x e:Expr}{mx me:M J}{p:da}{op:eO}(hn:K.T.names[n]?=Y nm)(ix:b8 K x mx)(ie:b8 K e me):lW K (.AugAssign (.Attribute x nm p) op e pos) (uG K.T mx n op me):=λρ=>((ix ρ).bind λρ1 va a p1 ha=>(Dx F.toFb (ex:=S) hn ha).bind λρ2 vo o p2 ho=>(ie ρ2).bind λρ3 vb b p3 hb=>(IH (ho.mono p3) hb).bind λρ4 vr r p4 hr=>(Dh F hn (((ha.mono p2).mono p3).mono p4) hr).bind λ_ _ _ _ _=>tf).pre λQ E s h=>wpAny_AugAssign_AttributeAny h
end
section
open PySem PySem.W PySem.Calls PyProof.Rows
variable{T:aT}{W:Wd}{c:Fx}{A:ch}{K:Cx}{σ σ':St}{ρ ρ':cM}{s s₁:aF}{E:ar->aF->Prop}{X:Nat->St->Prop}{h h':cT}{pos:da}{aj:bf}
inductive vP(W:Wd)(ρ:cM)(h:cT):It->bf->Prop where
 |list {i k:Nat} {a aj:bf} {r:List bf} (e:ρ[i]?=Y (a::r)) (x:h.IsListIter aj a k):vP W ρ h (.live i k) aj
 |tup {i k:Nat} {a aj:bf} {r:List bf} (e:ρ[i]?=Y (a::r)) (x:IsTupIter h aj a k):vP W ρ h (.liveT i k) aj
 |stup {k:Nat} {t aj:bf} {xs:List J} {us:List ar} (e:n5 W.h0 t us.toArray) (l:bP Sv xs us) (x:IsTupIter h aj t k):vP W ρ h (.vals (xs.drop k)) aj
 |asc {k:Nat} {aj:bf} {y:aV} {t:qV} (x:h.IsStrIter aj "str_ascii_iterator" y t k):vP W ρ h (.vals ((y.cps.toList.map λc=>.str [c]).drop k)) aj
 |wide {k:Nat} {aj:bf} {y:aV} {t:qV} (x:h.IsStrIter aj "str_iterator" y t k):vP W ρ h (.vals ((y.cps.toList.map λc=>.str [c]).drop k)) aj
 |range {k n:Nat} {aj:bf} (hk:k<=n) (x:IsRangeIter h aj (k:Int) (n-k:Int) 1):vP W ρ h (.vals (((List.range n).map λ(i:Nat)=>.int i).drop k)) aj
theorem vP.keep{q:It}(x:vP W ρ h q aj)(hp:ρ<+:ρ')(e:m0 h h' aj):vP W ρ' h' q aj:=by induction x with
 |list a b=>exact .list (b6 hp a) (let⟨o,p,q⟩:=b;⟨o,e _ p,q⟩)
 |tup a b=>exact .tup (b6 hp a) (let⟨o,p,q⟩:=b;⟨o,e _ p,q⟩)
 |stup a l b=>exact .stup a l (let⟨o,p,q⟩:=b;⟨o,e _ p,q⟩)
 |asc b=>exact .asc (let⟨o,p,q⟩:=b;⟨o,e _ p,q⟩)
 |wide b=>exact .wide (let⟨o,p,q⟩:=b;⟨o,e _ p,q⟩)
 |range hk b=>exact .range hk (e _ b)
inductive Ni(h:cT)(aj:bf):Prop where
 |mk (o:iS) (n:String) (vs:Array ar) (g:h.get? aj=Y o) (c:o.cls=.type n) (d:o.data=.fields vs) (k:["enumerate","zip","dict_itemiterator","dict_reverseitemiterator","odict_iterator","itertools.zip_longest","itertools.pairwise"].contains n=I):Ni h aj
theorem vP.obj{q:It}(x:vP W ρ h q aj):Ni h aj:=by induction x with
 |list a b=>obtain⟨o,p,q,r⟩:=b;exact⟨o,_,_,p,q,r,by decide⟩
 |tup a b=>obtain⟨o,p,q,r⟩:=b;exact⟨o,_,_,p,q,r,by decide⟩
 |stup a l b=>obtain⟨o,p,q,r⟩:=b;exact⟨o,_,_,p,q,r,by decide⟩
 |asc b=>obtain⟨o,p,q,r⟩:=b;exact⟨o,_,_,p,q,r,by decide⟩
 |wide b=>obtain⟨o,p,q,r⟩:=b;exact⟨o,_,_,p,q,r,by decide⟩
 |range hk b=>exact⟨_,_,_,b,U,U,by decide⟩
theorem dB.ext(R:dB T W c σ ρ h)(f:ng W c ρ aj)(he:cT.ExtBut aj h h'):dB T W c σ ρ h':=
 R.stay (λm F=>⟨F.ns.extBut he (jP f.loc),λb o e=>he b o (λq=>by rw[q,f.h0]at e;exact nS e) (F.keep b o e),F.above⟩) λb hb o e=>he b o (λq=>f.addrs (q▸hb)) e
noncomputable def Fx.hold(c:Fx)(p:bf×Hd):Fx:={c with held:=p::c.held}
theorem fD.hold(C:fD c A)(p:bf×Hd):fD (c.hold p) A where
 scope:=C.scope
 kind:=C.kind
 glob:=C.glob
 bi:=C.bi
 inj:=C.inj
 nd:=C.nd
 frames:=C.frames
 hand:=C.hand
 top:=C.top
 cells:=C.cells
 lo:=C.lo
 lotop:=C.lotop
 envs:=λe he=>let⟨k,L,a,b⟩:=C.envs e he;⟨k,L,a,b.elim .inl λ⟨m,hm⟩=>.inr ⟨m,.tail _ hm⟩⟩
theorem dB.hold(R:dB T W c σ ρ h)(f:ng W c ρ aj){o:iS}(ho:h.get? aj=Y o):dB T W (c.hold (aj,.obj o)) σ ρ h:=by
 obtain⟨m,F,L⟩:=R.fr;obtain⟨n1,n2⟩:=List.nodup_cons.mp R.nd;refine⟨⟨m,F,λx i v a b d=>?_⟩,R.len,R.obs,λp hp=>?_,?_,λb hb=>?_,R.hand,R.frz⟩
 ·cases L x i v a b d with
  |loc k u e r=>exact .loc k u e r
  |cell k ca u e hd r=>exact .cell k ca u e (.tail _ hd) r
 ·rcases List.mem_cons.mp hp with e0|hp
  ·exact e0▸.obj ho
  ·exact R.held p hp
 ·exact List.nodup_cons.mpr ⟨λhm=>(List.mem_cons.mp hm).elim (λq=>f.loc q.symm) n1,List.nodup_cons.mpr ⟨f.addrs,n2⟩⟩
 ·rcases List.mem_cons.mp hb with e0|hb
  ·exact e0▸⟨f.h0,cz ho⟩
  ·exact R.fresh b hb
theorem dB.unhold{p:bf×Hd}(hn:∀v,p.2≠.cell v)(R:dB T W (c.hold p) σ ρ h):dB T W c σ ρ h:=by obtain⟨m,F,L⟩:=R.fr;obtain⟨n1,n2⟩:=List.nodup_cons.mp R.nd;refine⟨⟨m,F,λx i v a b d=>?_⟩,R.len,R.obs,λq hq=>R.held q (.tail _ hq),List.nodup_cons.mpr ⟨λhm=>n1 (.tail _ hm),(List.nodup_cons.mp n2).2⟩,λb hb=>R.fresh b (.tail _ hb),R.hand,R.frz⟩;cases L x i v a b d with
 |loc k u e r=>exact .loc k u e r
 |cell k ca u e hd r=>
  rcases List.mem_cons.mp hd with q|q
  ·exact(hn u (by exact q▸rfl)).elim
  ·exact .cell k ca u e q r
theorem dB.heldFree{o:iS}(R:dB T W (c.hold (aj,.obj o)) σ ρ h):ng W c ρ aj/\h.get? aj=Y o:=by obtain⟨n1,n2⟩:=List.nodup_cons.mp R.nd;cases R.held _ (.head _)with
 |obj g=>exact⟨⟨(List.nodup_cons.mp n2).1,λq=>n1 (q▸.head _),(R.fresh aj (.head _)).1⟩,g⟩
theorem EN{α:Type}{l:List α}{k:Nat}{x:α}(e:l[k]?=Y x):l.drop k=x::l.drop (k+1):=by obtain⟨h,rfl⟩:=List.getElem?_eq_some_iff.mp e;exact List.drop_eq_getElem_cons h
theorem Du{β:Type}{i:Nat}{k:AO->M β}{P:β->St->Prop}(hw:kH P X (gH i k σ)):∃o,σ.heap[i]?=Y o/\kH P X (k o σ):=by have hw:kH P X (gO (σ.heap[i]?) k σ):=hw;induction e:σ.heap[i]? with
 |none=>rw[e]at hw;exact hw.elim
 |some o=>rw[e]at hw;exact⟨o,U,hw⟩
theorem N0{β:Type}{i:Nat}{k:List J->M β}{P:β->St->Prop}(hw:kH P X (gL i k σ)):∃xs,σ.heap[i]?=Y (.list xs)/\kH P X (k xs σ):=by obtain⟨o,e,hw⟩:=Du hw;induction o with
 |list xs=>exact⟨xs,e,hw⟩
 |_=>exact hw.elim
theorem T8{β:Type}{i:Nat}{k:List J->M β}{P:β->St->Prop}(hw:kH P X (gT i k σ)):∃xs,σ.heap[i]?=Y (.tup xs)/\kH P X (k xs σ):=by obtain⟨o,e,hw⟩:=Du hw;induction o with
 |tup xs=>exact⟨xs,e,hw⟩
 |_=>exact hw.elim
structure Qg(K:Cx)(σ:St)(ρ:cM)(s:aF)(aj:bf)(P:Option (J×It)->St->Prop)(Q:Option ar->aF->Prop):Prop where
 no:P .none σ->∀h',K.R σ ρ h'->Q .none (eJ s h' s.toks)
 yes:∀v q' u h' tk,P (Y (v,q')) σ->RV ρ v u->K.R σ ρ h'->vP K.W ρ h' q' aj->Q (Y u) (eJ s h' tk)
variable{P:Option (J×It)->St->Prop}{Q:Option ar->aF->Prop}
theorem qG{l:List J}{k:Nat}(e:l[k]?=.none)(hw:kH P X (i8 (.vals (l.drop k)) σ)):P .none σ:=by rw[List.drop_eq_nil_of_le (List.getElem?_eq_none_iff.mp e)]at hw;exact hw
theorem tw{l:List J}{k:Nat}{v:J}(e:l[k]?=Y v)(hw:kH P X (i8 (.vals (l.drop k)) σ)):P (Y (v,.vals (l.drop (k+1)))) σ:=by rw[EN e]at hw;exact hw
theorem uQ{vs:List ar}{k:Nat}{u:ar}(e:vs[k]?=Y u):vs.toArray[k]?=Y u:=by rw[List.getElem?_toArray];exact e
theorem xu{xs:List J}{vs:List ar}{R:J->ar->Prop}{k:Nat}(l:bP R xs vs)(e:xs[k]?=.none):vs.toArray[k]?=.none:=by rw[List.getElem?_toArray];exact List.getElem?_eq_none (by rw[<-l.length];exact List.getElem?_eq_none_iff.mp e)
theorem wI{q:It}(hh:K.A.handled=cV)(hr:K.R σ ρ s.heap)(f:ng K.W K.c ρ aj)(x:vP K.W ρ s.heap q aj)(hw:kH P X (i8 q σ))(N:Qg K σ ρ s aj P Q):PW K (pyNext (.ref aj)) Q E s:=by induction x with
 |@list i k a _ r ea x=>obtain⟨xs,e1,hw⟩:=N0 hw;obtain⟨vs,n,g1,l1,_⟩:=hr.list e1 ea;induction e2:xs[k]? with
  |none=>rw[e2]at hw;exact wpAny_pyNext_list_end hh x (cF g1) (xu l1 e2) λh' he=>N.no hw h' (hr.ext f he)
  |some v=>rw[e2]at hw;obtain⟨u,hu,hR⟩:=l1.get e2;exact wpAny_pyNext_list_item x (cF g1) (uQ hu) λh' hx hsb=>N.yes _ _ u h' s.toks hw hR (hr.ext f hsb.extBut) (.list ea hx)
 |@tup i k a _ r ea x=>obtain⟨xs,e1,hw⟩:=T8 hw;obtain⟨vs,n,g1,l1,_⟩:=hr.tup e1 ea;have ht:n5 s.heap _ vs.toArray:=⟨_,g1,U,n,U⟩;induction e2:xs[k]? with
  |none=>rw[e2]at hw;exact next_tuple_end hh x ht (xu l1 e2) λh' he=>N.no hw h' (hr.ext f he)
  |some v=>rw[e2]at hw;obtain⟨u,hu,hR⟩:=l1.get e2;exact next_tuple_item x ht (uQ hu) λh' hx hsb=>N.yes _ _ u h' s.toks hw hR (hr.ext f hsb.extBut) (.tup ea hx)
 |@stup k t _ xs us et l x=>have ht:n5 s.heap t us.toArray:=et.keeps hr.stays;induction e2:xs[k]? with
  |none=>exact next_tuple_end hh x ht (xu l e2) λh' he=>N.no (qG e2 hw) h' (hr.ext f he)
  |some v=>obtain⟨u,hu,hR⟩:=l.get e2;exact next_tuple_item x ht (uQ hu) λh' hx hsb=>N.yes _ _ u h' s.toks (tw e2 hw) (hR ρ) (hr.ext f hsb.extBut) (.stup et l hx)
 |@asc k _ y t x=>induction e2:y.cps.toList[k]? with
  |none=>exact wpAny_pyNext_ascii_end hh x (by rw[<-ck];exact e2) λh' he=>N.no (qG (by simp only[List.getElem?_map,e2];rfl) hw) h' (hr.ext f he)
  |some v=>exact wpAny_pyNext_ascii_item x (by rw[<-ck];exact e2) λh' hx hsb=>N.yes _ _ _ h' _ (tw (by simp only[List.getElem?_map,e2];rfl) hw) (.str _ _ U) (hr.ext f hsb.extBut) (.asc hx)
 |@wide k _ y t x=>induction e2:y.cps.toList[k]? with
  |none=>exact wpAny_pyNext_wide_end hh x (by rw[<-ck];exact e2) λh' he=>N.no (qG (by simp only[List.getElem?_map,e2];rfl) hw) h' (hr.ext f he)
  |some v=>exact wpAny_pyNext_wide_item x (by rw[<-ck];exact e2) λh' hx hsb=>N.yes _ _ _ h' _ (tw (by simp only[List.getElem?_map,e2];rfl) hw) (.str _ _ U) (hr.ext f hsb.extBut) (.wide hx)
 |@range k n _ hk x=>
  by_cases hkn:k<n
  ·refine wpAny_pyNext_range_item x (by exact qM (vA hkn)) λh' hx hsb=>N.yes _ _ _ h' _ (tw (by simp only[List.getElem?_map,List.getElem?_range hkn];rfl) hw) (.int _ _) (hr.ext f hsb.extBut) (.range hkn ?_)
   rw[show((n:Int)-k-1)=(n:Int)-((k+1:Nat):Int) by exact sG _ _ _]at hx;exact hx
  ·exact wpAny_pyNext_range_end hh x (by exact Int.sub_nonpos_of_le (zY (Nat.le_of_not_lt hkn))) λh' he=>N.no (qG (List.getElem?_eq_none (by simp only[List.length_map,List.length_range];exact(Xg hkn))) hw) h' (hr.ext f he)
theorem UZ{q:It}{t:Expr}{v:ar}{Q:Unit->aF->Prop}(x:vP W ρ s.heap q aj)(hQ:Q () s):PW K (letOwnedTupleGo t (.ref aj) v) Q E s:=by
 obtain⟨o,n,vs,ho,hc,hd,hn⟩:=x.obj;have key:∀(es:List Expr)(k:Nat)(p:da),PW K (letOwnedTupleGo (.Tuple es k p) (.ref aj) v) Q E s:=λes k p=>by induction v with
  |ref a=>refine ay (wpAny_load ho ?_);refine hc▸hd▸?_;dsimp only;rw[hn,Bool.false_and,if_neg em];exact aL hQ
  |_=>exact aL hQ
 induction t using bg with
 |Tuple es k p=>exact key es k p
 |List es p=>exact key es 0 p
 |_=>exact aL hQ
def sD(K:Cx)(ρ:cM)(s:aF)(Q:ar->aF->Prop)(q:It)(σ':St):Prop:=
 ∀(ρ':cM)(h':cT)(tk:Nat)(aj:bf),ρ<+:ρ'->K.R σ' ρ' h'->ng K.W K.c ρ' aj->vP K.W ρ' h' q aj->0<tk->Q (.ref aj) (eJ s h' tk)
def xo(K:Cx)(e:Expr)(m:M It):Prop:=∀(σ:St)(ρ:cM)(s:aF)(Q:ar->aF->Prop)(E:ar->aF->Prop),K.R σ ρ s.heap->0<s.toks->kH (sD K ρ s Q) (lU K ρ s E) (m σ)->PW K (rV e K.c.env) (λx s₁=>PW K (pyIter x) Q E s₁) E s
theorem sD.from{Q:ar->aF->Prop}{h₁:cT}{tk₁:Nat}{q:It}{ρ₁:cM}(hp:ρ<+:ρ₁)(h:sD K ρ s Q q σ'):sD K ρ₁ (eJ s h₁ tk₁) Q q σ':=λρ' h' tk a x=>h ρ' h' tk a (hp.trans x)
theorem Mz(F:Fc K){a:J}{u:ar}{Q:ar->aF->Prop}(hr:K.R σ ρ s.heap)(ht:0<s.toks)(ha:RV ρ a u)(hw:kH (sD K ρ s Q) X (U2 K.T a σ)):PW K (pyIter u) Q E s:=by have hf:=hr.free;induction ha with
 |str x t hx=>subst hx;induction q:x.cps.all (·<128)with
  |true=>exact wpAny_pyIter_ascii q (hw ρ _ s.toks _ (List.prefix_refl _) (hr.push _) hf (.asc (k:=0) ⟨_,bA _ U,U,U⟩) ht)
  |false=>exact wpAny_pyIter_wide q (hw ρ _ s.toks _ (List.prefix_refl _) (hr.push _) hf (.wide (k:=0) ⟨_,bA _ U,U,U⟩) ht)
 |sref d=>have hw:kH (sD K ρ s Q) X (gO (d7 d K.T.stup) (λvs=>M.ret (.vals vs)) σ):=hw;induction e1:d7 d K.T.stup with
  |none=>rw[e1]at hw;exact hw.elim
  |some xs=>rw[e1]at hw;obtain⟨us,n,dd,sl,hl,r⟩:=F.t.stup _ _ e1;have h0:=qn (F.g.X _ _ hl);exact iter_tuple (h0.keeps hr.stays) (hw ρ _ s.toks _ (List.prefix_refl _) (hr.push _) hf (.stup (k:=0) h0 r ⟨_,bA _ U,U,U⟩) ht)
 |obj ea=>obtain⟨o,e1,hw⟩:=Du hw;induction o with
  |list xs=>obtain⟨vs,n,g1,l1,_⟩:=hr.list e1 ea;exact wpAny_pyIter_list (cF g1) (hw ρ _ s.toks _ (List.prefix_refl _) (hr.push _) hf (.list (k:=0) ea ⟨_,bA _ U,U,U⟩) ht)
  |tup xs=>obtain⟨vs,n,g1,l1,_⟩:=hr.tup e1 ea;exact iter_tuple (⟨_,g1,U,n,U⟩:n5 s.heap _ vs.toArray) (hw ρ _ s.toks _ (List.prefix_refl _) (hr.push _) hf (.tup (k:=0) ea ⟨_,bA _ U,U,U⟩) ht)
  |_=>exact hw.elim
 |_=>exact hw.elim
theorem DY(F:Fc K){e:Expr}{me:M J}(ie:b8 K e me):xo K e (iX K.T me):=λσ ρ s Q E hr ht hw=>ie ρ σ ρ s (List.prefix_refl _) hr ht _ _ (cC (cg hw) (λa σ1 hP ρ1 h1 tk1 va hp1 hr1 ha ht1=>Mz F (s:=eJ s h1 tk1) hr1 ht1 ha (cC hP (λ_ _ x=>x.from hp1) λ_ _ x=>x)) λ_ _ x=>x)
theorem I3{a:J}{va:ar}{Q:ar->aF->Prop}(hr:K.R σ ρ s.heap)(ht:0<s.toks)(ha:RV ρ a va)(hw:kH (sD K ρ s Q) X ((gS a λn=>gd (aI (0<=n)&&aI (n<2^24)) (M.ret (.vals ((List.range n.toNat).map λ(i:Nat)=>.int i)))) σ)):PW K (call (.type "range") [va] []) (λx s₁=>PW K (pyIter x) Q E s₁) E s:=by induction ha with
 |int n t=>have hw:kH (sD K ρ s Q) X (gd (aI (0<=n)&&aI (n<2^24)) (M.ret (.vals ((List.range n.toNat).map λ(i:Nat)=>.int i))) σ):=hw;induction q:aI (0<=n)&&aI (n<2^24)with
  |false=>replace hw:=q▸hw;exact hw.elim
  |true=>
   replace hw:=q▸hw;rw[ax,decide_eq_true_eq,decide_eq_true_eq]at q;refine call_range_1 (wpAny_pyIter_range (IsRange.new ..) (small_one (by decide) (by decide) (by exact zB U q.1) (by exact zU q.2 U)) ?_);have hr2:=(hr.push {cls:=.type "range",data:=.fields #[.int 0 s.toks,.int n t,.int 1 (s.toks+1)]});have hsz:tF.Range.rangeSize 0 n 1=(n.toNat:Int):=by rw[rangeSize_one];split<;>lia
   refine hw ρ _ _ _ (List.prefix_refl _) (hr2.push _) hr2.free (vP.range (k:=0) (n:=n.toNat) (Nat.zero_le _) ?_) (Nat.lt_of_lt_of_le ht (Nat.le_trans (Nat.le_add_right _ 1) (Nat.le_add_right _ 1)));rw[hsz,show((n.toNat:Int)-((0:Nat):Int))=(n.toNat:Int) by exact Int.sub_zero _];exact bA _ rfl
 |_=>exact hw.elim
theorem BZ(F:Fc K){f:aV}{fp:da}{a:Expr}{ma:M J}(hg:iE K.c.V f=S)(hv:K.T.glob.lookup f=Y (.ty "range"))(hs:fR a=I)(ia:b8 K a ma):xo K (.Call (.Name f fp) [a] [] pos) (nP ma):=λσ ρ s Q E hr ht hw=>by refine kA (jX F.g F.C hg hv hr λu hR=>?_);have hu:=hR ρ;cases hu;have iEs:fW K [a] [ma]:=.cons hs ia .nil;refine jr (P:=λ_=>True) (by rw[j0 iEs];rfl) (λh _=>⟨.machine,.inr (.inl U),.now⟩) (hG iEs U ?_);exact(fF hs)▸Calls.spliced_cons (ia ρ σ ρ s (List.prefix_refl _) hr ht _ _ (cC (cg hw) (λv σ1 hP ρ1 h1 tk1 va hp1 hr1 ha ht1=>Calls.spliced_nil (eP ⟨trivial,I3 (s:=eJ s h1 tk1) hr1 ht1 ha (cC hP (λ_ _ x=>x.from hp1) λ_ _ x=>x)⟩)) λ_ _ x=>x))
theorem uZ{α:Type}{m:M α}{P:α->St->Prop}(h:(E2 m).wp σ P X):m.wp σ P (λ_ _=>False):=by unfold M.wp E2 at*;induction e:m σ with
 |ok a s=>replace h:=e▸h;exact h
 |_=>replace h:=e▸h;exact h.elim
theorem oA{P:Unit->St->Prop}(h:iA.wp σ P X):σ.hand=I/\P () σ:=by unfold M.wp iA at h;induction q:σ.hand with
 |true=>rw[q]at h;exact h.elim
 |false=>rw[q]at h;exact⟨U,h⟩
theorem vV{e:Expr}(h:ko e=I)(env:pv)(x:ar):foldedSetIterable e env x=pure x:=by cases e<;>first|rfl|exact nF h
inductive Zi(K:Cx)(ρ:cM)(s:aF)(Q:qP->aF->Prop)(aj:bf)(g:qi)(mb:M Fl)(n:Nat)(s':aF):Prop where
 |mk (σ':St) (ρ':cM) (h':cT) (tk:Nat) (q:It) (e:s'=eJ s h' tk) (ht:0<tk) (hp:ρ<+:ρ') (hr:K.R σ' ρ' h') (f:ng K.W K.c ρ' aj) (x:vP K.W ρ' h' q aj) (hw:kH (vK K ρ s Fv Q) (λ_ _=>False) (dU (iW g mb) n q σ')):Zi K ρ s Q aj g mb n s'
theorem Gb(F:Fc K){t e:Expr}{b:List eD}{g:qi}{mi:M It}{mb:M Fl}(hset:ko e=I)(ii:xo K e mi)(ig:∀p,pH (K.to (K.c.hold p) K.A) (iP t K.c.env) g)(ib:∀p,vc (K.to (K.c.hold p) K.A) b mb):
  lW K (.For t e b [] pos) (uT g mi mb):=λρ00 σ ρ s _ hr ht Q E hw=>by
 obtain⟨vy,hw⟩:=oA (cg hw);have hh:=F.C.hand (by exact hr.hand▸vy▸rfl);refine wpAny_For (ii σ ρ s _ _ hr ht (cC (cg hw) (λq0 σ0 hP ρ0 h0 tk0 aj hp0 hr0 f0 x0 ht0=>?_) λ_ _ x=>x)) (vV hset K.c.env);refine codeAny_forLoop_any (Zi K ρ s Q aj g mb) ?_ fg ⟨σ0,ρ0,h0,tk0,q0,U,ht0,hp0,hr0,f0,x0,uZ hP⟩;rintro n _ ⟨σ1,ρ1,h1,tk1,q1,rfl,ht1,hp1,hr1,f1,x1,hw1⟩;induction n with
 |zero=>exact hw1.elim
 |succ n=>refine cq (n:=1) ht1 (wI (s:=eJ s h1 tk1) hh hr1 f1 x1 (cg (cg hw1)) ⟨λhN h2 hr2 _=>jB (hN ρ1 h2 tk1 .next hp1 hr2 .nxt ht1),λv q2 u h2 tk2 hN hv hr2 x2 ht2=>?_⟩);refine UZ (K:=K) x2 ?_;obtain⟨o,_,_,ho,_⟩:=x2.obj;have hN:kH _ _ (((g v).bind λ_=>mb.bind λf=>M.ret (Y (q2,f))) σ1):=hN;refine ig (aj,.obj o) ρ1 v u hv σ1 ρ1 (eJ s h2 tk2) (List.prefix_refl _) (hr2.hold f1 ho) ht2 _ _ (cC (cg hN) (λ_ σ3 hP3 ρ3 h3 tk3 _ hp3 hr3 _ ht3=>?_) λ_ _ x=>x.elim);refine ib (aj,.obj o) ρ3 σ3 ρ3 (eJ s h3 tk3) (List.prefix_refl _) hr3 ht3 _ _ (cC (cg hP3) (λf σ4 hP4 ρ4 h4 tk4 fl hp4 hr4 hf ht4=>?_) λ_ _ x=>x.elim);obtain⟨f4,ho4⟩:=hr4.heldFree;have hr5:=hr4.unhold (λ_ q=>by cases q);have hpp:=(hp1.trans hp3).trans hp4;induction hf with
  |nxt=>exact⟨n,Nat.lt_succ_self n,σ4,ρ4,h4,tk4,q2,U,ht4,hpp,hr5,f4,x2.keep (hp3.trans hp4) (λo' e=>by rw[ho]at e;exact(sI e)▸ho4),hP4⟩
  |brk=>exact hP4 ρ4 h4 tk4 .next hpp hr5 .nxt ht4
  |ret hv=>exact hP4 ρ4 h4 tk4 (.ret _) hpp hr5 (.ret hv) ht4
end
section
open PySem PySem.W PySem.Calls PyProof.Rows
variable{T:aT}{W:Wd}{c:Fx}{A:ch}{K:Cx}{σ σ':St}{ρ ρ':cM}{s s₁:aF}{E:ar->aF->Prop}{X:Nat->St->Prop}{h h':cT}{pos:da}{aj:bf}{x:aV}{sc:cL}
theorem ET{q:It}{Q:ar->aF->Prop}(x:vP W ρ s.heap q aj)(hQ:Q (.ref aj) s):PW K (pyIter (.ref aj)) Q E s:=by induction x with
 |list a b=>exact wpAny_pyIter_listiter b hQ
 |tup a b=>exact mU b hQ
 |stup a l b=>exact mU b hQ
 |asc b=>exact wpAny_pyIter_striter_ascii b hQ
 |wide b=>exact wpAny_pyIter_striter_wide b hQ
 |range hk b=>exact wpAny_pyIter_rangeiter b hQ
noncomputable def iM(env:pv):List (aV×dr)->List (aV×bf)->List (aV×bf)
 |[],acc=>acc
 |(n,k)::r,acc=>if k==.free then iM env r ((n,(env.cells.lookup n).getD 0)::acc)else iM env r acc
theorem rf{env:pv}:∀(l:List (aV×dr))(acc:List (aV×bf)),(∀p∈l,p.2=.free->(env.cells.lookup p.1).isSome=S)->
  (forIn l acc λ(x:aV×dr) r=>(match x with|(name,kind)=>if(kind==fH)=S then do let a<-cellOf env name;pure (eG ((name,a)::r))else pure (eG r)):o7 (List (aV×bf)))=pure (iM env l acc)
 |[],acc,_=>rfl
 |(n,k)::r,acc,hl=>by
  rw[List.forIn_cons];unfold iM;dsimp only
  by_cases q:(k==fH)=S
  ·rw[if_pos q,if_pos q]
   obtain⟨ca,hca⟩:=bL.mp (hl (n,k) (.head _) (eq_of_beq q));have e:cellOf env n=pure ca:=by unfold cellOf;rw[hca]
   rw[e,hca];exact rf r _ λp hp=>hl p (.tail _ hp)
  ·rw[if_neg q,if_neg q]
   exact rf r _ λp hp=>hl p (.tail _ hp)
theorem Cg{env:pv}(h:∀p∈sc.names,p.2=.free->(env.cells.lookup p.1).isSome=S):closureFor sc env=pure (iM env sc.names []):=by unfold closureFor;exact(congrArg (λ(t:o7 (List (aV×bf)))=>t>>=λcs=>pure cs) (rf sc.names [] h)).trans rfl
theorem pP{env:pv}:∀(l:List (aV×dr)){acc:List (aV×bf)},acc.lookup x=Y ((env.cells.lookup x).getD 0)->(iM env l acc).lookup x=Y ((env.cells.lookup x).getD 0)
 |[],_,h=>h
 |(y,k)::r,acc,h=>by
  unfold iM
  split
  ·refine pP r ?_
   rw[List.lookup_cons];induction q:x==y with
   |true=>exact(eq_of_beq q)▸rfl
   |false=>exact h
  ·exact pP r h
theorem mO{env:pv}:∀{l:List (aV×dr)}(acc:List (aV×bf)),(x,fH)∈l->(iM env l acc).lookup x=Y ((env.cells.lookup x).getD 0)
 |(y,k)::r,acc,h=>by
  unfold iM;rcases List.mem_cons.mp h with e|h
  ·cases e
   rw[if_pos (by rfl)];exact pP r (by rw[List.lookup_cons,beq_self_eq_true])
  ·split
   ·exact mO _ h
   ·exact mO _ h
theorem qf{o:cL}{y:aV}:∀{l:List (aV×dr)},(l.map λ(n,k)=>if(k==fH&&o.kind==.function&&o.names.lookup n==Y .cell)then(n,lE)else(n,k)).lookup y=
  (l.lookup y).map λk=>if(k==fH&&o.kind==.function&&o.names.lookup y==Y .cell)then .cell else k
 |[]=>rfl
 |(n,k)::r=>by
  have ih:=qf (o:=o) (y:=y) (l:=r);have h1:∀(b:Bool)(l:List (aV×dr)),List.lookup y ((if b=S then(n,lE)else(n,k))::l)=if(y==n)=S then Y (if b=S then lE else k)else l.lookup y:=λb l=>by induction b<;>simp only[List.lookup_cons,if_true,kB,if_false]<;>cases y==n<;>rfl
  rw[List.map_cons];dsimp only;rw[h1,ih,List.lookup_cons];induction q:y==n with
  |true=>rw[eq_of_beq q];rfl
  |false=>rfl
structure q8(V:VI)(x:aV)(sc:cL):Prop where
 kind:sc.kind=.function
 hx:sc.names.lookup x=Y .local
 nocell:∀y∈sc.names,y.2≠.cell
 loc:∀p∈sc.names,p.2=.local->(p.1=x\/V.vm.lookup p.1=cV)/\sc.names.lookup p.1=Y .local
 free:∀p∈sc.names,p.2=.free->V.scope.names.lookup p.1=Y .cell/\p.1≠x
 nd:∀p∈sc.names,(p.1==("__debug__":aV))=I/\(p.1==("__classdict__":aV))=I
theorem EC{V:VI}(h:rC V x sc=S):q8 V x sc:=by
 unfold rC at h;rw[ax,ax,List.all_eq_true]at h;obtain⟨⟨h1,h2⟩,h3⟩:=h;have h3:∀p∈sc.names,((!(p.2==.cell))=S/\(!(p.2==.local)||((p.1==x||(V.vm.lookup p.1).isNone)&&sc.names.lookup p.1==Y .local))=S)/\(!(p.2==.free)||(V.scope.names.lookup p.1==Y .cell&&p.1 !=x))=S/\(p.1 !=("__debug__":aV))=S/\(p.1 !=("__classdict__":aV))=S:=λp hp=>by have:=h3 p hp;unfold FN at this;rw[ax,ax,ax,ax]at this;exact⟨this.1.1,this.1.2,this.2⟩
 have bne:∀{a b:aV},(a !=b)=S->(a==b)=I:=λh=>dt _|>.mp h;refine⟨eq_of_beq h1,eq_of_beq h2,λp hp q=>?_,λp hp q=>?_,λp hp q=>?_,λp hp=>⟨bne (h3 p hp).2.2.1,bne (h3 p hp).2.2.2⟩⟩
 ·have:=(h3 p hp).1.1;rw[q]at this;exact nT this
 ·have:=(h3 p hp).1.2
  rw[q,show(!(dr.local==dr.local))=I from U,gC,ax,dz]at this;exact⟨this.1.imp eq_of_beq Option.isNone_iff_eq_none.mp,eq_of_beq this.2⟩
 ·have:=(h3 p hp).2.1
  rw[q,show(!(fH==fH))=I from U,gC,ax]at this;exact⟨eq_of_beq this.1,bne_iff_ne.mp this.2⟩
def Fx.block(c:Fx)(x:aV)(sc:cL)(C:bf)(m:aV->Option ar)(loc:List J):Fx:=
 {env:=compEnvC sc (iM c.env sc.names []) C c.env,V:=gk c.V x sc,held:=(c.env.locals,Hd.ns m)::c.held,envs:=c.envs,hand:=c.hand,lo:=c.V.top,low:=loc}
theorem Gh(C:fD c A):Jo sc c.V.scope=relabel sc c.env:=by unfold Jo relabel f6;rw[C.scope]
noncomputable def Px(k:dr):dr:=match k with
 |.free=>.cell
 |k=>k
theorem nv(C:fD c A)(O:q8 c.V x sc){y:aV}:(gk c.V x sc).scope.names.lookup y=(sc.names.lookup y).map Px:=by refine qf.trans ?_;induction q:sc.names.lookup y with
 |none=>rfl
 |some k=>
  have hkf:c.V.scope.kind=.function:=by exact C.scope▸C.kind
  refine congrArg Y ?_
  by_cases z:k=.free
  ·subst z
   rw[(O.free _ (mem_of_lookup q) U).1,hkf];rfl
  ·dsimp only
   rw[if_neg λh=>z (by rw[ax,ax]at h;exact eq_of_beq h.1.1)];induction k<;>first|rfl|exact absurd U z
inductive IU(c:Fx)(x:aV)(sc:cL)(y:aV)(i:Nat):Prop where
 |own (e:y=x) (h:i=c.V.top) (k:sc.names.lookup y=Y .local):IU c x sc y i
 |out (k:sc.names.lookup y=Y .free) (k2:c.V.scope.names.lookup y=Y .cell) (h:eE c.V y=Y i):IU c x sc y i
theorem gQ(C:fD c A)(O:q8 c.V x sc){y:aV}{i:Nat}(h:eE (gk c.V x sc) y=Y i):IU c x sc y i:=by
 have hvm:(gk c.V x sc).vm.lookup y=if(y==x)=S then Y c.V.top else c.V.vm.lookup y:=by show List.lookup y ((x,c.V.top)::c.V.vm)=_;rw[List.lookup_cons];cases y==x<;>rfl
 unfold eE at h;replace h:=hvm▸(nv C O)▸h;induction q:sc.names.lookup y with
 |none=>replace h:=q▸h;exact nS h
 |some k=>
  replace h:=q▸h
  by_cases k1:k=.local
  ·subst k1
   obtain⟨p1,p2⟩:=O.loc _ (mem_of_lookup q) rfl;have h:(if(y==x)=S then Y c.V.top else c.V.vm.lookup y)=Y i:=h
   by_cases z:y=x
   ·replace h:=(if_pos (beq_iff_eq.mpr z))▸h
    exact .own z (aQ h).symm q
   ·replace h:=(p1.resolve_left z)▸(if_neg λe=>z (eq_of_beq e))▸h;exact nS h
  ·by_cases k2:k=.free
   ·subst k2
    obtain⟨p1,p2⟩:=O.free _ (mem_of_lookup q) rfl;have h:(if(y==x)=S then Y c.V.top else c.V.vm.lookup y)=Y i:=h;replace h:=(if_neg λe=>p2 (eq_of_beq e))▸h;refine .out q p1 ?_;unfold eE;exact p1▸h
   ·induction k with
    |«local»=>exact absurd U k1
    |free=>exact absurd U k2
    |cell=>exact(O.nocell _ (mem_of_lookup q) U).elim
    |_=>exact nS h
theorem fD.block(C:fD c A)(O:q8 c.V x sc){C':bf}{m:aV->Option ar}{loc:List J}:fD (c.block x sc C' m loc) A where
 scope:=(Gh C).symm
 kind:=O.kind
 glob:=C.glob
 bi:=C.bi
 inj:=λy z i h1 h2=>by cases gQ C O h1 with
  |own a b _=>cases gQ C O h2 with
   |own a' b' _=>exact a▸a'▸rfl
   |out _ _ b'=>exact(Nat.lt_irrefl _ (b▸C.top _ _ b')).elim
  |out _ _ b=>cases gQ C O h2 with
   |own a' b' _=>exact(Nat.lt_irrefl _ (b'▸C.top _ _ b)).elim
   |out _ _ b'=>exact C.inj _ _ _ b b'
 nd:=λy i h=>by cases gQ C O h with
  |own a b q=>exact O.nd _ (mem_of_lookup q)
  |out q _ b=>exact O.nd _ (mem_of_lookup q)
 frames:=C.frames
 envs:=λe he=>let⟨k,L,a,b⟩:=C.envs e he;⟨k,L,a,.inr (b.elim (λq=>⟨m,q▸.head _⟩) λ⟨m',hm⟩=>⟨m',.tail _ hm⟩)⟩
 hand:=C.hand
 top:=λy i h=>by show i<c.V.top+1;cases gQ C O h with
  |own a b _=>exact b▸Nat.lt_succ_self _
  |out _ _ b=>exact Nat.lt_succ_of_lt (C.top _ _ b)
 cells:=λy hy=>by
  have hy':(gk c.V x sc).scope.names.lookup y=Y .cell:=hy;replace hy':=(nv C O)▸hy';obtain⟨k,hk,e⟩:=aP.mp hy';have:k=.free:=by induction k<;>first|rfl|(exact(O.nocell _ (mem_of_lookup hk) U).elim)|cases e
  subst this;show((iM c.env sc.names []).lookup y).isSome=S;rw[mO [] (mem_of_lookup hk)];rfl
 lotop:=Nat.le_succ _
 lo:=λy i h=>by obtain⟨h1,h2⟩:=eL h;cases gQ C O h1 with
  |own a b _=>exact Nat.le_of_eq b.symm
  |out q q2 b=>have h2':(gk c.V x sc).scope.names.lookup y=Y .local:=h2;replace h2':=q▸(nv C O)▸h2';cases h2'
theorem dB.block(R:dB T W c σ ρ h)(C:fD c A)(O:q8 c.V x sc){m:aV->Option ar}(F:Fr W.h0 c.env.locals h m)(L:pG c ρ σ.loc m)(hn:h'.Ns h.objs.size (λ_=>cV))(k:h.StaysIn h')(hu:σ.loc[c.V.top]?=Y .unb):
  dB T W (c.block x sc h.objs.size m σ.loc) σ ρ h':=by
 have hcl:c.env.locals<h.objs.size:=F.ns.lt;refine⟨⟨_,⟨hn,λb o e=>k b o (F.keep b o e),Nat.le_trans F.above (Nat.le_of_lt hcl)⟩,λy i v e1 e2 e3=>?_⟩,R.len,λi o as e1 e2=>(R.obs i o as e1 e2).same (List.prefix_refl _) λa _ ob e=>k a ob e,λp hp=>?_,?_,λb hb=>?_,R.hand,λ_ _=>rfl⟩
 ·cases gQ C O e1 with
  |own a b _=>subst b;replace e2:=hu▸e2;obtain rfl:=sI e2;exact(e3 U).elim
  |out q q2 b=>cases L y i v b e2 e3 with
   |loc k _ _ _=>replace k:=q2▸k;cases k
   |cell _ ca u h1 h2 h3=>exact .cell (.inl (by show(gk c.V x sc).scope.names.lookup y=_;rw[nv C O,q];rfl)) ca u (by show(iM c.env sc.names []).lookup y=_;rw[mO [] (mem_of_lookup q),h1];rfl) (.tail _ h2) h3
 ·rcases List.mem_cons.mp hp with rfl|hp
  ·exact .ns (vR F.ns k)
  ·exact(R.held p hp).same λob e=>k _ ob e
 ·refine List.nodup_cons.mpr ⟨λhm=>?_,R.nd⟩
  rcases List.mem_cons.mp hm with q|q
  ·exact Nat.ne_of_gt hcl q
  ·exact Nat.lt_irrefl _ (R.fresh _ q).2
 ·rcases List.mem_cons.mp hb with rfl|hb
  ·obtain⟨o,_,_,ho,_⟩:=F.ns
   refine⟨?_,cz (k _ _ ho)⟩;induction q:W.h0.get? c.env.locals with
   |none=>rfl
   |some o=>exact absurd (cz q) (Nat.not_lt.mpr F.above)
  ·obtain⟨o,ho⟩:=R.live hb
   exact⟨(R.fresh b hb).1,cz (k b o ho)⟩
theorem dB.unblock{C':bf}{m:aV->Option ar}(R':dB T W (c.block x sc C' m σ.loc) σ' ρ' h')(R:dB T W c σ ρ h)(C:fD c A)(hp:ρ<+:ρ')(L:pG c ρ σ.loc m):dB T W c σ' ρ' h':=by obtain⟨m2,F2,L2⟩:=R'.fr;obtain⟨_,F,_⟩:=R.fr;have fz':∀i,i<c.V.top->σ'.loc[i]?=σ.loc[i]?:=R'.frz;cases R'.held (c.env.locals,Hd.ns m) (.head _)with
 |ns hns=>refine⟨⟨m,⟨hns,F2.keep,F.above⟩,λy i v e1 e2 e3=>?_⟩,R'.len,R'.obs,λp hp=>R'.held p (.tail _ hp),(List.nodup_cons.mp R'.nd).2,λb hb=>R'.fresh b (.tail _ hb),R'.hand,λi hi=>(fz' i (Nat.lt_of_lt_of_le hi C.lotop)).trans (R.frz i hi)⟩;rw[fz' i (C.top y i e1)]at e2;exact(L y i v e1 e2 e3).mono hp
theorem dB.setTop(R:dB T W c σ ρ h)(C:fD c A)(v:J):dB T W c {σ with loc:=σ.loc.set c.V.top v} ρ h:=by obtain⟨m,F,L⟩:=R.fr;refine⟨⟨m,F,λy i w e1 e2 e3=>?_⟩,R.len,R.obs,R.held,R.nd,R.fresh,R.hand,λi hi=>(List.getElem?_set_ne (Nat.ne_of_gt (Nat.lt_of_lt_of_le hi C.lotop))).trans (R.frz i hi)⟩;exact L y i w e1 ((List.getElem?_set_ne (Nat.ne_of_gt (C.top y i e1))).symm.trans e2) e3
theorem vF(C:fD c A)(O:q8 c.V x sc):cy (gk c.V x sc) x=Y c.V.top:=by unfold cy;rw[nv C O,O.hx];show List.lookup x ((x,c.V.top)::c.V.vm)=_;rw[List.lookup_cons,beq_self_eq_true]
inductive Af(K:Cx):List Expr->Option (M Bool)->Prop where
 |nil:Af K [] .none
 |one {e:Expr} {t:M Bool} (i:lN K e t):Af K [e] (Y t)
theorem RF{ifs:List Expr}{cond:Option (M Bool)}(i:Af K ifs cond):aX K ρ (PW K (forIn ifs S λe r=>if r=S then do let ok<-PySem.isTrue e K.c.env (rV e K.c.env);pure (eG ok)else pure (eG r))) (cond.getD (M.ret S)) Bv:=by induction i with
 |nil=>exact(iD S λ_=>rfl).pre λQ E s h=>by rw[List.forIn_nil];exact aL h
 |one i=>
  refine(i ρ).pre λQ E s h=>?_
  ·show bY _ _ _ _ _ _
   rw[List.forIn_cons,if_pos rfl];exact ay (ay (bu h (λb s h=>aL (by dsimp only;rw[List.forIn_nil];exact aL h)) λ_ _ x=>x))
end
section
open PySem PySem.W PySem.Calls PyProof.Rows
variable{T:aT}{W:Wd}{c:Fx}{A:ch}{K:Cx}{σ σ':St}{ρ ρ':cM}{s s₁:aF}{E:ar->aF->Prop}{X:Nat->St->Prop}{h h':cT}{pos:da}{aj:bf}{x:aV}{sc:cL}
structure Cv(K:Cx)(x:aV)(sc:cL)(elt iter:Expr)(ifs:List Expr)(me:M J)(mi:M It)(cond:Option (M Bool)):Prop where
 O:rC K.c.V x sc=S
 set:ko iter=I
 i:xo K iter mi
 e:∀c',fD c' K.A->c'.V=gk K.c.V x sc->b8 (K.to c' K.A) elt me
 f:∀c',fD c' K.A->c'.V=gk K.c.V x sc->Af (K.to c' K.A) ifs cond
inductive Ym(K:Cx)(s:aF)(ρ0:cM)(b:Fx)(aj:bf)(tn:It->M (Sum It J))(P:J->St->Prop)(n:Nat)(s':aF):Prop where
 |mk (σ':St) (ρ':cM) (h':cT) (tk:Nat) (q:It) (e:s'=eJ s h' tk) (ht:0<tk) (hp:ρ0<+:ρ') (hr:(K.to b K.A).R σ' ρ' h') (f:ng K.W b ρ' aj) (x:vP K.W ρ' h' q aj) (hw:kH P (λ_ _=>False) (kW tn n q σ')):Ym K s ρ0 b aj tn P n s'
theorem Kx{F:Cx}{l:Nat}{ak:bf}{t':It}{v:J}{u:ar}{P:Sum It J->St->Prop}{Q:ar->aF->Prop}(hr:F.R σ ρ s.heap)(hD:ρ[l]?=Y [ak])(hv:RV ρ v u)
  (hw:kH P (λ_ _=>False) ((gL l λxs=>gd (Nat.blt xs.length cj) ((tQ l (.list (xs++[v]))).bind λ_=>M.ret (.inl t'))) σ)) (H:∀σ' h',P (.inl t') σ'->F.R σ' ρ h'->Q .none (eJ s h' s.toks)):PW F (call (.builtin "list.append") [.ref ak,u]) Q E s:=by
 obtain⟨xs,e1,hw⟩:=N0 hw;induction q:Nat.blt xs.length cj with
 |false=>replace hw:=q▸hw;exact hw.elim
 |true=>replace hw:=q▸hw;obtain⟨vs,k,g1,l1,_⟩:=hr.list e1 hD;exact append_at g1 (λh' hs g=>H _ h' hw (hr.upd hD (.head _) hs (.list (vs:=vs++[u]) (n:=k+1) (by rw[g,List.push_toArray]) (l1.append (.cons hv .nil))))) (by exact List.size_toArray▸l1.length▸cP▸Nat.le_of_lt (Nat.le_of_ble_eq_true q))
theorem D3{b:Fx}{slot l n0:Nat}{ak:bf}{elt iter:Expr}{px:da}{ifs:List Expr}{me:M J}{cond:Option (M Bool)}{q0:It}{P:J->St->Prop}{R:Result->aF->Prop}(C:fD b K.A)(hh:K.A.handled=cV)(hx:cy b.V x=Y slot)
  (ie:∀p,b8 (K.to (b.hold p) K.A) elt me) (ic:∀p,Af (K.to (b.hold p) K.A) ifs cond) (hr:(K.to b K.A).R σ ρ h) (f:ng K.W b ρ aj) (xI:vP K.W ρ h q0 aj) (hD:ρ[l]?=Y [ak]) {tk:Nat} (ht:0<tk)
  (hw:kH P (λ_ _=>False) (kW (kO me slot (cond.getD (M.ret S)) l) n0 q0 σ))
  (fin:∀v σ' ρ' h' tk,P v σ'->ρ<+:ρ'->(K.to b K.A).R σ' ρ' h'->0<tk->R (.ok .next) (eJ s h' tk)):
  oW (cB K.W.prog K.W.w) K.A (.compLoop (.ListComp elt [⟨.Name x px,iter,ifs,0⟩] sc pos) 0 (.ref aj) (.ref ak) b.env) R (eJ s h tk):=by
 refine codeAny_compLoop_tests (Ym K s ρ b aj (kO me slot (cond.getD (M.ret S)) l) P) ?_ n0 ⟨σ,ρ,h,tk,q0,U,ht,List.prefix_refl _,hr,f,xI,hw⟩;rintro n _ ⟨σ1,ρ1,h1,tk1,q1,rfl,ht1,hp1,hr1,f1,x1,hw1⟩;induction n with
 |zero=>exact hw1.elim
 |succ n=>
  refine cq (n:=1) ht1 (wI (K:=K.to b K.A) (s:=eJ s h1 tk1) hh hr1 f1 x1 (cg (cg hw1)) ⟨λhN h2 hr2 _=>fin _ _ ρ1 h2 tk1 hN hp1 hr2 ht1,λv q2 u h2 tk2 hN hv hr2 x2 ht2=>?_⟩);obtain⟨o,_,_,ho,_⟩:=x2.obj;have back:∀{σ':St}{ρ':cM}{h':cT}{tk':Nat},ρ1<+:ρ'->(K.to (b.hold (aj,.obj o)) K.A).R σ' ρ' h'->0<tk'->kH P (λ_ _=>False) (kW (kO me slot (cond.getD (M.ret S)) l) n q2 σ')->∃m,m<n+1/\Ym K s ρ b aj (kO me slot (cond.getD (M.ret S)) l) P m (eJ s h' tk'):=λhp hr' ht' hw'=>by obtain⟨f5,ho5⟩:=hr'.heldFree;exact⟨n,Nat.lt_succ_self n,_,_,_,_,q2,U,ht',hp1.trans hp,hr'.unhold (λ_ q=>by cases q),f5,x2.keep hp (λo' e=>by rw[ho]at e;exact(sI e)▸ho5),hw'⟩
  refine gB (lT (K:=K.to (b.hold (aj,.obj o)) K.A) (C.hold _) hx (λ_=>hv) σ1 ρ1 (eJ s h2 tk2) (List.prefix_refl _) (hr2.hold f1 ho) ht2 _ _ (cC (cg hN) (λ_ σ3 hP3 ρ3 h3 tk3 _ hp3 hr3 _ ht3=>?_) λ_ _ x=>x.elim));refine RF (ic (aj,.obj o)) (ρ:=ρ3) σ3 ρ3 (eJ s h3 tk3) (List.prefix_refl _) hr3 ht3 _ _ (cC (cg hP3) (λt σ4 hP4 ρ4 h4 tk4 t' hp4 hr4 ht' ht4=>?_) λ_ _ x=>x.elim);subst ht';induction t with
  |false=>exact back (hp3.trans hp4) hr4 ht4 hP4
  |true=>refine(if_pos U)▸?_;refine ie (aj,.obj o) ρ4 σ4 ρ4 (eJ s h4 tk4) (List.prefix_refl _) hr4 ht4 _ _ (cC (cg (show M.wp (me.bind λv=>gL l λxs=>gd (Nat.blt xs.length cj) ((tQ l (.list (xs++[v]))).bind λ_=>M.ret (Sum.inl q2))) σ4 _ _ from hP4)) (λv5 σ5 hP5 ρ5 h5 tk5 u5 hp5 hr5 hv5 ht5=>?_) λ_ _ x=>x.elim);exact Kx (F:=K.to (b.hold (aj,.obj o)) K.A) (s:=eJ s h5 tk5) hr5 (b6 (((hp1.trans hp3).trans hp4).trans hp5) hD) hv5 hP5 λσ6 h6 hP6 hr6=>back ((hp3.trans hp4).trans hp5) hr6 ht5 hP6
theorem wK(F:Fc K){elt iter:Expr}{px:da}{ifs:List Expr}{me:M J}{mi:M It}{cond:Option (M Bool)}(ad:Cv K x sc elt iter ifs me mi cond)
  {use:Option (ar->o7 Unit)} {P:J->St->Prop} {Q:ar->aF->Prop} {w1:o7 ar} {pos2:da} (hr:K.R σ ρ s.heap) (ht:0<s.toks) (hw:kH P (lU K ρ s E) (kN me K.c.V.top mi cond σ))
  (hev:w1=comprehension (.ListComp elt [⟨.Name x px,iter,ifs,0⟩] sc pos) sc K.c.env pos2 (newList []) I (rV iter K.c.env) use)
  (fin:∀(v:J)(σ':St)(ρ':cM)(h':cT)(tk:Nat)(ak Cc:bf)(mC:aV->Option ar),P v σ'->ρ<+:ρ'->K.R σ' ρ' h'->RV ρ' v (.ref ak)->ng K.W K.c ρ' Cc->h'.Ns Cc mC->0<tk->compPost (cB K.W.prog K.W.w) K.A E use Q (.ref ak) Cc (.ok .next) (eJ s h' tk)):
  PW K w1 Q E s:=by
 have C:=F.C;have O:=EC ad.O;obtain⟨vy,hw⟩:=oA (cg hw);have hh:=C.hand (by exact hr.hand▸vy▸rfl);rw[hev];refine wpAny_comprehension_free (g:=⟨.Name x px,iter,ifs,0⟩) (gs:=[]) (cl:=iM K.c.env sc.names []) (use:=use) U (vV ad.set K.c.env) (Cg λp hp q=>C.cells _ (O.free p hp q).1) O.kind (λy hy q=>(O.loc y hy q).2) ?_;refine ad.i σ ρ s _ _ hr ht (cC (cg hw) (λq0 σ0 hP ρ0 h0 tk0 aj hp0 hr0 f0 x0 ht0=>?_) λ_ _ x=>x);have hP:kH P (lU K ρ s E) (((cb K.c.V.top .unb).bind λ_=>E2 ((kW (kO me K.c.V.top (cond.getD (M.ret S)) σ0.heap.length) fg q0).bind λ_=>M.ret (J.obj σ0.heap.length))) {σ0 with heap:=σ0.heap++[.list []]}):=hP;unfold newList;refine kZ (wpAny_newFunctionEnv O.nocell (by intro y hy;simp at hy) (λh₁ hns hsb=>?_) O.kind);dsimp only at hns hsb⊢;have hD:K.R {σ0 with heap:=σ0.heap++[.list []]} (ρ0++[[h0.objs.size]]) (h0.push {cls:=.type "list",dict:=cV,data:=.seq ([]:List ar).toArray}):=
  hr0.newPush _ (.list (vs:=[]) (n:=0) (bA _ U) .nil)
 have hDref:(ρ0++[[h0.objs.size]])[σ0.heap.length]?=Y [h0.objs.size]:=by rw[<-hr0.len];exact List.getElem?_concat_length
 have hSet:=hD.setTop C .unb;have hIlt:aj<h0.objs.size:=by obtain⟨o,_,_,ho,_⟩:=x0.obj;exact cz ho
 have hsz:=cT.size_push h0 {cls:=.type "list",dict:=cV,data:=.seq ([]:List ar).toArray};have kk:(h0.push {cls:=.type "list",dict:=cV,data:=.seq ([]:List ar).toArray}).StaysIn h₁:=λb o e=>hsb.extBut b o (Nat.ne_of_lt (cz e)) (cA _ e);have kI:m0 h0 h₁ aj:=λo e=>kk _ _ (cA _ e)
 generalize h0.push {cls:=.type "list",dict:=cV,data:=.seq ([]:List ar).toArray}=H1 at*
 induction q:Nat.blt K.c.V.top σ0.loc.length with
 |false=>
  have e:cb K.c.V.top .unb {σ0 with heap:=σ0.heap++[.list []]}=.stuck:=by unfold cb;rw[q];rfl
  have hP:=cg hP;rw[M.wp,e]at hP;exact hP.elim
 |true=>
  have e:cb K.c.V.top .unb {σ0 with heap:=σ0.heap++[.list []]}=.ok () {loc:=σ0.loc.set K.c.V.top .unb,heap:=σ0.heap++[.list []],hand:=σ0.hand}:=by unfold cb;rw[q];rfl
  have hP:=cg hP;rw[M.wp,e]at hP;have hP:=cg (uZ hP);obtain⟨m,F1,L1⟩:=hSet.fr;have hB:=hSet.block (h':=h₁) (x:=x) (sc:=sc) C O F1 L1 hns kk (List.getElem?_set_self (Nat.le_of_ble_eq_true q));have fI:ng K.W (K.c.block x sc H1.objs.size m (σ0.loc.set K.c.V.top .unb)) (ρ0++[[h0.objs.size]]) aj:=by
   refine⟨λhm=>?_,?_,f0.h0⟩
   ·rcases List.mem_cons.mp hm with q|q
    ·exact f0.loc q
    ·have q:aj∈addrs K.c (ρ0++[[h0.objs.size]]):=q
     have e:addrs K.c (ρ0++[[h0.objs.size]])=addrs K.c ρ0++[h0.objs.size]:=by simp[addrs]
     rw[e]at q;rcases List.mem_append.mp q with q|q
     ·exact f0.addrs q
     ·rw[List.mem_singleton.mp q]at hIlt;exact Nat.lt_irrefl _ hIlt
   ·show aj≠H1.objs.size
    rw[hsz];exact Nat.ne_of_lt (Nat.lt_succ_of_lt hIlt)
  have xI:vP K.W (ρ0++[[h0.objs.size]]) h₁ q0 aj:=x0.keep (List.prefix_append _ _) kI;have hCB:=C.block (C':=H1.objs.size) (m:=m) (loc:=σ0.loc.set K.c.V.top .unb) O;have hpp0:ρ<+:ρ0++[[h0.objs.size]]:=hp0.trans (List.prefix_append _ _);have loop:∀tk,0<tk->oW (cB K.W.prog K.W.w) K.A (.compLoop (.ListComp elt [⟨.Name x px,iter,ifs,0⟩] sc pos) 0 (.ref aj) (.ref h0.objs.size) (compEnvC sc (iM K.c.env sc.names []) H1.objs.size K.c.env))
    (compPost (cB K.W.prog K.W.w) K.A E use Q (.ref h0.objs.size) H1.objs.size) (eJ s h₁ tk):=λtk htk=>
   D3 (K:=K) (x:=x) (sc:=sc) (b:=K.c.block x sc H1.objs.size m (σ0.loc.set K.c.V.top .unb)) (slot:=K.c.V.top) hCB hh (vF C O) (λp=>ad.e _ (hCB.hold p) U) (λp=>ad.f _ (hCB.hold p) U) hB fI xI hDref htk hP λv σ' ρ' h' tk hN hp hr2 ht2=>by
    obtain⟨mC,FC,_⟩:=hr2.fr;have hun:=hr2.unblock hSet C hp L1;obtain⟨n1,n2⟩:=List.nodup_cons.mp hr2.nd;have fC:ng K.W K.c ρ' H1.objs.size:=⟨λq=>n1 (.tail _ q),λq=>n1 (q▸.head _),by induction q:K.W.h0.get? H1.objs.size with
     |none=>rfl
     |some o=>exact absurd (cz q) (Nat.not_lt.mpr FC.above)⟩
    exact fin _ _ ρ' h' tk h0.objs.size H1.objs.size mC hN (hpp0.trans hp) hun (.obj (b6 hp hDref)) fC FC.ns ht2
  exact codeAny_compStart_list (loop _ ht0) (ET (K:=K) (s:=eJ s h₁ _) xI (loop _ ht0))
theorem HA(F:Fc K){elt iter:Expr}{px:da}{ifs:List Expr}{me:M J}{mi:M It}{cond:Option (M Bool)}(ad:Cv K x sc elt iter ifs me mi cond):
  b8 K (.ListComp elt [⟨.Name x px,iter,ifs,0⟩] sc pos) (kN me K.c.V.top mi cond):=λ_ σ ρ s _ hr ht Q E hw=>
 wK (use:=cV) F ad hr ht hw (arm_eval_ListComp ..) λv σ' ρ' h' tk ak Cc mC hP hp hr' hv fC hn ht'=>⟨mC,hn,λh3 hs3=>hP ρ' h3 tk _ hp (hr'.ext fC hs3.extBut) hv ht'⟩
theorem BL{P:Unit->St->Prop}{X X':Nat->St->Prop}{i:Nat}{v:J}(h:kH P X (cb i v σ)):kH P X' (cb i v σ):=by induction q:Nat.blt i σ.loc.length with
 |true=>
  have e:cb i v σ=.ok () {σ with loc:=σ.loc.set i v}:=by unfold cb;rw[q];rfl
  rw[e]at h⊢;exact h
 |false=>
  have e:cb i v σ=.stuck:=by unfold cb;rw[q];rfl
  rw[e]at h;exact h.elim
theorem EP(F:Fc K){y:aV}{i:Nat}{py:da}{elt iter:Expr}{px spos:da}{ifs:List Expr}{me:M J}{mi:M It}{cond:Option (M Bool)}(ad:Cv K x sc elt iter ifs me mi cond)
  (hy:cy K.c.V y=Y i) (hsw:rX (.ListComp elt [⟨.Name x px,iter,ifs,0⟩] sc pos) (Y (.Name y py)) spos.line K.c.env=pure S):
  lW K (.Assign [.Name y py] (.ListComp elt [⟨.Name x px,iter,ifs,0⟩] sc pos) spos) (sAsg (bd i) (kN me K.c.V.top mi cond)):=λ_ σ ρ s _ hr ht Q E hw=>by
 show bY _ _ _ _ _ _;refine(exec_Assign_Name_used _ _ _ _ hsw)▸?_;refine ay (cX (ay ?_));show bY _ K.A (do let _<-comprehension (.ListComp elt [⟨.Name x px,iter,ifs,0⟩] sc pos) sc K.c.env _ (newList []) I (rV iter K.c.env) (Y (iP (.Name y py) K.c.env))) _ _ s;refine ay (bu (wK (use:=Y (iP (.Name y py) K.c.env)) (Q:=λ_ s'=>Q .next s') F ad hr ht (cg hw) U λv σ' ρ' h' tk ak Cc mC hP hp hr' hv fC hn ht'=>?_) (λ_ s' hq=>aL (aL hq)) λ_ _ z=>z);obtain⟨o,es,ep,ho,hn2⟩:=id hn;show bY _ K.A (iP (.Name y py) K.c.env (.ref ak)) _ _ _;refine gB (lT (K:=K.to (K.c.hold (Cc,.obj o)) K.A) (F.C.hold _) hy (λ_=>hv) σ' ρ' (eJ s h' tk) (List.prefix_refl _) (hr'.hold fC ho) ht' _ _ (BL (X:=λ_ _=>True) (cC (cg hP) (λ_ σ3 hP3 ρ3 h3 tk3 _ hp3 hr3 _ ht3=>?_) λ_ _ _=>trivial)))
 ·obtain⟨f3,ho3⟩:=hr3.heldFree
  have hr4:=hr3.unhold (λ_ q=>by cases q);exact⟨mC,⟨o,es,ep,ho3,hn2⟩,λh5 hs5=>hP3 ρ3 h5 tk3 .next (hp.trans hp3) (hr4.ext f3 hs5.extBut) .nxt ht3⟩
end
section
open PySem PySem.W PySem.Calls PyProof.Rows
variable{T:aT}{W:Wd}{c:Fx}{A:ch}{K:Cx}{σ σ':St}{ρ ρ':cM}{s s₁:aF}{E:ar->aF->Prop}{h h':cT}{x:Nat}{e:ar}
theorem Et{l:List (bf×Hd)}(n:(l.map (·.1)).Nodup){p q:bf×Hd}(hp:p∈l)(hq:q∈l)(e:p.1=q.1):p=q:=by induction l with
 |nil=>cases hp
 |cons a r ih=>
  obtain⟨n1,n2⟩:=List.nodup_cons.mp n;rcases List.mem_cons.mp hp with rfl|hp
  ·rcases List.mem_cons.mp hq with rfl|hq
   ·rfl
   ·exact(n1 (by dsimp only;exact e▸List.mem_map_of_mem hq)).elim
  ·rcases List.mem_cons.mp hq with rfl|hq
   ·exact(n1 (by dsimp only;exact e▸List.mem_map_of_mem (by assumption))).elim
   ·exact ih n2 hp hq
theorem pV(C:fD c A){b:bf}(hb:b∈c.envs.filterMap (·.frame)):b=c.env.locals\/∃m,(b,Hd.ns m)∈c.held:=by obtain⟨e,he,q⟩:=List.mem_filterMap.mp hb;obtain⟨_,L,h1,h2⟩:=C.envs e he;rw[h1]at q;exact(sI q)▸h2
theorem dB.slots(R:dB T W c σ ρ h)(C:fD c A)(hs:cT.SlotsOnly (c.envs.filterMap (·.frame)) h h'):dB T W c σ ρ h':=by
 obtain⟨m,F,L⟩:=R.fr;obtain⟨n1,n2⟩:=List.nodup_cons.mp R.nd;obtain⟨n3,_,n4⟩:=List.nodup_append.mp n2;have out:=hs.2.1;have h0n:∀b,b∈c.envs.filterMap (·.frame)->W.h0.get? b=cV:=λb hb=>by
  rcases pV C hb with rfl|⟨m',hm⟩
  ·induction q:W.h0.get? c.env.locals with
   |none=>rfl
   |some o=>exact absurd (cz q) (Nat.not_lt.mpr F.above)
  ·exact(R.fresh _ (kh hm)).1
 have nst:∀a m',h.Ns a m'->h'.Ns a m':=λa m' x=>by obtain⟨o,es,ep,ho,r⟩:=x;obtain⟨sl,hsl⟩:=hs.2.2 a o ho;exact⟨_,es,ep,hsl,r⟩
 refine⟨⟨m,⟨nst _ _ F.ns,λb o e=>(out b λhm=>by rw[h0n b hm]at e;exact nS e).trans (F.keep b o e),F.above⟩,L⟩,R.len,λi o as e1 e2=>(R.obs i o as e1 e2).same (List.prefix_refl _) λa ha ob q=>(out a λhm=>?_).trans q,λp hp=>?_,R.nd,
  R.freshAt λb hb=>let⟨o,ho⟩:=R.live hb;let⟨sl,hsl⟩:=hs.2.2 b o ho;⟨_,hsl⟩,R.hand,R.frz⟩
 ·rcases pV C hm with rfl|⟨m',hm'⟩
  ·exact n1 (fV e2 ha)
  ·exact n4 a (List.mem_map_of_mem (f:=(·.1)) hm') a (List.mem_flatten.mpr ⟨as,List.mem_of_getElem? e2,ha⟩) rfl
 ·obtain⟨pa,pd⟩:=p
  cases R.held _ hp with
  |ns x=>exact .ns (nst _ _ x)
  |cell o g d=>obtain⟨sl,hsl⟩:=hs.2.2 _ o g;exact .cell _ hsl d
  |obj g=>
   refine .obj ((out pa λhm=>?_).trans g);rcases pV C hm with e|⟨m',hm'⟩
   ·exact n1 (e▸kh hp)
   ·cases Et n3 hp hm' rfl
theorem xk(R:dB T W c σ ρ h)(C:fD c A):h.FunFrames W.h0 c.envs:=by
 have key:∀l:List pv,(∀e∈l,e∈c.envs)->h.FunFrames W.h0 l:=by intro l;induction l with
  |nil=>intro _;trivial
  |cons e r ih=>
   intro hl;obtain⟨k,L,h1,h2⟩:=C.envs e (hl e (.head _));have ns:∃m,h.Ns L m/\W.h0.get? L=cV:=by
    rcases h2 with rfl|⟨m',hm⟩
    ·obtain⟨m,F,_⟩:=R.fr
     refine⟨m,F.ns,?_⟩;induction q:W.h0.get? c.env.locals with
     |none=>rfl
     |some o=>exact absurd (cz q) (Nat.not_lt.mpr F.above)
    ·cases R.held _ hm with
     |ns x=>exact⟨m',x,(R.fresh _ (kh hm)).1⟩
   obtain⟨m,⟨o,es,ep,ho,hd,_⟩,hn⟩:=ns;exact⟨by rw[k];decide,⟨L,o,h1,hn,ho,λvs q=>by replace q:=hd▸q;cases q⟩,ih λx hx=>hl x (.tail _ hx)⟩
 exact key c.envs λ_ he=>he
theorem zR{i:Nat}{o:AO}(e:σ.heap[i]?=Y o):{σ with heap:=σ.heap.set i o}=σ:=by obtain⟨hl,rfl⟩:=List.getElem?_eq_some_iff.mp e;rw[List.set_getElem_self]
section
variable{P P':ar->Prop}{a:bf}{u:ar}
theorem xU.mono(x:xU h a P)(f:∀u,P u->P' u):xU h a P':=let⟨o,vs,g,d,u,k,p⟩:=x;⟨o,vs,g,d,u,k,f _ p⟩
theorem kU.mono{P P':bf->Prop}(y:kU K σ ρ x e h P)(f:∀a,P a->P' a):kU K σ ρ x e h P':=let⟨r,a,q,C,fd,h1,h2,h3,p⟩:=y;⟨r,a,q,C,fd,h1,h2,h3,f _ p⟩
theorem kU.full(y:lX K σ ρ x e h):AI K σ ρ x e h:=y.mono λ_ f=>f.mono λ_=>.inr
theorem Eb(R:dB T W c σ ρ h){t:bf}{ot:iS}{ts:Array ar}(g:h.get? t=Y ot)(d:ot.data=.fields ts):t≠c.env.locals:=λq=>by obtain⟨m,F,_⟩:=R.fr;obtain⟨o,es,ep,ho,hd,_⟩:=F.ns;replace ho:=g▸q▸ho;obtain rfl:=sI ho;replace hd:=d▸hd;cases hd
end
noncomputable abbrev lk(i:Nat)(v:ar):iS->iS:=iS.mapFields (·.setIfInBounds i v)
theorem dB.tb(R:dB T W c σ ρ h){t:bf}{ot:iS}{ts:Array ar}(g:h.get? t=Y ot)(d:ot.data=.fields ts)(n:t∉addrs c ρ)(f:W.h0.get? t=cV)(f':iS->iS):dB T W c σ ρ (h.update t f'):=
 R.ext ⟨n,Eb R g d,f⟩ (dw ..).extBut
theorem mY.setField{C:Nat}{b:Bool}{fd:Option Nat}{a:bf}{r:List bf}(X:mY ρ h C b fd a r)(v:ar):mY ρ (h.update a (lk 1 v)) C I fd a r/\xU (h.update a (lk 1 v)) a (·=v):=by
 obtain⟨o,vs,nb,g,k,x,d,sl,z,e⟩:=X;have hnew:=dA (h:=h) (lk 1 v) g (iY (dD d _));have h1:(lk 1 v o).dict=o.dict/\(lk 1 v o).slots=o.slots:=by obtain⟨oc,od,odt,osl⟩:=o;cases d;exact⟨U,U⟩
 exact⟨⟨_,vs.setIfInBounds 1 v,(λq=>by exact nT q),hnew,(qQ ..).trans k,h1.1▸x,dD d _,h1.2.trans sl,by rw[lH];exact z,e⟩,
  _,_,hnew,dD d _,v,fS (Nat.lt_of_lt_of_le (by decide) z),U⟩
theorem zX(C:fD K.c K.A)(O:yi K.c){a:bf}{r:List bf}{Cl:Nat}{fs:Option Nat}{head:ar}{hadNext:Bool}{Q:Unit->aF->Prop}(hr:K.R σ ρ s.heap)(e1:ρ[x]?=Y (a::r))(e2:σ.heap[x]?=Y (.exn Cl I fs))
  (h:∀h',lX K σ ρ x (.ref a) h'->Q () (eJ s h' s.toks)):
  PW K (do let f<-frameOf K.c.env;let pl<-entryPlaceOf K.c.env.locals hadNext;let b<-o9 head f .none (pY K.c.env.locals) .none pl;setField (.ref a) 1 b) Q E s:=by
 obtain⟨outer,ho⟩:=O.envs;refine ay (wpAny_frameOf_fun (base:=K.W.h0) (outer:=outer) (by exact C.frames▸ho▸rfl) (by exact ho▸xk hr C) O.frame λh₁ hs₁=>?_);rw[<-ho]at hs₁;have hr1:=hr.slots C hs₁;refine ay (wpAny_entryPlaceOf λpl hpl=>?_);unfold o9 newFields;refine ay (kZ ?_ (hpl.sizeOk5 _ _ _ _ _))
 generalize hTo:({cls:=.type "traceback",dict:=cV,data:=.fields ([head,.ref K.c.env.locals,.none,pY K.c.env.locals,.none]++(if pl.isEmpty then List.replicate 6 ar.none else pl)).toArray}:iS)=to
 have f2:=hr1.free;have hto:(h₁.push to).get? h₁.objs.size=Y to:=bA _ (by rw[<-hTo];rfl);have X:=(hr1.push to).exn e2 e1;have hta:h₁.objs.size≠a:=λq=>f2.addrs (q▸fV e1 (.head _));obtain⟨X3,ae⟩:=X.setField (.ref h₁.objs.size);have hr3:=(hr1.push to).upd e1 (.head _) (dw (h₁.push to) a (lk 1 (.ref h₁.objs.size))) (show rE K.T K.W ρ _ (.exn Cl I fs) (a::r)from X3);rw[zR e2]at hr3;obtain⟨o,vs,nb,g,k,xd,d,sl,z,e⟩:=X;exact kC g d (Nat.lt_of_lt_of_le (by decide) z) (h _ ⟨hr3,a,r,Cl,fs,U,e1,e2,ae.mono λu q=>⟨_,to,_,q,(jH _ _ _ _ hta).trans hto,by rw[<-hTo],f2.addrs,f2.h0,_,U,.inr U⟩⟩)
theorem xm(C:fD K.c K.A)(O:yi K.c){Q:Unit->aF->Prop}(hx:AI K σ ρ x e s.heap)(k:∀h',lX K σ ρ x e h'->Q () (eJ s h' s.toks)):PW K (noteFrame e K.c.env) Q E s:=by
 obtain⟨hr,a,r,Cl,fs,rfl,e1,e2,o,vs,h1,h2,u,h3,h4⟩:=hx;show bY _ _ _ _ _ _;unfold noteFrame;rw[O.frame];dsimp only;refine ay (jt h1 h2 h3 ?_);rcases h4 with rfl|⟨t,ot,ts,rfl,k2,k3,k4,k5,v,k6,k7⟩
 ·rw[if_neg (by decide)]
  exact zX C O hr e1 e2 k
 ·rw[if_pos (by rfl)]
  refine ay (jt k2 k3 k6 ?_);rcases k7 with rfl|rfl
  ·rw[if_neg (by simp[pY])]
   exact ay (kC k2 k3 (kD.mp k6).1 (zX (s:=eJ s _ s.toks) C O (hr.tb k2 k3 k4 k5 _) e1 e2 k))
  ·rw[if_pos (beq_self_eq_true _)]
   exact aL (k s.heap ⟨hr,a,r,Cl,fs,U,e1,e2,o,vs,h1,h2,_,h3,t,ot,ts,U,k2,k3,k4,k5,_,k6,.inr U⟩)
theorem rd{fr:Option bf}{P:ar->Prop}{Q:Unit->aF->Prop}(hx:lX K σ ρ x e s.heap)(hP:P (fr.elim .none λf=>pY f))(k:∀h',kU K σ ρ x e h' (λa=>xU h' a (Jh K.W K.c ρ h' P))->Q () (eJ s h' s.toks)):
  PW K (oX e fr) Q E s:=by
 obtain⟨hr,a,r,Cl,fs,rfl,e1,e2,o,vs,h1,h2,u,h3,⟨t,ot,ts,rfl,k2,k3,k4,k5,v,k6,k7⟩⟩:=hx;show bY _ _ _ _ _ _;unfold oX;refine ay (jt h1 h2 h3 ?_);rw[if_pos (by rfl)];have hlt:=(kD.mp k6).1;have hta:a≠t:=λq=>k4 (q▸fV e1 (.head _));exact kC k2 k3 hlt (k _ ⟨hr.tb k2 k3 k4 k5 _,a,r,Cl,fs,U,e1,e2,o,vs,(jH _ _ _ _ hta).trans h1,h2,_,h3,t,_,_,U,dA _ k2 (iY (dD k3 _)),dD k3 _,k4,k5,_,fS hlt,hP⟩)
theorem LE:CJ T W:=λc A σ ρ s x e Q E C O ht hx h=>ay (xm (K:=⟨T,W,c,A⟩) C O hx λh1 hx1=>rd (K:=⟨T,W,c,A⟩) (fr:=cV) (P:=λu=>u=.none) (s:=eJ s h1 s.toks) hx1 U λh2 hx2=>h h2 s.toks hx2 ht)
theorem LQ:C0 T W:=λc A σ ρ s x e E C O ht hx h=>xm (K:=⟨T,W,c,A⟩) C O hx λh1 hx1=>h h1 s.toks hx1 ht
theorem RZ:GY T W:=λc A σ ρ s x e E C O ht hx h=>by unfold cameBackBy;obtain⟨hr,a,r,Cl,fs,rfl,e1,e2,o,vs,h1,h2,u,h3,⟨t,ot,ts,rfl,k⟩⟩:=id hx;refine ay (jt h1 h2 h3 ?_);rw[if_neg (by simp),O.frame];exact rd (K:=⟨T,W,c,A⟩) (P:=λu=>u=.none\/u=pY c.env.locals) hx (.inr U) λh' hx'=>h h' s.toks (kU.full hx') ht
end
section
open PySem PySem.W PySem.Calls PyProof.Rows
variable{T:aT}{W:Wd}{c:Fx}{A:ch}{K:Cx}{σ σ':St}{ρ ρ':cM}{s s₁:aF}{E:ar->aF->Prop}{X:Nat->St->Prop}{h h':cT}{x:Nat}{e:ar}{pos:da}
structure YD(W:Wd)(C:Nat):Prop where
 base:pA W.K (.ref C) (.type "BaseException")=Y S
 ty:typeIn W.K (.ref C)=Y (.type "type")
 self:pA W.K (.ref C) (.ref C)=Y S
 cls:(clsIn W.K C).isSome=S
def Gx(T:aT)(W:Wd):Prop:=∀C,nk T C=S->YD W C
structure Fd(K:Cx):Prop extends Fc K where
 x:Gx K.T K.W
inductive sZ(K:Cx)(E:ar->aF->Prop)(v:ar)(s:aF):Prop where
 |mk (hh:K.A.handled=cV) (a C:bf) (o:iS) (vs:Array ar) (ev:v=.ref a) (x:nk K.T C=S) (X:K.W.K.In s.heap) (g:s.heap.get? a=Y o) (k:o.cls=.ref C) (d:o.data=.fields vs) (n:vs[1]?=Y .none) (h:E (.ref a) s):sZ K E v s
theorem Ji(G:Gx K.T K.W){x:o7 ar}{Q:qP->aF->Prop}(hx:PW K x (λv s₁=>sZ K E v s₁) E s):PW K (raiseStmt K.c.env (Y x) cV) Q E s:=by
 show bY _ _ _ _ _ _;unfold raiseStmt;refine ay (bu hx (λv s₁ h₁=>?_) λ_ _ x=>x);obtain⟨hh,a,C,o,vs,rfl,hC,XK,g1,g2,g4,g0,hE⟩:=h₁;obtain⟨q1,q2,_,_⟩:=G C hC;have ht:jq (cB K.W.prog K.W.w) s₁.heap (typeOf (.ref a)) (.ref C):=by refine(qR (part:=_) g1).andThen ?_;exact g2▸.now
 have hty:jq (cB K.W.prog K.W.w) s₁.heap (isType (.ref a)) I:=by unfold isType;refine(qR (part:=_) g1).andThen ?_;exact g4▸.now
 refine ay (aL (ay (bS ?_)));unfold excFromValue;refine ay ((show jq (cB K.W.prog K.W.w) s₁.heap (isExcClass (.ref a)) I from hty.andThen .now).here ?_);refine(if_neg em)▸?_;refine ay ((show jq (cB K.W.prog K.W.w) s₁.heap (kE (.ref a) (.type "BaseException")) S from ht.andThen (hJ XK q1)).here ?_);refine(if_pos U)▸?_;refine aL (ay (hty.here ?_));refine(if_neg em)▸?_;unfold raisedInstance;refine ay (ay (ht.here (ay ((looks_typeIn XK q2).here ?_))));rw[if_pos (by decide)];refine aL ?_;unfold oX;refine ay (ay (jt g1 g4 g0 ?_));rw[if_neg (by decide)];refine aL ?_;unfold raiseNew;refine ay (wpAny_handled ?_);refine hh▸?_
 first
  |exact wpAny_throw hE
  |exact ay (aL (wpAny_throw hE))
theorem JA(F:Fc K){a:J}{va:ar}(ha:RV ρ a va):aX K ρ (λ(Q:qP->aF->Prop) E s=>sZ K E va s)
  (iA.bind λ_=>na a λi=>gX i λC b fd=>gd (b&&nk K.T C) λs=>.exc i {s with heap:=s.heap.set i (.exn C I fd)}) Fv:=λσ ρ' s hp hr ht Q E hw=>by
 obtain⟨vy,hw⟩:=oA (cg hw);have hh:=F.C.hand (by exact hr.hand▸vy▸rfl);refine aX.oObj (K:=K) (R:=Fv) (wv:=λv(Q:qP->aF->Prop) E s=>sZ K E v s) (ha.mono hp) (λi c r e σ' ρ' s' hp' hr' ht'=>bB.gX λC b fd e1=>bB.gd λq Q E hw=>?_) σ ρ' s (List.prefix_refl _) hr ht Q E hw;obtain⟨rfl,hX⟩:=bN.mp q;have ea:=b6 hp' e;obtain⟨o,vs,nb,g,k,x,d,sl,z,rfl⟩:=hr'.exn e1 ea;have hr2:=hr'.updAt (h':=s'.heap) (o:=.exn C I fd) ea (.head _) (λm F=>F) (λ_ _ _ _ e=>e) (show rE K.T K.W ρ' s'.heap (.exn C I fd) [c]from(⟨o,vs,(λq=>by exact nT q),g,k,x,d,sl,z,U⟩:mY ρ' s'.heap C I fd c []));exact⟨hh,c,C,o,vs,U,hX,F.g.X.keeps hr'.stays,g,k,d,nb U,hw ρ' s'.heap s'.toks (.ref c) (List.prefix_refl _) ⟨hr2,c,[],C,fd,U,ea,List.getElem?_set_self (List.getElem?_eq_some_iff.mp e1).1,o,vs,g,d,_,nb U,.inl U⟩ ht'⟩
theorem Bz(F:Fd K){e:Expr}{me:M J}(ie:b8 K e me):lW K (.Raise (Y e) .none pos) (w3 K.T me):=λρ=>((ie ρ).bind λρ1 va a p1 ha=>JA F.toFc ha).pre λQ E s h=>by show bY _ _ _ _ _ _;simp only[arm_exec_Raise];exact ay (cX (Ji F.x (ay (bu h (λv s h=>ay (cX (aL h))) λ_ _ x=>x))))
theorem Qu{b hd:M Fl}{C slot:Nat}{P:Fl->St->Prop}(hw:kH P X (yh b C slot hd σ)):kH P (λx s'=>kH P X (Ch C slot hd x s')) (b σ):=by unfold yh at hw;induction e:b σ with
 |ok f s'=>rw[e]at hw;exact hw
 |exc x s'=>rw[e]at hw;exact hw
 |stuck=>rw[e]at hw;exact hw
noncomputable def Fx.handed(c:Fx)(b:Bool):Fx:={c with hand:=b}
theorem fD.handed(C:fD c A){v:ar}:fD (c.handed S) (A.mark (Y v)):=
 {scope:=C.scope,kind:=C.kind,glob:=C.glob,bi:=C.bi,inj:=C.inj,nd:=C.nd,frames:=C.frames,envs:=C.envs,hand:=(λq=>by exact nF q),top:=C.top,cells:=C.cells,lo:=C.lo,lotop:=C.lotop}
theorem LP.re{c c':Fx}{loc:List J}(x:LP W c loc ρ h)(hV:c'.V=c.V)(he:c'.env=c.env)(hh:∀p∈c.held,p∈c'.held):LP W c' loc ρ h:=by obtain⟨m,F,L⟩:=x;refine⟨m,by exact he▸F,λy i v a b d=>?_⟩;replace a:=hV▸a;cases L y i v a b d with
 |loc k u e r=>exact .loc (by exact hV▸k) u e r
 |cell k ca u e hd r=>exact .cell (by exact hV▸k) ca u (by exact he▸e) (hh _ hd) r
theorem dB.handed(R:dB T W c σ ρ h)(b:Bool):dB T W (c.handed b) {σ with hand:=b} ρ h:=⟨R.fr.re U U λ_ q=>q,R.len,R.obs,R.held,R.nd,R.fresh,U,R.frz⟩
theorem dB.unhanded{b:Bool}(R:dB T W (c.handed b) σ ρ h){b':Bool}(hb:b'=c.hand):dB T W c {σ with hand:=b'} ρ h:=⟨LP.re (c:=c.handed b) R.fr U U λ_ q=>q,R.len,R.obs,R.held,R.nd,R.fresh,hb,R.frz⟩
theorem JJ{α:Type}{m:M α}{b:Bool}{P:α->St->Prop}(hw:kH P X (yE b m σ)):kH (λa s'=>P a {s' with hand:=σ.hand}) (λx s'=>X x {s' with hand:=σ.hand}) (m {σ with hand:=b}):=by unfold yE at hw;induction e:m {σ with hand:=b}with
 |ok f s'=>replace hw:=e▸hw;exact hw
 |exc x s'=>replace hw:=e▸hw;exact hw
 |stuck=>replace hw:=e▸hw;exact hw
theorem vW{i:Nat}{v:J}(q:Nat.blt i σ.loc.length=S):cb i v σ=.ok () {σ with loc:=σ.loc.set i v}:=by unfold cb;rw[q];rfl
theorem wF{i:Nat}{v:J}{P:Unit->St->Prop}(hw:kH P X (cb i v σ)):Nat.blt i σ.loc.length=S/\P () {σ with loc:=σ.loc.set i v}:=by induction q:Nat.blt i σ.loc.length with
 |true=>rw[vW q]at hw;exact⟨U,hw⟩
 |false=>
  have e:cb i v σ=.stuck:=by unfold cb;refine q▸?_;rfl
  rw[e]at hw;exact hw.elim
theorem dB.del(R:dB T W c σ ρ h){x:aV}{i:Nat}(hx:cy c.V x=Y i)(hu:σ.loc[i]?=Y .unb){m:aV->Option ar}{u:Option ar}(hm:h.Ns c.env.locals m)(hs:jQ c.env.locals h h')(hn:h'.Ns c.env.locals (λy=>if y=x then u else m y)):dB T W c σ ρ h':=by
 obtain⟨m',F,L⟩:=R.fr;have:=oP F.ns hm;obtain rfl:=Eq.symm this;have q:∀b∈addrs c ρ,m0 h h' b:=λb hb o g=>(hs.2 b (R.neL hb)).trans g;refine⟨⟨_,F.set hn hs,λy j z e1 e2 e3=>?_⟩,R.len,λj ob bs e1 e2=>(R.obs j ob bs e1 e2).same (List.prefix_refl _) λa ha=>q a (fV e2 ha),
  λp hp=>(R.held p hp).same (q _ (kh hp)),R.nd,λb hb=>⟨(R.fresh b hb).1,hs.1▸(R.fresh b hb).2⟩,R.hand,R.frz⟩
 have hne:y≠x:=λq=>by obtain rfl:=Eq.symm q;rw[(eL hx).1]at e1;obtain rfl:=sI e1;rw[hu]at e2;obtain rfl:=sI e2;exact e3 rfl
 cases L y j z e1 e2 e3 with
 |loc k u e r=>exact .loc k u ((if_neg hne).trans e) r
 |cell k ca u e hd r=>exact .cell k ca u e hd r
theorem HS{Cx a:bf}{Q:Bool->aF->Prop}(G:Gx K.T K.W)(XK:K.W.K.In s.heap)(hC:nk K.T Cx=S){o:iS}(ho:s.heap.get? a=Y o)(hc:o.cls=.ref Cx)(h:Q S s):
  PW K (excMatches (.ref a) (.ref Cx)) Q E s:=by
 obtain⟨q1,q2,q3,q4⟩:=G Cx hC;obtain⟨cd,hcd⟩:=bL.mp q4;have ht:jq (cB K.W.prog K.W.w) s.heap (typeOf (.ref a)) (.ref Cx):=by refine(qR (part:=_) ho).andThen ?_;exact hc▸.now
 have hty:jq (cB K.W.prog K.W.w) s.heap (isType (.ref Cx)) S:=by
  unfold clsIn at hcd
  split at hcd
  ·rename_i oc od dd sl hl
   unfold isType;exact(qR (part:=_) (XK _ _ hl)).andThen .now
  ·exact nS hcd
 have he:jq (cB K.W.prog K.W.w) s.heap (isExcClass (.ref Cx)) S:=hty.andThen (hJ XK q1);show bY _ _ _ _ _ _;unfold excMatches;refine ay ((show jq (cB K.W.prog K.W.w) s.heap (kE (.ref Cx) (.type "tuple")) I from(looks_typeIn XK q2).andThen (hJ XK (by rfl))).here ?_);rw[if_neg em];refine ay (aL (ay ?_));rw[List.forIn_cons];refine ay (ay (he.here ?_));rw[if_neg (by decide)];refine aL ?_;dsimp only;rw[List.forIn_nil];refine aL (ay (ht.here (ay ?_)));rw[List.forIn_cons];refine ay (ay ((hJ XK q3).here ?_));exact(if_pos U)▸aL (aL (aL h))
theorem GT{R:Result->aF->Prop}{env:pv}{n:aV}{body:List eD}{e:ar}{p:da}
  (h:bY (cB K.W.prog K.W.w) A (oX e cV) (λ_ s₁=>bY (cB K.W.prog K.W.w) A (storeName env n e) (λ_ s₂=>bY (cB K.W.prog K.W.w) A (execs body env) (λf s₃=>R (.ok f) s₃) (λ_ _=>False) s₂) (λ_ _=>False) s₁) (λ_ _=>False) s):
  oW (cB K.W.prog K.W.w) A (.handlers e [.ExceptHandler cV (Y n) body p] env) R s:=by
 refine codeAny_of_tree ?_;show bY _ A (do return Fin.done (<-(handleWith e env [.ExceptHandler cV (Y n) body p]).onRaise (λx=>do noteFrame x env;theTreesLotGoes x))) _ _ s;refine ay (wpAny_noted ?_);unfold handleWith;refine ay (cX (ay (bu h (λ_ s₁ h₁=>?_) λ_ _ z=>z.elim)));refine ay (oa (bu h₁ (λ_ s₂ h₂=>?_) λ_ _ z=>z.elim));exact ay (wpAny_attempt (bu h₂ (λf s₃ h₃=>aL (aL h₃)) λ_ _ z=>z.elim))
theorem su{Q:Unit->aF->Prop}(hx:lX K σ ρ x e s.heap)(k:∀h',lX K σ ρ x e h'->Q () (eJ s h' s.toks)):PW K (oX e cV) Q E s:=
 rd (P:=λu=>u=.none\/u=pY K.c.env.locals) hx (.inl U) k
theorem lX.handed(y:lX K σ ρ x e h)(b:Bool)(A:ch):lX (K.to (K.c.handed b) A) {σ with hand:=b} ρ x e h:=let⟨r,a,q,C,fd,h1,h2,h3,p⟩:=y;⟨r.handed b,a,q,C,fd,h1,h2,h3,p.mono λ_⟨t,ot,ts,e,g,d,n,f,u,k,p⟩=>⟨t,ot,ts,e,g,d,n,f,u,k,p⟩⟩
theorem WN{β:Type}{i:Nat}{k:Nat->Bool->Option Nat->M β}{P:β->St->Prop}(hw:kH P X (gX i k σ)):∃C b fd,σ.heap[i]?=Y (.exn C b fd)/\kH P X (k C b fd σ):=by obtain⟨o,e,hw⟩:=Du hw;induction o with
 |exn C b fd=>exact⟨C,b,fd,e,hw⟩
 |_=>exact hw.elim
theorem Bt(F:Fd K){vz:List eD}{cn n:aV}{cp hp:da}{Cx i:Nat}{mh:M Fl}(hC:nk K.T Cx=S)(hg:iE K.c.V cn=S)(hv:K.T.glob.lookup cn=Y (.sref Cx))(hx:cy K.c.V n=Y i)
  (ih:∀v,vc (K.to (K.c.handed S) (K.A.mark (Y v))) vz mh) {Q:qP->aF->Prop} (hx3:lX K σ ρ x e s.heap) (ht:0<s.toks) (hP:kH (vK K ρ s Fv Q) (lU K ρ s E) (Ch Cx i mh x σ)):
  PW K (handleBy e K.c.env [.ExceptHandler (Y (.Name cn cp)) (Y n) vz hp]) Q E s:=by
 obtain⟨Cy,b,fd,e1,hP⟩:=WN hP;obtain⟨r3,a,rr,Cl,fs,rfl,ea,e1',hfly⟩:=id hx3;induction q:Nat.beq Cx Cy with
 |false=>replace hP:=q▸hP;exact hP.elim
 |true=>
  replace hP:=q▸hP;have:=Nat.eq_of_beq_eq_true q;subst this;obtain⟨ql,hP⟩:=wF (cg hP);have hP:=JJ (uZ (cg hP));obtain⟨o,vs,_,g1,g2,_⟩:=r3.exn e1 ea;refine wpAny_handleBy_cons (codeAny_handlers_test ?_) (by intro z;cases z);refine jX (K:=K.to (K.c.handed S) (K.A.mark (Y (.ref a)))) (σ:={σ with hand:=S}) F.g F.C.handed hg hv (r3.handed S) λu hu=>?_;have hu':=hu ρ;cases hu';refine HS (K:=K.to K.c (K.A.mark (Y (.ref a)))) F.x (F.g.X.keeps r3.stays) hC g1 g2 ?_;dsimp only;refine(if_pos U)▸?_;refine GT (K:=K) (su (K:=K.to (K.c.handed S) (K.A.mark (Y (.ref a)))) (lX.handed hx3 S _) λh4 hx4=>?_);obtain⟨r4,_⟩:=hx4;refine lT (K:=K.to (K.c.handed S) (K.A.mark (Y (.ref a)))) (F.C.handed) hx (v:=.obj x) (λ_=>.obj ea) {σ with hand:=S} ρ (eJ s h4 s.toks) (List.prefix_refl _) r4 ht _ _ ?_;refine(vW (σ:={σ with hand:=S}) ql)▸?_;intro ρ5 h5 tk5 _ hp5 r5 _ ht5;refine ih _ ρ5 _ ρ5 (eJ s h5 tk5) (List.prefix_refl _) r5 ht5 _ _ (cC hP (λf σ6 hP6 ρ6 h6 tk6 fl hp6 r6 hf ht6=>?_) λ_ _ z=>z.elim);obtain⟨ql6,hP6⟩:=wF (cg hP6);have r7:=r6.unhanded (c:=K.c) r3.hand;obtain⟨hs,hl⟩:=eL hx;obtain⟨m7,F7,L7⟩:=r7.fr;have hk:K.c.env.kindOf n=Y .local:=by unfold f6;exact F.C.scope▸hl
  refine ay (oa (ni (s:=eJ s h6 tk6) hk F7.ns (λh8 hn8 hs8=>?_) (uw F.C)));have r8:=r7.store (v:=.unb) (u:=.none) hs hl (λy hy=>F.C.inj y n i hy hs) (F.C.lo n i hx) (λz=>(z U).elim) hs8 λm' hm'=>by exact(oP hm' F7.ns)▸hn8
  unfold unbindBehindTheSuite;refine wpAny_onRaise (wpAny_unbindName_local (s:=eJ s h8 (tk6+1)) hk hn8 (v:=.none) (if_pos U) (uw F.C) λh9 u9 hn9 hs9=>?_);exact hP6 ρ6 h9 (tk6+1) fl (hp5.trans hp6) (r8.del hx (List.getElem?_set_self (Nat.le_of_ble_eq_true ql6)) hn8 hs9 hn9) hf (Nat.succ_pos _)
theorem Hy(F:Fd K)(O:yi K.c){body vz:List eD}{cn n:aV}{cp hp:da}{Cx i:Nat}{mb mh:M Fl}(hC:nk K.T Cx=S)(hg:iE K.c.V cn=S)(hv:K.T.glob.lookup cn=Y (.sref Cx))(hx:cy K.c.V n=Y i)
  (ib:vc K body mb) (ih:∀v,vc (K.to (K.c.handed S) (K.A.mark (Y v))) vz mh):
  lW K (.Try body [.ExceptHandler (Y (.Name cn cp)) (Y n) vz hp] [] [] pos) (yh mb Cx i mh):=λρ0 σ ρ s _ hr ht Q E hw=>by
 refine wpAny_Try_except (ib ρ σ ρ s (List.prefix_refl _) hr ht _ _ (cC (Qu hw) (λf σ1 hP ρ1 h1 tk1 fl hp1 hr1 hf ht1=>?_) λx σ1 hP ρ1 h1 tk1 e hp1 hx1 ht1=>?_))
 ·induction hf with
  |nxt=>exact jB (hP ρ1 h1 tk1 .next hp1 hr1 .nxt ht1)
  |brk=>exact hP ρ1 h1 tk1 .brk hp1 hr1 .brk ht1
  |ret hv=>exact hP ρ1 h1 tk1 (.ret _) hp1 hr1 (.ret hv) ht1
 ·exact xm (s:=eJ s h1 tk1) F.C O hx1 λh2 hx2=>su (s:=eJ s h2 tk1) hx2 λh3 hx3=>Bt (s:=eJ s h3 tk1) F hC hg hv hx ih hx3 ht1 (cC hP (λ_ _ z=>z.from hp1) λ_ _ z=>z.from hp1)
end
section
open PySem PySem.W PySem.Calls PyProof.Rows
variable{T:aT}{W:Wd}{c:Fx}{A:ch}{K:Cx}{σ σ':St}{ρ ρ':cM}{s s₁:aF}{E:ar->aF->Prop}{X:Nat->St->Prop}{h h':cT}{pos:da}{Γ:cI}{n:Nat}
structure BR(A:ch)(d u:Nat):Prop where
 depth:A.depth+d<=1000
 units:A.units+u<cLine
abbrev ul(A:ch)(n:Nat):Prop:=BR A (5*n+3) (50*n+120)
abbrev cw(A:ch)(n:Nat):Prop:=BR A (5*n+5) (50*n+150)
theorem BR.le{d u d' u':Nat}(R:BR A d u)(h1:d'<=d)(h2:u'<=u):BR A d' u':=⟨Nat.le_trans (Nat.add_le_add_left h1 _) R.depth,Nat.lt_of_le_of_lt (Nat.add_le_add_left h2 _) R.units⟩
theorem BR.call(R:cw A n):ul A n:=R.le (Nat.add_le_add_left (by decide) _) (Nat.add_le_add_left (by decide) _)
def m5(T:aT)(W:Wd)(n:Nat)(Γ:cI):Prop:=∀(c:Fx)(A:ch)(f:Nat),fD c A->ul A n->z7 ⟨T,W,c,A⟩ (.ref f) (fL Γ f)
structure XX(W:Wd)(C f:Nat):Prop where
 makes:makesIn W.K C=S
 init:eF W.K (.ref C) "__init__"=Y (Y (.ref f))
 fn:isFn W.K (.ref f)=S
structure X9(W:Wd)(C f:Nat)(nm:aV):Prop where
 get:n6 W.K C nm=S
 find:eF W.K (.ref C) nm=Y (Y (.ref f))
 fn:isFn W.K (.ref f)=S
 keep:lI W.K (.ref f)=S
inductive US(W:Wd)(C f:Nat)(nm:aV):Prop where
 |mk (s:rY W.K (.ref C) "__getattribute__"=Y (Y (.builtin "type.__getattribute__"))) (k:lI W.K (.ref f)=S) (mc:ar) (t:typeIn W.K (.ref C)=Y mc) (r:readsIn W.K C mc=S) (g:findCls W.K (.ref C) mc nm=Y (.val (.ref f))):US W C f nm
structure Gm(T:aT)(W:Wd):Prop where
 make:∀C f,fq T C 0=Y f->nk T C=I->XX W C f
 keepC:∀C,(d7 C T.meth).isSome=S->lI W.K (.ref C)=S
 keepF:∀a,T.fns.any (Nat.beq a)=S->lI W.K (.ref a)=S
 meth:∀C k f nm,fq T C k=Y f->T.names[k]?=Y nm->nk T C=I->X9 W C f nm
 cls:∀C k f nm,d7 C T.sdict=.none->fq T C k=Y f->T.names[k]?=Y nm->US W C f nm
theorem tj{v:ar}(h:lI W.K v=S):ww W v:=λhp X=>keeps_K h hp X
noncomputable abbrev xJ(A:ch)(us:List ar)(C:bf):ch:=A.under (.builtin "type.__call__" ⟨.ref C::us,[]⟩)
theorem fD.under{us:List ar}{Cx:bf}(C:fD c A):fD c (xJ A us Cx):=
 {scope:=C.scope,kind:=C.kind,glob:=C.glob,bi:=C.bi,inj:=C.inj,nd:=C.nd,envs:=C.envs,hand:=C.hand,top:=C.top,cells:=C.cells,lo:=C.lo,lotop:=C.lotop,frames:=(show(xJ A us Cx).frames=A.frames from U).trans C.frames}
theorem uY{us:List ar}{Cx:bf}(R:cw A n):ul (xJ A us Cx) n:=
 ⟨Nat.le_trans (Nat.le_of_eq (Nat.add_assoc A.depth 1 _)) (R.le (d':=1+(5*n+3)) (u':=0) (by rw[Nat.add_comm 1];exact Nat.add_le_add_left (show 3+1<=5 by decide) _) (Nat.zero_le _)).depth,
  Nat.lt_of_le_of_lt (Nat.le_of_eq (Nat.add_assoc A.units 1 _)) (R.le (d':=0) (u':=1+(50*n+120)) (Nat.zero_le _) (by rw[Nat.add_comm 1];exact Nat.add_le_add_left (show 120+1<=150 by decide) _)).units⟩
section
variable{α β:Type}{wv:List ar->WT α}{R:cM->β->α->Prop}{as:List J}{us:List ar}
theorem aX.as0{m:M β}(ha:bP (RV ρ) as us)(af:aX K ρ (wv []) m R):aX K ρ (wv us) (Mine.Internal.q7 as m) R:=by induction ha with
 |nil=>exact af
 |cons _ _=>exact aX.no
theorem aX.as1{k:J->M β}(ha:bP (RV ρ) as us)(af:∀a u,RV ρ a u->aX K ρ (wv [u]) (k a) R):aX K ρ (wv us) (Mine.Internal.qE as k) R:=by induction ha with
 |nil=>exact aX.no
 |cons p q=>exact aX.as0 (wv:=λr=>wv (_::r)) q (af _ _ p)
theorem aX.as2{k:J->J->M β}(ha:bP (RV ρ) as us)(af:∀a u b v,RV ρ a u->RV ρ b v->aX K ρ (wv [u,v]) (k a b) R):aX K ρ (wv us) (Mine.Internal.Lk as k) R:=by induction ha with
 |nil=>exact aX.no
 |cons p q=>exact aX.as1 (wv:=λr=>wv (_::r)) q λb v hb=>af _ _ b v p hb
end
def pN(K:Cx)(f:ar)(m:List J->M J):Prop:=∀(ρ:cM)(as:List J)(us:List ar),bP (RV ρ) as us->aX K ρ (PW K (call f us [])) (m as) Rv
theorem pN.rule{f:ar}{m:List J->M J}(k:pN K f m):wx K f (λas ks=>q7 ks (m as)):=λρ as ks us kws ha hk=>by induction hk with
 |nil=>exact k ρ as us ha
 |cons _ _=>exact aX.no
theorem Gr{β:Type}{a:J}{m:M β}{P:β->St->Prop}(hw:kH P X (pq a m σ)):a=.none/\kH P X (m σ):=by induction a with
 |none=>exact⟨U,hw⟩
 |_=>exact hw.elim
theorem kU.around{x:Nat}{e:ar}{P:bf->Prop}{ag:ch}(y:kU (K.to K.c ag) σ ρ x e h P)(A:ch):kU (K.to K.c A) σ ρ x e h P:=let⟨r,a,q,C,fd,h1,h2,h3,p⟩:=y;⟨r,a,q,C,fd,h1,h2,h3,p⟩
theorem CA{ag:ch}{f:Nat}{as:List J}{us:List ar}{x:Nat}{e:bf}{Q:ar->aF->Prop}{ρ1:cM}{h1:cT}{tk:Nat}(GO:z7 (K.to K.c ag) (.ref f) (fL Γ f))(hp:ρ<+:ρ1)(hr1:K.R σ ρ1 h1)(ht:0<tk)(hx:RV ρ1 (.obj x) (.ref e))(ha:bP (RV ρ1) as us)
  (hw:kH (vK K ρ s Rv Q) (lU K ρ s E) (((fL Γ f (.obj x::as) []).bind λr=>pq r (M.ret (.obj x))) σ)):CW (K.to K.c ag) (.ref f) (.ref e::us) [] (λr s'=>r=.none/\Q (.ref e) s') E (eJ s h1 tk):=by
 refine GO ρ1 (.obj x::as) [] (.ref e::us) [] (.cons hx ha) .nil σ ρ1 (eJ s h1 tk) (List.prefix_refl _) hr1 ht _ _ (cC (cg hw) (λr σ2 hP ρ2 h2 tk2 u hp2 hr2 hu ht2=>?_) λ_ _ z=>?_)
 ·obtain⟨rfl,hP⟩:=Gr hP
  cases hu;exact⟨U,hP ρ2 h2 tk2 _ (hp.trans hp2) hr2 (hx.mono hp2) ht2⟩
 ·exact λρ' h' tk e hp' y ht'=>z ρ' h' tk e (hp.trans hp') (y.around _) ht'
theorem xA{L:bf}{b:bf}{o:iS}{news:List (bf×iS)}(R:dB T W c σ ρ h)(N:News W.h0 c.env.locals h' news)(hm:(b,o)∈news)(d:bf)(hd:d∈addrs c ρ->d≠b)(above:∀p∈newsBut c ρ h d,p.1<b):ng W c ρ b:=by
 refine⟨λhb=>?_,(N _ hm).2.1,(N _ hm).2.2⟩;obtain⟨ob,hob⟩:=R.live hb
 by_cases q:b=d
 ·exact hd (q▸hb) q.symm
 ·exact Nat.lt_irrefl _ (above (b,ob) (kQ hb q hob))
theorem Jm(G:Gd K.T K.W)(Gm:Gm K.T K.W)(GO:m5 K.T K.W n Γ)(C:fD K.c K.A)(R:cw K.A n){Cx:Nat}(hx:nk K.T Cx=I):pN K (.ref Cx) (wL K.T Γ Cx):=λρ as us ha=>aX.gO λf hm=>aX.gd λ_ σ ρ' s hp hr ht Q E hw=>by
 have hmade:made K.T Cx=.inst Cx []:=by unfold made;refine hx▸?_;rfl
 rw[hmade]at hw;have hw:=cg hw;obtain⟨m1,m2,m3⟩:=Gm.make Cx f hm hx;obtain⟨m,F,_⟩:=hr.fr;have nn:s.heap.objs.size∉addrs K.c ρ':=λq=>Nat.lt_irrefl _ (hr.fresh _ q).2;refine call_cls F G.X (hr.news s.heap.objs.size) m1 m2 m3 λx dx h' F' N' hab hlt=>?_;have f1:ng K.W K.c ρ' dx:=xA (L:=0) hr N' (.tail _ (.head _)) _ (λq=>absurd q nn) hab;have f2:ng K.W K.c ρ' x:=xA (L:=0) hr N' (.head _) _ (λq=>absurd q nn) λp hp=>Nat.lt_trans (hab p hp) hlt;have hr1:=hr.new (h':=h') (o:=.inst Cx []) (as:=[x,dx]) (λm' Fm=>by exact(oP Fm.ns F.ns)▸F') (λb hb o ho=>(N' (b,o) (.tail _ (.tail _ (kQ hb (Nat.ne_of_lt (cz ho)) ho)))).1)
  (List.nodup_cons.mpr ⟨λq=>Nat.ne_of_gt hlt (List.mem_singleton.mp q),List.nodup_cons.mpr ⟨List.not_mem_nil,List.nodup_nil⟩⟩)
  (λb hb=>(List.mem_cons.mp hb).elim (λq=>q▸f2) λq=>(List.mem_singleton.mp q)▸f1) (.inst (ds:=[]) (n:=0) (N' _ (.head _)).1 (N' _ (.tail _ (.head _))).1 .nil)
 refine codeAny_mono (CA (s:=s) (GO K.c _ f C.under (uY (us:=us) (Cx:=Cx) R)) (List.prefix_append _ _) hr1 ht (RV.new hr) (ha.mono λ_ _ z=>(z.mono hp).mono (List.prefix_append _ _)) hw) λr s' z=>?_;rcases r with e|(v|_|_|_)<;>first|exact z|exact z.elim
end
section
open PySem PySem.W PySem.Calls PyProof.Rows
variable{T:aT}{W:Wd}{c:Fx}{A:ch}{K:Cx}{σ σ':St}{ρ ρ':cM}{s s₁:aF}{E:ar->aF->Prop}{X:Nat->St->Prop}{h h':cT}{pos:da}{n:Nat}
inductive pU:List ar->Prop where
 |base:pU [.type "ValueError",.type "Exception",.type "BaseException",.type "object"]
 |own {a:bf} {l:List ar}:pU l->pU (.ref a::l)
theorem pU.passes{l:List ar}(x:pU l)(self:ar):PySem.refuseLoop self "__setattr__" l=pure ():=by induction x with
 |base=>exact PySem.F.store_ValueError.passes self
 |own _ ih=>rw[PySem.refuseLoop_ref];exact ih
inductive Mu(W:Wd)(C:Nat):Prop where
 |mk (cd:ClassData) (e:clsIn W.K C=Y cd) (d:cd.hasDict=S) (m:pU cd.mro):Mu W C
structure S1(W:Wd)(C:Nat):Prop where
 cls:Mu W C
 ga:eF W.K (.ref C) "__getattribute__"=Y (Y (.builtin "BaseException.__getattribute__"))
 gb:eF W.K (.ref C) "__getattr__"=Y cV
 sa:eF W.K (.ref C) "__setattr__"=Y (Y (.builtin "object.__setattr__"))
 be:pA W.K (.ref C) (.type "BaseException")=Y S
 ob:pA W.K (.ref C) (.type "object")=Y S
 ve:pA W.K (.ref C) (.type "ValueError")=Y S
structure Gy(T:aT)(W:Wd):Prop where
 cls:∀C,nk T C=S->S1 W C
 nm:∀C n x,Mv T C n=S->T.names[n]?=Y x->eF W.K (.ref C) x=Y cV
theorem Bh{C:Nat}(h:Mv T C n=S):nk T C=S:=(bN.mp h).2
theorem Nu{a d:bf}{o:iS}{C:Nat}{vs:Array ar}{od:iS}(g1:h.get? a=Y o)(g2:o.cls=.ref C)(g3:o.dict=Y d)(g4:o.data=.fields vs)(g5:h.get? d=Y od):InstAt h a o C (Y od):=
 ⟨g1,g2,by unfold notCls;rw[g4],by exact g3▸g5⟩
theorem RR{a:bf}{o:iS}{C:Nat}{vs:Array ar}(g1:h.get? a=Y o)(g2:o.cls=.ref C)(g3:o.dict=cV)(g4:o.data=.fields vs):InstAt h a o C cV:=
 ⟨g1,g2,by unfold notCls;rw[g4],by rw[g3];trivial⟩
theorem GZ:builtinKind "BaseException.__getattribute__"=Y .slot:=by decide+kernel
theorem D1:splitId "BaseException.__getattribute__"=Y ("BaseException","__getattribute__"):=by decide+kernel
theorem Sm:(pB "BaseException.__getattribute__"==pB "object.__getattribute__")=I:=by decide+kernel
theorem D2{M:vp}{C:Nat}{a:bf}{nm:aV}{tk0:qV}{v:ar}{Q:Fin->aF->Prop}(L0:jq M s.heap (typeOf (.ref a)) (.ref C))(L4:jq M s.heap (wQ (.ref a) (.ref C) nm) (.value v))(hq:Q (.done (.ret v)) s):
  bY M A (tF.«object.__getattribute__» ⟨[.ref a,.str nm tk0],[]⟩) Q E s:=by
 unfold tF.«object.__getattribute__»;exact ay (aL (a:=(ar.ref a,[ar.str nm tk0])) (ay (aL (a:=nm) (ay (L0.here (ay (L4.here (aL hq))))))))
theorem Xz{C:Nat}(ae:S1 W C)(XK:W.K.In s.heap){a:bf}{o od:iS}{nm:aV}{v:ar}{ex:Bool}{Q:ar->aF->Prop}(aj:InstAt s.heap a o C (Y od))
  (hf:findObj W.K C (Y od) nm=Y (.value v)) (hh:handedIn v=S) (hq:∀tk,Q v {s with toks:=tk}):bY (cB W.prog W.w) A (tE (.ref a) nm ex) Q E s:=by
 obtain⟨hh',g,d,t,os⟩:=s;have L0:=aj.type (M:=cB W.prog W.w);have L3:jq (cB W.prog W.w) hh' (kE (.ref a) (.type "BaseException")) S:=L0.andThen (hJ XK ae.be);have L4:=looks_find (M:=cB W.prog W.w) XK aj hf;have hx0:(ex&&onTheHeap (pB "BaseException.__getattribute__"))=I:=by induction ex<;>rfl
 unfold tE getAttrBy;refine ay (wpAny_mkText (bS (ay (L0.at (ay ((jS (M:=cB W.prog W.w) XK ae.ga).at ?_))))));dsimp only;rw[Sm,ku,if_neg em];unfold getAttrByItsOwn hookBefore;rw[if_pos (by rfl)];refine ay ((jS (M:=cB W.prog W.w) XK ae.gb).at (ay (wpAny_attempt (bS ?_))));unfold callGetattribute;refine hx0▸(if_neg em)▸?_;unfold boundAndCalled;refine(kF.ga.bind (.ref a))▸?_;refine ay (aL (mT ?_));refine ju kF.ga.plain PySem.F.entry_bexc_ga (@check_slot (cB W.prog W.w) _ _ _ "BaseException.__getattribute__" "BaseException" "__getattribute__" (.ref a) [.str nm t] [] _ GZ D1 L3 (PySem.F.args_bexc_ga (.ref a) (.str nm t)) ?_);refine D2 (s:=⟨hh',g,d,t+1,os⟩) L0 L4 ?_;show bY _ _ (handedOut v) _ _ _;refine(handedOut_of hh)▸?_;exact aL (hq _)
theorem Mu.dict{C:Nat}(y:Mu W C):mm W.K C=S:=by obtain⟨cd,hc1,hc2,hc3⟩:=y;unfold mm;rw[hc1];exact hc2
inductive Y3(T:aT)(ρ:cM)(h:cT)(fs:List (Nat×J))(j:Nat)(od:Option bf):Prop where
 |mk (d:bf) (ds:List b7) (k:Nat) (e:od=Y d) (ej:ρ[j]?=Y [d]) (g:h.get? d=Y (fJ ds k)) (l:bP (pT T ρ) fs ds):Y3 T ρ h fs j od
theorem dB.xfd(hr:dB T W c σ ρ h){j:Nat}{fs:List (Nat×J)}{od:Option bf}(x:XD ρ (Y j) od)(e:σ.heap[j]?=Y (.fd fs)):Y3 T ρ h fs j od:=by cases x with
 |«at» ej=>obtain⟨ds,k,g,l,_⟩:=hr.fd e ej;exact⟨_,ds,k,U,ej,g,l⟩
theorem Pn(Gk:Gc T W)(Gy:Gy T W)(G:Gd T W):Fz T W:=λc A σ ρ s Q E i C n a r j fs nm v ex b hr e1 ea hn hx e4 e5 e3 hq=>by obtain⟨o,vs,_,g1,g2,g3,g4,_⟩:=hr.exn e1 ea;obtain⟨d,ds,k,hd,_,g7,l1⟩:=hr.xfd g3 e4;have ae:=Gy.cls C (Bh hx);cases qb Gk l1 hn with
 |yes v' u l2 l3 l4=>rw[l2]at e5;obtain rfl:=sI e5;exact Xz ae (G.X.keeps hr.stays) (Nu g1 g2 hd g4 g7) (findObj_own ae.cls.dict (Gy.nm C n nm hx hn) U l3) (IR l4 e3) λtk=>hq tk u l4
 |no l2 _=>rw[l2]at e5;exact nS e5
theorem Iq{d:bf}{ds:List b7}{n:Nat}{nm:aV}{v:ar}{M:vp}{Q:Unit->aF->Prop}(ak:s.heap.get? d=Y (fJ ds n))(hl:(getL nm ds).isSome=S)
  (hq:Q () {s with heap:=s.heap.update d (iS.putName nm (d9 M.w.params nm) (.str nm s.toks) v),toks:=s.toks+1}):bY M A (nsSet d nm v) Q E s:=by
 unfold nsSet;refine ay (ay (wpAny_askSetting (aL (ay (wpAny_mkText (ay (og ak ?_)))))));have c:(!(ds.toArray).any (·.key.isStr nm)&&(ds.toArray).any (·.refKey))=I:=by refine rZ▸rZ▸?_;show(!ds.any (·.key.isStr nm)&&ds.any (·.refKey))=I;unfold getL at hl;induction he:ds.find? (·.key.isStr nm)with
  |some en=>refine(List.any_eq_true.mpr ⟨en,List.mem_of_find?_eq_some he,List.find?_some he⟩)▸?_;rfl
  |none=>replace hl:=he▸hl;induction z:ds.any (·.refKey)with
   |true=>replace hl:=z▸hl;exact nT hl
   |false=>rw[ku]
 dsimp only;rw[aRefKeyMayBeTheName_at,c];exact wpAny_updatePart ak hq
theorem Ut{C:Nat}(ae:S1 W C)(XK:W.K.In s.heap){a:bf}{o:iS}{od:Option iS}{nm:aV}{v:ar}{tk:qV}{R:Result->aF->Prop}(aj:InstAt s.heap a o C od)(hn:eF W.K (.ref C) nm=Y cV)
  (hq:bY (cB W.prog W.w) A.in1 (dX (.ref a)) (λr s'=>∃d,r=Y d/\bY (cB W.prog W.w) A.in1 (eY d (.str nm tk) nm v) (λfin s'=>match fin with|.done f=>R (.ok f) s'|.again c'=>c'.quiet=S/\oW (cB W.prog W.w) A c' R s') (λe s'=>R (.error e) s') s') (λe s'=>R (.error e) s') s):
  oW (cB W.prog W.w) A (.call (.builtin "object.__setattr__") ⟨[.ref a,.str nm tk,v],[]⟩) R s:=by
 have SF:=PySem.F.store_object;obtain⟨cd,hc1,hc2,hc3⟩:=ae.cls;have L0:=aj.type (M:=cB W.prog W.w);have L1:jq (cB W.prog W.w) s.heap (kE (.ref a) (.type "object")) S:=L0.andThen (hJ XK ae.ob);have L2:jq (cB W.prog W.w) s.heap (mroOf (.ref C)) cd.mro:=(sK XK hc1).andThen .now;refine ju SF.slot.plain SF.entry (@check_slot (cB W.prog W.w) _ _ s "object.__setattr__" "object" "__setattr__" (.ref a) [.str nm tk,v] [] _ SF.kind SF.split L1 (SF.args (.ref a) (.str nm tk) v) ?_);rw[osa_eq,refuse_eq];refine ay (ay (L0.here (ay (L2.here ?_))));rw[hc3.passes];refine aL (ay (L0.here (ay ((jS (M:=cB W.prog W.w) XK hn).here (ay (aL (ay (aL (ay (bu hq (λr s' z=>?_) λ_ _ z=>z))))))))));obtain⟨d,rfl,z⟩:=z;exact z
theorem Go{d:bf}{ds:List b7}{n:Nat}{nm:aV}{v:ar}{tk:qV}{M:vp}{Q:Fin->aF->Prop}(ak:s.heap.get? d=Y (fJ ds n))(hl:(getL nm ds).isSome=S)(hn:ds.length<=900)
  (hq:∀h',jQ d s.heap h'->h'.get? d=Y (fJ (putL nm (d9 M.w.params nm) (.str nm s.toks) v ds) (PySem.W.putN nm ds n))->Q (.done (.ret .none)) {s with heap:=h',toks:=s.toks+1}):
  bY M A (eY d (.str nm tk) nm v) Q E s:=by
 unfold eY r9;have D':=dA (h:=s.heap) (iS.putName nm (d9 M.w.params nm) (.str nm s.toks) v) ak (by rw[putName_dict];rfl);rw[putName_dict]at D';refine ay (aL (ay (Iq ak hl (ay (wpAny_lookBehind D' (pastItsLine_dict ?_) (aL (hq _ (dw ..) D')))))));have:=uj nm (d9 M.w.params nm) (.str nm s.toks) v ds;rw[List.size_toArray,cP];exact bE [_,_] [(.v 0,.l 900),(.v 1,.a (.v 0) (.l 1))] 0 [1,1] (.v 1) (.a (.l 16777216) (.l 1)) U hn this
theorem Vc{l:List AO}{i:Nat}{o:AO}{p q:AO}(hi:i<l.length):((l++[p]).set i o).set l.length q=(l++[q]).set i o:=by rw[List.set_append_left _ _ hi,List.set_append_left _ _ hi];rw[show l.length=(l.set i o).length from(List.length_set ..).symm,List.set_append_right _ _ (Nat.le_refl _),Nat.sub_self];rfl
theorem Q0(Gk:Gc T W)(Gy:Gy T W)(G:Gd T W):JV T W:=λc A σ ρ s Q E i C n a r fd H' nm v u b hr e1 ea hn hx e2 hv hq=>by obtain⟨o,vs,nb,g1,g2,g3,g4,sl,z,rfl⟩:=hr.exn e1 ea;have XK:=G.X.keeps hr.stays;have ae:=Gy.cls C (Bh hx);have hno:=Gy.nm C n nm hx hn;obtain⟨cd,hc1,hc2,hc3⟩:=ae.cls;induction e2 with
 |new=>
  generalize hd:o.dict=dd at g3
  cases g3;have aj:=RR g1 g2 hd g4;refine set_plain XK aj ae.sa (Ut (s:={s with toks:=s.toks+1}) ae XK aj hno ?_);unfold dX instanceDict;refine ay (og g1 ?_);refine g2▸?_;refine ay (jq.here (s:={s with toks:=s.toks+1}) (sK XK hc1) ?_);rw[hc2,hd];dsimp only;rw[if_neg (by decide),if_neg (by simp[typeHasDict]),g4];have hx₁:(s.heap.push {cls:=.type "dict",data:=.dict #[]}).get? a=Y o:=cA _ g1;have had:a≠s.heap.objs.size:=Nat.ne_of_lt (cz g1);refine ay (wpAny_alloc' (ay (wpAny_update' hx₁ (aL ⟨s.heap.objs.size,U,?_⟩))));have hr1:=hr.newPush (o:=.fd []) ({cls:=.type "dict",data:=.dict #[]}:iS) (.fd (ds:=[]) (n:=0) (bA _ U) .nil);have hp1:ρ<+:ρ++[[s.heap.objs.size]]:=List.prefix_append _ _;have hj:(ρ++[[s.heap.objs.size]])[σ.heap.length]?=Y [s.heap.objs.size]:=by exact hr.len▸List.getElem?_concat_length
  have hD1:((s.heap.push {cls:=.type "dict",data:=.dict #[]}).update a λo=>{cls:=o.cls,dict:=Y s.heap.objs.size,data:=o.data,slots:=o.slots}).get? a=Y {cls:=o.cls,dict:=Y s.heap.objs.size,data:=o.data,slots:=o.slots}:=
   dA _ hx₁ (by obtain⟨oc,od,odt,osl⟩:=o;cases g4;rfl)
  have hr2:=hr1.upd (o:=.exn C b (Y σ.heap.length)) (b6 hp1 ea) (.head _) (dw ..) (show rE T W _ _ _ [a]from(⟨_,vs,nb,hD1,g2,.at hj,g4,sl,z,U⟩:mY _ _ C b (Y σ.heap.length) a []));have g7:((s.heap.push {cls:=.type "dict",data:=.dict #[]}).update a λo=>{cls:=o.cls,dict:=Y s.heap.objs.size,data:=o.data,slots:=o.slots}).get? s.heap.objs.size=Y (fJ [] 0):=
   (jH _ _ _ _ (jP had)).trans (bA _ U)
  refine Go (s:={s with heap:=_,toks:=s.toks+1}) (ds:=[]) (n:=0) g7 U (Nat.zero_le _) λh' hs hD=>?_;have hr3:=hr2.upd (o:=.fd [(n,v)]) hj (.head _) hs (.fd hD (.cons ⟨nm,_,hn,U,hv.mono hp1⟩ .nil));have hmk:=Vc (o:=.exn C b (Y σ.heap.length)) (p:=.fd []) (q:=.fd [(n,v)]) (List.getElem?_eq_some_iff.mp e1).1;dsimp only at hr3;rw[hmk]at hr3;exact hq _ h' _ hp1 hr3
 |old j fs e6 hle=>
  obtain⟨d,ds,k,hd,ej,g7,l1⟩:=hr.xfd g3 e6;have hgl:(getL nm ds).isSome=S:=by cases qb Gk l1 hn with
   |yes _ _ _ l2 _=>refine l2▸?_;rfl
   |no _ l2=>refine l2▸?_;rfl
  have aj:=Nu g1 g2 hd g4 g7;refine set_plain XK aj ae.sa (Ut (s:={s with toks:=s.toks+1}) ae XK aj hno ?_);unfold dX instanceDict;refine ay (og g1 ?_);refine g2▸?_;refine ay (jq.here (s:={s with toks:=s.toks+1}) (sK XK hc1) ?_);rw[hc2,hd];exact aL ⟨d,U,Go (s:={s with toks:=s.toks+1}) g7 hgl (Nat.le_trans (Nat.le_of_eq l1.length.symm) (Nat.le_trans hle (by decide))) λh' hs hD=>hq ρ h' _ (List.prefix_refl _) (hr.upd ej (.head _) hs (.fd hD (Ab Gk l1 hn hv _ _)))⟩
end
section
open PySem PySem.W PySem.Calls PyProof.Rows
structure XC where
 (nm q:aV) (N:bf) (bs bm:List ar) (hdct:Bool) (sn:List aV) (sub:List ar) (ab:Bool) (col:Option Bool) (dd:Option bf) (k0 k1 k2 k3 k5:Option ar)
noncomputable abbrev XC.obj(x:XC)(C:bf):iS:=excClassObj x.nm x.q C x.N x.bs x.bm x.hdct x.sn x.sub x.ab x.col x.dd x.k0 x.k1 x.k2 x.k3 x.k5 "ValueError.__new__"
structure zE(K:kJ)(C f:Nat)(x:XC):Prop where
 obj:K.lookup C=Y (x.obj C)
 hB:x.bm.contains (.type "ValueError")=S
 hA:x.bm.contains (.type "AttributeError")=I
 hN:x.bm.contains (.type "NameError")=I
 init:eF K (.ref C) "__init__"=Y (Y (.ref f))
 fn:isFn K (.ref f)=S
theorem zE.has{C:Nat}{x:XC}{v:ar}{b:Bool}(h:x.bm.contains v=b)(hv:(v==.ref C)=I):(ar.ref C::x.bm).contains v=b:=by simp only[List.contains_cons,h,hv,gC]
section
variable{prog:oU}{w:sL}{A:ch}{E:ar->aF->Prop}{R:Result->aF->Prop}{h:cT}{g:Array GenState}{d:PySem.Drawn}{t:Nat}{os:OsState}{K:kJ}{C f:Nat}{x:XC}{bX:List ar}
theorem XB(aj:zE K C f x)(hC:h.get? C=Y (x.obj C))
  (hq:R (.ok (.ret (.ref (h.objs.size+1)))) ⟨(h.push {cls:=.type "tuple",data:=.seq bX.toArray}).push
   {cls:=.ref C,data:=.fields #[.ref h.objs.size,.none,.none,.none,.bool I,.none]},g,d,t,os⟩) (hrest:bX.length<=gA):
  oW (cB prog w) A (.builtin "ValueError.__new__" ⟨.ref C::bX,[]⟩) R ⟨h,g,d,t,os⟩:=by
 have Fn:=eo;have hends:=Fn.ends;have hcB:=zE.has (C:=C) aj.hB rfl;have hcA:=zE.has (C:=C) aj.hA rfl;have hcN:=zE.has (C:=C) aj.hN rfl;refine codeAny_builtinAt Fn.entry ?_;unfold tF.«BaseException.__new__»;refine sX ?_;show PySem.wpAt _ _ _ (stack>>=_) _ _ _;refine sX (PySem.wpAt_stack λp below=>pb ?_)
 wp_walk
 refine pb ?_;refine Fn.owner▸?_
 repeat(first|with_reducible refine wpAny_madeHere_exc Fn.canon hC ?_|with_reducible refine eQ hC ?_|(with_reducible refine wpAny_isSubtype_exc hC ?_;first|rw[hcB]|rw[hcA]|rw[hcN])|wp_step)
 show R _ _;rw[cT.size_push];exact hq
theorem AU(aj:zE K C f x)(X:K.In h){Q:Fin->aF->Prop}
  (hq:∀h' e,cT.MadeExcOf h h' e (.ref C) bX->
   bY (cB prog w) A (call (.ref f) (.ref e::bX)) (λr s'=>r=.none/\Q (.done (.ret (.ref e))) s') E ⟨h',g,d,t,os⟩) (hrest:bX.length<=gA):
  bY (cB prog w) A (tF.«type.__call__» ⟨.ref C::bX,[]⟩) Q E ⟨h,g,d,t,os⟩:=by
 have Fn:=eo;have hC:=X _ _ aj.obj
 repeat(first|with_reducible refine eQ hC ?_|with_reducible refine wpAny_madeBy_exc hC ?_|wp_step)
 refine codeAny_call_builtin_code (p0 _ Fn.quiet) (wpAny_check_new_subU Fn aj.hB .base hC (XB aj hC ?_ hrest));show bY _ _ _ _ _ _;have kk:∀b o,h.get? b=Y o->((h.push {cls:=.type "tuple",data:=.seq bX.toArray}).push {cls:=.ref C,data:=.fields #[.ref h.objs.size,.none,.none,.none,.bool I,.none]}).get? b=Y o:=λb o e=>cA _ (cA _ e);have hget:((h.push {cls:=.type "tuple",data:=.seq bX.toArray}).push
   {cls:=.ref C,data:=.fields #[.ref h.objs.size,.none,.none,.none,.bool I,.none]}).get? (h.objs.size+1)=Y
   {cls:=.ref C,data:=.fields #[.ref h.objs.size,.none,.none,.none,.bool I,.none]}:=by heap_get
 have ht:cT.get? ((h.push {cls:=.type "tuple",data:=.seq bX.toArray}).push {cls:=.ref C,data:=.fields #[.ref h.objs.size,.none,.none,.none,.bool I,.none]}) h.objs.size=Y {cls:=.type "tuple",data:=.seq bX.toArray}:=cA _ (cT.get?_push_at U U);have hcC:(ar.ref C::x.bm).contains (.ref C)=S:=by rw[List.contains_cons,beq_self_eq_true];rfl
 generalize ((h.push {cls:=.type "tuple",data:=.seq bX.toArray}).push {cls:=.ref C,data:=.fields #[.ref h.objs.size,.none,.none,.none,.bool I,.none]})=h1 at*
 have hC₁:=kk _ _ hC;have X₁:=X.keeps kk;unfold kE
 repeat(first|with_reducible refine eQ hget ?_|(with_reducible refine wpAny_isSubtype_exc hC₁ ?_;rw[hcC])|wp_step)
 show bY _ _ (typeLookup (.ref C) _) _ _ _;refine(jS (M:=cB prog w) X₁ aj.init).at (bS (ay ((bind_fn X₁ _ (beq_iff_eq.mp aj.fn)).at (ay (bu (hq _ (h.objs.size+1) ⟨kk,oh (Nat.le_succ _),h.objs.size,hget,oh (Nat.le_refl _),ht⟩) (λr s' hr=>?_) λ_ _ x=>x)))));obtain⟨rfl,hQ⟩:=hr
 wp_walk
 exact hQ
theorem Vg(aj:zE K C f x)(X:K.In h){Q:ar->aF->Prop}
  (hq:∀h' e,cT.MadeExcOf h h' e (.ref C) bX->
   bY (cB prog w) (A.under (.builtin "type.__call__" ⟨.ref C::bX,[]⟩)) (call (.ref f) (.ref e::bX)) (λr s'=>r=.none/\Q (.ref e) s') E ⟨h',g,d,t,os⟩) (hrest:bX.length<=gA):
  bY (cB prog w) A (call (.ref C) bX) Q E ⟨h,g,d,t,os⟩:=by
 have hC:=X _ _ aj.obj;have f1:=tc_lookup;have f2:=tc_bind (.ref C);have hT:(⟨h,g,d,t,os⟩:aF).TypeIs (.ref C) "type":=⟨_,hC,U⟩;refine mT (codeAny_of_tree ?_);show bY _ _ (callAny (.ref C) _) _ _ _
 repeat(any_goals(first|assumption|with_reducible refine eQ hC ?_|wp_step))
 refine⟨U,?_⟩;exact codeAny_call_builtin_at (p0 _ (by decide+kernel)) entry_typeCall (wpAny_check_type_call_sub hC (AU aj X hq hrest))
end
variable{T:aT}{W:Wd}{c:Fx}{A:ch}{K:Cx}{σ σ':St}{ρ ρ':cM}{s s₁:aF}{E:ar->aF->Prop}{h h':cT}{pos:da}{Γ:cI}{n:Nat}
inductive U7(K:kJ)(C f:Nat):Prop where
 |mk (x:XC) (aj:zE K C f x):U7 K C f
def Gw(T:aT)(W:Wd):Prop:=∀C f,nk T C=S->fq T C 0=Y f->U7 W.K C f
theorem G5(G:Gd K.T K.W)(Gw:Gw K.T K.W)(GO:m5 K.T K.W n Γ)(C:fD K.c K.A)(R:cw K.A n){Cx:Nat}(hx:nk K.T Cx=S):pN K (.ref Cx) (wL K.T Γ Cx):=λρ as us ha=>aX.gO λf hm=>aX.gd λjC σ ρ' s hp hr ht Q E hw=>by
 have hmade:made K.T Cx=.exn Cx S .none:=by unfold made;rw[hx];rfl
 replace hw:=hmade▸hw;have hw:=cg hw;obtain⟨x,aj⟩:=Gw Cx f hx hm;have hlen':us.length<=gA:=by rw[hx,Bool.true_and,dt]at jC;exact ha.length▸cP▸Nat.le_trans (Nat.le_of_not_lt λz=>by replace jC:=(show Nat.blt 100 as.length=S from Nat.ble_eq_true_of_le z)▸jC;exact nF jC) (show 100<=16777216 by decide)
 obtain⟨hh,g,d,t,os⟩:=s;refine Vg aj (G.X.keeps hr.stays) (λh' e hM=>?_) hlen';obtain⟨tt,t1,t2,t3⟩:=hM.there;have new:∀{o},hh.get? e=Y o->False:=λq=>by replace q:=hM.new▸q;cases q
 have fe:ng K.W K.c ρ' e:=⟨λhb=>let⟨_,q⟩:=hr.live hb;new q,λq=>by
   obtain⟨m,F,_⟩:=hr.fr;obtain⟨o,_,_,ho,_⟩:=F.ns;exact new (q▸ho),by
   induction z:K.W.h0.get? e with
   |none=>rfl
   |some o=>exact(new (hr.stays _ _ z)).elim⟩
 have hr1:=hr.new (h':=h') (o:=.exn Cx S .none) (as:=[e]) (λm F=>F.keeps hM.keeps) (λb hb o ho=>hM.keeps b o ho) (List.nodup_cons.mpr ⟨List.not_mem_nil,List.nodup_nil⟩) (λb hb=>(List.mem_singleton.mp hb)▸fe)
  (show rE K.T K.W _ _ _ [e]from(⟨_,_,λ_=>rfl,t1,U,.no,U,U,Nat.le_refl _,U⟩:mY _ _ Cx S .none e []))
 exact mT (codeAny_mono (CA (s:=⟨hh,g,d,t,os⟩) (GO K.c _ f C.under (uY (us:=us) (Cx:=Cx) R)) (List.prefix_append _ _) hr1 ht (RV.new hr) (ha.mono λ_ _ z=>(z.mono hp).mono (List.prefix_append _ _)) hw) λr s' z=>z)
theorem Mq:findCls [] (.type "ValueError") (.type "type") "__init__"=Y (.val (.builtin "ValueError.__init__")):=by kernel_rfl
theorem Pq(h:cT):kJ.In ([]:kJ) h:=λa o e=>by exact nS e
theorem D6{pl:o7 Bool}{Q:ar×List ar->aF->Prop}{prog:oU}{w:sL}(hq:∀tk,Q (.builtin "ValueError.__init__",[]) {s with toks:=tk}):bY (cB prog w) A (hU (.type "ValueError") "__init__" pl) Q E s:=by
 have X:=Pq s.heap;have L0:jq (cB prog w) s.heap (typeOf (.type "ValueError")) (.type "type"):=jq.of_pure (by kernel_rfl);have hg:eF [] (.type "type") "__getattribute__"=Y (Y (.builtin "type.__getattribute__")):=type_tga;unfold hU specialOf;refine ay (ay (L0.here ((jS X hg).here ?_)));dsimp only;refine(if_pos canon_tga)▸?_;refine ay (bu (Q:=λv=>Q (v,[])) (E:=E) ?_ (λ_ _ z=>aL z) λ_ _ z=>z);exact cls_open X (jq.of_pure (by kernel_rfl):jq (cB prog w) s.heap (opaqueClassAbove (.type "ValueError")) cV) L0 hg (looks_hook X (r:=cV) (by rfl)) (by show pA [] _ _=_;rfl) Mq
  (aL (by show bY _ _ (handedOut _) _ _ _;rw[handedOut_of (by rfl)];exact aL (hq _)))
theorem yV{M:vp}{a C:bf}{o:iS}{oc:ar}{od:Option bf}{cd:ClassData}{sl:Array (Option ar)}{bX:List ar}{Q:Unit->aF->Prop}(g1:s.heap.get? a=Y o)(g2:o.cls=.ref C)(hC:s.heap.get? C=Y ⟨oc,od,.cls cd,sl⟩)
  (L1:jq M s.heap (kE (.ref a) (.type "ValueError")) S) (hq:Q () s):bY M A (checkBuiltinCall "ValueError.__init__" ⟨.ref a::bX,[]⟩) Q E s:=by
 have FV:=eo;have hshort:=FV.noStar;simp only[checkBuiltinCall,FV.initKind,FV.initSplit,FV.initRow];refine ay (L1.here ?_);simp only[Bool.not_true,kB,if_false];obtain⟨hh,g,d,t,os⟩:=s
 repeat(first|(with_reducible refine eQ g1 ?_;refine g2▸?_)|with_reducible refine eQ hC ?_|wp_step)
 refine wpAny_onRaise ?_;rw[show∀(x b:String)(n:Nat),Bind.check ⟨.positional,"*","ValueError",.self,[⟨"args",.varPos,I⟩]⟩ x b n (List.map (λx=>x.fst) ({pos:=ar.ref a::bX}:Args).kw)=pure ()from
  λa b n=>check_star_args _ _ _ _ _ _]
 exact aL hq
theorem mY.setAt{C i:Nat}{b:Bool}{fd:Option Nat}{a:bf}{r:List bf}(X:mY ρ h C b fd a r)(v:ar)(hi:i≠1):mY ρ (h.update a (lk i v)) C b fd a r:=by
 obtain⟨o,vs,nb,g,k,x,d,sl,z,e⟩:=X;have h1:(lk i v o).dict=o.dict/\(lk i v o).slots=o.slots:=by obtain⟨oc,od,odt,osl⟩:=o;cases d;exact⟨U,U⟩
 exact⟨_,vs.setIfInBounds i v,λq=>by rw[Array.getElem?_setIfInBounds_ne hi];exact nb q,dA _ g (iY (dD d _)),(qQ ..).trans k,h1.1▸x,dD d _,h1.2.trans sl,by rw[lH];exact z,e⟩
theorem KO(G:Gd K.T K.W)(Gy:Gy K.T K.W){as:List J}{us:List ar}(ha:bP (RV ρ) as us):aX K ρ (PW K (call (.builtin "ValueError.__init__") us [])) (Lk as λa b=>na a λi=>jz b λ_=>gX i λC _ _=>gd (nk K.T C) (M.ret .none)) Rv:=
 aX.as2 (wv:=λus=>PW K (call (.builtin "ValueError.__init__") us [])) ha λa u b v hu hv=>aX.oObj (wv:=λu=>PW K (call (.builtin "ValueError.__init__") [u,v] [])) hu λi ra r e=>aX.oStr (wv:=λv=>PW K (call (.builtin "ValueError.__init__") [.ref ra,v] [])) hv λz t σ ρ' s hp hr ht=>bB.gX λCx fb fd e1=>bB.gd λhC=>bB.put ht U λQ E hQ=>by
  have ea:=b6 hp e;have XK:=G.X.keeps hr.stays;have ae:=Gy.cls Cx hC;obtain⟨o,vs,_,g1,g2,_⟩:=hr.exn e1 ea;obtain⟨cd,hc1,_,_⟩:=ae.cls;have L0:jq (cB K.W.prog K.W.w) s.heap (typeOf (.ref ra)) (.ref Cx):=by refine(qR (part:=_) g1).andThen ?_;exact g2▸.now
  have FV:=eo;unfold clsIn at hc1
  split at hc1
  ·rename_i oc od cd' sl hlk
   obtain rfl:=sI hc1;refine mT (ju FV.init.plain FV.initEntry (yV g1 g2 (XK _ _ hlk) (L0.andThen (hJ XK ae.ve)) ?_));obtain⟨hh,g,d,tt,os⟩:=s;unfold tF.«BaseException.__init__»;refine ay (m:=newTuple _) ?_;unfold newTuple;refine kZ ?_ (by show 1<=gA;refine cP▸?_;decide);have hr1:=hr.push ({cls:=.type "tuple",data:=.seq #[.str z t]}:iS);have X:=hr1.exn e1 ea;have hr2:=hr1.upd ea (.head _) (dw _ ra (lk 0 (.ref hh.objs.size))) (show rE K.T K.W ρ' _ (.exn Cx fb fd) (ra::r)from X.setAt _ (by decide));rw[zR e1]at hr2;obtain⟨o,vs,_,g1,_,_,g4,_,g6,_⟩:=X;obtain⟨old,ho⟩:∃old,vs[0]?=Y old:=⟨_,kK (Nat.lt_of_lt_of_le (by decide) g6)⟩;refine ay (ay (jt g1 g4 ho (ay (kC g1 g4 (Nat.lt_of_lt_of_le (by decide) g6) ?_))));have fin:=hQ ρ' _ tt .none (List.prefix_refl _) hr2 .none;induction old<;>first|exact aL (aL fin)|exact wpAny_letGo (aL fin)
  ·exact nS hc1
end
section
open PySem PySem.W PySem.Calls PyProof.Rows
open Builtin.Str StrLaws
theorem zI:∀c,c<128->Unicode.isDigit c=gM c:=by decide+kernel
theorem yq:∀c,c<128->Unicode.isAlnum c=uz c:=by decide+kernel
theorem z8:∀c,c<128->Unicode.lowerOf c=[mI c]:=by decide+kernel
theorem yL:∀c,c<128->Unicode.upperOf c=[Ez c]:=by decide+kernel
theorem qK{l:List Nat}(h:bV l=S):∀c∈l,c<128:=λc hc=>by have:=List.all_eq_true.mp h c hc;exact Nat.le_of_ble_eq_true this
theorem tO(y:aV):y.cps.contains=isBlank y.cps.toList:=by
 funext c
 show y.cps.contains c=y.cps.toList.any (Nat.beq c);rw[<-Array.contains_toList];induction y.cps.toList with
 |nil=>rfl
 |cons a r ih=>
  rw[List.contains_cons,List.any_cons,ih]
  congr 1
  rw[dL,beq_iff_eq];exact⟨λq=>by rw[q];exact Nat.beq_refl a,λq=>Nat.eq_of_beq_eq_true q⟩
theorem mN(e:List Nat):∀l,ez e l=l.drop (l.takeWhile (isBlank e)).length
 |[]=>rfl
 |c::r=>by unfold ez;induction q:isBlank e c with
  |true=>simp[List.takeWhile_cons,q,mN e r]
  |false=>simp[List.takeWhile_cons,q]
theorem HL{l:List Nat}(k:Nat):l.take (l.length-k)=(l.reverse.drop k).reverse:=by rw[List.drop_reverse,List.reverse_reverse]
theorem qB(x:aV)(i j:Nat):(strSub x i j).cps.toList=(x.cps.toList.drop i).take (j-i):=by unfold strSub;rw[oi,List.extract_eq_take_drop]
theorem yY(x y:aV):(Txt.lstripChars x y).cps.toList=ez y.cps.toList x.cps.toList:=by unfold Txt.lstripChars;rw[W.stripBy_eq];show(strSub x _ _).cps.toList=_;rw[qB,mN,tO];simp only[if_true,kB,if_false];rw[List.take_of_length_le];rw[List.length_drop];exact Nat.le_refl _
theorem Ci(x y:aV):(Txt.stripChars x y).cps.toList=mM y.cps.toList x.cps.toList:=by
 unfold Txt.stripChars;rw[W.stripBy_eq];show(strSub x _ _).cps.toList=_;unfold mM;rw[qB,tO];simp only[if_true];rw[mN _ x.cps.toList,mN]
 generalize (x.cps.toList.takeWhile (isBlank y.cps.toList)).length=lo
 rw[<-HL,List.length_drop]
 congr 1
 show x.cps.size-_-lo=x.cps.toList.length-lo-_;have:=ce (xs:=x.cps);show _-(List.takeWhile _ _).length-lo=_-lo-(List.takeWhile _ _).length;exact this▸Nat.sub_right_comm _ _ _
theorem yk{f:Nat->Nat->List Nat}{g:Nat->Nat}:∀(l:List Nat)(k:Nat),(∀i c,l[i]?=Y c->f (k+i) c=[g c])->((l.mapIdx λi c=>(f (k+i) c).toArray).map qS).flatten=l.map g
 |[],k,h=>rfl
 |c::r,k,h=>by
  rw[List.mapIdx_cons,List.map_cons,List.flatten_cons,List.map_cons];have h0:=h 0 c rfl;rw[h0];show g c::_=_
  congr 1
  have:=yk (f:=f) (g:=g) r (k+1) λi d hd=>by have:=h (i+1) d (by simpa using hd);rw[<-this];congr 1;exact Nat.le_antisymm (bE [_,_] [] 0 [] (.a (.a (.v 0) (.l 1)) (.v 1)) (.a (.v 0) (.a (.v 1) (.l 1))) U) (bE [_,_] [] 0 [] (.a (.v 0) (.a (.v 1) (.l 1))) (.a (.a (.v 0) (.l 1)) (.v 1)) U)
  rw[<-this];show((r.mapIdx λi c=>(f (k+(i+1)) c).toArray).map qS).flatten=_;have e:(λi c=>(f (k+(i+1)) c).toArray)=(λi c=>(f (k+1+i) c).toArray):=by
   funext i c
   exact(show k+(i+1)=k+1+i by exact Nat.le_antisymm (bE [_,_] [] 0 [] (.a (.v 0) (.a (.v 1) (.l 1))) (.a (.a (.v 0) (.l 1)) (.v 1)) U) (bE [_,_] [] 0 [] (.a (.a (.v 0) (.l 1)) (.v 1)) (.a (.v 0) (.a (.v 1) (.l 1))) U))▸rfl
  exact e▸rfl
theorem sB(x:aV)(f:Nat->Nat->List Nat)(g:Nat->Nat)(h:∀i c,x.cps[i]?=Y c->f i c=[g c]):(placed x f).toList=x.cps.toList.map g:=by
 unfold placed;rw[Array.toList_flatten,Array.toList_mapIdx];have:=yk (f:=f) (g:=g) x.cps.toList 0 λi c hc=>by rw[Nat.zero_add];exact h i c (by rw[<-ck];exact hc)
 rw[<-this];simp
theorem uJ(x:aV)(h:bV x.cps.toList=S):(Txt.lower x).cps.toList=x.cps.toList.map mI:=sB x _ _ λi c hc=>by have hlt:=qK h c (by rw[<-ck]at hc;exact List.mem_of_getElem? hc);unfold Unicode.lowerAt;rw[hc];dsimp only;rw[if_neg,z8 c hlt];simp only[ax,beq_iff_eq,not_and];intro q;lia
theorem uH(x:aV)(h:bV x.cps.toList=S):(Txt.upper x).cps.toList=x.cps.toList.map Ez:=sB x _ _ λi c hc=>yL c (qK h c (by rw[<-ck]at hc;exact List.mem_of_getElem? hc))
theorem Aa{x:aV}{f g:Nat->Bool}(h:∀c∈x.cps.toList,f c=g c):(aI (x.length>0)&&x.cps.all f)=(!x.cps.toList.isEmpty&&x.cps.toList.all g):=by
 have e1:x.cps.all f=x.cps.toList.all g:=by rw[<-Array.all_toList,dL,List.all_eq_true,List.all_eq_true];exact⟨λz c hc=>(h c hc)▸z c hc,λz c hc=>(h c hc).symm▸z c hc⟩
 refine e1▸?_
 congr 1
 show aI (x.cps.size>0)=_;refine ce▸?_;induction x.cps.toList<;>simp
theorem oO(x:aV)(c i:Nat):subAt x ⟨#[c]⟩ i=aI (x.cps.toList[i]?=Y c):=by
 unfold subAt;rw[dL,beq_iff_eq,decide_eq_true_iff];rw[<-sb,oi,List.extract_eq_take_drop];show List.take (i+1-i) _=[c]↔_;rw[show i+1-i=1 by lia]
 generalize x.cps.toList=l
 have e:l[i]?=(l.drop i)[0]?:=by simp
 rw[e];cases l.drop i<;>simp
theorem Ag{s sub:aV}{hi limit:Nat}:∀(l:List Nat)(st:Array Nat×Nat),limit<=st.1.size->(forIn l st (gi s sub hi limit)).run.fst=st.1
 |[],st,h=>rfl
 |a::l,st,h=>by rw[List.forIn_cons];unfold gi;rw[if_neg (λq=>by lia)];exact Ag l _ h
theorem zf(c:Nat):∀(r:List Nat)(n:Nat),ip c r n=-1\/(n:Int)<=ip c r n
 |[],n=>.inl rfl
 |d::r,n=>by unfold ip;cases Nat.beq d c with
  |true=>exact .inr (Int.le_refl _)
  |false=>
   rcases zf c r (n+1)with h|h
   ·exact .inl h
   ·right;dsimp only[cond];exact eN (zY (Nat.le_succ _)) h
theorem C1(x:aV)(c:Nat):∀(k i:Nat),i+k=x.length+1->(forIn (List.range' i k) ((#[]:Array Nat),0) (gi x ⟨#[c]⟩ x.length 1)).run.fst.toList=(bif aI (ip c (x.cps.toList.drop i) i=-1)then[]else[(ip c (x.cps.toList.drop i) i).toNat])
 |0,i,h=>by have:x.cps.toList.drop i=[]:=List.drop_eq_nil_of_le (by rw[ce];show x.length<=i;exact bE [_,_] [(.a (.v 1) (.l 1),.a (.v 0) (.l 0))] 0 [1] (.v 1) (.v 0) U (IA h));rw[this];rfl
 |k+1,i,h=>by
  rw[List.range'_succ,List.forIn_cons]
  by_cases hi:x.cps.toList[i]?=Y c
  ·have hlt:i<x.length:=by have:=(List.getElem?_eq_some_iff.mp hi).1;rw[ce]at this;exact this
   have hd:x.cps.toList.drop i=c::x.cps.toList.drop (i+1):=by obtain⟨h1,h2⟩:=List.getElem?_eq_some_iff.mp hi;rw[List.drop_eq_getElem_cons h1,h2]
   have hf:ip c (x.cps.toList.drop i) i=(i:Int):=by rw[hd];unfold ip;rw[show Nat.beq c c=S from Nat.beq_refl c];rfl
   rw[hf];have hne:aI ((i:Int)=-1)=I:=decide_eq_false (by lia);rw[hne];unfold gi;rw[if_pos ⟨⟨⟨by show 0<1;decide,Nat.zero_le _⟩,by show i+1<=x.length;exact hlt⟩,by rw[oO];exact decide_eq_true hi⟩];have:=Ag (s:=x) (sub:=⟨#[c]⟩) (hi:=x.length) (limit:=1) (List.range' (i+1) k) (#[i],i+1) (Nat.le_refl _);exact congrArg qS this
  ·have hb:gi x ⟨#[c]⟩ x.length 1 i ((#[]:Array Nat),0)=pure (eG (#[],0)):=by unfold gi;rw[if_neg];rintro⟨_,q⟩;rw[oO]at q;exact hi (of_decide_eq_true q)
   rw[hb];show(forIn (List.range' (i+1) k) ((#[]:Array Nat),0) (gi x ⟨#[c]⟩ x.length 1)).run.fst.toList=_;rw[C1 x c k (i+1) (by exact Nat.le_antisymm (bE [_,_,_] [(.a (.v 0) (.a (.v 1) (.l 1)),.a (.v 2) (.l 1))] 0 [1] (.a (.a (.v 0) (.l 1)) (.v 1)) (.a (.v 2) (.l 1)) U (Fp h)) (bE [_,_,_] [(.a (.v 2) (.l 1),.a (.v 0) (.a (.v 1) (.l 1)))] 0 [1] (.a (.v 2) (.l 1)) (.a (.a (.v 0) (.l 1)) (.v 1)) U (IA h)))];have:ip c (x.cps.toList.drop i) i=ip c (x.cps.toList.drop (i+1)) (i+1):=by induction hq:x.cps.toList.drop i with
    |nil=>
     have:x.cps.toList.drop (i+1)=[]:=by rw[List.drop_eq_nil_iff]at hq⊢;exact bE [_,_] [(.v 0,.v 1)] 0 [1] (.v 0) (.a (.v 1) (.l 1)) U hq
     rw[this];rfl
    |cons d r=>
     have h1:x.cps.toList[i]?=Y d:=by have:=List.getElem?_drop (xs:=x.cps.toList) (i:=i) (j:=0);rw[hq]at this;simpa using this.symm
     have h2:x.cps.toList.drop (i+1)=r:=by have:=List.drop_drop (i:=1) (j:=i) (l:=x.cps.toList);rw[hq]at this;exact this.symm
     rw[h2]
     conv=>lhs;unfold ip
     have:Nat.beq d c=I:=by induction z:Nat.beq d c with
      |false=>rfl
      |true=>rw[Nat.eq_of_beq_eq_true z]at h1;exact absurd h1 hi
     rw[this];rfl
   rw[this]
theorem Eu(x:aV)(c:Nat):Txt.find x ⟨#[c]⟩=ip c x.cps.toList 0:=by unfold Txt.find;rw[occ_eq];rw[show x.length+1-0=x.length+1 by exact U,C1 x c (x.length+1) 0 (by exact Nat.le_antisymm (bE [_] [] 0 [] (.a (.l 0) (.a (.v 0) (.l 1))) (.a (.v 0) (.l 1)) U) (bE [_] [] 0 [] (.a (.v 0) (.l 1)) (.a (.l 0) (.a (.v 0) (.l 1))) U))];refine List.drop_zero▸?_;induction q:aI (ip c x.cps.toList 0=-1)with
 |true=>exact(of_decide_eq_true q).symm
 |false=>
  have:=of_decide_eq_false q;rcases zf c x.cps.toList 0 with h|h
  ·exact absurd h this
  ·show((ip c x.cps.toList 0).toNat:Int)=_
   exact eT h
end
section
open PySem PySem.W PySem.Calls PyProof.Rows
open Builtin.Str StrLaws
noncomputable def nU(l:List Nat)(c i k:Nat):List Nat:=(List.range' i k).filter λj=>aI (l[j]?=Y c)
theorem xE(x:aV)(c:Nat):∀(k i:Nat)(acc:Array Nat)(f:Nat),i+k=x.length+1->f<=i->acc.size+k<=x.length+1->
  (forIn (List.range' i k) (acc,f) (gi x ⟨#[c]⟩ x.length (x.length+1))).run.fst.toList=acc.toList++nU x.cps.toList c i k
 |0,i,acc,f,h,hf,ha=>by simp[nU]
 |k+1,i,acc,f,h,hf,ha=>by
  rw[List.range'_succ,List.forIn_cons];unfold nU;rw[List.range'_succ,List.filter_cons]
  by_cases hi:x.cps.toList[i]?=Y c
  ·have hlt:i<x.length:=by have:=(List.getElem?_eq_some_iff.mp hi).1;rw[ce]at this;exact this
   have hb:gi x ⟨#[c]⟩ x.length (x.length+1) i (acc,f)=pure (eG (acc.push i,i+1)):=by unfold gi;exact if_pos ⟨⟨⟨by show acc.size<_;exact bE [_,_,_] [(.a (.v 0) (.a (.v 1) (.l 1)),.a (.v 2) (.l 1))] 0 [1] (.a (.v 0) (.l 1)) (.a (.v 2) (.l 1)) U ha,hf⟩,by show i+1<=x.length;exact hlt⟩,by rw[oO];exact decide_eq_true hi⟩
   rw[hb];show(forIn (List.range' (i+1) k) (acc.push i,i+1) (gi x ⟨#[c]⟩ x.length (x.length+1))).run.fst.toList=_;rw[xE x c k (i+1) (acc.push i) (i+1) (by exact Nat.le_antisymm (bE [_,_,_] [(.a (.v 0) (.a (.v 1) (.l 1)),.a (.v 2) (.l 1))] 0 [1] (.a (.a (.v 0) (.l 1)) (.v 1)) (.a (.v 2) (.l 1)) U (Fp h)) (bE [_,_,_] [(.a (.v 2) (.l 1),.a (.v 0) (.a (.v 1) (.l 1)))] 0 [1] (.a (.v 2) (.l 1)) (.a (.a (.v 0) (.l 1)) (.v 1)) U (IA h))) (Nat.le_refl _) (by rw[Array.size_push];lia)];rw[if_pos (decide_eq_true hi)];simp[nU]
  ·have hb:gi x ⟨#[c]⟩ x.length (x.length+1) i (acc,f)=pure (eG (acc,f)):=by unfold gi;rw[if_neg];rintro⟨_,q⟩;rw[oO]at q;exact hi (of_decide_eq_true q)
   rw[hb];show(forIn (List.range' (i+1) k) (acc,f) (gi x ⟨#[c]⟩ x.length (x.length+1))).run.fst.toList=_;rw[xE x c k (i+1) acc f (by exact Nat.le_antisymm (bE [_,_,_] [(.a (.v 0) (.a (.v 1) (.l 1)),.a (.v 2) (.l 1))] 0 [1] (.a (.a (.v 0) (.l 1)) (.v 1)) (.a (.v 2) (.l 1)) U (Fp h)) (bE [_,_,_] [(.a (.v 2) (.l 1),.a (.v 0) (.a (.v 1) (.l 1)))] 0 [1] (.a (.v 2) (.l 1)) (.a (.a (.v 0) (.l 1)) (.v 1)) U (IA h))) (by exact bE [_,_] [(.v 0,.v 1)] 0 [1] (.v 0) (.a (.v 1) (.l 1)) U hf) (by exact bE [_,_,_] [(.a (.v 0) (.a (.v 1) (.l 1)),.a (.v 2) (.l 1))] 0 [1] (.a (.v 0) (.v 1)) (.a (.v 2) (.l 1)) U ha)];rw[if_neg (by rw[decide_eq_true_iff];exact hi)];rfl
theorem D8(x:aV)(c:Nat):occurrences x ⟨#[c]⟩ 0 x.length (x.length+1)=nU x.cps.toList c 0 (x.length+1):=by rw[occ_eq,show x.length+1-0=x.length+1 by exact U,xE x c (x.length+1) 0 #[] 0 (by exact Nat.le_antisymm (bE [_] [] 0 [] (.a (.l 0) (.a (.v 0) (.l 1))) (.a (.v 0) (.l 1)) U) (bE [_] [] 0 [] (.a (.v 0) (.l 1)) (.a (.l 0) (.a (.v 0) (.l 1))) U)) (Nat.le_refl _) (by simp)];rfl
theorem DV(l:List Nat)(c n:Nat)(h:l.length<=n):nU l c 0 (n+1)=nU l c 0 n:=by unfold nU;simp only[List.range'_concat,List.filter_append];simp[List.getElem?_eq_none_iff.mpr h]
theorem BA(l:List Nat)(c:Nat):∀(k s i:Nat),s<=i->i+k=l.length->
  (((s::(nU l c i k).map (·+1)).zip (nU l c i k++[l.length])).map λp=>(l.drop p.1).take (p.2-p.1)).flatten=(l.drop s).take (i-s)++(l.drop i).filter λd=>!Nat.beq d c
 |0,s,i,hs,h=>by have:l.drop i=[]:=List.drop_eq_nil_of_le (by exact bE [_,_] [(.v 1,.a (.v 0) (.l 0))] 0 [1] (.v 1) (.v 0) U (IA h));simp only[this];simp only[nU,List.range'_zero,List.filter_nil,List.map_nil,List.nil_append,List.zip_cons_cons,List.zip_nil_right,List.map_cons,List.flatten_cons,List.flatten_nil,List.append_nil];simp only[show i=l.length by exact Nat.le_antisymm (bE [_,_] [(.a (.v 0) (.l 0),.v 1)] 0 [1] (.v 0) (.v 1) U (Fp h)) (bE [_,_] [(.v 1,.a (.v 0) (.l 0))] 0 [1] (.v 1) (.v 0) U (IA h))]
 |k+1,s,i,hs,h=>by
  have hlt:i<l.length:=by exact bE [_,_,_] [(.a (.v 0) (.a (.v 1) (.l 1)),.v 2)] 0 [1] (.a (.v 0) (.l 1)) (.v 2) U (Fp h)
  have hd:l.drop i=l[i]::l.drop (i+1):=List.drop_eq_getElem_cons hlt;have hp:nU l c i (k+1)=if aI (l[i]?=Y c)=S then i::nU l c (i+1) k else nU l c (i+1) k:=by unfold nU;simp only[List.range'_succ,List.filter_cons]
  by_cases hi:l[i]=c
  ·have:l[i]?=Y c:=by simp only[List.getElem?_eq_getElem hlt,hi]
   simp only[hp,if_pos (decide_eq_true this),List.map_cons,List.cons_append,List.zip_cons_cons,List.map_cons,List.flatten_cons];simp only[BA l c k (i+1) (i+1) (Nat.le_refl _) (by exact Nat.le_antisymm (bE [_,_,_] [(.a (.v 0) (.a (.v 1) (.l 1)),.v 2)] 0 [1] (.a (.a (.v 0) (.l 1)) (.v 1)) (.v 2) U (Fp h)) (bE [_,_,_] [(.v 2,.a (.v 0) (.a (.v 1) (.l 1)))] 0 [1] (.v 2) (.a (.a (.v 0) (.l 1)) (.v 1)) U (IA h)))];simp only[hd,List.filter_cons];simp only[show(!Nat.beq l[i] c)=I by simp only[hi,Nat.beq_refl];rfl];simp
  ·have:¬l[i]?=Y c:=by simp only[List.getElem?_eq_getElem hlt];simpa using hi
   rw[hp,if_neg (by simp[this]),BA l c k s (i+1) (by exact bE [_,_] [(.v 0,.v 1)] 0 [1] (.v 0) (.a (.v 1) (.l 1)) U hs) (by exact Nat.le_antisymm (bE [_,_,_] [(.a (.v 0) (.a (.v 1) (.l 1)),.v 2)] 0 [1] (.a (.a (.v 0) (.l 1)) (.v 1)) (.v 2) U (Fp h)) (bE [_,_,_] [(.v 2,.a (.v 0) (.a (.v 1) (.l 1)))] 0 [1] (.v 2) (.a (.a (.v 0) (.l 1)) (.v 1)) U (IA h)))];simp only[hd,List.filter_cons];have hb:Nat.beq l[i] c=I:=by induction z:Nat.beq l[i] c with
    |false=>rfl
    |true=>exact absurd (Nat.eq_of_beq_eq_true z) hi
   simp only[hb];simp only[Bool.not_false,if_true];rw[show i+1-s=(i-s)+1 by exact Nat.succ_sub hs,List.take_add_one];simp only[List.getElem?_drop,show s+(i-s)=i by exact Nat.add_sub_of_le hs,List.getElem?_eq_getElem hlt];simp
theorem nE(g:Array Nat):∀(ps:List aV)(A:Array Nat),(ps.foldl (λacc p=>acc++g++p.cps) A).toList=A.toList++(ps.map λp=>g.toList++p.cps.toList).flatten
 |[],A=>by simp
 |p::r,A=>by simp only[List.foldl_cons,nE g r];simp
theorem sy:∀ps:List aV,(glued ⟨#[]⟩ ps).cps.toList=(ps.map λp=>p.cps.toList).flatten
 |[]=>rfl
 |p::r=>by show(r.foldl (λacc p=>acc++(#[]:Array Nat)++p.cps) p.cps).toList=_;simp only[nE];simp
theorem DN(x:aV)(c:Nat):(Txt.replace x ⟨#[c]⟩ ⟨#[]⟩).cps.toList=x.cps.toList.filter λd=>!Nat.beq d c:=by
 have hn:x.cps.toList.length=x.length:=ce;have hpc:=BA x.cps.toList c x.length 0 0 (Nat.le_refl _) (by exact Nat.le_antisymm (bE [_,_] [(.v 1,.v 0)] 0 [1] (.a (.l 0) (.v 1)) (.v 0) U (IA hn)) (bE [_,_] [(.v 0,.v 1)] 0 [1] (.v 0) (.a (.l 0) (.v 1)) U (Fp hn)));simp only[Nat.sub_self,List.take_zero,List.nil_append,List.drop_zero]at hpc;unfold Txt.replace;rw[D8,DV _ _ _ (Nat.le_of_eq hn)];have hfin:(glued ⟨#[]⟩ (qT x (nU x.cps.toList c 0 x.length) 1)).cps.toList=x.cps.toList.filter λd=>!Nat.beq d c:=by
  rw[sy,<-hpc];unfold qT;rw[List.map_map,hn]
  congr 2
  funext p
  exact qB x p.1 p.2
 split
 ·rename_i q
  have q1:(nU x.cps.toList c 0 x.length).isEmpty=S:=by
   simp only[dz]at q;rcases q with q|q
   ·exact q
   ·exact absurd q (by simp[aV.length])
  rw[List.isEmpty_iff]at q1;rw[<-hfin,q1];rw[sy];unfold qT;simp[qB];rw[List.take_of_length_le (by rw[hn];exact Nat.le_refl _)]
 ·exact hfin
theorem HZ(sep:aV):∀(ps:List aV),(Txt.join sep ps).cps.toList=(match ps with|[]=>[]|p::r=>p.cps.toList++(r.map λq=>sep.cps.toList++q.cps.toList).flatten)
 |[]=>rfl
 |p::r=>by show(r.foldl (λacc p=>acc++sep.cps++p.cps) p.cps).toList=_;simp only[nE]
inductive UM(ρ:cM)(xs:List J)(vs:List ar)(ys:List (List Nat)):Prop where
 |mk (l:List (aV×qV)) (e:vs=strValues l) (f:ys=l.map λp=>p.1.cps.toList):UM ρ xs vs ys
theorem Ek{ρ:cM}{xs:List J}{vs:List ar}{ys:List (List Nat)}(a:bP (RV ρ) xs vs)(e:lz xs=Y ys):UM ρ xs vs ys:=by induction a generalizing ys with
 |nil=>obtain rfl:=sI e;exact⟨[],U,U⟩
 |cons p q ih=>obtain⟨x,e1,e⟩:=aA.mp e;obtain⟨y,e2,rfl⟩:=aP.mp e;obtain⟨l,rfl,rfl⟩:=ih e2;induction p with
  |str z t hz=>obtain rfl:=sI e1;exact hz▸⟨(z,t)::l,U,U⟩
  |_=>exact nS e1
theorem vh{sep p:List Nat}:∀{r:List (List Nat)},fX sep (p::r)=p++(r.map λq=>sep++q).flatten
 |[]=>(List.append_nil _).symm
 |q::r=>by show p++(sep++fX sep (q::r))=_;simp only[vh,List.map_cons,List.flatten_cons,List.append_assoc]
theorem EO{sep:aV}(l:List (aV×qV)):(Txt.join sep (l.map (·.1))).cps.toList=fX sep.cps.toList (l.map λp=>p.1.cps.toList):=by simp only[HZ];induction l with
 |nil=>rfl
 |cons p r=>show p.1.cps.toList++((r.map (·.1)).map λq=>sep.cps.toList++q.cps.toList).flatten=fX _ (p.1.cps.toList::r.map _);simp only[vh,List.map_map,List.map_map];rfl
theorem y0{sep:List Nat}:∀(l:List (aV×qV)),((l.map (·.1)).map (·.length)).sum+l.length*sep.length<=(fX sep (l.map λp=>p.1.cps.toList)).length+sep.length
 |[]=>by simp
 |[p]=>by simp[fX,aV.length]
 |p::q::r=>by
  have ih:=y0 (sep:=sep) (q::r);have h:(fX sep ((p::q::r).map λp=>p.1.cps.toList)).length=p.1.length+(sep.length+(fX sep ((q::r).map λp=>p.1.cps.toList)).length):=by show(p.1.cps.toList++(sep++fX sep _)).length=_;simp only[List.length_append,List.length_append];rfl
  rw[h,List.map_cons,List.map_cons,List.sum_cons,List.length_cons,Nat.add_mul,Nat.one_mul];exact bE [_,_,_,_,_] [(.a (.v 0) (.v 1),.a (.v 2) (.v 3))] 0 [1] (.a (.a (.v 4) (.v 0)) (.a (.v 1) (.v 3))) (.a (.a (.v 4) (.a (.v 3) (.v 2))) (.v 3)) U ih
end
section
open PySem PySem.W PySem.Calls PyProof.Rows
open Builtin.Str StrLaws
variable{T:aT}{W:Wd}{c:Fx}{A:ch}{K:Cx}{σ σ':St}{ρ ρ':cM}{s s₁:aF}{E:ar->aF->Prop}{X:Nat->St->Prop}{h h':cT}{pos:da}{n:Nat}{as:List J}{us:List ar}
theorem eV{m n:Nat}(h:Nat.ble m n=S):m<=n:=Nat.le_of_ble_eq_true h
theorem xp{x:aV}(h:Nat.ble x.cps.toList.length cj=S):x.length<=gA:=by have:=eV h;rw[ce]at this;rw[cP];exact this
theorem Dy{y:aV}{l:List Nat}(e:y.cps.toList=l)(h:l.length<=cj):tooLong y.length=I:=by unfold tooLong;rw[<-e,ce]at h;rw[cP];exact decide_eq_false (Nat.not_lt.mpr h)
def Wj(K:Cx)(nm:aV)(id:String):Prop:=∀(ρ:cM)(x:aV)(t:qV)(as:List J)(us:List ar),bP (RV ρ) as us->aX K ρ (PW K (call (.builtin id) (.str x t::us) [])) (g9 nm x.cps.toList as) Rv
def YK(K:Cx)(nm:aV)(id:String):Prop:=∀{s:aF}{E:ar->aF->Prop}{x:aV}{t:qV}{pl:o7 Bool}{Q:ar×List ar->aF->Prop},Q (.builtin id,[.str x t]) s->PW K (hU (.str x t) nm pl) Q E s
def m6(K:Cx)(nm:aV)(id:String):Prop:=YK K nm id/\Wj K nm id
abbrev sW(K:Cx)(id:String)(x:aV)(t:qV)(us:List ar):WT ar:=PW K (call (.builtin id) (.str x t::us) [])
theorem EE{x:List Nat}{as:List J}:g9 "strip" x as=gd (Nat.ble x.length cj) (qE as λa=>jz a λe=>M.ret (.str (mM e x))):=by kernel_rfl
theorem Bn{x:List Nat}{as:List J}:g9 "lstrip" x as=gd (Nat.ble x.length cj) (qE as λa=>jz a λe=>M.ret (.str (ez e x))):=by kernel_rfl
theorem EK{x:List Nat}{as:List J}:g9 "lower" x as=gd (Nat.ble x.length cj) (q7 as (gd (bV x) (M.ret (.str (x.map mI))))):=by kernel_rfl
theorem EB{x:List Nat}{as:List J}:g9 "upper" x as=gd (Nat.ble x.length cj) (q7 as (gd (bV x) (M.ret (.str (x.map Ez))))):=by kernel_rfl
theorem HB{x:List Nat}{as:List J}:g9 "find" x as=gd (Nat.ble x.length cj) (qE as λa=>jz a λe=>qE e λc=>M.ret (.int (ip c x 0))):=by kernel_rfl
theorem yS{x:List Nat}{as:List J}:g9 "isdigit" x as=gd (Nat.ble x.length cj) (q7 as (gd (bV x) (yes (!x.isEmpty&&x.all gM)))):=by kernel_rfl
theorem zV{x:List Nat}{as:List J}:g9 "isalnum" x as=gd (Nat.ble x.length cj) (q7 as (gd (bV x) (yes (!x.isEmpty&&x.all uz)))):=by kernel_rfl
theorem GE{x:List Nat}{as:List J}:g9 "join" x as=gd (Nat.ble x.length cj) (qE as λa=>na a λi=>gL i λxs=>gO (lz xs) λys=>gd (Nat.ble ((fX x ys).length+x.length) cj) (M.ret (.str (fX x ys)))):=by kernel_rfl
theorem FO:m6 K "strip" "str.strip":=⟨by intro s E x t pl Q h;show bY _ _ _ _ _ _;with_reducible exact PySem.GM.strip h,λρ x t as us ha=>by rw[EE];exact aX.gd λq=>aX.as1 (wv:=sW K _ x t) ha λa u hv=>aX.oStr (wv:=λu=>sW K _ x t [u]) hv λy t2=>aX.leaf λ_ Q E s _ h=>SC.stripChars (λt' k=>h k _ (.str _ t' (Ci x y))) (xp q)⟩
theorem DU:m6 K "lstrip" "str.lstrip":=⟨by intro s E x t pl Q h;show bY _ _ _ _ _ _;with_reducible exact PySem.GM.lstrip h,λρ x t as us ha=>by rw[Bn];exact aX.gd λq=>aX.as1 (wv:=sW K _ x t) ha λa u hv=>aX.oStr (wv:=λu=>sW K _ x t [u]) hv λy t2=>aX.leaf λ_ Q E s _ h=>SC.lstripChars (λt' k=>h k _ (.str _ t' (yY x y))) (xp q)⟩
theorem FJ:m6 K "lower" "str.lower":=⟨by intro s E x t pl Q h;show bY _ _ _ _ _ _;with_reducible exact PySem.GM.lower h,λρ x t as us ha=>by rw[EK];exact aX.gd λq=>aX.as0 (wv:=sW K _ x t) ha (aX.gd λq2=>aX.leaf λ_ Q E s _ h=>SC.lower (Dy (uJ x q2) (by rw[List.length_map];exact eV q)) (h _ _ (.str _ _ (uJ x q2))))⟩
theorem JB:m6 K "upper" "str.upper":=⟨by intro s E x t pl Q h;show bY _ _ _ _ _ _;with_reducible exact PySem.GM.upper h,λρ x t as us ha=>by rw[EB];exact aX.gd λq=>aX.as0 (wv:=sW K _ x t) ha (aX.gd λq2=>aX.leaf λ_ Q E s _ h=>SC.upper (Dy (uH x q2) (by rw[List.length_map];exact eV q)) (h _ _ (.str _ _ (uH x q2))))⟩
theorem Kq:m6 K "find" "str.find":=⟨by intro s E x t pl Q h;show bY _ _ _ _ _ _;with_reducible exact PySem.GM.find h,λρ x t as us ha=>by rw[HB];exact aX.gd λq=>aX.as1 (wv:=sW K _ x t) ha λa u hv=>aX.oStr (wv:=λu=>sW K _ x t [u]) hv λy t2=>aX.on1 λd e=>aX.leaf λ_ Q E s _ h=>by obtain⟨⟨l⟩⟩:=y;cases e;refine SC.find ?_;rw[show Txt.find x {cps:={toList:=[d]}}=_ from Eu x d];exact h _ _ (.int _ _)⟩
theorem Cf:m6 K "isdigit" "str.isdigit":=⟨by intro s E x t pl Q h;show bY _ _ _ _ _ _;with_reducible exact PySem.GM.isdigit h,λρ x t as us ha=>by rw[yS];exact aX.gd λq=>aX.as0 (wv:=sW K _ x t) ha (aX.gd λq2=>aX.leaf λ_ Q E s _ h=>SC.isdigit (by rw[show Txt.isdigit x=_ from Aa (g:=gM) λc hc=>zI c (qK q2 c hc)];exact h _ _ (.bool _)))⟩
theorem Ax:m6 K "isalnum" "str.isalnum":=⟨by intro s E x t pl Q h;show bY _ _ _ _ _ _;with_reducible exact PySem.GM.isalnum h,λρ x t as us ha=>by rw[zV];exact aX.gd λq=>aX.as0 (wv:=sW K _ x t) ha (aX.gd λq2=>aX.leaf λ_ Q E s _ h=>SC.isalnum (by rw[show Txt.isalnum x=_ from Aa (g:=uz) λc hc=>yq c (qK q2 c hc)];exact h _ _ (.bool _)))⟩
theorem LV:m6 K "join" "str.join":=⟨by intro s E x t pl Q h;show bY _ _ _ _ _ _;with_reducible exact PySem.GM.join h,λρ x t as us ha=>by rw[GE];exact aX.gd λq=>aX.as1 (wv:=sW K _ x t) ha λa u hv=>aX.oObj (wv:=λu=>sW K _ x t [u]) hv λi c r e σ ρ' s hp hr ht=>bB.gL λxs e1=>bB.gO λys e2=>bB.gd λq2=>bB.leaf hr ht λQ E h=>by obtain⟨vs,n,g1,l1,_⟩:=hr.list e1 (b6 hp e);obtain⟨l,rfl,rfl⟩:=Ek l1 e2;refine SC.join (l:=l) (cF g1) U (joinOk_of ?_) λt' k=>h k _ (.str _ t' (EO l));rw[List.length_map];exact Nat.le_trans (y0 (sep:=x.cps.toList) l) (eV q2)⟩
theorem dk{a b:aV}(h:(a==b)=S):a=b:=beq_iff_eq.mp h
theorem Ng{nm:aV}{id:String}(e:KU nm=Y id):m6 K nm id:=by
 have key:∀{x:aV}{i:String}{o:Option String},(∀{nm:aV},(nm==x)=S->m6 K nm i)->(o=Y id->m6 K nm id)->(bif nm==x then Y i else o)=Y id->m6 K nm id:=λ{x i o} H H2 e=>by induction q:nm==x with
  |true=>rw[q]at e;exact(sI e)▸H q
  |false=>rw[q]at e;exact H2 e
 exact key (λq=>dk q▸FO) (key (λq=>dk q▸DU) (key (λq=>dk q▸FJ) (key (λq=>dk q▸JB) (key (λq=>dk q▸Kq) (key (λq=>dk q▸Cf) (key (λq=>dk q▸Ax) (key (λq=>dk q▸LV) λe=>by exact nS e))))))) e
end
section
open PySem PySem.W PySem.Calls PyProof.Rows
open Builtin.Str StrLaws
variable{T:aT}{W:Wd}{c:Fx}{A:ch}{K:Cx}{σ σ':St}{ρ ρ':cM}{s s₁:aF}{E:ar->aF->Prop}{X:Nat->St->Prop}{h h':cT}{pos:da}{n:Nat}{as:List J}{us:List ar}{a:J}{u:ar}
theorem x8{x:aV}{d:Nat}(h:x.cps.toList=[d]):x=⟨#[d]⟩:=by obtain⟨⟨l⟩⟩:=x;cases h;rfl
abbrev bW(K:Cx)(n:String)(u:ar):WT ar:=PW K (call (.builtin n) [u] [])
abbrev tW(K:Cx)(n:String)(u:ar):WT ar:=PW K (call (.type n) [u] [])
theorem NE{n:Nat}(h:n<=16777216):(n:Int)<2^63:=gW (gh.mpr h) (show(16777216:Int)<2^63 by decide)
theorem PX(ha:RV ρ a u):aX K ρ (bW K "len" u) (VE a) Rv:=by induction ha with
 |str z t e=>subst e;exact aX.gd λq=>aX.leaf λ_ Q E s _ h=>PySem.P.len_str (kt.mpr (NE (cP▸xp q))) (h _ _ (by exact(show z.length=z.cps.toList.length from ce.symm)▸.int _ _))
 |obj ea=>
  refine λσ ρ' s hp hr ht=>bB.gL λxs e1=>bB.gd λq=>bB.leaf hr ht λQ E h=>?_;obtain⟨vs,n,g1,l1,_⟩:=hr.list e1 (b6 hp ea);have e2:vs.toArray.size=xs.length:=by rw[List.size_toArray,l1.length]
  refine PySem.Calls.call_len_list (cF g1) (by exact e2▸NE (eV q)) ?_;exact e2▸h _ _ (.int _ _)
 |_=>exact aX.no
theorem Lz(i:Int):(if i<0 then-i else i)=((i.natAbs:Nat):Int):=by split<;>omega
theorem J7(id:String):pN K (.builtin id) (nX id):=λρ as us ha=>aX.as1 (wv:=λus=>PW K (call (.builtin id) us [])) ha λa u hu=>
 aX.bif (λq=>by exact(eq_of_beq q)▸PX hu) λ_=>aX.bif (λq=>by
  exact(eq_of_beq q)▸aX.oInt (wv:=bW K "abs") hu λi t=>aX.leaf λ_ Q E s _ h=>PyProof.Rows.call_abs_int λu tk=>by rw[Lz];exact h _ _ (.int _ _)) λ_=>aX.bif (λq=>by
  exact(eq_of_beq q)▸aX.oInt (wv:=bW K "chr") hu λi t=>aX.gd λq=>aX.leaf λ_ Q E s _ h=>by rw[ax,decide_eq_true_eq,decide_eq_true_eq]at q;exact PyProof.Rows.chr_of_range q.1 (eN (iO q.2) (show(128:Int)<=1114111 by decide)) (h _ _ (.str _ _ U))) λ_=>aX.bif (λq=>by
  exact(eq_of_beq q)▸aX.oStr (wv:=bW K "ord") hu λz t=>aX.on1 λd e=>aX.leaf λ_ Q E s _ h=>by exact(x8 e)▸PySem.P.ord_of_char (h _ _ (.int _ _))) λ_=>aX.no
theorem Ko(i:Int):(am (toString i)).cps.toList=sU i:=by rw[aV.ofString_eq_toList];show(toString i).toList.map vk=_;unfold sU;induction i with
 |ofNat n=>refine(show aI (Int.ofNat n<0)=I from decide_eq_false (dh.mpr (d8 n)))▸?_;rfl
 |negSucc n=>refine(decide_eq_true (Int.negSucc_lt_zero n))▸?_;show(("-"++toString (n+1)):String).toList.map vk=_;refine String.toList_append▸List.map_append▸?_;rfl
theorem GP:∀d,d<58->gM d=S->vv ⟨#[d]⟩=Y ((d-48:Nat):Int):=by decide+kernel
theorem Ba{d:Nat}(h:gM d=S):vv ⟨#[d]⟩=Y ((d-48:Nat):Int):=GP d (Nat.lt_succ_of_le (eV (bN.mp h).2)) h
theorem ER{i:Int}(h:small i=S):i.natAbs.log2<1920:=by
 have h':i.natAbs<2^63:=of_decide_eq_true h
 by_cases h0:i.natAbs=0
 ·rw[h0];decide
 ·exact Nat.lt_trans ((Nat.log2_lt h0).mpr h') (by decide)
theorem L9{es:List (List Nat×J)}{kvs:List (aV×ar)}(r:bP (yw ρ) es kvs):∀{vs:List ar},bP (λ(q:aV×ar)(v:ar)=>∃t:qV,v=.str q.1 t) kvs vs->∀ρ',bP (RV ρ') (es.map λp=>J.str p.1) vs:=by induction r with
 |nil=>intro vs h ρ';cases h;exact .nil
 |cons p _ ih=>intro vs h ρ';cases h with
  |cons p2 q2=>obtain⟨t,rfl⟩:=p2;exact .cons (.str _ t p.1) (ih q2 ρ')
theorem JS:∀{kvs:List (aV×ar)}{C:List ar->Prop},(∀vs,bP (λ(q:aV×ar)(v:ar)=>∃t:qV,v=.str q.1 t) kvs vs->C vs)->KdlKeysS kvs C
 |[],C,h=>h [] .nil
 |q::r,C,h=>λt=>JS λvs hv=>h _ (.cons ⟨t,U⟩ hv)
theorem MV(C:fD K.c K.A)(ha:RV ρ a u):aX K ρ (tW K "list" u) (CS a) Rv:=aX.oObj (wv:=tW K "list") ha λi c r e σ ρ' s hp hr ht=>bB.gH λo e1=>by have ea:=b6 hp e;induction o with
 |list xs=>
  refine bB.gd λq=>bB.put ht U λQ E h=>?_;obtain⟨vs,n,g1,l1,_⟩:=hr.list e1 ea;exact PySem.call_list_seq c (.inl U) g1 U U (λh' c' kk g2=>h _ h' s.toks _ (List.prefix_append _ _) (hr.new (as:=[s.heap.objs.size]) (λm F=>F.keeps kk) (λb hb o ho=>kk b o ho) (List.nodup_cons.mpr ⟨List.not_mem_nil,List.nodup_nil⟩) (λb hb=>(List.mem_singleton.mp hb)▸hr.free)
   (.list (vs:=vs) (n:=c') g2 (l1.mono λ_ _=>RV.mono (List.prefix_append _ _)))) (RV.new hr)) (by exact List.size_toArray▸l1.length▸cP▸eV q)
 |dict es=>
  intro Q E hw;obtain⟨vy,hw⟩:=oA (cg hw);have hh:=C.hand (by exact hr.hand▸vy▸rfl);refine bB.gd (K:=K) (R:=Rv) (q:=Nat.ble es.length cj) (m:=o4 (.list (es.map λp=>.str p.1))) (w:=tW K "list" (.ref c)) (λq=>bB.put ht U λQ E hq=>?_) Q E hw;obtain⟨ds,n,g1,l1,nd,ns,_⟩:=hr.dict e1 ea;obtain⟨kvs,p1,p2⟩:=zw l1;have hd:s.heap.DictOf (lF K.W.prog K.W.w) c kvs:=⟨_,ds.toArray,n,g1,⟨U,U,U⟩,U,v8 l1,p1,wM p2 nd⟩;obtain⟨o,ho,hD⟩:=m9.mp hd;rw[g1]at ho;obtain rfl:=sI ho;obtain⟨m,F,_⟩:=hr.fr;have hm:c∈addrs K.c ρ':=fV ea (.head _);refine kdl_list_keysS hh F (hr.newsCons hm g1) (.head _) hD ns (by exact p2.length▸eV q) λag n2 h' tk=>JS λvs hvs F' N' hab=>?_;have f1:ng K.W K.c ρ' ag:=xA (L:=0) hr N' (.head _) c (λ_=>Nat.ne_of_lt (hab (c,_) (.head _))) λp hp=>hab p (.tail _ hp);have kk:∀b∈addrs K.c ρ',m0 s.heap h' b:=λb hb o ho=>by
   by_cases q:b=c
   ·obtain rfl:=Eq.symm q
    rw[g1]at ho;exact(sI ho)▸(N' _ (.tail _ (.head _))).1
   ·exact(N' (b,o) (.tail _ (.tail _ (kQ hb q ho)))).1
  exact hq _ h' tk _ (List.prefix_append _ _) (hr.new (o:=.list (es.map λp=>.str p.1)) (as:=[ag]) (λm' Fm=>by exact(oP Fm.ns F.ns)▸F') kk (List.nodup_cons.mpr ⟨List.not_mem_nil,List.nodup_nil⟩) (λb hb=>(List.mem_singleton.mp hb)▸f1) (.list (vs:=vs) (n:=n2) (N' _ (.head _)).1 (L9 p2 hvs _))) (RV.new hr)
 |_=>exact bB.no
theorem Ke(ha:RV ρ a u):aX K ρ (tW K "str" u) (WR a) Rv:=by induction ha with
 |int i t=>exact aX.gd λq=>aX.leaf λ_ Q E s _ h=>PySem.P.str_of_int (ER q) (h _ _ (.str _ _ (Ko i)))
 |str z t e=>exact aX.leaf λ_ Q E s _ h=>PySem.P.str_of_str (h s.toks _ (.str _ _ e))
 |_=>exact aX.no
theorem Mr(C:fD K.c K.A)(id:String):pN K (.type id) (pF id):=λρ as us ha=>aX.as1 (wv:=λus=>PW K (call (.type id) us [])) ha λa u hu=>aX.bif (λq=>by exact(eq_of_beq q)▸Ke hu) λ_=>aX.bif (λq=>by exact(eq_of_beq q)▸aX.oStr (wv:=tW K "int") hu λz t=>aX.on1 λd e=>aX.gd λq=>aX.leaf λ_ Q E s _ h=>by exact(x8 e)▸PySem.W.KIN.call_text (Ba q) (by show 1<=640;decide) (h _ _ (.int _ _))) λ_=>aX.bif (λq=>by exact(eq_of_beq q)▸MV C hu) λ_=>aX.no
end
section
open PySem PySem.W PySem.Calls PyProof.Rows
variable{T:aT}{W:Wd}{c:Fx}{A:ch}{K:Cx}{σ σ':St}{ρ ρ':cM}{s s₁:aF}{E:ar->aF->Prop}{X:Nat->St->Prop}{h h':cT}{pos ap cp fp:da}{Γ:cI}{n:Nat}{as:List J}{us:List ar}{a:J}{u:ar}
structure Uh(W:Wd)(ak:Nat):Prop where
 get:n6 W.K ak "__class__"=S
 dict:mm W.K ak=S
 find:eF W.K (.ref ak) "__class__"=Y (Y (.builtin "object.__class__"))
 spec:rY W.K (.builtin "object.__class__") "__get__"=Y (Y (.builtin "getset_descriptor.__get__"))
 takes:takesIn W.K (.builtin "object.__class__")=Y S
 mro:mroIn W.K ak (.type "object")=Y S
noncomputable abbrev Jz:List String:=["int","str","bool","NoneType"]
structure Gi(W:Wd):Prop where
 cc:∀ak C,po ak=S->wj C=S->iQ W.K (.ref ak) (.ref C)=Y (uM ak C)
 ct:∀ak n,po ak=S->sS n=S->iQ W.K (.ref ak) (.type n)=Y I
 bc:∀n C,n∈Jz->wj C=S->iQ W.K (.type n) (.ref C)=Y I
 bt:∀n m,n∈Jz->sS m=S->iQ W.K (.type n) (.type m)=Y (n==m||(n=="bool"&&m=="int"))
 own:∀ak,po ak=S->Uh W ak
structure Fe(K:Cx)(Γ:cI)(k:Nat):Prop extends Fd K where
 m:Gm K.T K.W
 y:Gy K.T K.W
 w:Gw K.T K.W
 i:Gi K.W
 GO:m5 K.T K.W k Γ
 R:cw K.A k
theorem Ar(F:Fe K Γ n){Cx:Nat}:pN K (.ref Cx) (wL K.T Γ Cx):=by induction q:nk K.T Cx with
 |true=>exact G5 F.g F.w F.GO F.C F.R q
 |false=>exact Jm F.g F.m F.GO F.C F.R q
inductive I9(K:Cx)(u:ar)(m:List J->List (Nat×J)->M J):Prop where
 |mk (k:ww K.W u) (r:wx K u m):I9 K u m
theorem A4(F:Fe K Γ n){v:J}(hv:ka K.T v=S)(hR:RV ρ v u):I9 K u (pg K.T Γ v):=by induction hR with
 |bi id=>exact⟨iB id,(J7 id).rule⟩
 |ty id=>exact⟨FG id,(Mr F.C id).rule⟩
 |sref a=>induction e:(d7 a K.T.meth).isSome with
  |true=>refine⟨tj (F.m.keepC a e),?_⟩;show wx K (.ref a) (λas ks=>bif(d7 a K.T.meth).isSome then q7 ks (wL K.T Γ a as)else fL Γ a as ks);exact e▸(Ar F).rule
  |false=>
   refine⟨tj (F.m.keepF a ?_),?_⟩
   ·have hv:((d7 a K.T.meth).isSome||K.T.fns.any (Nat.beq a))=S:=hv
    rw[e,gC]at hv;exact hv
   ·show wx K (.ref a) (λas ks=>bif(d7 a K.T.meth).isSome then q7 ks (wL K.T Γ a as)else fL Γ a as ks)
    exact e▸(F.GO K.c K.A a F.C F.R.call).rule
 |_=>exact nT hv
theorem Gl(F:Fe K Γ n){f:aV}{v:J}{as:List Expr}{ks:List eU}{ms:List (M J)}{kms:List (Nat×M J)}(hg:iE K.c.V f=S)(hv:K.T.glob.lookup f=Y v)(i:fW K as ms)(ik:sv K ks kms):b8 K (.Call (.Name f fp) as ks cp) (aN K.T Γ v ms kms):=λρ=>aX.gd λq σ ρ' s hp hr ht Q E hw=>kA (jX F.g F.C hg hv hr λu hR=>by obtain⟨k1,k2⟩:=A4 F q (hR ρ');exact yn (fs:=[]) F.g k1 i ik k2 .nil σ ρ' s (List.prefix_refl _) hr ht Q E hw)
theorem DP:b8 K (.Dict [] [] pos) jx:=λρ σ ρ' s hp hr ht=>bB.go U λQ E h=>wpAny_Dict_empty (h _ _ s.toks _ (List.prefix_append _ _) (hr.newPush _ (.dict (ds:=[]) (n:=0) (bA _ U) .nil List.nodup_nil hr.sysSize)) (RV.new hr) ht)
theorem aX.pure1{α β γ:Type}{t:o7 α}{w:α->WT γ}{m:M β}{R:cM->β->γ->Prop}{C:α->Prop}(H:∀Q E s,(∀tk a,C a->Q a (eJ s s.heap tk))->PW K t Q E s)(af:∀a,C a->aX K ρ (w a) m R):aX K ρ (λQ E s=>PW K t (λa s'=>w a Q E s') E s) m R:=λσ ρ' s hp hr ht Q E h=>cq (n:=1) ht (H _ _ s λtk a c htk=>af a c σ ρ' (eJ s s.heap tk) hp hr htk Q E h)
def NQ(K:Cx)(out:aV)(es:List Expr)(v:ar):WT ar:=λQ E s=>match v with
 |.str y _=>(out++y).length<=gA/\PW K (joinParts (out++y) (evalEach es K.c.env)) Q E s
 |_=>False
inductive mX(K:Cx):List Expr->List (M J)->Prop where
 |nil:mX K [] []
 |no {e:Expr} {es:List Expr} {ms:List (M J)}:mX K (e::es) (M.no::ms)
 |con {k:Nat} {p:da} {x:aV} {es:List Expr} {ms:List (M J)}:mX K es ms->mX K (.Constant (.str x) k p::es) (D (.str x.cps.toList)::ms)
 |fmt {e:Expr} {p:da} {m:M J} {es:List Expr} {ms:List (M J)}:b8 K e m->mX K es ms->mX K (.FormattedValue e (-1) .none p::es) (m::ms)
theorem qu{out y:aV}{acc:List Nat}(ho:out.cps.toList=acc):(out++y).cps.toList=acc++y.cps.toList:=by rw[wZ,ho]
theorem wW{x:aV}{l:List Nat}(e:x.cps.toList=l)(q:l.length<=cj):x.length<=gA:=by rw[<-e,ce]at q;rw[cP];exact q
theorem SP{es:List Expr}{ms:List (M J)}(i:mX K es ms):∀{ρ:cM}{acc:List Nat}{out:aV},out.cps.toList=acc->acc.length<=cj->aX K ρ (PW K (joinParts out (evalEach es K.c.env))) (mL acc ms) Rv:=by induction i with
 |nil=>exact λ{_ _ out} ho hl=>aX.leaf λ_ Q E s _ h=>joinParts_nil (h _ _ (.str out _ ho)) (wW ho hl)
 |no=>exact λ_ _=>(aX.no:aX K _ _ M.no Rv)
 |@con k p x es ms _ ih=>intro ρ acc out ho hl;show aX K ρ _ ((D (.str x.cps.toList)).bind λv=>jz v λx=>gd (Nat.ble (acc++x).length cj) (mL (acc++x) ms)) Rv;exact((jU (K:=K) (pos:=p) (k:=.str x) k U ρ).bind λρ1 va a p1 ha=>aX.oStr (wv:=NQ K out es) ha λy t=>aX.gd λq=>(ih (qu ho) (eV q)).pre λQ E s h=>⟨wW (qu ho) (eV q),h⟩).pre λQ E s h=>joinParts_cons (bu h (λv s h=>by induction v<;>exact h) λ_ _ x=>x)
 |@fmt e p m es ms ie _ ih=>
  intro ρ acc out ho hl;show aX K ρ _ (m.bind λv=>jz v λx=>gd (Nat.ble (acc++x).length cj) (mL (acc++x) ms)) Rv;exact((ie ρ).bind λρ1 va a p1 ha=>aX.oStr (wv:=λv Q E s=>PW K (formatField v se) (λv s=>NQ K out es v Q E s) E s) ha λy t=>aX.gd λq=>aX.pure1 (C:=λv=>∃t',v=.str y t')
   (λQ E s h=>formatField_str (λt' tk=>h tk _ ⟨t',U⟩) (wW U (Nat.le_trans (by exact List.length_append▸Nat.le_add_left _ _) (eV q)))) λv hv=>by obtain⟨t',rfl⟩:=hv;exact(ih (qu ho) (eV q)).pre λQ E s h=>⟨wW (qu ho) (eV q),h⟩).pre λQ E s h=>joinParts_cons (bu (wpAny_FormattedValue_plain h) (λv s h=>by induction v<;>exact h) λ_ _ x=>x)
theorem KQ{e1 e2:Expr}{es:List Expr}{ms:List (M J)}(i:mX K (e1::e2::es) ms):b8 K (.JoinedStr (e1::e2::es) pos) (zp ms):=λρ=>(SP i (acc:=[]) (out:=se) U (Nat.zero_le _)).pre λQ E s h=>JoinedStr_many h
def MW(K:Cx)(cp:da)(name:aV)(as:List Expr)(ov:ar):WT ar:=λQ E s=>∀pl,PW K (hU ov name pl) (λp s₂=>PW K (n9 cp p.1 p.2 (gY cp (dF as K.c.env)) (f7 cp (dH [] K.c.env))) Q E s₂) E s
theorem IW{es:List Expr}{ms:List (M J)}(i:fW K es ms):(gY pos (dF es K.c.env)).all (λx=>!x.1)=S:=by induction i with
 |nil=>rfl
 |cons he ie _ ih=>rw[fF he];exact ih
theorem rb{o:Expr}{name:aV}{as:List Expr}{ms:List (M J)}{Q:ar->aF->Prop}(hs:nq o=S)(pC:(ap.endLine==cp.line)=S)(hp:jo as=S)(i:fW K as ms)
  (h:PW K (rV o K.c.env) (λov s₁=>MW K cp name as ov Q E s₁) E s):PW K (rV (.Call (.Attribute o name ap) as [] cp) K.c.env) Q E s:=by
 show bY _ _ _ _ _ _;rw[arm_eval_Call,lQ hs];refine ay (bu h (λov s₁ h₁=>ay (cX ?_)) λ_ _ e=>e);have hform:methodCallForm (as.length+([]:List eU).length) (gY cp (dF as K.c.env)) (f7 cp (dH [] K.c.env))=S:=by have jC:=eV (bN.mp hp).2;unfold methodCallForm;rw[IW i];simp[f7,dH];exact bE [_] [(.v 0,.l 20)] 0 [1] (.a (.v 0) (.l 1)) (.l 30) U jC
 have hpos:methodCallPos S o K.c.env ap cp=pure cp:=by unfold methodCallPos;rw[pC];rfl
 unfold methodCall;refine hform▸?_;refine ay (bS ?_);unfold calleeOf;refine(if_pos U)▸?_;exact bu (h₁ _) (λp s₂ h₂=>ay (wpAny_of_eq hpos h₂)) λ_ _ e=>e
theorem kb(G:Gd K.T K.W){f:ar}{first:List ar}{es:List Expr}{ms:List (M J)}{m:List J->M J}(hk:ww K.W f)(i:fW K es ms)
  (cr:∀ρ1 as us,ρ<+:ρ1->bP (RV ρ1) as us->aX K ρ1 (PW K (call f (first++us) [])) (m as) Rv):aX K ρ (PW K (n9 pos f first (gY pos (dF es K.c.env)) (f7 pos (dH [] K.c.env)))) ((db ms).bind m) Rv:=
 ((qI (pos:=pos) i ρ).bind λρ1 us as p1 hl=>(cr ρ1 as us p1 hl).side (P:=K.W.K.In) λ_ _ _ hr=>G.X.keeps hr.stays).pre λQ E s h=>jr (P:=K.W.K.In) (by rw[j0 i];rfl) hk (hG i U (bu h (λvs s h=>eP h) λ_ _ x=>x))
theorem Nn{name:aV}{as:List Expr}{ov:ar}{m:M J}{f:ar}{first:List ar}(H:∀(Q:ar×List ar->aF->Prop) E s,(∀tk,Q (f,first) (eJ s s.heap tk))->∀pl,PW K (hU ov name pl) Q E s)
  (af:aX K ρ (PW K (n9 cp f first (gY cp (dF as K.c.env)) (f7 cp (dH [] K.c.env)))) m Rv):aX K ρ (MW K cp name as ov) m Rv:=λσ ρ' s hp hr ht Q E h pl=>
 aX.pure1 (K:=K) (ρ:=ρ) (R:=Rv) (t:=hU ov name pl) (w:=λp=>PW K (n9 cp p.1 p.2 (gY cp (dF as K.c.env)) (f7 cp (dH [] K.c.env)))) (C:=λp=>p=(f,first)) (λQ E s h=>H Q E s (λtk=>h tk _ U) pl) (λp e=>e▸af) σ ρ' s hp hr ht Q E h
end
section
open PySem PySem.W PySem.Calls PyProof.Rows
variable{T:aT}{W:Wd}{c:Fx}{A:ch}{K:Cx}{σ σ':St}{ρ ρ':cM}{s s₁:aF}{E:ar->aF->Prop}{X:Nat->St->Prop}{h h':cT}{pos ap cp fp:da}{Γ:cI}{n:Nat}{as:List J}{us:List ar}{a:J}{u:ar}
theorem AX{i:Nat}{b:bf}{r:List bf}(ea:ρ[i]?=Y (b::r))(ha:bP (RV ρ) as us):aX K ρ (PW K (call (.builtin "list.append") (.ref b::us) [])) (qE as λv=>gL i λxs=>gd (Nat.blt xs.length cj) ((tQ i (.list (xs++[v]))).bind λ_=>M.ret .none)) Rv:=
 aX.as1 (wv:=λus=>PW K (call (.builtin "list.append") (.ref b::us) [])) ha λv u hv σ ρ' s hp hr ht=>bB.gL λxs e1=>bB.gd λq=>bB.put ht U λQ E h=>by obtain⟨vs,k,g1,l1,_⟩:=hr.list e1 (b6 hp ea);exact append_at g1 (λh' hs g=>h ρ' h' s.toks .none (List.prefix_refl _) (hr.upd (b6 hp ea) (.head _) hs (show rE K.T K.W ρ' h' (.list (xs++[v])) (b::r)from(⟨vs++[u],k+1,by rw[g,List.push_toArray],l1.append (.cons (hv.mono hp) .nil),by assumption⟩:t4 ρ' h' (xs++[v]) b r))) .none) (by rw[List.size_toArray,<-l1.length,cP];exact Nat.le_of_lt (eV q))
theorem Ed{d:bf}{es:List (List Nat×J)}{ds:List b7}{k:Nat}{x:aV}{t:qV}{Q:ar->aF->Prop}(g:s.heap.get? d=Y (fJ ds k))(l:bP (mH K.W ρ) es ds)(ns:(d==fZ)=I)
  (h:∀u,RV ρ ((fE x.cps.toList es).getD .none) u->Q u (eJ s s.heap (s.toks+1))):PW K (call (.builtin "dict.get") [.ref d,.str x t] []) Q E s:=by
 have hm:=kq (n:=k) g l;refine qU eA hm.typeIs iR (PySem.F.args_dict_get_2 _ _) (meets_dict_get (lF K.W.prog K.W.w) d (fz K.W.prog K.W.w x t) ns) ⟨_,hm,?_⟩;cases qk l x with
 |yes v u a b r=>exact b▸h u (by exact a▸r)
 |no a b=>exact b▸h .none (by exact a▸.none)
theorem Cb{d:bf}{es:List (List Nat×J)}{ds:List b7}{k:Nat}{x:aV}{t:qV}{a:J}{u:ar}{Q:ar->aF->Prop}(g:s.heap.get? d=Y (fJ ds k))(l:bP (mH K.W ρ) es ds)(ns:(d==fZ)=I)(ha:RV ρ a u)
  (h:∀u,RV ρ ((fE x.cps.toList es).getD a) u->Q u (eJ s s.heap (s.toks+1))):PW K (call (.builtin "dict.get") [.ref d,.str x t,u] []) Q E s:=by
 have hm:=kq (n:=k) g l;refine qU eA hm.typeIs iR (mn _ _ _) (mV (lF K.W.prog K.W.w) d (fz K.W.prog K.W.w x t) ns _) ⟨_,hm,?_⟩;cases qk l x with
 |yes v u a b r=>exact b▸h u (by exact a▸r)
 |no a b=>exact b▸h _ (by exact a▸ha)
theorem za{d:bf}{ds:List b7}{k:Nat}(g:s.heap.get? d=Y (fJ ds k)){es:List (List Nat×J)}(l:bP (mH K.W ρ) es ds){Q:ar×List ar->aF->Prop}{pl:o7 Bool}(h:Q (.builtin "dict.get",[.ref d]) s):PW K (hU (.ref d) "get" pl) Q E s:=
 lh (kq (n:=k) g l).typeIs mv eA nj (kq (n:=k) g l).noDict h
theorem Jl{b:bf}{vs:List ar}{k:Nat}(g:s.heap.get? b=Y (listOf vs.toArray k)){Q:ar×List ar->aF->Prop}{pl:o7 Bool}(h:Q (.builtin "list.append",[.ref b]) s):PW K (hU (.ref b) "append" pl) Q E s:=
 lh (cF g).typeIs PySem.F.plainAttrs_list PySem.F.slot_list_append PySem.F.type_list_append (λb e=>by cases e;exact⟨_,g,U⟩) h
theorem yP(F:Fe K Γ n)(f:Nat){fs:List J}{first:List ar}(hf:bP (RV ρ) fs first):∀ρ1 as us,ρ<+:ρ1->bP (RV ρ1) as us->aX K ρ1 (PW K (call (.ref f) (first++us) [])) (fL Γ f (fs++as) []) Rv:=λρ1 as us hp ha=>(F.GO K.c K.A f F.C F.R.call).rule ρ1 _ _ _ _ ((hf.mono λ_ _=>RV.mono hp).append ha) .nil
theorem qr{name:aV}{es:List Expr}{ov:ar}{m:M J}{f:ar}{first:List ar}(hr:K.R σ ρ s.heap)(ht:0<s.toks)(H:∀(Q:ar×List ar->aF->Prop) E,(∀tk,Q (f,first) (eJ s s.heap tk))->∀pl,PW K (hU ov name pl) Q E s)
  (af:aX K ρ (PW K (n9 cp f first (gY cp (dF es K.c.env)) (f7 cp (dH [] K.c.env)))) m Rv):bB K σ ρ s (MW K cp name es ov) m Rv:=λQ E h pl=>
 cq (n:=1) ht (H _ _ (λtk htk=>af σ ρ (eJ s s.heap tk) (List.prefix_refl _) hr htk Q E h) pl)
theorem H8(F:Fe K Γ n){nm:aV}{k i:Nat}{b:bf}{r:List bf}{es:List Expr}{ms:List (M J)}(hk:K.T.names[k]?=Y nm)(ea:ρ[i]?=Y (b::r))(is:fW K es ms):aX K ρ (MW K cp nm es (.ref b)) (JN K.T Γ i k nm ms) Rv:=λσ ρ' s hp hr ht=>bB.gH λo e1=>by have ea':=b6 hp ea;induction o with
 |list xs=>refine bB.gd λq=>?_;obtain⟨vs,n',g1,l1,_⟩:=hr.list e1 ea';exact(dk q)▸qr hr ht (λQ E h pl=>Jl g1 (h s.toks)) (kb F.g (iB _) is λρ1 as us p1 ha=>AX (b6 p1 ea') ha)
 |dict ds=>refine bB.gd λq=>?_;obtain⟨es',n',g1,l1,_,ns,_⟩:=hr.dict e1 ea';refine(dk q)▸?_;refine qr hr ht (λQ E h pl=>za g1 l1 (h s.toks)) (kb F.g (iB _) is λρ1 as us p1 ha=>aX.as1 (wv:=λus=>PW K (call (.builtin "dict.get") (.ref b::us) [])) ha λv u hv=>aX.oStr (wv:=λu=>PW K (call (.builtin "dict.get") [.ref b,u] [])) hv λx t σ2 ρ2 s2 hp2 hr2 ht2=>bB.gD λds2 e2=>bB.go U λQ E h=>?_);obtain⟨es2,n2,g2,l2,_⟩:=hr2.dict e2 (b6 hp2 (b6 p1 ea'));exact Ed g2 l2 ns λu hu=>h ρ2 s2.heap (s2.toks+1) u (List.prefix_refl _) hr2 hu (Nat.succ_pos _)
 |inst Cx fs=>
  refine bB.gO λf e2=>bB.gd λq=>?_;rw[ax,dt]at q;obtain⟨m1,m2,m3,m4⟩:=F.m.meth Cx k f nm e2 hk q.2;obtain⟨d,ds,k',g1,g2,l,_⟩:=hr.inst e1 ea';obtain⟨m,Fm,_⟩:=hr.fr;have hgl:getL nm ds=Y cV:=by cases qb F.c l hk with
   |yes v' u' l1 l2 l3=>rw[l1]at q;exact nT q.1
   |no l1 l2=>exact l2
  exact qr hr ht (λQ E h pl=>method_inst Fm F.g.X (on g1 g2) m1 m2 m3 hgl (h s.toks)) (kb F.g (tj m4) is (yP F f (.cons (.obj ea') .nil)))
 |_=>exact bB.no
theorem G7(F:Fe K Γ n){nm:aV}{k Cx:Nat}{es:List Expr}{ms:List (M J)}(hk:K.T.names[k]?=Y nm)(is:fW K es ms):aX K ρ (MW K cp nm es (.ref Cx)) (lv K.T Γ Cx k nm ms) Rv:=by unfold lv;induction e1:d7 Cx K.T.sdict with
 |some ds=>refine aX.gd λq=>λσ ρ' s hp hr ht=>?_;obtain⟨lo,ds',n',hl,l0⟩:=F.t.sdict _ _ e1;have ho:=hr.stays _ _ (F.g.X _ _ hl);have l1:bP (mH K.W ρ') ds ds':=l0.mono λ_ _=>qh.toD;exact(dk q)▸qr hr ht (λQ E h pl=>za (k:=n') ho l1 (h s.toks)) (kb F.g (iB _) is λρ1 as us p1 ha=>aX.as2 (wv:=λus=>PW K (call (.builtin "dict.get") (.ref Cx::us) [])) ha λv u b d hv hb=>aX.oStr (wv:=λu=>PW K (call (.builtin "dict.get") [.ref Cx,u,d] [])) hv λx t σ2 ρ2 s2 hp2 hr2 ht2=>bB.go U λQ E h=>Cb (k:=n') (hr2.stays _ _ (F.g.X _ _ hl)) (l0.mono λ_ _=>qh.toD) lo (hb.mono hp2) λu hu=>h ρ2 s2.heap (s2.toks+1) u (List.prefix_refl _) hr2 hu (Nat.succ_pos _))
 |none=>refine aX.gO λf e2=>λσ ρ' s hp hr ht=>?_;obtain⟨z1,z2,mc,z3,z4,z5⟩:=F.m.cls Cx k f nm e1 e2 hk;obtain⟨m,Fm,_⟩:=hr.fr;exact qr hr ht (λQ E h pl=>method_of_cls Fm F.g.X z1 (cls_val Fm F.g.X z3 z4 z5 U (h (s.toks+1)))) (kb F.g (tj z2) is (yP F f (fs:=[]) .nil))
theorem GL(F:Fe K Γ n){ty:String}{nm:aV}{es:List Expr}{ms:List (M J)}(is:fW K es ms):aX K ρ (MW K cp nm es (.type ty)) (AQ K.T ty nm ms) Rv:=aX.gd λq=>by rw[ax]at q;exact(eq_of_beq q.1)▸(dk q.2)▸Nn (λQ E s h pl=>D6 h) (kb F.g (iB _) is λρ1 as us p1 ha=>KO F.g F.y ha)
theorem JK(F:Fe K Γ n){o:Expr}{name:aV}{as:List Expr}{ms:List (M J)}{mo:M J}{k:Nat}(hs:nq o=S)(pC:(ap.endLine==cp.line)=S)(hp:jo as=S)(hk:K.T.names[k]?=Y name)(ix:b8 K o mo)(i:fW K as ms):
  b8 K (.Call (.Attribute o name ap) as [] cp) (bk K.T Γ mo k name ms):=λρ=>((ix ρ).bind λρ1 va a p1 ha=>show aX K ρ1 (MW K cp name as va) _ Rv by
  induction ha with
  |str x t e=>subst e;refine aX.gd λq=>?_;obtain⟨id,hid⟩:=bL.mp q;exact Nn (λQ E s h pl=>(Ng hid).1 (h s.toks)) (kb F.g (iB id) i λρ1 as us p1 ha=>(Ng hid).2 ρ1 x t as us ha)
  |obj ea=>exact H8 F hk ea i
  |sref Cx=>exact G7 F hk i
  |ty ty=>exact GL F i
  |_=>exact aX.no).pre λQ E s h=>rb hs pC hp i h
end
section
open PySem PySem.W PySem.Calls PyProof.Rows
variable{T:aT}{W:Wd}{c:Fx}{A:ch}{K:Cx}{σ σ':St}{ρ ρ':cM}{s s₁:aF}{E:ar->aF->Prop}{X:Nat->St->Prop}{h h':cT}{pos ap cp fp:da}{Γ:cI}{n:Nat}{as:List J}{us:List ar}{a:J}{u:ar}
theorem Ky(G:Gd K.T K.W){x y z:aV}{t:qV}{k1 k2:Nat}{p1 p2:da}{d:Nat}(hy:y.cps.toList=[d])(hz:z.cps.toList=[])(q:Nat.ble x.cps.toList.length cj=S):
  aX K ρ (MW K cp "replace" [.Constant (.str y) k1 p1,.Constant (.str z) k2 p2] (.str x t)) (M.ret (.str (x.cps.toList.filter λc=>!Nat.beq c d))) Rv:=λσ ρ' s hp hr ht=>bB.go U λQ E h pl=>by
 obtain rfl:=x8 hy;obtain⟨⟨zl⟩⟩:=z;cases hz;have i:fW K [.Constant (.str ⟨⟨[d]⟩⟩) k1 p1,.Constant (.str ⟨⟨[]⟩⟩) k2 p2] [D (.str [d]),D (.str [])]:=.cons U (jU k1 U) (.cons U (jU k2 U) .nil);show bY _ _ _ _ _ _
 with_reducible refine PySem.GM.replace ?_
 refine(cq (n:=1) ht (jr (P:=K.W.K.In) (by rfl) (iB _) (hG i U (dC (gV (dC (gV (gK (eP ⟨G.X.keeps hr.stays,?_⟩))) U)) U))));refine PySem.SC.replace (Nat.ne_of_gt ht) (Nat.succ_ne_zero _) (Nat.ne_of_lt (Nat.lt_succ_self _)) (by rfl) (by show x.length+(x.length+1)*0<=16777216;simp only[Nat.mul_zero];exact cP▸xp q) λt' k htk=>h ρ' s.heap k _ (List.prefix_refl _) hr (.str _ t' (DN x d)) htk
theorem Hj(G:Gd K.T K.W){o:Expr}{mo:M J}{y z:aV}{k1 k2:Nat}{p1 p2:da}(hs:nq o=S)(pC:(ap.endLine==cp.line)=S)(io:b8 K o mo):b8 K (.Call (.Attribute o "replace" ap) [.Constant (.str y) k1 p1,.Constant (.str z) k2 p2] [] cp) (we mo y.cps.toList z.cps.toList):=λρ=>((io ρ).bind λρ1 va a p ha=>aX.oStr (wv:=MW K cp "replace" [.Constant (.str y) k1 p1,.Constant (.str z) k2 p2]) ha λx t=>aX.on1 λd hy=>aX.on0 λhz=>aX.gd λq=>Ky G hy hz q).pre λQ E s h=>rb hs pC U (.cons U (jU k1 (v:=.str y.cps.toList) U) (.cons U (jU k2 (v:=.str z.cps.toList) U) .nil)) h
inductive QE(p:J×J)(q:ar×ar):Prop where
 |mk (k:Sv p.1 q.1) (v:Sv p.2 q.2):QE p q
theorem Jr{M:vp}{e:Expr}{v:J}{env:pv}{Q:ar->aF->Prop}(hv:yD e=Y v)(h:∀u tk,Sv v u->Q u (eJ s s.heap tk)):bY M A (rV e env) Q E s:=by replace hv:=Rk ns hv;obtain⟨k,n,p,rfl,hv⟩:=hv;induction k with
 |none=>obtain rfl:=sI hv;exact wpAny_Constant_none (h _ _ λ_=>.none)
 |bool b=>obtain rfl:=sI hv;exact wpAny_Constant_bool (h _ _ λ_=>.bool _)
 |int i=>obtain rfl:=sI hv;exact kx (h _ _ λ_=>.int _ _)
 |str x=>obtain rfl:=sI hv;exact gV (h _ _ λ_=>.str _ _ U)
 |_=>exact nS hv
inductive G3(kl:List (Option Expr))(vl:List Expr)(kvs:List (J×J)):Prop where
 |mk (a:kl.all (·.isSome)=S) (b:kl.length=vl.length) (c:kl.length=kvs.length) (d:∀{s:aF}{env:pv}{pos:da}{prog:oU}{w:sL}{A:ch}{E:ar->aF->Prop}{Q:List (ar×ar)->aF->Prop},(∀vs tk,bP QE kvs vs->Q vs (eJ s s.heap tk))->bY (cB prog w) A (evalPairs (pairTrees kl vl env pos)) Q E s):G3 kl vl kvs
theorem CZ:∀{kl:List (Option Expr)}{vl:List Expr}{kvs:List (J×J)},uF kl vl=Y kvs->G3 kl vl kvs
 |[],[],_,e=>by obtain rfl:=sI e;exact⟨U,U,U,λ{s} _ _ _ _ _ _ _ h=>evalPairs_nil (h [] s.toks .nil)⟩
 |[],_::_,_,e=>by cases e
 |_::_,[],_,e=>by cases e
 |k::ks,v::vl,_,e=>by obtain⟨k',rfl,e⟩:=aA.mp e;obtain⟨a,q1,e⟩:=aA.mp e;obtain⟨b,q2,e⟩:=aA.mp e;obtain⟨r,q3,rfl⟩:=aP.mp e;obtain⟨i1,i2,i3,i4⟩:=CZ q3;refine⟨by simp only[List.all_cons,i1];rfl,congrArg (·+1) i2,congrArg (·+1) i3,λ{s} _ _ _ _ _ _ _ h=>?_⟩;exact evalPairs_cons (Jr q1 λu tk hu=>ay (Jr (s:=eJ s s.heap tk) q2 λu2 tk2 hu2=>ay (cX (aL (i4 (s:=eJ s s.heap tk2) λvs tk3 hvs=>h _ tk3 (.cons ⟨hu,hu2⟩ hvs))))))
structure y2{ae:Type}[DecidableEq ae](kv:J->Option ae)(mk:ae->J)(knd:KeyKind W.prog W.w ae):Prop where
 of:∀a k,kv a=Y k->a=mk k
 is:∀ρ u k,RV ρ (mk k) u->knd.is k u=S
 eq:∀k b t,nK (mk k) b=Y t->∃l,kv b=Y l/\t=aI (k=l)
theorem OO:y2 (W:=W) WA (λk=>.str k.cps.toList) (strKind W.prog W.w)where
 of:=λa k e=>by induction a with
  |str l=>obtain rfl:=sI e;rfl
  |_=>exact nS e
 is:=λρ u k hv=>by cases hv with
  |str x t h=>rw[show k=x from by induction k;induction x;cases sb.mp h;rfl];exact fz W.prog W.w x t
 eq:=λk b t e=>by induction b with
  |str l=>exact⟨⟨l.toArray⟩,U,(aQ e).symm.trans (xF k ⟨l.toArray⟩).symm⟩
  |_=>exact nS e
theorem PL:y2 (W:=W) VM (λk=>.int k) (intKind W.prog W.w)where
 of:=λa k e=>by induction a with
  |int l=>obtain rfl:=sI e;rfl
  |_=>exact nS e
 is:=λρ u k hv=>by cases hv;exact intKind_is W.prog W.w _ _
 eq:=λk b t e=>by induction b with
  |int l=>exact⟨l,U,(aQ e).symm⟩
  |_=>exact nS e
section
variable{ae:Type}[DecidableEq ae]{kv:J->Option ae}{mk:ae->J}{knd:KeyKind K.W.prog K.W.w ae}
inductive Re(kv:J->Option ae)(p:J×J)(q:ae×ar):Prop where
 |mk (k:kv p.1=Y q.1) (v:Sv p.2 q.2):Re kv p q
inductive ND(kv:J->Option ae)(knd:KeyKind K.W.prog K.W.w ae)(kvs:List (J×J))(vs:List (ar×ar))(ks:List ae):Prop where
 |mk (sY:List (ae×ar)) (c:Carries knd vs sY) (e:sY.map (·.1)=ks) (nd:ks.Nodup) (l:bP (Re kv) kvs sY):ND kv knd kvs vs ks
theorem BP(O:y2 kv mk knd){kvs:List (J×J)}{vs:List (ar×ar)}{ks:List ae}(e:zg kv kvs=Y ks)(a:bP QE kvs vs):ND kv knd kvs vs ks:=by induction a generalizing ks with
 |nil=>exact(sI e)▸⟨[],trivial,U,List.nodup_nil,.nil⟩
 |@cons p q r r' h1 h2 ih=>obtain⟨k,q1,e⟩:=aA.mp e;obtain⟨ks,q2,e⟩:=aA.mp e;induction q3:ks.any λx=>aI (x=k)with
  |true=>replace e:=q3▸e;exact nS e
  |false=>replace e:=q3▸e;obtain rfl:=sI e;obtain⟨sY,c1,c2,c3,c4⟩:=ih q2;obtain⟨a1,a2⟩:=h1;replace a1:=(O.of _ _ q1)▸a1;refine⟨(k,_)::sY,⟨O.is [] _ _ (a1 []),U,c1⟩,by simp only[List.map_cons,c2],List.nodup_cons.mpr ⟨λhm=>?_,c3⟩,.cons ⟨q1,a2⟩ c4⟩;rw[List.any_eq_true.mpr ⟨k,hm,decide_eq_true U⟩]at q3;exact nF q3
inductive YP(kvs:List (ae×ar))(k:ae)(o:Option J):Prop where
 |yes (v:J) (u:ar) (e:o=Y v) (f:tG kvs k=Y u) (r:Sv v u):YP kvs k o
 |no (e:o=.none) (f:tG kvs k=cV):YP kvs k o
theorem Ow(O:y2 kv mk knd){a:J}{k:ae}(ha:kv a=Y k){kvs:List (J×J)}{sY:List (ae×ar)}{o:Option J}(r:bP (Re kv) kvs sY)(e:Ob a kvs=Y o):YP sY k o:=by induction r with
 |nil=>exact(sI e)▸.no U rfl
 |@cons p q r r' h1 h2 ih=>
  obtain⟨t,e1,e⟩:=aA.mp e;obtain⟨k1,v1⟩:=h1;replace e1:=(O.of _ _ k1)▸e1;obtain⟨l,e2,e3⟩:=O.eq _ _ _ e1;replace e2:=ha▸e2;obtain rfl:=sI e2;have hv:tG (q::r') k=if t=S then Y q.2 else tG r' k:=by unfold tG;refine(List.find?_cons)▸e3▸?_;induction t<;>rfl
  induction t with
  |true=>exact(sI e)▸.yes _ _ U hv v1
  |false=>cases ih e with
   |yes v u e f r=>exact .yes v u e (hv.trans f) r
   |no e f=>exact .no e (hv.trans f)
theorem AG{e:Expr}:b8 K e M.no:=λρ=>aX.no
theorem wz(F:Fc K)(O:y2 kv mk knd){kl:List (Option Expr)}{vl:List Expr}{dp:da}{kvs:List (J×J)}{k d:Expr}{mk md:M J}(pC:(ap.endLine==cp.line)=S)(hl:uF kl vl=Y kvs){ks:List ae}(hks:zg kv kvs=Y ks)(hne:kvs≠[])(jC:kvs.length<=15)
  (hp:jo [k,d]=S) (sk:fR k=I) (sd:fR d=I) (ik:∀p,b8 (K.to (K.c.hold p) K.A) k mk) (id:∀p,b8 (K.to (K.c.hold p) K.A) d md):b8 K (.Call (.Attribute (.Dict kl vl dp) "get" ap) [k,d] [] cp) (qA kvs mk md):=λρ0 σ ρ s _ hr ht Q E hw=>by
 obtain⟨s1,s2,s3,s4⟩:=CZ hl;have i:fW K [k,d] [M.no,M.no]:=.cons sk AG (.cons sd AG .nil);refine rb (by rfl) pC hp i ?_;refine wpAny_Dict_walk (knd:=knd) s1 s2 (λq=>hne (List.eq_nil_of_length_eq_zero (by rw[<-s3,q];rfl))) (by exact s3▸jC) (cq (n:=1) (s:=eJ s _ s.toks) ht (s4 (s:=eJ s (s.heap.push {cls:=.type "dict",data:=.dict #[]}) s.toks) λvs tk hvs htk0=>?_));obtain⟨sY,c1,c2,c3,c4⟩:=BP O hks hvs;refine⟨sY,c1,cT.DictOf.new ..,λh' hD hs pl=>?_⟩;replace hD:=(merged_nil_of_nodup _ (by exact c2▸c3))▸hD;have f1:=hr.free;have hr2:=(hr.push ({cls:=.type "dict",data:=.dict #[]}:iS)).ext f1 hs.extBut;obtain⟨o,ho,hoD⟩:=m9.mp hD;refine lh hD.typeIs mv eA nj hD.mapOf.noDict (jr (P:=K.W.K.In) (by rw[j0 i];rfl) (iB _) (hG i U (dC ?_ (fF sk))));refine ik (s.heap.objs.size,.obj o) ρ σ ρ (eJ s h' (tk+vs.length)) (List.prefix_refl _) (hr2.hold f1 ho) (Nat.lt_of_lt_of_le htk0 (Nat.le_add_right _ _)) _ _ (cC (uZ (cg hw)) (λa σ1 hP ρ1 h1 tk1 ua hp1 hr1 ha ht1=>dC ?_ (fF sd)) λ_ _ z=>z.elim);refine id (s.heap.objs.size,.obj o) ρ1 σ1 ρ1 (eJ s h1 tk1) (List.prefix_refl _) hr1 ht1 _ _ (cC (uZ (cg hP)) (λb σ2 hP2 ρ2 h2 tk2 ub hp2 hr2 hb ht2=>gK (eP ⟨F.g.X.keeps hr2.stays,?_⟩)) λ_ _ z=>z.elim);obtain⟨f2,ho2⟩:=hr2.heldFree;have hD2:h2.DictOf knd s.heap.objs.size sY:=m9.mpr ⟨o,ho2,hoD⟩;have hr5:=hr2.unhold (λ_ q=>by cases q);induction e2:Ob a kvs with
 |none=>replace hP2:=e2▸hP2;exact hP2.elim
 |some ov=>
  replace hP2:=e2▸hP2;obtain⟨ky,hky⟩:∃ky,kv a=Y ky:=by induction c4 with
   |nil=>exact absurd U hne
   |cons h1 _=>obtain⟨t,e1,_⟩:=aA.mp e2;replace e1:=(O.of _ _ h1.1)▸e1;obtain⟨l,e,_⟩:=O.eq _ _ _ e1;exact⟨l,e⟩
  have hkey:=O.is _ _ _ (by exact(O.of _ _ hky)▸ha);refine qU eA hD2.typeIs iR (mn _ _ _) (mV knd s.heap.objs.size hkey hr.sysSize ub) ⟨_,hD2.mapOf,?_⟩;have fin:∀u,RV ρ2 (ov.getD b) u->Q u (eJ s h2 (tk2+1)):=λu hu=>hP2 ρ2 h2 (tk2+1) u (hp1.trans hp2) hr5 hu (Nat.succ_pos _);cases Ow O hky c4 e2 with
  |yes v u e f r=>subst e;exact f▸fin u (r _)
  |no e f=>subst e;exact f▸fin ub hb
end
theorem Jp(F:Fc K){kl:List (Option Expr)}{vl:List Expr}{dp:da}{kvs:List (J×J)}{k d:Expr}{mk md:M J}(pC:(ap.endLine==cp.line)=S)(hl:uF kl vl=Y kvs)(hO:Yd kvs=S)
  (hp:jo [k,d]=S) (sk:fR k=I) (sd:fR d=I) (ik:∀p,b8 (K.to (K.c.hold p) K.A) k mk) (id:∀p,b8 (K.to (K.c.hold p) K.A) d md):b8 K (.Call (.Attribute (.Dict kl vl dp) "get" ap) [k,d] [] cp) (qA kvs mk md):=by
 unfold Yd at hO;rw[ax,ax,dt,dz]at hO;obtain⟨⟨h1,h2⟩,h3⟩:=hO;have hne:kvs≠[]:=λq=>by rw[q]at h1;exact nF h1
 rcases h3 with h3|h3
 ·obtain⟨ks,hks⟩:=bL.mp h3
  exact wz F OO pC hl hks hne (eV h2) hp sk sd ik id
 ·obtain⟨ks,hks⟩:=bL.mp h3
  exact wz F PL pC hl hks hne (eV h2) hp sk sd ik id
end
section
open PySem PySem.W PySem.Calls PyProof.Rows
variable{T:aT}{W:Wd}{c:Fx}{A:ch}{K:Cx}{σ σ':St}{ρ ρ':cM}{s s₁:aF}{E:ar->aF->Prop}{X:Nat->St->Prop}{h h':cT}{pos ap cp fp:da}{Γ:cI}{n:Nat}{v:J}{u:ar}
inductive Zb(K:kJ)(h:cT)(H:H)(v:J)(u:ar):Prop where
 |mk (t:ar) (P:cT->Prop) (x:KitX K u t P) (p:P h) (ne:u≠.builtin "__main__.__loader__#opaque") (one:∀(c:J)(uc:ar)(b:Bool),Sv c uc->lA v H c=Y b->iQ K t uc=Y b):Zb K h H v u
theorem gq{α:Type}{q:Bool}{o:Option α}{b:α}(e:(bif q then o else .none)=Y b):q=S/\o=Y b:=by induction q with
 |true=>exact⟨U,e⟩
 |false=>exact nS e
theorem uy{n:String}(h:sS n=S):n="int"\/n="bool"\/n="str":=by unfold sS at h;rw[dz,dz,beq_iff_eq,beq_iff_eq,beq_iff_eq,or_assoc]at h;exact h
inductive OC(v:J)(H:H)(b:Bool):J->ar->Prop where
 |ty (n:String) (h:sS n=S) (e:OM v H n=Y b):OC v H b (.ty n) (.type n)
 |cls (C:Nat) (h:wj C=S) (e:Jv v H C=Y b):OC v H b (.sref C) (.ref C)
theorem MF{H:H}{c:J}{uc:ar}{b:Bool}(hc:Sv c uc)(e:lA v H c=Y b):OC v H b c uc:=by have hc:=hc [];induction hc with
 |ty n=>obtain⟨h1,h2⟩:=gq e;exact .ty n h1 h2
 |sref C=>obtain⟨h1,h2⟩:=gq e;exact .cls C h1 h2
 |_=>exact nS e
theorem xM(G:Gi W){H:H}{n:String}(hn:n∈Jz)(hT:∀m,sS m=S->OM v H m=Y (n==m||(n=="bool"&&m=="int")))(hC:∀C,Jv v H C=Y I)(c:J)(uc:ar)(b:Bool)(hc:Sv c uc)(e:lA v H c=Y b):iQ W.K (.type n) uc=Y b:=by cases MF hc e with
 |ty m h e'=>exact(G.bt n m hn h).trans ((hT m h).symm.trans e')
 |cls C h e'=>exact(G.bc n C hn h).trans ((hC C).symm.trans e')
theorem Fw(G:Gi W)(hr:dB T W c σ ρ h)(hv:RV ρ v u){c0:J}{b0:Bool}(e0:lA v σ.heap c0=Y b0){u0:ar}(h0:Sv c0 u0):Zb W.K h σ.heap v u:=by
 have ty3:∀{P:String->Prop},P "int"->P "bool"->P "str"->∀m,sS m=S->P m:=λa b c m h=>by
  rcases uy h with rfl|rfl|rfl
  ·exact a
  ·exact b
  ·exact c
 induction hv with
 |none=>exact⟨_,_,kitx_none,trivial,(λq=>by cases q),xM G (n:="NoneType") (by decide) (ty3 U U U) λ_=>rfl⟩
 |bool y=>exact⟨_,_,kitx_bool,trivial,(λq=>by cases q),xM G (n:="bool") (by decide) (ty3 U U U) λ_=>rfl⟩
 |int y tt=>exact⟨_,_,kitx_int,trivial,(λq=>by cases q),xM G (n:="int") (by decide) (ty3 U U U) λ_=>rfl⟩
 |str y tt hy=>exact⟨_,_,kitx_str,trivial,(λq=>by cases q),xM G (n:="str") (by decide) (ty3 U U U) λ_=>rfl⟩
 |@obj i a r ea=>
  have hD:∃ak,vE σ.heap i=Y ak:=by cases MF h0 e0 with
   |ty m h e=>obtain⟨ak,q,_⟩:=aP.mp e;exact⟨ak,q⟩
   |cls C h e=>obtain⟨ak,q,_⟩:=aP.mp e;exact⟨ak,q⟩
  obtain⟨ak,hD⟩:=hD;have hD':=hD;unfold vE at hD';induction e1:σ.heap[i]? with
  |none=>replace hD':=e1▸hD';cases hD'
  |some o=>replace hD':=e1▸hD';induction o with
   |inst D' fs=>obtain⟨k,e⟩:=gq hD';cases e;obtain⟨d,ds,n,g1,g2,_⟩:=hr.inst e1 ea;obtain⟨q1,q2,q3,q4,q5,q6⟩:=G.own ak k;refine⟨.ref ak,_,kitx_own (x:=a) (ox:=tD ak d) (od:=fJ ds n) q1 q2 q3 q4 q5 q6,on g1 g2,(λq=>by cases q),λc uc b hc e=>?_⟩;cases MF hc e with
    |ty m h e'=>have e2:(vE σ.heap i).map (λ_=>I)=Y b:=e';replace e2:=hD▸e2;exact(G.ct ak m k h).trans e2
    |cls C h e'=>have e2:(vE σ.heap i).map (λak=>uM ak C)=Y b:=e';replace e2:=hD▸e2;exact(G.cc ak C k h).trans e2
   |_=>cases hD'
 |_=>cases MF h0 e0 with
  |ty m h e=>cases e
  |cls C h e=>cases e
theorem zA{H:H}{c:J}{r:List J}{b:Bool}(e:jm v H (c::r)=Y b):∃b0,lA v H c=Y b0:=by obtain⟨t,q,_⟩:=aA.mp e;exact⟨t,q⟩
theorem DT{K:kJ}{t:ar}{H:H}(one:∀(c:J)(uc:ar)(b:Bool),Sv c uc->lA v H c=Y b->iQ K t uc=Y b){cs:List J}{us:List ar}{b:Bool}(a:bP Sv cs us)(e:jm v H cs=Y b):kitAny K t us=Y b:=by induction a with
 |nil=>exact e
 |@cons c _ _ _ p q ih=>obtain⟨t',e1,e⟩:=aA.mp e;unfold kitAny;refine(one c _ t' p e1)▸?_;induction t' with
  |true=>exact e
  |false=>exact ih e
theorem Ae(G:Gd K.T K.W)(C:fD K.c K.A){cs:List Expr}:∀{vs:List J}{Q:List ar->aF->Prop}{s:aF},ol K.T K.c.V cs=Y vs->K.R σ ρ s.heap->(∀us,bP Sv vs us->Q us s)->PW K (oV (gY pos (dF cs K.c.env))) Q E s:=by induction cs with
 |nil=>intro _ _ _ e hr h;obtain rfl:=sI e;exact gK (h [] .nil)
 |cons x r ih=>intro _ _ _ e hr h;obtain⟨nm,e1,e⟩:=aA.mp e;obtain⟨v,e2,e⟩:=aA.mp e;obtain⟨vs,e3,rfl⟩:=aP.mp e;obtain⟨q1,q2⟩:=gq e2;replace e1:=X1 ns e1;obtain⟨y,p,rfl,e1⟩:=e1;exact(sI e1)▸dC (jX G C q1 q2 hr λu hu=>ih e3 hr λus hus=>h _ (.cons hu hus)) (fF U)
def Ya(K:Cx)(x:Expr)(vs:List J):Prop:=∀(σ:St)(ρ:cM)(s:aF)(v:J)(u:ar)(b:Bool)(Q:ar->aF->Prop)(E:ar->aF->Prop)(pos:da),K.R σ ρ s.heap->RV ρ v u->jm v σ.heap vs=Y b->0<s.toks->(∀h' tk,K.R σ ρ h'->0<tk->Q (.bool b) (eJ s h' tk))->
 PW K (oV (gY pos (dF [x] K.c.env))) (λus s₁=>K.W.K.In s₁.heap/\PW K (call (.builtin "isinstance") (u::us) []) Q E s₁) E s
theorem Ju(F:Fe K Γ n){e x:Expr}{me:M J}{vs:List J}{f:aV}(he:fR e=I)(hx:fR x=I)(ie:b8 K e me)(hg:iE K.c.V f=S)(hv:K.T.glob.lookup f=Y (.bi "isinstance"))(k:vs≠[]->vs.length<=1000->Ya K x vs):
  b8 K (.Call (.Name f fp) [e,x] [] cp) (jv me vs):=λρ=>aX.gd λq=>λσ ρ s hp hr ht Q E hw=>kA (jX F.g F.C hg hv hr λf' hf'=>by
 have hf':=hf' [];cases hf';rw[dt,cO]at q;have hvs:vs≠[]:=λz=>by rw[z]at q;exact nF q.1
 have jC:vs.length<=1000:=Nat.le_of_not_lt λz=>by rw[show Nat.blt 1000 vs.length=S from Nat.ble_eq_true_of_le z]at q;exact nF q.2
 have i:fW K [e,x] [me,M.no]:=.cons he ie (.cons hx AG .nil);refine jr (P:=K.W.K.In) (by rw[j0 i];rfl) (iB _) (hG i U (dC ?_ (fF he)));refine((ie ρ).bind (R:=Rv) (ah:=Rv) (f:=λva Q E s=>PW K (oV (gY cp (dF [x] K.c.env))) (λus s₁=>K.W.K.In s₁.heap/\PW K (call (.builtin "isinstance") (va::us) []) Q E s₁) E s) (g:=λv s=>gO (jm v s.heap vs) yes s) λρ1 va a p1 ha σ1 ρ2 s1 hp2 hr1 ht1 Q E hw=>?_).pre (w':=λQ E s=>PW K (rV e K.c.env) (λva s=>PW K (oV (gY cp (dF [x] K.c.env))) (λus s₁=>PW K (evalAll []) (λks s₂=>K.W.K.In s₂.heap/\PW K (call (.builtin "isinstance") (va::us) []) Q E s₂) E s₁) E s) E s) (λQ E s h=>bu h (λv s h=>bu h (λus s h=>eP h) λ_ _ x=>x) λ_ _ x=>x) σ ρ s (List.prefix_refl _) hr ht Q E hw;have hw:kH _ _ (gO (jm a σ1.heap vs) yes σ1):=hw;induction e2:jm a σ1.heap vs with
 |none=>rw[e2]at hw;exact hw.elim
 |some b=>rw[e2]at hw;have hw:vK K ρ2 s1 Rv Q (.bool b) σ1:=hw;exact k hvs jC σ1 ρ2 s1 a va b _ _ cp hr1 (ha.mono hp2) e2 ht1 λh' tk hr' htk=>hw ρ2 h' tk _ (List.prefix_refl _) hr' (.bool b) htk)
theorem JF(F:Fe K Γ n){e:Expr}{me:M J}{cs:List Expr}{vs:List J}{f:aV}{k:Nat}{p:da}(he:fR e=I)(ie:b8 K e me)(hg:iE K.c.V f=S)(hv:K.T.glob.lookup f=Y (.bi "isinstance"))(hcs:ol K.T K.c.V cs=Y vs):b8 K (.Call (.Name f fp) [e,.Tuple cs k p] [] cp) (jv me vs):=
 Ju F he U ie hg hv λhne jC σ ρ s v u b Q E pos hr hu hb ht hQ=>dC (sH (Ae F.g F.C hcs hr λus hus=>⟨by refine hus.length▸cP▸?_;exact Nat.le_trans jC (by decide),gK (by have hr2:=hr.push ({cls:=.type "tuple",data:=.seq us.toArray}:iS);have XK:=F.g.X.keeps hr2.stays;refine⟨XK,?_⟩;induction hus with
  |nil=>exact absurd U hne
  |cons h1 h2=>obtain⟨b0,hb0⟩:=zA hb;obtain⟨t,P,x,p,ne,one⟩:=Fw F.i hr2 hu hb0 h1;exact cq (n:=1) (s:=eJ s _ s.toks) ht (kia_tup x XK p (bA _ U) (DT one (.cons h1 h2) hb) ne λtk htk=>hQ _ tk hr2 htk))⟩)) (fF U)
theorem Jq(F:Fe K Γ n){e x:Expr}{me:M J}{vs:List J}{f:aV}(he:fR e=I)(hx:fR x=I)(ie:b8 K e me)(hg:iE K.c.V f=S)(hv:K.T.glob.lookup f=Y (.bi "isinstance"))(hcs:ol K.T K.c.V [x]=Y vs):b8 K (.Call (.Name f fp) [e,x] [] cp) (jv me vs):=
 Ju F he hx ie hg hv λhne jC σ ρ s v u b Q E pos hr hu hb ht hQ=>bu (Ae F.g F.C hcs hr λus hus=>(show K.W.K.In s.heap/\PW K (call (.builtin "isinstance") (u::us) []) Q E s from by have XK:=F.g.X.keeps hr.stays;refine⟨XK,?_⟩;obtain⟨nm,e1,e⟩:=aA.mp hcs;obtain⟨v1,e2,e⟩:=aA.mp e;obtain⟨_,e3,rfl⟩:=aP.mp e;obtain rfl:=sI e3;cases hus with
  |cons h1 h2=>
   cases h2;obtain⟨b0,hb0,e4⟩:=aA.mp hb;have:b0=b:=by induction b0<;>exact aQ e4
   obtain rfl:=Eq.symm this;obtain⟨t,P,x,p,ne,one⟩:=Fw F.i hr hu hb0 h1;exact cq (n:=1) ht (kia_one x XK p (one _ _ _ h1 hb0) ne λtk htk=>hQ _ tk hr htk))) (λ_ _ x=>x) λ_ _ x=>x
end
section
open PySem PySem.W PySem.Calls PyProof.Rows
variable{T:aT}{W:Wd}{c:Fx}{A:ch}{K:Cx}{ρ:cM}{pos ap cp fp:da}{Γ:cI}{n m:Nat}{ak:Dn}
structure Tw(T:aT)(W:Wd):Prop where
 g:Gd T W
 t:Gt T W
 c:Gc T W
 x:Gx T W
 m:Gm T W
 y:Gy T W
 w:Gw T W
 i:Gi W
theorem Tw.fe(F:Tw T W)(GO:m5 T W m Γ)(C:fD c A)(R:cw A m):Fe ⟨T,W,c,A⟩ Γ m where
 g:=F.g
 t:=F.t
 u:=(BR.le R (Nat.zero_le _) (Nat.le_trans (by decide:64<=150) (Nat.le_add_left _ _))).units
 c:=F.c
 xg:=Pn F.c F.y F.g
 C:=C
 n:=LQ
 b:=RZ
 xs:=Q0 F.c F.y F.g
 x:=F.x
 m:=F.m
 y:=F.y
 w:=F.w
 i:=F.i
 GO:=GO
 R:=R
section
variable{α β γ:Type}{t:o7 α}{R:cM->β->α->Prop}{k:M β}
theorem eR.no:eR K t (M.no:M β) R:=λ_=>aX.no
theorem eR.gd{q:Bool}(af:q=S->eR K t k R):eR K t (Mine.Internal.gd q k) R:=λρ=>aX.gd λh=>af h ρ
theorem eR.gO{o:Option γ}{k:γ->M β}(af:∀x,o=Y x->eR K t (k x) R):eR K t (Mine.Internal.gO o k) R:=λρ=>aX.gO λx h=>af x h ρ
theorem eR.on0{l:List γ}(af:l=[]->eR K t k R):eR K t (Mine.Internal.q7 l k) R:=λρ=>aX.on0 λh=>af h ρ
theorem eR.on1{l:List γ}{k:γ->M β}(af:∀x,l=[x]->eR K t (k x) R):eR K t (Mine.Internal.qE l k) R:=λρ=>aX.on1 λx h=>af x h ρ
theorem eR.on2{l:List γ}{k:γ->γ->M β}(af:∀x y,l=[x,y]->eR K t (k x y) R):eR K t (Mine.Internal.Lk l k) R:=λρ=>aX.on2 λx y h=>af x y h ρ
end
theorem tc{e:Expr}:xo K e M.no:=λ_ _ _ _ _ _ _ hw=>hw.elim
theorem DE{e:Expr}{q:Bool}{k:M It}(af:q=S->xo K e k):xo K e (gd q k):=by induction q with
 |true=>exact af rfl
 |false=>exact tc
def Cm(e:Expr):Bool:=eC S (un:=λop _ _=>match op with
  |.Not=>I
  |_=>S) (bo:=λ_ _ _=>I) (ife:=λ_ _ _ _=>I) (e:=e)
structure SD(T:aT)(W:Wd)(m:Nat)(ak:Dn):Prop where
 e:∀c A,fD c A->cw A m->∀e,b8 ⟨T,W,c,A⟩ e (ak.e c.V e)
 te:∀c A,fD c A->cw A m->∀e,Cm e=S->lN ⟨T,W,c,A⟩ e (bJ (ak.e c.V e))
 t:∀c A,fD c A->cw A m->∀e,lN ⟨T,W,c,A⟩ e (ak.t c.V e)
 i:∀c A,fD c A->cw A m->∀e,xo ⟨T,W,c,A⟩ e (ak.i c.V e)
theorem cu{q:Bool}(h:(!q)=S):q=I:=dt _|>.mp h
theorem jT{d:Expr->M J}(aj:∀e,b8 K e (d e)):∀{es:List Expr},es.any fR=I->fW K es (es.map d)
 |[],_=>.nil
 |e::r,h=>by rw[List.any_cons,cO]at h;exact .cons h.1 (aj e) (jT aj h.2)
theorem rO{as:List Expr}(h:jo as=S):as.any fR=I:=cu (bN.mp h).1
theorem g8{x:aV}{k:Nat}(h:lB T x=Y k):T.names[k]?=Y x:=by obtain⟨hlt,hp,_⟩:=List.findIdx?_eq_some_iff_getElem.mp h;exact(List.getElem?_eq_getElem hlt)▸(eq_of_beq hp)▸rfl
theorem qL{op:fQ}{r:Expr}(h:ko r=I):gz op r=I:=by cases r<;>first|rfl|exact nF h
inductive Nj(es:List Expr):Expr->Prop where
 |mk (k:Nat) (p:da):Nj es (.Tuple es k p)
theorem BC{e:Expr}{es:List Expr}(h:iT e=Y es):Nj es e:=by cases e<;>first|exact nS h|exact(sI h)▸⟨_,_⟩
structure iI(K:Cx)(x:Expr)(m:M J):Prop where
 e:b8 K x m
 t:lN K x (bJ m)
theorem iI.no{e:Expr}:iI K e M.no:=⟨eR.no,(eR.no:lN K e M.no)⟩
theorem iI.gd{e:Expr}{q:Bool}{k:M J}(af:q=S->iI K e k):iI K e (Mine.Internal.gd q k):=by induction q with
 |true=>exact af rfl
 |false=>exact iI.no
theorem Lh{o:fQ}{b:Bool}(h:Oi o=Y b):o=bif b then .NotIn else .In:=by induction o with
 |In=>exact sI h▸rfl
 |NotIn=>exact sI h▸rfl
 |_=>exact nS h
section
variable(F:Tw T W)(GO:m5 T W m Γ)(aj:SD T W m ak)
include F GO aj
theorem Hx(C:fD c A)(R:cw A m){l:Expr}{os:List fQ}{rs:List Expr}:iI ⟨T,W,c,A⟩ (.Compare l os rs pos) (VK T ak c.V l os rs):=by have Fa:=(F.fe GO C R).toFa;have ie:=aj.e c A C R;induction os using List.casesOn with
 |nil=>exact iI.no
 |cons o os=>induction os using List.casesOn with
  |nil=>induction rs using List.casesOn with
   |nil=>exact iI.no
   |cons r rs=>induction rs using List.casesOn with
    |cons _ _=>exact iI.no
    |nil=>show iI ⟨T,W,c,A⟩ _ (Ff T ak c.V l o r);unfold Ff;induction q:iT r with
     |some es=>cases BC q with
      |mk k p=>induction q2:Oi o with
       |none=>exact iI.no
       |some neg=>refine iI.gd λq3=>?_;refine(Lh q2)▸?_;have i:=jT ie (cu q3);exact⟨Di (by induction neg<;>rfl) λρ=>wO neg (ie l) i,zh (by induction neg<;>rfl) λρ=>wO neg (ie l) i⟩
     |none=>exact iI.gd λq=>⟨Di (qL (cu q)) λρ=>Ct Fa (ie l) (ie r),zh (qL (cu q)) λρ=>Ct Fa (ie l) (ie r)⟩
  |cons p os=>induction os using List.casesOn with
   |cons _ _=>exact iI.no
   |nil=>
    rcases rs with _|⟨y,_|⟨z,_|⟨_,_⟩⟩⟩
    ·exact iI.no
    ·exact iI.no
    ·exact iI.gd λq=>⟨GB Fa (qL (cu q)) (ie l) (ie y) (ie z),Eh Fa (qL (cu q)) (ie l) (ie y) (ie z)⟩
    ·exact iI.no
end
end
section
open PySem PySem.W PySem.Calls PyProof.Rows
variable{T:aT}{W:Wd}{c:Fx}{A:ch}{K:Cx}{ρ:cM}{pos ap cp fp:da}{Γ:cI}{n m:Nat}{ak:Dn}{sc:cL}
inductive NR(q:List (Option Expr)×List Expr):Expr->Prop where
 |mk (p:da):NR q (.Dict q.1 q.2 p)
theorem KG{e:Expr}{q:List (Option Expr)×List Expr}(h:JY e=Y q):NR q e:=by replace h:=Yc ns h;obtain⟨a,b,p,rfl,h⟩:=h;obtain rfl:=sI h;exact⟨_⟩
theorem Cp{e:Expr}{x:aV}(h:xV e=Y x):∃p,e=.Name x p:=by obtain⟨a,p,h1,h2⟩:=X1 ns h;exact⟨p,sI h2▸h1⟩
inductive DB(l:List Nat):Expr->Prop where
 |mk (x:aV) (k:Nat) (p:da) (e:x.cps.toList=l):DB l (.Constant (.str x) k p)
theorem Hv{e:Expr}{l:List Nat}(h:O5 e=Y l):DB l e:=by replace h:=Rk ns h;obtain⟨c,k,p,rfl,h⟩:=h;induction c with
 |str x=>exact(sI h)▸⟨x,k,p,U⟩
 |_=>exact nS h
inductive HK(a:aV)(q:List Nat×List Nat):List Expr->Prop where
 |mk (e:a="replace") (x y:Expr) (h1:DB q.1 x) (h2:DB q.2 y):HK a q [x,y]
theorem Me{a:aV}{as:List Expr}{q:List Nat×List Nat}(h:AZ a as=Y q):HK a q as:=by induction as using List.casesOn with
 |nil=>exact nS h
 |cons x r=>induction r using List.casesOn with
  |nil=>exact nS h
  |cons y r=>obtain⟨k,h⟩:=gq h;obtain⟨k1,k2⟩:=bN.mp k;obtain⟨u,h1,h⟩:=aA.mp h;obtain⟨w,h2,rfl⟩:=aP.mp h;rw[List.isEmpty_iff]at k2;exact k2▸⟨dk k1,x,y,Hv h1,Hv h2⟩
inductive Wi:Expr->Prop where
 |mk (k:Nat) (p1 p2:da):Wi (.UnaryOp .USub (.Constant (.int 1) k p1) p2)
theorem U4{e:Expr}(h:Wt e=S):Wi e:=by replace h:=ZH nt h;obtain⟨op,x,p,rfl,h⟩:=h;induction op with
 |USub=>induction q:yD x with
  |none=>dsimp only at h;rw[q]at h;exact nT h
  |some v=>dsimp only at h;rw[q]at h;replace q:=Rk ns q;obtain⟨c,k,p2,rfl,q⟩:=q;induction c with
   |int i=>obtain rfl:=sI q;exact(of_decide_eq_true h)▸⟨_,_,_⟩
   |_=>first|exact nS q|(obtain rfl:=sI q;exact nT h)
 |_=>exact nT h
theorem ow{V:VI}{x:aV}{v:J}(h:qY T V x=Y v):iE V x=S/\T.glob.lookup x=Y v:=gq h
theorem Pr{V:VI}{e:Expr}{es:List Expr}{ms:List (M J)}(aj:∀e,b8 K e (ak.e V e))(i:mX K es ms):mX K (e::es) (dFs ak V e::ms):=by induction e using bg with
 |FormattedValue v cv o p=>show mX K _ (gd (o.isNone&&cv==-1) (ak.e V v)::ms);induction o with
  |some _=>exact .no
  |none=>induction q:cv==-1 with
   |true=>exact(eq_of_beq q)▸.fmt (aj v) i
   |false=>exact .no
 |Constant k n p=>induction k with
  |str x=>exact .con i
  |_=>exact .no
 |_=>exact .no
theorem GS{V:VI}(aj:∀e,b8 K e (ak.e V e)):∀{es:List Expr},mX K es (es.map (dFs ak V))
 |[]=>.nil
 |_::_=>Pr aj (GS aj)
theorem Nx{V:VI}(aj:∀e,b8 K e (ak.e V e)):∀{ks:List eU}{kms:List (Nat×M J)},dK K.T ak V ks=Y kms->sv K ks kms
 |[],_,h=>by exact(sI h)▸.nil
 |⟨arg,v,p⟩::r,_,h=>by obtain⟨x,rfl,h⟩:=aA.mp h;obtain⟨i,h2,h⟩:=aA.mp h;obtain⟨q,h3,rfl⟩:=aP.mp h;exact .cons (g8 h2) (aj v) (Nx aj h3)
section
variable(F:Tw T W)(GO:m5 T W m Γ)(aj:SD T W m ak)
include F GO aj
theorem tY(C:fD c A)(R:cw A m){elt:Expr}{P:cW->M J->Prop}(h0:∀g,P g M.no)(h1:∀x px it ifs me mi cond,Cv ⟨T,W,c,A⟩ x sc elt it ifs me mi cond->P ⟨.Name x px,it,ifs,0⟩ (kN me c.V.top mi cond))(g:cW):P g (NY ak c.V elt g sc):=by obtain⟨t,it,ifs,ia⟩:=g;show P _ (gO (xV t) _);induction q:xV t with
 |none=>exact h0 _
 |some x=>obtain⟨px,rfl⟩:=Cp q;show P _ (gd (rC c.V x sc&&!ko it&&!ifs.any fR&&ia==0) _);induction hg:rC c.V x sc&&!ko it&&!ifs.any fR&&ia==0 with
  |false=>exact h0 _
  |true=>rw[ax,ax,ax]at hg;obtain⟨⟨⟨hO,hs⟩,hifs⟩,hia⟩:=hg;have:=eq_of_beq hia;subst this;have he:∀c',fD c' A->c'.V=gk c.V x sc->b8 ⟨T,W,c',A⟩ elt (ak.e (gk c.V x sc) elt):=λc' C' hV=>hV▸aj.e c' A C' R elt;induction ifs with
   |nil=>exact h1 x px it [] _ _ .none ⟨hO,cu hs,aj.i c A C R it,he,λ_ _ _=>.nil⟩
   |cons e r=>induction r with
    |nil=>exact h1 x px it [e] _ _ (Y (ak.t (gk c.V x sc) e)) ⟨hO,cu hs,aj.i c A C R it,he,λc' C' hV=>.one (hV▸aj.t c' A C' R e)⟩
    |cons _ _=>exact h0 _
theorem Se(C:fD c A)(R:cw A m){v s:Expr}:b8 ⟨T,W,c,A⟩ (.Subscript v s pos) (Wu T ak c.V v s):=by
 have Fb:=(F.fe GO C R).toFb;have ie:=aj.e c A C R;have io:∀o,LD ⟨T,W,c,A⟩ o (dO ak c.V o):=λo=>by induction o with
  |none=>exact En
  |some e=>exact ie e
 induction s using bg with
 |Slice lo hi st p=>induction st with
  |none=>exact Mi Fb (ie v) (io lo) (io hi)
  |some st=>refine eR.gd λq=>?_;rw[ax,ax]at q;induction lo with
   |some _=>exact nT q.1.1
   |none=>induction hi with
    |some _=>exact nT q.1.2
    |none=>cases U4 q.2;exact Kh (ie v)
 |_=>exact MD Fb U (ie v) (ie _)
theorem HP(C:fD c A)(R:cw A m){o:Expr}{a:aV}{as:List Expr}{ks:List eU}:b8 ⟨T,W,c,A⟩ (.Call (.Attribute o a ap) as ks cp) (gd (ks.isEmpty&&(ap.endLine==cp.line&&nq o&&jo as)) (A5 T Γ ak c.V o a as)):=eR.gd λq=>by rw[ax,ax,ax,List.isEmpty_iff]at q;obtain⟨rfl,⟨hl,hs⟩,hp⟩:=q;have Fe:=F.fe GO C R;have ie:=aj.e c A C R;unfold A5;induction q1:JY o with
 |some q=>cases KG q1;refine eR.gO λkvs hk=>eR.gd λq2=>eR.on2 λx y e=>?_;subst e;rw[ax]at q2;refine(dk q2.1)▸?_;have hany:=rO hp;rw[List.any_cons,List.any_cons,cO,cO]at hany;exact Jp Fe.toFc hl hk q2.2 hp hany.1 hany.2.1 (λp=>aj.e (c.hold p) A (C.hold p) R x) λp=>aj.e (c.hold p) A (C.hold p) R y
 |none=>induction q2:AZ a as with
  |some q=>obtain⟨rfl,x,y,⟨x,k1,p1,h1⟩,⟨y,k2,p2,h2⟩⟩:=Me q2;show b8 _ _ (we (ak.e c.V o) q.1 q.2);exact h1▸h2▸Hj F.g hs hl (ie o)
  |none=>exact eR.gO λi hi=>JK Fe hs hl hp (g8 hi) (ie o) (jT ie (rO hp))
theorem Iw(C:fD c A)(R:cw A m){f:aV}{as:List Expr}{ks:List eU}:b8 ⟨T,W,c,A⟩ (.Call (.Name f fp) as ks cp) (FR T Γ ak c.V f as ks):=eR.gO λv hv=>by
 obtain⟨hg,hv⟩:=ow hv;have Fe:=F.fe GO C R;have ie:=aj.e c A C R;have hisi:IS v=S->v=.bi "isinstance":=λh=>by induction v with
  |bi n=>exact(eq_of_beq h)▸rfl
  |_=>exact nT h
 induction q:IS v with
 |true=>replace hv:=(hisi q)▸hv;refine eR.on0 λe0=>eR.on2 λe x e1=>eR.gd λq2=>?_;subst e0 e1;rw[ax]at q2;induction q3:iT x with
  |some cs=>cases BC q3;exact eR.gO λvs h=>JF Fe (cu q2.1) (ie e) hg hv h
  |none=>exact eR.gO λvs h=>Jq Fe (cu q2.1) (cu q2.2) (ie e) hg hv h
 |false=>exact eR.gO λkms hk=>eR.gd λhp=>Gl Fe hg hv (jT ie (rO hp)) (Nx ie hk)
end
end
section
open PySem PySem.W PySem.Calls PyProof.Rows
variable{T:aT}{W:Wd}{c:Fx}{A:ch}{K:Cx}{ρ:cM}{pos ap cp fp:da}{Γ:cI}{n m:Nat}{ak:Dn}{sc:cL}
theorem KA{es:List Expr}(h:Nat.blt 1 es.length=S):∃a b r,es=a::b::r:=by induction es with
 |nil=>exact nT h
 |cons a r=>induction r with
  |nil=>exact nT h
  |cons b r=>exact⟨a,b,r,U⟩
inductive Dj(T:aT)(V:VI)(as:List Expr):Expr->Prop where
 |mk (x:aV) (fp cp:da) (g:iE V x=S) (h:T.glob.lookup x=Y (.ty "range")):Dj T V as (.Call (.Name x fp) as [] cp)
theorem HH{V:VI}{e:Expr}{as:List Expr}(h:xQ T V e=Y as):Dj T V as e:=by replace h:=Ux ns h;obtain⟨f,as',ks,cp,rfl,h⟩:=h;obtain⟨x,h1,h⟩:=aA.mp h;obtain⟨v,h2,h⟩:=aA.mp h;obtain⟨p,rfl⟩:=Cp h1;obtain⟨g1,g2⟩:=ow h2;induction v with
 |ty n=>obtain⟨k,e⟩:=gq h;obtain rfl:=sI e;rw[ax,List.isEmpty_iff]at k;obtain⟨k1,rfl⟩:=k;rw[eq_of_beq k1]at g2;exact⟨x,p,cp,g1,g2⟩
 |_=>exact nS h
section
variable(F:Tw T W)(GO:m5 T W m Γ)(aj:SD T W m ak)
include F GO aj
theorem IL(C:fD c A)(R:cw A m)(e:Expr):b8 ⟨T,W,c,A⟩ e (dE T Γ ak c.V e):=by have Fe:=F.fe GO C R;have ie:=aj.e c A C R;induction e using bg with
 |Constant k n p=>exact eR.gO λv h=>jU n h
 |Name x p=>show b8 _ _ (G8 T c.V x);unfold G8;induction q:eE c.V x with
  |some i=>exact L8 C q
  |none=>exact eR.gO λv h=>GH F.g C (ow h).1 (ow h).2
 |BinOp l o r p=>exact Le (ie l) (ie r)
 |UnaryOp op x p=>induction op with
  |Not=>exact KD (ie x)
  |USub=>exact KF (ie x)
  |_=>exact eR.no
 |BoolOp op es p=>refine eR.on2 λx y e=>?_;subst e;induction op with
  |And=>exact LU (ie x) (ie y)
  |Or=>exact QB (ie x) (ie y)
 |IfExp t b o p=>exact LZ (aj.t c A C R t) (ie b) (ie o)
 |Compare l os rs p=>exact(Hx F GO aj C R).e
 |Tuple es k p=>exact eR.gd λq=>LF (jT ie (cu q))
 |List es p=>exact eR.gd λq=>La (jT ie (cu q))
 |Dict ks vs p=>exact eR.on0 λh1=>eR.on0 λh2=>by subst h1 h2;exact DP
 |JoinedStr es p=>refine eR.gd λq=>?_;obtain⟨a,b,r,rfl⟩:=KA q;exact KQ (GS ie)
 |Attribute v a p=>exact eR.gd λq=>eR.gO λk hk=>Ga Fe.toFb (g8 hk) q (ie v)
 |Subscript v s p=>exact Se F GO aj C R
 |ListComp elt gs sc p=>refine eR.on1 λg e=>?_;subst e;exact tY F GO aj C R (P:=λg m=>b8 ⟨T,W,c,A⟩ (.ListComp elt [g] sc p) m) (λ_=>eR.no) (λx px it ifs me mi cond ad=>HA Fe.toFc ad) g
 |Call f as ks cp=>induction f using bg with
  |Attribute o a ap=>exact HP F GO aj C R
  |Name x p=>exact Iw F GO aj C R
  |_=>exact eR.no
 |_=>exact eR.no
theorem WL(C:fD c A)(R:cw A m)(e:Expr)(hs:Cm e=S):lN ⟨T,W,c,A⟩ e (bJ (dE T Γ ak c.V e)):=by have he:=IL F GO aj C R e;induction e using bg with
 |Compare l os rs p=>exact(Hx F GO aj C R).t
 |UnaryOp op x p=>induction op with
  |Not=>exact nT hs
  |_=>exact De (λ_=>rfl) he
 |BoolOp _ _ _=>exact nT hs
 |IfExp _ _ _ _=>exact nT hs
 |_=>exact De (λ_=>rfl) he
omit F GO in
theorem Xb(C:fD c A)(R:cw A m)(e:Expr):lN ⟨T,W,c,A⟩ e (dT ak c.V e):=by have it:=aj.t c A C R;induction e using bg with
 |UnaryOp op x p=>induction op with
  |Not=>exact Ih (it x)
  |_=>exact aj.te c A C R _ rfl
 |BoolOp op es p=>induction op with
  |And=>refine wf ?_;induction es with
   |nil=>exact wY
   |cons e r ih=>exact vL (it e) ih
  |Or=>refine wf ?_;induction es with
   |nil=>exact zJ
   |cons e r ih=>exact wS (it e) ih
 |IfExp _ _ _ _=>exact(eR.no:lN _ _ M.no)
 |_=>exact aj.te c A C R _ rfl
theorem Wr(C:fD c A)(R:cw A m)(e:Expr):xo ⟨T,W,c,A⟩ e (dI T ak c.V e):=DE λ_=>by have Fe:=F.fe GO C R;induction q:xQ T c.V e with
 |none=>exact DY Fe.toFc (aj.e c A C R e)
 |some as=>obtain⟨x,fp,cp,g,h⟩:=HH q;induction as using List.casesOn with
  |nil=>exact tc
  |cons a r=>induction r using List.casesOn with
   |nil=>exact DE λq=>BZ Fe.toFc g h (cu q) (aj.e c A C R a)
   |cons _ _=>exact tc
theorem SD.up:SD T W m (Kw T Γ ak):=⟨λc A C R=>IL F GO aj C R,λc A C R=>WL F GO aj C R,λc A C R=>Xb aj C R,λc A C R=>Wr F GO aj C R⟩
end
theorem SD.den(F:Tw T W)(GO:m5 T W m Γ):∀n,SD T W m (XA T Γ n)
 |0=>⟨λ_ _ _ _ _=>eR.no,λ_ _ _ _ _ _=>(eR.no:lN _ _ M.no),λ_ _ _ _ _=>eR.no,λ_ _ _ _ _=>tc⟩
 |n+1=>SD.up F GO (SD.den F GO n)
theorem Mm{t:ar->o7 Unit}:pH K t (λ_=>M.no):=λ_ _ _ _=>aX.no
theorem CF{α:Type}{t:ar->o7 Unit}{o:Option α}{k:α->qi}(af:∀x,o=Y x->pH K t (k x)):pH K t (λv=>gO o λx=>k x v):=λρ v u hv=>aX.gO λx h=>af x h ρ v u hv
theorem Dq{t:ar->o7 Unit}{q:Bool}{k:qi}(af:q=S->pH K t k):pH K t (λv=>gd q (k v)):=λρ v u hv=>aX.gd λh=>af h ρ v u hv
theorem wl{d:Expr->qi}(aj:∀e,pH K (iP e K.c.env) (d e)):∀{es:List Expr},es.any fR=I->u7 K es (es.map d)
 |[],_=>.nil
 |e::r,h=>by rw[List.any_cons,cO]at h;exact .cons h.1 (aj e) (wl aj h.2)
section
variable(F:Tw T W)(GO:m5 T W m Γ)(aj:SD T W m ak)
include F GO aj
theorem Ja(C:fD c A)(R:cw A m)(e:Expr):pH ⟨T,W,c,A⟩ (iP e c.env) (TD T ak c.V e):=by have Fc:=(F.fe GO C R).toFc;have ie:=aj.e c A C R;induction e using bg with
 |Name x p=>exact CF λi h=>IC C h
 |Attribute o a p=>exact CF λk h=>DQ Fc (g8 h) (ie o)
 |Subscript o i p=>exact Dq λq=>HE (ie o) (ie i)
 |_=>exact Mm
theorem NG(C:fD c A)(R:cw A m)(e:Expr):pH ⟨T,W,c,A⟩ (iP e c.env) (dG T ak c.V e):=by induction e using bg with
 |Tuple ts k p=>exact Dq λq=>Gp (F.fe GO C R).toFc (wl (Ja F GO aj C R) (cu q))
 |_=>exact Ja F GO aj C R _
end
end
section
open PySem PySem.W PySem.Calls PyProof.Rows
variable{T:aT}{W:Wd}{c:Fx}{A:ch}{K:Cx}{ρ:cM}{pos ap cp fp:da}{Γ:cI}{n m:Nat}{ak:Dn}{sc:cL}
inductive RU(T:aT)(Γ:cI)(env:pv)(t e:Expr):Prop where
 |sw (h:∀line,lG [t] e line env=pure I):RU T Γ env t e
 |no (h:∀ak V,dE T Γ ak V e=M.no):RU T Γ env t e
theorem VB{env:pv}{t e:Expr}(h:(!JT t||!nI e)=S):RU T Γ env t e:=by induction q:nI e with
 |false=>exact .sw λ_=>zC q
 |true=>rw[q,dz]at h;have h:=cu (h.resolve_right (by decide));induction e using bg with
  |ListComp _ _ _ _=>exact .sw λ_=>Ht h
  |SetComp _ _ _ _=>exact .no λ_ _=>rfl
  |DictComp _ _ _ _ _=>exact .no λ_ _=>rfl
  |_=>exact nT q
theorem yB(C:fD c A):∀{ns:List aV},ns.all (λx=>(cy c.V x).isSome)=S->∃is,DO ⟨T,W,c,A⟩ ns is
 |[],_=>⟨[],.nil⟩
 |x::r,h=>by rw[List.all_cons,ax]at h;obtain⟨i,hi⟩:=bL.mp h.1;obtain⟨is,his⟩:=yB C h.2;exact⟨i::is,.cons hi his⟩
theorem DO.mem{ns:List aV}{is:List Nat}(ah:DO K ns is){i:Nat}(hi:i∈is):∃y∈ns,cy K.c.V y=Y i:=by induction ah with
 |nil=>cases hi
 |cons h _ ih=>
  rcases List.mem_cons.mp hi with e0|hi
  ·exact e0▸⟨_,.head _,h⟩
  ·obtain⟨y,hy,e⟩:=ih hi
   exact⟨y,.tail _ hy,e⟩
theorem DO.nodup(C:fD K.c K.A){ns:List aV}{is:List Nat}(ah:DO K ns is)(h:lj ns=S):is.Nodup:=by induction ah with
 |nil=>exact List.nodup_nil
 |@cons x i ns is hx ah ih=>have h:(!ns.any (·==x)&&lj ns)=S:=h;rw[ax]at h;refine List.nodup_cons.mpr ⟨λhm=>?_,ih h.2⟩;obtain⟨y,hy,e⟩:=ah.mem hm;have:=C.inj y x i (eL e).1 (eL hx).1;have q:=cu h.1;rw[List.any_eq_true.mpr ⟨y,hy,by rw[this];exact beq_self_eq_true x⟩]at q;exact nF q
theorem zy{V:VI}{x:aV}{p:da}{i:Nat}(h:cy V x=Y i):TD T ak V (.Name x p)=bd i:=by
 funext v
 show gO (cy V x) (λi=>bd i v)=_;rw[h]
theorem MA{ns:List aV}{is:List Nat}(ah:DO K ns is):∀{ts:List Expr},tC ts=Y ns->ts.any fR=I/\ts.map (TD T ak K.c.V)=is.map bd:=by induction ah with
 |nil=>intro ts h;induction ts with
  |nil=>exact⟨U,U⟩
  |cons e r=>obtain⟨x,_,h⟩:=aA.mp h;obtain⟨y,_,h⟩:=aP.mp h;cases h
 |cons hx ah ih=>intro ts h;induction ts with
  |nil=>cases h
  |cons e r=>obtain⟨x,h1,h⟩:=aA.mp h;obtain⟨y,h2,h⟩:=aP.mp h;cases h;obtain⟨p,rfl⟩:=Cp h1;obtain⟨i1,i2⟩:=ih h2;exact⟨i1,by rw[List.map_cons,List.map_cons,i2,zy hx]⟩
theorem Eo{t e:Expr}{ns:List aV}(h:pk sc t e=Y (Y ns)):nI e=I:=by cases e<;>first|rfl|cases h
inductive Oa(V:VI):Expr->Expr->Prop where
 |mk (y:aV) (py:da) (elt:Expr) (g:cW) (sc:cL) (vx:da) (i:Nat) (h1:(py.line==vx.line)=S) (h2:(!(sc.names.any λ(n,k)=>n==y&&(k==.local||k==.cell)))=S) (h3:cy V y=Y i):Oa V (.Name y py) (.ListComp elt [g] sc vx)
theorem Tg{V:VI}{t e:Expr}(h:cmpAsg V t e=S):Oa V t e:=by replace h:=X1 nt h;obtain⟨y,py,rfl,h⟩:=h;replace h:=ZT nt h;obtain⟨elt,gs,sc,vx,rfl,h⟩:=h;induction gs using List.casesOn with
 |nil=>exact nT h
 |cons g r=>have h:(r.isEmpty&&JT g.target&&(py.line==vx.line&&!(sc.names.any λ(n,k)=>n==y&&(k==.local||k==.cell))&&(cy V y).isSome))=S:=h;rw[ax,ax,ax,ax,List.isEmpty_iff]at h;obtain⟨⟨rfl,_⟩,⟨h1,h2⟩,h3⟩:=h;obtain⟨i,h3⟩:=bL.mp h3;exact⟨y,py,elt,g,sc,vx,i,h1,h2,h3⟩
theorem yi.hold(O:yi c)(p:bf×Hd):yi (c.hold p):=⟨O.frame,O.envs⟩
theorem yi.handed(O:yi c)(b:Bool):yi (c.handed b):=⟨O.frame,O.envs⟩
def WP(T:aT)(W:Wd)(m:Nat)(ss:VI->List eD->M Fl):Prop:=∀c A,fD c A->yi c->cw A m->∀l,vc ⟨T,W,c,A⟩ l (ss c.V l)
section
variable(F:Tw T W)(GO:m5 T W m Γ)(aj:SD T W m ak)
include F GO aj
theorem PO(C:fD c A)(R:cw A m){t e:Expr}:lW ⟨T,W,c,A⟩ (.Assign [t] e pos) (gd (DF c.V t e||cmpAsg c.V t e) (sAsg (dG T (Kw T Γ ak) c.V t) (dE T Γ ak c.V e))):=eR.gd λhq=>by have Fc:=(F.fe GO C R).toFc;have ie:=IL F GO aj C R e;induction h1:DF c.V t e with
 |true=>unfold DF at h1;rw[ax,ax]at h1;obtain⟨⟨hs,hn⟩,hw0⟩:=h1;induction hk:pk c.V.scope t e with
  |none=>rw[hk]at hw0;exact nT hw0
  |some o=>rw[hk]at hw0;induction o with
   |none=>cases VB (T:=T) (Γ:=Γ) (env:=c.env) hn with
    |sw h=>exact JZ Fc (cu hs) h hk (NG F GO (SD.up F GO aj) C R t) ie
    |no h=>rw[h];exact(eR.no:lW _ _ M.no)
   |some ns=>induction q:iT t with
    |none=>rw[q]at hw0;exact nT hw0
    |some ts=>rw[q]at hw0;cases BC q with
     |mk k p=>
      have hw0:(tC ts==Y ns&&lj ns&&ns.all (λx=>(cy c.V x).isSome))=S:=hw0;rw[ax,ax]at hw0;obtain⟨⟨k1,k2⟩,k3⟩:=hw0;obtain⟨is,ah⟩:=yB (T:=T) (W:=W) C k3;obtain⟨n1,n2⟩:=MA (T:=T) (ak:=Kw T Γ ak) ah (eq_of_beq k1);have eg:dG T (Kw T Γ ak) c.V (.Tuple ts k p)=eZ T (is.map bd):=by
       funext v
       show gd (!ts.any fR) (eZ T (ts.map (TD T (Kw T Γ ak) c.V)) v)=_;exact n1▸congrArg (λz=>eZ T z v) n2
      exact eg▸EW Fc ah (ah.nodup C k2) (Eo hk) hk ie
 |false=>rw[h1,gC]at hq;cases Tg hq with
  |mk y py elt g sc vx i k1 k2 k3=>
   have hko:c.env.kindOf y=Y .local:=by unfold f6;exact C.scope▸(eL k3).2
   have hk:c.env.blockKind=.function:=by unfold pv.blockKind;rw[C.kind];rfl
   have hsw:∀(g:cW)(st:Nat),rX (.ListComp elt [g] sc vx) (Y (.Name y py)) st c.env=pure S:=λg st=>by show pure (c.env.blockKind==.function&&c.env.kindOf y==Y .local&&py.line==vx.line&&!(sc.names.any λ(n,k)=>n==y&&(k==.local||k==.cell)))=(pure S:o7 Bool);rw[hk,hko,k1,k2];rfl
   have eg:dG T (Kw T Γ ak) c.V (.Name y py)=bd i:=zy (T:=T) (ak:=Kw T Γ ak) (p:=py) k3;exact eg▸tY F GO aj C R (P:=λg m=>lW ⟨T,W,c,A⟩ (.Assign [.Name y py] (.ListComp elt [g] sc vx) pos) (sAsg (bd i) m)) (λ_=>(eR.no:lW _ _ M.no)) (λx px it ifs me mi cond ad=>EP Fc ad k3 (hsw _ _)) g
theorem Wk{ss:VI->List eD->M Fl}(ah:WP T W m ss)(C:fD c A)(O:yi c)(R:cw A m)(s:eD):lW ⟨T,W,c,A⟩ s (dS T (Kw T Γ ak) ss c.V s):=by have Fe:=F.fe GO C R;have I':=SD.up F GO aj;have ie:=I'.e c A C R;have ib:=ah c A C O R;induction s using pX with
 |Assign ts e p=>refine eR.on1 λt q=>?_;subst q;exact PO F GO aj C R
 |AugAssign t o e p=>induction t using bg with
  |Name x p=>exact eR.gO λi h=>EM C h (ie e)
  |Attribute q a p=>exact eR.gO λk h=>EZ Fe.toFc (g8 h) (ie q) (ie e)
  |_=>exact eR.no
 |Return e p=>refine eR.gO λx q=>?_;subst q;exact II (ie x)
 |Expr e p=>exact eR.gd λq=>ES C (cu q) (ie e)
 |If t b o p=>exact MT (I'.t c A C R t) (ib b) (ib o)
 |While t b o p=>refine eR.on0 λq=>?_;subst q;exact AB Fe.toFc O (I'.t c A C R t) (ib b)
 |For t i b o p=>refine eR.on0 λq=>eR.gd λq2=>?_;subst q;exact Gb Fe.toFc (cu q2) (I'.i c A C R i) (λp=>NG F GO I' (C.hold p) R t) λp=>ah (c.hold p) A (C.hold p) (O.hold p) R b
 |Break p=>exact IT
 |Raise e f p=>refine eR.gd λq=>eR.gO λx q2=>?_;subst q2;induction f with
  |none=>exact Bz Fe.toFd (ie x)
  |some _=>exact nT q
 |Try b hs o f p=>refine eR.on0 λq1=>eR.on0 λq2=>eR.on1 λhd q3=>?_;subst q1 q2 q3;obtain⟨ty,nm,h,hp⟩:=hd;refine eR.gO λty q1=>eR.gO λcn q2=>eR.gO λx q3=>eR.gO λv q4=>?_;subst q1 q3;obtain⟨p1,rfl⟩:=Cp q2;induction v with
  |sref Cx=>exact eR.gO λi hi=>eR.gd λhX=>Hy Fe.toFd O hX (ow q4).1 (ow q4).2 hi (ib b) λv=>ah (c.handed S) (A.mark (Y v)) C.handed (O.handed S) ⟨R.depth,R.units⟩ h
  |_=>exact eR.no
 |_=>exact eR.no
end
theorem vT{d:eD->M Fl}(aj:∀s,lW K s (d s)):∀{l:List eD},yt K l (l.map d)
 |[]=>.nil
 |s::r=>.cons (aj s) (vT aj)
theorem uN(F:Tw T W)(GO:m5 T W m Γ):∀n,WP T W m (pf T Γ n)
 |0=>λ_ _ _ _ _ _=>(eR.no:vc _ _ M.no)
 |n+1=>λc A C O R l=>Iz (vT λs=>Wk F GO (SD.den F GO 29) (uN F GO n) C O R s)
end
section
open PySem PySem.W PySem.Calls PyProof.Rows
variable{T:aT}{W:Wd}{c:Fx}{A:ch}{Γ:cI}{m n:Nat}
inductive Ms(T:aT)(W:Wd)(f:Nat)(fi:FI):Prop where
 |mk (F:Fn) (b:F.body=fi.body) (s:F.scope=fi.sc) (h:LL W T f F fi.pn (uX T fi)):Ms T W f fi
theorem Pc{ft:Nat->Option FI}{f:Nat}:fL (oZ T ft (m+1)) f=AF λhand as ks h=>match ft f with
 |some fi=>zZ T (oZ T ft m) fi hand as ks h
 |.none=>.stuck:=rfl
theorem Ia(F:Tw T W){ft:Nat->Option FI}(FT:∀f fi,ft f=Y fi->Ms T W f fi):∀m,m5 T W m (oZ T ft m)
 |0=>λc A f C R ρ as ks us kws ha hk=>(aX.no:aX _ ρ _ M.no Rv)
 |m+1=>λc A f C R=>by rw[Pc];induction hf:ft f with
  |none=>exact λρ as ks us kws ha hk=>(aX.no:aX _ ρ _ M.no Rv)
  |some fi=>
   obtain⟨Fn,h1,h2,h3⟩:=FT f fi hf;have GO:=Ia F FT m;refine Kg (K:=⟨T,W,c,A⟩) F.g LE h3 C (Nat.lt_of_lt_of_le (Nat.lt_add_of_pos_right (Nat.succ_pos _)) R.depth) (n:=(gc fi.sc).top+1) (mb:=pf T (oZ T ft m) 12 (gc fi.sc) fi.body) λc' A' C' O' hV hA=>?_;have R':cw A' m:=by have h1:=R.depth;have h2:=R.units;rw[hA];exact⟨by show A.depth+1+(5*m+5)<=1000;exact bE [_,_] [(.a (.v 0) (.a (.m 5 (.a (.v 1) (.l 1))) (.l 3)),.l 1000)] 0 [1] (.a (.a (.v 0) (.l 1)) (.a (.m 5 (.v 1)) (.l 5))) (.l 1000) U h1,by show A.units+3+(50*m+150)<cLine;exact bE [_,_,_] [(.a (.a (.v 0) (.a (.m 50 (.a (.v 1) (.l 1))) (.l 120))) (.l 1),.v 2)] 0 [1] (.a (.a (.a (.v 0) (.l 3)) (.a (.m 50 (.v 1)) (.l 150))) (.l 1)) (.v 2) U h2⟩
   have k:=uN F GO 12 c' A' C' O' R' Fn.body;rw[hV,h1,h2]at k;rw[h1];exact k
end
section
open PySem PySem.W PySem.Calls PyProof.Rows
variable{T:aT}{W:Wd}
theorem fO{α:Type}{k:Nat}{v:α}:∀{l:List (Nat×α)},d7 k l=Y v->(k,v)∈l
 |[],h=>by exact nS h
 |p::r,h=>by unfold d7 at h;induction q:Nat.beq p.1 k with
  |true=>rw[q]at h;obtain rfl:=sI h;have:=Nat.eq_of_beq_eq_true q;exact this▸.head _
  |false=>rw[q]at h;exact .tail _ (fO h)
theorem jI{k:Nat}{l:List Nat}(h:l.any (Nat.beq k)=S):k∈l:=by obtain⟨x,hx,e⟩:=List.any_eq_true.mp h;simp only[Nat.eq_of_beq_eq_true e];exact hx
theorem cJ{α β:Type}{f g:α->β}{l:List α}(h:l.map f=l.map g){x:α}(hx:x∈l):f x=g x:=by induction l with
 |nil=>cases hx
 |cons a r ih=>
  rw[List.map_cons,List.map_cons,List.cons.injEq]at h;rcases List.mem_cons.mp hx with e0|hx
  ·exact e0▸h.1
  ·exact ih h.2 hx
theorem cR{α β:Type}{a a':α}{b b':β}(h:(a,b)=(a',b')):a=a':=congrArg Prod.fst h
theorem bw{α β:Type}{a a':α}{b b':β}(h:(a,b)=(a',b')):b=b':=congrArg Prod.snd h
noncomputable def kg(u:ar):Option J:=match u with
 |.none=>Y .none
 |.bool b=>Y (.bool b)
 |.int i _=>Y (.int i)
 |.str x _=>Y (.str x.cps.toList)
 |.ref a=>Y (.sref a)
 |.builtin n=>Y (.bi n)
 |.type n=>Y (.ty n)
 |_=>.none
theorem qC{u:ar}{v:J}(h:kg u=Y v):Sv v u:=λρ=>by induction u with
 |none=>exact(sI h)▸.none
 |bool b=>exact(sI h)▸.bool b
 |int i t=>exact(sI h)▸.int i t
 |str x t=>exact(sI h)▸.str x t rfl
 |ref a=>exact(sI h)▸.sref a
 |builtin n=>exact(sI h)▸.bi n
 |type n=>exact(sI h)▸.ty n
 |_=>exact nS h
theorem rA:∀{us:List ar}{vs:List J},us.map kg=vs.map Y->bP Sv vs us
 |[],[],_=>.nil
 |[],_::_,h=>by cases h
 |_::_,[],h=>by cases h
 |u::us,v::vs,h=>by rw[List.map_cons,List.map_cons,List.cons.injEq]at h;exact .cons (qC h.1) (rA h.2)
def Lo(K:kJ)(x:aV):Option J:=match nsIn K jp x with
 |some o=>(match o with
  |some u=>kg u
  |.none=>(bootBuiltins x).bind kg)
 |.none=>.none
noncomputable def Nr(l:List (aV×J)):Bool:=l.all λp=>!(p.1==("__debug__":aV))&&!(p.1==("__name__":aV))
theorem VX(X:W.K.In W.h0)(top:TopRead W.p W.loose W.mg W.mb W.h0)(h1:Nr T.glob=S)(h2:(T.glob.map λp=>Lo W.K p.1)=T.glob.map λp=>Y p.2):Gd T W:=by
 have key:∀(x:aV)(v:J),T.glob.lookup x=Y v->(x==("__debug__":aV))=I/\(x==("__name__":aV))=I:=λx v e=>by have:=List.all_eq_true.mp h1 _ (mem_of_lookup e);rw[ax]at this;exact⟨cu this.1,cu this.2⟩
 refine⟨X,top,λx v e=>(key x v e).1,λx v e=>?_⟩;have k:Lo W.K x=Y v:=cJ h2 (mem_of_lookup e);unfold Lo at k;induction q:nsIn W.K jp x with
 |none=>rw[q]at k;exact nS k
 |some o=>rw[q]at k;induction o with
  |some u=>exact .glob u (qC k) q
  |none=>obtain⟨u,e1,e2⟩:=aA.mp k;exact .bi u (qC e2) q e1 λz=>by have:=(key x v e).2;rw[z]at this;exact absurd this (by decide)
theorem oF:∀{l:List aV},lj l=S->l.Nodup
 |[],_=>List.nodup_nil
 |x::r,h=>by obtain⟨h1,h2⟩:=bN.mp (show(!r.any (·==x)&&lj r)=S from h);refine List.nodup_cons.mpr ⟨λhm=>?_,oF h2⟩;have:=cu h1;rw[show r.any (·==x)=S from List.any_eq_true.mpr ⟨x,hm,beq_self_eq_true x⟩]at this;exact nF this
noncomputable def NS(K:kJ)(C:Nat)(nm:aV):Bool×Bool×Bool×Option (Option ar)×Option (Option ar)×Option (Option ar):=(n6 K C nm,mm K C,plainOver K C,eF K (.ref C) nm,eF K (.ref C) "__setattr__",takerIn K C nm)
noncomputable def oz{α:Type}(T:aT)(f:Nat->aV->α):List (List (Option α)):=T.attrs.map λp=>p.2.map λn=>(T.names[n]?).map (f p.1)
theorem JM{α:Type}{f g:Nat->aV->α}(h:oz T f=oz T g){C n:Nat}{nm:aV}(ho:sO T C n=S)(hm:T.names[n]?=Y nm):f C nm=g C nm:=by unfold sO at ho;induction hl:d7 C T.attrs with
 |none=>rw[hl]at ho;exact nT ho
 |some l=>rw[hl]at ho;have:=cJ (cJ h (fO hl)) (jI ho);dsimp only at this;rw[hm]at this;exact aQ this
theorem UW(hn:lj T.names=S)(h:oz T (NS W.K)=oz T λ_ _=>(S,S,S,Y .none,Y (Y (.builtin "object.__setattr__")),Y .none)):Gc T W:=
 ⟨oF hn,λC n nm ho hm=>let k:=JM h ho hm;⟨cR k,cR (bw k),cR (bw (bw (bw k))),cR (bw (bw (bw (bw k)))),cR (bw (bw k)),bw (bw (bw (bw (bw k))))⟩⟩
noncomputable def MZ(o:Option iS):Array ar:=match o with
 |some o=>(match o.data with
  |.seq us _=>us
  |_=>#[])
 |.none=>#[]
noncomputable def VP(o:Option iS):Nat:=match o with
 |some o=>(match o.data with
  |.seq _ n=>n
  |.dict _ n=>n
  |_=>0)
 |.none=>0
noncomputable def QF(o:Option iS):List b7:=match o with
 |some o=>(match o.data with
  |.dict es _=>es.toList
  |_=>[])
 |.none=>[]
def NT(o:Option iS):Option iS:=Y ⟨.type "tuple",o.bind (·.dict),.seq (MZ o).toList.toArray (VP o),(o.map (·.slots)).getD #[]⟩
noncomputable def x6(e:b7):aV×qV:=match e.key with
 |.str x t=>(x,t)
 |_=>(se,0)
def N5(P:Params)(o:Option iS):Option iS:=Y ⟨.type "dict",.none,.dict ((QF o).map λe=>⟨d9 P (x6 e).1,.str (x6 e).1 (x6 e).2,e.val⟩).toArray (VP o),#[]⟩
theorem zL{P:Params}(hP:P=W.w.params):∀{es:List (List Nat×J)}{ents:List b7},(ents.map λe=>((x6 e).1.cps.toList,kg e.val))=(es.map λq=>(q.1,Y q.2))->bP (qh W) es (ents.map λe=>⟨d9 P (x6 e).1,.str (x6 e).1 (x6 e).2,e.val⟩)
 |[],[],_=>.nil
 |[],_::_,h=>by cases h
 |_::_,[],h=>by cases h
 |q::es,e::ents,h=>by rw[List.map_cons,List.map_cons,List.cons.injEq]at h;exact .cons ⟨_,_,cR h.1,U,by exact hP▸rfl,qC (bw h.1)⟩ (zL hP h.2)
theorem Ur{P:Params}(hP:P=W.w.params)(hs:∀d vs,d7 d T.slist=Y vs->JG W d vs)(h1:(T.sdict.map λp=>W.K.lookup p.1)=T.sdict.map λp=>N5 P (W.K.lookup p.1))
  (h2:(T.sdict.map λp=>(p.1==fZ,(QF (W.K.lookup p.1)).map λe=>((x6 e).1.cps.toList,kg e.val)))=T.sdict.map λp=>(I,p.2.map λq=>(q.1,Y q.2)))
  (h3:(T.stup.map λp=>W.K.lookup p.1)=T.stup.map λp=>NT (W.K.lookup p.1)) (h4:(T.stup.map λp=>(MZ (W.K.lookup p.1)).toList.map kg)=T.stup.map λp=>p.2.map Y):Gt T W:=
 ⟨λd es e=>let k:=cJ h2 (fO e);⟨cR k,_,_,cJ h1 (fO e),zL hP (bw k)⟩,hs,λd vs e=>⟨_,_,_,_,cJ h3 (fO e),rA (cJ h4 (fO e))⟩⟩
noncomputable abbrev JD:List ar:=[.type "ValueError",.type "Exception",.type "BaseException",.type "object"]
theorem FB:∀(l:List Nat),pU (l.map ar.ref++JD)
 |[]=>.base
 |_::r=>.own (FB r)
noncomputable abbrev xL:List (Nat×List Nat):=[(523,[523]),(543,[543,523])]
theorem Kt(hx:T.exns=xL.map (·.1)){C:Nat}(h:nk T C=S):∃l,(C,l)∈xL:=by have h:T.exns.any (Nat.beq C)=S:=h;replace h:=hx▸h;obtain⟨p,hp,rfl⟩:=List.mem_map.mp (jI h);exact⟨p.2,hp⟩
noncomputable def Y5(K:kJ)(C:Nat):Option Bool×Option ar×Option Bool×Bool:=(pA K (.ref C) (.type "BaseException"),typeIn K (.ref C),pA K (.ref C) (.ref C),(clsIn K C).isSome)
theorem Vj(hx:T.exns=xL.map (·.1))(h:(xL.map λp=>Y5 W.K p.1)=xL.map λ_=>(Y S,Y (.type "type"),Y S,S)):Gx T W:=λC e=>let⟨_,hm⟩:=Kt hx e;let k:=cJ h hm;⟨cR k,cR (bw k),cR (bw (bw k)),bw (bw (bw k))⟩
noncomputable def YZ(K:kJ)(C:Nat):Option (Bool×List ar)×Option (Option ar)×Option (Option ar)×Option (Option ar)×Option Bool×Option Bool×Option Bool:=
 ((clsIn K C).map λcd=>(cd.hasDict,cd.mro),eF K (.ref C) "__getattribute__",eF K (.ref C) "__getattr__",eF K (.ref C) "__setattr__",pA K (.ref C) (.type "BaseException"),pA K (.ref C) (.type "object"),pA K (.ref C) (.type "ValueError"))
theorem Ud(hx:T.exns=xL.map (·.1))(h1:(xL.map λp=>YZ W.K p.1)=xL.map λp=>(Y (S,p.2.map ar.ref++JD),Y (Y (.builtin "BaseException.__getattribute__")),Y .none,Y (Y (.builtin "object.__setattr__")),Y S,Y S,Y S))
  (h2:(xL.map λp=>T.xattrs.map λn=>(T.names[n]?).map λx=>eF W.K (.ref p.1) x)=xL.map λp=>T.xattrs.map λn=>(T.names[n]?).map λx=>Y .none):Gy T W:=by
 refine⟨λC e=>?_,λC n x e hn=>?_⟩
 ·obtain⟨l,hm⟩:=Kt hx e
  have k:=cJ h1 hm;obtain⟨cd,e1,e2⟩:=aP.mp (cR k);have k:=bw k;exact⟨⟨cd,e1,cR e2,bw e2▸FB l⟩,cR k,cR (bw k),cR (bw (bw k)),cR (bw (bw (bw k))),cR (bw (bw (bw (bw k)))),bw (bw (bw (bw (bw k))))⟩
 ·obtain⟨l,hm⟩:=Kt hx (Bh e)
  have k:=cJ (cJ h2 hm) (jI (bN.mp e).1);dsimp only at k;rw[hn]at k;exact aQ k
end
section
open PySem PySem.W PySem.Calls PyProof.Rows
variable{T:aT}{W:Wd}
noncomputable def vO(o:Option iS):ClassData:=match o with
 |some o=>(match o.data with
  |.cls cd=>cd
  |_=>default)
 |.none=>default
noncomputable def WD(o:Option iS)(i:Nat):Option ar:=(o.bind λo=>o.slots[i]?).getD .none
def Uw(o:Option iS):XC:=⟨(vO o).name,(vO o).qualname,(vO o).ns,(vO o).bases,(vO o).mro.tail,(vO o).hasDict,(vO o).slotNames,(vO o).subclasses,(vO o).abstract,(vO o).collection,o.bind (·.dict),WD o 0,WD o 1,WD o 2,WD o 3,WD o 5⟩
def Zo(K:kJ)(T:aT)(C:Nat):Bool×Bool×Bool×Option (Option (Option ar)×Bool):=((Uw (K.lookup C)).bm.contains (.type "ValueError"),(Uw (K.lookup C)).bm.contains (.type "AttributeError"),(Uw (K.lookup C)).bm.contains (.type "NameError"),(fq T C 0).map λf=>(eF K (.ref C) "__init__",isFn K (.ref f)))
theorem Ww(hx:T.exns=xL.map (·.1))(h1:(xL.map λp=>W.K.lookup p.1)=xL.map λp=>Y ((Uw (W.K.lookup p.1)).obj p.1))(h2:(xL.map λp=>Zo W.K T p.1)=xL.map λp=>(S,I,I,(fq T p.1 0).map λf=>(Y (Y (.ref f)),S))):Gw T W:=λC f e hm=>by obtain⟨l,hl⟩:=Kt hx e;have k:=cJ h2 hl;have k4:=bw (bw (bw k));dsimp only at k4;rw[hm]at k4;have k4:=aQ k4;exact⟨_,cJ h1 hl,cR k,cR (bw k),cR (bw (bw k)),cR k4,bw k4⟩
def oR{α:Type}(T:aT)(f:Nat->Nat->aV->α):List (Bool×List (Option α)):=T.meth.map λp=>(nk T p.1,bif nk T p.1 then[]else p.2.map λq=>(T.names[q.1]?).map (f p.1 q.2))
theorem LW{α:Type}{f g:Nat->Nat->aV->α}(h:oR T f=oR T g){C k m:Nat}{nm:aV}(e:fq T C k=Y m)(hm:T.names[k]?=Y nm)(hx:nk T C=I):f C m nm=g C m nm:=by obtain⟨ms,e1,e2⟩:=aA.mp e;have:=bw (cJ h (fO e1));dsimp only at this;rw[hx]at this;have:=cJ (show(ms.map λq=>(T.names[q.1]?).map (f C q.2))=ms.map λq=>(T.names[q.1]?).map (g C q.2)from this) (fO e2);dsimp only at this;rw[hm]at this;exact aQ this
noncomputable def rF{α:Type}(T:aT)(f:Nat->Nat->aV->α):List (List (Option α)):=T.meth.map λp=>p.2.map λq=>(T.names[q.1]?).map (f p.1 q.2)
theorem Sb{α:Type}{f g:Nat->Nat->aV->α}(h:rF T f=rF T g){C k m:Nat}{nm:aV}(e:fq T C k=Y m)(hm:T.names[k]?=Y nm):f C m nm=g C m nm:=by obtain⟨ms,e1,e2⟩:=aA.mp e;have:=cJ (cJ h (fO e1)) (fO e2);dsimp only at this;rw[hm]at this;exact aQ this
noncomputable def Y2(K:kJ)(C m:Nat)(nm:aV):Bool×Option (Option ar)×Bool×Bool:=(n6 K C nm,eF K (.ref C) nm,isFn K (.ref m),lI K (.ref m))
noncomputable def Y1(K:kJ)(C m:Nat)(nm:aV):Option (Option ar)×Bool×Option (Bool×Option CFound):=(rY K (.ref C) "__getattribute__",lI K (.ref m),(typeIn K (.ref C)).map λmc=>(readsIn K C mc,findCls K (.ref C) mc nm))
def CP(T:aT)(f:Nat->Nat->Bool×Option (Option ar)×Bool):List (Option (Bool×Option (Option ar)×Bool)):=T.meth.map λp=>bif nk T p.1 then .none else(d7 0 p.2).map (f p.1)
noncomputable def Za(K:kJ)(C f:Nat):Bool×Option (Option ar)×Bool:=(makesIn K C,eF K (.ref C) "__init__",isFn K (.ref f))
theorem Vb(h1:CP T (Za W.K)=CP T λ_ f=>(S,Y (Y (.ref f)),S))(h2:(T.meth.map λp=>lI W.K (.ref p.1))=T.meth.map λ_=>S)(h3:(T.fns.map λa=>lI W.K (.ref a))=T.fns.map λ_=>S)
  (h4:oR T (Y2 W.K)=oR T λ_ m _=>(S,Y (Y (.ref m)),S,S)) (h5:rF T (Y1 W.K)=rF T λ_ m _=>(Y (Y (.builtin "type.__getattribute__")),S,Y (S,Y (.val (.ref m))))):Gm T W where
 make:=λC f e hx=>by obtain⟨ms,e1,e2⟩:=aA.mp e;have:=cJ h1 (fO e1);dsimp only at this;rw[hx,e2]at this;have k:=aQ this;exact⟨cR k,cR (bw k),bw (bw k)⟩
 keepC:=λC e=>by obtain⟨ms,e⟩:=bL.mp e;exact cJ h2 (fO e)
 keepF:=λa e=>cJ h3 (jI e)
 meth:=λC k f nm e hm hx=>let k:=LW h4 e hm hx;⟨cR k,cR (bw k),cR (bw (bw k)),bw (bw (bw k))⟩
 cls:=λC k f nm _ e hm=>by have k:=Sb h5 e hm;obtain⟨mc,e1,e2⟩:=aP.mp (bw (bw k));exact⟨cR k,cR (bw k),mc,e1,cR e2,bw e2⟩
noncomputable abbrev sT:List Nat:=[40,62,82,181,228]
noncomputable abbrev yp:List Nat:=[40,62,82,120,140,161,181,228]
noncomputable abbrev Nb:List String:=["int","bool","str"]
noncomputable def Wx(K:kJ)(ak:Nat):Bool×Bool×Option (Option ar)×Option (Option ar)×Option Bool×Option Bool:=(n6 K ak "__class__",mm K ak,eF K (.ref ak) "__class__",rY K (.builtin "object.__class__") "__get__",takesIn K (.builtin "object.__class__"),mroIn K ak (.type "object"))
theorem TP(h1:(sT.map λak=>yp.map λC=>iQ W.K (.ref ak) (.ref C))=sT.map λak=>yp.map λC=>Y (uM ak C))(h2:(sT.map λak=>Nb.map λn=>iQ W.K (.ref ak) (.type n))=sT.map λ_=>Nb.map λ_=>Y I)
  (h3:(Jz.map λn=>yp.map λC=>iQ W.K (.type n) (.ref C))=Jz.map λ_=>yp.map λ_=>Y I) (h4:(Jz.map λn=>Nb.map λm=>iQ W.K (.type n) (.type m))=Jz.map λn=>Nb.map λm=>Y (n==m||(n=="bool"&&m=="int")))
  (h5:(sT.map (Wx W.K))=sT.map λ_=>(S,S,Y (Y (.builtin "object.__class__")),Y (Y (.builtin "getset_descriptor.__get__")),Y S,Y S)):Gi W:=by
 have ty:∀{n},sS n=S->n∈Nb:=λ{n} h=>by
  rcases uy h with rfl|rfl|rfl
  ·exact .head _
  ·exact .tail _ (.head _)
  ·exact .tail _ (.tail _ (.head _))
 exact⟨λak C a b=>cJ (cJ h1 (jI a)) (jI b),λak n a b=>cJ (cJ h2 (jI a)) (ty b),λn C a b=>cJ (cJ h3 a) (jI b),λn m a b=>cJ (cJ h4 a) (ty b),
  λak a=>let k:=cJ h5 (jI a);⟨cR k,cR (bw k),cR (bw (bw k)),cR (bw (bw (bw k))),cR (bw (bw (bw (bw k)))),bw (bw (bw (bw (bw k))))⟩⟩
end
section
open PySem PySem.W PySem.Calls PyProof.Rows
variable{T:aT}{W:Wd}
structure VL(l:List (aV×Nat))(names:List (aV×dr))(n i:Nat)(x:aV):Prop where
 lo:n<=i
 hi:i<n+l.length
 g:(l[i-n]?).map (·.1)=Y x
 mem:x∈names.map (·.1)
theorem gZ:∀{names:List (aV×dr)}{n i:Nat}{x:aV},(gG n names).lookup x=Y i->VL (gG n names) names n i x
 |[],n,i,x,h=>by exact nS h
 |(y,k)::r,n,i,x,h=>by have e:gG n ((y,k)::r)=bif k==.local||k==.cell then(y,n)::gG (n+1) r else gG n r:=rfl;induction q:k==.local||k==.cell with
  |true=>rw[e,q]at h⊢;have h:((y,n)::gG (n+1) r).lookup x=Y i:=h;rw[List.lookup_cons]at h;induction q:x==y with
   |true=>rw[q]at h;obtain rfl:=sI h;rw[eq_of_beq q];exact⟨Nat.le_refl _,Nat.lt_add_of_pos_right (Nat.succ_pos _),by rw[Nat.sub_self];rfl,.head _⟩
   |false=>rw[q]at h;obtain⟨h1,h2,h3,h4⟩:=gZ h;refine⟨Nat.le_of_succ_le h1,by show i<n+((gG (n+1) r).length+1);exact Nat.lt_of_lt_of_eq h2 (Nat.succ_add _ _),?_,.tail _ h4⟩;show(((y,n)::gG (n+1) r)[i-n]?).map (·.1)=_;rw[show i-n=(i-(n+1))+1 by exact(Nat.sub_add_cancel (Nat.sub_pos_of_lt h1)).symm];exact h3
  |false=>rw[e,q]at h⊢;obtain⟨h1,h2,h3,h4⟩:=gZ (show(gG n r).lookup x=Y i from h);exact⟨h1,h2,h3,.tail _ h4⟩
theorem ti{V:VI}{x:aV}{i:Nat}(h:eE V x=Y i):V.vm.lookup x=Y i:=(gq h).2
theorem Bk{sc:cL}(x y:aV)(i:Nat)(h1:eE (gc sc) x=Y i)(h2:eE (gc sc) y=Y i):x=y:=aQ ((gZ (ti h1)).g.symm.trans (gZ (ti h2)).g)
theorem H0{sc:cL}(x:aV)(i:Nat)(h:eE (gc sc) x=Y i):i<(gc sc).top:=by have:=(gZ (ti h)).hi;rw[Nat.zero_add]at this;exact this
theorem Vd{sc:cL}(hn:(sc.names.all λp=>!(p.1==("__debug__":aV))&&!(p.1==("__classdict__":aV)))=S)(x:aV)(i:Nat)(h:eE (gc sc) x=Y i):(x==("__debug__":aV))=I/\(x==("__classdict__":aV))=I:=by obtain⟨p,hp,rfl⟩:=List.mem_map.mp (gZ (ti h)).mem;have:=List.all_eq_true.mp hn p hp;rw[ax]at this;exact⟨cu this.1,cu this.2⟩
theorem pI:∀{names:List (aV×dr)}{n m:Nat}{a b:List (aV×bf)}{x:aV},((a.lookup x).isSome=(b.lookup x).isSome)->((eX n names a).lookup x).isSome=((eX m names b).lookup x).isSome
 |[],_,_,_,_,_,h=>h
 |(y,k)::r,n,m,a,b,x,h=>by
  unfold eX
  by_cases q:(k==.cell)=S
  ·rw[if_pos q,if_pos q]
   refine pI ?_;rw[List.lookup_cons,List.lookup_cons];cases x==y with
   |true=>rfl
   |false=>exact h
  ·rw[if_neg q,if_neg q]
   exact pI h
noncomputable def wn(o:Option iS):FuncData:=match o with
 |some o=>(match o.data with
  |.func fd=>fd
  |_=>default)
 |.none=>default
def TG(o:Option iS)(fi:FI):Fn:=⟨(wn o).name,(wn o).qualname,(wn o).params,fi.body,fi.sc,(wn o).defaults,(wn o).kwdefaults,(wn o).doc,(wn o).pyModule,(wn o).code,(wn o).closureTuple,(o.map (·.cls)).getD .none,(wn o).annotations,o.bind (·.dict),(o.map (·.slots)).getD #[]⟩
def tK(o:Option iS)(p:yW):Option iS:=p.fi.map λfi=>⟨(TG o fi).oc,(TG o fi).od,.func (TG o fi).fd,(TG o fi).osl⟩
def Jt(K:kJ)(f:Nat):List ar:=match(wn (K.lookup f)).defaults with
 |.ref d=>(MZ (K.lookup d)).toList
 |_=>[]
noncomputable def WF(sc:cL)(x:aV):Bool:=match sc.names.lookup x with
 |some k=>k==.local||(k==.cell&&((eX 0 sc.names []).lookup x).isSome)
 |.none=>I
def Yu(fi:FI):Bool:=(!fi.sc.isCoroutine&&!fi.sc.isGenerator&&fi.sc.kind==.function&&lj fi.pn)&&fi.pn.all (WF fi.sc)&&(List.range fi.pn.length).all (λi=>(fi.pn[i]?).all λx=>eE (gc fi.sc) x==Y i)&&
 (fi.sc.names.all λp=>!(p.1==("__debug__":aV))&&!(p.1==("__classdict__":aV)))&&Nat.ble fi.dfl.length fi.pn.length
noncomputable def DR(u:Nat->ar)(k:Nat):List ar:=(List.range k).map u
noncomputable def sR(p:yW):List aV:=match p.fi with
 |some fi=>fi.pn
 |.none=>[]
noncomputable def tB(n d:Nat):List Nat:=(List.range (d+1)).map λj=>n-d+j
def tX(K:kJ)(u:Nat->ar)(p:Nat×yW):List (Option (List (aV×ar))):=(tB (sR p.2).length p.2.dfl.length).map λk=>Y ((sR p.2).zip (DR u k++(Jt K p.1).drop (k-((sR p.2).length-p.2.dfl.length))))
def tJ(K:kJ)(ah:Setting)(u:Nat->ar)(p:Nat×yW):List (Option (List (aV×ar))):=(tB (sR p.2).length p.2.dfl.length).map λk=>peek K ah (vq (wn (K.lookup p.1)) ⟨DR u k,[]⟩)
def KR(p:Nat×yW):Bool:=Nat.beq (sR p.2).length 3&&Nat.beq p.2.dfl.length 1
def Jk(p:Nat×yW):aV:=(sR p.2)[2]?.getD se
def Bf(K:kJ)(ah:Setting)(u:Nat->ar)(p:Nat×yW):Option (List (aV×ar)):=peek K ah (vq (wn (K.lookup p.1)) ⟨DR u 2,[(Jk p,u 2)]⟩)
def Bw(u:Nat->ar)(p:Nat×yW):Option (List (aV×ar)):=Y ((sR p.2).zip (DR u 3))
theorem MJ(us:List ar):∃u:Nat->ar,us=DR u us.length:=by
 refine⟨λi=>(us[i]?).getD .none,List.ext_getElem? λi=>?_⟩;unfold DR;rw[List.getElem?_map]
 by_cases h:i<us.length
 ·rw[List.getElem?_range h,List.getElem?_eq_getElem h,Option.map_some,List.getElem?_eq_getElem h];rfl
 ·rw[List.getElem?_eq_none (Nat.le_of_not_lt h),List.getElem?_eq_none (by rw[List.length_range];exact Nat.le_of_not_lt h)];rfl
theorem Jw{p:yW}{fi:FI}(h:p.fi=Y fi):fi.dfl=p.dfl:=by
 have key:∀s,RM p.dfl s=Y fi->fi.dfl=p.dfl:=λs e=>by obtain⟨_,_,_,_,_,_,_,_,_,_,e⟩:=Zy ns e;exact sI e▸rfl
 unfold yW.fi at h;obtain⟨s,_,h⟩:=aA.mp h;induction q:p.mem with
 |some j=>rw[q]at h;obtain⟨t,_,h⟩:=aA.mp h;exact key t h
 |none=>rw[q]at h;exact key s h
theorem HM{o:Option iS}{p:yW}{fi:FI}(h:p.fi=Y fi)(e:o=tK o p):wn o=(TG o fi).fd:=by have:=congrArg wn e;unfold tK at this;rw[h]at this;exact this
theorem Ln{K:kJ}{p:Nat×yW}{fi:FI}{us:List ar}{ah:Setting}(hfi:p.2.fi=Y fi)(hw:∀ah u,tJ K ah u p=tX K u p)(h1:fi.pn.length-fi.dfl.length<=us.length)(h2:us.length<=fi.pn.length):
  peek K ah (vq (wn (K.lookup p.1)) ⟨us,[]⟩)=Y (fi.pn.zip (us++(Jt K p.1).drop (us.length-(fi.pn.length-fi.dfl.length)))):=by
 have hd:=Jw hfi;have hpn:sR p.2=fi.pn:=by unfold sR;exact hfi▸rfl
 obtain⟨u,hu⟩:=MJ us;have hm:us.length∈tB (sR p.2).length p.2.dfl.length:=by unfold tB;exact hpn▸hd▸List.mem_map.mpr ⟨us.length-(fi.pn.length-fi.dfl.length),List.mem_range.mpr (by omega),by exact Nat.add_sub_of_le h1⟩
 have:=cJ (hw ah u) hm;rw[hpn,<-hd,<-hu]at this;exact this
theorem x9{k:Nat}{x y:aV}(a:T.names[k]?=Y x)(b:T.names[k]?=Y y):x=y:=by rw[a]at b;exact aQ b
theorem Wn(hn:T.names.Nodup){p:Nat×yW}{fi:FI}(hfi:p.2.fi=Y fi)(hB:Yu fi=S)(ho:W.K.lookup p.1=tK (W.K.lookup p.1) p.2)(hc:codeIn W.K (wn (W.K.lookup p.1)).code (wn (W.K.lookup p.1)).qualname=S)
  (hdf:(Jt W.K p.1).map kg=p.2.dfl.map Y) (hw:∀ah u,tJ W.K ah u p=tX W.K u p) (hk:KR p=S->∀ah u,Bf W.K ah u p=Bw u p):Ms T W p.1 fi:=by
 have hd:=Jw hfi;have hpn:sR p.2=fi.pn:=by unfold sR;exact hfi▸rfl
 have hF:=HM hfi ho;have hdv:=rA hdf;rw[<-hd]at hdv;unfold Yu at hB;rw[ax,ax,ax,ax,ax,ax,ax]at hB;obtain⟨⟨⟨⟨⟨⟨⟨c1,c2⟩,c3⟩,c4⟩,c5⟩,c6⟩,c7⟩,c8⟩:=hB;have c8:=eV c8;refine⟨TG (W.K.lookup p.1) fi,U,U,ho.trans (by unfold tK;rw[hfi];rfl),hc,cu c1,cu c2,eq_of_beq c3,oF c4,λx hx=>?_,λi x e=>?_,Bk,Vd c7,H0,λas ks bs e=>?_⟩
 ·have h:=List.all_eq_true.mp c5 x hx
  unfold WF at h;induction q:fi.sc.names.lookup x with
  |none=>rw[q]at h;exact nT h
  |some k=>
   rw[q]at h;have h:(k==.local||(k==.cell&&((eX 0 fi.sc.names []).lookup x).isSome))=S:=h;rw[dz,ax]at h;rcases h with h|h
   ·exact .loc (q.trans (by exact(eq_of_beq h)▸rfl))
   ·exact .cell (q.trans (by exact(eq_of_beq h.1)▸rfl)) λn=>(pI (m:=0) (b:=[]) U).trans h.2
 ·have h:=List.all_eq_true.mp c6 i (List.mem_range.mpr (List.getElem?_eq_some_iff.mp e).1)
  rw[e]at h;exact eq_of_beq h
 ·induction ks using List.casesOn with
  |nil=>obtain⟨q,e⟩:=gq (show(bif Nat.ble (fi.pn.length-fi.dfl.length) as.length&&Nat.ble as.length fi.pn.length then Y (as++fi.dfl.drop (as.length-(fi.pn.length-fi.dfl.length)))else .none)=Y bs from e);rw[ax]at q;have q1:=eV q.1;have q2:=eV q.2;obtain rfl:=sI e;refine⟨by rw[List.length_append,List.length_drop];exact ZO c8 q1 q2,λρ us kws ha hk'=>?_⟩;cases hk';have hl:=ha.length;refine⟨us++(Jt W.K p.1).drop (as.length-(fi.pn.length-fi.dfl.length)),ha.append ((hdv.mono λ_ _ z=>z ρ).drop _),λah=>?_⟩;rw[<-hF,hl];rw[hl]at q1 q2;exact Ln hfi hw q1 q2
  |cons p' r=>obtain⟨q,e2⟩:=gq (show(bif r.isEmpty&&Nat.beq fi.pn.length 3&&Nat.beq fi.dfl.length 1&&Nat.beq as.length 2&&((fi.pn[2]?).bind (lB T)==Y p'.1)then Y (as++[p'.2])else .none)=Y bs from e);rw[ax,ax,ax,ax,List.isEmpty_iff]at q;obtain⟨⟨⟨⟨rfl,q1⟩,q2⟩,q3⟩,q4⟩:=q;obtain⟨nm,q5,q6⟩:=aA.mp (eq_of_beq q4);obtain rfl:=sI e2;have r1:=Nat.eq_of_beq_eq_true q1;have r3:=Nat.eq_of_beq_eq_true q3;refine⟨by rw[List.length_append,r1,r3];rfl,λρ us kws ha hk'=>?_⟩;have hl:=ha.length;cases hk' with
   |cons z zs=>
    cases zs;rename_i kv;obtain⟨x,w⟩:=kv;obtain⟨z1,z2⟩:=z;have hx:x=nm:=x9 z1 (g8 q6);subst hx;refine⟨us++[w],ha.append (.cons z2 .nil),λah=>?_⟩;have hl2:us.length=2:=hl.symm.trans r3;obtain⟨a,b,rfl⟩:∃a b,us=[a,b]:=by
     rcases us with _|⟨a,_|⟨b,_|⟨_,_⟩⟩⟩
     ·cases hl2
     ·cases hl2
     ·exact⟨a,b,U⟩
     ·cases hl2
    have h:=hk (by unfold KR;rw[hpn,<-hd,q1,q2];rfl) ah λi=>([a,b,w][i]?).getD .none;unfold Bf Bw Jk at h;rw[hpn,q5,hF]at h;exact h
end
section
open PySem PySem.W PySem.Calls PyProof.Rows
theorem Gq{us:List ar}{ns:List Int}(h:IntsAre us ns):bP Sv (ns.map J.int) us:=by induction h with
 |nil=>exact .nil
 |cons n t _ ih=>exact .cons (λρ=>.int _ _) ih
structure XG(K:kJ)(P:Params):Prop where
 glob:(fh.glob.map λp=>Lo K p.1)=fh.glob.map λp=>Y p.2
 attr:oz fh (NS K)=oz fh λ_ _=>(S,S,S,Y .none,Y (Y (.builtin "object.__setattr__")),Y .none)
 sd:(fh.sdict.map λp=>K.lookup p.1)=fh.sdict.map λp=>N5 P (K.lookup p.1)
 sd2:(fh.sdict.map λp=>(p.1==fZ,(QF (K.lookup p.1)).map λe=>((x6 e).1.cps.toList,kg e.val)))=fh.sdict.map λp=>(I,p.2.map λq=>(q.1,Y q.2))
 st:(fh.stup.map λp=>K.lookup p.1)=fh.stup.map λp=>NT (K.lookup p.1)
 st2:(fh.stup.map λp=>(MZ (K.lookup p.1)).toList.map kg)=fh.stup.map λp=>p.2.map Y
 gx:(xL.map λp=>Y5 K p.1)=xL.map λ_=>(Y S,Y (.type "type"),Y S,S)
 gy:(xL.map λp=>YZ K p.1)=xL.map λp=>(Y (S,p.2.map ar.ref++JD),Y (Y (.builtin "BaseException.__getattribute__")),Y .none,Y (Y (.builtin "object.__setattr__")),Y S,Y S,Y S)
 gy2:(xL.map λp=>fh.xattrs.map λn=>(fh.names[n]?).map λx=>eF K (.ref p.1) x)=xL.map λp=>fh.xattrs.map λn=>(fh.names[n]?).map λx=>Y .none
 gw:(xL.map λp=>K.lookup p.1)=xL.map λp=>Y ((Uw (K.lookup p.1)).obj p.1)
 gw2:(xL.map λp=>Zo K fh p.1)=xL.map λp=>(S,I,I,(fq fh p.1 0).map λf=>(Y (Y (.ref f)),S))
 ma:CP fh (Za K)=CP fh λ_ f=>(S,Y (Y (.ref f)),S)
 kc:(fh.meth.map λp=>lI K (.ref p.1))=fh.meth.map λ_=>S
 kf:(fh.fns.map λa=>lI K (.ref a))=fh.fns.map λ_=>S
 mt:oR fh (Y2 K)=oR fh λ_ m _=>(S,Y (Y (.ref m)),S,S)
 mz:rF fh (Y1 K)=rF fh λ_ m _=>(Y (Y (.builtin "type.__getattribute__")),S,Y (S,Y (.val (.ref m))))
 cc:(sT.map λak=>yp.map λC=>iQ K (.ref ak) (.ref C))=sT.map λak=>yp.map λC=>Y (uM ak C)
 ct:(sT.map λak=>Nb.map λn=>iQ K (.ref ak) (.type n))=sT.map λ_=>Nb.map λ_=>Y I
 bc:(Jz.map λn=>yp.map λC=>iQ K (.type n) (.ref C))=Jz.map λ_=>yp.map λ_=>Y I
 bt:(Jz.map λn=>Nb.map λm=>iQ K (.type n) (.type m))=Jz.map λn=>Nb.map λm=>Y (n==m||(n=="bool"&&m=="int"))
 own:(sT.map (Wx K))=sT.map λ_=>(S,S,Y (Y (.builtin "object.__class__")),Y (Y (.builtin "getset_descriptor.__get__")),Y S,Y S)
 fo:(mj.map λp=>K.lookup p.1)=mj.map λp=>tK (K.lookup p.1) p.2
 fc:(mj.map λp=>codeIn K (wn (K.lookup p.1)).code (wn (K.lookup p.1)).qualname)=mj.map λ_=>S
 fd:(mj.map λp=>(Jt K p.1).map kg)=mj.map λp=>p.2.dfl.map Y
 fb:∀ah u,mj.map (tJ K ah u)=mj.map (tX K u)
 fk:∀ah u,(mj.filter KR).map (Bf K ah u)=(mj.filter KR).map (Bw u)
theorem XV:(mj.map λp=>p.2.fi.map Yu)=mj.map λ_=>Y S:=by kernel_rfl
theorem DA:lj fh.names=S:=by kernel_rfl
theorem S8:Nr fh.glob=S:=by kernel_rfl
section
variable{W:Wd}{L:Nat}{Z:List Int}{us:List ar}(H:XG W.K W.w.params)
include H
theorem I2(X:W.K.In W.h0)(top:TopRead W.p W.loose W.mg W.mb W.h0)(hL:W.h0.IsList L us.toArray)(hI:IntsAre us Z):Tw (au L Z) W where
 g:=VX X top S8 H.glob
 t:=Ur U (λd vs e=>by have hm:=fO e;have hm:=List.mem_singleton.mp hm;cases hm;exact⟨us,hL,Gq hI⟩) H.sd H.sd2 H.st H.st2
 c:=UW DA H.attr
 x:=Vj U H.gx
 m:=Vb H.ma H.kc H.kf H.mt H.mz
 y:=Ud U H.gy H.gy2
 w:=Ww U H.gw H.gw2
 i:=TP H.cc H.ct H.bc H.bt H.own
theorem E3(f:Nat)(fi:FI)(e:ft f=Y fi):Ms (au L Z) W f fi:=by obtain⟨p,e1,e2⟩:=aA.mp e;have hm:=fO e1;have hB:=cJ XV hm;dsimp only at hB;rw[e2]at hB;exact Wn (T:=au L Z) (p:=(f,p)) (oF DA) e2 (aQ hB) (cJ H.fo hm) (cJ H.fc hm) (cJ H.fd hm) (λah u=>cJ (H.fb ah u) hm) λhk ah u=>cJ (H.fk ah u) (List.mem_filter.mpr ⟨hm,hk⟩)
end
end
section
open PySem PySem.W PySem.Calls PyProof.Rows
def zK(env:pv):Fx:={env,V:=gc env.scope,held:=[],envs:=[env],hand:=I,lo:=0,low:=[]}
noncomputable def BN(l:List (aV×dr)):Bool:=l.all λp=>!(p.2==.cell)
theorem wa{l:List (aV×dr)}(h:BN l=S){x:aV}(e:l.lookup x=Y .cell):False:=by have:=List.all_eq_true.mp h _ (mem_of_lookup e);exact nT this
theorem GK{T:aT}{n:Nat}{fi:FI}{v:J}{H':H}{as:List J}(hfi:ft 911=Y fi)(hb:uX T fi as []=Y as)(hv:v≠.none)(h:oZ T ft (n+1) I 911 as [] []=.ok v H'):
  ∃σ',(pf T (oZ T ft n) 12 (gc fi.sc) fi.body) ⟨as++List.replicate ((gc fi.sc).top+1-as.length) .unb,[],I⟩=.ok (.ret v) σ':=by
 have h:(match ft 911 with
  |some fi=>zZ T (oZ T ft n) fi I as [] []
  |.none=>.stuck)=.ok v H':=h
 replace h:=hfi▸h;have h:(match uX T fi as []with
  |some bs=>pJ ((gc fi.sc).top+1) (pf T (oZ T ft n) 12 (gc fi.sc) fi.body) I bs []
  |.none=>.stuck)=.ok v H':=h
 replace h:=hb▸h;have h:pJ ((gc fi.sc).top+1) (pf T (oZ T ft n) 12 (gc fi.sc) fi.body) I as []=.ok v H':=h;unfold pJ at h;induction e:(pf T (oZ T ft n) 12 (gc fi.sc) fi.body) ⟨as++List.replicate ((gc fi.sc).top+1-as.length) .unb,[],I⟩with
 |ok f s=>replace h:=e▸h;induction f with
  |nxt=>cases h;exact absurd U hv
  |ret w=>cases h;exact⟨s,U⟩
  |brk=>cases h
 |exc x s=>replace h:=e▸h;cases h
 |stuck=>replace h:=e▸h;cases h
theorem Ml{T:aT}{W:Wd}{env:pv}{L:Nat}{n:Nat}{h:cT}{m:aV->Option ar}(F:Fr W.h0 env.locals h m)(hs:eE (gc env.scope) ("script":aV)=Y 0)(hk:env.scope.names.lookup ("script":aV)=Y .local)(hm:m ("script":aV)=Y (.ref L)):
  dB T W (zK env) ⟨[.sref L]++List.replicate n .unb,[],I⟩ [] h:=by
 refine⟨⟨m,F,λx i v h1 h2 h3=>?_⟩,U,λi o as e=>(by cases e),λp hp=>(by cases hp),List.nodup_cons.mpr ⟨List.not_mem_nil,List.nodup_nil⟩,λb hb=>(by cases hb),U,λi hi=>absurd hi (Nat.not_lt_zero _)⟩;induction i with
 |zero=>have hx:x=("script":aV):=Bk _ _ _ h1 hs;exact hx▸(sI h2)▸.loc hk _ hm (.sref L)
 |succ i=>
  have h2:(List.replicate n J.unb)[i]?=Y v:=h2;rw[List.getElem?_replicate]at h2
  split at h2
  ·exact absurd (aQ h2).symm h3
  ·exact nS h2
theorem HO{W:Wd}{A:ch}{s:aF}{L L0 fa:bf}{cd:ar}{nm:aV}{body:List eD}{sc:cL}{Z:List Int}{us:List ar}{m:aV->Option ar}{Q:qP->aF->Prop}{E:ar->aF->Prop}{H':H}{n:Nat}
  (H:XG W.K W.w.params) (X:W.K.In W.h0) (top:TopRead W.p W.loose W.mg W.mb W.h0) (hL:W.h0.IsList L us.toArray) (hI:IntsAre us Z)
  (hfi:ft 911=Y ⟨[("script":aV)],[],body,sc⟩) (hnc:BN sc.names=S)
  (hA:A.frames=Y [vw nm sc L0 fa cd]) (hh:A.handled=cV) (R:cw A n)
  (F:Fr W.h0 L0 s.heap m) (hm:m ("script":aV)=Y (.ref L)) (htk:0<s.toks)
  (hlaw:oZ (au L Z) ft (n+1) I 911 [.sref L] [] []=.ok (.bool S) H')
  (hq:∀h' tk,(∀b o,W.h0.get? b=Y o->h'.get? b=Y o)->Q (.ret (.bool S)) {s with heap:=h',toks:=tk}):
  bY (cB W.prog W.w) A (execs body (vw nm sc L0 fa cd)) Q E s:=by
 obtain⟨σ',vz⟩:=GK hfi U (by intro z;cases z) hlaw;obtain⟨Fn,g1,g2,g3⟩:=E3 (L:=L) (Z:=Z) H 911 _ hfi;have FT:=I2 (L:=L) (Z:=Z) H X top hL hI;have GA:=Ia FT (E3 H) n;have g2:Fn.scope=sc:=g2;have kind:sc.kind=.function:=by exact g2▸g3.kind
 have hk:sc.names.lookup ("script":aV)=Y .local:=by cases g3.kinds ("script":aV) (.head _)with
  |loc h=>rw[g2]at h;exact h
  |cell h _=>rw[g2]at h;exact(wa hnc h).elim
 have C:fD (zK (vw nm sc L0 fa cd)) A:=
  {scope:=rfl,kind:=kind,glob:=rfl,bi:=rfl,inj:=Bk,nd:=λx i h=>g3.nd x i (by exact g2▸h),frames:=hA,
   envs:=λe he=>by rw[List.mem_singleton.mp he];exact⟨kind,L0,U,.inl U⟩,
   hand:=λ_=>hh,top:=H0,
   cells:=λx hx=>(wa hnc hx).elim,
   lo:=λ_ _ _=>Nat.zero_le _,lotop:=Nat.zero_le _}
 have hR:dB (au L Z) W (zK (vw nm sc L0 fa cd)) ⟨[.sref L]++List.replicate ((gc sc).top+1-1) .unb,[],I⟩ [] s.heap:=Ml F (by have:=g3.slots 0 ("script":aV) rfl;rwa[g2]at this) hk hm;refine uN FT GA 12 (zK (vw nm sc L0 fa cd)) A C ⟨U,[],U⟩ R body [] _ [] s (List.prefix_refl _) hR htk Q E ?_;refine(show pf (au L Z) (oZ (au L Z) ft n) 12 (zK (vw nm sc L0 fa cd)).V body ⟨[.sref L]++List.replicate ((gc sc).top+1-1) .unb,[],I⟩=.ok (.ret (.bool S)) σ' from vz)▸?_;intro ρ' h' tk a hp hr hv _;cases hv with
 |ret hv=>cases hv;exact hq h' tk hr.stays
theorem Uz{prog:oU}{w:World}{h0:cT}{p:oU}{loose:List aV}{mean:ExcName->Option ar}{mg mb:aV->Option ar}{A:ch}{s:aF}{L L0 fa:bf}{cd:ar}{nm:aV}{body:List eD}{sc:cL}{Z:List Int}{us:List ar}{m:aV->Option ar}{Q:qP->aF->Prop}{E:ar->aF->Prop}{K:kJ}
  (plain:∃H',oZ (au L Z) ft 40 I 911 [.sref L] [] []=.ok (.bool S) H')
  (X:K.In h0) (top:Top p loose mean mg mb h0) (hL:h0.IsList L us.toArray) (hI:IntsAre us Z)
  (F:Fr h0 L0 s.heap m) (H:XG K w.params)
  (hfi:ft 911=Y ⟨[("script":aV)],[],body,sc⟩) (hnc:BN sc.names=S)
  (hA:A.frames=Y [vw nm sc L0 fa cd]) (hh:A.handled=cV) (hdep:A.depth=302) (hun:A.units=7)
  (hm:m ("script":aV)=Y (.ref L)) (htk:0<s.toks)
  (hq:∀h' tk,(∀b o,h0.get? b=Y o->h'.get? b=Y o)->Q (.ret (.bool S)) {s with heap:=h',toks:=tk}):
  bY (cB prog w) A (execs body (vw nm sc L0 fa cd)) Q E s:=by
 obtain⟨H',hlaw⟩:=plain;exact HO (W:=⟨prog,w,K,h0,p,loose,mean,mg,mb,modules_low (topRead_of top).nolimit⟩) (n:=39) H X (topRead_of top) hL hI hfi hnc hA hh ⟨by rw[hdep];decide,by rw[hun];decide⟩ F hm htk hlaw hq
end
end
end Mine.Internal
namespace Mine
set_option Elab.async true
namespace top
theorem tw17542608870123051758:True:=⟨⟩
theorem tw10252623693936335467:True:=⟨⟩
theorem tw4250950275838387964:True:=⟨⟩
theorem tw14466935161476858967:True:=⟨⟩
theorem tw9326722878772556681:True:=⟨⟩
theorem tw11760055953109336660:True:=⟨⟩
theorem tw8547604310838440241:True:=⟨⟩
theorem tw4213018616267185653:True:=⟨⟩
theorem tw3909029901177050473:True:=⟨⟩
theorem tw11577829705659331004:True:=⟨⟩
theorem tw4547018644641229820:True:=⟨⟩
theorem tw1971433849790844608:True:=⟨⟩
theorem tw4626048006780466326:True:=⟨⟩
theorem tw18062624165398249997:True:=⟨⟩
theorem tw17788931634197215145:True:=⟨⟩
theorem tw16885616592811714743:True:=⟨⟩
theorem tw4047667213573674445:True:=⟨⟩
theorem tw16533540343700365917:True:=⟨⟩
theorem tw11520865232209809239:True:=⟨⟩
theorem tw2464713573024523455:True:=⟨⟩
theorem tw13994475860397038760:True:=⟨⟩
theorem tw1950521091445644615:True:=⟨⟩
theorem tw682014064893787789:True:=⟨⟩
theorem tw9227057690007400460:True:=⟨⟩
theorem tw352232786441526191:True:=⟨⟩
theorem tw4046864289407762814:True:=⟨⟩
theorem tw679676368844127653:True:=⟨⟩
theorem tw7059692629156357883:True:=⟨⟩
theorem tw7153270680253938626:True:=⟨⟩
theorem tw14632489290957082403:True:=⟨⟩
theorem tw5667650583090716360:True:=⟨⟩
theorem tw14823308797102314842:True:=⟨⟩
theorem tw7008692893051332821:True:=⟨⟩
theorem tw1040915598704419856:True:=⟨⟩
theorem tw18177719399980262173:True:=⟨⟩
theorem tw18034075008235765660:True:=⟨⟩
theorem tw775762912060472103:True:=⟨⟩
theorem tw283044589724301:True:=⟨⟩
theorem tw9366391650621772374:True:=⟨⟩
theorem tw9684699057600944294:True:=⟨⟩
theorem tw1617357707322924660:True:=⟨⟩
theorem tw427269002284569659:True:=⟨⟩
theorem tw4796303294375832693:True:=⟨⟩
theorem tw2506305409684761478:True:=⟨⟩
theorem tw2063449620868658059:True:=⟨⟩
theorem tw12638030207367898728:True:=⟨⟩
theorem tw8598144960395782539:True:=⟨⟩
theorem tw14319750081657075607:True:=⟨⟩
theorem tw6127594578889010139:True:=⟨⟩
theorem tw15836908640704697380:True:=⟨⟩
theorem tw11159431927160009238:True:=⟨⟩
theorem tw13802547742096326172:True:=⟨⟩
theorem tw11133666699803404755:True:=⟨⟩
theorem tw2965125352208521119:True:=⟨⟩
theorem tw2665807947273092163:True:=⟨⟩
theorem tw14327942687566195431:True:=⟨⟩
theorem tw5244899138074338376:True:=⟨⟩
theorem tw12507017104952529904:True:=⟨⟩
theorem tw1869187583165140508:True:=⟨⟩
theorem tw7127249843939869334:True:=⟨⟩
theorem tw6459276657848829223:True:=⟨⟩
theorem tw9694206877528517478:True:=⟨⟩
theorem tw8679839319945467846:True:=⟨⟩
theorem tw11592465598724292549:True:=⟨⟩
theorem tw908825868028484722:True:=⟨⟩
theorem tw4856909995586565122:True:=⟨⟩
theorem tw314455870634268127:True:=⟨⟩
theorem tw18330144715369815205:True:=⟨⟩
theorem tw2009410202504348048:True:=⟨⟩
theorem tw11012874149002130535:True:=⟨⟩
theorem tw657111498738832265:True:=⟨⟩
theorem tw11620634932572840514:True:=⟨⟩
theorem tw5536038536531405202:True:=⟨⟩
theorem tw104434173382791472:True:=⟨⟩
theorem tw10350142207108426684:True:=⟨⟩
theorem tw13902025155065610156:True:=⟨⟩
theorem tw16264823338695392855:True:=⟨⟩
theorem tw11468358511172941013:True:=⟨⟩
theorem tw11922380849998532372:True:=⟨⟩
theorem tw13985988839938425345:True:=⟨⟩
theorem tw10180943152330463961:True:=⟨⟩
theorem tw17576949682797635024:True:=⟨⟩
theorem tw1754339480302792767:True:=⟨⟩
theorem tw18137363274558907533:True:=⟨⟩
theorem tw3581848524822189991:True:=⟨⟩
theorem tw10768140376307724812:True:=⟨⟩
theorem tw453181688931711583:True:=⟨⟩
theorem tw16123964013534891561:True:=⟨⟩
theorem tw5507162329139097715:True:=⟨⟩
theorem tw17594962761535629368:True:=⟨⟩
theorem tw4383139521930768336:True:=⟨⟩
theorem tw13345470168829271861:True:=⟨⟩
theorem tw13044034144603486326:True:=⟨⟩
theorem tw12488038555639769405:True:=⟨⟩
theorem tw13500427573557490136:True:=⟨⟩
theorem tw10970771490040547393:True:=⟨⟩
theorem tw13369591340354186047:True:=⟨⟩
theorem tw7675417749720738473:True:=⟨⟩
theorem tw6812286434817487243:True:=⟨⟩
theorem tw16439428074185983240:True:=⟨⟩
theorem tw10643057118474118344:True:=⟨⟩
theorem tw16415559393655328363:True:=⟨⟩
theorem tw6333448901615975916:True:=⟨⟩
theorem tw1897025099450329940:True:=⟨⟩
theorem tw4250876409542091131:True:=⟨⟩
theorem tw8321918168302905379:True:=⟨⟩
theorem tw1169771345039838236:True:=⟨⟩
theorem tw7198060816514059695:True:=⟨⟩
theorem tw17176029603704830031:True:=⟨⟩
theorem tw11858546649754279707:True:=⟨⟩
theorem tw47109162367338493:True:=⟨⟩
theorem tw14371913498598963198:True:=⟨⟩
theorem tw6292954644110606532:True:=⟨⟩
theorem tw13830271770371739309:True:=⟨⟩
theorem tw9233335307524088747:True:=⟨⟩
theorem tw12415523145999629524:True:=⟨⟩
theorem tw1195175773429642966:True:=⟨⟩
theorem tw8054331753737935190:True:=⟨⟩
theorem tw9990226795618131978:True:=⟨⟩
theorem tw9833397302626899308:True:=⟨⟩
theorem tw8912170899635468890:True:=⟨⟩
theorem tw5225153198818245361:True:=⟨⟩
theorem tw390997316461189296:True:=⟨⟩
theorem tw1124271682379634556:True:=⟨⟩
theorem tw11383000496634168614:True:=⟨⟩
theorem tw2968346561183084112:True:=⟨⟩
theorem tw4158126171336067921:True:=⟨⟩
theorem tw11396854449078567652:True:=⟨⟩
theorem tw4597200072644226624:True:=⟨⟩
theorem tw8735323631387419056:True:=⟨⟩
theorem tw16612331741718818515:True:=⟨⟩
theorem tw5790966258338625528:True:=⟨⟩
theorem tw8645369167282567922:True:=⟨⟩
theorem tw12643520174271941249:True:=⟨⟩
theorem tw8628236747792435071:True:=⟨⟩
theorem tw9547732980113122599:True:=⟨⟩
theorem tw1284575025550258836:True:=⟨⟩
theorem tw6694047246710070196:True:=⟨⟩
theorem tw7313339093194340965:True:=⟨⟩
theorem tw8729362747519067210:True:=⟨⟩
theorem tw114735475811551136:True:=⟨⟩
theorem tw18236624570336363585:True:=⟨⟩
theorem tw5609151216138764652:True:=⟨⟩
theorem tw7681529838311687354:True:=⟨⟩
theorem tw17964300760807480141:True:=⟨⟩
theorem tw649594095290182367:True:=⟨⟩
theorem tw13272337422414781067:True:=⟨⟩
theorem tw10801874191123338550:True:=⟨⟩
theorem tw18367679650794681301:True:=⟨⟩
theorem tw8212240652046128837:True:=⟨⟩
theorem tw84136930442132756:True:=⟨⟩
theorem tw6659320528611288953:True:=⟨⟩
theorem tw11364231302868200999:True:=⟨⟩
theorem tw2580922434103091657:True:=⟨⟩
theorem tw7079599612431449588:True:=⟨⟩
theorem tw13359135706311490777:True:=⟨⟩
theorem tw11762496359356365647:True:=⟨⟩
theorem tw12777601194060584777:True:=⟨⟩
theorem tw602653604445443664:True:=⟨⟩
theorem tw4566856676736034171:True:=⟨⟩
theorem tw17981982808018919739:True:=⟨⟩
theorem tw16357309143852133390:True:=⟨⟩
theorem tw7845129631348957993:True:=⟨⟩
theorem tw14399976873020721970:True:=⟨⟩
theorem tw7250933059871147345:True:=⟨⟩
theorem tw16128028805679967097:True:=⟨⟩
theorem tw13899568491130100285:True:=⟨⟩
theorem tw681777741448182936:True:=⟨⟩
theorem tw12904532413392791838:True:=⟨⟩
theorem tw14277827659066580250:True:=⟨⟩
theorem tw13546161746385187788:True:=⟨⟩
theorem tw2910609919460849807:True:=⟨⟩
theorem tw11584198869435930015:True:=⟨⟩
theorem tw8204474986945543665:True:=⟨⟩
theorem tw13370750898655102155:True:=⟨⟩
theorem tw8435561252592420358:True:=⟨⟩
theorem tw8139039716903228087:True:=⟨⟩
theorem tw7358114872323791358:True:=⟨⟩
theorem tw14317375437502057738:True:=⟨⟩
theorem tw5088376156974544275:True:=⟨⟩
theorem tw1149218181149386328:True:=⟨⟩
theorem tw13820912127525551613:True:=⟨⟩
theorem tw17033825039287860005:True:=⟨⟩
theorem tw18064794426631996164:True:=⟨⟩
theorem tw5915399644114372684:True:=⟨⟩
theorem tw9851269098105209369:True:=⟨⟩
theorem tw7325726471975496349:True:=⟨⟩
theorem tw3820434133910038737:True:=⟨⟩
theorem tw13844505572957833930:True:=⟨⟩
theorem tw14453841093610474573:True:=⟨⟩
theorem tw5738303106652476479:True:=⟨⟩
theorem tw14901070454687303710:True:=⟨⟩
theorem tw16580785732701462914:True:=⟨⟩
theorem tw3331421620988305804:True:=⟨⟩
theorem tw4835499133494076262:True:=⟨⟩
theorem tw10006222313960134694:True:=⟨⟩
theorem tw10783980745131425670:True:=⟨⟩
theorem tw7160873610591055699:True:=⟨⟩
theorem tw3479634599624807885:True:=⟨⟩
theorem tw17160434163424456010:True:=⟨⟩
theorem tw1275901062530889299:True:=⟨⟩
theorem tw8999917154711486175:True:=⟨⟩
theorem tw12342655685612074800:True:=⟨⟩
theorem tw16068562728529669930:True:=⟨⟩
theorem tw14826035006057030972:True:=⟨⟩
theorem tw10936122117785486979:True:=⟨⟩
theorem tw15245507539482535896:True:=⟨⟩
theorem tw16866024460163772082:True:=⟨⟩
theorem tw5839659824258004927:True:=⟨⟩
theorem tw1697544655201012999:True:=⟨⟩
theorem tw372964977893139469:True:=⟨⟩
theorem tw1294077662247117797:True:=⟨⟩
theorem tw1142465760834251562:True:=⟨⟩
theorem tw1843344800811705456:True:=⟨⟩
theorem tw10816355053677723559:True:=⟨⟩
theorem tw3422688185749166683:True:=⟨⟩
theorem tw9961057766049560675:True:=⟨⟩
theorem tw6916252892733821390:True:=⟨⟩
theorem tw1893503896311436057:True:=⟨⟩
theorem tw9854310039474760501:True:=⟨⟩
theorem tw16759092144687519636:True:=⟨⟩
theorem tw7444641836354208208:True:=⟨⟩
theorem tw15092371282622821202:True:=⟨⟩
theorem tw568400683779154973:True:=⟨⟩
theorem tw1676862907878916244:True:=⟨⟩
theorem tw14263998999751124003:True:=⟨⟩
theorem tw12080426169559351053:True:=⟨⟩
theorem tw15286249088069653756:True:=⟨⟩
theorem tw10577272966987657301:True:=⟨⟩
theorem tw10836530967397901330:True:=⟨⟩
theorem tw16896751376397280635:True:=⟨⟩
theorem tw661290744650703789:True:=⟨⟩
theorem tw12483720753089274532:True:=⟨⟩
theorem tw15008207993883188931:True:=⟨⟩
theorem tw653121476165976413:True:=⟨⟩
theorem tw11840804652615492782:True:=⟨⟩
theorem tw7344827449581427950:True:=⟨⟩
theorem tw8069049012094873728:True:=⟨⟩
theorem tw7737320934136571279:True:=⟨⟩
theorem tw5647976800219259906:True:=⟨⟩
theorem tw6733462575251390621:True:=⟨⟩
theorem tw302023382947574297:True:=⟨⟩
theorem tw2287362676942042354:True:=⟨⟩
theorem tw4695670854781333657:True:=⟨⟩
theorem tw2126296398998916975:True:=⟨⟩
theorem tw3347922821702440152:True:=⟨⟩
theorem tw4736427724481360342:True:=⟨⟩
theorem tw6919701780365589675:True:=⟨⟩
theorem tw3739144386018749749:True:=⟨⟩
theorem tw6185767955086497853:True:=⟨⟩
theorem tw15976228082101565994:True:=⟨⟩
theorem tw860223938195835975:True:=⟨⟩
theorem tw18085771088847121727:True:=⟨⟩
theorem tw12819366960792805191:True:=⟨⟩
theorem tw18063644159110109576:True:=⟨⟩
theorem tw8237333600419904120:True:=⟨⟩
theorem tw4547113066930546574:True:=⟨⟩
theorem tw14724332232928298890:True:=⟨⟩
theorem tw13385244156195431271:True:=⟨⟩
theorem tw216529984938456764:True:=⟨⟩
theorem tw13187519465064655849:True:=⟨⟩
theorem tw1536312445118062077:True:=⟨⟩
theorem tw10414433010598505635:True:=⟨⟩
theorem tw5476889619067714990:True:=⟨⟩
theorem tw6906291655842520137:True:=⟨⟩
theorem tw4555866861457887817:True:=⟨⟩
theorem tw17620759639134147866:True:=⟨⟩
theorem tw3423177367516475676:True:=⟨⟩
theorem tw13922054642007902626:True:=⟨⟩
theorem tw16656781636731879198:True:=⟨⟩
theorem tw7717162694582976202:True:=⟨⟩
theorem tw13090165191389475591:True:=⟨⟩
theorem tw6610085992087608168:True:=⟨⟩
theorem tw15349318334595610263:True:=⟨⟩
theorem tw10562855833978642645:True:=⟨⟩
theorem tw11141966352661209427:True:=⟨⟩
theorem tw8622502720953521162:True:=⟨⟩
theorem tw13290321428070320777:True:=⟨⟩
theorem tw17323899518341599180:True:=⟨⟩
theorem tw8397750140179286328:True:=⟨⟩
theorem tw12287887523310495049:True:=⟨⟩
theorem tw8369368087495890639:True:=⟨⟩
theorem tw18121752080927795069:True:=⟨⟩
theorem tw5058314954733539658:True:=⟨⟩
theorem tw1353657120722975067:True:=⟨⟩
theorem tw11072019736110318841:True:=⟨⟩
theorem tw3715792687998586317:True:=⟨⟩
theorem tw4526881389914513428:True:=⟨⟩
theorem tw2568384757666718300:True:=⟨⟩
theorem tw14705559076539443318:True:=⟨⟩
theorem tw4111001743050654279:True:=⟨⟩
theorem tw4713442408853163898:True:=⟨⟩
theorem tw13307591127769906961:True:=⟨⟩
theorem tw9456006794991739263:True:=⟨⟩
theorem tw16674975167109581930:True:=⟨⟩
theorem tw3846862658102513837:True:=⟨⟩
theorem tw411662067469150650:True:=⟨⟩
theorem tw14142502885225118848:True:=⟨⟩
theorem tw9673933992889287130:True:=⟨⟩
theorem tw8620165645458168473:True:=⟨⟩
theorem tw13759081321499198575:True:=⟨⟩
theorem tw13134186033006778460:True:=⟨⟩
theorem tw2822501910515967889:True:=⟨⟩
theorem tw18016941796951652274:True:=⟨⟩
theorem tw877433047237710547:True:=⟨⟩
theorem tw8150499350492408157:True:=⟨⟩
theorem tw16414630628198896168:True:=⟨⟩
theorem tw1585457916280141200:True:=⟨⟩
theorem tw12762922103008790111:True:=⟨⟩
theorem tw3207569582813703071:True:=⟨⟩
theorem tw16510627131591992583:True:=⟨⟩
theorem tw7830913209206220567:True:=⟨⟩
theorem tw15058813355848621054:True:=⟨⟩
theorem tw708234853630380328:True:=⟨⟩
theorem tw7671549972530922468:True:=⟨⟩
theorem tw3033006917804047512:True:=⟨⟩
theorem tw2686779749311850726:True:=⟨⟩
theorem tw13422432716488540661:True:=⟨⟩
theorem tw9913501989792142831:True:=⟨⟩
theorem tw18326957874037197240:True:=⟨⟩
theorem tw9063741608606530840:True:=⟨⟩
theorem tw6577238642498478885:True:=⟨⟩
theorem tw6438537300738474071:True:=⟨⟩
theorem tw16120041803238788101:True:=⟨⟩
theorem tw2417791160451022400:True:=⟨⟩
theorem tw2105017259488925948:True:=⟨⟩
theorem tw15503665604740900718:True:=⟨⟩
theorem tw3418912648064540324:True:=⟨⟩
theorem tw3767615275625035234:True:=⟨⟩
theorem tw6487610083215253720:True:=⟨⟩
theorem tw5444345374180229054:True:=⟨⟩
theorem tw6664487174759623829:True:=⟨⟩
theorem tw7847352863974893604:True:=⟨⟩
theorem tw4671429814451907529:True:=⟨⟩
theorem tw16453443671601555132:True:=⟨⟩
theorem tw16659674399394625376:True:=⟨⟩
theorem tw2835187731363253809:True:=⟨⟩
theorem tw14789260269991461300:True:=⟨⟩
theorem tw12520176845478516731:True:=⟨⟩
theorem tw11613256710310857696:True:=⟨⟩
theorem tw17366924284538989914:True:=⟨⟩
theorem tw14402358008270493973:True:=⟨⟩
theorem tw6624316729101989866:True:=⟨⟩
theorem tw11459358961799972967:True:=⟨⟩
theorem tw15508944514630427714:True:=⟨⟩
theorem tw9382581127745807760:True:=⟨⟩
theorem tw1107088416671253978:True:=⟨⟩
theorem tw17022078359063049780:True:=⟨⟩
theorem tw9149571693438533347:True:=⟨⟩
theorem tw16525863338940772298:True:=⟨⟩
theorem tw11423202765487971197:True:=⟨⟩
theorem tw2462062305354472974:True:=⟨⟩
theorem tw3644161924160858147:True:=⟨⟩
theorem tw9743097575036673082:True:=⟨⟩
theorem tw15874363893724204672:True:=⟨⟩
theorem tw1988063486488863061:True:=⟨⟩
theorem tw2248615004971204189:True:=⟨⟩
theorem tw7587601194962177611:True:=⟨⟩
theorem tw1054488965285714247:True:=⟨⟩
theorem tw11960245374511038805:True:=⟨⟩
theorem tw2422214840401454511:True:=⟨⟩
theorem tw14349089067433371257:True:=⟨⟩
theorem tw13890846271309207196:True:=⟨⟩
theorem tw9059672392935016618:True:=⟨⟩
theorem tw13987285891283452908:True:=⟨⟩
theorem tw4655869559712951663:True:=⟨⟩
theorem tw6203543418390704334:True:=⟨⟩
theorem tw7429413206186439793:True:=⟨⟩
theorem tw6930518751129746686:True:=⟨⟩
theorem tw16155163154822807229:True:=⟨⟩
theorem tw15234444972351076034:True:=⟨⟩
theorem tw3473093325804163894:True:=⟨⟩
theorem tw14029182922437419836:True:=⟨⟩
theorem tw9601329371697537090:True:=⟨⟩
theorem tw16240068400928781132:True:=⟨⟩
theorem tw462939625794472801:True:=⟨⟩
theorem tw16782997733028217545:True:=⟨⟩
theorem tw9854493187847425173:True:=⟨⟩
theorem tw10399464001100048223:True:=⟨⟩
theorem tw16262243036561855896:True:=⟨⟩
theorem tw8800459187187324500:True:=⟨⟩
theorem tw8036327681605100784:True:=⟨⟩
theorem tw7033079012710635876:True:=⟨⟩
theorem tw13177472732611162249:True:=⟨⟩
theorem tw728428047077509346:True:=⟨⟩
theorem tw10579768621468169598:True:=⟨⟩
theorem tw8640417174963836015:True:=⟨⟩
theorem tw72247145696351765:True:=⟨⟩
theorem tw7106672103149713171:True:=⟨⟩
theorem tw2145171640123136144:True:=⟨⟩
theorem tw1321871150748368714:True:=⟨⟩
theorem tw6786057226368545225:True:=⟨⟩
theorem tw5118827330378232414:True:=⟨⟩
theorem tw2446586112883488508:True:=⟨⟩
theorem tw17103177528636943170:True:=⟨⟩
theorem tw8393700709775954928:True:=⟨⟩
theorem tw15877122091014420850:True:=⟨⟩
theorem tw9806617501295524395:True:=⟨⟩
theorem tw12783364522390391256:True:=⟨⟩
theorem tw14235281626263879747:True:=⟨⟩
theorem tw7191137982244381804:True:=⟨⟩
theorem tw12427389293880184781:True:=⟨⟩
theorem tw14214649769353832295:True:=⟨⟩
theorem tw6520327441239513222:True:=⟨⟩
theorem tw14646202821849125000:True:=⟨⟩
theorem tw7436774141650363327:True:=⟨⟩
theorem tw12210559395081530917:True:=⟨⟩
theorem tw16900427199656544559:True:=⟨⟩
theorem tw10774637447528242797:True:=⟨⟩
theorem tw8694864300669457046:True:=⟨⟩
theorem tw17795014544551873601:True:=⟨⟩
theorem tw11145643937294416527:True:=⟨⟩
theorem tw1734106126877513090:True:=⟨⟩
theorem tw11153979150802330146:True:=⟨⟩
theorem tw2581206410525282061:True:=⟨⟩
theorem tw3664424711883983056:True:=⟨⟩
theorem tw17395277212465857529:True:=⟨⟩
theorem tw16844067456194695469:True:=⟨⟩
theorem tw2057334267981633021:True:=⟨⟩
theorem tw146815374380898660:True:=⟨⟩
theorem tw1886144042066472794:True:=⟨⟩
theorem tw2847958352784047137:True:=⟨⟩
theorem tw15687709949711836451:True:=⟨⟩
theorem tw620129878449983639:True:=⟨⟩
theorem tw9614876229902214918:True:=⟨⟩
theorem tw14459580976405569124:True:=⟨⟩
theorem tw3195522803047326042:True:=⟨⟩
theorem tw6381231289166406305:True:=⟨⟩
theorem tw7657828476027519975:True:=⟨⟩
theorem tw17444329988762607307:True:=⟨⟩
theorem tw2619622883677149074:True:=⟨⟩
theorem tw12193372218175167114:True:=⟨⟩
theorem tw16836452506482946331:True:=⟨⟩
theorem tw6286779285267259847:True:=⟨⟩
theorem tw5766051744304087583:True:=⟨⟩
theorem tw1974259917200649262:True:=⟨⟩
theorem tw3254097082911018636:True:=⟨⟩
theorem tw1516213087968936877:True:=⟨⟩
theorem tw10404823597219466188:True:=⟨⟩
theorem tw304654302220672320:True:=⟨⟩
theorem tw7743179893348639699:True:=⟨⟩
theorem tw1108800333578037850:True:=⟨⟩
theorem tw9227541089923242437:True:=⟨⟩
theorem tw53344730913325255:True:=⟨⟩
theorem tw7475746777092488413:True:=⟨⟩
theorem tw9328819404386307858:True:=⟨⟩
theorem tw8541664164027344294:True:=⟨⟩
theorem tw15451780782824253742:True:=⟨⟩
theorem tw4258143625173308034:True:=⟨⟩
theorem tw4859757453598101857:True:=⟨⟩
theorem tw17434308400759680031:True:=⟨⟩
theorem tw12392516345856041104:True:=⟨⟩
theorem tw13852830345959847167:True:=⟨⟩
theorem tw5105846836358774362:True:=⟨⟩
theorem tw6893477703608230032:True:=⟨⟩
theorem tw6756851087969907010:True:=⟨⟩
theorem tw17683472795295644477:True:=⟨⟩
theorem tw16526113553464788058:True:=⟨⟩
theorem tw9800703332001039478:True:=⟨⟩
theorem tw14608685727046917156:True:=⟨⟩
theorem tw15985961358823992270:True:=⟨⟩
theorem tw705360758644809490:True:=⟨⟩
theorem tw14917401599646851644:True:=⟨⟩
theorem tw13191473780850816973:True:=⟨⟩
theorem tw5597187220613765494:True:=⟨⟩
theorem tw3871027444623705763:True:=⟨⟩
theorem tw4791253341166991637:True:=⟨⟩
theorem tw4470563128704297580:True:=⟨⟩
theorem tw13223034962123697568:True:=⟨⟩
theorem tw12764151676501842404:True:=⟨⟩
theorem tw17046948494117081484:True:=⟨⟩
theorem tw17953984050398360512:True:=⟨⟩
theorem tw2732273902793177162:True:=⟨⟩
theorem tw11430207588045935325:True:=⟨⟩
theorem tw2047080938173012442:True:=⟨⟩
theorem tw4468942710605802240:True:=⟨⟩
theorem tw4076138812419527698:True:=⟨⟩
theorem tw3669314199184481253:True:=⟨⟩
theorem tw4159251561096739476:True:=⟨⟩
theorem tw5728218623943512802:True:=⟨⟩
theorem tw1803303928475200142:True:=⟨⟩
theorem tw3453223234828964814:True:=⟨⟩
theorem tw3698484244233388692:True:=⟨⟩
theorem tw4186445540838780016:True:=⟨⟩
theorem tw12559286593441436923:True:=⟨⟩
theorem tw2601905985415302144:True:=⟨⟩
theorem tw14562072457839527476:True:=⟨⟩
theorem tw5590232498371695878:True:=⟨⟩
theorem tw13001836021917841797:True:=⟨⟩
theorem tw18164388396756303480:True:=⟨⟩
theorem tw2249405535684624136:True:=⟨⟩
theorem tw10001883323181062329:True:=⟨⟩
theorem tw3995942328266245912:True:=⟨⟩
theorem tw6749217079512962374:True:=⟨⟩
theorem tw1717825165581474212:True:=⟨⟩
theorem tw9908339238214195531:True:=⟨⟩
theorem tw1123975283337734383:True:=⟨⟩
theorem tw6505410396798821541:True:=⟨⟩
theorem tw3796891538752321733:True:=⟨⟩
theorem tw13501252493785611398:True:=⟨⟩
theorem tw17774833976778514315:True:=⟨⟩
theorem tw1293289543672728842:True:=⟨⟩
theorem tw3217022616335106338:True:=⟨⟩
theorem tw6885214360128481674:True:=⟨⟩
theorem tw5303079699428457377:True:=⟨⟩
theorem tw7761843605638006849:True:=⟨⟩
theorem tw1732150942055357024:True:=⟨⟩
theorem tw2675166985342186458:True:=⟨⟩
theorem tw15212760480394562756:True:=⟨⟩
theorem tw2809488002615124206:True:=⟨⟩
theorem tw16174758807025615021:True:=⟨⟩
theorem tw6912233166142098652:True:=⟨⟩
theorem tw5163715390036670947:True:=⟨⟩
theorem tw10195997230039290492:True:=⟨⟩
theorem tw7744093853086628109:True:=⟨⟩
theorem tw8374938949443298174:True:=⟨⟩
theorem tw3378803678994701225:True:=⟨⟩
theorem tw8265311939077410998:True:=⟨⟩
theorem tw16342770487823414484:True:=⟨⟩
theorem tw6187478851450931391:True:=⟨⟩
theorem tw15878805988109762761:True:=⟨⟩
theorem tw5552270689369575618:True:=⟨⟩
theorem tw4916261283513009128:True:=⟨⟩
theorem tw9335426496214029073:True:=⟨⟩
theorem tw2972514686349903234:True:=⟨⟩
theorem tw18086089286151905521:True:=⟨⟩
theorem tw6240723676877644813:True:=⟨⟩
theorem tw14248925298954806443:True:=⟨⟩
theorem tw350670483859837877:True:=⟨⟩
theorem tw18394268562011335289:True:=⟨⟩
theorem tw1394568958698188020:True:=⟨⟩
theorem tw11173010173815179391:True:=⟨⟩
theorem tw13474863142627684814:True:=⟨⟩
theorem tw2926424126403749041:True:=⟨⟩
theorem tw10001888077015295000:True:=⟨⟩
theorem tw5379463472682653830:True:=⟨⟩
theorem tw5155950481276406077:True:=⟨⟩
theorem tw9259421805112917234:True:=⟨⟩
theorem tw1147548669246485465:True:=⟨⟩
theorem tw16541100652227675460:True:=⟨⟩
theorem tw3315250197877816394:True:=⟨⟩
theorem tw17157282023139344501:True:=⟨⟩
theorem tw15254643099363442306:True:=⟨⟩
theorem tw6189502492464219833:True:=⟨⟩
theorem tw8538268897159353584:True:=⟨⟩
theorem tw11279390925490393535:True:=⟨⟩
theorem tw15740088241188596515:True:=⟨⟩
theorem tw17886615442053742456:True:=⟨⟩
theorem tw2287823674025257028:True:=⟨⟩
theorem tw11131206648525784891:True:=⟨⟩
theorem tw15722756333993289495:True:=⟨⟩
theorem tw6430265229019958763:True:=⟨⟩
theorem tw16739174306508632950:True:=⟨⟩
theorem tw16577533722863086443:True:=⟨⟩
theorem tw5278709424875269971:True:=⟨⟩
theorem tw9250549774821547598:True:=⟨⟩
theorem tw17103585973383926153:True:=⟨⟩
theorem tw12182655422080760471:True:=⟨⟩
theorem tw3561193834555079511:True:=⟨⟩
theorem tw17355269125676882429:True:=⟨⟩
theorem tw3901323768455840569:True:=⟨⟩
theorem tw11546936639936008217:True:=⟨⟩
theorem tw4940147422707163885:True:=⟨⟩
theorem tw3570499242123996262:True:=⟨⟩
theorem tw8327351992414209593:True:=⟨⟩
theorem tw105208000716104510:True:=⟨⟩
theorem tw17921175469725437805:True:=⟨⟩
theorem tw5692499903750754813:True:=⟨⟩
theorem tw99440450732166138:True:=⟨⟩
theorem tw3140898538269762758:True:=⟨⟩
theorem tw1492452104121835379:True:=⟨⟩
theorem tw17431308487043992063:True:=⟨⟩
theorem tw2752453847809088016:True:=⟨⟩
theorem tw6265701101103706036:True:=⟨⟩
theorem tw10548783162686979305:True:=⟨⟩
theorem tw3764141193738528704:True:=⟨⟩
theorem tw4691186174975459493:True:=⟨⟩
theorem tw3696473221133414273:True:=⟨⟩
theorem tw15799541711010589177:True:=⟨⟩
theorem tw4773702212245658779:True:=⟨⟩
theorem tw10341860258655708415:True:=⟨⟩
theorem tw11466170419677230873:True:=⟨⟩
theorem tw1137235612907882162:True:=⟨⟩
theorem tw17470836177267949868:True:=⟨⟩
theorem tw10956490626425055710:True:=⟨⟩
theorem tw13047834502658803893:True:=⟨⟩
theorem tw13896958669275611876:True:=⟨⟩
theorem tw9843949296442739443:True:=⟨⟩
theorem tw12865423146811077096:True:=⟨⟩
theorem tw1112988674713690477:True:=⟨⟩
theorem tw16542083797698202722:True:=⟨⟩
theorem tw1139600151236580504:True:=⟨⟩
theorem tw15095372191486117680:True:=⟨⟩
theorem tw2670627174450433442:True:=⟨⟩
theorem tw8025738503920905074:True:=⟨⟩
theorem tw12554540806306477360:True:=⟨⟩
theorem tw13983857475226248213:True:=⟨⟩
theorem tw10703516329204539289:True:=⟨⟩
theorem tw984902984118615328:True:=⟨⟩
theorem tw13303987763403120937:True:=⟨⟩
theorem tw6754034310392073148:True:=⟨⟩
theorem tw12622177474791663080:True:=⟨⟩
theorem tw3831216023754155268:True:=⟨⟩
theorem tw668136137496459709:True:=⟨⟩
theorem tw17085176360113175178:True:=⟨⟩
theorem tw12609604535291364189:True:=⟨⟩
theorem tw4656485037274611717:True:=⟨⟩
theorem tw14120148312427719287:True:=⟨⟩
theorem tw17545328352263074274:True:=⟨⟩
theorem tw6042063481754889096:True:=⟨⟩
theorem tw16273406610938067001:True:=⟨⟩
theorem tw4807402645868434406:True:=⟨⟩
theorem tw5970215366352900667:True:=⟨⟩
theorem tw17315540178315561739:True:=⟨⟩
theorem tw13155808216886167631:True:=⟨⟩
theorem tw7249705126575804556:True:=⟨⟩
theorem tw5235370132326077648:True:=⟨⟩
theorem tw7522852383072776753:True:=⟨⟩
theorem tw2446451932059125521:True:=⟨⟩
theorem tw12105128591322288922:True:=⟨⟩
theorem tw7973188991228987537:True:=⟨⟩
theorem tw8985709366574770022:True:=⟨⟩
theorem tw8281120267493503204:True:=⟨⟩
theorem tw2770239361232196585:True:=⟨⟩
theorem tw12535971307161669396:True:=⟨⟩
theorem tw3337584539547039419:True:=⟨⟩
theorem tw13370185576492129568:True:=⟨⟩
theorem tw10885322118463539834:True:=⟨⟩
theorem tw12643491718579748851:True:=⟨⟩
theorem tw1016984595167383106:True:=⟨⟩
theorem tw11053662475850362967:True:=⟨⟩
theorem tw9152664641465651067:True:=⟨⟩
theorem tw15003358760713899574:True:=⟨⟩
theorem tw13318506193475082254:True:=⟨⟩
theorem tw9685713192446186341:True:=⟨⟩
theorem tw5702910450625016506:True:=⟨⟩
theorem tw15383718091736126541:True:=⟨⟩
theorem tw4131498621145694574:True:=⟨⟩
theorem tw6898770573198911631:True:=⟨⟩
theorem tw6460121766331871944:True:=⟨⟩
theorem tw17050326753033342646:True:=⟨⟩
theorem tw5240389563564037448:True:=⟨⟩
theorem tw15860264024139754761:True:=⟨⟩
theorem tw9919435345466941130:True:=⟨⟩
theorem tw17089494485692210459:True:=⟨⟩
theorem tw12166907935582030026:True:=⟨⟩
theorem tw16054190913257422852:True:=⟨⟩
theorem tw1192657577511650299:True:=⟨⟩
theorem tw1990408344712342385:True:=⟨⟩
theorem tw729201693064108563:True:=⟨⟩
theorem tw12031303853943761323:True:=⟨⟩
theorem tw13864677062968915208:True:=⟨⟩
theorem tw15740948416001004644:True:=⟨⟩
theorem tw4232285709927190386:True:=⟨⟩
theorem tw2365566498512967660:True:=⟨⟩
theorem tw8813761850579938390:True:=⟨⟩
theorem tw1043701613660472097:True:=⟨⟩
theorem tw14502225709538309166:True:=⟨⟩
theorem tw3484022092364678248:True:=⟨⟩
theorem tw4395346232132896567:True:=⟨⟩
theorem tw12317137736924338119:True:=⟨⟩
theorem tw4807692442873511580:True:=⟨⟩
theorem tw17783859843131274014:True:=⟨⟩
theorem tw4052878762203253943:True:=⟨⟩
theorem tw3357215229441099570:True:=⟨⟩
theorem tw10219655510578893393:True:=⟨⟩
theorem tw11045010717311733409:True:=⟨⟩
theorem tw12376051458212225564:True:=⟨⟩
theorem tw3128193824291822260:True:=⟨⟩
theorem tw16420938139371093754:True:=⟨⟩
theorem tw4840481374290595910:True:=⟨⟩
theorem tw7360493887585077711:True:=⟨⟩
theorem tw6674990990233134667:True:=⟨⟩
theorem tw6973401727384321114:True:=⟨⟩
theorem tw2770563814800254177:True:=⟨⟩
theorem tw3768957769849046624:True:=⟨⟩
theorem tw10194810499950245846:True:=⟨⟩
theorem tw14851680436948445374:True:=⟨⟩
theorem tw13167462122316868159:True:=⟨⟩
theorem tw18186074749648716422:True:=⟨⟩
theorem tw1655259298481077034:True:=⟨⟩
theorem tw8657480035899644758:True:=⟨⟩
theorem tw12879618353801967718:True:=⟨⟩
theorem tw5648408011753718230:True:=⟨⟩
theorem tw8693662901424576113:True:=⟨⟩
theorem tw788273225186049534:True:=⟨⟩
theorem tw5240762971458559404:True:=⟨⟩
theorem tw12318557346453588183:True:=⟨⟩
theorem tw3486219094355674750:True:=⟨⟩
theorem tw2424727229257130912:True:=⟨⟩
theorem tw6623532728838073528:True:=⟨⟩
theorem tw6503730183909636620:True:=⟨⟩
theorem tw9723989250521069032:True:=⟨⟩
theorem tw2555065506035805374:True:=⟨⟩
theorem tw16325430554902658873:True:=⟨⟩
theorem tw6583040956863952856:True:=⟨⟩
theorem tw11199710921928265848:True:=⟨⟩
theorem tw2443449257678562572:True:=⟨⟩
theorem tw4134505453457115739:True:=⟨⟩
theorem tw4331257952254489624:True:=⟨⟩
theorem tw15361541807878343388:True:=⟨⟩
theorem tw2047500489365003465:True:=⟨⟩
theorem tw2896640688883821729:True:=⟨⟩
theorem tw16258771989139608452:True:=⟨⟩
theorem tw13975414291046593716:True:=⟨⟩
theorem tw11443710868159068359:True:=⟨⟩
theorem tw18200808041648558556:True:=⟨⟩
theorem tw7715697345341360870:True:=⟨⟩
theorem tw9739860059890490050:True:=⟨⟩
theorem tw10005945817407372193:True:=⟨⟩
theorem tw11994683656316670133:True:=⟨⟩
theorem tw450566749975022562:True:=⟨⟩
theorem tw18387569698083125528:True:=⟨⟩
theorem tw1638113669730673903:True:=⟨⟩
theorem tw8043003576528973991:True:=⟨⟩
theorem tw6075534854705499898:True:=⟨⟩
theorem tw15823732540823425666:True:=⟨⟩
theorem tw11377482038585738817:True:=⟨⟩
theorem tw6176384092110617959:True:=⟨⟩
theorem tw5938664839603501006:True:=⟨⟩
theorem tw3969286963782609292:True:=⟨⟩
theorem tw7297446738713254254:True:=⟨⟩
theorem tw1833847959688406909:True:=⟨⟩
theorem tw6699709698940308603:True:=⟨⟩
theorem tw16104615914030681952:True:=⟨⟩
theorem tw15299407806266782574:True:=⟨⟩
theorem tw9178861053002065721:True:=⟨⟩
theorem tw17492772389151264855:True:=⟨⟩
theorem tw5969682004907312646:True:=⟨⟩
theorem tw814325599930780420:True:=⟨⟩
theorem tw14597223018079223185:True:=⟨⟩
theorem tw16734371015571099844:True:=⟨⟩
theorem tw408924730781346937:True:=⟨⟩
theorem tw9233715247699887402:True:=⟨⟩
theorem tw7280543176740627685:True:=⟨⟩
theorem tw2924597203103170677:True:=⟨⟩
theorem tw2220570432770164149:True:=⟨⟩
theorem tw9631074621892390191:True:=⟨⟩
theorem tw6746510453823603384:True:=⟨⟩
theorem tw17428532607074087071:True:=⟨⟩
theorem tw14645912567700417926:True:=⟨⟩
theorem tw2878843996050045342:True:=⟨⟩
theorem tw342308947776675178:True:=⟨⟩
theorem tw17576975557295073227:True:=⟨⟩
theorem tw9361663168868926718:True:=⟨⟩
theorem tw2907113945770861938:True:=⟨⟩
theorem tw3603051052118289896:True:=⟨⟩
theorem tw995497684801637723:True:=⟨⟩
theorem tw2617719716777270872:True:=⟨⟩
theorem tw7158002623345892728:True:=⟨⟩
theorem tw10694878333477680388:True:=⟨⟩
theorem tw297971269722091814:True:=⟨⟩
theorem tw6383614241601562808:True:=⟨⟩
theorem tw4205137553216949640:True:=⟨⟩
theorem tw5005317128667965579:True:=⟨⟩
theorem tw7439886461454727182:True:=⟨⟩
theorem tw10328360990557673835:True:=⟨⟩
theorem tw1601500998369573665:True:=⟨⟩
theorem tw16721989186581611170:True:=⟨⟩
theorem tw9059832203979395877:True:=⟨⟩
theorem tw16793365374058956912:True:=⟨⟩
theorem tw17709558473723601244:True:=⟨⟩
theorem tw9516688046558066552:True:=⟨⟩
theorem tw10079171474624433434:True:=⟨⟩
theorem tw3465488137227279516:True:=⟨⟩
theorem tw15911569825323301435:True:=⟨⟩
theorem tw7273676953221729872:True:=⟨⟩
theorem tw16509065781470453940:True:=⟨⟩
theorem tw9590735534726013551:True:=⟨⟩
theorem tw15240379268576122478:True:=⟨⟩
theorem tw3261557481417251176:True:=⟨⟩
theorem tw12958664272152378060:True:=⟨⟩
theorem tw1592229195962567352:True:=⟨⟩
theorem tw5571243529121415630:True:=⟨⟩
theorem tw8363718466572441477:True:=⟨⟩
theorem tw17469865338272021226:True:=⟨⟩
theorem tw12787338502077490372:True:=⟨⟩
theorem tw14042817526060737062:True:=⟨⟩
theorem tw12718909917080609646:True:=⟨⟩
theorem tw10187724287525710026:True:=⟨⟩
theorem tw5186518429493523239:True:=⟨⟩
theorem tw15169761463676818070:True:=⟨⟩
theorem tw3120133295221510679:True:=⟨⟩
theorem tw15743347864482560488:True:=⟨⟩
theorem tw10871174231137468428:True:=⟨⟩
theorem tw7213333562754528385:True:=⟨⟩
theorem tw11593399256984752444:True:=⟨⟩
theorem tw13510920462097384806:True:=⟨⟩
theorem tw11735923915801401282:True:=⟨⟩
theorem tw2564807258711394888:True:=⟨⟩
theorem tw11845233108574324481:True:=⟨⟩
theorem tw12094960947251128927:True:=⟨⟩
theorem tw11828478481110319688:True:=⟨⟩
theorem tw594810645892935528:True:=⟨⟩
theorem tw8823455108540655025:True:=⟨⟩
theorem tw6756868429301003459:True:=⟨⟩
theorem tw2307138979858485370:True:=⟨⟩
theorem tw2707679213066786127:True:=⟨⟩
theorem tw16044733080236030384:True:=⟨⟩
theorem tw2167618695193717045:True:=⟨⟩
theorem tw7314081408670574914:True:=⟨⟩
theorem tw15638586536077026902:True:=⟨⟩
theorem tw9305691244287143441:True:=⟨⟩
theorem tw9238823003894178615:True:=⟨⟩
theorem tw4699463449715708850:True:=⟨⟩
theorem tw15744752440731449612:True:=⟨⟩
theorem tw17555251805378815213:True:=⟨⟩
theorem tw46980244435833615:True:=⟨⟩
theorem tw10242591131026960117:True:=⟨⟩
theorem tw10296497611174029103:True:=⟨⟩
theorem tw7600245330811189008:True:=⟨⟩
theorem tw2905170056284976902:True:=⟨⟩
theorem tw8810280945414196856:True:=⟨⟩
theorem tw13822267516522204269:True:=⟨⟩
theorem tw4784893810139332661:True:=⟨⟩
theorem tw14657780768301432306:True:=⟨⟩
theorem tw10864713392326063847:True:=⟨⟩
theorem tw5206643200097340550:True:=⟨⟩
theorem tw10648311167861321448:True:=⟨⟩
theorem tw10276331973627342096:True:=⟨⟩
theorem tw9589608677651300831:True:=⟨⟩
theorem tw1483126911874232274:True:=⟨⟩
theorem tw11203750815551599093:True:=⟨⟩
theorem tw370947364307004932:True:=⟨⟩
theorem tw13264354339760550358:True:=⟨⟩
theorem tw3002795768020413707:True:=⟨⟩
theorem tw3843465024185675410:True:=⟨⟩
theorem tw12340227926317113386:True:=⟨⟩
theorem tw1522322319653140107:True:=⟨⟩
theorem tw10505224238033894595:True:=⟨⟩
theorem tw9936536881743500907:True:=⟨⟩
theorem tw3548060758652744671:True:=⟨⟩
theorem tw987869383939708018:True:=⟨⟩
theorem tw7538252964068480738:True:=⟨⟩
theorem tw15646934709686841381:True:=⟨⟩
theorem tw14309182039651084788:True:=⟨⟩
theorem tw3712731000106771831:True:=⟨⟩
theorem tw9229161468869434483:True:=⟨⟩
theorem tw795583310449317561:True:=⟨⟩
theorem tw10101883924317870271:True:=⟨⟩
theorem tw5889316905344633881:True:=⟨⟩
theorem tw18245740138792012028:True:=⟨⟩
theorem tw13012589842206080548:True:=⟨⟩
theorem tw11542710104232473196:True:=⟨⟩
theorem tw4792085295034034149:True:=⟨⟩
theorem tw1551491737661789689:True:=⟨⟩
theorem tw13549259019975226677:True:=⟨⟩
theorem tw2782073688633401757:True:=⟨⟩
theorem tw12594153661598759157:True:=⟨⟩
theorem tw11189890337720088615:True:=⟨⟩
theorem tw14381862628962257763:True:=⟨⟩
theorem tw13990698242589431971:True:=⟨⟩
theorem tw2741389259953327712:True:=⟨⟩
theorem tw16597617366809209970:True:=⟨⟩
theorem tw8874702517807110003:True:=⟨⟩
theorem tw1236304545764765349:True:=⟨⟩
theorem tw8472579005086612782:True:=⟨⟩
theorem tw16204670001084760307:True:=⟨⟩
theorem tw339143206060000330:True:=⟨⟩
theorem tw16663787254893796032:True:=⟨⟩
theorem tw13889309363888878346:True:=⟨⟩
theorem tw17741875731164886585:True:=⟨⟩
theorem tw7414872774492366064:True:=⟨⟩
theorem tw14697636140705633519:True:=⟨⟩
theorem tw859137505422859605:True:=⟨⟩
theorem tw2686433634493928565:True:=⟨⟩
theorem tw7458633546980236471:True:=⟨⟩
theorem tw887695700811335699:True:=⟨⟩
theorem tw3195968871104189447:True:=⟨⟩
theorem tw16550210197400561554:True:=⟨⟩
theorem tw9407396174263392564:True:=⟨⟩
theorem tw3143785405151724282:True:=⟨⟩
theorem tw9843447840031818808:True:=⟨⟩
theorem tw1142415686869020238:True:=⟨⟩
theorem tw10448899703829047738:True:=⟨⟩
theorem tw2975709217455756120:True:=⟨⟩
theorem tw14611434983143301774:True:=⟨⟩
theorem tw2683898200743741643:True:=⟨⟩
theorem tw2514443458684651071:True:=⟨⟩
theorem tw196536941598035525:True:=⟨⟩
theorem tw2617181576586992344:True:=⟨⟩
theorem tw401921906979044612:True:=⟨⟩
theorem tw2405475915293451298:True:=⟨⟩
theorem tw4025469624842517739:True:=⟨⟩
theorem tw12329864456250741675:True:=⟨⟩
theorem tw17794366733547915435:True:=⟨⟩
theorem tw12385144161495827662:True:=⟨⟩
theorem tw6448850889433096767:True:=⟨⟩
theorem tw4828031223510198475:True:=⟨⟩
theorem tw132903981291199154:True:=⟨⟩
theorem tw9953747333497923681:True:=⟨⟩
theorem tw10008474027749305400:True:=⟨⟩
theorem tw12012865196380796599:True:=⟨⟩
theorem tw10333419466903446376:True:=⟨⟩
theorem tw12564220515667953714:True:=⟨⟩
theorem tw14762295962024373759:True:=⟨⟩
theorem tw10017263926548143515:True:=⟨⟩
theorem tw14615657086365298920:True:=⟨⟩
theorem tw8500458220134822360:True:=⟨⟩
theorem tw13160728816969591200:True:=⟨⟩
theorem tw4885547446624616799:True:=⟨⟩
theorem tw93012567124736588:True:=⟨⟩
theorem tw2007660962349395123:True:=⟨⟩
theorem tw1209819496270969543:True:=⟨⟩
theorem tw2988451766255067171:True:=⟨⟩
theorem tw17474498911051797155:True:=⟨⟩
theorem tw16487795177693110071:True:=⟨⟩
theorem tw12379415707883124570:True:=⟨⟩
theorem tw12545222027267286695:True:=⟨⟩
theorem tw16713831800681072344:True:=⟨⟩
theorem tw4951766788466123468:True:=⟨⟩
theorem tw6468107147075657394:True:=⟨⟩
theorem tw4181406029030974548:True:=⟨⟩
theorem tw4292522238394942308:True:=⟨⟩
theorem tw17219337458794519322:True:=⟨⟩
theorem tw575894324575664597:True:=⟨⟩
theorem tw14301671488300290737:True:=⟨⟩
theorem tw11334203419191126389:True:=⟨⟩
theorem tw1312780250039628139:True:=⟨⟩
theorem tw15362295582089109014:True:=⟨⟩
theorem tw13068111086705522682:True:=⟨⟩
theorem tw9332579688445097367:True:=⟨⟩
theorem tw4010397242664982755:True:=⟨⟩
theorem tw8779778587388263019:True:=⟨⟩
theorem tw5868845118606482295:True:=⟨⟩
theorem tw8455645898260960030:True:=⟨⟩
theorem tw14861896470697024400:True:=⟨⟩
theorem tw7386116660499605909:True:=⟨⟩
theorem tw9195894827357321740:True:=⟨⟩
theorem tw1291508964198565346:True:=⟨⟩
theorem tw83393220934416808:True:=⟨⟩
theorem tw13706816188851595723:True:=⟨⟩
theorem tw7702549930194098719:True:=⟨⟩
theorem tw16809779246217341487:True:=⟨⟩
theorem tw2758071753971750899:True:=⟨⟩
theorem tw2029088862249889922:True:=⟨⟩
theorem tw14372152842798730730:True:=⟨⟩
theorem tw7913636548009798097:True:=⟨⟩
theorem tw7855079511596107753:True:=⟨⟩
theorem tw15177526630643400193:True:=⟨⟩
theorem tw17494340499879156831:True:=⟨⟩
theorem tw7204493036743257322:True:=⟨⟩
theorem tw3776753064480771068:True:=⟨⟩
theorem tw11263669390164206178:True:=⟨⟩
theorem tw11561827921928013385:True:=⟨⟩
theorem tw13178059906610389163:True:=⟨⟩
theorem tw2741666766516671694:True:=⟨⟩
theorem tw1706793611546318481:True:=⟨⟩
theorem tw76412952228603488:True:=⟨⟩
theorem tw81815255157605957:True:=⟨⟩
theorem tw15542334942015070624:True:=⟨⟩
theorem tw17177869089781658578:True:=⟨⟩
theorem tw5072613934562372735:True:=⟨⟩
theorem tw65929781887070819:True:=⟨⟩
theorem tw16007503158450755388:True:=⟨⟩
theorem tw16149628235652541579:True:=⟨⟩
theorem tw10797620697341660853:True:=⟨⟩
theorem tw9166809390415177425:True:=⟨⟩
theorem tw8170299122808406783:True:=⟨⟩
theorem tw17785818512168800811:True:=⟨⟩
theorem tw4571971715460732019:True:=⟨⟩
theorem tw6345181382737326586:True:=⟨⟩
theorem tw17781115878593249900:True:=⟨⟩
theorem tw8973803690348224638:True:=⟨⟩
theorem tw8297286125493194097:True:=⟨⟩
theorem tw9962302188120564619:True:=⟨⟩
theorem tw15569959144833144457:True:=⟨⟩
theorem tw2103985501979894447:True:=⟨⟩
theorem tw14526540143163920134:True:=⟨⟩
theorem tw1792224892710378537:True:=⟨⟩
theorem tw9768079942903668216:True:=⟨⟩
theorem tw17135812771915316397:True:=⟨⟩
theorem tw2685012915969955173:True:=⟨⟩
theorem tw7799483888651840948:True:=⟨⟩
theorem tw2104741419117168686:True:=⟨⟩
theorem tw16982378080980825192:True:=⟨⟩
theorem tw5341934141677670832:True:=⟨⟩
theorem tw3949973439248644570:True:=⟨⟩
theorem tw9108098604805947806:True:=⟨⟩
theorem tw16910394546207329303:True:=⟨⟩
theorem tw9951221954081769418:True:=⟨⟩
theorem tw14786789198576647004:True:=⟨⟩
theorem tw9576743257966636567:True:=⟨⟩
theorem tw12894197372075662830:True:=⟨⟩
theorem tw8640399195822439974:True:=⟨⟩
theorem tw16821654228018055803:True:=⟨⟩
theorem tw18374746225686918389:True:=⟨⟩
theorem tw12256363837256957063:True:=⟨⟩
theorem tw3474246075231452896:True:=⟨⟩
theorem tw13326734554550294991:True:=⟨⟩
theorem tw10367675484739944270:True:=⟨⟩
theorem tw13091174067606910046:True:=⟨⟩
theorem tw8345894832289464959:True:=⟨⟩
theorem tw18386854893347148238:True:=⟨⟩
theorem tw17486766287000646611:True:=⟨⟩
theorem tw4177254973167742082:True:=⟨⟩
theorem tw14145802354927516647:True:=⟨⟩
theorem tw4705723845826882120:True:=⟨⟩
theorem tw17030962893124633753:True:=⟨⟩
theorem tw11842451847925006096:True:=⟨⟩
theorem tw7673058066778466091:True:=⟨⟩
theorem tw9278559499802603383:True:=⟨⟩
theorem tw672699306608606093:True:=⟨⟩
theorem tw10657950659306570408:True:=⟨⟩
theorem tw10361075674979980167:True:=⟨⟩
theorem tw7215319984434753242:True:=⟨⟩
theorem tw8143265674769528471:True:=⟨⟩
theorem tw7892811243723596987:True:=⟨⟩
theorem tw11779653239440661071:True:=⟨⟩
theorem tw2630061898475652689:True:=⟨⟩
end top
open PySem.W PyProof.Rows Internal
set_option maxHeartbeats 8000000 in
theorem top : PySem.Challenge.rw_nu0290_01.Holds := by
  w_on; o_law; k_head; (case hw => w_witness2)
  k_go0
  with_reducible rename Frag.In _ _ => kx
  with_reducible rename Top _ _ _ _ _ _ => tp
  with_reducible rename IntsAre _ _ => hi
  with_reducible rename Fr _ _ _ _ => fr
  with_reducible rename Heap.IsList _ _ _ => hl
  with_reducible rename (¬ _ < _) => hc
  with_reducible rename (_ = #[]) => hg
  with_reducible refine Uz (TL _ _ (Int.ofNat_le.mp (Int.not_lt.mp hc))) kx tp hl hi fr ?_ ?_ ?_ (Around.frames_deeper ?_) ?_ ?_ ?_ ?_ (Nat.succ_pos _) ?_
  · constructor
    all_goals first | kernel_rfl | (intro S u; kernel_rfl)
  · kernel_rfl
  · kernel_rfl
  · rfl
  · kernel_rfl
  · kernel_rfl
  · kernel_rfl
  · kernel_rfl
  · intro h' tk keep
    refine ⟨.inl ⟨_, _, [], rfl, ?_, .bool true, ?_, ?_⟩, keep, rfl, hg⟩
    · intro cls; kernel_rfl
    · kernel_rfl
    · exact fun _ => ⟨List.nodup_nil, fun _ h => by cases h⟩
end Mine
theorem PySem.Challenge.cw_nu0290_01_holds : PySem.Challenge.rw_nu0290_01.Holds :=
  Mine.top
