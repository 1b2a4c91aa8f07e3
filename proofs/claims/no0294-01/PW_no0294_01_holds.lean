import PyProof.Rows.All
import OpenK.KOwn
import KE.KDictList
import KE.KDictOf
import KE.KDictSum
import KE.FramesApart
import OpenK.KLine
import Wide.FinOn
import PyProof.CallStr
import PyProof.RangeFor
import PyProof.TupleOfSeq
import PyProof.ListCopy
import KE.KSortKey
import PyProof.IsiPairs
import PyProof.IsiHeapPairs
import PyProof.Rows.StrWeight2
import PyProof.AutoListH
import PyProof.StrBlock
import PyProof.MeetsDictList
import PyProof.RaisesMany
import PyProof.WalksMore
import PyProof.DictWalks
import PyProof.NsDelKeeps
import PyProof.DictCompW
import PyProof.LetGo
import PyProof.AttrMissHeap
import Lean
import PySem.Challenge.RW_no0294_01
set_option backward.match.sparseCases false
set_option bootstrap.genMatcherCode false
set_option genSizeOf false
set_option linter.all false
set_option linter.unusedSimpArgs false
set_option linter.unusedVariables false
set_option maxHeartbeats 4000000
set_option maxRecDepth 100000
set_option Elab.async false
namespace Mine.Lake
noncomputable section
open Option renaming some->aa,none->aj,casesOn->fA,map_eq_some_iff->lM,isSome_iff_exists->m6,bind_eq_some_iff->qb,isNone_iff_eq_none->J6,not_isSome_iff_eq_none->Ue,isSome_map->J7,map->Ac
open PySem renaming wpAny_bind->aR,Value->au,wpAny_pure->bO,Env->bS,Shared->aY,model->bh,wpAny->bw,wpAny_holding->fE,wpAny_standAt->gF,Addr->bj,eval->bq,Expr->bA,holding->kW,mainGlobals->jz,Heap->bX,standAt->fk,DictEntry->i5,builtinsNs->kX,NameKind->i6,mem_of_lookup->qc,Str->bB,starEach->hY,setAttr->oF,wpAny_bindName->qv,codeAny_call_builtin->Ad,sysModules->nG,assignEach->nH,checkBuiltinCall->wI,wpAny_field->qw,wpAny_mono->oG,wpAny_call->oH,swapsWith->nJ,swappedStores->uC,Stmt->dO,assign->ib,getMethod_builtin->Ae,bootBuiltins->uD,codeAny->kI,exec->dZ,backTo->iY,getAttr->wJ,swapsWithSole->wK,Pos->ca,FuncData->oJ,sizeLine->oK,wpAny_loadPart->Af,evalEach->oL,wpAny_loadPart_at->Dz,wpAny_newObj_type->DA,Scope->ic,call_meets->uE,cellsFrom->sn,spliced->nK,comprehension->Ag,Model->iy,sizeLine_eq->wL,wpAny_loadName_local->J8,interactive->wM,Obj->cC,wpAny_execs_nil->DB,Program->oM,valueAt->oN,notedBy->oO,getMethod->uF,isTrue->mF,methodCallForm->DD,cameBackBy->wN,execs->jF,recursionLimit->DE,wpAny_truthy_bool->J9,evalThenUse->Ah,Comprehension->DF,methodCallPos->DG,wpAny_release->DH,World->kK,wpAny_call_entry->J',wpAny_updatePart->Ka,evalPairs->wO,pairTrees->wQ,storeName->wR,raiseStmt->wU,typeLookup->Ai,typeIs_str->Aj,wpAny_rule->Ak,Builtin->sq,wpAny_mkText->DJ,aRefKeyMayBeTheName_at->Ug,call->Al,arm_eval_UnaryOp->Uh,codeAny_builtin->Kb,pushCells_keeps->Kd,builtinLookup_eq_fast->Ui,constantsAlone->Ke,Around->qx,dictDisplay->DK,wpAny_setField->Kf,unbindBehindTheSuite->Uj,arm_eval_BinOp->Uk,pushCells->Am,setFlight->An,assignAll->Ao,wpAny_setItem_pairs->Ul,wpAny_loadName_cell->Um,wpAny_loadName_free->Un,wpAt_of_wpAny->Uo,foldedForSure->Kg,wpAny_newList->Kh,truthy->su,stored->sv,isInstance->DL,evalPart_some_step->Up,binaryOp->Ap,wpAny_typeOf->Ki,slot_list_setitem->Uq,arm_eval_Tuple->Ur,merged->Kj,call_meetsIn->Kk,assignStores->Kl,wpAny_pyIter_list->Us,compPost->Aq,allTrue->wV,Arguments->DM,inplaceOp->DN,fillsInplaceSlot->Ut,wpAny_askSetting->Uu,pairTrees_length->Uv,boolOp->uG,rawInt->uH,wpAny_of_eq->Km,wpAny_alloc->Kn,wpAny_throw->Ko,Sem->fv,noFill_list_add->Uw,typeLookup_type->Ux,wpAny_dropValue->Uy,wpAt_bind->Uz,BindsTo->As,sliceRange_one->UA,sliceRange->Kp,boundAndCalled->UC,wpAny_newTuple->UD,markedEach->Kq,stripped->UE,methodCall->Kr,wpAny_load->Kt,newEnv->wW,newFunctionEnv->UG,Flow->mG,execs_cons->Ku,wpAny_attempt->UH,without->UI,assignInOrder->UJ,wpAny_onRaise->UK,attributeBase->UL,plainId_quiet->UM,ClassData->Kv,compareOp->Kw,partValue->Kx,seqItems?->Ky,dropValue->Kz,setItem->DO,instanceDict->UN,StrKeys->DP,nsFind->Au,wpAny_update->UO,cellsFrom_ok->UP,release->DQ,GenState->KA,sliceBounds->UQ,builtinKind->UR,getAttr?->KC,callWith->KD,bindName->KG,wpAny_point->US,Result->DR,refuseLoop->UT,typeIs_int->UU,wpAny_Name->UW,cellOf->DT,newObjAsIs->UX,typeOf->DU,isExcClass->UY,closureFor->UZ,relabel->KH,callerA->KI,OsState->KJ,getItem->KL,newDict->KN,callEnv->KO,Tok->kL,Data->uI,cLine->DV,isType->KP,pyNext->KQ
open Nat renaming le_trans->bo,le_of_eq->bx,zero_le->bH,not_succ_le_zero->eH,le_add_right->gf,le_of_ble_eq_true->jA,lt_of_le_of_lt->jB,beq->dk,le_refl->gj,succ_le_succ->kY,le_antisymm->kn,eq_of_beq_eq_true->rN,lt_succ_self->pw,casesOn->jP,zero_add->lN,le_succ->kZ,lt_of_le_of_ne->tC,add_le_add_left->vd,ne_of_lt->m7,add_assoc->qe,add_le_add_right->zp,lt_trans->qf,ble->gb,le_succ_of_le->uJ,lt_of_succ_lt_succ->Av,lt_of_lt_of_le->wX,beq_refl->sw,ne_of_gt->sx,lt_succ_of_lt->Aw,not_lt->qy,succ_ne_self->Ax,le_of_lt->uK,not_lt_zero->Ay,add_comm->wY,succ_ne_zero->DW,mod_lt->uL,lt_irrefl->Az,min_eq_left->DX,sub_add_cancel->KR,add_le_add->DY,rec->qz,one_mul->AA,lt_of_succ_lt->KS,succ_lt_succ->KU,lt_add_of_pos_right->U0,min_eq_right->KV,min_le_left->KW,sub_eq_zero_of_le->U1,add_lt_of_lt_sub->U2,add_sub_cancel'->U3,sub_le->DZ,succ_add->KY,succ_pos->KZ,le_total->K1,le_of_succ_le->U4,zero_lt_succ->U5,min_le_right->U6,testBit->K3,le_add_left->U7,not_le->U8
open List renaming length_append->cg,length_map->cq,append_assoc->de,casesOn->cZ,mem_singleton->fq,mem_cons->dU,append_nil->fc,length_set->fu,size_toArray->iN,getElem?_eq_some_iff->pz,replicate->iu,getElem?_map->mz,all_eq_true->lO,rec->fT,range'->jQ,getElem?_eq_getElem->wZ,length_cons->rO,length_replicate->w0,mem_map->nQ,length_range'->w5,lookup_cons->ve,map_map->nL,map_cons->oP,all_cons->oQ,mem_of_getElem?->w7,contains_iff_mem->AB,getElem?_append_left->D4,map_append->uM,forIn_cons->uN,filter_cons_of_pos->D5,eq_nil_of_length_eq_zero->K4,mem_append->w8,nodup_cons->w9,getElem?_toArray->D6,map_inj_left->AD,getElem?_append_right->K5,getElem?_range'->D7,isEmpty_iff->AE,filterMap_cons_some->K6,mem_filter->AF,pairwise_cons->D8,filter_cons_of_neg->K7,getElem?_set_self->K8,nodup_nil->AG,drop_eq_nil_of_le->K9,length_filter_le->La,mem_iff_getElem?->Lb,length_take->D9,take_length->Ea,getElem?_set_ne->Lc,length->xa,filter_nil->Eb,mem_map_of_mem->Ld,map_nil->AH,drop_zero->Ec,contains_cons->Le,rel_of_pairwise_cons->U9,drop_eq_getElem_cons->U',length_range->Lf,any_cons->Ed,length_drop->Lg,length_eq_zero_iff->Va,pairwise_singleton->Vb,range->AI,of_mem_zip->Lh,nil_append->Li,dropLast_eq_take->Vc,mem_of_mem_take->Vd,mem_of_mem_drop->Ve,append_toArray->Vf,reverse_append->Vg,eraseDups_cons->Vh,lookup_append->Vi,map->AJ,drop_sublist->Vj,take_sublist->Vk,push_toArray->Vl,not_mem_nil->Vm,filter_cons->Vn,foldl_cons->Vo,le_trans->Vp,Sublist->Vq,toArray->Vr,all_nil->Vs,map_id->Vt,lookup->Vu,cons->Vv
open Bool renaming false->ak,true->ag,false_ne_true->fF,casesOn->fe,and_eq_true->nR,and_eq_true_iff->tE,or_eq_false_iff->xb,noConfusion->xc,or_eq_true_iff->Ee,eq_iff_iff->AL,false_eq_true->Vw,not_eq_true'->Vx,and_true->Vy
open Option.some renaming inj->cP
open Int renaming ofNat_le->cS,natCast_nonneg->gG,le_of_eq->d8,le_antisymm->ko,le_trans->i7,lt_of_le_of_lt->qg,not_lt->kq,ofNat_lt->nS,toNat_of_nonneg->xd,lt_of_lt_of_le->uO,eq_ofNat_of_zero_le->AM,toNat_natCast->xe,lt_trans->uP,zero_add->AN,not_le->xf,le_refl->AO,natAbs_of_nonneg->Vz,le_of_sub_nonneg->VA,toNat_sub->Lj,le_of_lt->Ll,neg_one_mul->VB,sub_le_sub->VC,add_assoc->VD,le_natAbs->VE,zero_mul->VF,add_zero->VG,one_mul->VH,mul_one->VI,sub_neg->VJ,toNat->VK
open PySem.Heap renaming get?_push_size->fZ,get?_update_other->mA,get?_update_self->nT,lt_size->hJ,get?_push_of_some->qh,size_push->nU,get?_none_of_le->xg,dictOf_iff->Ef,SameBut->Eg
open PySem.Value.type renaming inj->lP
open PySem.Expr renaming casesOn->nV
open PySem.NameKind renaming free->qi,cell->Eh
open Nat.succ renaming inj->pA
open Except.ok renaming inj->rP
open PySem.W renaming Frag->c7,listOf->gv,looks_mroIn->qA,putName_dict->sy,findIn->iZ,Looks->gw,handedIn->qB,dictOf->lQ,InstAt->lR,looks_findIn->AP,emptyDict->uQ,mroIn->jG,callWith_of->Ei,specialIn->xh,typeIn->sA,lookIn->sB,looks_typeIn->Lo,keepIn->uR,looks_subIn->Lp,looks_clsIn->Lr,instObj->AQ,check_slot->Ls,instIn->AR,peek->oR,clsIn->xi,copiedNames->VL,looks_find->VM,putL->uS
open PySem.F renaming excBase_Exception->AS,slot_list_getattribute->Lu,plainAttrs_list->Lv,slot_list_iadd->Lw,slot_dict_get->Lx,slot_list_append->VN,slot_list_index->VO,slot_str_rstrip->VP,plainAttrs_dict->VQ,entry_dict_get->VS,slot_int_rmul->VT,slot_list_pop->VU,slot_dict_pop->VV,slot_gs_get->VW,args_list_add_2->ael,entry_list_add->aem,slot_list_add->aen,store_object->aeo
open PySem.Calls renaming spliced_cons->uT,spliced_nil->AU,Name_function_global->VX,loadGlobal_builtin->VY,loadGlobal_global->VZ
open PySem.Obj renaming mapFields->oS,putName->sC,data_mapFields->Ej,mapSeq->xj,isFreed_of_fields->V0,putNameByArray->V1,cls_mapFields->V2,dropName->V3,data->Ly,cls->V4
open Except renaming casesOn->qC
open PySem.Value renaming ref->jX,none->xk,int->AV,casesOn->Lz,builtin->LA,str->Ek
open PySem.Builtin.Str renaming strSliceIndices->El,strSub->aep
open Array renaming size_setIfInBounds->Em,getElem?_toList->Eo,getElem?_setIfInBounds_self_of_lt->V5,toArray_toList->LB,length_toList->LC,getElem?_eq_some_iff->V6,getElem?_eq_getElem->V7,toList->Ep,mem_toList_iff->V8
open False renaming elim->oU
open Decidable renaming em->sD
open Prod.mk renaming inj->sE
open PySem.PyData renaming eqv->qD,eqvAll->LF,canLayAll0->V9,depthAll->V',strOk->Wa
open Pure renaming pure->oV
open PySem.Data renaming casesOn->uU
open Prod renaming fst->oW,snd->Er
open PySem.W.Looks renaming of_peek->AW,ld->sF,of_pure->Wb,now->Wc
open PySem.Heap.DictOf renaming new->Es
open PyProof.Rows renaming entry_list_sort->We,slot_list_sort->Wf,args_list_sort->Wg,Subscript_->Wh,subscriptTail->LG,slot_str_getitem->aeq,getItem_tuple->aer,spliced_more->aes,getItem_str->aet,rangeSize_nat->Wi,StrsAre->Et,len_tuple->aeu,len_str->aev,seqObj->Eu
open ForInStep renaming yield->Ew
open Ne renaming symm->oX
open Or renaming casesOn->xl,imp->Ey
open PySem.Code renaming quiet_builtin->LH
open PyProof.Rows.TI renaming gone_get->AX,gone->xm,gone_some->Wj,gone_none->Wk
open PySem.Builtin.List renaming listTooLong->Wl,listSubscript?->aew,listFitsIndex->aex
open PySem.Value.ref renaming inj->Ez
open PySem.Builtin.Dict renaming updateFrom->Wm,selfAndRest->aey,pairItems->aez
open PySem.Bind renaming staticBase->LI,madeBy->LJ
open PySem.Txt renaming rstripChars->LK,stripBy->Wn,join->Wo,mul->Wq
open PySem.Around renaming under_plainId->Ws
open PySem.Heap.SameBut renaming update->Wt
open PySem.EntryCells renaming newEntry->Wu
open PySem.Builtin.Range renaming small->Wv,rangeFitsLong->aeA
open PySem.AutoSeq1 renaming list___iadd___list_list_0->aeB
open PySem.AutoListH renaming list_append_list_val_0->aeC
open List.Pairwise renaming nil->Ww,of_map->aeD,map->aeE
open PySem.callAny renaming viaDunder->Wx
open PySem.Builtin.BaseException renaming bexcPut->aeF
open PySem.Data.fields renaming inj->Wy
open PySem.Shared renaming TypeIs->Wz
open List.Perm renaming eq_of_pairwise->aeG
open List.cons renaming inj->WA
open PySem.Flow renaming next->LM
open PyProof renaming noPylong_small->aeH
open PySem.Str renaming ofString->WB,length->WC,join->WD
open PySem.MeetsSeq renaming list_pop_last->aeI
open PySem.SeqAt renaming readOf->WE
open PySem.StrLaws renaming glued_eq_join->aeJ
open PySem.Manifest renaming signature?->aeK
open PySem.IsiPair renaming tuple_tuple->aeL,int_tuple->aeM,str_tuple->aeN,tuple_int->aeO,int_int->aeP,str_int->aeQ
open PySem.EqMixed renaming eq_str_int->aeR,eq_int_str->aeS
open PySem.Heap.IsSliceOf renaming new->aeT
open PySem.P renaming str_of_int->aeU
open And renaming intro->WG,left->WH
open PySem.IntMulOk renaming of_left->aeV
open PySem.DictEntry renaming refKey->aeW
open PySem.GM renaming noRef->WI
open PySem.Operator renaming Add->aeX
open PySem.Heap.Ns renaming new->aeY
section
set_option genCtorIdx false
set_option genInjectivity false
theorem rt:ag=ag:=rfl
theorem rf:ak=ak:=rfl
theorem rn{α:Type _}:(aj:Option α)=aj:=rfl
inductive Ex|v (i:Nat)|n (k:Nat)|a (x y:Ex)|m (k:Nat) (x:Ex)|s (x y:Ex)
abbrev Hy:=List<|Nat×Ex×Ex
noncomputable section
def gt{α:Type}(d:α):List α->Nat->α:=fT (λ_=>d) λx _ k i=>qz x (λi _=>k i) i
noncomputable def dl:Nat->Nat->Int:=qz (qz 1 λ_ _=>0) λ_ k=>qz 0 λj _=>k j
def Ex.d(c:List Nat):Ex->Nat:=Ex.rec (gt 0 c) (λk=>k) (λ_ _ x y=>x+y) (λk _ x=>k*x) λ_ _ _ _=>0
def Ex.z(c:List Int):Ex->Int:=Ex.rec (gt 0 c) (λk=>(k:Int)) (λ_ _ x y=>x+y) (λk _ x=>(k:Int)*x) λ_ _ x y=>x - y
def Ex.f:Ex->Nat->Int:=Ex.rec (λi j=>dl (i+1) j) (λk j=>k*dl 0 j) (λ_ _ x y j=>x j+y j) (λk _ x j=>(k:Int)*x j) λ_ _ x y j=>x j - y j
def Ex.k:Ex->Bool:=Ex.rec (λ_=>ag) (λ_=>ag) (λ_ _ x y=>x&&y) (λ_ _ x=>x) λ_ _ _ _=>ak
def dt:List Int->(Nat->Int)->Int:=fT (λ_=>0) λx _ k f=>f 0*x+k λj=>f<|j+1
def Pm:List Int->(Nat->Int)->(Nat->Int)->Bool:=fT (λ_ _=>ag) λ_ _ k f g=>f 0==g 0&&k (λj=>f<|j+1) λj=>g<|j+1
theorem ap{a b c d:Int}(h:a=b)(g:c=d):a+c=b+d:=h▸g▸rfl
theorem amr(a b c d:Int):a+b+(c+d)=a+c+(b+d):=by rw[VD,VD,Int.add_left_comm b]
theorem WJ(c):∀f g,dt c (λj=>f j+g j)=dt c f+dt c g:=fT (λ_ _=>rfl) (λx r k f g=>(ap (Int.add_mul _ _ x)<|k (λj=>f<|j+1) λj=>g<|j+1).trans<|amr ..) c
theorem LN(q:Int)(c):∀f,dt c (λj=>q*f j)=q*dt c f:=fT (λ_=>(Int.mul_zero q).symm) (λx r k f=>(ap (Int.mul_assoc _ _ x)<|k λj=>f<|j+1).trans (Int.mul_add ..).symm) c
theorem aay(c):dt c (λ_=>0)=0:=fT rfl (λx r k=>ap (VF x) k) c
theorem acE(c):∀p,dt c (dl p)=gt 0 c p:=fT (λ_=>rfl) (λx r k=>qz ((ap (VH x)<|aay r).trans<|VG x) λp _=>(ap (VF x)<|k p).trans<|AN _) c
theorem ahU(c):∀f g,Pm c f g=ag->dt c f=dt c g:=fT (λ_ _ _=>rfl) (λx r k f g h=>ap (congrArg (·*x)<|eq_of_beq (nR _ _▸h:_/\_).1)<|k _ _ (nR _ _▸h:_/\_).2) c
theorem alr(c)(e:Ex):e.z c=dt (1::c) e.f:=Ex.rec (λi=>(acE (1::c)<|i+1).symm) (λk=>((LN k (1::c)<|dl 0).trans<|(congrArg _<|acE (1::c) 0).trans<|VI _).symm)
 (λx y h g=>(ap h g).trans (WJ _ x.f y.f).symm) (λk x h=>(congrArg _ h).trans (LN k _ x.f).symm)
 (λx y h g=>((ap h<|congrArg Neg.neg g).trans<|ap rfl<|(VB _).symm.trans (LN (-1) _ y.f).symm).trans<|(WJ _ x.f λj=>-1*y.f j).symm.trans<|congrArg _<|funext λj=>congrArg (x.f j+·)<|VB _) e
def sl:Hy->Ex:=fT (.n 0) λh _ k=>.a (.m h.1 h.2.1) k
def sr:Hy->Ex:=fT (.n 0) λh _ k=>.a (.m h.1 h.2.2) k
def II(c:List Int)(p:Prop):Hy->Prop:=fT p λh _ k=>h.2.1.z c<=h.2.2.z c->k
def IN(c:List Nat)(p:Prop):Hy->Prop:=fT p λh _ k=>h.2.1.d c<=h.2.2.d c->k
theorem acF{c p}(hs):((sl hs).z c<=(sr hs).z c->p)->II c p hs:=fT (λh=>h<|AO 0) (λh t k q z=>k λs=>q<|Int.add_le_add (Int.mul_le_mul_of_nonneg_left z<|gG h.1) s) hs
theorem agD{c:List Int}{l r s}{hs:Hy}(h:Pm (1::c) (Ex.a (Ex.a l s)<|sr hs).f (Ex.a r<|sl hs).f=ag)(h0:0<=s.z c)(g:(sl hs).z c<=(sr hs).z c):l.z c<=r.z c:=
 i7 (Int.le_add_of_nonneg_right h0) (Int.le_of_add_le_add_right<|i7 (d8<|(alr c _).trans<|(ahU _ _ _ h).trans (alr c _).symm)<|Int.add_le_add_left g<|r.z c)
theorem zl(c:List Int)(l r:Ex)(k:Nat)(hs:Hy)(h:Pm (1::c) (Ex.a (Ex.a l<| .n k)<|sr hs).f (Ex.a r<|sl hs).f=ag):II c (l.z c<=r.z c) hs:=acF hs<|agD (s:=.n k) h<|gG k
noncomputable abbrev cs (c:List Nat):List Int:=c.map λ(x:Nat)=>(x:Int)
theorem ahV(c:List Nat):∀i,gt (0:Int) (cs c) i=(gt 0 c i:Nat):=fT (λ_=>rfl) (λx r k=>qz rfl λi _=>k i) c
theorem dz{c:List Nat}(e:Ex):e.k=ag->e.z (cs c)=(e.d c:Nat):=Ex.rec (λi _=>ahV c i) (λ_ _=>rfl) (λ_ _ k q h=>ap (k (nR _ _▸h:_/\_).1)<|q (nR _ _▸h:_/\_).2) (λj _ k h=>congrArg ((j:Int)*·)<|k h) (λ_ _ _ _ h=>xc h) e
theorem ahW{c:List Nat}{p:Prop}(hs:Hy):(sl hs).k=ag->(sr hs).k=ag->II (cs c) p hs->IN c p hs:=fT (λ_ _ h=>h) (λh t k q q' z w=>k (nR _ _▸q:_/\_).2 (nR _ _▸q':_/\_).2<|z<|i7 (d8<|dz h.2.1 (nR _ _▸q:_/\_).1)<|i7 (cS.mpr w)<|d8 (dz h.2.2 (nR _ _▸q':_/\_).1).symm) hs
def kN(c:List Nat)(l r s:Ex)(hs:Hy):Bool:=(Ex.a (Ex.a l s)<|sr hs).k&&(Ex.a r<|sl hs).k&&Pm (1::cs c) (Ex.a (Ex.a l s)<|sr hs).f (Ex.a r<|sl hs).f
theorem nl(c:List Nat)(l r s:Ex)(hs:Hy)(h:kN c l r s hs=ag):IN c (l.d c<=r.d c) hs:=
 (λ(h0:_/\_)=>(λ(h1:_/\_)=>(λ(h2:_/\_)(h4:_/\_)=>(λ(h3:_/\_)=>ahW hs h4.2 h2.2<|acF hs λg=>cS.mp<|i7 (d8 (dz l h3.1).symm)<|i7 (agD h0.2 (i7 (gG _)<|d8 (dz s h3.2).symm) g)<|d8<|dz r h4.1)
  (nR _ _▸h2.1)) (nR _ _▸h1.1)<|nR _ _▸h1.2)<|nR _ _▸h0.1) (nR _ _▸h)
def sk(l r:Ex):Nat->Ex:=qz (.n (r.f 0 - l.f 0).toNat) λj k=>.a (.m (r.f (j+1) - l.f (j+1)).toNat<| .v j) k
theorem nn(c:List Nat)(l r:Ex)(hs:Hy)(h:kN c l r (sk (Ex.a l<|sr hs) (Ex.a r<|sl hs) c.length) hs=ag):IN c (l.d c<=r.d c) hs:=nl c l r _ hs h
theorem zz(c:List Int)(l r:Ex)(hs:Hy)(h:Pm (1::c) (Ex.a (Ex.a l<| .n ((Ex.a r<|sl hs).f 0 - (Ex.a l<|sr hs).f 0).toNat)<|sr hs).f (Ex.a r<|sl hs).f=ag):II c (l.z c<=r.z c) hs:=zl c l r _ hs h
theorem dj{a:Nat}(l r:Ex)(hs:Hy)(H:kN [a] l r (sk (Ex.a l<|sr hs) (Ex.a r<|sl hs) 1) hs=ag):IN [a] (l.d [a]<=r.d [a]) hs:=nn [a] l r hs H
theorem cw{a b:Nat}(l r:Ex)(hs:Hy)(H:kN [a,b] l r (sk (Ex.a l<|sr hs) (Ex.a r<|sl hs) 2) hs=ag):IN [a,b] (l.d [a,b]<=r.d [a,b]) hs:=nn [a,b] l r hs H
theorem gS{a b c:Nat}(l r:Ex)(hs:Hy)(H:kN [a,b,c] l r (sk (Ex.a l<|sr hs) (Ex.a r<|sl hs) 3) hs=ag):IN [a,b,c] (l.d [a,b,c]<=r.d [a,b,c]) hs:=nn [a,b,c] l r hs H
theorem qE{a b c d:Nat}(l r:Ex)(hs:Hy)(H:kN [a,b,c,d] l r (sk (Ex.a l<|sr hs) (Ex.a r<|sl hs) 4) hs=ag):IN [a,b,c,d] (l.d [a,b,c,d]<=r.d [a,b,c,d]) hs:=nn [a,b,c,d] l r hs H
theorem Pn{a b c d e:Nat}(l r:Ex)(hs:Hy)(H:kN [a,b,c,d,e] l r (sk (Ex.a l<|sr hs) (Ex.a r<|sl hs) 5) hs=ag):IN [a,b,c,d,e] (l.d [a,b,c,d,e]<=r.d [a,b,c,d,e]) hs:=nn [a,b,c,d,e] l r hs H
theorem aaf{a b c d e f:Nat}(l r:Ex)(hs:Hy)(H:kN [a,b,c,d,e,f] l r (sk (Ex.a l<|sr hs) (Ex.a r<|sl hs) 6) hs=ag):IN [a,b,c,d,e,f] (l.d [a,b,c,d,e,f]<=r.d [a,b,c,d,e,f]) hs:=nn [a,b,c,d,e,f] l r hs H
theorem anI{a b c d e f g:Nat}(l r:Ex)(hs:Hy)(H:kN [a,b,c,d,e,f,g] l r (sk (Ex.a l<|sr hs) (Ex.a r<|sl hs) 7) hs=ag):IN [a,b,c,d,e,f,g] (l.d [a,b,c,d,e,f,g]<=r.d [a,b,c,d,e,f,g]) hs:=nn [a,b,c,d,e,f,g] l r hs H
theorem dp{a:Int}(l r:Ex)(hs:Hy)(H:Pm (1::[a]) (Ex.a (Ex.a l<| .n ((Ex.a r<|sl hs).f 0 - (Ex.a l<|sr hs).f 0).toNat)<|sr hs).f (Ex.a r<|sl hs).f=ag):II [a] (l.z [a]<=r.z [a]) hs:=zz [a] l r hs H
theorem rQ{a b:Int}(l r:Ex)(hs:Hy)(H:Pm (1::[a,b]) (Ex.a (Ex.a l<| .n ((Ex.a r<|sl hs).f 0 - (Ex.a l<|sr hs).f 0).toNat)<|sr hs).f (Ex.a r<|sl hs).f=ag):II [a,b] (l.z [a,b]<=r.z [a,b]) hs:=zz [a,b] l r hs H
theorem LO{a b c:Int}(l r:Ex)(hs:Hy)(H:Pm (1::[a,b,c]) (Ex.a (Ex.a l<| .n ((Ex.a r<|sl hs).f 0 - (Ex.a l<|sr hs).f 0).toNat)<|sr hs).f (Ex.a r<|sl hs).f=ag):II [a,b,c] (l.z [a,b,c]<=r.z [a,b,c]) hs:=zz [a,b,c] l r hs H
theorem als{a b c d:Int}(l r:Ex)(hs:Hy)(H:Pm (1::[a,b,c,d]) (Ex.a (Ex.a l<| .n ((Ex.a r<|sl hs).f 0 - (Ex.a l<|sr hs).f 0).toNat)<|sr hs).f (Ex.a r<|sl hs).f=ag):II [a,b,c,d] (l.z [a,b,c,d]<=r.z [a,b,c,d]) hs:=zz [a,b,c,d] l r hs H
theorem ams{a b c d e:Int}(l r:Ex)(hs:Hy)(H:Pm (1::[a,b,c,d,e]) (Ex.a (Ex.a l<| .n ((Ex.a r<|sl hs).f 0 - (Ex.a l<|sr hs).f 0).toNat)<|sr hs).f (Ex.a r<|sl hs).f=ag):II [a,b,c,d,e] (l.z [a,b,c,d,e]<=r.z [a,b,c,d,e]) hs:=zz [a,b,c,d,e] l r hs H
noncomputable abbrev aB:Ex:=.v 0
noncomputable abbrev bb:Ex:=.v 1
noncomputable abbrev cv:Ex:=.v 2
noncomputable abbrev gO:Ex:=.v 3
noncomputable abbrev rR:Ex:=.v 4
noncomputable abbrev G0:Ex:=.v 5
noncomputable abbrev anJ:Ex:=.v 6
noncomputable abbrev anK:Ex:=.v 7
noncomputable abbrev anL:Ex:=.v 8
noncomputable abbrev eC:Ex:=.n 0
noncomputable abbrev bz:Ex:=.n 1
noncomputable abbrev g9:Ex:=.n 2
noncomputable abbrev l5:Ex:=.n 3
noncomputable abbrev EA:Ex:=.n 4
noncomputable abbrev Ic:Ex:=.n 5
noncomputable abbrev kC:Ex:=.n 8
noncomputable abbrev pK:Ex:=.n 9
noncomputable abbrev HX:Ex:=.n 10
noncomputable abbrev lZ:Ex:=.n 20
noncomputable abbrev anA:Ex:=.n 50
noncomputable abbrev iO:Ex:=.n 100
noncomputable abbrev pB:Ex:=.n 150
noncomputable abbrev m8:Ex:=.n 200
noncomputable abbrev rS:Ex:=.n 800
noncomputable abbrev nW:Ex:=.n 900
noncomputable abbrev aA:Ex:=.n 1000
noncomputable abbrev eK:Ex:=.n 99999
noncomputable abbrev eN:Nat->Ex:=.n
noncomputable abbrev eA:Ex->Ex->Ex:=.a
noncomputable abbrev eM:Nat->Ex->Ex:=.m
noncomputable abbrev eS:Ex->Ex->Ex:=.s
noncomputable abbrev eI:Ex:=eA aB bz
noncomputable abbrev ie:Ex:=eA bb bz
noncomputable abbrev iP:Ex:=eA aB g9
noncomputable abbrev mh:Ex:=eA eI bz
noncomputable abbrev mX:Ex:=eA eI bb
noncomputable abbrev s9:Ex:=eA eC aB
noncomputable abbrev LR:Ex:=eA (eA aB bb) cv
noncomputable abbrev Dj:Ex:=eA cv bz
noncomputable abbrev G1:Ex:=eA aB EA
noncomputable abbrev aag:Ex:=eA (eA gO aB) bz
noncomputable abbrev wg:Ex:=eA aB ie
noncomputable abbrev vf:Ex:=eM 2 ie
end
theorem rZ{p:Int->Prop}{k:Nat}(d:∀n,n<k->p n){x:Int}(h:0<=x)(g:x<k):p x:=(AM h).elim λn e=>(show p x from e▸d n (nS.mp<|e▸g))
theorem ajf{x:Int}(h:0<=x)(g:x<2):x=0\/x=1:=rZ (p:=λx=>x=0\/x=1) (by decide) h g
theorem alu{x:Int}(h:0<=x)(g:x<3):x=0\/x=1\/x=2:=rZ (p:=λx=>x=0\/x=1\/x=2) (by decide) h g
theorem ajg{x:Int}(h:0<=x)(g:x<4):x=0\/x=1\/x=2\/x=3:=rZ (p:=λx=>x=0\/x=1\/x=2\/x=3) (by decide) h g
theorem amt{x:Int}(h:0<=x)(g:x<6):x=0\/x=1\/x=2\/x=3\/x=4\/x=5:=rZ (p:=λx=>x=0\/x=1\/x=2\/x=3\/x=4\/x=5) (by decide) h g
theorem amu{x:Int}(h:0<=x)(g:x<8):x=0\/x=1\/x=2\/x=3\/x=4\/x=5\/x=6\/x=7:=rZ (p:=λx=>x=0\/x=1\/x=2\/x=3\/x=4\/x=5\/x=6\/x=7) (by decide) h g
theorem amv:∀n:Nat,n<8->n=0\/n=1\/n=2\/n=3\/n=4\/n=5\/n=6\/n=7:=by decide
theorem amw:∀n:Nat,n<6->0<n->n=1\/n=2\/n=3\/n=4\/n=5:=by decide
end
section
set_option genCtorIdx false
theorem eh{g:Prop}(h:∀P:Prop,(g->P)->P):g:=h g id
@[elab_as_elim] theorem ah.{i}{A:Sort i}{a:A}{p:A->Prop}{b:A}(h:a=b)(k:p b):p a:=h▸k
theorem dc{p:Prop}[Decidable p](h:decide p=ag):p:=of_decide_eq_true h
theorem lr{α:Type _}{m:List α->Prop}(a:m [])(b:∀x l,m l->m (x::l))(l:List α):m l:=fT a b l
theorem nr{m:Nat->Prop}(a:m 0)(b:∀n,m n->m (n+1))(n:Nat):m n:=qz a b n
theorem pr{α β:Type _}{m:α×β->Prop}(h:∀a b,m (a,b))(e:α×β):m e:=h e.1 e.2
universe u v w z y
section
variable{α:Sort u}{β:Sort v}{γ:Sort w}{δ:Sort z}{ε:Sort y}{P:Prop}
theorem cV{α:Type u}{a:α}(h:aj=aa a):P:=Option.noConfusion rfl<|heq_of_eq h
theorem Cm{α:Type u}{a:α}(h:aa a=aj):P:=cV h.symm
theorem rT(h:ag=ak):P:=xc h
theorem dC(h:ak=ag):P:=xc h
theorem fh{α:Type u}{a b:α}(h:aa a=aa b):a=b:=cP h
theorem bc(b:Bool)(t:b=ag->P)(f:b=ak->P):P:=match b,t,f with|true,t,_=>t rfl|false,_,f=>f rfl
theorem oc{α:Type u}(o:Option α)(n:o=aj->P)(s:∀a,o=aa a->P):P:=match o,n,s with|none,n,_=>n rfl|some a,_,s=>s a rfl
theorem bd(b:Bool)(f:b=ak->P)(t:b=ag->P):P:=bc b t f
theorem od{α:Type u}(o:Option α)(s:∀a,o=aa a->P)(n:o=aj->P):P:=oc o n s
theorem aah{A0 A1:Prop}(h:A0/\A1)(k:A0->A1->P):P:=k h.1 h.2
theorem agE{A0 A1 A2:Prop}(h:A0/\A1/\A2)(k:A0->A1->A2->P):P:=k h.1 h.2.1 h.2.2
theorem alv{A0 A1 A2 A3:Prop}(h:A0/\A1/\A2/\A3)(k:A0->A1->A2->A3->P):P:=k h.1 h.2.1 h.2.2.1 h.2.2.2
theorem ajh{A0 A1 A2 A3 A4:Prop}(h:A0/\A1/\A2/\A3/\A4)(k:A0->A1->A2->A3->A4->P):P:=k h.1 h.2.1 h.2.2.1 h.2.2.2.1 h.2.2.2.2
theorem ue{A0:α->Prop}(h:∃a,A0 a)(k:∀a,A0 a->P):P:=h.elim λa h0=>k a h0
theorem cE{A0 A1:α->Prop}(h:∃a,A0 a/\A1 a)(k:∀a,A0 a->A1 a->P):P:=h.elim λa h0=>k a h0.1 h0.2
theorem vC{A0 A1 A2:α->Prop}(h:∃a,A0 a/\A1 a/\A2 a)(k:∀a,A0 a->A1 a->A2 a->P):P:=h.elim λa h0=>k a h0.1 h0.2.1 h0.2.2
theorem aji{A0 A1 A2 A3:α->Prop}(h:∃a,A0 a/\A1 a/\A2 a/\A3 a)(k:∀a,A0 a->A1 a->A2 a->A3 a->P):P:=h.elim λa h0=>k a h0.1 h0.2.1 h0.2.2.1 h0.2.2.2
theorem eZ{A0:α->β->Prop}(h:∃a,∃b,A0 a b)(k:∀a b,A0 a b->P):P:=h.elim λa h0=>h0.elim λb h1=>k a b h1
theorem lK{A0 A1:α->β->Prop}(h:∃a,∃b,A0 a b/\A1 a b)(k:∀a b,A0 a b->A1 a b->P):P:=h.elim λa h0=>h0.elim λb h1=>k a b h1.1 h1.2
theorem oi{A0 A1 A2:α->β->Prop}(h:∃a,∃b,A0 a b/\A1 a b/\A2 a b)(k:∀a b,A0 a b->A1 a b->A2 a b->P):P:=h.elim λa h0=>h0.elim λb h1=>k a b h1.1 h1.2.1 h1.2.2
theorem acG{A0 A1 A2 A3:α->β->Prop}(h:∃a,∃b,A0 a b/\A1 a b/\A2 a b/\A3 a b)(k:∀a b,A0 a b->A1 a b->A2 a b->A3 a b->P):P:=h.elim λa h0=>h0.elim λb h1=>k a b h1.1 h1.2.1 h1.2.2.1 h1.2.2.2
theorem amx{A0 A1 A2 A3 A4 A5:α->β->Prop}(h:∃a,∃b,A0 a b/\A1 a b/\A2 a b/\A3 a b/\A4 a b/\A5 a b)(k:∀a b,A0 a b->A1 a b->A2 a b->A3 a b->A4 a b->A5 a b->P):P:=h.elim λa h0=>h0.elim λb h1=>k a b h1.1 h1.2.1 h1.2.2.1 h1.2.2.2.1 h1.2.2.2.2.1 h1.2.2.2.2.2
theorem alw{A0 A1 A2 A3 A4 A5 A6:α->β->Prop}(h:∃a,∃b,A0 a b/\A1 a b/\A2 a b/\A3 a b/\A4 a b/\A5 a b/\A6 a b)(k:∀a b,A0 a b->A1 a b->A2 a b->A3 a b->A4 a b->A5 a b->A6 a b->P):P:=h.elim λa h0=>h0.elim λb h1=>k a b h1.1 h1.2.1 h1.2.2.1 h1.2.2.2.1 h1.2.2.2.2.1 h1.2.2.2.2.2.1 h1.2.2.2.2.2.2
theorem mY{A0:α->β->γ->Prop}(h:∃a,∃b,∃c,A0 a b c)(k:∀a b c,A0 a b c->P):P:=h.elim λa h0=>h0.elim λb h1=>h1.elim λc h2=>k a b c h2
theorem xn{A0 A1:α->β->γ->Prop}(h:∃a,∃b,∃c,A0 a b c/\A1 a b c)(k:∀a b c,A0 a b c->A1 a b c->P):P:=h.elim λa h0=>h0.elim λb h1=>h1.elim λc h2=>k a b c h2.1 h2.2
theorem aai{A0 A1 A2:α->β->γ->Prop}(h:∃a,∃b,∃c,A0 a b c/\A1 a b c/\A2 a b c)(k:∀a b c,A0 a b c->A1 a b c->A2 a b c->P):P:=h.elim λa h0=>h0.elim λb h1=>h1.elim λc h2=>k a b c h2.1 h2.2.1 h2.2.2
theorem G2{A0 A1 A2 A3:α->β->γ->Prop}(h:∃a,∃b,∃c,A0 a b c/\A1 a b c/\A2 a b c/\A3 a b c)(k:∀a b c,A0 a b c->A1 a b c->A2 a b c->A3 a b c->P):P:=h.elim λa h0=>h0.elim λb h1=>h1.elim λc h2=>k a b c h2.1 h2.2.1 h2.2.2.1 h2.2.2.2
theorem alx{A0 A1 A2 A3 A4 A5:α->β->γ->Prop}(h:∃a,∃b,∃c,A0 a b c/\A1 a b c/\A2 a b c/\A3 a b c/\A4 a b c/\A5 a b c)(k:∀a b c,A0 a b c->A1 a b c->A2 a b c->A3 a b c->A4 a b c->A5 a b c->P):P:=h.elim λa h0=>h0.elim λb h1=>h1.elim λc h2=>k a b c h2.1 h2.2.1 h2.2.2.1 h2.2.2.2.1 h2.2.2.2.2.1 h2.2.2.2.2.2
theorem aeZ{A0:α->β->γ->δ->Prop}(h:∃a,∃b,∃c,∃d,A0 a b c d)(k:∀a b c d,A0 a b c d->P):P:=h.elim λa h0=>h0.elim λb h1=>h1.elim λc h2=>h2.elim λd h3=>k a b c d h3
theorem agF{A0 A1:α->β->γ->δ->Prop}(h:∃a,∃b,∃c,∃d,A0 a b c d/\A1 a b c d)(k:∀a b c d,A0 a b c d->A1 a b c d->P):P:=h.elim λa h0=>h0.elim λb h1=>h1.elim λc h2=>h2.elim λd h3=>k a b c d h3.1 h3.2
theorem aly{A0 A1 A2:α->β->γ->δ->Prop}(h:∃a,∃b,∃c,∃d,A0 a b c d/\A1 a b c d/\A2 a b c d)(k:∀a b c d,A0 a b c d->A1 a b c d->A2 a b c d->P):P:=h.elim λa h0=>h0.elim λb h1=>h1.elim λc h2=>h2.elim λd h3=>k a b c d h3.1 h3.2.1 h3.2.2
theorem k8{A0 A1 A2:Prop}(h0:A0)(h1:A1)(h2:A2):A0/\A1/\A2:=⟨h0,h1,h2⟩
theorem acH{A0 A1 A2 A3:Prop}(h0:A0)(h1:A1)(h2:A2)(h3:A3):A0/\A1/\A2/\A3:=⟨h0,h1,h2,h3⟩
theorem amy{A0 A1 A2 A3 A4:Prop}(h0:A0)(h1:A1)(h2:A2)(h3:A3)(h4:A4):A0/\A1/\A2/\A3/\A4:=⟨h0,h1,h2,h3,h4⟩
theorem alz{A0 A1 A2 A3 A4 A5 A6:Prop}(h0:A0)(h1:A1)(h2:A2)(h3:A3)(h4:A4)(h5:A5)(h6:A6):A0/\A1/\A2/\A3/\A4/\A5/\A6:=⟨h0,h1,h2,h3,h4,h5,h6⟩
theorem amz{A0 A1 A2 A3 A4 A5 A6 A7:Prop}(h0:A0)(h1:A1)(h2:A2)(h3:A3)(h4:A4)(h5:A5)(h6:A6)(h7:A7):A0/\A1/\A2/\A3/\A4/\A5/\A6/\A7:=⟨h0,h1,h2,h3,h4,h5,h6,h7⟩
theorem b0{A0 A1:α->Prop}(a:α)(h0:A0 a)(h1:A1 a):∃a,A0 a/\A1 a:=⟨a,h0,h1⟩
theorem tc{A0 A1 A2:α->Prop}(a:α)(h0:A0 a)(h1:A1 a)(h2:A2 a):∃a,A0 a/\A1 a/\A2 a:=⟨a,h0,h1,h2⟩
theorem ajj{A0 A1 A2 A3:α->Prop}(a:α)(h0:A0 a)(h1:A1 a)(h2:A2 a)(h3:A3 a):∃a,A0 a/\A1 a/\A2 a/\A3 a:=⟨a,h0,h1,h2,h3⟩
theorem yQ{A0:α->β->Prop}(a:α)(b:β)(h0:A0 a b):∃a,∃b,A0 a b:=⟨a,b,h0⟩
theorem jY{A0 A1:α->β->Prop}(a:α)(b:β)(h0:A0 a b)(h1:A1 a b):∃a,∃b,A0 a b/\A1 a b:=⟨a,b,h0,h1⟩
theorem gZ{A0 A1 A2:α->β->Prop}(a:α)(b:β)(h0:A0 a b)(h1:A1 a b)(h2:A2 a b):∃a,∃b,A0 a b/\A1 a b/\A2 a b:=⟨a,b,h0,h1,h2⟩
theorem Dk{A0 A1 A2 A3:α->β->Prop}(a:α)(b:β)(h0:A0 a b)(h1:A1 a b)(h2:A2 a b)(h3:A3 a b):∃a,∃b,A0 a b/\A1 a b/\A2 a b/\A3 a b:=⟨a,b,h0,h1,h2,h3⟩
theorem amA{A0 A1 A2 A3 A4 A5:α->β->Prop}(a:α)(b:β)(h0:A0 a b)(h1:A1 a b)(h2:A2 a b)(h3:A3 a b)(h4:A4 a b)(h5:A5 a b):∃a,∃b,A0 a b/\A1 a b/\A2 a b/\A3 a b/\A4 a b/\A5 a b:=⟨a,b,h0,h1,h2,h3,h4,h5⟩
theorem Po{A0:α->β->γ->Prop}(a:α)(b:β)(c:γ)(h0:A0 a b c):∃a,∃b,∃c,A0 a b c:=⟨a,b,c,h0⟩
theorem ae0{A0 A1:α->β->γ->Prop}(a:α)(b:β)(c:γ)(h0:A0 a b c)(h1:A1 a b c):∃a,∃b,∃c,A0 a b c/\A1 a b c:=⟨a,b,c,h0,h1⟩
theorem LS{A0 A1 A2:α->β->γ->Prop}(a:α)(b:β)(c:γ)(h0:A0 a b c)(h1:A1 a b c)(h2:A2 a b c):∃a,∃b,∃c,A0 a b c/\A1 a b c/\A2 a b c:=⟨a,b,c,h0,h1,h2⟩
theorem aaj{A0 A1 A2 A3:α->β->γ->Prop}(a:α)(b:β)(c:γ)(h0:A0 a b c)(h1:A1 a b c)(h2:A2 a b c)(h3:A3 a b c):∃a,∃b,∃c,A0 a b c/\A1 a b c/\A2 a b c/\A3 a b c:=⟨a,b,c,h0,h1,h2,h3⟩
theorem ajk{A0 A1 A2 A3 A4:α->β->γ->Prop}(a:α)(b:β)(c:γ)(h0:A0 a b c)(h1:A1 a b c)(h2:A2 a b c)(h3:A3 a b c)(h4:A4 a b c):∃a,∃b,∃c,A0 a b c/\A1 a b c/\A2 a b c/\A3 a b c/\A4 a b c:=⟨a,b,c,h0,h1,h2,h3,h4⟩
theorem ae1{A0:α->β->γ->δ->Prop}(a:α)(b:β)(c:γ)(d:δ)(h0:A0 a b c d):∃a,∃b,∃c,∃d,A0 a b c d:=⟨a,b,c,d,h0⟩
theorem ajl{A0 A1:α->β->γ->δ->Prop}(a:α)(b:β)(c:γ)(d:δ)(h0:A0 a b c d)(h1:A1 a b c d):∃a,∃b,∃c,∃d,A0 a b c d/\A1 a b c d:=⟨a,b,c,d,h0,h1⟩
theorem amB{A0 A1 A2:α->β->γ->δ->Prop}(a:α)(b:β)(c:γ)(d:δ)(h0:A0 a b c d)(h1:A1 a b c d)(h2:A2 a b c d):∃a,∃b,∃c,∃d,A0 a b c d/\A1 a b c d/\A2 a b c d:=⟨a,b,c,d,h0,h1,h2⟩
theorem amC{A0 A1 A2 A3:α->β->γ->δ->Prop}(a:α)(b:β)(c:γ)(d:δ)(h0:A0 a b c d)(h1:A1 a b c d)(h2:A2 a b c d)(h3:A3 a b c d):∃a,∃b,∃c,∃d,A0 a b c d/\A1 a b c d/\A2 a b c d/\A3 a b c d:=⟨a,b,c,d,h0,h1,h2,h3⟩
end
end
section
abbrev Tx:=List Nat
inductive bV where|s (t:Tx)|i (n:Int)
 deriving DecidableEq
set_option genCtorIdx false
inductive P where
 |none|bool (b:Bool)|int (i:Int)|str (s:Tx)
 |jH (vs:List P)|fl (vs:List P)|fd (ks:List bV) (vs:List P)|BN (lo hi:Int)
 |fn (a:Nat)|cls (a:Nat)|ty (n:Nat)|bi (n:Nat)
noncomputable def P.ctorIdx (x:P):Nat:=P.casesOn (motive_1:=λ_=>Nat) x 0 (λ_=>1) (λ_=>2) (λ_=>3) (λ_=>4) (λ_=>5) (λ_ _=>6) (λ_ _=>7) (λ_=>8) (λ_=>9) (λ_=>10) λ_=>11
inductive V where|p (x:P)|ob (n:Nat)|tm (n:Nat)|dy (n:Nat)
noncomputable def V.ctorIdx (x:V):Nat:=V.casesOn (motive:=λ_=>Nat) x (λ_=>0) (λ_=>1) (λ_=>2) λ_=>3
inductive O where
 |free|nh|ls (xs:List P)|dc (es:List<|bV×P)|rd (es:List<|bV×Nat)|iF (c:Nat) (fs:List<|Nat×V)|jm (c:Nat) (fs:List<|Nat×P)
noncomputable def O.ctorIdx (x:O):Nat:=O.casesOn (motive:=λ_=>Nat) x 0 1 (λ_=>2) (λ_=>3) (λ_=>4) (λ_ _=>5) λ_ _=>6
abbrev H:=List O
abbrev Env:=List<|Nat×V
noncomputable def aW:H->Nat->Option O
 |[],_=>.none
 |o::r,n=>match n with|0=>aa o|n+1=>aW r n
noncomputable def aG:H->Nat->O->H
 |[],_,_=>[]
 |o::r,n,x=>match n with|0=>x::r|n+1=>o::aG r n x
set_option genInjectivity false
set_option genCtorIdx true
inductive G3 where|add|iz|mul|fdiv|mod
inductive aak where|eq|ne|lt|le|gt|ge|jh|vP|WK|Ie
set_option genCtorIdx false
inductive X where
 |nil|cons (a r:X)
 |val (v:P)|name (i:Nat)|fy (i:Nat)
 |tuple (es:X)|list (z:List Nat) (es:X)|dict (z:List Nat) (kvs:X)|CU (z:List Nat)|dR (z:List Nat) (a b:X)|CV (z:List Nat) (e:X)
 |aal (op:G3) (a b:X)|BO (op:aak) (a b:X)|neg (a:X)
 |EB (a:X)|MG (es:X)|aam (es:X)|ite (c a b:X)
 |yf (e:X) (i:Nat)|iz (e k:X)|zq (e hi:X)|CW (e lo hi:X)
 |call (f:X) (args:X)|vg (o:X) (i:Nat) (args:X)
 |ji (e:X)|kr (elt:X) (t:Nat) (it:X) (cs:X)|CX (k v:X) (t:Nat) (it:X) (cs:X)
 |dm
noncomputable def X.ctorIdx (x:X):Nat:=X.casesOn (motive:=λ_=>Nat) x 0 (λ_ _=>1) (λ_=>2) (λ_=>3) (λ_=>4) (λ_=>5) (λ_ _=>6) (λ_ _=>7) (λ_=>8) (λ_ _ _=>9) (λ_ _=>10) (λ_ _ _=>11) (λ_ _ _=>12) (λ_=>13) (λ_=>14) (λ_=>15) (λ_=>16) (λ_ _ _=>17) (λ_ _=>18) (λ_ _=>19) (λ_ _=>20) (λ_ _ _=>21) (λ_ _=>22) (λ_ _ _=>23) (λ_=>24) (λ_ _ _ _=>25) (λ_ _ _ _ _=>26) 27
inductive S where
 |nil|cons (s r:S)
 |ug (i:Nat) (e:X)|Qz (o:X) (i:Nat) (e:X)|MI (o k e:X)|MJ (is:List Nat) (e:X)|G4 (i j:Nat) (a b:X)
 |cY (i:Nat) (e:X)|yR (i:Nat)|drop (i:Nat)
 |EC (i:Nat) (op:G3) (e:X)|Co (o:X) (i:Nat) (op:G3) (e:X)
 |expr (e:X)|aan (c:X) (a b:S)|lg (is:List Nat) (it:X) (body:S)|sG (c:X) (body:S)
 |ret (e:X)|ML|gL (a b:X)|xo (e:X)
 |vh (body:S) (nm:Option Nat) (h:S)
 |ZV|cont|dm
noncomputable def S.ctorIdx (x:S):Nat:=S.casesOn (motive:=λ_=>Nat) x 0 (λ_ _=>1) (λ_ _=>2) (λ_ _ _=>3) (λ_ _ _=>4) (λ_ _=>5) (λ_ _ _ _=>6) (λ_ _=>7) (λ_=>8) (λ_=>9) (λ_ _ _=>10) (λ_ _ _ _=>11) (λ_=>12) (λ_ _ _=>13) (λ_ _ _=>14) (λ_ _=>15) (λ_=>16) 17 (λ_ _=>18) (λ_=>19) (λ_ _ _=>20) 21 22 23
structure aT where
 params:List Nat
 tF:List P
 body:S
structure cN where
 init:Nat
 al:List Nat
 tG:List (Nat×Nat)
 fields:List Nat
 d5:Bool
 mro:List Nat
structure Ig where
 fn:Nat->Option aT
 cls:Nat->Option cN
 fy:Nat->Option P
noncomputable def dD:Nat:=9
noncomputable def ou:Nat:=82
noncomputable def bZ:Nat:=1000000
section
variable{K A:Type}[DecidableEq K]
noncomputable def av:List (K×A)->K->Option A
 |[],_=>aj
 |e::r,k=>if e.1=k then aa e.2 else av r k
noncomputable def aN:List (K×A)->K->A->List (K×A)
 |[],k,v=>[(k,v)]
 |e::r,k,v=>if e.1=k then (k,v)::r else e::aN r k v
noncomputable def cW:List (K×A)->K->List (K×A)
 |[],_=>[]
 |e::r,k=>if e.1=k then cW r k else e::cW r k
end
abbrev M(α:Type):=H->(α->H->Prop)->(H->Prop)->Prop
section
variable{α β:Type}
def M.ok(a:α):M α:=λσ Q _=>Q a σ
def M.no:M α:=λ_ _ _=>False
def hM(f:α->M β)(Q:β->H->Prop)(E:H->Prop):α->H->Prop:=λa bP=>f a bP Q E
def M.bind(x:M α)(f:α->M β):M β:=λσ Q E=>x σ (hM f Q E) E
def M.aQ(o:Option α)(f:α->M β):M β:=match o with|some a=>f a|none=>M.no
def M.eD(c:Prop)(x:M α):M α:=λσ Q E=>c/\x σ Q E
def M.lS(b:Bool)(x:M α):M α:=match b with|true=>x|false=>M.no
def M.at(f:H->M α):M α:=λσ=>f σ σ
end
noncomputable def ng {α:Type} (a b:Option α):Option α:=match a with|some x=>aa x|none=>b
noncomputable def V.pl:V->Option P| .p x=>aa x|_=>aj
noncomputable def P.ED:P->Option Int| .int i=>aa i|_=>.none
noncomputable def P.sV:P->Option Tx| .str s=>aa s|_=>.none
noncomputable def P.MM:P->Option (List P)| .jH s=>aa s|_=>.none
noncomputable def P.ajm:P->Option (List P)| .fl s=>aa s|_=>.none
noncomputable def P.ajn:P->Option (List<|bV×P)| .fd ks vs=>aa (ks.zip vs)|_=>.none
noncomputable def P.isNone:P->Bool| .none=>ag|_=>ak
def P.HY(x:P):Option bV:=match x.sV with|some s=>aa (.s s)| .none=>match x.ED with|some i=>aa (.i i)| .none=>.none
noncomputable def bV.val:bV->P| .s t=>.str t| .i n=>.int n
noncomputable def O.uV:O->Option (List P)| .ls xs=>aa xs|_=>aj
noncomputable def O.Ih:O->Option (List<|bV×P)| .dc xs=>aa xs|_=>aj
noncomputable def O.yS:O->Option (List<|bV×Nat)| .rd xs=>aa xs|_=>aj
noncomputable def O.EE:O->Option (Nat×List (Nat×V))| .iF c fs=>aa (c,fs)|_=>aj
noncomputable def O.QA:O->Option (Nat×List (Nat×P))| .jm c fs=>aa (c,fs)|_=>aj
noncomputable def O.ig:O->Bool| .free=>ag|_=>ak
def V.eX(v:V):Option Int:=v.pl.bind P.ED
def V.lh(v:V):Option Tx:=v.pl.bind P.sV
def V.yg(v:V):Option (List P):=v.pl.bind P.MM
def V.lj(v:V):Option bV:=v.pl.bind P.HY
noncomputable def V.slot:V->Option Nat| .ob n=>aa n|_=>aj
noncomputable def V.Pp:V->Option Nat| .dy n=>aa n|_=>aj
def jU(σ:H)(v:V):Option (List P):=ng (v.pl.bind P.ajm)<|(v.slot.bind<|aW σ).bind O.uV
def qF(σ:H)(v:V):Option (List<|bV×P):=ng (v.pl.bind P.ajn)<|(v.slot.bind<|aW σ).bind O.Ih
def yh(σ:H)(v:V):Option (List<|bV×Nat):=(v.slot.bind<|aW σ).bind O.yS
def vi(σ:H)(v:V):Option (List P):=ng v.yg<|jU σ v
mutual
noncomputable def cK:Nat->P->Bool
 |0,x=>match x with| .none=>ag| .bool _=>ag| .int _=>ag| .str _=>ag|_=>ak
 |k+1,x=>match x with| .none=>ag| .bool _=>ag| .int _=>ag| .str _=>ag| .jH vs=>dS k vs| .fl vs=>dS k vs|_=>ak
noncomputable def dS:Nat->List P->Bool
 |_,[]=>ag
 |k,x::r=>cK k x&&dS k r
end
mutual
noncomputable def cL:P->P->Bool
 | .none,y=>y.isNone
 | .bool a,y=>match y with| .bool b=>a==b| .int j=>(if a then (1:Int)else 0)==j|_=>ak
 | .int i,y=>match y with| .bool b=>i==(if b then (1:Int)else 0)| .int j=>i==j|_=>ak
 | .str s,y=>match y.sV with|some t=>s==t|none=>ak
 | .jH xs,y=>match y.MM with|some ys=>EF xs ys|none=>ak
 | .fl xs,y=>match y.ajm with|some ys=>EF xs ys|none=>ak
 |_,_=>ak
noncomputable def EF:List P->List P->Bool
 |[],ys=>ys.isEmpty
 |x::xs,ys=>match ys with|[]=>ak|y::ys=>cL x y&&EF xs ys
end
noncomputable def cO (v:P):List P->Bool
 |[]=>ak
 |x::r=>cL x v||cO v r
noncomputable def l8 (v:P):List P->Option Nat
 |[]=>aj
 |x::r=>match cL x v with|true=>aa 0|false=>(l8 v r).map (·+1)
def Cp(σ:H)(v:V):Option P:=match jU σ v with|some xs=>aa (.fl xs)|none=>v.pl
def agG(a b:V):M Bool:=.at λσ=>.aQ (Cp σ a) λx=>.aQ (Cp σ b) λy=>.eD (cK 8 x=ag/\cK 8 y=ag)<| .ok<|cL x y
def nX(a b:V):M Bool:=.at λσ=>match vi σ b with
 |some xs=>.aQ a.pl λx=>.eD (cK 8 x=ag/\dS 8 xs=ag)<| .ok<|cO x xs
 |none=>.aQ a.lj λk=>match qF σ b with
  |some es=>.ok (av es k).isSome
  |none=>.aQ (yh σ b) λes=>.ok (av es k).isSome
def j0(v:V):Bool:=match v.pl with|some x=>x.isNone|none=>ak
noncomputable def bl (b:Bool):V:=.p<| .bool b
def QB(f:Int->Int->Bool)(a b:V):M V:=.aQ a.eX λx=>.aQ b.eX λy=>.ok<|bl<|f x y
def hV(op:aak)(a b:V):M V:=match op with
 | .eq=>.bind (agG a b) λr=>.ok<|bl r
 | .ne=>.bind (agG a b) λr=>.ok<|bl !r
 | .lt=>QB (λx y=>decide<|x<y) a b
 | .le=>QB (λx y=>decide<|x<=y) a b
 | .gt=>QB (λx y=>decide<|x>y) a b
 | .ge=>QB (λx y=>decide<|x>=y) a b
 | .jh=>.bind (nX a b) λr=>.ok<|bl r
 | .vP=>.bind (nX a b) λr=>.ok<|bl !r
 | .WK=>.lS (j0 b)<| .ok<|bl<|j0 a
 | .Ie=>.lS (j0 b)<| .ok<|bl !(j0 a)
noncomputable def WL (x:P):Option (Bool×Nat):=match x with
 | .none=>aa (ak,0)| .bool b=>aa (b,0)| .int i=>aa (i !=0,0)| .str s=>aa (!s.isEmpty,s.length)| .fl s=>aa (!s.isEmpty,s.length)|_=>aj
def fU(v:V):M Bool:=.at λσ=>.aQ (Cp σ v) λx=>.aQ (WL x) λr=>.eD (r.2<=bZ)<| .ok r.1
noncomputable def oY (k:Int):Tx:=iu k.toNat 32
noncomputable def it (i:Int):V:=.p<| .int i
def adF(a b:V):M V:=match a.eX with
 |some x=>.aQ b.eX λy=>.ok<|it<|x+y
 |none=>match a.lh with
  |some x=>.aQ b.lh λy=>.eD (x.length<=bZ/\y.length<=bZ)<| .ok<| .p<| .str<|x++y
  |none=>.at λσ=>.aQ (jU σ a) λxs=>.aQ (jU σ b) λys=>.eD (xs.length<=bZ/\ys.length<=bZ)<| .ok<| .p<| .fl<|xs++ys
def Tw(op:G3)(a b:V):M V:=match op with
 | .add=>adF a b
 | .iz=>.aQ a.eX λx=>.aQ b.eX λy=>.ok<|it<|x - y
 | .mul=>.aQ b.eX λy=>match a.eX with
  |some x=>.eD (x.natAbs<2147483648/\y.natAbs<2147483648)<| .ok<|it<|x*y
  |none=>.aQ a.lh λs=>.eD (s=[32]/\-1000000<=y/\y<=1000)<| .ok<| .p<| .str<|oY y
 | .fdiv=>.aQ a.eX λx=>.aQ b.eX λy=>.eD (0<=x/\x<1000000/\0<y/\y<1000000)<| .ok<|it<|x.fdiv y
 | .mod=>.aQ a.eX λx=>.aQ b.eX λy=>.eD (y≠0)<| .ok<|it<|x.fmod y
noncomputable def eG (σ:H):List Nat->Option Nat
 |[]=>aj
 |n::r=>match (aW σ n).map O.ig with|some ag=>aa n|_=>eG σ r
def fP(n:Nat)(o:O):M Unit:=λσ Q _=>Q ()<|aG σ n o
def alloc(z:List Nat)(o:O):M V:=.at λσ=>.aQ (eG σ z) λn=>.bind (fP n o) λ_=>.ok<| .ob n
def LU(o:O):M V:=λσ Q _=>10<=σ.length/\Q (.dy σ.length) (σ++[o])
def ahX(n:Nat)(f:Nat->List (Nat×V)->M V):M V:=λσ Q E=>∃c fs,aW σ n=aa (.iF c fs)/\f c fs σ Q E
noncomputable def pU (n:Nat) (i:Int):Option Nat:=match decide (0<=i/\i<10000000)with
 |true=>aa i.toNat
 |false=>match decide (0<=i+n/\-10000000<i)with|true=>aa (i+n).toNat|false=>aj
def rU(o k:V):M V:=.at λσ=>match o.lh with
 |some s=>.aQ k.eX λi=>.eD (0<=i/\i<10000000)<| .aQ (s[i.toNat]?) λc=>.ok<| .p<| .str [c]
 |none=>match vi σ o with
  |some xs=>.aQ k.eX λi=>.aQ (pU xs.length i) λj=>.aQ (xs[j]?) λv=>.ok<| .p v
  |none=>.aQ k.lj λk=>match qF σ o with
   |some es=>.aQ (av es k) λv=>.ok<| .p v
   |none=>.aQ (yh σ o) λes=>.aQ (av es k) λn=>.ok<| .dy n
def iA(o k v:V):M Unit:=.aQ o.slot λn=>.at λσ=>.aQ (aW σ n) λob=>match ob with
 | .ls xs=>.aQ k.eX λi=>.eD (0<=i/\i<xs.length/\i<10000000)<| .aQ v.pl λx=>fP n<| .ls<|xs.set i.toNat x
 | .dc es=>.aQ k.lj λk=>.aQ v.pl λx=>.eD (es.length<=bZ)<|fP n<| .dc<|aN es k x
 | .rd es=>.aQ k.lj λk=>.aQ v.Pp λx=>.eD (es.length<=bZ)<|fP n<| .rd<|aN es k x
 |_=>.no
def CY(o:V)(lo hi:Int):M V:=.eD (0<=lo/\0<=hi) (.at λσ=>match o.lh with
 |some s=>.eD (s.length<=bZ)<| .ok<| .p<| .str<|(s.take hi.toNat).drop lo.toNat
 |none=>.aQ (jU σ o) λxs=>.eD (xs.length<=bZ)<| .ok<| .p<| .fl<|(xs.take hi.toNat).drop lo.toNat)
def field(T:Ig)(ex:Bool)(c i:Nat)(x:M V):M V:=.aQ (T.cls c) λd=>.lS (d.fields.contains i&&(d.d5==ex)) x
def getAttr(T:Ig)(o:V)(i:Nat):M V:=match o.Pp with
 |some n=>ahX n λc fs=>field T ak c i<| .aQ (av fs i) .ok
 |none=>.aQ o.slot λn=>.at λσ=>.aQ (aW σ n) λob=>match ob with
  | .iF c fs=>field T ak c i<| .aQ (av fs i) .ok
  | .jm c fs=>field T ag c i<| .aQ (av fs i) λx=>.ok<| .p x
  |_=>.no
noncomputable def ae2:V->Bool| .p _=>ag| .ob n=>gb 10 n| .tm _=>ak| .dy _=>ak
noncomputable def agH:V->Bool| .p _=>ag| .dy _=>ag|_=>ak
def setAttr(T:Ig)(o:V)(i:Nat)(v:V):M Unit:=match o.Pp with
 |some n=>λσ Q E=>∃c fs,aW σ n=aa (.iF c fs)/\(M.aQ (T.cls c) λd=>.lS (d.fields.contains i&&!d.d5&&agH v)<| .eD (fs.length<=500)<|fP n<| .iF c<|aN fs i v) σ Q E
 |none=>.aQ o.slot λn=>.at λσ=>.aQ ((aW σ n).bind O.EE) λcf=>.aQ (T.cls cf.1) λd=>.lS (d.fields.contains i&&!d.d5&&ae2 v)<| .eD (cf.2.length<=500)<|fP n<| .iF cf.1<|aN cf.2 i v
def mB(ks:List bV):List P:=ks.map bV.val
noncomputable def wh {α:Type} (le:α->α->Bool) (x:α):List α->List α
 |[]=>[x]
 |y::r=>match le x y with|true=>x::y::r|false=>y::wh le x r
noncomputable def nY {α:Type} (le:α->α->Bool):List α->List α
 |[]=>[]
 |x::r=>wh le x<|nY le r
noncomputable def ae3 (a b:Int):Bool:=decide<|a<=b
noncomputable def WM (a b:Tx):Bool:=!decide (b<a)
noncomputable def vj:List bV->Option (List Int)
 |[]=>aa []
 |k::r=>match k with| .i n=>(vj r).map (n::·)| .s _=>aj
noncomputable def G5:List bV->Option (List Tx)
 |[]=>aa []
 |k::r=>match k with| .s n=>(G5 r).map (n::·)| .i _=>aj
def rV(ks:List bV):Option (List P):=ng ((vj ks).map λl=>(nY ae3 l).map .int)<|(G5 ks).map λl=>(nY WM l).map .str
noncomputable def qG (n:Nat):Tx:=if n<10 then [48+n]else []
noncomputable def pairsOf:List P->Option (List<|bV×P)
 |[]=>aa []
 |x::r=>match x.MM with
  |some l=>match l with
   |[k,v]=>match k.HY with|some k=>(pairsOf r).map ((k,v)::·)|none=>aj
   |_=>aj
  |none=>aj
noncomputable def cn {A:Type}:List (bV×A)->List (bV×A)->List (bV×A)
 |es,[]=>es
 |es,e::r=>cn (aN es e.1 e.2) r
noncomputable def ju (es:List<|bV×P):P:=.fd (es.map (·.1))<|es.map (·.2)
def qH(args:List V)(f:V->M V):M V:=match args with|[v]=>f v|_=>.no
def WN(hd:Bool)(n:Nat)(args:List V):M V:=match n with
 |0=>qH args λv=>.at λσ=>match jU σ v with
  |some xs=>.eD (xs.length<=bZ)<| .ok<| .p<| .fl xs
  |none=>.lS (!hd)<| .aQ (qF σ v) λes=>.eD (es.length<=bZ)<| .ok<| .p<| .fl<|mB<|es.map (·.1)
 |1=>qH args λv=>.at λσ=>.lS (!hd)<| .aQ (jU σ v) λxs=>.aQ (pairsOf xs) λes=>.eD (es.length<=bZ)<| .ok<| .p<|ju<|cn [] es
 |2=>qH args λv=>.at λσ=>.aQ (jU σ v) λxs=>.eD (xs.length<=bZ)<| .ok<| .p<| .jH xs
 |4=>qH args λv=>.aQ v.eX λi=>.eD (0<=i/\i<10)<| .ok<| .p<| .str<|qG i.toNat
 |5=>match args with
  |[a]=>.aQ a.eX λb=>.ok<| .p<| .BN 0 b
  |[a,b]=>.aQ a.eX λa=>.aQ b.eX λb=>.ok<| .p<| .BN a b
  |_=>.no
 |_=>.no
noncomputable def adG (n:Nat) (x:P):Option Bool:=match x with
 | .jH _=>aa (dk n 2)| .int _=>aa (dk n 3)| .str _=>aa ak|_=>aj
noncomputable def P.ajo:P->Option Nat| .ty n=>aa n|_=>.none
noncomputable def P.ajp:P->Option Nat| .cls n=>aa n|_=>.none
def WO(T:Ig)(hd:Bool)(n:Nat)(args:List V):M V:=match n with
 |0=>qH args λv=>.at λσ=>match v.lh with
  |some s=>.eD (s.length<=bZ)<| .ok<|it s.length
  |none=>.aQ (vi σ v) λxs=>.eD (xs.length<=bZ)<| .ok<|it xs.length
 |1=>qH args λv=>.lS (!hd)<| .at λσ=>.aQ (yh σ v) λes=>.eD (es.length<64)<| .aQ (rV<|es.map (·.1)) λl=>.ok<| .p<| .fl l
 |2=>match args with
  |[v,c]=>.aQ c.pl λc=>match v.pl with
   |some x=>.aQ c.ajo λn=>.lS (dk n 2||Nat.beq n 3)<| .aQ (adG n x) λb=>.ok<|bl b
   |none=>.aQ c.ajp λc=>.aQ v.slot λn=>.at λσ=>.aQ ((aW σ n).bind O.QA) λe=>.aQ (T.cls e.1) λk=>.aQ (T.cls c) λ_=>.lS k.d5<| .ok<|bl<|k.mro.contains c
  |_=>.no
 |_=>.no
noncomputable def d9:Tx->Tx
 |[]=>[]
 |c::r=>match d9 r with
  |[]=>if c=32 then []else [c]
  |a::l=>c::a::l
noncomputable def G6:List P->Option Tx
 |[]=>aa []
 |x::r=>match x.sV with|some s=>(G6 r).map (s++·)|none=>aj
structure tH where
 append:Nat
 EG:Nat
 xq:Nat
 kM:Nat
 AY:Nat
 join:Nat
inductive MK where|cY (a:Nat)|bi (k j:Nat)
noncomputable def MK.ctorIdx (x:MK):Nat:=MK.casesOn (motive:=λ_=>Nat) x (λ_=>0) λ_ _=>1
def Pq(l:List<|Nat×Nat)(k i:Nat):Option MK:=(av l i).map<|MK.bi k
def iI(T:Ig)(N:tH)(x:V)(i:Nat)(σ:H):Option MK:=match x.lh with
 |some _=>Pq [(N.AY,4),(N.join,5)] 2 i
 |none=>match jU σ x with
  |some _=>Pq [(N.append,0),(N.EG,1),(N.xq,2)] 0 i
  |none=>match ng ((qF σ x).map λ_=>()) ((yh σ x).map λ_=>())with
   |some _=>Pq [(N.EG,1),(N.kM,3)] 1 i
   |none=>match (x.slot.bind<|aW σ).bind O.EE with
    |some cf=>match T.cls cf.1 with
     |some d=>match d.d5||(av cf.2 i).isSome with
      |true=>aj
      |false=>match av d.tG i with
       |some a=>match (T.fn a).isSome with|true=>aa (.cY a)|false=>aj
       |none=>aj
     |none=>aj
    |none=>aj
noncomputable def qI {A:Type} (f:A->V) (d:V):Option A->V|some a=>f a|none=>d
def uW(k j:Nat)(o:V)(args:List V):M V:=match j with
 |0=>qH args λv=>.aQ o.slot λn=>.at λσ=>.aQ ((aW σ n).bind O.uV) λxs=>.aQ v.pl λx=>.eD (xs.length<=bZ)<| .bind (fP n<| .ls<|xs++[x]) λ_=>.ok<| .p .none
 |1=>.aQ o.slot λn=>.at λσ=>match k with
  |0=>match args with
   |[]=>.aQ ((aW σ n).bind O.uV) λxs=>.aQ xs.getLast? λx=>.eD (xs.length<=bZ)<| .bind (fP n<| .ls xs.dropLast) λ_=>.ok<| .p x
   |_=>.no
  |_=>qH args λa=>.aQ a.lj λa=>.aQ ((aW σ n).bind O.yS) λes=>.aQ (av es a) λx=>.eD (es.length<=bZ)<| .bind (fP n<| .rd<|cW es a) λ_=>.ok<| .dy x
 |2=>qH args λv=>.at λσ=>.aQ (jU σ o) λxs=>.aQ v.pl λx=>.eD (cK 8 x=ag/\dS 8 xs=ag/\xs.length<=bZ)<| .aQ (l8 x xs) λj=>.ok<|it j
 |3=>.at λσ=>match args with
  |[]=>.no
  |a::r=>.aQ a.lj λa=>.aQ (match r with|[]=>aa (V.p .none)|[d]=>aa d|_=>aj) λd=>match qF σ o with
   |some es=>.ok<|qI V.p d<|av es a
   |none=>.aQ (yh σ o) λes=>.ok<|qI V.dy d<|av es a
 |4=>qH args λv=>.aQ o.lh λs=>.aQ v.lh λt=>.eD (t=[32]/\s.length<=bZ)<| .ok<| .p<| .str<|d9 s
 |5=>qH args λv=>.aQ o.lh λs=>.at λσ=>.aQ (jU σ v) λxs=>.aQ (G6 xs) λt=>.eD (s=[]/\t.length<=400000/\xs.length<=400000)<| .ok<| .p<| .str t
 |_=>.no
def hX:P->Option (List P)
 | .jH xs=>aa xs| .fl xs=>aa xs| .fd ks vs=>match dk ks.length vs.length with|true=>aa (mB ks)|false=>aj
 | .BN a b=>match decide (-1000000<=a/\a<=1000000/\-1000000<=b/\b<=1000000)with|true=>aa ((AI (b - a).toNat).map λ(k:Nat)=>P.int<|a+(k:Int))|false=>aj
 |_=>aj
structure Cx where
 T:Ig
 N:tH
 call:V->List V->M V
 hd:Bool
 lv:Nat
def iQ(f:P->M (Option P)):List P->List P->M V
 |acc,[]=>.ok<| .p<| .fl acc
 |acc,x::xs=>.bind (f x) λr=>match r with
  |none=>iQ f acc xs
  |some v=>.eD (acc.length<=bZ)<|iQ f (acc++[v]) xs
def rW(f:P->M (Option<|bV×P)):List (bV×P)->List P->M V
 |acc,[]=>.ok<| .p<|ju acc
 |acc,x::xs=>.bind (f x) λr=>match r with
  |none=>rW f acc xs
  |some e=>.eD (acc.length<=bZ)<|rW f (aN acc e.1 e.2) xs
def yi{α:Type}(x:M α):M α:=λσ Q _=>x σ Q λ_=>False
def lw{α:Type}(b:Bool)(x:M α):M (Option α):=match b with|true=>.bind x λv=>.ok (aa v)|false=>.ok aj
noncomputable def uX:List V->Option (List P)
 |[]=>aa []
 |v::r=>match v.pl with|some x=>(uX r).map (x::·)|none=>aj
def zH(z:List Nat)(es:List<|bV×P):M V:=match z with|[]=>.ok (.p<|ju<|cn [] es)|_::_=>alloc z<| .dc<|cn [] es
def Gl(z:List Nat)(xs:List P):M V:=match z with|[]=>.ok (.p<| .fl xs)|_::_=>alloc z<| .ls xs
noncomputable def V.g7:V->V| .tm n=>.ob n|v=>v
mutual
def eP(C:Cx)(m:Env):X->M V
 | .val v=>.ok<| .p v
 | .name i=>.aQ (av m i) λv=>.ok v.g7
 | .fy i=>.aQ (C.T.fy i) λv=>.ok<| .p v
 | .tuple es=>.bind (EH C m es) λvs=>.aQ (uX vs) λxs=>.ok<| .p<| .jH xs
 | .list z es=>.bind (EH C m es) λvs=>.aQ (uX vs) λxs=>Gl z xs
 | .dict z kvs=>.bind (adH C m kvs) λes=>zH z es
 | .CU z=>alloc z<| .rd []
 | .dR z a b=>.bind (eP C m a) λx=>.bind (eP C m b) λy=>.at λσ=>.aQ (jU σ x) λxs=>.aQ y.eX λk=>.aQ (match xs with|[x]=>aa x|_=>aj) λx=>.eD (0<=k/\k<=1000)<|alloc z<| .ls<|iu k.toNat x
 | .CV z e=>.bind (eP C m e) λx=>.at λσ=>.aQ (qF σ x) λes=>.eD (es.length<=bZ)<|alloc z<| .dc es
 | .aal op a b=>.bind (eP C m a) λx=>.bind (eP C m b) λy=>Tw op x y
 | .BO op a b=>.bind (eP C m a) λx=>.bind (eP C m b) λy=>hV op x y
 | .neg a=>.bind (eP C m a) λx=>.aQ x.eX λi=>.ok<|it<|-i
 | .EB a=>.bind (eP C m a) λx=>.bind (fU x) λb=>.ok<|bl !b
 | .MG es=>Tz C m es
 | .aam es=>adI C m es
 | .ite c a b=>.bind (rX C m c) λr=>match r with|true=>eP C m a|false=>eP C m b
 | .yf e i=>.bind (eP C m e) λo=>getAttr C.T o i
 | .iz e k=>.bind (eP C m e) λo=>.bind (eP C m k) λx=>rU o x
 | .zq e hi=>.bind (eP C m e) λo=>.bind (eP C m hi) λh=>.aQ h.eX λh=>CY o 0 h
 | .CW e lo hi=>.bind (eP C m e) λo=>.bind (eP C m lo) λl=>.bind (eP C m hi) λh=>.aQ l.eX λl=>.aQ h.eX λh=>CY o l h
 | .call f args=>.bind (eP C m f) λg=>.bind (EH C m args) λvs=>C.call g vs
 | .vg o i args=>.bind (eP C m o) λx=>.at λσ=>.aQ (iI C.T C.N x i σ) λk=>.bind (EH C m args) λvs=>match k with| .cY a=>C.call (.p<| .fn a) (x::vs)| .bi k j=>uW k j x vs
 | .ji e=>.bind (eP C m e) λx=>.aQ x.slot λn=>.lS (gb 10 n)<| .at λσ=>.aQ ((aW σ n).bind O.uV) λxs=>.bind (fP n .nh) λ_=>.ok<| .p<| .fl xs
 | .kr elt t it cs=>match C.hd with
  |true=>.no
  |false=>.bind (eP C m it) λs=>.aQ (s.pl.bind hX) λxs=>yi<|iQ (λx=>.bind (ni C (aN m t<| .p x) cs) λb=>lw b<| .bind (eP C (aN m t<| .p x) elt) λv=>.aQ v.pl .ok) [] xs
 | .CX k v t it cs=>match C.hd with
  |true=>.no
  |false=>.bind (eP C m it) λs=>.aQ (s.pl.bind hX) λxs=>yi<|rW (λx=>.bind (ni C (aN m t<| .p x) cs) λb=>lw b<| .bind (eP C (aN m t<| .p x) k) λa=>.bind (eP C (aN m t<| .p x) v) λr=>.aQ a.lj λa=>.aQ r.pl λr=>.ok (a,r)) [] xs
 |_=>.no
def EH(C:Cx)(m:Env):X->M (List V)
 | .nil=>.ok []
 | .cons e es=>.bind (eP C m e) λv=>.bind (EH C m es) λvs=>.ok<|v::vs
 |_=>.no
def adH(C:Cx)(m:Env):X->M (List<|bV×P)
 | .nil=>.ok []
 | .cons kv r=>.bind (amD C m kv) λe=>.bind (adH C m r) λes=>.ok<|e::es
 |_=>.no
def amD(C:Cx)(m:Env):X->M (bV×P)
 | .cons k v=>.bind (eP C m k) λa=>.bind (eP C m v) λb=>.aQ a.lj λa=>.aQ b.pl λb=>.ok (a,b)
 |_=>.no
def Tz(C:Cx)(m:Env):X->M V
 | .cons e es=>.bind (eP C m e) λv=>match es with
  | .nil=>.ok v
  |_=>.bind (fU v) λb=>match b with|false=>.ok v|true=>Tz C m es
 |_=>.no
def adI(C:Cx)(m:Env):X->M V
 | .cons e es=>.bind (eP C m e) λv=>match es with
  | .nil=>.ok v
  |_=>.bind (fU v) λb=>match b with|true=>.ok v|false=>adI C m es
 |_=>.no
def rX(C:Cx)(m:Env):X->M Bool
 | .EB a=>.bind (rX C m a) λb=>.ok<|!b
 | .MG es=>LV C m es
 | .aam es=>TA C m es
 | .ite c a b=>.bind (rX C m c) λr=>match r with|true=>rX C m a|false=>rX C m b
 | .BO op a b=>.bind (eP C m a) λx=>.bind (eP C m b) λy=>.bind (hV op x y) fU
 | .name i=>.aQ (av m i) λv=>fU v.g7
 | .call f args=>.bind (.bind (eP C m f) λg=>.bind (EH C m args) λvs=>C.call g vs) fU
 |_=>.no
def LV(C:Cx)(m:Env):X->M Bool
 | .nil=>.ok ag
 | .cons e es=>.bind (rX C m e) λb=>match b with|true=>LV C m es|false=>.ok ak
 |_=>.no
def TA(C:Cx)(m:Env):X->M Bool
 | .nil=>.ok ak
 | .cons e es=>.bind (rX C m e) λb=>match b with|false=>TA C m es|true=>.ok ag
 |_=>.no
def ni(C:Cx)(m:Env):X->M Bool
 | .nil=>.ok ag
 | .cons e es=>.bind (rX C m e) λb=>match b with|true=>ni C m es|false=>.ok ak
 |_=>.no
end
inductive Fl where|next|ret (v:V)|cont
noncomputable def Fl.ctorIdx (x:Fl):Nat:=Fl.casesOn (motive:=λ_=>Nat) x 0 (λ_=>1) 2
abbrev SM:=Env->H->(Fl->Env->H->Prop)->(Env->H->Prop)->Prop
def SM.no:SM:=λ_ _ _ _=>False
def SM.fl(f:Fl):SM:=λm σ Q _=>Q f m σ
def CZ{α:Type}(f:α->SM)(m:Env)(Q:Fl->Env->H->Prop)(E:Env->H->Prop):α->H->Prop:=λa bP=>f a m bP Q E
def c9{α:Type}(x:Env->M α)(f:α->SM):SM:=λm σ Q E=>x m σ (CZ f m Q E)<|E m
def HZ(f:SM)(Q:Fl->Env->H->Prop)(E:Env->H->Prop):Fl->Env->H->Prop:=λfl m' bP=>match fl with| .next=>f m' bP Q E|fl=>Q fl m' bP
noncomputable def adJ {α:Type} (a b:α):Bool->α:=λr=>match r with|true=>a|false=>b
def l3(Q:V->H->Prop):Fl->Env->H->Prop:=λfl _ bP=>match fl with| .ret v=>Q v bP| .next=>Q (.p .none) bP| .cont=>False
def sH(E:H->Prop):Env->H->Prop:=λ_ bP=>E bP
noncomputable def ow:Env->List Nat->List V->Option Env
 |m,[],vs=>match vs with|[]=>aa m|_=>aj
 |m,i::is,vs=>match vs with|[]=>aj|v::vs=>ow (aN m i v) is vs
def SM.env(m':Option Env):SM:=λ_ σ Q _=>match m' with|some m'=>Q .next m' σ|none=>False
def AZ(hd:Bool)(is:List Nat)(v:V):SM:=λm=>match is with
 |[i]=>SM.env (aa<|aN m i v) m
 |_=>match hd with|false=>SM.env ((v.yg).bind λxs=>ow m is<|xs.map V.p) m|true=>SM.no m
def vQ(op:G3)(a b:V):M V:=match op with
 | .add=>match a.eX with
  |some x=>.aQ b.eX λy=>.ok<|it<|x+y
  |none=>.aQ a.slot λn=>.at λσ=>.aQ ((aW σ n).bind O.uV) λxs=>.aQ (jU σ b) λys=>.eD (xs.length+ys.length<=bZ)<| .bind (fP n<| .ls<|xs++ys) λ_=>.ok a
 | .iz=>.aQ a.eX λx=>.aQ b.eX λy=>.ok<|it<|x - y
 |_=>.no
def jf(f:P->SM):List P->SM
 |[]=>SM.fl .next
 |x::xs=>λm σ Q E=>f x m σ (λfl m' bP=>match fl with| .ret v=>Q (.ret v) m' bP|_=>jf f xs m' bP Q E) λ_ _=>False
def WQ(c:Env->M Bool)(f:SM):Nat->SM
 |0=>SM.no
 |k+1=>c9 c λb=>match b with
  |false=>SM.fl .next
  |true=>λm σ Q E=>f m σ (λfl m' bP=>match fl with| .ret v=>Q (.ret v) m' bP|_=>WQ c f k m' bP Q E) E
noncomputable def C0:Nat:=100000
noncomputable def V.zI (n:Nat):V->Bool| .ob k=>dk k n| .tm k=>dk k n|_=>ak
noncomputable def noRef (n:Nat):Env->Bool
 |[]=>ag
 |e::r=>match e.2.zI n with|true=>ak|false=>noRef n r
def zr(n:Nat):Fl->Bool| .ret v=>!v.zI n|_=>ag
def kO:O->Option P| .ls xs=>aa (.fl xs)| .dc es=>aa (ju es)|_=>aj
noncomputable def V.cY:V->Option Nat| .tm n=>aa n|_=>aj
def MN(jN r:V):Option V:=match jN.cY with
 |some n=>match r.slot with
  |some k=>(match dk k n with|true=>aa (.tm k)|false=>aj)
  |none=>aj
 |none=>aa r.g7
def letGo(i:Nat)(w:O->Option (Option V)):SM:=λm σ Q _=>match (av m i).bind V.cY with
 |some n=>match gb 9 n with
  |true=>False
  |false=>match (aW σ n).bind w with
   |some v=>match noRef n (cW m i)with
    |true=>Q .next (match v with|some v=>aN (cW m i) i v|none=>cW m i)<|aG σ n .free
    |false=>False
   |none=>False
 |none=>False
def G7(tI:H)(i:Nat)(v:V):SM:=λm σ Q _=>match v.slot with
 |some n=>match (aW tI n).map O.ig with
  |some ag=>Q .next (aN m i<| .tm n) σ
  |_=>False
 |none=>False
def mH(T:Ig)(σ:H):Bool:=match (aW σ dD).bind O.QA with
 |some e=>match T.cls e.1 with|some k=>k.d5&&k.mro.contains ou|none=>ak
 |none=>ak
def MP(m:Env):Option Nat->Env|some i=>cW m i|none=>m
mutual
def iR(C:Cx)(cf:Bool->V->List V->M V):S->SM
 | .nil=>SM.fl .next
 | .cons s r=>λm σ Q E=>iR C cf s m σ (HZ (iR C cf r) Q E) E
 | .ug i e=>c9 (λm=>eP C m e) λv=>λm=>SM.env (aa<|aN m i v.g7) m
 | .Qz o i e=>c9 (λm=>eP C m e) λv=>c9 (λm=>eP C m o) λo=>c9 (λ_=>setAttr C.T o i v) λ_=>SM.fl .next
 | .MI o k e=>c9 (λm=>eP C m e) λv=>c9 (λm=>eP C m o) λo=>c9 (λm=>eP C m k) λk=>c9 (λ_=>iA o k v) λ_=>SM.fl .next
 | .MJ is e=>match C.hd with
  |false=>c9 (λm=>eP C m e) λv=>λm=>SM.env ((v.yg).bind λxs=>ow m is<|xs.map V.p) m
  |true=>SM.no
 | .G4 i j a b=>match C.hd with
  |false=>c9 (λm=>eP C m a) λx=>c9 (λm=>eP C m b) λy=>λm=>SM.env (aa<|aN (aN m j y.g7) i x.g7) m
  |true=>SM.no
 | .cY i e=>λm σ=>c9 (λm=>eP C m e) (G7 σ i) m σ
 | .yR i=>letGo i λo=>(kO o).map λx=>aa<|V.p x
 | .drop i=>letGo i λo=>(kO o).map λ_=>aj
 | .EC i op e=>λm=>match av m i with
  |some jN=>c9 (λm=>eP C m e) (λv=>c9 (λ_=>vQ op jN.g7 v) λr=>λm=>SM.env ((MN jN r).map λw=>aN m i w) m) m
  |none=>SM.no m
 | .Co o i op e=>c9 (λm=>eP C m o) λov=>c9 (λ_=>getAttr C.T ov i) λjN=>c9 (λm=>eP C m e) λv=>
  c9 (λ_=>vQ op jN v) λr=>c9 (λ_=>setAttr C.T ov i r) λ_=>SM.fl .next
 | .expr e=>c9 (λm=>eP C m e) λ_=>SM.fl .next
 | .aan c a b=>c9 (λm=>rX C m c)<|adJ (iR C cf a)<|iR C cf b
 | .lg is it body=>match C.hd with
  |false=>c9 (λm=>eP C m it) λs=>λm σ Q E=>match s.pl.bind hX with
   |some xs=>jf (λx=>λm σ Q E=>AZ ak is (.p x) m σ (λ_ m' bP=>iR C cf body m' bP Q E) λ_ _=>False) xs m σ Q E
   |none=>False
  |true=>SM.no
 | .sG c body=>WQ (λm=>rX C m c) (iR C cf body) C0
 | .ret e=>c9 (λm=>eP C m e) λv=>SM.fl<| .ret v
 | .ML=>SM.fl<| .ret<| .p .none
 | .gL a b=>match C.hd with
  |false=>c9 (λm=>eP C m a) λx=>c9 (λm=>eP C m b) λy=>λm σ Q E=>match x.pl,y.pl,(aW σ dD).map O.ig with
   |some x,aa y,aa ag=>E m<|aG σ dD<| .jm ou [(6,y),(7,x)]
   |_,_,_=>False
  |true=>SM.no
 | .xo e=>c9 (λm=>eP C m e) λv=>λm σ Q E=>match v.slot with
  |some n=>match dk n dD&&C.hd&&mH C.T σ with|true=>E m σ|false=>False
  |none=>False
 | .vh body nm h=>λm σ Q E=>match (aW σ dD).map O.ig with
  |some ag=>iR C cf body m σ Q λm' bP=>match !C.hd&&mH C.T bP with
   |true=>iR {C with hd:=ag,call:=cf ag} cf h (match nm with|some i=>aN m' i (.ob dD)|none=>m') bP
    (λfl uY oy=>match noRef dD (MP uY nm)&&zr dD fl with
     |true=>Q fl (MP uY nm)<|aG oy dD .free
     |false=>False)
    λuY oy=>E (MP uY nm) oy
   |false=>False
  |_=>False
 | .ZV=>SM.fl .next
 | .cont=>SM.fl .cont
 | .dm=>SM.no
end
def oZ(F:aT)(args:List V):List V:=match gb F.params.length args.length with|true=>args.map V.g7|false=>args.map V.g7++F.tF.map V.p
def ba(T:Ig)(N:tH):Nat->Bool->V->List V->M V
 |0,_,_,_=>.no
 |d+1,hd,f,args=>.aQ f.pl λf=>match f with
  | .fn a=>.aQ (T.fn a) λF=>.aQ (ow [] F.params<|oZ F args) λm=>λσ Q E=>
   iR ⟨T,N,ba T N d hd,hd,3⟩ (ba T N d) F.body m σ (l3 Q) (sH E)
  | .cls c=>.aQ (T.cls c) λk=>.lS (!k.d5)<| .bind (match k.al with|[]=>LU (.iF c [])|z=>alloc z<| .iF c []) λo=>.bind (ba T N d hd (.p<| .fn k.init)<|o::args) λr=>.lS (j0 r)<| .ok o
  | .ty n=>WN hd n args
  | .bi n=>WO T hd n args
  |_=>.no
noncomputable def dx (n:Nat):Tx:=qz (motive:=λ_=>Nat->Tx) (λ_=>[]) (λ_ k n=>cond (dk n 0) []<|Nat.mod n 256::k (Nat.div n 256)) 99 n
noncomputable def X.l (l:List X):X:=fT (motive:=λ_=>X) .nil (λa _ r=>.cons a r) l
def X.t(l:List X):X:=.tuple<| .l l
def X.k(g:Nat)(l:List X):X:=.call (.fy g)<| .l l
def X.m(o:X)(i:Nat)(l:List X):X:=.vg o i<| .l l
noncomputable def X.w (t:Tx):X:=.val<| .str t
noncomputable def X.i (i:Int):X:=.val<| .int i
noncomputable def X.z:X:=.val .none
def X.o(l:List X):X:=.aam<| .l l
def X.u(l:List X):X:=.MG<| .l l
def X.L(z:List Nat)(l:List X):X:=.list z<| .l l
def X.D(z:List Nat)(l:List X):X:=.dict z<| .l l
noncomputable def S.l (l:List S):S:=fT (motive:=λ_=>S) .nil (λa _ r=>.cons a r) l
def S.K(g:Nat)(l:List X):S:=.expr<| .k g l
def S.I(c:X)(a:List S):S:=.aan c (.l a) .nil
def S.Y(c:X)(a b:List S):S:=.aan c (.l a)<| .l b
end
section
set_option genCtorIdx false
noncomputable def QC:Tx:=[115,101,116]
noncomputable def G8:Tx:=[97,100,100,114]
noncomputable def G9:Tx:=[108,111,97,100]
noncomputable def l9:Tx:=[101,108,115,101,105,102]
noncomputable def tJ:Tx:=[101,108,115,101]
noncomputable def nj:Tx:=[114,101,116,117,114,110]
noncomputable def cM:Tx:=[85,78,73,84]
noncomputable def EI:Tx:=[70,77,84]
noncomputable def ae4:Tx:=[97,114,114,97,121]
noncomputable def qJ:Tx:=[118,97,108,117,101]
noncomputable def pL:Tx:=[69,78,68]
noncomputable def cQ:Tx:=[69,82,82]
noncomputable def A8:Tx:=[115,116,111,114,101]
noncomputable def bU:Tx:=[73,79,83,84,65,84]
noncomputable def pD:Tx:=[106,117,109,112]
noncomputable def MQ:Tx:=[115,116,97,116]
noncomputable def MR:Tx:=[100,101,101,100]
noncomputable def MS:Tx:=[97,115,107]
noncomputable def vR:Tx:=[97,110,115,119,101,114]
noncomputable def nZ:Tx:=[97,110,115,119,101,114,101,100]
noncomputable def i8:Tx:=[111,112,101,110]
noncomputable def iB:Tx:=[99,108,111,115,101]
noncomputable def bm:Tx:=[105,110,113,117,105,114,101]
noncomputable def fW:Tx:=[98,97,99,107,115,112,97,99,101]
noncomputable def ka:Tx:=[114,101,119,105,110,100]
noncomputable def ke:Tx:=[101,110,100,102,105,108,101]
noncomputable def aj6:Tx:=dx 0x64726f772068637573206f6e
noncomputable def dV:Tx:=[70,73,76,69]
noncomputable def aj7:Tx:=dx 0x736b6e616c6220666f20656d616e2061
noncomputable def fL:Tx:=[65,67,67,69,83,83]
noncomputable def ch:Tx:=[83,69,81,85,69,78,84,73,65,76]
noncomputable def k6:Tx:=[70,79,82,77]
noncomputable def fG:Tx:=[70,79,82,77,65,84,84,69,68]
noncomputable def d6:Tx:=[85,78,70,79,82,77,65,84,84,69,68]
noncomputable def fH:Tx:=[82,69,67,76]
noncomputable def aj8:Tx:=dx 0x656e6f6e20726f202c73676e6f6c656220656e6f6e206572656877207364726f63657220666f206874676e656c2061
noncomputable def fY:Tx:=[68,73,82,69,67,84]
noncomputable def aj9:Tx:=dx 0x6d726f6620612074756f6874697720656c69662061206e6920736b6e616c62
noncomputable def gy:Tx:=[66,76,65,78,75]
noncomputable def aka:Tx:=dx 0x74726f7320726568746f6e6120666f20656c69662061
noncomputable def fK:Tx:=[83,67,82,65,84,67,72]
noncomputable def akb:Tx:=dx 0x73747369786520656c696620656874
noncomputable def EJ:Tx:=[78,69,87]
noncomputable def akc:Tx:=dx 0x74736978652074276e73656f6420656c696620656874
noncomputable def MT:Tx:=[79,76,68]
noncomputable def akd:Tx:=dx 0x64657463656e6e6f6320736920656c696620656874
noncomputable def agI:Tx:=dx 0x74696e752068637573206f6e
noncomputable def eW:Tx:=[83,84,65,84,85,83]
noncomputable def iJ:Tx:=[85,78,75,78,79,87,78]
noncomputable def vk:Tx:=[78,85,76,76]
noncomputable def ake:Tx:=dx 0x656d616e206f6e2073616820656c696620686374617263732061
noncomputable def agJ:Tx:=[70,79,82,84,46]
noncomputable def akf:Tx:=dx 0x74696e7520726568746f6e61206f742064657463656e6e6f6320736920656c696620656874
noncomputable def C3:Tx:=[75,69,69,80]
noncomputable def tK:Tx:=[68,69,76,69,84,69]
noncomputable def akg:Tx:=dx 0x7470656b2065622074276e616320656c696620686374617263732061
noncomputable def akh:Tx:=dx 0x64657463656e6e6f632074276e73692074696e7520656874
noncomputable def aki:Tx:=dx 0x73736563636120726568746f20656874
noncomputable def akj:Tx:=dx 0x656c69662065687420666f20646e652065687420646e69686562
noncomputable def agK:Tx:=[89,69,83]
noncomputable def xr:Tx:=[69,88,73,83,84]
noncomputable def tL:Tx:=[79,80,69,78,69,68]
noncomputable def tM:Tx:=[78,85,77,66,69,82]
noncomputable def EK:Tx:=[78,65,77,69,68]
noncomputable def C4:Tx:=[78,65,77,69]
noncomputable def qj:Tx:=[78,69,88,84,82,69,67]
noncomputable def A9:Tx:=[101,110,100,105,102]
noncomputable def ae5:Tx:=[108,97,98,101,108]
noncomputable def ahY:Tx:=[102,105,108,101]
noncomputable def vS:Tx:=[115,99,114,105,112,116]
noncomputable def uZ:Tx:=[99,111,110,115,116]
noncomputable def yj:Tx:=[118,97,114]
noncomputable def MU:Tx:=[79,68,68]
noncomputable def agL:Tx:=[78,69,87,32]
noncomputable def G':Tx:=[90,69,82,79]
noncomputable def dw:Tx:=[99,111,110,116,105,110,117,101]
section
open X renaming name->n,val->v,fy->g,yf->a,iz->s,aal->b,BO->c,cons->e,l->l,t->t,k->k,m->m,w->w,i->i,z->z,o->o,u->u,L->L,D->D
open S renaming ug->N,Qz->A,MI->J,MJ->T,ret->R,K->K,I->I,Y->Y
def NK:aT:=⟨[9,8,10,11],[],.l [A (n 9) 8<|n 8,A (n 9) 10<|n 10,A (n 9) 11<|n 11,A (n 9) 12<|L [11] [],A (n 9) 13<|i 0,A (n 9) 14<|L [12] [],A (n 9) 15<|D [] [],A (n 9) 16<|D [] [],A (n 9) 17 z,A (n 9) 18<|D [] [],A (n 9) 19<|L [] [],A (n 9) 20<|D [] []]⟩
def Jw:aT:=⟨[9],[],.l [.Co (n 9) 13 .add<|i 1,R<|b .iz (a (n 9) 13)<|i 1]⟩
def NL:aT:=⟨[9,22],[],.l [.expr<|m (a (n 9) 12) 0 [n 22]]⟩
def NM:aT:=⟨[24],[],.l [.expr<|m (a (n 24) 14) 0 [.neg<|i 1],R<|b .iz (k 25 [a (n 24) 14])<|i 1]⟩
def NO:aT:=⟨[24,26],[],.l [J (a (n 24) 14) (n 26)<|k 25 [a (n 24) 12]]⟩
def Cq:aT:=⟨[24,27],[],.l [I (c .vP (s (n 27)<|i 0)<|a (n 24) 8) [.dm],N 28<|s (a (n 24) 8)<|s (n 27)<|i 0,R<| .call (n 28)<|l [n 24,n 27]]⟩
def Ba:aT:=⟨[24,27],[],.l [I (c .vP (s (n 27)<|i 0)<|a (n 24) 10) [.dm],N 28<|s (a (n 24) 10)<|s (n 27)<|i 0,R<| .call (n 28)<|l [n 24,n 27]]⟩
def Jx:aT:=⟨[24,30,31],[],.l [N 29<|m (n 24) 21 [],.expr<|m (n 24) 23 [t [w QC,n 29,n 30,n 31]],R<|n 29]⟩
def Ha:aT:=⟨[24,27],[],.l [N 29<|m (n 24) 21 [],.expr<|m (n 24) 23 [t [w G8,n 29,s (n 27)<|i 2]],R<|n 29]⟩
def Hb:aT:=⟨[24,27],[],.l [R<|k 32 [n 24,s (n 27)<|i 1,s (n 27)<|i 2]]⟩
def Dm:aT:=⟨[24,27],[],.l [N 33<|k 34 [n 24,n 27],N 29<|m (n 24) 21 [],.expr<|m (n 24) 23 [t [w G9,n 29,n 33]],R<|n 29]⟩
def Hc:S:=.l [J (n 35) (n 36)<|s (n 37)<|n 36]
def Hd:S:=.l [.lg [36] (n 37) Hc]
def NP:aT:=⟨[38],[],.l [.cY 35<|D [3] [],.lg [37] (n 38) Hd,.yR 35,R<|n 35]⟩
def yT:aT:=⟨[9,12,13,15,18],[],.l [A (n 9) 12<|n 12,A (n 9) 13<|n 13,A (n 9) 15<|n 15,A (n 9) 18<|n 18]⟩
def gV:S:=.l [N 41<|s (n 22)<|b .add (n 42)<|i 1,Y (c .eq (s (n 39)<|n 42)<|w [106]) [.expr<|m (n 35) 0 [n 41]] [Y (c .eq (s (n 39)<|n 42)<|w [74]) [.dm] [Y (c .eq (s (n 39)<|n 42)<|w [80]) [.dm] [I (c .eq (s (n 39)<|n 42)<|w [68]) [.EC 35 .add<|s (n 41)<|i 1]]]]]
def NQ:aT:=⟨[22],[],.l [.cY 35<|L [3] [],N 39<|s (g 40)<|s (n 22)<|i 0,.lg [42] (k 43 [k 25 [n 39]]) gV,.yR 35,R<|n 35]⟩
def fQ:S:=.l [N 41<|s (n 22)<|b .add (n 42)<|i 1,Y (c .eq (s (n 39)<|n 42)<|w [106]) [N 41<|s (n 46)<|n 45,.EC 45 .add<|i 1] [Y (c .eq (s (n 39)<|n 42)<|w [74]) [.dm,.dm] [Y (c .eq (s (n 39)<|n 42)<|w [80]) [.dm,.dm] [I (c .eq (s (n 39)<|n 42)<|w [68]) [N 41<|t [s (n 41)<|i 0,.CW (n 46) (n 45)<|b .add (n 45)<|k 25 [s (n 41)<|i 1],s (n 41)<|i 2],.EC 45 .add<|k 25 [s (n 41)<|i 1]]]]],.expr<|m (n 44) 0 [n 41]]
def He:aT:=⟨[22,46],[],.l [N 39<|s (g 40)<|s (n 22)<|i 0,.cY 44<|L [4] [s (n 22)<|i 0],N 45<|i 0,.lg [42] (k 43 [k 25 [n 39]]) fQ,.yR 44,R<|k 47 [n 44]]⟩
def NR:aT:=⟨[30],[],.l [I (c .eq (n 30)<|g 48) [R<|i 0],I (o [c .eq (n 30)<|g 49,c .eq (n 30)<|g 50]) [R<|i 2],R<|i 1]⟩
def Cr:aT:=⟨[24,42,51],[],.l [I (c .vP (s (n 51)<|i 0)<|a (n 24) 11) [.dm],N 28<|s (a (n 24) 11)<|s (n 51)<|i 0,.expr<| .call (n 28)<|l [n 24,n 42,n 51]]⟩
def Bb:aT:=⟨[24,52],[],.l [I (c .vP (n 52)<|a (a (n 24) 17) 53) [.dm],R<|s (a (n 24) 19)<|s (a (a (n 24) 17) 53)<|n 52]⟩
def Cs:aT:=⟨[24,42,51],[],.l [R z]⟩
def mR:S:=.l [I (c .jh (s (s (s (n 11)<|n 42)<|i 1)<|i 0)<|t [w l9,w tJ]) [.dm]]
def mS:S:=.l [K 56 [n 24,s (a (n 24) 19)<|n 42],K 57 [n 24,n 42,s (s (n 11)<|n 42)<|i 1],.lg [58] (m (a (n 17) 59) 3 [n 42,L [] []])<| .l [.dm]]
def Ct:aT:=⟨[24,11,17],[],.l [A (n 24) 17<|n 17,A (n 24) 19<| .kr (k 54 [n 24]) 55 (n 11)<|l [],.lg [42] (k 43 [k 25 [n 11]]) mR,.lg [42] (k 43 [k 25 [n 11]]) mS,.expr<|m (n 24) 23 [t [w nj,.neg<|i 1]]]⟩
def QD:aT:=⟨[24,18],[],.l [N 12<| .kr (k 60 [n 22,.kr (s (a (n 24) 14)<|n 26) 26 (k 61 [n 22])<|l []]) 22 (.ji<|a (n 24) 12)<|l [],N 15<|D [] [],.lg [62] (a (n 24) 15)<| .l [.dm,.dm],R<|k 63 [n 12,a (n 24) 13,n 15,n 18]]⟩
def QE:aT:=⟨[24,36,13,14,65],[],.l [.expr<|m (n 24) 23 [t [w [105,111],n 36,t [n 13,k 64 [n 14],n 65]]]]⟩
def QF:aT:=⟨[24,36,27],[],.l [I (u [c .eq (n 36)<|w cM,c .eq (s (n 27)<|i 1)<|g 48]) [.dm],I (u [c .eq (n 36)<|w EI,c .ne (s (n 27)<|i 1)<|g 48]) [.dm],I (u [c .eq (n 36)<|w EI,c .eq (s (n 27)<|i 0)<|w ae4]) [.dm],R<|t [w qJ,k 66 [n 24,n 27]]]⟩
def jv:S:=.l [N 27<|s (n 69)<|n 36,Y (o [c .jh (n 36)<|g 70,c .eq (n 27)<|w [42]]) [J (n 68) (n 36)<|n 27] [Y (u [c .eq (n 36)<|w EI,k 71 [n 27,g 72]]) [.dm] [T [73,29]<|k 74 [n 24,n 36,n 27],.expr<|m (n 13) 0 [n 29],.expr<|m (n 67) 0 [t [n 36,n 73]]]]]
def Bc:aT:=⟨[24,69,75],[],.l [.cY 13<|L [5] [],.cY 67<|L [6] [],.cY 68<|D [7] [],.lg [36] (n 75) jv,.yR 13,.yR 67,.yR 68,R<|t [n 13,n 67,n 68]]⟩
def QG:aT:=⟨[24,69],[],.l [N 53<| .kr (s (n 69)<|n 36) 36 (t [w pL,w cQ])<|l [c .jh (n 36)<|n 69],R<|t [n 53,b .add (L [] [k 54 [n 24]])<| .kr (k 54 [n 24]) 55 (n 53)<|l []]]⟩
def lT:S:=.l [K 56 [n 24,s (n 14)<|n 80],I (c .jh (w bU)<|n 69) [K 81 [n 24,w MQ,L [] [k 34 [n 24,s (n 69)<|w bU]],L [] [],z]],.expr<|m (n 24) 23 [t [w pD,s (n 78)<|n 80]]]
def vG:aT:=⟨[24,69,53,14],[],.l [N 76<|k 54 [n 24],I (c .jh (w bU)<|n 69) [.expr<|m (n 24) 23 [t [w A8,k 34 [n 24,s (n 69)<|w bU],k 32 [n 24,g 77,i 0]]]],.expr<|m (n 24) 23 [t [w pD,n 76]],N 78<|b .add (L [] [n 76])<| .kr (k 79 [n 24,n 52]) 52 (n 53)<|l [],.lg [80] (k 43 [k 25 [n 14]]) lT,K 56 [n 24,n 76]]⟩
def Jy:aT:=⟨[24,42,51],[],.l [T [53,14]<|k 82 [n 24,s (n 51)<|i 1],T [13,67,68]<|k 83 [n 24,s (n 51)<|i 1,k 64 [s (n 51)<|i 1]],K 81 [n 24,w MR,n 13,n 14,t [s (n 51)<|i 0,n 67,n 68,n 53]],K 84 [n 24,s (n 51)<|i 1,n 53,n 14]]⟩
def rp:S:=.l [I (c .vP (n 36)<|g 85) [K 81 [n 24,w vR,L [] [k 34 [n 24,s (n 69)<|n 36]],L [] [],n 36]]]
def Cu:aT:=⟨[24,42,51],[],.l [N 69<|s (n 51)<|i 1,T [53,14]<|k 82 [n 24,n 69],T [13,67,68]<|k 83 [n 24,n 69,.kr (n 36) 36 (n 69)<|l [c .jh (n 36)<|g 85]],K 81 [n 24,w MS,n 13,n 14,t [n 67,n 68,n 53]],.lg [36] (n 69) rp,K 81 [n 24,w nZ,L [] [],L [] [],z],K 84 [n 24,n 69,n 53,n 14]]⟩
def Hf:aT:=⟨[],[],.l [R<|D [] [e (w i8)<|g 86,e (w iB)<|g 86,e (w bm)<|g 87,e (w fW)<|g 86,e (w ka)<|g 86,e (w ke)<|g 86]]⟩
def yU:aT:=⟨[9,62,88,89,90],[],.l [A (n 9) 62<|n 62,A (n 9) 88<|n 88,A (n 9) 89<|n 89,A (n 9) 90<|n 90,A (n 9) 91<|L [] [],A (n 9) 92<|D [] []]⟩
def rY:aT:=⟨[9],[],.l [A (n 9) 93<| .CU [29,33]]⟩
def yV:aT:=⟨[9,94,95,96],[],.l [A (n 9) 94<|n 94,A (n 9) 95<|n 95,A (n 9) 96<|n 96,A (n 9) 33<|i 0]⟩
def Jz:aT:=⟨[75,97,98,100],[],.l [N 6<|m (m (n 75) 3 [n 97,n 98]) 4 [w [32]],I (c .vP (n 6)<|n 100) [.gL (g 99)<|w aj6],R<|n 6]⟩
def JA:aT:=⟨[75],[],.l [I (c .vP (w dV)<|n 75) [R z],N 62<|m (s (n 75)<|w dV) 4 [w [32]],I (c .eq (n 62)<|w []) [.gL (g 101)<|w aj7],R<|n 62]⟩
def t6:aT:=⟨[75],[],.l [N 88<|k 102 [n 75,w fL,w ch,g 103],N 89<|k 102 [n 75,w k6,.ite (c .eq (n 88)<|w ch) (w fG)<|w d6,g 104],N 90<|m (n 75) 3 [w fH,i 0],I (o [c .ne (c .eq (n 88)<|w fY)<|c .gt (n 90)<|i 0,u [c .jh (w fH)<|n 75,c .lt (n 90)<|i 1]]) [.gL (g 99)<|w aj8],I (u [c .jh (w gy)<|n 75,c .eq (n 89)<|w d6]) [.gL (g 99)<|w aj9],R<|t [n 88,n 89,n 90]]⟩
def Hg:aT:=⟨[95,106],[],.l [I (c .ne (t [a (n 95) 88,a (n 95) 89,a (n 95) 90])<|n 106) [.gL (g 105)<|w aka]]⟩
def rq:S:=.l [I (c .eq (a (a (s (n 107)<|n 94) 95) 62)<|n 62) [R<|s (n 107)<|n 94]]
def Cv:aT:=⟨[107,62],[],.l [.lg [94] (k 108 [n 107]) rq,R z]⟩
def Hh:aT:=⟨[113,62,110,106],[],.l [I (c .eq (n 110)<|w fK) [R<|k 109 [w [],s (n 106)<|i 0,s (n 106)<|i 1,s (n 106)<|i 2]],I (c .jh (n 62)<|a (n 113) 93) [I (c .eq (n 110)<|w EJ) [.gL (g 111)<|w akb],K 112 [s (a (n 113) 93)<|n 62,n 106],R<|s (a (n 113) 93)<|n 62],I (c .eq (n 110)<|w MT) [.gL (g 114)<|w akc],J (a (n 113) 93) (n 62)<|k 109 [n 62,s (n 106)<|i 0,s (n 106)<|i 1,s (n 106)<|i 2],R<|s (a (n 113) 93)<|n 62]⟩
def Hi:aT:=⟨[116,75,110,106],[],.l [I (o [c .eq (n 110)<|w EJ,c .eq (n 110)<|w fK]) [.gL (g 115)<|w akd],K 112 [a (n 116) 95,n 106],A (n 116) 96<|k 102 [n 75,w gy,a (n 116) 96,g 117],R<|n 116]⟩
def pM:aT:=⟨[113,107,94,75],[],.l [I (c .lt (n 94)<|i 0) [.gL (g 118)<|w agI],N 110<|k 102 [n 75,w eW,w iJ,g 119],N 106<|k 120 [n 75],N 96<|k 102 [n 75,w gy,w vk,g 117],N 62<|k 121 [n 75],I (u [c .eq (n 110)<|w fK,c .Ie (n 62) z]) [.gL (g 101)<|w ake],N 116<|m (n 107) 3 [n 94],I (u [c .Ie (n 116) z,o [c .WK (n 62) z,c .eq (n 62)<|a (a (n 116) 95) 62]]) [R<|k 122 [n 116,n 75,n 110,n 106]],I (c .WK (n 62) z) [N 62<|b .add (w agJ)<|k 123 [n 94]],I (u [c .ne (n 110)<|w fK,c .Ie (k 124 [n 107,n 62]) z]) [.gL (g 115)<|w akf],N 95<|k 125 [n 113,n 62,n 110,n 106],J (n 107) (n 94)<|k 126 [n 94,n 95,n 96],R<|s (n 107)<|n 94]⟩
def xt:aT:=⟨[113,107,94,110],[],.l [I (c .lt (n 94)<|i 0) [.gL (g 118)<|w agI],I (c .Ie (n 110) z) [N 110<|k 102 [D [] [e (w eW)<|n 110],w eW,w [],t [w C3,w tK]]],I (c .vP (n 94)<|n 107) [.ML],N 95<|a (s (n 107)<|n 94) 95,I (u [c .eq (a (n 95) 62)<|w [],c .eq (n 110)<|w C3]) [.gL (g 99)<|w akg],I (u [c .ne (a (n 95) 62)<|w [],c .eq (n 110)<|w tK]) [.expr<|m (a (n 113) 93) 1 [a (n 95) 62]],.expr<|m (n 107) 1 [n 94]]⟩
def QH:aT:=⟨[107,94],[],.l [I (c .vP (n 94)<|n 107) [.gL (g 127)<|w akh],R<|s (n 107)<|n 94]⟩
def Dn:aT:=⟨[116,88],[],.l [I (c .ne (a (a (n 116) 95) 88)<|n 88) [.gL (g 105)<|w aki]]⟩
def NS:aT:=⟨[116],[],.l [K 128 [n 116,w ch],I (c .gt (a (n 116) 33)<|k 25 [a (a (n 116) 95) 91]) [.gL (g 129)<|w akj],A (a (n 116) 95) 91<| .zq (a (a (n 116) 95) 91)<|a (n 116) 33]⟩
def QI:aT:=⟨[116],[],.l [K 130 [n 116],.Co (n 116) 33 .add<|i 1]⟩
def JB:aT:=⟨[116],[],.l [K 128 [n 116,w ch],I (c .gt (a (n 116) 33)<|i 0) [.Co (n 116) 33 .iz<|i 1]]⟩
def XX:aT:=⟨[116],[],.l [K 128 [n 116,w ch],A (n 116) 33<|i 0]⟩
def XY:aT:=⟨[131],[],.l [R<| .ite (n 131) (w agK)<|w [78,79]]⟩
def QJ:aT:=⟨[116],[],.l [N 95<|a (n 116) 95,N 132<|c .eq (a (n 95) 88)<|w fY,N 133<|c .eq (a (n 95) 89)<|w fG,R<|D [] [e (w xr)<|v<| .bool ag,e (w tL)<|v<| .bool ag,e (w tM)<|a (n 116) 94,e (w EK)<|c .ne (a (n 95) 62)<|w [],e (w C4)<|o [a (n 95) 62,z],e (w fL)<|a (n 95) 88,e (w ch)<|k 134 [.EB<|n 132],e (w fY)<|k 134 [n 132],e (w k6)<|a (n 95) 89,e (w fG)<|k 134 [n 133],e (w d6)<|k 134 [.EB<|n 133],e (w fH)<| .ite (n 132) (a (n 95) 90) z,e (w qj)<| .ite (n 132) (b .add (a (n 116) 33)<|i 1) z,e (w gy)<| .ite (n 133) (a (n 116) 96) z]]⟩
def yN:S:=.l [J (n 135) (n 36) z]
def Cw:aT:=⟨[136,62],[],.l [.cY 135<|D [8] [e (w xr)<|n 136,e (w tL)<|v<| .bool ak,e (w EK)<|c .Ie (n 62) z,e (w C4)<|n 62],.lg [36] (t [w tM,w fL,w ch,w fY,w k6,w fG,w d6,w fH,w qj,w gy]) yN,.yR 135,R<|n 135]⟩
def Cy:aT:=⟨[107,94],[],.l [I (c .jh (n 94)<|n 107) [R<|k 137 [s (n 107)<|n 94]],R<|k 138 [c .ge (n 94)<|i 0,z]]⟩
def Cz:aT:=⟨[113,107,62],[],.l [N 62<|k 121 [D [] [e (w dV)<|n 62]],N 116<|k 124 [n 107,n 62],I (c .Ie (n 116) z) [R<|k 137 [n 116]],R<|k 138 [c .jh (n 62)<|a (n 113) 93,n 62]]⟩
def Dp:aT:=⟨[69],[],.l [R<| .CX (n 36) (s (n 69)<|n 36) 36 (n 69)<|l [c .vP (n 36)<|t [w cM,w bU,w cQ,w pL]]]⟩
def QK:aT:=⟨[140,36,69],[],.l [I (c .eq (n 36)<|w bm) [I (c .jh (w dV)<|n 69) [R<|k 139 [a (n 140) 113,a (n 140) 107,s (n 69)<|w dV]],R<|k 141 [a (n 140) 107,s (n 69)<|w cM]],N 94<|s (n 69)<|w cM,Y (c .eq (n 36)<|w i8) [K 142 [a (n 140) 113,a (n 140) 107,n 94,k 143 [n 69]]] [Y (c .eq (n 36)<|w iB) [K 144 [a (n 140) 113,a (n 140) 107,n 94,m (n 69) 3 [w eW]]] [Y (c .eq (n 36)<|w fW) [K 145 [k 146 [a (n 140) 107,n 94]]] [Y (c .eq (n 36)<|w ka) [K 147 [k 146 [a (n 140) 107,n 94]]] [K 148 [k 146 [a (n 140) 107,n 94]]]]]],R<|D [] []]⟩
def yW:aT:=⟨[9],[],.l [A (n 9) 53<|D [14] [],A (n 9) 149<|D [] [],A (n 9) 150<|D [] [],A (n 9) 151<|D [] [],A (n 9) 59<|D [] []]⟩
def Hj:aT:=⟨[17,52,42],[],.l [I (c .eq (n 52)<|i 0) [.ML],I (c .jh (n 52)<|a (n 17) 53) [.dm],J (a (n 17) 53) (n 52)<|n 42]⟩
def JC:aT:=⟨[17,16,152,52,42],[],.l [.sG (u [n 16,c .ne (n 52)<|i 0,c .eq (s (s (n 16)<| .neg<|i 1)<|i 0)<|n 52])<| .l [.dm,.dm,.dm,.dm,.dm]]⟩
def t7:S:=.l [N 52<|s (s (n 11)<|n 42)<|i 0,N 51<|s (s (n 11)<|n 42)<|i 1,K 154 [n 17,n 52,n 42],Y (c .eq (s (n 51)<|i 0)<|w [105,102]) [.dm] [Y (c .jh (s (n 51)<|i 0)<|t [w l9,w tJ,w A9]) [.dm] [I (c .eq (s (n 51)<|i 0)<|w [100,111]) [.dm,.dm]]],K 155 [n 17,n 16,n 152,n 52,n 42]]
def QL:aT:=⟨[11],[],.l [N 17<|k 153 [],N 152<|L [] [],N 16<|L [] [],.lg [42] (k 43 [k 25 [n 11]]) t7,I (n 152) [.dm],I (n 16) [.dm],R<|n 17]⟩
def pZ:aT:=⟨[9,156,157],[],.l [A (n 9) 156<| .dR [22,25] (L [] [z])<|n 156,A (n 9) 157<| .dR [23,26] (L [] [z])<|n 157]⟩
def Dq:aT:=⟨[9,33],[],.l [I (c .eq (s (n 33)<|i 0)<|g 48) [R<|k 158 [a (n 9) 157,s (n 33)<|i 1,s (n 33)<|i 2]],R<|k 159 [a (n 9) 156,s (n 33)<|i 0,s (n 33)<|i 1]]⟩
def CA:aT:=⟨[9,33,31],[],.l [Y (c .eq (s (n 33)<|i 0)<|g 48) [K 161 [a (n 9) 157,s (n 33)<|i 1,k 162 [n 31,s (n 33)<|i 2]]] [K 163 [a (n 9) 156,s (n 33)<|i 0,s (n 33)<|i 1,n 31]]]⟩
def Hk:aT:=⟨[166,164,165],[],.l [I (o [c .lt (n 164)<|i 0,c .gt (b .add (n 164)<|n 165)<|k 25 [n 166]]) [.dm]]⟩
def JD:aT:=⟨[166,164,168],[],.l [N 167<|s (n 166)<|n 164,I (o [c .WK (n 167) z,c .ne (s (n 167)<|i 0)<|n 168]) [.dm],R<|s (n 167)<|i 1]⟩
def Dr:aT:=⟨[166,30,164],[],.l [K 169 [n 166,n 164,k 170 [n 30]],I (c .eq (n 30)<|g 50) [.dm],N 31<|k 171 [n 166,n 164,n 30],I (c .eq (n 30)<|g 49) [.dm],R<|n 31]⟩
def CB:aT:=⟨[166,30,164,31],[],.l [K 169 [n 166,n 164,k 170 [n 30]],I (c .eq (n 30)<|g 50) [.dm,.dm,.dm],J (n 166) (n 164)<|t [n 30,n 31],I (c .eq (n 30)<|g 49) [.dm]]⟩
def JE:aT:=⟨[166,164,90],[],.l [K 169 [n 166,n 164,n 90],N 172<| .CW (n 166) (n 164)<|b .add (n 164)<|n 90,I (c .jh z<|n 172) [.dm],R<|m (w []) 5 [n 172]]⟩
def uh:S:=.l [J (n 166) (b .add (n 164)<|n 80)<|s (n 6)<|n 80]
def Hl:aT:=⟨[166,164,6],[],.l [K 169 [n 166,n 164,k 25 [n 6]],.lg [80] (k 43 [k 25 [n 6]]) uh]⟩
def ahZ:aT:=⟨[6,90],[],.l [R<|b .add (.zq (n 6)<|n 90)<|b .mul (w [32])<|b .iz (n 90)<|k 25 [n 6]]⟩
def JF:aT:=⟨[173],[],.l [R<|a (n 173) 7]⟩
def QM:aT:=⟨[173,69],[],.l [N 36<| .ite (k 71 [n 173,g 174]) (w pL)<|w cQ,I (c .jh (n 36)<|n 69) [R<|s (n 69)<|n 36],I (c .jh (w bU)<|n 69) [R<|i 0],.xo<|n 173]⟩
def Hm:aT:=⟨[175,73,31,18,176],[],.l [I (c .eq (n 73)<|w ae5) [.dm],I (c .eq (n 73)<|w qJ) [R<|n 31],.dm,.dm,.dm,.dm]⟩
def gK:S:=.l [T [36,73]<|s (n 67)<|n 80,I (c .eq (n 73)<|w ahY) [.dm],J (n 69) (n 36)<|k 177 [n 175,n 73,s (n 178)<|n 80,n 18,n 176]]
def Hn:aT:=⟨[175,178,67,68,18,176],[],.l [.cY 69<| .CV [2]<|n 68,N 95 z,.lg [80] (k 43 [k 25 [n 67]]) gK,.yR 69,R<|t [n 69,n 95]]⟩
def Ii:aT:=⟨[175,173,69,53],[],.l [N 52<|k 179 [n 173,n 69],I (c .jh (w bU)<|n 69) [.expr<|m (a (n 175) 180) 0 [k 181 [n 173]]],I (c .eq (n 52)<|i 0) [R<|i 0],R<|b .add (i 1)<|m (n 53) 2 [n 52]]⟩
def QN:aT:=⟨[175,178,65],[],.l [.expr<|m (a (n 175) 182) 113 [s (n 178)<|i 0,m (a (n 175) 180) 1 []],R<| .neg<|i 1]⟩
def QO:aT:=⟨[175,178,65],[],.l [T [36,67,68,53]<|n 65,N 69<|s (k 183 [n 175,n 178,n 67,n 68,D [] [],v<| .bool ak])<|i 0,.vh (.l [K 184 [a (n 175) 140,n 36,n 69]]) (aa 173)<| .l [R<|k 185 [n 175,n 173,n 69,n 53]],R<| .neg<|i 1]⟩
def XZ:aT:=⟨[175,178,65],[],.l [T [67,68,53]<|n 65,N 69<|s (k 183 [n 175,n 178,n 67,n 68,D [] [],v<| .bool ak])<|i 0,.vh (.l [N 186<|k 184 [a (n 175) 140,w bm,n 69]]) (aa 173)<| .l [R<|k 185 [n 175,n 173,n 69,n 53]],.expr<|m (a (n 175) 180) 0 [n 186],R<| .neg<|i 1]⟩
def JG:aT:=⟨[175,178,65],[],.l [N 31<|m (s (a (n 175) 180)<| .neg<|i 1) 3 [n 65],I (c .Ie (n 31) z) [.expr<|m (a (n 175) 182) 113 [s (n 178)<|i 0,n 31]],R<| .neg<|i 1]⟩
def Ds:aT:=⟨[175,178,65],[],.l [.expr<|m (a (n 175) 180) 1 [],R<| .neg<|i 1]⟩
def NT:aT:=⟨[],[],.l [R<|D [] [e (w MR)<|g 187,e (w MS)<|g 188,e (w vR)<|g 189,e (w nZ)<|g 190,e (w MQ)<|g 191]]⟩
def mT:aT:=⟨[9,192,193,194,195,196,197,198,199],[.int 32,.int 7,.int 15,.int 38,.int 1000000,.int 19,.int 72,.int 40],.l [A (n 9) 192<|n 192,A (n 9) 193<|n 193,A (n 9) 194<|n 194,A (n 9) 195<|n 195,A (n 9) 196<|n 196,A (n 9) 197<|n 197,A (n 9) 198<|n 198,A (n 9) 199<|n 199]⟩
def ui:aT:=⟨[9,182,200,201,202],[],.l [A (n 9) 182<|n 182,A (n 9) 200<|n 200,A (n 9) 201<|n 201,A (n 9) 202<|n 202,A (n 9) 12<|D [] [],A (n 9) 203<|D [] [],A (n 9) 204<|D [] [],A (n 9) 206<|g 205,A (n 9) 140 z,A (n 9) 207<|D [] [],A (n 9) 208<|D [] [],A (n 9) 10<|D [] [],A (n 9) 107<|D [] [],A (n 9) 209<|L [] [],A (n 9) 180<|L [16] [],A (n 9) 196<|i 0]⟩
def yX:aT:=⟨[9,7,210],[],.l [A (n 9) 7<|n 7,A (n 9) 210<|n 210,A (n 9) 13<| .dR [18] (L [] [z])<|a (n 7) 13,A (n 9) 166<|D [] [],A (n 9) 211<|L [] []]⟩
def xu:S:=.l [.Co (n 175) 196 .add<|i 1,I (c .gt (a (n 175) 196)<|a (a (n 175) 200) 196) [.dm],N 22<|s (n 12)<|n 42,I (c .vP (s (n 22)<|i 0)<|a (n 175) 12) [.dm],N 35<| .call (s (a (n 175) 12)<|s (n 22)<|i 0)<|l [n 175,n 212,n 22],Y (c .WK (n 35) z) [.EC 42 .add<|i 1] [Y (k 71 [n 35,g 47]) [R<|s (n 35)<|i 1] [N 42<|n 35]]]
def NU:aT:=⟨[175,212,58],[],.l [N 42<|n 58,N 12<|a (a (n 212) 7) 12,.sG (c .lt (n 42)<|k 25 [n 12]) xu,.dm]⟩
def X0:aT:=⟨[175,212,22],[],.l [J (a (n 212) 13) (s (n 22)<|i 1)<|s (n 22)<|i 3]⟩
def QP:aT:=⟨[175,212,22],[],.l [N 35<|m (a (n 212) 210) 3 [s (n 22)<|i 2],I (.EB<|k 71 [n 35,g 47]) [.dm],J (a (n 212) 13) (s (n 22)<|i 1)<|n 35]⟩
def QQ:aT:=⟨[175,212,22],[],.l [J (a (n 212) 13) (s (n 22)<|i 1)<|m (a (n 175) 182) 160 [s (a (n 212) 13)<|s (n 22)<|i 2]]⟩
def NV:aT:=⟨[175,212,22],[],.l [.expr<|m (a (n 175) 182) 113 [s (a (n 212) 13)<|s (n 22)<|i 1,s (a (n 212) 13)<|s (n 22)<|i 2]]⟩
def QR:aT:=⟨[175,212,22],[],.l [R<|s (n 22)<|i 1]⟩
def JH:aT:=⟨[175,212,22],[],.l [R<|t [w nj,.ite (c .ge (s (n 22)<|i 1)<|i 0) (s (a (n 212) 13)<|s (n 22)<|i 1)<|i 0]]⟩
def aaz:aT:=⟨[175,212,22],[],.l [T [13,10,65]<|s (n 22)<|i 2,I (c .vP (s (n 22)<|i 1)<|a (n 175) 204) [.dm],N 35<| .call (s (a (n 175) 204)<|s (n 22)<|i 1)<|l [n 175,.kr (s (a (n 212) 13)<|n 29) 29 (n 13)<|l [],n 65],R<| .ite (c .ge (n 35)<|i 0) (s (n 10)<|n 35) z]⟩
def r8:aT:=⟨[9,213,113],[],.l [A (n 9) 214<|n 213,A (n 9) 42<|i 0,A (n 9) 215<|L [] [],A (n 9) 113<|n 113,A (n 9) 107<| .CU [30,34],A (n 9) 216<|D [] []]⟩
def Dt:aT:=⟨[],[],.l [R<|L [] [t [w xr,i 4,w [69]],t [w tL,i 4,w [79]],t [w tM,i 0,w [78]],t [w fH,i 0,w [82]],t [w qj,i 0,w [84]],t [w fL,i 5,w [65]],t [w C4,i 5,w [70]],t [w gy,i 5,w [65]]]]⟩
def JI:aT:=⟨[],[],.l [R<|L [] [i 2,i 0,i 0,i 0,i 1,i 0,i 0,i 0,i 1,i 0,i 0,i 0,i 5,i 0,i 0,i 0,i 0,i 4,i 0,i 0,i 0,i 1,i 2]]⟩
def BP:aT:=⟨[217,219],[],.l [N 42<|s (n 217)<|w [97,116],J (n 217) (w [97,116])<|b .add (n 42)<|i 1,N 218<|s (n 217)<|w vS,I (c .lt (n 42)<|k 25 [n 218]) [R<|b .mod (s (n 218)<|n 42)<|n 219],R<|b .mod (.ite (c .lt (n 42)<|k 25 [k 220 []]) (s (k 220 [])<|n 42)<|b .add (b .add (b .mul (i 3)<|n 42)<|b .fdiv (n 42)<|i 5)<|i 1)<|n 219]⟩
def NW:aT:=⟨[6],[],.l [R<|t [w uZ,i 5,n 6]]⟩
def NX:aT:=⟨[217],[],.l [N 221<|k 222 [n 217,i 6],I (c .eq (n 221)<|i 5) [R<|t [w yj,i 0,w [82]]],R<|t [w uZ,i 0,s (L [] [i 1,i 2,i 3,i 1,.neg<|i 1])<|n 221]]⟩
def i9:aT:=⟨[217,69],[],.l [I (c .gt (k 222 [n 217,i 3])<|i 0) [J (n 69) (w dV)<|s (L [] [k 223 [w [80]],k 223 [w [81,32]],t [w yj,i 5,w [70]],k 223 [w [32]]])<|k 222 [n 217,i 4]],N 221<|k 222 [n 217,i 8],I (c .gt (n 221)<|i 0) [J (n 69) (w eW)<|k 223 [s (L [] [w MT,w EJ,w fK,w iJ,w MU,w agL,w iJ])<|b .iz (n 221)<|i 1]],N 221<|k 222 [n 217,i 4],I (c .eq (n 221)<|i 1) [J (n 69) (w fL)<|k 223 [w fY],J (n 69) (w fH)<|t [w uZ,i 0,i 8]],I (c .eq (n 221)<|i 2) [J (n 69) (w k6)<|k 223 [s (L [] [w d6,w fG])<|k 222 [n 217,i 2]]],I (c .eq (n 221)<|i 3) [J (n 69) (w gy)<|k 223 [s (L [] [w G',w vk,w MU])<|k 222 [n 217,i 3]]]]⟩
def jw:S:=.l [T [62,30,33]<|s (k 228 [])<|b .mod (b .add (n 227)<|n 80)<|i 8,J (n 69) (n 62)<|t [w yj,n 30,n 33]]
def dP:aT:=⟨[217,53],[],.l [N 36<|s (L [] [w i8,w i8,w iB,w bm,w i8,w bm,w ka,w fW,w ke])<|k 222 [n 217,i 9],.cY 69<|D [2] [e (w cM)<|k 224 [n 217]],N 225<|k 222 [n 217,i 4],I (c .eq (b .mod (n 225)<|i 2)<|i 0) [J (n 69) (w bU)<|t [w yj,i 0,w [83]]],I (c .gt (n 225)<|i 1) [J (n 69) (w cQ)<|s (n 53)<|k 222 [n 217,k 25 [n 53]]],I (c .eq (n 36)<|w i8) [K 226 [n 217,n 69]],I (u [c .eq (n 36)<|w iB,c .eq (k 222 [n 217,i 2])<|i 1]) [J (n 69) (w eW)<|k 223 [s (L [] [w C3,w tK,w MU])<|k 222 [n 217,i 3]]],I (c .eq (n 36)<|w bm) [I (c .eq (k 222 [n 217,i 3])<|i 2) [.drop 69,.cY 69<|D [2] [e (w dV)<|s (L [] [k 223 [w [80]],t [w yj,i 5,w [70]]])<|k 222 [n 217,i 2]]],N 227<|k 222 [n 217,i 8],.lg [80] (k 43 [b .add (i 1)<|k 222 [n 217,i 5]]) jw],.yR 69,R<|t [n 36,n 69]]⟩
def JJ:aT:=⟨[182,27],[],.l [R<| .ite (c .eq (s (n 27)<|i 0)<|w uZ) (s (n 27)<|i 2)<|m (n 182) 160 [s (g 229)<|s (n 27)<|i 2]]⟩
def jR:S:=.l [I (u [c .eq (n 36)<|w bm,c .jh (n 62)<|n 69,c .Ie (s (n 186)<|n 62) z]) [.expr<|m (n 182) 113 [s (g 229)<|n 33,s (n 186)<|n 62]]]
def BQ:aT:=⟨[140,182,51],[],.l [T [36,69]<|n 51,N 230<| .kr (n 37) 37 (n 69)<|l [o [c .ne (n 36)<|w bm,c .jh (n 37)<|t [w cM,w dV]]],N 75<|k 231 [.kr (t [n 37,k 232 [n 182,s (n 69)<|n 37]]) 37 (n 230)<|l [c .vP (n 37)<|t [w bU,w cQ]]],.vh (.l [N 186<|k 184 [n 140,n 36,n 75]]) (aa 173)<| .l [I (c .jh (w bU)<|n 69) [.expr<|m (n 182) 113 [s (g 229)<|w [83],a (n 173) 7]],I (c .jh (w cQ)<|n 69) [R<|s (n 69)<|w cQ],R<| .ite (c .jh (w bU)<|n 69) (i 0) z],.lg [62,30,33] (k 228 []) jR,I (c .jh (w bU)<|n 69) [.expr<|m (n 182) 113 [s (g 229)<|w [83],i 0]],R<|i 0]⟩
def mZ:S:=.l [N 233<| .ite (c .eq (s (s (s (n 234)<|n 42)<|i 1)<|i 0)<|w dw) (i 0)<|k 235 [n 140,n 182,s (s (n 234)<|n 42)<|i 1],I (c .WK (n 233) z) [R<|v<| .bool ag],N 42<| .ite (c .eq (n 233)<|i 0) (b .add (n 42)<|i 1)<|m (.kr (s (n 236)<|i 0) 236 (n 234)<|l []) 2 [n 233]]
def QS:aT:=⟨[140,182,234],[],.l [N 42<|i 0,.sG (c .lt (n 42)<|k 25 [n 234]) mZ,R<|v<| .bool ak]⟩
def r9:S:=.l [N 116<|s (a (n 140) 107)<|n 94,N 95<|a (n 116) 95,.expr<|m (n 107) 0 [t [n 94,a (n 95) 62,a (n 95) 88,a (n 95) 89,a (n 95) 90,a (n 116) 33,a (n 116) 96,k 25 [a (n 95) 91]]]]
def NY:aT:=⟨[140],[],.l [.cY 107<|L [3] [],.lg [94] (k 108 [a (n 140) 107]) r9,.yR 107,R<|t [n 107,k 108 [a (a (n 140) 113) 93]]]⟩
def oz:S:=.l [N 33<|s (g 229)<|n 62,.expr<|m (n 182) 113 [n 33,s (L [] [s (n 33)<|i 1,i 0,i 0,i 0,v<| .bool ak,w [80]])<|s (n 33)<|i 0]]
def Ho:aT:=⟨[],[],.l [N 182<|k 237 [i 6,i 13],.lg [62] (g 229) oz,R<|n 182]⟩
def Gm:S:=.l [N 53<|b .add (.kr (b .mul (i 10)<|b .add (n 238)<|i 1) 238 (k 43 [b .add (n 80)<|i 1,n 165])<|l [])<|L [] [i 900],.expr<|m (n 234) 0 [t [b .mul (i 10)<|b .add (n 80)<|i 1,k 239 [n 217,n 53],i 0]]]
def tN:aT:=⟨[218],[],.l [.cY 217<|D [0] [e (w vS)<| .zq (n 218)<|i 100,e (w [97,116])<|i 0],N 165<|b .add (i 3)<|k 222 [n 217,i 5],.cY 234<|L [1] [],.lg [80] (k 43 [n 165]) Gm,.expr<|m (n 234) 0 [t [i 900,t [w dw],i 0]],.yR 234,N 24<|k 240 [D [] [e (w uZ)<|g 241,e (w yj)<|g 242],D [] [e (w yj)<|g 243],k 244 [L [] [k 245 [],D [] [e (w dw)<|g 246]]]],K 247 [n 24,n 234,k 248 [n 234]],N 175<|k 249 [k 250 [],k 251 [],D [] [],D [] []],A (n 175) 140<|k 252 [L [] [],k 253 []],A (n 175) 204<|k 254 [],A (n 175) 12<|D [] [e (w QC)<|g 255,e (w G8)<|g 256,e (w G9)<|g 257,e (w A8)<|g 258,e (w pD)<|g 259,e (w [105,111])<|g 260,e (w nj)<|g 261],.vh (.l [K 262 [n 175,k 263 [k 264 [n 24,D [] []],g 229],i 0],N 265<|v<| .bool ak]) aj<| .l [N 265<|v<| .bool ag],.G4 140 182 (k 252 [L [] [],k 253 []])<|k 250 [],I (o [c .ne (k 266 [n 140,n 182,n 234])<|n 265,c .ne (k 267 [n 140])<|k 267 [a (n 175) 140]]) [R<|v<| .bool ak],I (o [c .ne (a (n 182) 156)<|a (a (n 175) 182) 156,c .ne (a (n 182) 157)<|a (a (n 175) 182) 157]) [R<|v<| .bool ak],R<|o [n 265,c .eq (a (n 175) 180)<|L [] []]]⟩
noncomputable def NZ:cN:=⟨0,[],[],[6,7],ag,[38]⟩
noncomputable def acI:cN:=⟨0,[],[],[6,7],ag,[51,38]⟩
noncomputable def N1:cN:=⟨0,[],[],[6,7],ag,[63,38]⟩
noncomputable def qK:cN:=⟨0,[],[],[6,7],ag,[82,38]⟩
noncomputable def N2:cN:=⟨0,[],[],[6,7],ag,[101,82,38]⟩
noncomputable def JK:cN:=⟨0,[],[],[6,7],ag,[113,38]⟩
noncomputable def QT:cN:=⟨0,[],[],[6,7],ag,[132,38]⟩
noncomputable def gH:cN:=⟨148,[10],[(21,155),(23,162)],[8,10,11,12,13,14,15,16,17,18,19,20],ak,[165]⟩
noncomputable def sI:cN:=⟨248,[19],[],[12,13,15,18],ak,[251]⟩
noncomputable def lU:cN:=⟨387,[],[],[62,88,89,90,91,92],ak,[390]⟩
noncomputable def o0:cN:=⟨408,[28,32],[],[93],ak,[411]⟩
noncomputable def o5:cN:=⟨429,[],[],[94,95,96,33],ak,[432]⟩
noncomputable def u1:cN:=⟨602,[13],[],[53,149,150,151,59],ak,[605]⟩
noncomputable def eQ:cN:=⟨658,[21,24],[(160,665),(113,672)],[156,157],ak,[682]⟩
noncomputable def jn:cN:=⟨851,[20],[],[192,193,194,195,196,197,198,199],ak,[854]⟩
noncomputable def bT:cN:=⟨872,[15],[],[182,200,201,202,12,203,204,206,140,207,208,10,107,209,180,196],ak,[875]⟩
noncomputable def jI:cN:=⟨893,[17],[],[7,210,13,166,211],ak,[896]⟩
noncomputable def dX:cN:=⟨973,[27,31],[],[214,42,215,113,107,216],ak,[976]⟩
def nM:List (Nat×aT):=[(148,NK),(155,Jw),(162,NL),(176,NM),(183,NO),(190,Cq),(197,Ba),(204,Jx),(211,Ha),(218,Hb),(225,Dm),(232,NP),(248,yT),(260,NQ),(265,He),(272,NR),(279,Cr),(286,Bb),(293,Cs),(305,Ct),(310,QD),(319,QE),(333,QF),(340,Bc),(345,QG),(350,vG),(357,Jy),(362,Cu),(369,Hf),(387,yU),(408,rY),(429,yV),(443,Jz),(450,JA),(457,t6),(464,Hg),(471,Cv),(478,Hh),(485,Hi),(492,pM),(499,xt),(506,QH),(513,Dn),(520,NS),(527,QI),(534,JB),(541,XX),(548,XY),(555,QJ),(562,Cw),(569,Cy),(576,Cz),(581,Dp),(588,QK),(602,yW),(616,Hj),(637,JC),(644,QL),(658,pZ),(665,Dq),(672,CA),(693,Hk),(700,JD),(707,Dr),(714,CB),(721,JE),(728,Hl),(735,ahZ),(761,JF),(768,QM),(780,Hm),(787,Hn),(794,Ii),(801,QN),(808,QO),(815,XZ),(822,JG),(829,Ds),(836,NT),(851,mT),(872,ui),(893,yX),(912,NU),(919,X0),(926,QP),(933,QQ),(940,NV),(947,QR),(954,JH),(959,aaz),(973,r8),(1004,Dt),(1011,JI),(1018,BP),(1025,NW),(1032,NX),(1039,i9),(1046,dP),(1053,JJ),(1058,BQ),(1063,QS),(1070,NY),(1077,Ho),(1082,tN)]
def o6:List (Nat×cN):=[(38,NZ),(63,N1),(82,qK),(101,N2),(113,JK),(132,QT),(165,gH),(251,sI),(390,lU),(411,o0),(432,o5),(605,u1),(682,eQ),(854,jn),(875,bT),(896,jI),(976,dX)]
def mI:List (Nat×P):=[(25,.bi 0),(32,.fn 204),(34,.fn 197),(40,.fd [.s QC,.s [109,111,118,101],.s [98,105,110],.s [99,109,112],.s [117,110],.s [99,111,110,118],.s [99,97,116],.s G8,.s [101,108,101,109],.s [99,117,116],.s G9,.s A8,.s [116,101,109,112],.s [105,110,116,114],.s [99,97,108,108],.s [99,111,117,110,116],.s pD,.s [116,114,117,101],.s [102,97,108,115,101],.s [115,105,103,110],.s [115,119,105,116,99,104],.s [115,101,116,108,97,98,101,108],.s [97,103,111,116,111],.s nj,.s [115,116,111,112],.s [112,97,117,115,101],.s [105,111],.s [110,111,112],.s [108,101,110,103,116,104],.s [107,101,101,112],.s [102,101,116,99,104]] [.str [119,45,45],.str [119,114],.str [119,45,45,114,114],.str [119,45,45,114,114],.str [119,45,45,114],.str [119,45,45,114],.str [119,114,114],.str [119,45],.str [119,114,82],.str [119,114,111,111],.str [119,114],.str [114,114],.str [119,45,114],.str [119,45,45,82],.str [118,45,65,74],.str [119,45,114,114,114],.str [106],.str [114,106],.str [114,106],.str [114,106,106,106],.str [114,74],.str [114,45],.str [114,80],.str [111],.str [45],.str [45],.str [45,68],.str [],.str [119,114],.str [45,114],.str [119,45]]),(43,.ty 5),(47,.ty 2),(48,.int 5),(49,.int 2),(50,.int 3),(54,.fn 176),(56,.fn 183),(57,.fn 279),(60,.fn 265),(61,.fn 260),(63,.cls 251),(64,.ty 0),(66,.fn 190),(70,.jH [.str bU,.str pL,.str cQ]),(71,.bi 2),(72,.ty 3),(74,.fn 333),(77,.int 0),(79,.fn 286),(81,.fn 319),(82,.fn 345),(83,.fn 340),(84,.fn 350),(85,.jH [.str cM,.str dV,.str bU,.str cQ,.str pL]),(86,.fn 357),(87,.fn 362),(99,.int 12),(101,.int 20),(102,.fn 443),(103,.jH [.str ch,.str fY]),(104,.jH [.str fG,.str d6]),(105,.int 16),(108,.bi 1),(109,.cls 390),(111,.int 14),(112,.fn 464),(114,.int 13),(115,.int 15),(117,.jH [.str vk,.str G']),(118,.int 10),(119,.jH [.str MT,.str EJ,.str fK,.str iJ]),(120,.fn 457),(121,.fn 450),(122,.fn 485),(123,.ty 4),(124,.fn 471),(125,.fn 478),(126,.cls 432),(127,.int 11),(128,.fn 513),(129,.int 17),(130,.fn 520),(134,.fn 548),(137,.fn 555),(138,.fn 562),(139,.fn 576),(141,.fn 569),(142,.fn 492),(143,.fn 581),(144,.fn 499),(145,.fn 534),(146,.fn 506),(147,.fn 541),(148,.fn 527),(153,.cls 605),(154,.fn 616),(155,.fn 637),(158,.fn 721),(159,.fn 707),(161,.fn 728),(162,.fn 735),(163,.fn 714),(169,.fn 693),(170,.fn 272),(171,.fn 700),(174,.cls 101),(177,.fn 780),(179,.fn 768),(181,.fn 761),(183,.fn 787),(184,.fn 588),(185,.fn 794),(187,.fn 808),(188,.fn 815),(189,.fn 822),(190,.fn 829),(191,.fn 801),(205,.fn 905),(220,.fn 1011),(222,.fn 1018),(223,.fn 1025),(224,.fn 1032),(226,.fn 1039),(228,.fn 1004),(229,.fd [.s [83],.s [78],.s [82],.s [84],.s [69],.s [79],.s [65],.s [70]] [.jH [.int 0,.int 0,.int 0,.jH []],.jH [.int 0,.int 1,.int 0,.jH []],.jH [.int 0,.int 2,.int 0,.jH []],.jH [.int 0,.int 3,.int 0,.jH []],.jH [.int 4,.int 4,.int 0,.jH []],.jH [.int 4,.int 5,.int 0,.jH []],.jH [.int 5,.int 0,.int 10,.jH []],.jH [.int 5,.int 10,.int 3,.jH []]]),(231,.ty 1),(232,.fn 1053),(235,.fn 1058),(237,.cls 682),(239,.fn 1046),(240,.cls 165),(241,.fn 218),(242,.fn 225),(243,.fn 211),(244,.fn 232),(245,.fn 369),(246,.fn 293),(247,.fn 305),(248,.fn 644),(249,.cls 875),(250,.fn 1077),(251,.cls 854),(252,.cls 976),(253,.cls 411),(254,.fn 836),(255,.fn 919),(256,.fn 926),(257,.fn 933),(258,.fn 940),(259,.fn 947),(260,.fn 959),(261,.fn 954),(262,.fn 912),(263,.cls 896),(264,.fn 310),(266,.fn 1063),(267,.fn 1070)]
def TT:Ig:=⟨av nM,av o6,av mI⟩
noncomputable def NN:tH:=⟨0,1,2,3,4,5⟩
noncomputable def ma:List Tx:=[0x646e65707061,0x706f70,0x7865646e69,0x746567,0x706972747372,0x6e696f6a,0x74786574,0x65646f63,0x736e6f6973736572707865,0x666c6573,0x736563616c70,0x73746e656d6574617473,0x73706f,0x737265747369676572,0x736b72616d,0x73656972746e65,0x73706f6f6c,0x776f6c66,0x7374616d726f66,0x737472617473,0x736d7261,0x6873657266,0x706f,0x74696d65,0x6e6567,0x6e656c,0x6b72616d,0x65657274,0x72656c646e6168,0x7265747369676572,0x646e696b,0x65756c6176,0x65756c61765f746573,0x6563616c70,0x6563616c705f656c69706d6f63,0x646e756f66,0x64726f77,0x656e6f,0x7374636964,0x6570616873,0x534550414853,0x74726170,0x7461,0x65676e6172,0x7374726170,0x64657375,0x737461,0x656c707574,0x524554434152414843,0x454c42554f44,0x58454c504d4f43,0x746d7473,0x6c6562616c,0x736c6562616c,0x6b72616d5f77656e,0x5f,0x6b72616d5f746573,0x746d74735f656c69706d6f63,0x7472617473,0x676e69646e65,0x73706d756a5f68746977,0x666f5f73706d756a,0x656d616e,0x65646f43,0x7473696c,0x74736572,0x727078655f656c69706d6f63,0x73776f68,0x6465786966,0x6c6f72746e6f63,0x444544454548,0x65636e6174736e697369,0x746e69,0x776f68,0x666f5f74726170,0x7364726f77,0x646e69686562,0x52454745544e49,0x736c616f67,0x6c6562616c5f666f5f6b72616d,0x6b,0x6f695f74696d65,0x666f5f73796177,0x73747261705f6c6f72746e6f63,0x737961775f646e65,0x44454b5341,0x646565645f65646f63,0x65726975716e695f65646f63,0x737365636361,0x6d726f66,0x6874676e656c,0x7364726f636572,0x64657265626d756e,0x73656c6966,0x7265626d756e,0x656c6966,0x6b6e616c62,0x79656b,0x746c7561666564,0x44524f575f444142,0x6465776f6c6c61,0x454d414e5f444142,0x646c6f745f64726f77,0x5345535345434341,0x534d524f46,0x54524f535f474e4f5257,0x74726f73,0x7374696e75,0x646574726f73,0x656c6946,0x737574617473,0x5354534958455f454c4946,0x74726f735f6b63656863,0x65726f7473,0x454c49465f4f4e,0x4553555f4e495f454c4946,0x74696e75,0x534b4e414c42,0x54494e555f444142,0x5345535554415453,0x646c6f745f74726f73,0x646c6f745f656d616e,0x6e696167615f6e65706f,0x727473,0x656d616e5f666f5f74696e75,0x656c69665f646e756f66,0x74696e55,0x44455443454e4e4f435f544f4e,0x7373656363615f6465656e,0x444e455f444e49484542,0x656c69665f747563,0x6f735f7369,0x7463657269645f7369,0x64657474616d726f665f7369,0x6f6e5f736579,0x646c6f74,0x737473697865,0x666f5f646c6f74,0x656e6f6e5f666f5f646c6f74,0x656c69665f65726975716e69,0x646c726f77,0x74696e755f65726975716e69,0x74696e755f6e65706f,0x7364726f775f726568746f,0x74696e755f65736f6c63,0x65636170736b636162,0x666f5f74696e75,0x646e69776572,0x656c6966646e65,0x6d72615f7478656e,0x646e655f6b636f6c62,0x646e655f6f64,0x736b636f6c62,0x776f6c46,0x6c6562616c5f65746f6e,0x73646e655f65746f6e,0x636972656d756e,0x73726574636172616863,0x747865745f64616f6c,0x7265626d756e5f64616f6c,0x64616f6c,0x747865745f65726f7473,0x646170,0x7265626d756e5f65726f7473,0x73736572646461,0x746e756f63,0x736c6c6563,0x6c6c6563,0x676174,0x7374696e755f6465656e,0x666f5f7374696e75,0x6c6c65635f64616572,0x736e676973,0x746c756166,0x746c756146646e45,0x656e696863616d,0x65746972775f7369,0x65756c61765f74726170,0x7365756c6176,0x656d6f6374756f,0x73726566736e617274,0x666f5f746174736f69,0x79726f6d656d,0x666f5f6c6f72746e6f63,0x646565645f6f64,0x666f5f796177,0x73726577736e61,0x646565645f6f69,0x6b73615f6f69,0x726577736e615f6f69,0x6465726577736e615f6f69,0x746174735f6f69,0x6874646977,0x7374696769645f6c616572,0x7374696769645f656c62756f64,0x746e656e6f7078655f706f74,0x7370657473,0x736e6f697461756e69746e6f63,0x736e6d756c6f63,0x6874706564,0x7374696d696c,0x7365646f63,0x73656d617266,0x736e6f6974617265706f,0x6f69,0x656d6172665f6e69616c70,0x7265746e65,0x736e6f6974636e7566,0x737261656c63,0x657669746361,0x656d617266,0x73706d6574,0x6c6c6163,0x7364726f6365725f7475706e69,0x7475706e69,0x74756f,0x7372656b616d,0x6574617473,0x747069726373,0x657a6973,0x54524154535f77616c5f,0x796177,0x6c6c75705f77616c5f,0x747865745f77616c5f,0x74696e755f77616c5f,0x7364656568,0x676e696e65706f5f77616c5f,0x7473726966,0x73726577736e615f77616c5f,0x736563616c705f77616c5f,0x64656b7361,0x74636964,0x65756c61765f77616c5f,0x6c616f67,0x74616c66,0x656e6f645f77616c5f,0x776f72,0x79726f6d654d,0x6a,0x746e656d65746174735f77616c5f,0x6e6547,0x74736e6f635f65646f63,0x646564616f6c5f65646f63,0x656d616e5f6563616c70,0x6c6c615f68746977,0x7365646f635f64656564,0x676e6968746f6e5f65646f63,0x7473696c5f656c69706d6f63,0x666f5f776f6c66,0x656e696863614d,0x79726f6d656d5f77616c5f,0x7374696d694c,0x646c726f57,0x65726f7453,0x73706f5f64656564,0x7465735f6f64,0x726464615f6f64,0x64616f6c5f6f64,0x65726f74735f6f64,0x706d756a5f6f64,0x6f695f6f64,0x6e72757465725f6f64,0x65646f635f6e7572,0x6c6c6143,0x64656c74746573,0x6c6c6566,0x6e75725f77616c5f,0x646c6f745f77616c5f].map dx
end
theorem WR{K A:Type}[DecidableEq K](e:K×A)(r:List<|K×A)(k:K):av (e::r) k=if e.1=k then aa e.2 else av r k:=rfl
theorem Bd{K A:Type}[DecidableEq K](j:K)(v:A)(r:List<|K×A)(k:K):av ((j,v)::r) k=if j=k then aa v else av r k:=rfl
theorem ae6{K A:Type}[DecidableEq K](e:K×A)(r:List<|K×A)(k:K)(v:A):aN (e::r) k v=if e.1=k then (k,v)::r else e::aN r k v:=rfl
theorem EL{K A:Type}[DecidableEq K](j:K)(w:A)(r:List<|K×A)(k:K)(v:A):aN ((j,w)::r) k v=if j=k then (k,v)::r else (j,w)::aN r k v:=rfl
theorem WS{K A:Type}[DecidableEq K](e:K×A)(r:List<|K×A)(k:K):cW (e::r) k=if e.1=k then cW r k else e::cW r k:=rfl
theorem LW{K A:Type}[DecidableEq K](j:K)(w:A)(r:List<|K×A)(k:K):cW ((j,w)::r) k=if j=k then cW r k else (j,w)::cW r k:=rfl
end
section
set_option genCtorIdx false
set_option genInjectivity false
open PySem PySem.W PySem.Calls PyProof.Rows
def nm(i:Nat):bB:=match ma[i]? with
 |some t=>⟨t.toArray⟩
 |none=>⟨#[10000000+i]⟩
noncomputable def fM (s:Tx):bB:=⟨s.toArray⟩
noncomputable def Be (n:Nat):String:=if n=0 then "list" else if n=1 then "dict" else if n=2 then "tuple" else if n=3 then "int" else if n=4 then "str" else if n=5 then "range" else "object"
noncomputable def xv (n:Nat):String:=if n=0 then "len" else if n=1 then "sorted" else if n=2 then "isinstance" else "repr"
noncomputable def uj (o:cC):Bool:=dk o.data.ctorIdx 7
noncomputable def Ij (o:cC):Bool:=dk o.data.ctorIdx 8
noncomputable def sd (s:Tx):Bool:=s.all (·<1114112)
def LX(k:bV):Bool:=match k with| .s t=>sd t| .i _=>ag
def jC(k:bV)(v:au):Bool:=match v with
 | .str y _=>match k with| .s t=>y==fM t| .i _=>ak
 | .int j _=>match k with| .s _=>ak| .i n=>n==j
 |_=>ak
def um(w:kK)(k:bV):Int:=match k with| .s t=>hashStr w (fM t)| .i n=>hashInt n
noncomputable def tO:G3->Operator| .add=>.Add| .iz=>.Sub| .mul=>.Mult| .fdiv=>.FloorDiv| .mod=>.Mod
noncomputable def tP:aak->CmpOp| .eq=>.Eq| .ne=>.NotEq| .lt=>.Lt| .le=>.LtE| .gt=>.Gt| .ge=>.GtE| .jh=>.In| .vP=>.NotIn| .WK=>.Is| .Ie=>.IsNot
noncomputable def n8 (e:bA):Bool:=!(dk e.ctorIdx 26||Nat.beq e.ctorIdx 25||Nat.beq e.ctorIdx 22)
noncomputable def ah0:au->Nat| .ref a=>a|_=>0
noncomputable abbrev TB:List au:=[.type "Exception",.type "BaseException",.type "object"]
def MV:List au->Bool:=fT ak λv r k=>(v::r==[.type "object"]||v::r==TB)||v==.ref (ah0 v)&&k
noncomputable def eE (e:bA):Bool:=!dk e.ctorIdx 22
noncomputable def gP (e:bA):Bool:=!dk e.ctorIdx 7
noncomputable def n0:bA->Bool
 | .Call f ..=>dk f.ctorIdx 20
 |_=>ag
noncomputable def Gn (e:bA):Bool:=!dk e.ctorIdx 20
noncomputable def mJ (n:bB):Bool:=!(n==("__debug__":bB))&&!(n==("__classdict__":bB))
noncomputable def kD (e:bA):Bool:=!(dk e.ctorIdx 8||Nat.beq e.ctorIdx 9||Nat.beq e.ctorIdx 10)
structure amE where
 a:bA
 b:bA
 c:bA
 l:List bA
 ks:List bA
 k:Nat
 sl:Option bA×Option bA
 sc:ic
 g:List DF
noncomputable abbrev xE:bA:=.Name ⟨#[]⟩ ⟨0,0,0,0⟩
noncomputable abbrev xS:ic:=⟨.module,[],ak,ak,[]⟩
def sJ:List bA->bA|x::_=>x|[]=>xE
def QU:bA->amE
 | .BinOp l _ r _=>⟨l,r,xE,[],[],0,(aj,aj),xS,[]⟩
 | .Compare l _ r _=>⟨l,sJ r,xE,[],[],0,(aj,aj),xS,[]⟩
 | .UnaryOp _ x _=>⟨x,xE,xE,[],[],0,(aj,aj),xS,[]⟩
 | .IfExp c a b _=>⟨c,a,b,[],[],0,(aj,aj),xS,[]⟩
 | .Attribute v _ _=>⟨v,xE,xE,[],[],0,(aj,aj),xS,[]⟩
 | .Subscript v x _=>⟨v,x,xE,[],[],0,(aj,aj),xS,[]⟩
 | .Call f l _ _=>⟨f,xE,xE,l,[],0,(aj,aj),xS,[]⟩
 | .ListComp x g s _=>⟨x,xE,xE,[],[],0,(aj,aj),s,g⟩
 | .DictComp k v g s _=>⟨k,v,xE,[],[],0,(aj,aj),s,g⟩
 | .Tuple l k _=>⟨xE,xE,xE,l,[],k,(aj,aj),xS,[]⟩
 | .List l _=>⟨xE,xE,xE,l,[],0,(aj,aj),xS,[]⟩
 | .BoolOp _ l _=>⟨xE,xE,xE,l,[],0,(aj,aj),xS,[]⟩
 | .Dict ks l _=>⟨xE,xE,xE,l,ks.filterMap id,0,(aj,aj),xS,[]⟩
 | .Constant _ k _=>⟨xE,xE,xE,[],[],k,(aj,aj),xS,[]⟩
 | .Slice l u _ _=>⟨xE,xE,xE,[],[],0,(l,u),xS,[]⟩
 |_=>⟨xE,xE,xE,[],[],0,(aj,aj),xS,[]⟩
abbrev e0(e:bA):bA:=(QU e).a
abbrev e1(e:bA):bA:=(QU e).b
abbrev e2(e:bA):bA:=(QU e).c
abbrev mK(e:bA):List bA:=(QU e).l
abbrev agM(e:bA):List bA:=(QU e).ks
abbrev ek(e:bA):Nat:=(QU e).k
abbrev acJ(e:bA):Option bA×Option bA:=(QU e).sl
abbrev Hp(e:bA):ic:=(QU e).sc
def amF:List DF->DF|g::_=>g|[]=>⟨xE,xE,[],0⟩
abbrev nk(e:bA):DF:=amF (QU e).g
def QV:Option bA->bA|some e=>e|none=>xE
def Pr:P->Const| .int i=>.int i| .str t=>.str (fM t)| .bool b=>.bool b|_=>.none
mutual
noncomputable def bF:X->bA->bA
 | .val v,e=>.Constant (Pr v) (ek e) e.pos
 | .name i,e=>.Name (nm i) e.pos
 | .fy i,e=>.Name (nm i) e.pos
 | .tuple x,e=>.Tuple (dJ 0 x<|mK e) (ek e) e.pos
 | .list _ x,e=>.List (dJ 0 x<|mK e) e.pos
 | .dict _ x,e=>.Dict ((dJ 1 x<|agM e).map aa) (dJ 2 x<|mK e) e.pos
 | .CU _,e=>.Dict [] [] e.pos
 | .dR _ a b,e=>.BinOp (bF a<|e0 e) .Mult (bF b<|e1 e) e.pos
 | .CV _ x,e=>.Call (.Name "dict" (e0 e).pos) [bF x<|sJ<|mK e] [] e.pos
 | .aal op a b,e=>.BinOp (bF a<|e0 e) (tO op) (bF b<|e1 e) e.pos
 | .BO op a b,e=>.Compare (bF a<|e0 e) [tP op] [bF b<|e1 e] e.pos
 | .neg a,e=>.UnaryOp .USub (bF a<|e0 e) e.pos
 | .EB a,e=>.UnaryOp .Not (bF a<|e0 e) e.pos
 | .MG x,e=>.BoolOp .And (dJ 0 x<|mK e) e.pos
 | .aam x,e=>.BoolOp .Or (dJ 0 x<|mK e) e.pos
 | .ite c a b,e=>.IfExp (bF c<|e0 e) (bF a<|e1 e) (bF b<|e2 e) e.pos
 | .yf x i,e=>.Attribute (bF x<|e0 e) (nm i) e.pos
 | .iz x k,e=>.Subscript (bF x<|e0 e) (bF k<|e1 e) e.pos
 | .zq x hi,e=>.Subscript (bF x<|e0 e) (.Slice aj (aa<|bF hi<|QV (acJ<|e1 e).2) aj (e1 e).pos) e.pos
 | .CW x lo hi,e=>.Subscript (bF x<|e0 e) (.Slice (aa<|bF lo<|QV (acJ<|e1 e).1) (aa<|bF hi<|QV (acJ<|e1 e).2) aj (e1 e).pos) e.pos
 | .call f a,e=>.Call (bF f<|e0 e) (dJ 0 a<|mK e) [] e.pos
 | .vg o i a,e=>.Call (.Attribute (bF o<|e0<|e0 e) (nm i) (e0 e).pos) (dJ 0 a<|mK e) [] e.pos
 | .ji x,e=>bF x e
 | .kr x t it cs,e=>.ListComp (bF x<|e0 e) [⟨.Name (nm t) (nk e).target.pos,bF it (nk e).iter,dJ 0 cs (nk e).ifs,0⟩] (Hp e) e.pos
 | .CX k v t it cs,e=>.DictComp (bF k<|e0 e) (bF v<|e1 e) [⟨.Name (nm t) (nk e).target.pos,bF it (nk e).iter,dJ 0 cs (nk e).ifs,0⟩] (Hp e) e.pos
 |_,e=>e
noncomputable def ae7 (w:Nat):X->bA->bA
 | .cons k v,e=>match w with|1=>bF k e|_=>bF v e
 |_,e=>e
noncomputable def dJ (w:Nat):X->List bA->List bA
 | .cons a r,l=>(match w with|0=>bF a (sJ l)|w=>ae7 w a<|sJ l)::dJ w r l.tail
 |_,_=>[]
end
abbrev Ks:=List<|bB×i6
def adK(ns:Ks)(i:Nat):Bool:=(ns.lookup (nm i)==aa .local||ns.lookup (nm i)==aa .cell||ns.lookup (nm i)==aa .free)&&mJ (nm i)
def MY(ns:Ks)(i:Nat):Bool:=ns.lookup (nm i)==aa .local||ns.lookup (nm i)==aa .cell
def agN(ns:Ks)(n:bB):Bool:=(ns.lookup n==aa .globalImplicit)&&mJ n
def agO:P->Bool| .none=>ag| .bool _=>ag| .int _=>ag| .str t=>sd t|_=>ak
noncomputable def lx (ns:Ks) (sc:ic):Ks:=(KH sc ⟨⟨.function,ns,ak,ak,[]⟩,0,0,[],⟨#[]⟩,aj,.none,aj,0⟩).names
def LY(ns:Ks)(sc:ic)(t:Nat):Bool:=(sc.kind==.function)&&(sc.names.lookup (nm t)==aa .local)&&
 sc.names.all λx=>!(x.2==.cell)&&(!(x.2==.local)||(x.1==nm t||x.1==(".0":bB))&&(sc.names.lookup x.1==aa .local))&&(!(x.2==.free)||(ns.lookup x.1==aa .cell||ns.lookup x.1==aa .free))
mutual
noncomputable def iq (ns:Ks):X->bA->Bool
 | .val v,_=>agO v
 | .name i,_=>adK ns i
 | .fy i,_=>agN ns<|nm i
 | .tuple x,e=>oA ns x (mK e)&&gb (dJ 0 x<|mK e).length 1000
 | .list _ x,e=>oA ns x (mK e)&&gb (dJ 0 x<|mK e).length 1000
 | .dict _ x,e=>Bf ns x (agM e) (mK e)&&gb (dJ 1 x<|agM e).length 15
 | .CU _,_=>ag
 | .dR _ a b,e=>iq ns a (e0 e)&&iq ns b (e1 e)
 | .CV z x,e=>iq ns x (sJ<|mK e)&&eE (bF x<|sJ<|mK e)&&agN ns "dict"&&!z.isEmpty
 | .aal _ a b,e=>iq ns a (e0 e)&&iq ns b (e1 e)
 | .BO _ a b,e=>iq ns a (e0 e)&&iq ns b (e1 e)&&gP (bF b<|e1 e)
 | .neg a,e=>iq ns a<|e0 e
 | .EB a,e=>iq ns a<|e0 e
 | .MG x,e=>oA ns x<|mK e
 | .aam x,e=>oA ns x<|mK e
 | .ite c a b,e=>iq ns c (e0 e)&&iq ns a (e1 e)&&iq ns b (e2 e)
 | .yf x i,e=>iq ns x (e0 e)&&n0 (bF x<|e0 e)
 | .iz x k,e=>iq ns x (e0 e)&&iq ns k (e1 e)&&n8 (bF k<|e1 e)
 | .zq x hi,e=>iq ns x (e0 e)&&iq ns hi (QV (acJ<|e1 e).2)
 | .CW x lo hi,e=>iq ns x (e0 e)&&iq ns lo (QV (acJ<|e1 e).1)&&iq ns hi (QV (acJ<|e1 e).2)
 | .call f a,e=>iq ns f (e0 e)&&oA ns a (mK e)&&Gn (bF f<|e0 e)
 | .vg o i a,e=>iq ns o (e0<|e0 e)&&oA ns a (mK e)&&n0 (bF o<|e0<|e0 e)&&((e0 e).pos.endLine==e.pos.line)&&gb (dJ 0 a<|mK e).length 20
 | .ji x,e=>iq ns x e
 | .kr x t it cs,e=>LY ns (Hp e) t&&iq ns it (nk e).iter&&gP (bF it (nk e).iter)&&iq (lx ns<|Hp e) x (e0 e)&&oA (lx ns<|Hp e) cs (nk e).ifs
 | .CX k v t it cs,e=>LY ns (Hp e) t&&iq ns it (nk e).iter&&gP (bF it (nk e).iter)&&iq (lx ns<|Hp e) k (e0 e)&&iq (lx ns<|Hp e) v (e1 e)&&oA (lx ns<|Hp e) cs (nk e).ifs
 | .dm,_=>ag
 |_,_=>ak
noncomputable def oA (ns:Ks):X->List bA->Bool
 | .nil,l=>l.isEmpty
 | .cons a r,l=>iq ns a (sJ l)&&eE (bF a<|sJ l)&&oA ns r l.tail
 |_,_=>ak
noncomputable def TD (ns:Ks):X->bA->bA->Bool
 | .cons k v,a,b=>iq ns k a&&iq ns v b
 |_,_,_=>ak
noncomputable def Bf (ns:Ks):X->List bA->List bA->Bool
 | .nil,_,_=>ag
 | .cons a r,ks,vs=>TD ns a (sJ ks) (sJ vs)&&Bf ns r ks.tail vs.tail
 |_,_,_=>ak
end
structure amG where
 t:bA
 e:bA
 b:List dO
 o:List dO
 hp:ca
 np:ca
noncomputable abbrev xP:ca:=⟨0,0,0,0⟩
def agP:List dO->dO|x::_=>x|[]=>.Pass xP
def dW:dO->amG
 | .Assign l e _=>⟨sJ l,e,[],[],xP,xP⟩
 | .AugAssign t _ e _=>⟨t,e,[],[],xP,xP⟩
 | .Expr e _=>⟨xE,e,[],[],xP,xP⟩
 | .If c a b _=>⟨xE,c,a,b,xP,xP⟩
 | .For t e b _ _=>⟨t,e,b,[],xP,xP⟩
 | .While c b _ _=>⟨xE,c,b,[],xP,xP⟩
 | .Return e _=>⟨xE,QV e,[],[],xP,xP⟩
 | .Raise e _ _=>⟨xE,QV e,[],[],xP,xP⟩
 | .Try b hs _ _ _=>match hs with
  | .ExceptHandler t _ h p::_=>⟨xE,xE,b,h,p,(QV t).pos⟩
  |[]=>⟨xE,xE,b,[],xP,xP⟩
 |_=>⟨xE,xE,[],[],xP,xP⟩
noncomputable def vT:List Nat->List bA->List bA
 |[],_=>[]
 |i::is,l=>.Name (nm i) (sJ l).pos::vT is l.tail
def tQ(x:S):Bool:=dk x.ctorIdx 8||Nat.beq x.ctorIdx 9
mutual
noncomputable def xw:S->dO->dO
 | .ug i e,st=>.Assign [.Name (nm i) (dW st).t.pos] (bF e (dW st).e) st.pos
 | .cY i e,st=>.Assign [.Name (nm i) (dW st).t.pos] (bF e (dW st).e) st.pos
 | .Qz o i e,st=>.Assign [.Attribute (bF o<|e0 (dW st).t) (nm i) (dW st).t.pos] (bF e (dW st).e) st.pos
 | .MI o k e,st=>.Assign [.Subscript (bF o<|e0 (dW st).t) (bF k<|e1 (dW st).t) (dW st).t.pos] (bF e (dW st).e) st.pos
 | .MJ is e,st=>.Assign [.Tuple (vT is<|mK (dW st).t) (ek (dW st).t) (dW st).t.pos] (bF e (dW st).e) st.pos
 | .G4 i j a b,st=>.Assign [.Tuple (vT [i,j]<|mK (dW st).t) (ek (dW st).t) (dW st).t.pos] (.Tuple [bF a<|sJ<|mK (dW st).e,bF b<|sJ (mK (dW st).e).tail] (ek (dW st).e) (dW st).e.pos) st.pos
 | .EC i op e,st=>.AugAssign (.Name (nm i) (dW st).t.pos) (tO op) (bF e (dW st).e) st.pos
 | .Co o i op e,st=>.AugAssign (.Attribute (bF o<|e0 (dW st).t) (nm i) (dW st).t.pos) (tO op) (bF e (dW st).e) st.pos
 | .expr e,st=>.Expr (bF e (dW st).e) st.pos
 | .aan c a b,st=>.If (bF c (dW st).e) (gn a (dW st).b) (gn b (dW st).o) st.pos
 | .lg is it b,st=>.For (match is with|[i]=>.Name (nm i) (dW st).t.pos|_=>.Tuple (vT is<|mK (dW st).t) (ek (dW st).t) (dW st).t.pos) (bF it (dW st).e) (gn b (dW st).b) [] st.pos
 | .sG c b,st=>.While (bF c (dW st).e) (gn b (dW st).b) [] st.pos
 | .ret e,st=>.Return (aa<|bF e (dW st).e) st.pos
 | .ML,st=>.Return aj st.pos
 | .gL a b,st=>.Raise (aa<| .Call (.Name "IoFault" (e0 (dW st).e).pos) [bF a<|sJ<|mK (dW st).e,bF b<|sJ (mK (dW st).e).tail] [] (dW st).e.pos) aj st.pos
 | .xo e,st=>.Raise (aa<|bF e (dW st).e) aj st.pos
 | .vh b i h,st=>.Try (gn b (dW st).b) [.ExceptHandler (aa<| .Name "IoFault" (dW st).np) (i.map nm) (gn h (dW st).o) (dW st).hp] [] [] st.pos
 | .ZV,st=>.Pass st.pos
 | .cont,st=>.Continue st.pos
 |_,st=>st
noncomputable def gn:S->List dO->List dO
 | .cons a r,l=>match tQ a with|true=>gn r l|false=>xw a (agP l)::gn r l.tail
 |_,_=>[]
end
noncomputable def acK (e:bA):Bool:=!dk e.ctorIdx 25
def zJ(x:X):Bool:=dk x.ctorIdx 25
def LZ(ns:Ks)(i:Nat)(tp:ca)(l:Nat)(e:bA):Bool:=(ns.lookup (nm i)==aa .local)&&(tp.line==e.pos.line)&&!((Hp e).names.any λ(n,k)=>n==nm i&&(k==.local||k==.cell))
noncomputable def zK (ns:Ks):List Nat->Bool|[]=>ag|i::r=>MY ns i&&zK ns r
def vU(ns:Ks)(i j:Nat)(pi pj:ca)(a b:bA):Bool:=(ns.lookup (nm i)==aa .local)&&(ns.lookup (nm j)==aa .local)&&(pi.line==pj.line)&&!dk i j&&eE a&&eE b&&!(Kg 8 a&&Kg 8 b)&&!(Ke 8 a&&Ke 8 b)
def WT(ns:Ks):Option Nat->Bool|some i=>ns.lookup (nm i)==aa .local|none=>ag
mutual
noncomputable def aao (ns:Ks):S->dO->Bool
 | .ug i e,st=>MY ns i&&iq ns e (dW st).e&&(match zJ e with|true=>LZ ns i (dW st).t.pos st.pos.line (bF e (dW st).e)|false=>kD<|bF e (dW st).e)
 | .cY i e,st=>MY ns i&&iq ns e (dW st).e&&kD (bF e (dW st).e)
 | .Qz o i e,st=>iq ns e (dW st).e&&iq ns o (e0 (dW st).t)
 | .MI o k e,st=>iq ns e (dW st).e&&iq ns o (e0 (dW st).t)&&iq ns k (e1 (dW st).t)&&n8 (bF k<|e1 (dW st).t)
 | .MJ is e,st=>iq ns e (dW st).e&&zK ns is&&acK (bF e (dW st).e)
 | .G4 i j a b,st=>iq ns a (sJ<|mK (dW st).e)&&iq ns b (sJ (mK (dW st).e).tail)&&vU ns i j (sJ<|mK (dW st).t).pos (sJ (mK (dW st).t).tail).pos (bF a<|sJ<|mK (dW st).e) (bF b<|sJ (mK (dW st).e).tail)
 | .EC i _ e,st=>adK ns i&&MY ns i&&iq ns e (dW st).e
 | .Co o _ _ e,st=>iq ns o (e0 (dW st).t)&&iq ns e (dW st).e
 | .expr e,st=>iq ns e (dW st).e&&kD (bF e (dW st).e)
 | .aan c a b,st=>iq ns c (dW st).e&&oB ns a (dW st).b&&oB ns b (dW st).o
 | .lg is it b,st=>iq ns it (dW st).e&&gP (bF it (dW st).e)&&zK ns is&&!is.isEmpty&&oB ns b (dW st).b
 | .sG c b,st=>iq ns c (dW st).e&&oB ns b (dW st).b
 | .ret e,st=>iq ns e (dW st).e
 | .ML,_=>ag
 | .gL a b,st=>iq ns a (sJ<|mK (dW st).e)&&iq ns b (sJ (mK (dW st).e).tail)&&eE (bF a<|sJ<|mK (dW st).e)&&eE (bF b<|sJ (mK (dW st).e).tail)&&(ns.lookup ("IoFault":bB)==aa .globalImplicit)
 | .xo e,st=>iq ns e (dW st).e
 | .vh b i h,st=>oB ns b (dW st).b&&oB ns h (dW st).o&&!(gn h (dW st).o).isEmpty&&(ns.lookup ("IoFault":bB)==aa .globalImplicit)&&WT ns i
 | .ZV,_=>ag
 | .cont,_=>ag
 | .dm,_=>ag
 |_,_=>ak
noncomputable def oB (ns:Ks):S->List dO->Bool
 | .nil,_=>ag
 | .cons a r,l=>match tQ a with|true=>oB ns r l|false=>aao ns a (agP l)&&oB ns r l.tail
 |_,_=>ak
end
noncomputable def dM (D:bj):c7->c7
 |[]=>[]
 |e::r=>match dk e.1 D with|true=>dM D r|false=>e::dM D r
noncomputable def akk (e:i5):Option (bB×kL):=match e.key with| .str x t=>aa (x,t)|_=>aj
def agQ(e:i5):Bool:=(akk e).isSome
noncomputable def adL (d:uI):Option (Array au×Nat):=match d with| .seq i n=>aa (i,n)|_=>aj
noncomputable def adM (d:uI):Option (Array i5×Nat):=match d with| .dict i n=>aa (i,n)|_=>aj
def MZ(K:c7)(D:bj):Bool:=(K.lookup D).any λo=>o.cls==.type "dict"&&(adM o.data).any λp=>p.1.toList.all agQ
noncomputable def alA (u:au):kL:=match u with| .int _ t=>t| .str _ t=>t|_=>0
noncomputable def acL (u:au):bj:=match u with| .ref a=>a|_=>0
noncomputable def Bu (t:String) (o:cC):Bool:=o.cls==.type t&&o.dict.isNone&&o.slots.toList.isEmpty
def TE(K:c7)(t:String)(u:au):Option cC:=bif u==.ref (acL u)then (K.lookup<|acL u).filter (Bu t)else aj
def acM(K:c7)(u:au):Option (List au):=(TE K "tuple" u).bind λo=>(adL o.data).map λp=>p.1.toList
def L3(K:c7)(u:au):Option (List i5):=(TE K "dict" u).bind λo=>(adM o.data).map λp=>p.1.toList
mutual
noncomputable def ajq (K:c7):P->au->Bool
 | .int i,u=>u==.int i (alA u)
 | .str s,u=>sd s&&u==.str (fM s) (alA u)
 | .jH vs,u=>(acM K u).any<|ZW K vs
 | .fn a,u=>u==.ref a&&(K.lookup a).any uj
 | .cls a,u=>u==.ref a&&(K.lookup a).any Ij
 | .ty n,u=>u==.type (Be n)
 | .bi n,u=>u==.builtin (xv n)
 |_,_=>ak
noncomputable def ZW (K:c7):List P->List au->Bool
 |[],us=>us.isEmpty
 |v::vs,us=>match us with|[]=>ak|u::us=>ajq K v u&&ZW K vs us
end
noncomputable def M4:List bV->List i5->Bool
 |[],es=>es.isEmpty
 |k::ks,es=>match es with|[]=>ak|e::es=>jC k e.key&&LX k&&M4 ks es
def amH(K:c7)(ks:List bV)(vs:List P)(u:au)(es:List i5):Bool:=M4 ks es&&ZW K vs (es.map (·.val))&&decide ks.Nodup&&!(u==.ref nG)
def ajr(K:c7)(v:P)(u:au):Bool:=match v with
 | .fd ks vs=>(L3 K u).any<|amH K ks vs u
 |v=>ajq K v u
def ajs(K:c7)(u:Option au)(v:P):List Int:=match v with| .fd _ _=>((u.bind<|L3 K).getD []).map (·.hash)|_=>[]
def ajt(w:kK)(v:P):List Int:=match v with| .fd ks _=>ks.map (um w)|_=>[]
noncomputable def k9 (K:c7) (x:bB):Option au:=match nsIn K jz x with
 |some (aa u)=>aa u
 |some aj=>match x=="__name__" with|true=>aj|false=>uD x
 |none=>aj
def adN(K:c7)(a:Nat)(d:cN):Bool:=(xi K a).any (λcd=>cd.hasDict&&MV cd.mro)&&(match d.d5 with|true=>d.mro.contains a|false=>plainOver K a&&makesIn K a)&&uR K (.ref a)&&d.tG.all λe=>!VL.contains (nm e.1)
abbrev FO:=Option<|Option au
noncomputable def ae8 (K:c7) (a:Nat) (d:cN):FO×Option au×Option Bool×Option (List au):=match d.d5 with
 |false=>(iZ K (.ref a) "__init__",sA K<| .ref d.init,aj,aj)
 |true=>(iZ K (.ref a) "__class__",aj,subIn K (.ref a)<| .type "BaseException",(xi K a).map (·.mro))
noncomputable def ae9 (d:cN):FO×Option au×Option Bool×Option (List au):=match d.d5 with
 |false=>(aa<|aa<| .ref d.init,aa<| .type "function",aj,aj)
 |true=>(aa<|aa<| .builtin "object.__class__",aj,aa ag,aa<|d.mro.map jX++[.type "Exception",.type "BaseException",.type "object"])
def adO(K:c7)(a:Nat)(d:cN):(FO×FO×FO)×List FO×List (FO×Option au)×(Option au×Option Bool)×(FO×Option au×Option Bool×Option (List au)):=
 ((iZ K (.ref a) "__getattribute__",iZ K (.ref a) "__getattr__",iZ K (.ref a) "__setattr__"),d.fields.map λi=>iZ K (.ref a)<|nm i,d.tG.map λe=>(iZ K (.ref a)<|nm e.1,sA K<| .ref e.2),(sA K<| .ref a,AR K (.ref a)<| .type "type"),ae8 K a d)
def adP(d:cN):(FO×FO×FO)×List FO×List (FO×Option au)×(Option au×Option Bool)×(FO×Option au×Option Bool×Option (List au)):=
 ((aa<|aa<| .builtin<|if d.d5 then "BaseException.__getattribute__" else "object.__getattribute__",aa aj,aa<|aa<| .builtin "object.__setattr__"),d.fields.map λ_=>aa aj,d.tG.map λe=>(aa<|aa<| .ref e.2,aa<| .type "function"),(aa<| .type "type",aa ag),ae9 d)
noncomputable def pE (K:c7) (a:Nat):Option oJ:=(K.lookup a).bind λo=>match o.data with| .func fd=>aa fd|_=>aj
noncomputable def mL (fd:oJ):List dO:=match fd.body with| .stmts b=>b|_=>[]
noncomputable def ah1 (b:FuncBody):Bool:=match b with| .stmts _=>ag|_=>ak
noncomputable def agR (k:ScopeKind):Bool:=k==.function
noncomputable def aaA (k:i6):Bool:=!(k==.free)
noncomputable def akl (k:Option i6):Bool:=k==aa .local||k==aa .cell
def akm(K:c7)(v:au):Bool:=v==.none||v==.ref (acL v)&&(K.lookup<|acL v).any λo=>(adL o.data).isSome
def akn(K:c7)(fd:oJ):Bool:=ah1 fd.body&&fd.closure.isEmpty&&dk fd.globals jz&&dk fd.builtins kX&&codeIn K fd.code fd.qualname&&akm K fd.defaults
def ako(s:ic):Bool:=agR s.kind&&!s.isCoroutine&&!s.isGenerator&&s.names.all λe=>aaA e.2
noncomputable def akp (p:DM):Bool:=p.posonlyargs.isEmpty&&p.vararg.isNone&&p.kwonlyargs.isEmpty&&p.kwarg.isNone
def akq(F:aT)(s:ic):Bool:=decide F.params.Nodup&&F.params.all λi=>akl<|s.names.lookup<|nm i
def afa(K:c7)(F:aT)(fd:oJ):Bool:=akn K fd&&ako fd.scope&&akp fd.params&&akq F fd.scope
def aju(K:c7)(e:Nat×aT):List dO×List bB:=match pE K e.1 with|some fd=>(gn e.2.body<|mL fd,fd.params.args.map (·.arg))|none=>([],[])
def ajv(K:c7)(e:Nat×aT):List dO×List bB:=match pE K e.1 with|some fd=>(mL fd,e.2.params.map nm)|none=>([],[])
noncomputable def agS (d:uI):Option Kv:=match d with| .cls cd=>aa cd|_=>aj
def agT(K:c7)(C:bj):Bool:=(K.lookup C).any λo=>(agS o.data).any λcd=>!cd.hasDel&&!cd.mro.isEmpty
noncomputable def Ps (k:i6):Bool:=!(k==.cell)
noncomputable def agU (k:Option i6):Bool:=k==aa .globalImplicit
abbrev TH(K:c7):oJ:=(pE K 851).getD default
noncomputable abbrev ps (a b c d:Nat):ca:=⟨a,b,c,d⟩
def ah2:List dO:=[.Expr (.Call (.Attribute (.Name "Exception" (ps 8 8 8 17)) "__init__" (ps 8 8 8 26)) [.Name (nm 9)<|ps 8 27 8 31,.Name (nm 6)<|ps 8 33 8 37] []<|ps 8 8 8 38)<|ps 8 8 8 38,.Assign [.Attribute (.Name (nm 9)<|ps 9 8 9 12) (nm 6)<|ps 9 8 9 17] (.Name (nm 6)<|ps 9 20 9 24)<|ps 9 8 9 24]
def ah3:List dO:=[.Expr (.Call (.Attribute (.Name "F77Error" (ps 17 8 17 16)) "__init__" (ps 17 8 17 25)) [.Name (nm 9)<|ps 17 26 17 30,.Name (nm 6)<|ps 17 32 17 36] []<|ps 17 8 17 37)<|ps 17 8 17 37,.Assign [.Attribute (.Name (nm 9)<|ps 18 8 18 12) (nm 7)<|ps 18 8 18 17] (.Name (nm 7)<|ps 18 20 18 24)<|ps 18 8 18 24]
noncomputable abbrev FB:aT:=⟨[9,6],[],.nil⟩
noncomputable abbrev FI:aT:=⟨[9,7,6],[],.nil⟩
def acN(K:c7)(F:aT)(gQ:bB)(a:bj):Bool:=(pE K a).any λfd=>afa K F fd&&(fd.scope.names.all λe=>Ps e.2)&&agU (fd.scope.names.lookup gQ)
def WU(K:c7)(a:bj):Option (List dO×List bB):=(pE K a).map λfd=>(mL fd,fd.params.args.map (·.arg))
def akr(K:c7):Bool:=mI.all λe=>(k9 (dM 50 K)<|nm e.1).any<|ajr (dM 50 K) e.2
def aks(K:c7):Bool:=nM.all λe=>(pE (dM 50 K) e.1).any λfd=>afa (dM 50 K) e.2 fd&&oB fd.scope.names e.2.body (mL fd)
structure EM(w:kK)(K:c7):Prop where
 j1:(MZ K 50&&MZ (dM 50 K) 3&&agT (dM 50 K) 82&&readsIn (dM 50 K) 38 (.type "type")&&uR (dM 50 K) (.ref 35)&&acN (dM 50 K) FB "Exception" 35&&acN (dM 50 K) FI "F77Error" 79)=ag
 j2:akr K=ag
 j3:mI.map (λe=>ajs (dM 50 K) (k9 (dM 50 K)<|nm e.1) e.2)=mI.map (λe=>ajt w e.2)
 j4:o6.all (λe=>adN (dM 50 K) e.1 e.2)=ag
 j5:o6.map (λe=>adO (dM 50 K) e.1 e.2)=o6.map (λe=>adP e.2)
 j6:aks K=ag
 j7:nM.map (aju<|dM 50 K)=nM.map (ajv<|dM 50 K)
 j8:(jG (dM 50 K) 82<| .ref 82,jG (dM 50 K) 82<| .type "Exception",jG (dM 50 K) 82<| .type "AttributeError",jG (dM 50 K) 82<| .type "NameError",xh (dM 50 K) (.ref 82) "__call__",AR (dM 50 K) (.ref 82)<| .type "type")=(aa ag,aa ag,aa ak,aa ak,aa<|aa<| .builtin "type.__call__",aa ag)
 j9:(iZ (dM 50 K) (.ref 82) "__init__",sA (dM 50 K)<| .ref 79,k9 (dM 50 K) "Exception",k9 (dM 50 K) "F77Error",k9 (dM 50 K) "IoFault",k9 (dM 50 K) "dict",nsIn K jz "law",xh (dM 50 K) (.ref 38) "__getattribute__",findCls (dM 50 K) (.ref 38) (.type "type") "__init__")=
  (aa<|aa<| .ref 79,aa<| .type "function",aa<| .type "Exception",aa<| .ref 38,aa<| .ref 82,aa<| .type "dict",aa<|aa<| .ref 1082,aa<|aa<| .builtin "type.__getattribute__",aa<| .val<| .ref 35)
 jb:(WU (dM 50 K) 35,WU (dM 50 K) 79)=(aa (ah2,FB.params.map nm),aa (ah3,FI.params.map nm))
 jl:pE (dM 50 K) 851=aa (TH<|dM 50 K)
 jd:∀(M:iy)(v:au),oR (dM 50 K) ⟨M.prog,M.w.params⟩ (bindArgs (TH<|dM 50 K) ⟨[v],[]⟩)=aa ((mT.params.map nm).zip [v,.int 32 1519,.int 7 1520,.int 15 1521,.int 38 1522,.int 1000000 1523,.int 19 1524,.int 72 1525,.int 40 1526])
 k1:∀S,oR (dM 50 K) S (LJ<| .ref 82)=aa (aa "Exception.__new__")
 k2:∀S,oR (dM 50 K) S (LI<| .ref 82)=aa (.ref 82)
 k3:∀S rest,oR (dM 50 K) S (wI "Exception.__new__" ⟨.ref 82::rest,[]⟩)=aa ()
def ah4:Prop:=∀xs:List Int,xs.length<=63->ba TT NN 12 ak (.p<| .fn 1082) [.p<| .fl<|xs.map .int] (iu 36 .free) (λv _=>v=.p (.bool ag)) λ_=>False
def agV:Prop:=∀(prog:oM)(w:kK)(K:c7)(s:aY)(mg mb mm:bB->Option au)(fa l:bj)(P:Params)(xs:List Int)(E:au->aY->Prop),EM w K->K.In s.heap->s.heap.Ns jz mg->s.heap.Ns kX mb->s.heap.NoLimit->s.heap.Ns nG mm->(∀x:bB,x≠"__name__"->mb x=uD x)->mg "law"=aa (.ref fa)->Well P s.heap (.ref l) (ofPy<| .list<|xs.map .int)->xs.length<=63->
 bw (bh prog w) KI (call (.ref fa) [.ref l]) (λv s'=>v=.bool ag/\(∀b o,s.heap.get? b=aa o->s'.heap.get? b=aa o)/\s'.os=s.os/\s'.gens=s.gens) E s
end
section
open PySem.Value renaming ref->ai,type->aJ,builtin->bv
open PySem.Expr renaming Name->aK,Tuple->dG,Attribute->d3,ListComp->dq
open Or renaming inl->az,inr->aX
open PySem.Stmt renaming Assign->fJ
open List.Mem renaming tail->ey,head->eB
open PySem.ScopeKind renaming function->b7
set_option genCtorIdx false
open PySem PySem.W PySem.Calls PyProof.Rows
set_option tactic.hygienic false
variable{j n tk k' C wa:Nat}{b t0:bj}{v:V}{A:qx}{s s' aH nw:aY}{x el kx vx:Env->M V}{Q:au->aY->Prop}{α β γ δ ω:Type}{c:Cn}{R:DR->aY->Prop}{G:GG}{h h' eY l4 zX h₀:bX}{F':Fz}{ks:List (Option bA)}{us its lF rest:List au}{g g' aP dL lG mu:Gh}{σ bP aF tI:H}{ρ:Bl}{p:qp}{o':O}{m' mm:Env}{es:Array i5}{mr mg mb:bB->Option au}{fr outer:List bS}{Rl:bX->Gh->α->β->Prop}{Sl:bX->Gh->γ->δ->Prop}{Qv:V->H->Prop}{Ev:H->Prop}{kvs Fw:List (bV×au)}{y:M V}{r value slice e e' elt ev:bA}{hi h1:Int}{items:Array au}{xs:M (List V)}{gB:List i5}{ox oT:cC}{cd:Kv}{vs:List V}{op:BoolOp}{bs:List β}{ts:Env->M Bool}{ns:Ks}{ud ut uc:au}{pG:V->List V->M V}{apos p1 R4 px zY pi pj p':ca}{N:tH}{sc:ic}{fd:oJ}{lk:Nat->Prop}{t1:kL}{dd dI:cN}{HA:Option Nat}{hm:SM}{CK:dO}{HD:List dO}{lY:bX->Fz->cC->α->Prop}{acc Z4:α}{use:Option (au->fv Unit)}{cf:Bool->V->List V->M V}
section
set_option genInjectivity false
def ahr:List Nat->Nat->Bool:=fT (λ_=>ag) λx _ k m=>!K3 m x&&k (m|||2^x)
theorem abE:∀l m,ahr l m=ag->l.Nodup/\∀x∈l,K3 m x=ak:=@lr _ _ (λ_ _=>⟨AG,λ_ h=>nomatch h⟩) λx l ih m h=>by
 have h:=tE.mp h;have i:=ih _ h.2;have a:∀y∈l,(K3 m y||Nat.testBit (2^x) y)=ak:=λy q=>Nat.testBit_or ..▸i.2 y q;exact ⟨w9.mpr ⟨λq=>dC<|(xb.mp<|a x q).2.symm.trans Nat.testBit_two_pow_self,i.1⟩,List.forall_mem_cons.mpr ⟨Vx _▸h.1,λy q=>(xb.mp<|a y q).1⟩⟩
def alT(t:Tx):Nat:=t.foldr (λc h=>c+256*h) 0 % 5771
theorem Ou:ma.Nodup/\ma.all (λt=>t.all (·<1000))=ag:=⟨aeD alT (λa b q e=>q<|e▸rfl) (abE _ 0 (by decide+kernel:ahr (ma.map alT) 0=ag)).1,by decide+kernel⟩
theorem u7(h:nm i=nm j):i=j:=by
 refine aah Ou λnd sm=>?_;have small:∀t∈ma,∀n,t≠[10000000+n]:=λt ht n e=>by
  have:=lO.mp (lO.mp sm t ht) (10000000+n)<|e▸eB _;have:=of_decide_eq_true this;exact eH 0<|dj (.n 1) (.n 0) [(1,.a (.a (.n 10000000)<| .v 0)<| .n 1,.n 1000)] rt this
 have un:∀{t u:List Nat},(⟨t.toArray⟩:bB)=⟨u.toArray⟩->t=u:=λe=>by injection e with e;exact congrArg Ep e
 unfold nm at h
 refine od (ma[i]?) (λt hi=>?_) λhi=>?_
 ·
  rw[hi]at h;refine od (ma[j]?) (λu hj=>?_) λhj=>?_
  ·
   rw[hj]at h;exact (List.getElem?_inj (pz.mp hi).1 nd).mp<|hi.trans<|(un h)▸hj.symm
  ·rw[hj]at h;exact (small t (w7 hi) j<|un h).elim
 ·
  rw[hi]at h;cases hj:ma[j]? with
  |some u=>rw[hj]at h;exact (small u (w7 hj) i<|un h.symm).elim
  |none=>
   rw[hj]at h;have:=un h;injection this with this
   exact Nat.add_left_cancel this
theorem GR{a b:Tx}(h:fM a=fM b):a=b:=by injection h with h;exact congrArg Ep h
theorem HE{a b:Bool}(h:(a||b)=ag):a=ag\/b=ag:=Ee.mp h
noncomputable abbrev xT (its:Array au) (n:Nat):cC:={cls:=aJ "tuple",data:=.seq its n}
noncomputable abbrev Nv (c d:bj) (vs:Array au):cC:={cls:=ai c,dict:=aa d,data:=.fields vs}
theorem ny{v:au}(e:jC (.s t) v=ag):∃tk,v=.str (fM t) tk:=by
 induction v using Lz<;>first|(exact ⟨_,congrArg (Ek · _)<|eq_of_beq e⟩)|exact dC e
theorem pn{n:Int}{v:au}(e:jC (.i n) v=ag):∃tk,v=.int n tk:=by
 induction v using Lz<;>first|(exact ⟨_,congrArg (AV · _) (eq_of_beq e).symm⟩)|exact dC e
theorem R5:jC (.s t) (.str (fM t) tk)=ag:=beq_self_eq_true<|fM t
theorem R6{n:Int}:jC (.i n) (.int n tk)=ag:=beq_self_eq_true n
theorem R7(v:au)(a b:bV)(ha:jC a v=ag)(hb:jC b v=ag):a=b:=by
 induction a using bV.casesOn with
 |s t=>
  obtain ⟨tk,rfl⟩:=ny ha;induction b using bV.casesOn with
  |s u=>exact congrArg bV.s<|GR<|eq_of_beq hb
  |i n=>exact dC hb
 |i n=>
  obtain ⟨tk,rfl⟩:=pn ha;induction b using bV.casesOn with
  |s u=>exact dC hb
  |i j=>exact congrArg bV.i (eq_of_beq hb).symm
section
variable{prog:oM}{w:kK}{E:au->aY->Prop}
theorem CL{x:bB}{n:Int}{Q:Bool->aY->Prop}(h:Q ak s):bw (bh prog w) A (eqBool (.str x t)<| .int n u) Q E s:=by
 unfold eqBool;refine fE<|ah (if_neg<|by intro e;cases eq_of_beq e) ?_;exact aR<|aeR<|J9 h
theorem CM{x:bB}{n:Int}{Q:Bool->aY->Prop}(h:Q ak s):bw (bh prog w) A (eqBool (.int n u)<| .str x t) Q E s:=by
 unfold eqBool;refine fE<|ah (if_neg<|by intro e;cases eq_of_beq e) ?_;exact aR<|aeS<|J9 h
theorem JR{a b:bV}{u v:au}{Q:Bool->aY->Prop}(hu:jC a u=ag)(hv:jC b v=ag)(h:Q (decide<|a=b) s):bw (bh prog w) A (eqBool u v) Q E s:=by
 cases a with
 |s t=>
  obtain ⟨tk,rfl⟩:=ny hu;cases b with
  |s t'=>
   obtain ⟨Mo,rfl⟩:=ny hv;refine wpAny_eqBool_str ?_;rwa[show decide (fM t=fM t')=decide (bV.s t=bV.s t')from decide_eq_decide.mpr ⟨λe=>congrArg bV.s<|GR e,λe=>by injection e with e;refine ah e ?_;rfl⟩]
  |i n=>
   obtain ⟨Mo,rfl⟩:=pn hv;exact CL (by rwa[decide_eq_false λe=>by contradiction]at h)
 |i n=>
  obtain ⟨tk,rfl⟩:=pn hu;cases b with
  |s t'=>
   obtain ⟨Mo,rfl⟩:=ny hv;exact CM (by rwa[decide_eq_false λe=>by contradiction]at h)
  |i j=>
   obtain ⟨Mo,rfl⟩:=pn hv;refine wpAny_eqBool_int ?_;rwa[show (n==j)=decide (bV.i n=bV.i j)from (AL.mpr<|by rw[beq_iff_eq,decide_eq_true_eq,bV.i.injEq])]
end
section
variable{M:iy}{E:au->aY->Prop}{Q:α->aY->Prop}{c:Prop}[Decidable c]{a b:fv α}
theorem wn(h:¬c)(k:bw M A b Q E s):bw M A (if c then a else b) Q E s:=ah (if_neg h)<|k
theorem wy(h:c)(k:bw M A a Q E s):bw M A (if c then a else b) Q E s:=ah (if_pos h)<|k
theorem wq(h:a=b)(k:bw M A b Q E s):bw M A a Q E s:=ah h<|k
end
def zZ(prog:oM)(w:kK):KeyKind prog w bV where
 is:=jC
 hash:=um w
 inj:=R7
 byValue:=λk v h=>by
  cases k with
  |s t=>obtain ⟨tk,rfl⟩:=ny h;rfl
  |i n=>obtain ⟨tk,rfl⟩:=pn h;rfl
 pyHash:=λ{A E s k v Q}hv h=>by
  cases k with
  |s t=>obtain ⟨tk,rfl⟩:=ny hv;exact wpAny_pyHash_str h
  |i n=>obtain ⟨tk,rfl⟩:=pn hv;exact wpAny_pyHash_int h
 eqBool:=λ{A E s a b u v Q}hu hv h=>JR hu hv h
 «strs»:=λk x t v h=>by
  cases k with
  |s u=>
   obtain ⟨tk,e⟩:=ny h;injection e with e
   subst e;cases v<;>first|rfl|exact AL.mpr ⟨λq=>by cases q,λq=>by cases q⟩|skip
  |i n=>cases h
structure GG where
 prog:oM
 w:kK
 K:c7
 h₀:bX
 T:Ig
 gens:Array KA
 os:KJ
 drawn:Drawn
abbrev GG.kk(G:GG):=zZ G.prog G.w
def bR(R:α->β->Prop):List α->List β->Prop
 |[],l=>match l with|[]=>True|_::_=>False
 |a::as,l=>match l with|[]=>False|b::bs=>R a b/\bR R as bs
section
variable{R R':α->β->Prop}
theorem bR.nil(h:bR R [] l):l=[]:=by induction l using cZ with|nil=>rfl|cons=>exact h.elim
theorem bR.cons(h:bR R (a::as) l):∃b bs,l=b::bs/\R a b/\bR R as bs:=by induction l using cZ with|nil=>exact h.elim|cons b bs=>exact (jY b bs rfl h)
theorem bR.bL(k:∀a b,R a b->R' a b):∀{as}{bs},bR R as bs->bR R' as bs:=@lr _ _
 (@λbs h=>by induction bs using cZ with|nil=>trivial|cons=>exact h.elim)
 (λa as ih=>@λbs h=>by induction bs using cZ with|nil=>exact h.elim|cons b bs=>exact ⟨k _ _ h.1,ih h.2⟩)
theorem bR.length:∀{as}{bs},bR R as bs->as.length=bs.length:=@lr _ _
 (@λbs h=>by induction bs using cZ with|nil=>rfl|cons=>exact h.elim)
 (λa as ih=>@λbs h=>by induction bs using cZ with|nil=>exact h.elim|cons b bs=>exact congrArg (·+1)<|ih h.2)
theorem bR.append:∀{as alU}{bs alV},bR R as bs->bR R alU alV->bR R (as++alU) (bs++alV):=@lr _ _
 (@λ_ bs _ h h'=>by induction bs using cZ with|nil=>exact h'|cons=>exact h.elim)
 (λa as ih=>@λ_ bs _ h h'=>by induction bs using cZ with|nil=>exact h.elim|cons b bs=>exact ⟨h.1,ih h.2 h'⟩)
theorem bR.drop:∀{as}{bs}k,bR R as bs->bR R (as.drop k) (bs.drop k):=@lr _ _
 (@λbs k h=>by induction k using jP with|zero=>exact h|succ k=>(induction bs using cZ with|nil=>trivial|cons=>exact h.elim))
 (λa as ih=>@λbs k h=>by induction k using jP with|zero=>exact h|succ k=>(induction bs using cZ with|nil=>exact h.elim|cons b bs=>exact ih k h.2))
theorem bR.take:∀{as}{bs}k,bR R as bs->bR R (as.take k) (bs.take k):=@lr _ _
 (@λbs k h=>by induction k using jP with|zero=>trivial|succ k=>(induction bs using cZ with|nil=>trivial|cons=>exact h.elim))
 (λa as ih=>@λbs k h=>by induction k using jP with|zero=>trivial|succ k=>(induction bs using cZ with|nil=>exact h.elim|cons b bs=>exact ⟨h.1,ih k h.2⟩))
theorem bR.kM:∀{as}{bs}{i:Nat}{a:α},bR R as bs->as[i]?=aa a->∃b,bs[i]?=aa b/\R a b:=@lr _ _
 (@λ_ _ _ _ e=>cV e)
 (λa as ih=>@λbs i _ h e=>by
  induction bs using cZ with
  |nil=>exact h.elim
  |cons b bs=>induction i using jP with
   |zero=>obtain rfl:=fh e;exact (b0 b rfl h.1)
   |succ i=>exact ih (i:=i) h.2 e)
theorem bR.set:∀{as}{bs}i{a:α}{b:β},bR R as bs->R a b->bR R (as.set i a) (bs.set i b):=@lr _ _
 (@λbs i _ _ h r=>by induction bs using cZ with|nil=>exact trivial|cons=>exact h.elim)
 (λx as ih=>@λbs i _ _ h r=>by
  induction bs using cZ with
  |nil=>exact h.elim
  |cons y bs=>induction i using jP with
   |zero=>exact ⟨r,h.2⟩
   |succ i=>exact ⟨h.1,ih i h.2 r⟩)
theorem bR.replicate{b:β}(r:R a b):∀k,bR R (iu k a) (iu k b):=@nr _
 (trivial)
 (λk ih=>⟨r,ih⟩)
theorem bR.map(k:∀a b,akV a b->R (f a) b):∀{as:List γ}{bs},bR akV as bs->bR R (as.map f) bs:=@lr _ _
 (@λbs h=>by induction bs using cZ with|nil=>trivial|cons=>exact h.elim)
 (λa as ih=>@λbs h=>by induction bs using cZ with|nil=>exact h.elim|cons b bs=>exact ⟨k _ _ h.1,ih h.2⟩)
end
abbrev Fz:=bj->Prop
structure oE(mk:Array au->Nat->cC)(h:bX)(F:Fz)(R:List au->Prop)(u:au):Prop where
 out:∃a its n,u=ai a/\F a/\h.get? a=aa (mk its.toArray n)/\R its
structure Fx(G:GG)(h:bX)(F:Fz)(ks:List bV)(R:List au->Prop)(u:au):Prop where
 out:∃a kvs,u=ai a/\F a/\h.DictOf G.kk a kvs/\(a==nG)=ak/\ks=kvs.map (·.1)/\ks.all LX=ag/\R (kvs.map (·.2))
structure Z5(h:bX)(F:Fz)(lo hi:Int)(u:au):Prop where
 out:∃a yz Nw Z6,u=ai a/\F a/\h.get? a=aa {cls:=aJ "range",data:=.fields #[.int lo yz,.int hi Nw,.int 1 Z6]}
mutual
def PR(G:GG)(h:bX)(F:Fz):P->au->Prop
 | .none,u=>u=.none
 | .bool b,u=>u=.bool b
 | .int i,u=>∃t,u=.int i t
 | .str s,u=>sd s=ag/\∃t,u=.str (fM s) t
 | .jH vs,u=>oE xT h F (IW G h F vs) u
 | .fl vs,u=>oE gv h F (IW G h F vs) u
 | .fd ks vs,u=>Fx G h F ks (IW G h F vs) u
 | .BN lo hi,u=>Z5 h F lo hi u
 | .fn a,u=>u=ai a/\(G.K.lookup a).any uj=ag
 | .cls a,u=>u=ai a/\(G.K.lookup a).any Ij=ag
 | .ty n,u=>u=aJ (Be n)
 | .bi n,u=>u=.builtin (xv n)
def IW(G:GG)(h:bX)(F:Fz):List P->List au->Prop
 |[],us=>match us with|[]=>True|_::_=>False
 |v::vs,us=>match us with|[]=>False|u::us=>PR G h F v u/\IW G h F vs us
end
theorem gu:∀{vs}{us},IW G h F vs us=bR (PR G h F) vs us:=@lr _ _
 (@λus=>by induction us using cZ<;>rfl)
 (λv vs ih=>@λus=>by induction us using cZ with|nil=>rfl|cons u us=>exact congrArg (PR G h F v u/\·) ih)
def lH(h:bX)(F:Fz)(h':bX)(F':Fz):Prop:=∀b o,F b->h.get? b=aa o->F' b/\h'.get? b=aa o
section
variable{F:Fz}
theorem oE.bL{mk:Array au->Nat->cC}{R R':List au->Prop}(x:lH h F h' F')(k:∀its,R its->R' its)(r:oE mk h F R u):oE mk h' F' R' u:=G2 r.out λa its n e f g q=>⟨a,its,n,e,(x _ _ f g).1,(x _ _ f g).2,k _ q⟩
theorem Fx.bL{ks:List bV}{R R':List au->Prop}(x:lH h F h' F')(k:∀its,R its->R' its)(r:Fx G h F ks R u):Fx G h' F' ks R' u:=oi r.out λa kvs e f w=>mY w.1 λo es ep d=>⟨a,kvs,e,(x _ _ f d.1).1,⟨o,es,ep,(x _ _ f d.1).2,d.2⟩,w.2.1,w.2.2.1,w.2.2.2.1,k _ w.2.2.2.2⟩
theorem PR.bL(x:lH h F h' F')(v:P):∀{u},PR G h F v u->PR G h' F' v u:=@λu=>P.rec
 (λ_ r=>r) (λ_ _ r=>r) (λ_ _ r=>r) (λ_ _ r=>r) (λvs ih u r=>oE.bL x ih r) (λvs ih u r=>oE.bL x ih r) (λks vs ih u r=>Fx.bL x ih r)
 (λlo hi u r=>⟨aly r.out λa yz Nw Z6 e f g=>(amB a yz Nw Z6 e (x _ _ f g).1 (x _ _ f g).2)⟩) (λ_ _ r=>r) (λ_ _ r=>r) (λ_ _ r=>r) (λ_ _ r=>r)
 (λus r=>by induction us using cZ<;>exact r) (λv vs ih afO us r=>by induction us using cZ with|nil=>exact r|cons u us=>exact ⟨ih _ r.1,afO _ r.2⟩) v u
end
abbrev qp:=bj×bj
abbrev Bl:=Nat->Option (Option qp)
structure Gh where
 ρ:Bl
 F:Fz
def jg(ρ:Bl)(b:bj):Prop:=∃n p,ρ n=aa (aa p)/\(b=p.1\/b=p.2)
structure At(ρ:Bl)(n:Nat)(u:au):Prop where
 out:∃a st,u=ai a/\ρ n=aa st/\∀p,st=aa p->p.1=a
abbrev aau(ρ:Bl)(n:Nat)(u:au):Prop:=At ρ n u/\10<=n
noncomputable def afP:V->Bool| .ob n=>gb 10 n| .tm _=>ak|_=>ag
def VR(G:GG)(h:bX)(g:Gh)(v:V)(u:au):Prop:=match v with
 | .p x=>PR G h g.F x u| .ob n=>At g.ρ n u| .tm n=>At g.ρ n u| .dy n=>aau g.ρ n u
def qW(o:cC):Prop:=o.cls=aJ "traceback"/\∃ts,o.data=.fields ts
def ER{A:Type}(R:A->au->Prop)(e:bV×A)(kv:bV×au):Prop:=(e.1=kv.1/\LX e.1=ag)/\R e.2 kv.2
def FR{A:Type}(R:A->au->Prop)(f:Nat×A)(d:i5):Prop:=(∃t,d.key=.str (nm f.1) t)/\R f.2 d.val
structure rH(G:GG)(h:bX)(F:Fz)(T:bj):Prop where
 out:∃oT ts,h.get? T=aa oT/\oT.cls=aJ "traceback"/\oT.data=.fields ts/\3<ts.size/\G.h₀.get? T=aj/\¬F T
structure ade(G:GG)(h:bX)(F:Fz)(vs:Array au):Prop where
 size:2<vs.size
 tb:vs[1]?=aa .none\/∃T,vs[1]?=aa (ai T)/\rH G h F T
structure ajN(G:GG)(h:bX)(g:Gh)(xs:List P)(p:qp):Prop where
 out:∃its n,p.2=p.1/\h.get? p.1=aa (gv its.toArray n)/\bR (PR G h g.F) xs its
structure R8(G:GG)(h:bX){A:Type}(R:A->au->Prop)(es:List<|bV×A)(p:qp):Prop where
 out:∃kvs,p.2=p.1/\h.DictOf G.kk p.1 kvs/\bR (ER R) es kvs
structure BX(G:GG)(h:bX){A:Type}(R:A->au->Prop)(o:cC)(fs:List<|Nat×A)(p:qp):Prop where
 ne:p.1≠p.2
 ob:h.get? p.1=aa o
 fs:∃gB n,h.get? p.2=aa (lQ gB n)/\bR (FR R) fs gB
def OR(G:GG)(h:bX)(g:Gh)(o:O)(p:qp):Prop:=match o with
 | .free=>False| .nh=>False
 | .ls xs=>ajN G h g xs p
 | .dc es=>R8 G h (PR G h g.F) es p
 | .rd es=>R8 G h (aau g.ρ) es p
 | .iF c fs=>BX G h (λv u=>VR G h g v u/\afP v=ag) (AQ c p.2) fs p
 | .jm c fs=>∃vs,BX G h (PR G h g.F) (Nv c p.2 vs) fs p/\ade G h g.F vs
def De(G:GG)(h:bX)(g:Gh)(o:Option O)(st:Option<|Option qp):Prop:=
 ((o=aj\/o=aa .free)/\st=aj)\/(o=aa .nh/\st=aa aj)\/∃x p,o=aa x/\st=aa (aa p)/\OR G h g x p
end
structure kT(G:GG)(g:Gh)(σ:H)(h:bX):Prop where
 at_:∀n,De G h g (aW σ n) (g.ρ n)
 apart:∀n m p q,g.ρ n=aa (aa p)->g.ρ m=aa (aa q)->n≠m->(p.1≠q.1/\p.1≠q.2)/\p.2≠q.1/\p.2≠q.2
 new:∀b,jg g.ρ b->G.h₀.get? b=aj
 fz:∀b,g.F b->¬jg g.ρ b/\∃o,h.get? b=aa o
structure eJ(h:bX)(g:Gh)(h':bX)(g':Gh):Prop where
 keep:∀b o,h.get? b=aa o->¬jg g.ρ b->¬qW o->∃sl,h'.get? b=aa {o with slots:=sl}/\(o.cls≠aJ "frame"->sl=o.slots)
 ji:lH h g.F h' g'.F
 rA:∀n st,g.ρ n=aa st->g'.ρ n=aa st\/g'.ρ n=aa aj
 fresh:∀b,jg g'.ρ b\/g'.F b->(jg g.ρ b\/g.F b)\/h.get? b=aj
 jW:∀b o,h.get? b=aa o->∃o',h'.get? b=aa o'
def sZ(h:bX)(g:Gh)(b:bj):Prop:=(∃o,h.get? b=aa o)/\¬(jg g.ρ b\/g.F b)
theorem eJ.refl:eJ h g h g:=⟨λb o e _ _=>(b0 o.slots e λ_=>rfl),λ_ _ f e=>⟨f,e⟩,λ_ _ e=>az e,λ_ f=>az f,λ_ o e=>⟨o,e⟩⟩
theorem eJ.Z7(x:eJ h g h' g')(p:sZ h g b):sZ h' g' b:=by
 obtain ⟨⟨o,e⟩,np⟩:=p;refine ⟨x.jW b o e,λf=>(x.fresh b f).elim np λq=>?_⟩;rw[q]at e;exact cV e
theorem eJ.trans(x:eJ eY aP l4 dL)(y:eJ l4 dL zX lG):eJ eY aP zX lG where
 keep:=λb o e nf nt=>by
  refine cE (x.keep b o e nf nt) λsl e2 k2=>?_;by_cases f:aP.F b
  ·obtain ⟨f2,am3⟩:=x.ji b o f e
   exact (b0 o.slots (y.ji b o f2 am3).2 λ_=>rfl)
  ·have p:=x.Z7 ⟨⟨o,e⟩,λq=>q.elim nf f⟩
   exact cE (y.keep b _ e2 (λq=>p.2<|az q) nt) λafQ e3 k3=>(b0 afQ e3 λq=>(k3 q).trans<|k2 q)
 ji:=λb o f e=>y.ji b o (x.ji b o f e).1 (x.ji b o f e).2
 rA:=λn st e=>(x.rA n st e).elim (y.rA n st) λe=>aX ((y.rA n _ e).elim id id)
 fresh:=λb f=>(y.fresh b f).elim (x.fresh b) λq=>aX (by
  cases e:eY.get? b with
  |none=>rfl
  |some o=>obtain ⟨o',e'⟩:=x.jW b o e;rw[q]at e';exact cV e')
 jW:=λb o e=>by obtain ⟨o',e'⟩:=x.jW b o e;exact y.jW b o' e'
theorem At.bL(k:∀n st,ρ n=aa st->Fy n=aa st\/Fy n=aa aj)(a:At ρ n u):At Fy n u:=by
 refine oi a.out λb st e r q=>?_;rcases k n st r with r|r
 ·exact ⟨b,st,e,r,q⟩
 ·exact ⟨b,aj,e,r,λ_ z=>cV z⟩
theorem VR.bL(f:lH h g.F h' g'.F)(k:∀n st,g.ρ n=aa st->g'.ρ n=aa st\/g'.ρ n=aa aj)(r:VR G h g v u):VR G h' g' v u:=by
 induction v using V.casesOn with
 |p x=>exact PR.bL f x r
 |dy n=>exact ⟨At.bL k r.1,r.2⟩
 |_=>exact At.bL k r
theorem VR.ext(x:eJ h g h' g')(r:VR G h g v u):VR G h' g' v u:=r.bL x.ji x.rA
theorem PR.ext(x:eJ h g h' g'){v:P}(r:PR G h g.F v u):PR G h' g'.F v u:=PR.bL x.ji v r
theorem OR.bL(f:lH h g.F h' g'.F)(k:∀n st,g.ρ n=aa st->g'.ρ n=aa st\/g'.ρ n=aa aj)(e1:h'.get? p.1=h.get? p.1)(e2:h'.get? p.2=h.get? p.2)(tb:∀T,rH G h g.F T->rH G h' g'.F T)(r:OR G h g o p):OR G h' g' o p:=by
 have afR:∀{A}{R R':A->au->Prop}{ob:cC}{fs},(∀a u,R a u->R' a u)->BX G h R ob fs p->BX G h' R' ob fs p:=λk q=>lK q.fs λgB n e r=>⟨q.ne,e1.trans q.ob,gB,n,e2.trans e,r.bL λ_ _ z=>⟨z.1,k _ _ z.2⟩⟩
 have afS:∀{A}{R R':A->au->Prop}{es},(∀a u,R a u->R' a u)->R8 G h R es p->R8 G h' R' es p:=λk q=>by
  refine eh λcy bk=>?_;obtain ⟨kvs,e,⟨o,es,ep,g,z⟩,r⟩:=q.out;exact bk<|⟨kvs,e,⟨o,es,ep,e1.trans g,z⟩,r.bL λ_ _ z=>⟨z.1,k _ _ z.2⟩⟩
 induction o using O.casesOn with
 |free=>exact r
 |nh=>exact r
 |ls xs=>exact oi r.out λits n e g q=>⟨its,n,e,e1.trans g,q.bL λv _=>PR.bL f v⟩
 |dc es=>exact afS (λv _=>PR.bL f v) r
 |rd es=>exact afS (λ_ _ r=>⟨At.bL k r.1,r.2⟩) r
 |iF c fs=>exact afR (λ_ _ r=>⟨VR.bL f k r.1,r.2⟩) r
 |jm c fs=>
  exact cE r λvs q z=>⟨vs,afR (λv _=>PR.bL f v) q,z.size,z.tb.imp id λw=>cE w λT e t=>(b0 T e<|tb T t)⟩
theorem OR.there(r:OR G h g o p)(hb:b=p.1\/b=p.2):∃ob,h.get? b=aa ob/\¬qW ob/\ob.cls≠aJ "frame":=by
 have afR:∀{A}{R:A->au->Prop}{ob:cC}{fs},(∃c,ob.cls=ai c)->BX G h R ob fs p->∃ob,h.get? b=aa ob/\¬qW ob/\ob.cls≠aJ "frame":=λhc q=>hc.elim λc hc=>by
  refine lK q.fs λgB n e _=>?_;rcases hb with hb|hb<;>subst hb
  ·exact (tc _ q.ob (λz=>by have:=z.1;rw[hc]at this;contradiction)<|by refine ah hc ?_;intro z;contradiction)
  ·exact (tc _ e (λz=>by obtain ⟨_,ts,z⟩:=z;contradiction) λz=>absurd (lP z)<|dc rt)
 have afS:∀{A}{R:A->au->Prop}{es},R8 G h R es p->∃ob,h.get? b=aa ob/\¬qW ob/\ob.cls≠aJ "frame":=λq=>by
  refine eh λcy bk=>?_;obtain ⟨kvs,e,⟨o,es,ep,g,z,hd,_⟩,_⟩:=q.out;refine bk ?_;have:b=p.1:=hb.elim id λq=>q.trans e;subst this;exact (tc o g (λq=>by obtain ⟨_,ts,q⟩:=q;rw[hd]at q;contradiction)<|ah z.1<|λq=>absurd (lP q)<|dc rt)
 induction o using O.casesOn with
 |free=>exact r.elim
 |nh=>exact r.elim
 |ls xs=>
  refine oi r.out λits n e g _=>?_;have:b=p.1:=hb.elim id λq=>q.trans e;subst this;exact (tc _ g (λq=>by obtain ⟨_,ts,q⟩:=q;contradiction) λz=>absurd (lP z)<|dc rt)
 |dc es=>exact afS r
 |rd es=>exact afS r
 |iF c fs=>exact afR ⟨c,rfl⟩ r
 |jm c fs=>exact cE r λvs q _=>afR ⟨c,rfl⟩ q
theorem De.of{st:Option (Option qp)}(r:De G h g (aa o) st)(h1:o≠.free)(h2:o≠.nh):∃p,st=aa (aa p)/\OR G h g o p:=by
 rcases r with ⟨r|r,_⟩|⟨r,_⟩|⟨x,p,r,e,z⟩
 ·exact Cm r
 ·injection r with r;exact (h1 r).elim
 ·injection r with r;exact (h2 r).elim
 ·injection r with r;subst r;exact (b0 p e z)
theorem kT.obj(R:kT G g σ h)(e:g.ρ n=aa (aa p)):∃o,aW σ n=aa o/\OR G h g o p:=by
 rcases R.at_ n with r|r|⟨x,q,r,e',z⟩
 ·replace r:=e▸r;cases r.2
 ·replace r:=e▸r;cases r.2
 ·replace e':=e▸e';cases e';exact (b0 x r z)
theorem kT.z0(R:kT G g σ h)(f:jg g.ρ b):∃ob,h.get? b=aa ob/\¬qW ob/\ob.cls≠aJ "frame":=eh λcy bk=>lK f λn p e hb=>cE (R.obj e) λo _ r=>bk<|r.there hb
theorem kT.H9(R:kT G g σ h)(e:h.get? b=aj):¬(jg g.ρ b\/g.F b):=λq=>by
 rcases q with q|q
 ·refine cE (R.z0 q) λo e' _=>?_;rw[e]at e';exact cV e'
 ·obtain ⟨o,e'⟩:=(R.fz b q).2;rw[e]at e';exact cV e'
theorem kg:∀(σ:H)n(o:O)k,aW (aG σ n o) k=if k=n then (aW σ n).map λ_=>o else aW σ k:=@lr _ _
 (λn o k=>(ite_self aj).symm)
 (λx r ih n o k=>by
  induction n using jP with
  |zero=>induction k using jP<;>rfl
  |succ n=>induction k using jP with
   |zero=>rfl
   |succ k=>
    refine ah (ih n o k) ?_;by_cases q:k=n
    ·exact (if_pos q).trans (if_pos<|congrArg (·+1) q).symm
    ·exact (if_neg q).trans (if_neg λz=>q<|pA z).symm)
theorem P4:∀(σ:H)(o:O)k,aW (σ++[o]) k=if k=σ.length then aa o else aW σ k:=@lr _ _
 (λo k=>by induction k using jP<;>rfl)
 (λx r ih o k=>by
  induction k using jP with
  |zero=>rfl
  |succ k=>
   refine ah (ih o k) ?_;by_cases q:k=r.length
   ·exact (if_pos q).trans (if_pos<|congrArg (·+1) q).symm
   ·exact (if_neg q).trans (if_neg λz=>q<|pA z).symm)
noncomputable abbrev Bl.fP (ρ:Bl) (n:Nat) (st:Option<|Option qp):Bl:=λk=>if k=n then st else ρ k
theorem kT.jx(R:kT G g σ h)(f:lH h g.F h' F')(cY:∀b,jg g.ρ b->h'.get? b=h.get? b)(tb:∀T,rH G h g.F T->rH G h' F' T)(fz:∀b,F' b->¬jg g.ρ b/\∃o,h'.get? b=aa o):kT G ⟨g.ρ,F'⟩ σ h' where
 at_:=λn=>(R.at_ n).imp id (Ey id λw=>oi w λx p e1 e2 z=>(gZ x p e1 e2<|z.bL (g':=⟨g.ρ,F'⟩) f (λ_ _=>az) (cY _ ⟨n,p,e2,az rfl⟩) (cY _ ⟨n,p,e2,aX rfl⟩) tb))
 apart:=R.apart
 new:=R.new
 fz:=fz
theorem kT.rz(R:kT G g σ h)(hp:g.ρ n=aa (aa p))(fx:lH h g.F h' g.F)(cY:∀b,jg g.ρ b->b≠p.1->b≠p.2->h'.get? b=h.get? b)(tb:∀T,rH G h g.F T->rH G h' g.F T)(z:OR G h' g o' p):kT G g (aG σ n o') h' where
 at_:=λk=>by
  rw[kg];by_cases q:k=n
  ·subst q
   exact cE (R.obj hp) λo e _=>ah (if_pos rfl)<|ah e<|aX<|aX<|gZ o' p rfl hp z
  ·refine ah (if_neg q)<|(R.at_ k).imp id<|Ey id λw=>oi w λx r e1 e2 y=>(gZ x r e1 e2 ?_)
   obtain ⟨⟨a1,a2⟩,a3,a4⟩:=R.apart k n r p e2 hp q;exact y.bL fx (λ_ _=>az) (cY _ ⟨k,r,e2,az rfl⟩ a1 a2) (cY _ ⟨k,r,e2,aX rfl⟩ a3 a4) tb
 apart:=R.apart
 new:=R.new
 fz:=λb f=>⟨(R.fz b f).1,by
  obtain ⟨o,e⟩:=(R.fz b f).2;exact ⟨o,(fx b o f e).2⟩⟩
theorem jg.fP{st:Option (Option qp)}(f:jg (ρ.fP n st) b):jg ρ b\/∃p,st=aa (aa p)/\(b=p.1\/b=p.2):=by
 refine eh λcy bk=>lK f λk p e hb=>bk ?_;by_cases q:k=n
 ·rw[Bl.fP,if_pos q]at e;exact aX ⟨p,e,hb⟩
 ·rw[Bl.fP,if_neg q]at e;exact az ⟨k,p,e,hb⟩
theorem kT.alloc(R:kT G g σ h){o:O}(free:g.ρ n=aj)(afp:aW bP n=aa o)(Z8:∀k,k≠n->aW bP k=aW σ k)(kp:∀b ob,h.get? b=aa ob->h'.get? b=aa ob)(f1:h.get? p.1=aj)(f2:h.get? p.2=aj)(n1:G.h₀.get? p.1=aj)(n2:G.h₀.get? p.2=aj)(z:OR G h' ⟨g.ρ.fP n<|aa<|aa p,g.F⟩ o p):kT G ⟨g.ρ.fP n<|aa<|aa p,g.F⟩ bP h'/\eJ h g h' ⟨g.ρ.fP n<|aa<|aa p,g.F⟩:=by
 have rA:∀k st,g.ρ k=aa st->(g.ρ.fP n<|aa<|aa p) k=aa st:=λk st e=>by
  delta Bl.fP;refine ah (if_neg λq=>by rw[q,free]at e;exact cV e) ?_;exact e
 have fx:lH h g.F h' g.F:=λb ob f e=>⟨f,kp b ob e⟩
 have nb:∀k q,g.ρ k=aa (aa q)->∀b,b=q.1\/b=q.2->b≠p.1/\b≠p.2:=λk q e b hb=>cE (R.z0 ⟨k,q,e,hb⟩) λob eo _=>⟨(λz=>by rw[z,f1]at eo;exact cV eo),(λz=>by rw[z,f2]at eo;exact cV eo)⟩
 refine ⟨⟨λk=>?_,λk m q r hq hr ne=>?_,λb f=>?_,λb f=>⟨λw=>?_,?_⟩⟩,⟨λb ob e _ _=>(b0 ob.slots (kp b ob e) λ_=>rfl),fx,λk st e=>az<|rA k st e,λb f=>?_,λb ob e=>⟨ob,kp b ob e⟩⟩⟩
 ·by_cases q:k=n
  ·subst q
   exact aX<|aX<|gZ o p afp (if_pos rfl) z
  ·show De G h' _ (aW bP k)<|if k=n then _ else g.ρ k
   refine ah (Z8 k q)<|ah (if_neg q)<|(R.at_ k).imp id<|Ey id λw=>oi w λx r e1 e2 y=>(gZ x r e1 e2 ?_);exact cE (y.there<|az rfl) λo1 g1 _=>cE (y.there<|aX rfl) λo2 g2 _=>y.bL (g':=⟨g.ρ.fP n<|aa<|aa p,g.F⟩) fx (λk st e=>az<|rA k st e) ((kp _ _ g1).trans g1.symm) ((kp _ _ g2).trans g2.symm) λT t=>lK t.out λoT ts t1 t2=>⟨oT,ts,kp _ _ t1,t2⟩
 ·have sp:∀{k:Nat}{q},(g.ρ.fP n<|aa<|aa p) k=aa (aa q)->(k=n/\q=p)\/g.ρ k=aa (aa q):=λ{k q}e=>by
   by_cases w:k=n
   ·rw[Bl.fP,if_pos w]at e;injection e with e;injection e with e;exact az ⟨w,e.symm⟩
   ·rw[Bl.fP,if_neg w]at e;exact aX e
  rcases sp hq with ⟨w1,w2⟩|alW<;>rcases sp hr with ⟨w3,w4⟩|ag8
  ·exact (ne<|w1.trans w3.symm).elim
  ·subst w2;have:=nb m r ag8;exact (k8 ⟨(this _<|az rfl).1.symm,(this _<|aX rfl).1.symm⟩ (this _<|az rfl).2.symm (this _<|aX rfl).2.symm)
  ·subst w4;have:=nb k q alW;exact (k8 ⟨(this _<|az rfl).1,(this _<|az rfl).2⟩ (this _<|aX rfl).1 (this _<|aX rfl).2)
  ·exact R.apart k m q r alW ag8 ne
 ·rcases f.fP with f|⟨q,e,hb⟩
  ·exact R.new b f
  ·cases e;rcases hb with rfl|rfl
   ·exact n1
   ·exact n2
 ·rcases w.fP with w|⟨q,e,hb⟩
  ·exact (R.fz b f).1 w
  ·obtain ⟨ob,e'⟩:=(R.fz b f).2
   cases e;rcases hb with rfl|rfl
   ·rw[f1]at e';exact cV e'
   ·rw[f2]at e';exact cV e'
 ·obtain ⟨ob,e⟩:=(R.fz b f).2;exact ⟨ob,kp b ob e⟩
 ·rcases f with f|f
  ·rcases f.fP with f|⟨q,e,hb⟩
   ·exact az<|az f
   ·cases e;rcases hb with rfl|rfl
    ·exact aX f1
    ·exact aX f2
  ·exact az<|aX f
theorem kT.ahs(R:kT G g σ h)(hp:g.ρ n=aa (aa p)){st:Option (Option qp)}(hs:(o=.free/\st=aj)\/(o=.nh/\st=aa aj))(zI:∀k x q,k≠n->aW σ k=aa x->OR G h g x q->OR G h ⟨g.ρ.fP n st,λb=>g.F b\/b=p.1⟩ x q):kT G ⟨g.ρ.fP n st,λb=>g.F b\/b=p.1⟩ (aG σ n o) h:=by
 have ft:∀{b},jg (g.ρ.fP n st) b->∃k q,k≠n/\g.ρ k=aa (aa q)/\(b=q.1\/b=q.2):=λf=>by
  refine eh λcy bk=>lK f λk q e hb=>bk ?_;by_cases w:k=n
  ·rw[Bl.fP,if_pos w]at e
   rcases hs with ⟨_,hs⟩|⟨_,hs⟩<;>rw[hs]at e<;>nomatch e
  ·rw[Bl.fP,if_neg w]at e;exact (gZ k q w e hb)
 refine ⟨λk=>?_,λk m q r hq hr ne=>?_,λb f=>?_,λb f=>⟨λw=>?_,?_⟩⟩
 ·rw[kg]
  by_cases q:k=n
  ·subst q
   refine cE (R.obj hp) λx e _=>?_;show De G h _ _<|if k=k then st else _;refine ah (if_pos rfl)<|ah (if_pos rfl)<|ah e ?_;rcases hs with ⟨rfl,hs⟩|⟨rfl,hs⟩
   ·exact az ⟨aX rfl,hs⟩
   ·exact aX<|az ⟨rfl,hs⟩
  ·show De G h _ _<|if k=n then st else _
   exact ah (if_neg q)<|ah (if_neg q)<|(R.at_ k).imp id<|Ey id λw=>oi w λx r e1 e2 y=>(gZ x r e1 e2<|zI k x r q e1 y)
 ·have:∀{k q},(g.ρ.fP n st) k=aa (aa q)->g.ρ k=aa (aa q):=λ{k q}e=>by
   by_cases w:k=n
   ·(delta Bl.fP at e;replace e:=(if_pos w)▸e)
    rcases hs with ⟨_,hs⟩|⟨_,hs⟩<;>rw[hs]at e<;>nomatch e
   ·(delta Bl.fP at e;rw[if_neg w]at e);exact e
  exact R.apart k m q r (this hq) (this hr) ne
 ·exact oi (ft f) λk q _ e hb=>R.new b ⟨k,q,e,hb⟩
 ·refine oi (ft w) λk q ne e hb=>?_
  rcases f with f|f
  ·exact (R.fz b f).1 ⟨k,q,e,hb⟩
  ·obtain ⟨⟨a1,_⟩,a3,_⟩:=R.apart k n q p e hp ne
   rcases hb with hb|hb
   ·exact a1<|hb.symm.trans f
   ·exact a3<|hb.symm.trans f
 ·rcases f with f|f
  ·exact (R.fz b f).2
  ·exact cE (R.z0 ⟨n,p,hp,az f⟩) λo e _=>⟨o,e⟩
section
set_option genInjectivity false
def wb(env:bS)(b:bj):Prop:=b=env.locals\/∃x,env.cells.lookup x=aa b
structure fV(G:GG)(h:bX)(g:Gh)(env:bS)(m:Env):Prop where
 kind:env.scope.kind=b7
 fy:env.globals=jz
 pQ:env.builtins=kX
 ns:∃mr,h.Ns env.locals mr/\∀i v,av m i=aa v->env.kindOf (nm i)=aa .local->∃u,mr (nm i)=aa u/\VR G h g v u
 cY:∀b,wb env b->sZ h g b/\G.h₀.get? b=aj
 cells:∀x a,env.cells.lookup x=aa a->∃ov,h.IsCell a ov
 n4:∀i v,av m i=aa v->(env.kindOf (nm i)=aa .cell\/env.kindOf (nm i)=aa .free)->∃a u,env.cells.lookup (nm i)=aa a/\h.IsCell a (aa u)/\VR G h g v u
 qq:∀x,env.kindOf x=aa .cell\/env.kindOf x=aa .free->(env.cells.lookup x).isSome=ag
 apart:∀x y a,env.cells.lookup x=aa a->env.cells.lookup y=aa a->x=y
structure Cn where
 A:qx
 fr:List bS
 hd:Bool
 d:Nat
 lv:Nat
 lk:Nat->Prop
structure Cn.Ok(c:Cn):Prop where
 frames:c.A.frames=aa c.fr
 depth:c.A.depth+8*c.d+2*c.lv+8<1000
 units:c.A.units+30*c.d+8*c.lv+200<DV
structure se(g:Gh)(σ:H)(p:qp):Prop where
 at_:g.ρ dD=aa (aa p)
 jm:∃k fs,aW σ dD=aa (.jm k fs)
def FA(g:Gh)(σ:H)(A:qx)(hd:Bool):Prop:=(hd=ak->A.handled=aj)/\(hd=ag->∃p,se g σ p/\A.handled=aa (ai p.1))
def lc(h:bX)(L:bj):Prop:=∃o,h.get? L=aa o/\o.cls=aJ "frame"
structure bg(G:GG)(c:Cn)(g:Gh)(σ:H)(env:bS)(m:Env)(s:aY):Prop where
 keep:∀b o,G.h₀.get? b=aa o->s.heap.get? b=aa o
 dR:kT G g σ s.heap
 br:fV G s.heap g env m
 frames:s.heap.FunFrames G.h₀ c.fr
 tu:∀e∈c.fr,∀L,e.frame=aa L->sZ s.heap g L/\lc s.heap L
 jS:FA g σ c.A c.hd
 lk:∀n,c.lk n->g.ρ n≠aj
 tm:∀i n,av m i=aa (.tm n)->¬c.lk n
 gens:s.gens=G.gens
 os:s.os=G.os
 drawn:s.drawn=G.drawn
 y6:∀b o,G.h₀.get? b=aa o->g.F b
structure GG.dB(G:GG):Prop where
 X:G.K.In G.h₀
 alX:∃mg mb,G.h₀.Ns jz mg/\G.h₀.Ns kX mb/\∀x:bB,x≠"__name__"->mb x=uD x
 P5:G.h₀.NoLimit
 z5:∃o,G.h₀.get? nG=aa o
section
variable{env:bS}{m:Env}
theorem vI(e:o.data=.dict es n):¬qW o:=λq=>by obtain ⟨_,ts,z⟩:=q;rw[e]at z;contradiction
theorem Ov{v:Option au}(e:o.data=.cell v):¬qW o:=λq=>by obtain ⟨_,ts,z⟩:=q;rw[e]at z;contradiction
theorem y7(e:o.cls=aJ "frame"):¬qW o:=λq=>absurd (lP<|e.symm.trans q.1)<|dc rt
def tv(h h':bX)(b:bj):Prop:=∀o,h.get? b=aa o->∃o',h'.get? b=aa o'/\o'.data=o.data
theorem Ns.z6(n:h.Ns L mr)(k:tv h h' L):h'.Ns L mr:=aai n λo es ep ho hd r=>cE (k o ho) λo' e d=>⟨o',es,ep,e,d.trans hd,r⟩
theorem aht.z6{v:Option au}(n:h.IsCell a v)(k:tv h h' a):h'.IsCell a v:=cE n λo ho hd=>cE (k o ho) λo' e d=>⟨o',e,d.trans hd⟩
theorem fV.vr(e:fV G h g env m)(q:wb env b):∃o,h.get? b=aa o/\¬qW o:=by
 rcases q with rfl|⟨x,q⟩
 ·obtain ⟨mr,⟨o,es,ep,ho,hd,_⟩,_⟩:=e.ns;exact (b0 o ho<|vI hd)
 ·exact lK (e.cells x b q) λov o ho hd=>(b0 o ho<|Ov hd)
theorem eJ.z6(x:eJ h g h' g')(nf:¬jg g.ρ b)(s8:h.get? b=aa FC)(nt:¬qW FC):tv h h' b:=λo e=>by
 obtain rfl:FC=o:=cP<|s8.symm.trans e;exact cE (x.keep b FC e nf nt) λsl e' _=>(b0 _ e' rfl)
theorem fV.adf(e:fV G h g env m)(k:∀b,wb env b->tv h h' b)(pr:∀b,wb env b->sZ h' g' b)(v:∀v u,VR G h g v u->VR G h' g' v u):fV G h' g' env m where
 kind:=e.kind
 fy:=e.fy
 pQ:=e.pQ
 ns:=by
  exact cE e.ns λmr n q=>(b0 mr (Ns.z6 n<|k _<|az rfl) λi w a b=>cE (q i w a b) λu z r=>(b0 u z<|v _ _ r))
 cY:=λb q=>⟨pr b q,(e.cY b q).2⟩
 cells:=λx a q=>by obtain ⟨ov,z⟩:=e.cells x a q;exact ⟨ov,aht.z6 z<|k _<|aX ⟨x,q⟩⟩
 n4:=λi w a b=>oi (e.n4 i w a b) λy u l z r=>(gZ y u l (aht.z6 z<|k _<|aX ⟨_,l⟩)<|v _ _ r)
 qq:=e.qq
 apart:=e.apart
theorem fV.bL(x:eJ h g h' g')(e:fV G h g env m):fV G h' g' env m:=
 e.adf (λb q=>cE (e.vr q) λo eo nt=>x.z6 (λf=>(e.cY b q).1.2<|az f) eo nt) (λb q=>x.Z7 (e.cY b q).1) λ_ _ r=>r.ext x
theorem lc.ext(i:lc h L)(x:eJ h g h' g')(p:sZ h g L):lc h' L:=cE i λo e k=>cE (x.keep L o e (λf=>p.2<|az f)<|y7 k) λsl e' _=>⟨_,e',k⟩
theorem YQ(x:eJ h g h' g')(k:∀e∈fr,∀L,e.frame=aa L->sZ h g L/\lc h L):∀e∈fr,∀L,e.frame=aa L->sZ h' g' L/\lc h' L:=λe he L hL=>
 ⟨x.Z7 (k e he L hL).1,(k e he L hL).2.ext x (k e he L hL).1⟩
theorem y8:∀{l},h.FunFrames h₀ l->(∀e∈l,∀L,e.frame=aa L->tv h h' L)->h'.FunFrames h₀ l:=@lr _ _
 (@λ_ _=>trivial)
 (λenv l ih=>@λf k=>by
  refine eh λcy bk=>?_;obtain ⟨hk,⟨L,o,hf,hn,ho,hd⟩,hr⟩:=f;exact cE (k env (eB _) L hf o ho) λo' e d=>bk<|⟨hk,(Dk L o' hf hn e λts q=>hd ts<|d▸q),ih hr λe he=>k e<|ey _ he⟩)
theorem eJ.frames(x:eJ h g h' g')(f:h.FunFrames h₀ fr)(k:∀e∈fr,∀L,e.frame=aa L->sZ h g L/\lc h L):h'.FunFrames h₀ fr:=
 y8 f λe he L hL=>by
  obtain ⟨p,o,eo,kc⟩:=k e he L hL;exact x.z6 (λf=>p.2<|az f) eo<|y7 kc
theorem FA.of(H:FA g σ A hd)(k:∀p,se g σ p->se g' bP p):FA g' bP A hd:=⟨H.1,λq=>cE (H.2 q) λp f e=>(b0 p (k p f) e)⟩
theorem bg.next(I:bg G c g σ env m s)(x:eJ s.heap g s'.heap g')(R:kT G g' bP s'.heap)(kp:∀b o,G.h₀.get? b=aa o->s'.heap.get? b=aa o)(hd:FA g' bP c.A c.hd)(e1:s'.gens=s.gens)(e2:s'.os=s.os)(e3:s'.drawn=s.drawn):bg G c g' bP env m s' where
 keep:=kp
 dR:=R
 br:=I.br.bL x
 frames:=x.frames I.frames I.tu
 tu:=YQ x I.tu
 jS:=hd
 lk:=λn q=>by
  refine oc (g.ρ n) (λe=>(I.lk n q e).elim) λst e=>?_
  ·rcases x.rA n st e with r|r<;>rw[r]<;>intro z<;>exact Cm z
 tm:=I.tm
 gens:=e1.trans I.gens
 os:=e2.trans I.os
 drawn:=e3.trans I.drawn
 y6:=λb o e=>(x.ji b o (I.y6 b o e)<|I.keep b o e).1
abbrev afT(α:Type):=(α->H->Prop)->(H->Prop)->Prop
def yA(Rl:bX->Gh->α->β->Prop)(G:GG)(c:Cn)(env:bS)(h:bX)(g:Gh)(m:Env)(Qv:α->H->Prop)(Q:β->aY->Prop):Prop:=
 ∀a bP s' g' b,Qv a bP->bg G c g' bP env m s'->eJ h g s'.heap g'->Rl s'.heap g' a b->Q b s'
def Mp(G:GG)(c:Cn)(env:bS)(h:bX)(g:Gh)(m:Env)(Ev:H->Prop)(E:au->aY->Prop):Prop:=
 ∀bP s' g' p,Ev bP->bg G c g' bP env m s'->eJ h g s'.heap g'->se g' bP p->E (ai p.1) s'
def ao(Rl:bX->Gh->α->β->Prop)(G:GG)(c:Cn)(env:bS)(g:Gh)(m:Env)(s:aY)(x:afT α)(t:fv β):Prop:=
 ∀Qv Ev,x Qv Ev->∀Q E,yA Rl G c env s.heap g m Qv Q->Mp G c env s.heap g m Ev E->bw (bh G.prog G.w) c.A t Q E s
abbrev cU(G:GG):bX->Gh->V->au->Prop:=λh g v u=>VR G h g v u
abbrev anC(G:GG):bX->Gh->List V->List au->Prop:=λh g vs us=>bR (VR G h g) vs us
abbrev nz:bX->Gh->α->α->Prop:=λ_ _ a b=>a=b
abbrev ajO:bX->Gh->α->β->Prop:=λ_ _ _ _=>True
theorem ao.no:ao Rl G c env g m s (M.no (α:=α) σ) t:=λ_ _ h=>h.elim
theorem ao.aQ(h:∀a,o=aa a->ao Rl G c env g m s (f a σ) t):ao Rl G c env g m s (M.aQ o f σ) t:=by
 induction o using fA with
 |none=>exact ao.no (σ:=σ)
 |some a=>exact h a rfl
theorem ao.lS{b:Bool}{x:M α}(h:b=ag->ao Rl G c env g m s (x σ) t):ao Rl G c env g m s (M.lS b x σ) t:=by
 induction b using fe with
 |false=>exact ao.no (σ:=σ)
 |true=>exact h rfl
theorem ao.eD{p:Prop}{x:M α}(h:p->ao Rl G c env g m s (x σ) t):ao Rl G c env g m s (M.eD p x σ) t:=λQv Ev z=>h z.1 Qv Ev z.2
theorem yA.ext{Qv:α->H->Prop}{Q:β->aY->Prop}(x:eJ h g h' g')(e:yA Rl G c env h g m Qv Q):yA Rl G c env h' g' m Qv Q:=λa bP s' R9 b q I y r=>e a bP s' R9 b q I (x.trans y) r
theorem Mp.ext{E:au->aY->Prop}(x:eJ h g h' g')(e:Mp G c env h g m Ev E):Mp G c env h' g' m Ev E:=λbP s' R9 p q I y r=>e bP s' R9 p q I (x.trans y) r
theorem ao.seq{x:M α}(hx:ao Rl G c env g m s (x σ) t){Qv:γ->H->Prop}(z:M.bind x f σ Qv Ev){P:β->aY->Prop}{E:au->aY->Prop}(e:Mp G c env s.heap g m Ev E)(k:∀a aF aH aP b,f a aF Qv Ev->bg G c aP aF env m aH->eJ s.heap g aH.heap aP->Rl aH.heap aP a b->Mp G c env aH.heap aP m Ev E->P b aH):bw (bh G.prog G.w) c.A t P E s:=
 hx _ _ z _ _ (λa bP s' g' b q I x r=>k a bP s' g' b q I x r<|e.ext x) e
theorem ao.bind{x:M α}{f:α->M γ}(hx:ao Rl G c env g m s (x σ) t)(hf:∀a aF aH aP b,bg G c aP aF env m aH->eJ s.heap g aH.heap aP->Rl aH.heap aP a b->ao Sl G c env aP m aH (f a aF) (k b)):ao Sl G c env g m s (M.bind x f σ) (t>>=k):=λQv Ev z Q E q e=>
 aR (hx.seq z e λa aF aH aP b eT aU b6 cX mw=>hf a aF aH aP b aU b6 cX Qv Ev eT Q E (q.ext b6) mw)
theorem bg.alY(I:bg G c g σ env m s)(t:Nat):bg G c g σ env m {s with toks:=t}:=⟨I.keep,I.dR,I.br,I.frames,I.tu,I.jS,I.lk,I.tm,I.gens,I.os,I.drawn,I.y6⟩
theorem ao.ok(I:bg G c g σ env m s)(k:∀Q E,(∀b tk,Rl s.heap g a b->Q b {s with toks:=tk})->bw (bh G.prog G.w) c.A t Q E s):ao Rl G c env g m s (M.ok a σ) t:=λQv Ev z Q E q e=>
 k Q E λb tk r=>q a σ _ g b z (I.alY tk) eJ.refl r
end
end
section
variable{env:bS}{m:Env}
theorem cp(h:bX):h.get? h.objs.size=aj:=xg<|gj _
theorem bY(h:bX)(o:cC):∀b ob,h.get? b=aa ob->(h.push o).get? b=aa ob:=λb ob e=>qh _ e
theorem bg.gQ(I:bg G c g σ env m s)(e:s.heap.get? b=aj):G.h₀.get? b=aj:=by
 cases q:G.h₀.get? b with
 |none=>rfl
 |some o=>rw[I.keep b o q]at e;exact Cm e
theorem bg.jW(I:bg G c g σ env m s)(N:Fz)(k:∀b o,s.heap.get? b=aa o->h'.get? b=aa o)(hN:∀b,N b->s.heap.get? b=aj/\∃o,h'.get? b=aa o):bg G c ⟨g.ρ,λb=>g.F b\/N b⟩ σ env m {s with heap:=h',toks:=tk}/\eJ s.heap g h' ⟨g.ρ,λb=>g.F b\/N b⟩:=by
 have x:eJ s.heap g h' ⟨g.ρ,λb=>g.F b\/N b⟩:=⟨λb o e _ _=>(b0 o.slots (k b o e) λ_=>rfl),(λb o f e=>⟨az f,k b o e⟩),λ_ _ e=>az e,λb f=>f.elim (λf=>az<|az f) λf=>f.elim (λf=>az<|aX f) λf=>aX (hN b f).1,λb o e=>⟨o,k b o e⟩⟩
 refine ⟨I.next (s':={s with heap:=h',toks:=tk}) x (I.dR.jx (λb o f e=>⟨az f,k b o e⟩) (λb f=>?_) (λT t=>eZ t.out λoT ts w=>⟨oT,ts,k _ _ w.1,w.2.1,w.2.2.1,w.2.2.2.1,w.2.2.2.2.1,λf=>f.elim w.2.2.2.2.2 λf=>by have e:=w.1;rw[(hN T f).1]at e;exact cV e⟩) λb f=>?_) (λb o e=>k b o<|I.keep b o e) (I.jS.of λp f=>⟨f.at_,f.jm⟩) rfl rfl rfl,x⟩
 ·exact cE (I.dR.z0 f) λo e _=>ah e<|k b o e
 ·rcases f with f|f
  ·obtain ⟨nf,o,e⟩:=I.dR.fz b f;exact ⟨nf,o,k b o e⟩
  ·exact ⟨λw=>I.dR.H9 (hN b f).1<|az w,(hN b f).2⟩
theorem bg.push(I:bg G c g σ env m s)(o:cC)(tk:Nat):bg G c g σ env m {s with heap:=s.heap.push o,toks:=tk}/\eJ s.heap g (s.heap.push o) g:=by
 have:=I.jW (λ_=>False) (tk:=tk) (bY _ o) λ_ f=>f.elim;simpa only[or_false]using this
theorem bg.new(I:bg G c g σ env m s){o:O}(free:g.ρ n=aj)(hx:aW σ n≠aj->aW σ n=aa .free)(afp:aW bP n=aa o)(Z8:∀k,k≠n->aW bP k=aW σ k)(k:∀b ob,s.heap.get? b=aa ob->h'.get? b=aa ob)(f1:s.heap.get? p.1=aj)(f2:s.heap.get? p.2=aj)(z:OR G h' ⟨g.ρ.fP n<|aa<|aa p,g.F⟩ o p):bg G c ⟨g.ρ.fP n<|aa<|aa p,g.F⟩ bP env m {s with heap:=h',toks:=tk}/\eJ s.heap g h' ⟨g.ρ.fP n<|aa<|aa p,g.F⟩/\VR G h' ⟨g.ρ.fP n<|aa<|aa p,g.F⟩ (.ob n) (ai p.1):=by
 refine aah (I.dR.alloc free afp Z8 k f1 f2 (I.gQ f1) (I.gQ f2) z) λR x=>(k8 (I.next (s':={s with heap:=h',toks:=tk}) x R (λb o e=>k b o<|I.keep b o e) (I.jS.of λq f=>?_) rfl rfl rfl) x ⟨p.1,aa p,rfl,if_pos rfl,λq e=>by obtain rfl:=fh e;rfl⟩)
 have ne:dD≠n:=λw=>by have:=f.at_;rw[w,free]at this;exact cV this
 exact eZ f.jm λk' fs e=>⟨(if_neg ne).trans f.at_,k',fs,(Z8 _ ne).trans e⟩
theorem bg.rz(I:bg G c g σ env m s)(hp:g.ρ n=aa (aa p))(hx:∀k fs,aW σ n=aa (.jm k fs)->∃k fs,o'=.jm k fs)(k:∀b,b≠p.1->b≠p.2->h'.get? b=s.heap.get? b)(g1:∃ob,h'.get? p.1=aa ob)(g2:∃ob,h'.get? p.2=aa ob)(z:OR G h' g o' p):bg G c g (aG σ n o') env m {s with heap:=h',toks:=tk}/\eJ s.heap g h' g:=by
 have nf:∀b,¬jg g.ρ b->b≠p.1/\b≠p.2:=λb nf=>⟨λq=>nf ⟨n,p,hp,az q⟩,λq=>nf ⟨n,p,hp,aX q⟩⟩
 have k':∀b o,¬jg g.ρ b->s.heap.get? b=aa o->h'.get? b=aa o:=λb o f e=>(k b (nf b f).1 (nf b f).2).trans e;have x:eJ s.heap g h' g:=⟨λb o e f _=>(b0 o.slots (k' b o f e) λ_=>rfl),λb o f e=>⟨f,k' b o (I.dR.fz b f).1 e⟩,λ_ _ e=>az e,λb f=>az f,λb o e=>by
  by_cases q1:b=p.1
  ·exact q1▸g1
  ·by_cases q2:b=p.2
   ·exact q2▸g2
   ·exact ⟨o,(k b q1 q2).trans e⟩⟩
 refine ⟨I.next (s':={s with heap:=h',toks:=tk}) x (I.dR.rz hp x.ji (λb _ q1 q2=>k b q1 q2) (λT t=>?_) z) (λb o e=>k' b o (λf=>by rw[I.dR.new b f]at e;exact cV e)<|I.keep b o e) (I.jS.of λq f=>⟨f.at_,?_⟩) rfl rfl rfl,x⟩
 ·exact eh λcy bk=>acG t.out λoT ts e hc hd r=>bk<|⟨oT,ts,k' T oT (λf=>by refine vC (I.dR.z0 f) λo e' nt _=>?_;rw[e]at e';obtain rfl:=fh e';exact nt ⟨hc,ts,hd⟩) e,hc,hd,r⟩
 ·refine eZ f.jm λk' fs e=>?_
  rw[kg];by_cases q:dD=n
  ·refine eZ (hx _ _<|q▸e) λk₂ aiK w2=>?_;subst w2
   exact ah (if_pos q)<|ah q.symm<|ah e<|(yQ k₂ aiK rfl)
  ·exact ah (if_neg q)<|(yQ k' fs e)
theorem kT.slot(R:kT G g σ h)(e:aW σ n=aa o)(h1:o≠.free)(h2:o≠.nh):∃p,g.ρ n=aa (aa p)/\OR G h g o p:=by
 have:=R.at_ n;rw[e]at this;exact this.of h1 h2
theorem kT.ref(R:kT G g σ h)(a:At g.ρ n u)(e:aW σ n=aa o)(h1:o≠.free)(h2:o≠.nh):∃p,u=ai p.1/\g.ρ n=aa (aa p)/\OR G h g o p:=by
 refine cE (R.slot e h1 h2) λp hp z=>oi a.out λb st w2 e' q=>?_;subst w2;rw[hp]at e';obtain rfl:=fh e';exact (tc p (by refine ah (q p rfl) ?_;rfl) hp z)
theorem kT.free(R:kT G g σ h)(e:aW σ n=aa .free):g.ρ n=aj:=by
 rcases R.at_ n with r|r|⟨x,p,r,_,z⟩
 ·exact r.2
 ·replace r:=e▸r;cases r.1
 ·rw[e]at r;obtain rfl:=fh r;exact z.elim
theorem kT.out(R:kT G g σ h)(e:aW σ n=aj):g.ρ n=aj:=by
 rcases R.at_ n with r|r|⟨x,p,r,_,z⟩
 ·exact r.2
 ·replace r:=e▸r;cases r.1
 ·rw[e]at r;exact cV r
theorem cR{x:Option α}{b:β}(e:x.bind f=aa b):∃a,x=aa a/\f a=aa b:=by induction x using fA with|none=>cases e|some a=>exact (b0 a rfl e)
theorem V.GS{x:P}(e:v.pl=aa x):v=.p x:=by induction v using V.casesOn<;>first|(obtain rfl:=fh e;rfl)|exact cV e
theorem V.yB(e:v.slot=aa n):v=.ob n:=by induction v using V.casesOn<;>first|(obtain rfl:=fh e;rfl)|exact cV e
theorem V.IX(e:v.Pp=aa n):v=.dy n:=by induction v using V.casesOn<;>first|(obtain rfl:=fh e;rfl)|exact cV e
theorem P.FD{x:P}(e:x.ED=aa i):x=.int i:=by induction x using P.casesOn<;>first|(obtain rfl:=fh e;rfl)|exact cV e
theorem P.yC{x:P}(e:x.sV=aa i):x=.str i:=by induction x using P.casesOn<;>first|(obtain rfl:=fh e;rfl)|exact cV e
theorem P.yD{x:P}(e:x.MM=aa i):x=.jH i:=by induction x using P.casesOn<;>first|(obtain rfl:=fh e;rfl)|exact cV e
theorem P.YR{x:P}(e:x.ajm=aa i):x=.fl i:=by induction x using P.casesOn<;>first|(obtain rfl:=fh e;rfl)|exact cV e
theorem P.YS{x:P}(e:x.ajn=aa i):∃ks vs,x=.fd ks vs/\i=ks.zip vs:=by induction x using P.casesOn<;>first|(obtain rfl:=fh e;exact (jY _ _ rfl rfl))|exact cV e
theorem O.lJ{x:O}(e:x.uV=aa i):x=.ls i:=by induction x using O.casesOn<;>first|(obtain rfl:=fh e;rfl)|exact cV e
theorem O.BF{x:O}(e:x.Ih=aa i):x=.dc i:=by induction x using O.casesOn<;>first|(obtain rfl:=fh e;rfl)|exact cV e
theorem O.tw{x:O}(e:x.yS=aa i):x=.rd i:=by induction x using O.casesOn<;>first|(obtain rfl:=fh e;rfl)|exact cV e
theorem O.IY{x:O}(e:x.EE=aa i):x=.iF i.1 i.2:=by induction x using O.casesOn<;>first|(obtain rfl:=fh e;rfl)|exact cV e
theorem O.IZ{x:O}(e:x.QA=aa i):x=.jm i.1 i.2:=by induction x using O.casesOn<;>first|(obtain rfl:=fh e;rfl)|exact cV e
theorem V.Sa{i:Int}(e:v.eX=aa i):v=.p (.int i):=by refine cE (cR e) λx e1 e2=>ah (V.GS e1)<|ah (P.FD e2) ?_;rfl
theorem V.Sb{i:Tx}(e:v.lh=aa i):v=.p (.str i):=by refine cE (cR e) λx e1 e2=>ah (V.GS e1)<|ah (P.yC e2) ?_;rfl
theorem VR.int(r:VR G h g v u)(e:v.eX=aa i):∃t,u=.int i t:=by rw[V.Sa e]at r;exact r
theorem VR.str(r:VR G h g v u)(e:v.lh=aa i):sd i=ag/\∃t,u=.str (fM i) t:=by rw[V.Sb e]at r;exact r
theorem VR.pl{x:P}(r:VR G h g v u)(e:v.pl=aa x):PR G h g.F x u:=by rw[V.GS e]at r;exact r
theorem VR.at(r:VR G h g v u)(e:v.slot=aa n):At g.ρ n u:=by rw[V.yB e]at r;exact r
theorem VR.alZ(r:VR G h g v u)(e:v.Pp=aa n):At g.ρ n u:=by rw[V.IX e]at r;exact r.1
theorem VR.am4(r:VR G h g v u)(e:v.Pp=aa n):aau g.ρ n u:=by rw[V.IX e]at r;exact r
structure Sd(G:GG)(h:bX)(F:Fz)(xs:List P)(a:bj)(its:List au)(n:Nat):Prop where
 at_:h.get? a=aa (gv its.toArray n)
 rs:bR (PR G h F) xs its
theorem tz{a b:Option α}{x:α}(e:ng a b=aa x):a=aa x\/b=aa x:=by induction a using fA with|none=>exact aX e|some y=>exact az e
theorem pH(R:kT G g σ h){u:au}{xs:List P}(e:jU σ v=aa xs)(r:VR G h g v u):∃a its n,u=ai a/\Sd G h g.F xs a its n:=by
 rcases tz e with e|e
 ·refine cE (cR e) λx e1 e2=>?_
  have q:=r.pl e1;replace q:=(P.YR e2)▸q;refine eh λcy bk=>G2 q.out λa its n w3 _ z y=>?_;subst w3;exact bk<|(ae0 a its n rfl ⟨z,gu▸y⟩)
 ·refine eh λcy bk=>cE (cR e) λo e1 e2=>cE (cR e1) λn e1 e3=>?_
  obtain ⟨p,rfl,_,z⟩:=R.ref (r.at e1) e3 (by rw[O.lJ e2];intro q;contradiction) (by rw[O.lJ e2];intro q;contradiction);refine bk ?_;rw[O.lJ e2]at z;exact oi z.out λits n _ y w=>(ae0 p.1 its n rfl ⟨y,w⟩)
structure H'(G:GG)(h:bX){A:Type}(R:A->au->Prop)(es:List<|bV×A)(a:bj)(kvs:List<|bV×au):Prop where
 at_:h.DictOf G.kk a kvs
 z5:(a==nG)=ak
 rs:bR (ER R) es kvs
theorem jg.rm(B:G.dB)(R:kT G g σ h)(f:jg g.ρ a):(a==nG)=ak:=by
 rw[beq_eq_false_iff_ne];rintro rfl;obtain ⟨o,e⟩:=B.z5;rw[R.new _ f]at e;exact cV e
theorem ER.zip{R:P->au->Prop}:∀{vs}{kvs},(kvs.map (·.1)).all LX=ag->bR R vs (kvs.map (·.2))->bR (ER R) ((kvs.map (·.1)).zip vs) kvs:=@lr _ _
 (@λkvs _ h=>by induction kvs using cZ with|nil=>trivial|cons=>exact h.elim)
 (λv vs ih=>@λkvs k h=>by
  induction kvs using cZ with
  |nil=>exact h.elim
  |cons e kvs=>
   rw[oP,oQ,nR]at k;exact ⟨⟨⟨rfl,k.1⟩,h.1⟩,ih k.2 h.2⟩)
theorem zC(B:G.dB)(R:kT G g σ h){u:au}{es:List (bV×P)}(e:qF σ v=aa es)(r:VR G h g v u):∃a kvs,u=ai a/\H' G h (PR G h g.F) es a kvs:=by
 rcases tz e with e|e
 ·refine eh λcy bk=>?_
  obtain ⟨x,e1,e2⟩:=cR e;have q:=r.pl e1;refine lK (P.YS e2) λks vs w2 w3=>?_;subst w2;subst w3;refine alw q.out λa kvs w2 _ z nm w6 ok y=>?_;subst w2;subst w6;exact bk<|(jY a kvs rfl ⟨z,nm,ER.zip ok<|gu▸y⟩)
 ·refine eh λcy bk=>cE (cR e) λo e1 e2=>cE (cR e1) λn e1 e3=>?_
  obtain ⟨p,rfl,hp,z⟩:=R.ref (r.at e1) e3 (by rw[O.BF e2];intro q;contradiction) (by rw[O.BF e2];intro q;contradiction);refine bk ?_;rw[O.BF e2]at z;exact eh λcy bk=>vC z.out λkvs _ y w=>bk<|(jY p.1 kvs rfl ⟨y,jg.rm B R ⟨n,p,hp,az rfl⟩,w⟩)
theorem Df(B:G.dB)(R:kT G g σ h){u:au}{es:List (bV×Nat)}(e:yh σ v=aa es)(r:VR G h g v u):∃a kvs,u=ai a/\H' G h (aau g.ρ) es a kvs:=by
 refine eh λcy bk=>cE (cR e) λo e1 e2=>cE (cR e1) λn e1 e3=>?_;obtain ⟨p,rfl,hp,z⟩:=R.ref (r.at e1) e3 (by rw[O.tw e2];intro q;contradiction) (by rw[O.tw e2];intro q;contradiction);refine bk ?_;rw[O.tw e2]at z;exact vC z.out λkvs _ y w=>(jY p.1 kvs rfl ⟨y,jg.rm B R ⟨n,p,hp,az rfl⟩,w⟩)
end
section
set_option tactic.hygienic true
mutual
noncomputable def qX:P->PyData
 | .none=>.none
 | .bool b=>.bool b
 | .int i=>.int i
 | .str t=>.str<|fM t
 | .jH vs=>.tuple<|kt vs
 | .fl vs=>.list<|kt vs
 |_=>.none
noncomputable def kt:List P->List PyData
 |[]=>[]
 |v::vs=>qX v::kt vs
end
theorem Se(o:sd t=ag):Wa (fM t)=ag:=by
 unfold Wa fM;simpa [sd]using o
structure xU(h:bX)(v:P)(u:au)(k:Nat):Prop where
 r:∃as,Reads h u (qX v) as
 u8:(qX v).canLay0=ag
 depth:(qX v).depth<=k
structure xV(h:bX)(v:List P)(u:List au)(k:Nat):Prop where
 r:∃as,ReadsAll h u (kt v) as
 u8:V9 (kt v)=ag
 depth:V' (kt v)<=k
theorem aq{a b:Bool}(e:(a&&b)=ag):a=ag:=by induction a using fe with|true=>rfl|false=>exact dC e
theorem aO{a b:Bool}(e:(a&&b)=ag):b=ag:=by induction a using fe with|true=>exact e|false=>exact dC e
section
variable{F:Fz}
def akW(x:P):Bool:=gb x.ctorIdx 5
theorem pI{v:P}(e:cK k v=ag):akW v=ag:=by induction k using jP<;>induction v using P.casesOn<;>first|rfl|exact dC e
theorem yE{vs:List P}{k:Nat}(e:cK k (.jH vs)=ag):∃j,k=j+1/\dS j vs=ag:=by induction k using jP with|zero=>cases e|succ j=>exact (b0 j rfl e)
theorem BG{vs:List P}{k:Nat}(e:cK k (.fl vs)=ag):∃j,k=j+1/\dS j vs=ag:=by induction k using jP with|zero=>cases e|succ j=>exact (b0 j rfl e)
theorem Sf{vs:List P}{u:au}(ih:∀k us,dS k vs=ag->IW G h F vs us->xV h vs us k)(e:cK k (.jH vs)=ag)(r:PR G h F (.jH vs) u):xU h (.jH vs) u k:=
 cE (yE e) λj w e=>G2 (oE.out r) λa its n w3 f g q=>have p:=ih j its e q
  ⟨p.r.elim λas y=>w3▸(⟨_,Reads.tuple g rfl rfl y⟩),p.u8,w▸kY p.depth⟩
theorem YT{vs:List P}{u:au}(ih:∀k us,dS k vs=ag->IW G h F vs us->xV h vs us k)(e:cK k (.fl vs)=ag)(r:PR G h F (.fl vs) u):xU h (.fl vs) u k:=
 cE (BG e) λj w e=>G2 (oE.out r) λa its n w3 f g q=>have p:=ih j its e q
  ⟨p.r.elim λas y=>w3▸(⟨_,Reads.list g rfl rfl y⟩),p.u8,w▸kY p.depth⟩
theorem BY(r:IW G h F [] us):xV h [] us k:=by induction us using cZ with|nil=>exact ⟨⟨_,.nil⟩,rt,bH _⟩|cons=>exact r.elim
theorem za{v:P}{vs:List P}(p:∀u,PR G h F v u->xU h v u k)(q:∀us,IW G h F vs us->xV h vs us k)(r:IW G h F (v::vs) us):xV h (v::vs) us k:=by
 induction us using cZ with
 |nil=>exact r.elim
 |cons u us=>
  have q:=q us r.2;exact ⟨ue (p u r.1).r λas w=>ue q.r λbs y=>⟨_,.cons w y⟩,tE.mpr ⟨(p u r.1).u8,q.u8⟩,Nat.max_le.mpr ⟨(p u r.1).depth,q.depth⟩⟩
theorem Nx(v:P){k:Nat}:cK k v=ag->PR G h F v u->xU h v u k:=P.rec
 (λ_ _ _ r=>r▸⟨⟨_,.none⟩,rt,bH _⟩) (λb _ _ _ r=>r▸⟨⟨_,.bool _⟩,rt,bH _⟩) (λi _ _ _ r=>r.elim λt r=>r▸⟨⟨_,.int _ _⟩,rt,bH _⟩) (λs _ _ _ r=>r.2.elim λt w=>w▸⟨⟨_,.str _ _⟩,Se r.1,bH _⟩)
 (λvs ih k u e r=>Sf ih e r) (λvs ih k u e r=>YT ih e r) (λ_ _ _ _ _ e _=>dC<|pI e) (λ_ _ _ _ e _=>dC<|pI e) (λ_ _ _ e _=>dC<|pI e) (λ_ _ _ e _=>dC<|pI e) (λ_ _ _ e _=>dC<|pI e) (λ_ _ _ e _=>dC<|pI e)
 (λ_ _ _ r=>BY r) (λv vs ih afO k us e r=>za (λu=>ih k u<|aq e) (λus=>afO k us<|aO e) r) v k u
theorem Mq(vs:List P){k:Nat}(e:dS k vs=ag)(r:IW G h F vs us):xV h vs us k:=fT (λ_ _ r=>BY r) (λv vs ih us e r=>za (λu=>Nx v<|aq e) (λus=>ih us<|aO e) r) vs us e r
theorem Sg{x:P}{xs b:List P}(h:∀y,cK j y=ag->qD (qX x) (qX y)=cL x y)(hs:∀ys,dS j ys=ag->LF (kt xs) (kt ys)=EF xs ys)(hb:dS j b=ag):LF (kt<|x::xs) (kt b)=EF (x::xs) b:=by
 induction b using cZ with
 |nil=>rfl
 |cons y ys=>exact congr (congrArg and<|h y<|aq hb)<|hs ys<|aO hb
theorem Ms(a b:P):cK k a=ag->cK j b=ag->qD (qX a) (qX b)=cL a b:=P.rec (motive_2:=λa=>∀b k j,dS k a=ag->dS j b=ag->LF (kt a) (kt b)=EF a b)
 (λb k j _ hb=>by have:=pI hb;induction b using P.casesOn<;>first|rfl|exact dC this)
 (λ_ b k j _ hb=>by induction b using P.casesOn<;>rfl)
 (λ_ b k j _ hb=>by induction b using P.casesOn<;>rfl)
 (λx b k j _ hb=>by
  induction b using P.casesOn<;>first|rfl|skip
  exact AL.mpr ⟨λq=>beq_iff_eq.mpr<|GR<|eq_of_beq q,λq=>beq_iff_eq.mpr<|congrArg fM<|eq_of_beq q⟩)
 (λxs ih b k j ha hb=>by
  induction b using P.casesOn<;>first|rfl|skip
  exact cE (yE ha) λ_ _ ha=>cE (yE hb) λ_ _ hb=>ih _ _ _ ha hb)
 (λxs ih b k j ha hb=>by
  induction b using P.casesOn<;>first|rfl|skip
  exact cE (BG ha) λ_ _ ha=>cE (BG hb) λ_ _ hb=>ih _ _ _ ha hb)
 (λ_ _ _ _ _ _ e _=>dC<|pI e) (λ_ _ _ _ _ e _=>dC<|pI e) (λ_ _ _ _ e _=>dC<|pI e) (λ_ _ _ _ e _=>dC<|pI e) (λ_ _ _ _ e _=>dC<|pI e) (λ_ _ _ _ e _=>dC<|pI e)
 (λb _ _ _ _=>by cases b<;>rfl) (λx xs ih afO b k j ha hb=>Sg (λy=>ih y k j<|aq ha) (λys=>afO ys k j<|aO ha) hb) a b k j
end
section
variable{env:bS}{m:Env}
theorem Sh{v:P}(hv:cK 8 v=ag):∀{xs},dS 8 xs=ag->((kt xs).any λy=>qD y<|qX v)=cO v xs:=@lr _ _
 (@λ_=>rfl)
 (λx xs ih=>@λhx=>by
  show (qD (qX x) (qX v)||_)=_;exact ah (Ms x v (aq hx) hv)<|ah (ih<|aO hx) rfl)
theorem FE(R:kT G g σ h){x:P}(n:Cp σ v=aa x)(e:cK 8 x=ag)(r:VR G h g v u):xU h x u 8:=by
 unfold Cp at n;refine oc (jU σ v) (λq=>?_) λxs q=>?_
 ·rw[q]at n;exact Nx x e<|r.pl n
 ·
  rw[q]at n;obtain rfl:=fh n;refine xn (pH R q r) λa its n w3 L=>?_;subst w3;have p:=Mq xs (k:=7) e<|gu▸L.rs;obtain ⟨as,w⟩:=p.r;exact ⟨⟨_,.list L.at_ rfl rfl<|by simpa using w⟩,p.u8,kY p.depth⟩
theorem iK(h:n<=bZ):n<=oK:=wL▸bo h (dc rt)
theorem FG(h:n<=bZ):(n:Int)<2^63:=qg (cS.mpr h)<|dc rt
theorem vJ(t:Tx):(fM t).length=t.length:=rfl
theorem I0(I:bg G c g σ env m s){xs:List P}(e:s.heap.get? a=aa (gv its.toArray n))(l:xs.length=its.length)(hl:xs.length<=bZ){Q:Bool->aY->Prop}{E:au->aY->Prop}(k:∀tk,Q (!xs.isEmpty) {s with toks:=tk}):bw (bh G.prog G.w) c.A (su<|ai a) Q E s:=by
 refine wpAny_truthy_list ⟨_,e,rfl,n,rfl⟩ (by refine ah iN ?_;refine ah l.symm ?_;exact FG hl) ?_;induction xs using cZ<;>induction its using cZ<;>first|exact k _|exact nomatch l
theorem wz(I:bg G c g σ env m s)(r:VR G s.heap g v u):ao nz G c env g m s (fU v σ) (su u):=
 ao.aQ λx hx=>ao.aQ λb hb=>ao.eD λhl=>ao.ok I λQ E k=>by
  unfold Cp at hx;refine od (jU σ v) (λxs q=>?_) λq=>?_
  ·rw[q]at hx
   refine xn (pH I.dR q r) λa its n w3 L=>w3▸?_;have e:=fh<|(congrArg WL<|fh hx).trans hb;exact I0 I L.at_ L.rs.length (bo (bx<|congrArg Er e) hl) λtk=>k _ tk (congrArg oW e).symm
  ·replace hx:=q▸hx
   have r:=r.pl hx;clear hx q;have k':∀{z}tk,aa z=aa b->Q z.1 {s with toks:=tk}:=λtk e=>k _ tk (congrArg oW<|fh e).symm;induction x using P.casesOn with
   |none=>exact (r)▸truthy_none (k' _ hb)
   |bool b=>exact (r)▸J9 (k' _ hb)
   |int i=>exact (r).elim λt e=>e▸P.truthy_int (k' _ hb)
   |str z=>exact (r.2).elim λt e=>e▸P.truthy_str (xf.mpr<|FG<|bo (bx<|congrArg Er<|fh hb) hl) (by have:=k' (s.toks+1+1) hb;rcases z with _|_<;>exact this)
   |fl xs=>exact G2 (oE.out r) λa its n w3 f e w=>w3▸I0 I e (gu▸w).length (bo (bx<|congrArg Er<|fh hb) hl) λtk=>k' tk hb
   |_=>exact cV hb
theorem Mu(R:kT G g σ h){xs:List P}(e:vi σ v=aa xs)(r:VR G h g v u):∃a its n,u=ai a/\(h.get? a=aa (gv its.toArray n)\/h.get? a=aa (xT its.toArray n))/\bR (PR G h g.F) xs its:=by
 rcases tz e with e|e
 ·refine cE (cR e) λx e1 e2=>?_
  have q:=r.pl e1;replace q:=(P.yD e2)▸q;refine G2 q.out λa its n w3 _ z y=>?_;subst w3;exact (LS a its n rfl (aX z)<|gu▸y)
 ·refine eh λcy bk=>xn (pH R e r) λa its n w3 L=>?_;subst w3
  exact bk<|(LS a its n rfl (az L.at_) L.rs)
theorem GU{x:P}(e:x.HY=aa k)(r:PR G h F x u):jC k u=ag/\LX k=ag:=by
 unfold P.HY at e;refine od (x.sV) (λt q=>?_) λq=>?_
 ·
  rw[q]at e;obtain rfl:=fh e;rw[P.yC q]at r;obtain ⟨o,tk,rfl⟩:=r;exact ⟨R5,o⟩
 ·
  rw[q]at e;refine od (x.ED) (λi q'=>?_) λq'=>?_
  ·
   rw[q']at e;obtain rfl:=fh e;rw[P.FD q']at r;obtain ⟨tk,rfl⟩:=r;exact ⟨R6,rt⟩
  ·rw[q']at e;exact cV e
theorem VR.key(e:v.lj=aa k)(r:VR G h g v u):jC k u=ag/\LX k=ag:=cE (cR e) λx e1 e2=>GU e2<|r.pl e1
@[elab_as_elim] theorem VR.uy{u:au}{i:Int}{P:au->Prop}(r:VR G h g v u)(e:v.eX=aa i)(k:∀t,P<| .int i t):P u:=(r.int e).elim λt e=>e▸k t
@[elab_as_elim] theorem VR.Z9{u:au}{x:Tx}{P:au->Prop}(r:VR G h g v u)(e:v.lh=aa x)(k:∀t,sd x=ag->P (.str (fM x) t)):P u:=(r.str e).2.elim λt w=>w▸k t (r.str e).1
@[elab_as_elim] theorem VR.al0(R:kT G g σ h){u:au}{xs:List P}{P:au->Prop}(e:jU σ v=aa xs)(r:VR G h g v u)(k:∀a its n,Sd G h g.F xs a its n->P (ai a)):P u:=xn (pH R e r) λa its n w L=>w▸k a its n L
theorem ER.kM{A:Type}{R:A->au->Prop}{k:bV}:∀{es}{kvs},bR (ER R) es kvs->match av es k with
 |some v=>∃u,oN kvs k=aa u/\R v u
 |none=>oN kvs k=aj:=@lr _ _
 (@λkvs r=>by refine ah r.nil ?_;rfl)
 (@pr _ _ _ (λj v es ih=>@λkvs r=>by
  obtain ⟨⟨j',u⟩,kvs,rfl,⟨⟨e,_⟩,q⟩,r'⟩:=r.cons;obtain rfl:=(show j=j' from e)
  rw[Bd];by_cases w:j=k
  ·exact ah (if_pos w)<|(b0 u (by subst w;simp[oN]) q)
  ·exact ah (if_neg w)<|(by simp[oN,w]:oN ((j,u)::kvs) k=oN kvs k)▸ih r'))
theorem ER.al1{A:Type}{R:A->au->Prop}{es:List (bV×A)}(r:bR (ER R) es kvs):(oN kvs k).isSome=(av es k).isSome:=by
 have:=ER.kM (k:=k) r;refine oc (av es k) (λq=>?_) λv q=>?_
 ·refine ah q ?_;rw[q]at this;refine ah (this) ?_;rfl
 ·refine ah q ?_;rw[q]at this;refine cE this λu e _=>ah e ?_;rfl
theorem DictOf.sf(d:h.DictOf (zZ prog w) a kvs):h.MapOf (zZ prog w) a (oN kvs):=by
 refine eh λcy bk=>alx d λo es ep ho hx hd hk hp hn=>bk<|⟨o,es,ep,ho,hx,hd,hk,λk=>?_⟩
 unfold findBy;exact (Array.find?_toList)▸hp.find k
end
end
section
variable{env:bS}{m:Env}
noncomputable abbrev Gh.fz (g:Gh) (a:bj):Gh:=⟨g.ρ,λb=>g.F b\/b=a⟩
theorem Z'(I:bg G c g σ env m s){x:P}(k:∀b ob,s.heap.get? b=aa ob->h'.get? b=aa ob)(f:s.heap.get? a=aj)(e:h'.get? a=aa o)(z:∀F',lH s.heap g.F h' F'->F' a->PR G h' F' x (ai a))(v:Qv (.p x) σ)(q:yA (cU G) G c env s.heap g m Qv Q):Q (ai a) {s with heap:=h',toks:=tk}:=by
 obtain ⟨I',x'⟩:=I.jW (λb=>b=a) k λb w=>by subst w;exact ⟨f,o,e⟩
 exact q _ σ _ _ _ v I' x'<|z _ x'.ji<|aX rfl
theorem tW(I:bg G c g σ env m s){xs:List P}{a:Nat}(k:∀b ob,s.heap.get? b=aa ob->h'.get? b=aa ob)(f:s.heap.get? a=aj)(e:h'.get? a=aa (gv its.toArray n))(rs:bR (PR G s.heap g.F) xs its)(v:Qv (.p<| .fl xs) σ)(q:yA (cU G) G c env s.heap g m Qv Q):Q (ai a) {s with heap:=h',toks:=tk}:=
 Z' (x:=.fl xs) I k f e (λF' x w=>(⟨a,its,n,rfl,w,e,gu.mpr<|rs.bL λv _=>PR.bL x v⟩)) v q
theorem I1(I:bg G c g σ env m s){xs:List P}{a:Nat}(k:∀b ob,s.heap.get? b=aa ob->h'.get? b=aa ob)(f:s.heap.get? a=aj)(e:h'.get? a=aa (xT its.toArray n))(rs:bR (PR G s.heap g.F) xs its)(v:Qv (.p<| .jH xs) σ)(q:yA (cU G) G c env s.heap g m Qv Q):Q (ai a) {s with heap:=h',toks:=tk}:=
 Z' (x:=.jH xs) I k f e (λF' x w=>(⟨a,its,n,rfl,w,e,gu.mpr<|rs.bL λv _=>PR.bL x v⟩)) v q
theorem rI(a b:Tx):fM (a++b)=fM a++fM b:=by
 show (⟨(a++b).toArray⟩:bB)=⟨a.toArray++b.toArray⟩;simp
theorem BZ{a b:Tx}(ha:sd a=ag)(hb:sd b=ag):sd (a++b)=ag:=by unfold sd at*;refine ah List.all_append<|ah ha<|ah hb ?_;rfl
theorem Si(k:Int):sd (oY k)=ag:=by
 unfold sd oY;rw[lO];intro x hx;refine ah (List.eq_of_mem_replicate hx) ?_;rfl
theorem yO(l:List<|Array Nat):∀acc,(l.foldl (·++·) acc).toList=acc.toList++(l.map Ep).flatten:=by
 induction l with
 |nil=>intro acc;simp
 |cons x r ih=>intro acc;refine ah Vo ?_;rw[ih];simp
theorem Ox(k:Int):Wq (fM [32]) k=fM (oY k):=by
 unfold Wq oY;by_cases h1:k<1
 ·refine ah (if_pos h1)<|ah (Int.toNat_of_nonpos<|Int.lt_add_one_iff.mp h1) ?_;rfl
 ·rw[if_neg h1]
  by_cases h2:(k==1||(fM [32]).length==0)=ag
  ·rw[if_pos h2]
   have:k=1:=by simpa [fM,WC]using h2
   subst this;rfl
  ·rw[if_neg h2]
   congr 1;apply Array.toList_inj.mp;rw[yO];simp[fM,List.flatten_replicate_singleton]
theorem adg{a b:Nat}(ha:a<=bZ)(hb:b<=bZ):a+b<=oK:=ah wL<|Nat.le_trans (DY ha hb)<|dc rt
theorem YU(I:bg G c g σ env m s){x y:Tx}{t t':kL}(o1:sd x=ag)(o2:sd y=ag)(l:x.length<=bZ/\y.length<=bZ):ao (cU G) G c env g m s (M.ok (.p<| .str<|x++y) σ) (Ap .Add (.str (fM x) t)<| .str (fM y) t'):=
 ao.ok I λQ E k=>by
  have fin:∀tk Mo,Q (.str (fM<|x++y) tk) {s with toks:=Mo}:=λtk Mo=>k _ _ ⟨BZ o1 o2,tk,rfl⟩;refine P.add_str ?_;rw[vJ,vJ];induction x using cZ with
  |nil=>exact fin _ _
  |cons a x=>induction y using cZ with
   |nil=>exact (fc (a::x)▸fin t s.toks)
   |cons b y=>exact ⟨(rI ..)▸(cg▸adg l.1 l.2:(a::x++b::y).length<=_),(rI ..)▸fin _ _⟩
theorem Sj(I:bg G c g σ env m s){xs ys:List P}{a:bj}(L1:Sd G s.heap g.F xs a its n)(L2:Sd G s.heap g.F ys b Ny n2)(l:xs.length<=bZ/\ys.length<=bZ):ao (cU G) G c env g m s (M.ok (.p<| .fl<|xs++ys) σ) (Ap .Add (ai a)<|ai b):=λQv Ev v Q E q e=>by
 have hs:its.toArray.size+Ny.toArray.size<=oK:=by
  exact ah iN<|ah iN<|ah L1.rs.length.symm<|ah L2.rs.length.symm<|adg l.1 l.2
 refine concat_meets ⟨_,L1.at_,rfl⟩ ⟨_,L2.at_,rfl⟩ Uw seq_list_add aen aem (ael _ _) (list_addW a b its.toArray Ny.toArray n n2 _ _ _ _<|by simpa using hs)<|k8 L1.at_ L2.at_ ?_
 rw[Vf]
 exact tW I (bY _ _) (cp _) (fZ _ rf) (L1.rs.append L2.rs) v q
theorem Sk(I:bg G c g σ env m s)(hk:-1000000<=k/\k<=1000):ao (cU G) G c env g m s (M.ok (.p<| .str<|oY k) σ) (Ap .Mult (.str (fM [32]) t)<| .int k t'):=
 ao.ok I λQ E fin=>by
  refine SB.mul ⟨xb.mpr ⟨decide_eq_false<|kq.mpr<|i7 (by decide) hk.1,decide_eq_false<|xf.mpr<|qg hk.2<|dc rt⟩,λh1 _=>(kq.mpr<|(Int.le_ediv_iff_mul_le<|uO (by decide)<|kq.mp h1).mpr<|i7 (d8<|VH k)<|i7 hk.2<|dc rt),λh1 _=>(decide_eq_false<|qy.mpr<|bo (bx<|AA _)<|bo (Int.toNat_le.mpr hk.2)<|by refine ah wL ?_;decide)⟩ λt' tk=>?_
  ·rw[Ox]
   exact fin _ _ ⟨Si k,_,rfl⟩
theorem al2{x:Int}(h:x.natAbs<2147483648):-(2^64)<x/\x<2^64:=
 ⟨Int.neg_lt_of_neg_lt<|qg (Int.natAbs_neg x▸VE)<|uP (nS.mpr h)<|dc rt,qg VE<|uP (nS.mpr h)<|dc rt⟩
theorem YV(I:bg G c g σ env m s)(op:G3){a b:V}{u v:au}(ra:VR G s.heap g a u)(rb:VR G s.heap g b v):ao (cU G) G c env g m s (Tw op a b σ) (Ap (tO op) u v):=by
 induction op using G3.casesOn with
 |add=>
  show ao _ _ _ _ _ _ _ (adF a b σ) _;unfold adF;refine od a.eX (λx q=>?_) λq=>?_<;>refine ah q ?_
  ·exact ao.aQ λy hy=>ao.ok I λQ E k=>VR.uy ra q λt=>VR.uy rb hy λt'=>P.add_int<|k _ _ ⟨_,rfl⟩
  ·refine od a.lh (λx q'=>?_) λq'=>?_<;>refine ah q' ?_
   ·exact ao.aQ λy hy=>ao.eD λl=>VR.Z9 ra q' λt o1=>VR.Z9 rb hy λt' o2=>YU I o1 o2 l
   ·exact ao.aQ λxs hx=>ao.aQ λys hy=>ao.eD λl=>VR.al0 I.dR hx ra λa its n L1=>VR.al0 I.dR hy rb λb Ny n2 L2=>Sj I L1 L2 l
 |iz=>exact ao.aQ λx hx=>ao.aQ λy hy=>ao.ok I λQ E k=>VR.uy ra hx λt=>VR.uy rb hy λt'=>P.sub_int<|k _ _ ⟨_,rfl⟩
 |mul=>
  refine ao.aQ λy hy=>VR.uy rb hy λt'=>od a.eX (λx q=>?_) λq=>?_<;>refine ah q ?_
  ·exact VR.uy ra q λt=>ao.eD λl=>ao.ok I λQ E k=>P.mul_int (k _ _ ⟨_,rfl⟩)<|aeV<|intBits_le_64 (al2 l.1).1 (al2 l.1).2
  ·exact ao.aQ λx hx=>ao.eD λl=>VR.Z9 ra hx λt o=>by
    obtain rfl:=l.1;exact Sk I l.2
 |fdiv=>exact ao.aQ λx hx=>ao.aQ λy hy=>ao.eD λl=>ao.ok I λQ E k=>VR.uy ra hx λt=>VR.uy rb hy λt'=>floordiv_int (λe=>absurd (e▸l.2.2.1:(0:Int)<0)<|dc rt) (k _ _ ⟨_,rfl⟩)<|Or.inl<|aeH<|nS.mp<|qg (d8<|Vz<|Ll l.2.2.1)<|uP l.2.2.2<|dc rt
 |mod=>exact ao.aQ λx hx=>ao.aQ λy hy=>ao.eD λl=>ao.ok I λQ E k=>VR.uy ra hx λt=>VR.uy rb hy λt'=>mod_int' l<|k _ _ ⟨_,rfl⟩
theorem ao.Sm(h:∀a,o=aa a->ao Rl G c env g m s (M.bind (f a) k σ) t):ao Rl G c env g m s (M.bind (M.aQ o f) k σ) t:=by
 induction o using fA with
 |none=>exact ao.no (σ:=σ)
 |some a=>exact h a rfl
theorem ao.ahu{p:Prop}{x:M γ}(h:p->ao Rl G c env g m s (M.bind x k σ) t):ao Rl G c env g m s (M.bind (M.eD p x) k σ) t:=λQv Ev z=>h z.1 Qv Ev z.2
theorem ao.al3(h:ao Rl G c env g m s (M.bind (F σ) k σ) t):ao Rl G c env g m s (M.bind (M.at F) k σ) t:=h
theorem XC(I:bg G c g σ env m s){a b:V}{u v:au}(ra:VR G s.heap g a u)(rb:VR G s.heap g b v)(h:∀x y,xU s.heap x u 8->xU s.heap y v 8->qD (qX x) (qX y)=cL x y->ao Rl G c env g m s (k (cL x y) σ) t):ao Rl G c env g m s (M.bind (agG a b) k σ) t:=
 ao.al3 (ao.Sm λx hx=>ao.Sm λy hy=>ao.ahu λp=>h x y (FE I.dR hx p.1 ra) (FE I.dR hy p.2 rb)<|Ms x y p.1 p.2)
structure P6(h:bX)(l:bj)(xs:List P):Prop where
 out:∃its n as,(h.get? l=aa (gv (Vr its) n)\/h.get? l=aa (xT (Vr its) n))/\ReadsAll h its (kt xs) as
 u8:V9 (kt xs)=ag
 depth:V' (kt xs)<=8
theorem YW(R:kT G g σ h){xs:List P}(e:vi σ v=aa xs)(p:dS 8 xs=ag)(r:VR G h g v u):∃l,u=ai l/\P6 h l xs:=by
 refine aai (Mu R e r) λl its n w3 w rs=>?_;subst w3;have q:=Mq xs p<|gu▸rs;obtain ⟨as,y⟩:=q.r;exact (b0 l rfl ⟨(ae0 its n as w y),q.u8,q.depth⟩)
theorem ze(B:G.dB)(I:bg G c g σ env m s){a b:V}{u v:au}(ra:VR G s.heap g a u)(rb:VR G s.heap g b v){t:fv β}(hs:∀x xs l,v=ai l->xU s.heap x u 8->P6 s.heap l xs->ao Rl G c env g m s (k ((kt xs).any λy=>qD y<|qX x) σ) t)(hd:∀key l kvs,v=ai l->jC key u=ag->(l==nG)=ak->s.heap.DictOf G.kk l kvs->ao Rl G c env g m s (k (oN kvs key).isSome σ) t):ao Rl G c env g m s (M.bind (nX a b) k σ) t:=by
 refine ao.al3 ?_;cases q:vi σ b with
 |some xs=>
  refine ao.Sm λx hx=>ao.ahu λp=>cE (YW I.dR q p.2 rb) λl w1 sr=>?_;subst w1;have:=hs x xs l rfl (Nx x p.1<|ra.pl hx) sr;rwa[Sh p.1 p.2]at this
 |none=>
  refine ao.Sm λkey hk=>?_;cases q':qF σ b with
  |some es=>
   refine eh λcy bk=>lK (zC B I.dR q' rb) λl kvs w2 D=>?_;subst w2;refine bk ?_;have:=hd key l kvs rfl ((VR.key hk ra).1) D.z5 D.at_;rwa[ER.al1 D.rs]at this
  |none=>
   refine ao.Sm λes he=>lK (Df B I.dR he rb) λl kvs w2 D=>?_;subst w2;have:=hd key l kvs rfl ((VR.key hk ra).1) D.z5 D.at_;rwa[ER.al1 D.rs]at this
theorem z7{t:au->au->fv au}(I:bg G c g σ env m s){a b:V}{u v:au}(ra:VR G s.heap g a u)(rb:VR G s.heap g b v)(h:∀{x y:Int} {tx ty:kL} {Q} {E},Q (.bool<|f x y) s->bw (bh G.prog G.w) c.A (t (.int x tx)<| .int y ty) Q E s):ao (cU G) G c env g m s (QB f a b σ) (t u v):=
 ao.aQ λx hx=>ao.aQ λy hy=>ao.ok I λQ E k=>VR.uy ra hx λtx=>VR.uy rb hy λty=>h<|k _ s.toks rfl
theorem HF{u v:au}(e:u=v)(h:(v==xk)=ak):(u==xk)=ak:=e▸h
theorem P7{u:au}(r:VR G h g v u):(u==xk)=j0 v:=by
 induction v using V.casesOn with
 |p x=>
  induction x using P.casesOn with
  |none=>obtain rfl:=(r);rfl
  |bool b=>exact HF (r) rf
  |int i=>exact (r).elim λt e=>HF e rf
  |str i=>exact (r.2).elim λt e=>HF e rf
  |jH i=>exact mY (oE.out r) λa _ _ w=>HF w.1 rf
  |fl i=>exact mY (oE.out r) λa _ _ w=>HF w.1 rf
  |fd i=>exact eZ (Fx.out r) λa _ w=>HF w.1 rf
  |BN i=>exact aeZ (Z5.out r) λa _ _ _ w=>HF w.1 rf
  |fn a=>exact HF r.1 rf
  |cls a=>exact HF r.1 rf
  |ty a=>exact HF (r) rf
  |bi a=>exact HF (r) rf
 |dy n=>exact eZ (At.out r.1) λa _ w=>HF w.1 rf
 |_=>exact eZ (At.out r) λa _ w=>HF w.1 rf
theorem yF(e:j0 v=ag):v=.p .none:=by
 induction v using V.casesOn with
 |p x=>induction x using P.casesOn<;>first|rfl|exact dC e
 |_=>exact dC e
theorem Cn.Ok.ahv(hO:c.Ok)(h:k<=200):c.A.units+k<DV:=jB (DY (bo (gf _ _)<|gf _ _) h) hO.units
theorem Cn.Ok.adh(hO:c.Ok){a b:Nat}(h:a<=8):c.A.units+min a b<DV:=hO.ahv<|bo (KW a b)<|bo h<|dc rt
theorem Cn.Ok.HG(hO:c.Ok){a b:Nat}(h:a<=8):c.A.units+1+min a b<DV:=qe ..▸hO.ahv (bo (vd (bo (KW a b) h) 1)<|dc rt)
theorem I2(B:G.dB)(hO:c.Ok)(I:bg G c g σ env m s)(op:aak){a b:V}{u v:au}(ra:VR G s.heap g a u)(rb:VR G s.heap g b v):ao (cU G) G c env g m s (hV op a b σ) (Kw (tP op) u v):=by
 induction op using aak.casesOn with
 |eq=>exact XC I ra rb λx y p q e=>ao.ok I λQ E k=>ue p.r λas pr=>ue q.r λbs qr=>SeqAt.compareEq_reads pr qr p.u8 q.u8 (hO.adh p.depth)<|e▸k _ _ rfl
 |ne=>exact XC I ra rb λx y p q e=>ao.ok I λQ E k=>ue p.r λas pr=>ue q.r λbs qr=>SeqAt.compareNe_reads pr qr p.u8 q.u8 (hO.adh p.depth)<|e▸k _ _ rfl
 |lt=>exact z7 I ra rb P.lt_int
 |le=>exact z7 I ra rb P.le_int
 |gt=>exact z7 I ra rb P.gt_int
 |ge=>exact z7 I ra rb P.ge_int
 |jh=>
  exact ze B I ra rb (λx xs l e p q=>ao.ok I λQ E k=>e▸ue p.r λas pr=>xn q.out λits n bs w qr=>w.elim
   (λw=>SeqAt.in_list_reads (.list w rfl rfl qr) pr q.u8 p.u8 (hO.HG q.depth)<|k _ _ rfl) λw=>SeqAt.in_tuple_reads (.tuple w rfl rfl qr) pr q.u8 p.u8 (hO.HG q.depth)<|k _ _ rfl) λkey l kvs e p nm D=>ao.ok I λQ E k=>e▸wpAny_in_of p nm (DictOf.sf D) (k _ _ rfl)
 |vP=>
  exact ze B I ra rb (λx xs l e p q=>ao.ok I λQ E k=>e▸ue p.r λas pr=>xn q.out λits n bs w qr=>w.elim
   (λw=>SeqAt.notIn_list_reads (.list w rfl rfl qr) pr q.u8 p.u8 (hO.HG q.depth)<|k _ _ rfl) λw=>SeqAt.notIn_tuple_reads (.tuple w rfl rfl qr) pr q.u8 p.u8 (hO.HG q.depth)<|k _ _ rfl) λkey l kvs e p nm D=>ao.ok I λQ E k=>e▸wpAny_notIn_of p nm (DictOf.sf D) (k _ _ rfl)
 |WK=>exact ao.lS λe=>ao.ok I λQ E k=>(yF e▸rb:VR G s.heap g (.p .none) v)▸PySem.is_none ((P7 ra).symm▸k _ _ rfl)
 |Ie=>exact ao.lS λe=>ao.ok I λQ E k=>(yF e▸rb)▸PySem.isNot_none ((P7 ra).symm▸k _ _ rfl)
end
section
variable{env:bS}{m:Env}
theorem ao.at(h:ao Rl G c env g m s (F σ σ) t):ao Rl G c env g m s (M.at F σ) t:=h
theorem aaa{i:Int}(h:i<10000000):i<2^63:=uP h<|dc rt
theorem aab(h:-10000000<i):-(2^63)<=i:=i7 (by decide)<|Ll h
theorem aiL{i:Int}(h0:-10000000<i)(h1:i<10000000):(decide (i< -(2^63:Int))||decide (i>=2^63))=ak:=
 xb.mpr ⟨decide_eq_false<|kq.mpr<|aab h0,decide_eq_false<|xf.mpr<|aaa h1⟩
theorem xW(h0:0<=i)(h1:i.toNat<n):seqIndex? i n=aa i.toNat:=by
 refine ue (AM h0) λj w1=>?_;subst w1;show (if _ then _ else _)=_;rw[if_neg<|kq.mpr h0];exact if_pos<|tE.mpr ⟨decide_eq_true h0,decide_eq_true<|nS.mpr h1⟩
structure aiM(n:Nat)(i:Int)(j:Nat):Prop where
 lo:-10000000<i
 hi:i<10000000
 at_:seqIndex? i n=aa j
 sg:(0<=i/\j=i.toNat)\/(i<0/\-(n:Int)<=i/\j=(i+n).toNat)
theorem YX(e:pU n i=aa j)(hj:j<n):aiM n i j:=by
 unfold pU at e;refine bc (decide<|0<=i/\i<10000000) (λq=>?_) λq=>?_
 ·rw[q]at e;obtain rfl:=fh e
  have q:=of_decide_eq_true q;exact ⟨uO (by decide) q.1,q.2,xW q.1 hj,az ⟨q.1,rfl⟩⟩
 ·rw[q]at e
  refine bd (decide<|0<=i+n/\-10000000<i) (λq'=>?_) λq'=>?_
  ·rw[q']at e;exact cV e
  ·rw[q']at e;obtain rfl:=fh e
   have q':=of_decide_eq_true q';exact (Int.lt_or_le i 0).elim (λl=>⟨q'.2,uP l<|dc rt,seqIndex_neg l<|VA<|(VJ i n).symm▸q'.1,aX<|k8 l (VA<|(VJ i n).symm▸q'.1) rfl⟩) λg=>(xf.mpr (nS.mpr hj)<|i7 (Int.le_add_of_nonneg_left g)<|d8 (xd q'.1).symm).elim
theorem wA(I:bg G c g σ env m s){r:V}{u v:au}(hp:n8 slice=ag){id:String}(hT:s.TypeIs u T)(hl:Ai (aJ T) "__getitem__"=pure (aa<| .builtin id))(k:∀Q E,(∀x tk,VR G s.heap g r x->Q x {s with toks:=tk})->bw (bh G.prog G.w) c.A (KL u v) Q E s):ao (cU G) G c env g m s (M.ok r σ) (LG value slice u v):=
 ao.ok I λQ E z=>tail_any hT hl (k Q E λx tk r=>z x tk r) (by induction slice using nV<;>first|rfl|exact dC hp)
theorem I3(I:bg G c g σ env m s){A:Type}{R:A->au->Prop}{es:List (bV×A)}{l:bj}(D:H' G s.heap R es l kvs){v:au}(k1:jC k v=ag){x:A}(e:av es k=aa x){w:A->V}(hw:∀u,R x u->VR G s.heap g (w x) u)(hp:n8 slice=ag):ao (cU G) G c env g m s (M.ok (w x) σ) (LG value slice (ai l) v):=by
 have:=ER.kM (k:=k) D.rs;rw[e]at this;exact cE this λy hy ry=>wA I hp (DictOf.sf D.at_).typeIs slot_dict_getitem.lookup λQ E z=>wpAny_getItem_of k1 (DictOf.sf D.at_) hy<|z _ _<|hw y ry
theorem aiN{a b:Bool}(h:a=ag)(g:b=ag):(a&&b)=ag:=by rw[h,g];rfl
theorem afU(B:G.dB)(I:bg G c g σ env m s){a b:V}{u v:au}(ra:VR G s.heap g a u)(rb:VR G s.heap g b v)(hp:n8 slice=ag):ao (cU G) G c env g m s (rU a b σ) (LG value slice u v):=by
 refine ao.at<|od a.lh (λt q=>?_) λq=>?_<;>rw[q]
 ·refine ao.aQ λi hi=>ao.eD λh0=>ao.aQ λd hd=>VR.Z9 ra q λtk o=>VR.uy rb hi λMo=>wA I hp (Aj s _ _) aeq.lookup λQ E z=>aet (c:=d) (aiL (uO (by decide) h0.1) h0.2) ?_<|z _ _ ⟨aiN (lO.mp o d<|w7 hd) rt,_,rfl⟩
  rw[vJ,xW h0.1<|(pz.mp hd).1];exact (D6 ..).trans hd
 ·refine od (vi σ a) (λxs q'=>?_) λq'=>?_<;>rw[q']
  ·refine ao.aQ λi hi=>ao.aQ λj hj=>ao.aQ λx hx=>VR.uy rb hi λtk=>aai (Mu I.dR q' ra) λl its n w3 w rs=>w3▸cE (rs.kM hx) λy hy ry=>?_
   have afV:=(D6 ..).trans hy;have hn:xs.length=its.toArray.size:=rs.length;have ia:=YX hj (pz.mp hx).1;exact w.elim (λw=>wA I hp ⟨_,w,rfl⟩ slot_list_getitem.lookup λQ E z=>ia.sg.elim
    (λs1=>wpAny_getItem_list ⟨_,w,rfl,_,rfl⟩ s1.1 (aaa ia.hi) (s1.2▸afV)<|z _ _ ry)
    λs1=>wpAny_getItem_list_neg ⟨_,w,rfl,_,rfl⟩ s1.1 (hn▸s1.2.1) (aab ia.lo) (by rw[<-hn,<-s1.2.2];exact afV)<|z _ _ ry)
    λw=>wA I hp ⟨_,w,rfl⟩ slot_tuple_getitem.lookup λQ E z=>aer ⟨_,w,rfl,_,rfl⟩ (aab ia.lo) (aaa ia.hi) (hn▸ia.at_) afV<|z _ _ ry
  ·refine ao.aQ λk hk=>?_
   have k1:=(VR.key hk rb).1;refine od (qF σ a) (λes q2=>?_) λq2=>?_<;>rw[q2]
   ·exact ao.aQ λx hx=>lK (zC B I.dR q2 ra) λl kvs w2 D=>w2▸I3 I D k1 hx (w:=V.p) (λ_ r=>r) hp
   ·exact ao.aQ λes he=>ao.aQ λx hx=>lK (Df B I.dR he ra) λl kvs w2 D=>w2▸I3 I D k1 hx (w:=V.dy) (λ_ r=>r) hp
theorem FH{p pos:ca}{E:au->aY->Prop}(h:bw (bh prog w) A (bq value env) (λo aH=>bw (bh prog w) A (evalPart lower env) (λvl da=>bw (bh prog w) A (evalPart upper env) (λvu gd=>∃T id,Ai (aJ T) "__getitem__"=pure (aa<| .builtin id)/\Wz {gd with heap:=gd.heap.push {cls:=aJ "slice",data:=.fields #[vl,vu,.none]}} o T/\bw (bh prog w) A (KL o<|ai gd.heap.objs.size) Q E {gd with heap:=gd.heap.push {cls:=aJ "slice",data:=.fields #[vl,vu,.none]}}) E da) E aH) E s):bw (bh prog w) A (bq (.Subscript value (.Slice lower upper aj p) pos) env) Q E s:=by
 refine Wh<|wpAny_mono h (λo aH eY=>wpAny_Slice<|oG eY (λvl da l4=>oG l4 (λvu gd zX=>?_) λ_ _ e=>e) λ_ _ e=>e) λ_ _ e=>e;refine eh λcy bk=>oi zX λT id hl hT hg=>bk ?_;rw[evalPart_none];exact bO<|tail_any hT hl hg rfl
theorem aiO(k n:Nat):max 0 (min (if (k:Int)<0 then (k:Int)+n else k) n)=((min k n:Nat):Int):=ah (if_neg<|kq.mpr<|gG k)<|(K1 k n).elim (λh=>ah (Int.min_eq_left<|cS.mpr h)<|ah (DX h)<|Int.max_eq_right<|gG k)
 λh=>ah (Int.min_eq_right<|cS.mpr h)<|ah (KV h)<|Int.max_eq_right<|gG n
theorem uz{lo:Option Int}:0<=lo.getD 0->(match lo with|none=>(0:Int)|some i=>max 0<|min (if i<0 then i+n else i) n)=((min (lo.getD 0).toNat n:Nat):Int):=by
 induction lo using fA with
 |none=>exact λ_=>congrArg Int.ofNat (Nat.zero_min n).symm
 |some i=>exact λh=>(AM h).elim λk e=>by subst e;exact aiO k n
theorem P8(a b n:Nat):min b n - min a n=min b n - a:=(K1 a n).elim (λh=>by refine ah (DX h) ?_;rfl) λh=>by
 refine ah (KV h)<|ah (U1<|U6 b n)<|ah (U1<|bo (U6 b n) h) ?_;rfl
theorem vE(l:List α)(a b:Nat):(l.drop<|min a l.length).take (min b l.length - min a l.length)=(l.take b).drop a:=by
 rw[P8,List.drop_take];refine (K1 a l.length).elim (λh=>?_) λh=>?_
 ·refine ah (DX h) ?_;rw[<-Nat.sub_min_sub_right,<-Lg];exact List.take_eq_take_min.symm
 ·exact ah (KV h)<|ah (K9<|gj _)<|ah (K9 h)<|List.take_nil.trans List.take_nil.symm
theorem HH{lo:Option Int}(h0:0<=lo.getD 0)(h1:0<=hi):slicePick its.toArray lo (aa hi) aj=((its.take hi.toNat).drop (lo.getD 0).toNat).toArray:=by
 have e:UQ lo (aa hi) aj its.toArray.size=(((min (lo.getD 0).toNat its.length:Nat):Int),((min hi.toNat its.length:Nat):Int),1):=by
  simp only[UQ,Option.getD_none,show 1>0 by decide,if_true,iN];congr 1
  ·exact uz h0
  ·congr 1
   exact uz (lo:=aa hi) h1
 unfold slicePick
 refine ah e ?_
 dsimp only
 rw[UA,pick_run]
 rw[vE]
theorem Oy{lo:Option Int}(h0:0<=lo.getD 0)(h1:0<=hi):(El lo (aa hi) 1 (fM t).length).filterMap ((fM t).cps[·]?)=(t.take hi.toNat).drop (lo.getD 0).toNat/\(El lo (aa hi) 1 (fM t).length).length=((t.take hi.toNat).drop (lo.getD 0).toNat).length:=by
 have e:El lo (aa hi) 1 (fM t).length=Kp ((min (lo.getD 0).toNat t.length:Nat):Int) ((min hi.toNat t.length:Nat):Int) 1:=
  (show Kp _ _ 1=_ from congrFun (congr (congrArg Kp<|(show _=_ by induction lo using fA<;>rfl).trans<|uz h0)<|uz (lo:=aa hi) h1) 1)
 refine ah e ?_;rw[UA]
 exact ⟨(pick_run ..).trans<|vE t _ _,(cq _).trans<|Lf.trans<|(P8 ..).trans<|(congrArg (· - _) D9.symm).trans Lg.symm⟩
theorem P9(o:sd t=ag)(a b:Nat):sd ((t.take b).drop a)=ag:=by
 unfold sd at o⊢;rw[lO]at o⊢;exact λx hx=>o x<|Vd<|Ve hx
theorem B0(I:bg G c g σ env m s)(ra:VR G s.heap g a u){lo:Option (Int×kL)}{E:au->aY->Prop}(z:CY a ((lo.map oW).getD 0) hi σ Qv Ev)(q:yA (cU G) G c env s.heap g m Qv Q):∃T id,Ai (aJ T) "__getitem__"=pure (aa<| .builtin id)/\Wz {s with heap:=s.heap.push {cls:=aJ "slice",data:=.fields #[Kx lo,.int hi th,.none]}} u T/\bw (bh G.prog G.w) c.A (KL u<|ai s.heap.objs.size) Q E {s with heap:=s.heap.push {cls:=aJ "slice",data:=.fields #[Kx lo,.int hi th,.none]}}:=by
 obtain ⟨⟨h0,h1⟩,z⟩:=z;obtain ⟨Ip,xp⟩:=I.push {cls:=aJ "slice",data:=.fields #[Kx lo,.int hi th,.none]} s.toks;unfold M.at at z;cases hs:a.lh with
 |some t=>
  rw[hs]at z;refine eh λcy bk=>aah z λSn z=>?_;obtain ⟨ok,tk,rfl⟩:=ra.str hs;refine bk<|(gZ _ _ F.slot_str_getitem.lookup (Aj _ _ _) ?_)
  refine wpAny_getItem_str_slice (l:=lo) (u:=aa (hi,th)) (st:=aj) ⟨_,fZ _ rf,rfl,rfl⟩ rf ?_;obtain ⟨e1,e2⟩:=Oy (t:=t) h0 h1;unfold sliceMade;refine ah (rfl:slicePicked (fM t) lo (aa (hi,th)) aj=El (lo.map oW) (aa hi) 1 (fM t).length) ?_;split
  ·rename_i aiP
   have hlen:((t.take hi.toNat).drop ((lo.map oW).getD 0).toNat).length=t.length:=by
    exact ah e2.symm<|(eq_of_beq aiP)
   rw[((Vj _ _).trans<|Vk _ _).eq_of_length hlen]at z
   exact q _ _ _ _ _ z Ip xp ⟨ok,_,rfl⟩
  ·exact ah e1<|⟨bo ((Vj _ _).trans<|Vk _ _).length_le<|iK Sn,q _ _ _ _ _ z (Ip.alY _) xp ⟨P9 ok _ _,_,rfl⟩⟩
 |none=>
  rw[hs]at z;refine oc (jU σ a) (λhx=>?_) λxs hx=>?_
  ·rw[hx]at z;exact z.elim
  ·
   rw[hx]at z;obtain ⟨Sn,z⟩:=z;refine xn (pH I.dR hx ra) λl its n w3 L=>?_;subst w3;refine (gZ _ _ list_getitem_lookup ⟨_,bY _ _ _ _ L.at_,rfl⟩ ?_);refine wpAny_getItem_list_slice (lo:=lo.map oW) ⟨_,bY _ _ _ _ L.at_,rfl,_,rfl⟩ (aeT ..) ?_ (.int _ _) .none (by simp) ?_ ?_
   ·induction lo using fA with
    |none=>exact .none
    |some p=>exact .int _ _
   ·exact (HH h0 h1)▸tW Ip (bY _ _) (cp _) (fZ _ rf) (((L.rs.bL λv _=>PR.bL xp.ji v).take _).drop _) z (q.ext xp)
   ·exact ah iN<|ah L.rs.length.symm<|iK Sn
end
section
variable{env:bS}{m:Env}
theorem afW(I:bg G c g σ env m s)(ra:VR G s.heap g a u):ao (cU G) G c env g m s (M.aQ a.eX (λi=>M.ok<|it<|-i) σ) (unaryOp .USub u):=
 ao.aQ λx hx=>ao.ok I λQ E z=>by
  obtain ⟨t,rfl⟩:=ra.int hx;exact P.neg_int<|z _ _ ⟨_,rfl⟩
theorem Bm{E:au->aY->Prop}(hl:s.heap.get? l=aa (gv items n))(hb:s.heap.get? b=aa (gv Mv n2))(hs:items.size+Mv.size<=oK)(h:Q (ai l) {s with heap:=s.heap.update l (xj λx=>x++Mv)}):bw (bh prog w) A (DN .Add (ai l)<|ai b) Q E s:=by
 have ahw:isSeqSlot (aa<|bv "list.__iadd__")=ag:=dc rt;unfold DN;refine fE ?_;have am5:Ut (aJ "list") "add" (aeX==.Add)=pure ak:=by
  unfold Ut;refine ah Lw.lookup<|ah ahw ?_;rfl
 refine aR<|Ki (⟨_,hl,rfl⟩)<|aR<|Km am5 ?_
 refine ah (if_neg fF)<|wpAny_bind<|wpAny_binaryOp1_none (⟨_,hl,rfl⟩) (⟨_,hb,rfl⟩) Uw ?_
 refine aR<|Km (PySem.seqSlot_of Lw.lookup ahw) ?_
 refine aR<|Ak ?_
 refine uE Lw (⟨_,hl,rfl⟩) F.entry_list_iadd (F.args_list_iadd_2 _ _) (aeB l items n b Mv n2 (by simp[Wl];intro _;exact hs) (bo (gf _ _) hs)<|uJ hs)<|k8 hl hb h
theorem bg.ad6(I:bg G c g σ env m s){o:O}(hp:g.ρ n=aa (aa (a,a)))(ho:aW σ n=aa o)(hx:o.QA=aj)(k:∀b,b≠a->h'.get? b=s.heap.get? b)(g1:∃ob,h'.get? a=aa ob)(z:OR G h' g o' (a,a)):bg G c g (aG σ n o') env m {s with heap:=h',toks:=tk}/\eJ s.heap g h' g:=
 I.rz hp (λk fs q=>by rw[q]at ho;obtain rfl:=fh ho;exact Cm hx) (λb q _=>k b q) g1 g1 z
theorem lH.at(R:kT G g σ h)(hp:g.ρ n=aa (aa p))(k:∀b,b≠p.1->b≠p.2->h'.get? b=h.get? b):lH h g.F h' g.F:=λb o f e=>
 ⟨f,(k b (λq=>(R.fz b f).1 ⟨n,p,hp,az q⟩) λq=>(R.fz b f).1 ⟨n,p,hp,aX q⟩).trans e⟩
structure adi(G:GG)(h:bX)(g:Gh)(n:Nat)(xs:List P)(a:bj)(its:List au)(k:Nat):Prop where
 ρ:g.ρ n=aa (aa (a,a))
 L:Sd G h g.F xs a its k
theorem Bn(R:kT G g σ h){xs:List P}(ho:aW σ n=aa (.ls xs))(r:At g.ρ n u):∃a its k,u=ai a/\adi G h g n xs a its k:=by
 refine eh λcy bk=>?_;obtain ⟨⟨a,b⟩,rfl,hp,z⟩:=R.ref r ho (by intro q;contradiction) (by intro q;contradiction);refine oi z.out λits k e y w=>bk ?_;cases (show b=a from e);exact (ae0 a its k rfl ⟨hp,y,w⟩)
structure xX(G:GG)(h:bX)(g:Gh)(n:Nat){A:Type}(R:A->au->Prop)(es:List<|bV×A)(a:bj)(kvs:List<|bV×au):Prop where
 ρ:g.ρ n=aa (aa (a,a))
 D:H' G h R es a kvs
theorem xX.of(B:G.dB)(R:kT G g σ h){A:Type}{r:A->au->Prop}{es:List (bV×A)}(hp:g.ρ n=aa (aa p))(z:R8 G h r es p):∃kvs,xX G h g n r es p.1 kvs:=by
 obtain ⟨a,b⟩:=p;refine vC z.out λkvs e y w=>?_;obtain rfl:=(show b=a from e)
 exact ⟨kvs,hp,y,jg.rm B R ⟨n,_,hp,az rfl⟩,w⟩
theorem afX(B:G.dB)(R:kT G g σ h){es:List (bV×P)}(ho:aW σ n=aa (.dc es))(r:At g.ρ n u):∃a kvs,u=ai a/\xX G h g n (PR G h g.F) es a kvs:=by
 obtain ⟨p,rfl,hp,z⟩:=R.ref r ho (by intro q;contradiction) (by intro q;contradiction);obtain ⟨kvs,k⟩:=xX.of B R hp z;exact (jY _ kvs rfl k)
theorem XD(B:G.dB)(R:kT G g σ h){es:List (bV×Nat)}(ho:aW σ n=aa (.rd es))(r:At g.ρ n u):∃a kvs,u=ai a/\xX G h g n (aau g.ρ) es a kvs:=by
 obtain ⟨p,rfl,hp,z⟩:=R.ref r ho (by intro q;contradiction) (by intro q;contradiction);obtain ⟨kvs,k⟩:=xX.of B R hp z;exact (jY _ kvs rfl k)
theorem FJ(I:bg G c g σ env m s){xs vs:List P}(ho:aW σ n=aa (.ls xs))(w:adi G s.heap g n xs a its k)(e:f (gv its.toArray k)=gv Nz.toArray k')(rs:bR (PR G s.heap g.F) vs Nz):bg G c g (aG σ n<| .ls vs) env m {s with heap:=s.heap.update a f,toks:=tk}/\eJ s.heap g (s.heap.update a f) g:=by
 have hk:∀b,b≠a->(s.heap.update a f).get? b=s.heap.get? b:=λb q=>mA _ _ q.symm;have e1:(s.heap.update a f).get? a=aa (gv Nz.toArray k'):=by
  refine ah (nT _ w.L.at_<|by refine ah e ?_;exact Obj.isFreed_of_seq rfl) ?_;refine ah e ?_;rfl
 exact I.ad6 w.ρ ho rn hk ⟨_,e1⟩ ⟨Nz,k',rfl,e1,rs.bL λv _=>PR.bL (lH.at I.dR w.ρ (h':=s.heap.update a f) λb q _=>hk b q) v⟩
theorem afY(I:bg G c g σ env m s){xs es:List (bV×P)}(ho:aW σ n=aa (.dc xs))(w:xX G s.heap g n (PR G s.heap g.F) xs a kvs)(hk:∀b,b≠a->h'.get? b=s.heap.get? b)(e:h'.DictOf G.kk a Fw)(rs:bR (ER<|PR G s.heap g.F) es Fw):bg G c g (aG σ n<| .dc es) env m {s with heap:=h',toks:=tk}/\eJ s.heap g h' g:=I.ad6 w.ρ ho rn hk (xn e λo _ _ q _=>⟨o,q⟩) ⟨Fw,rfl,e,rs.bL λ_ _ z=>⟨z.1,PR.bL (lH.at I.dR w.ρ (h':=h') λb q _=>hk b q) _ z.2⟩⟩
theorem XE(I:bg G c g σ env m s){xs es:List (bV×Nat)}(ho:aW σ n=aa (.rd xs))(w:xX G s.heap g n (aau g.ρ) xs a kvs)(hk:∀b,b≠a->h'.get? b=s.heap.get? b)(e:h'.DictOf G.kk a Fw)(rs:bR (ER<|aau g.ρ) es Fw):bg G c g (aG σ n<| .rd es) env m {s with heap:=h',toks:=tk}/\eJ s.heap g h' g:=
 I.ad6 w.ρ ho rn hk (xn e λo _ _ q _=>⟨o,q⟩) ⟨Fw,rfl,e,rs⟩
theorem ER.fP{A:Type}{R:A->au->Prop}(ok:LX k=ag){v:A}(q:R v u):∀{es}{kvs},bR (ER R) es kvs->(kvs.map (·.1)).Nodup->bR (ER R) (aN es k v) (sv kvs k u):=@lr _ _
 (@λkvs r _=>r.nil▸⟨⟨⟨rfl,ok⟩,q⟩,trivial⟩)
 (@pr _ _ _ (λj v' es ih=>@λkvs r nd=>by
  obtain ⟨⟨j',x⟩,kvs,rfl,⟨⟨e,o⟩,a⟩,r'⟩:=r.cons;obtain rfl:=(show j=j' from e)
  rw[oP,w9]at nd;rw[EL];by_cases w:j=k
  ·rw[if_pos w]
   subst w;have:sv ((j,x)::kvs) j u=(j,u)::kvs:=by
    unfold sv;refine ah (if_pos<|by simp)<|ah oP<|ah (if_pos rfl)<|ah (map_store_of_not_mem kvs j u nd.1) ?_;rfl
   exact ah this<|⟨⟨⟨rfl,o⟩,q⟩,r'⟩
  ·rw[if_neg w]
   have:sv ((j,x)::kvs) k u=(j,x)::sv kvs k u:=by
    unfold sv;by_cases z:(kvs.any λkv=>decide<|kv.1=k)=ag
    ·refine ah (if_pos<|by simp[z])<|ah (if_pos z)<|ah oP<|ah (if_neg w) ?_;rfl
    ·refine ah (if_neg<|by simpa [w]using z)<|ah (if_neg z) ?_;rfl
   exact this▸⟨⟨⟨rfl,o⟩,a⟩,ih r' nd.2⟩))
theorem DictOf.adj(d:h.DictOf (zZ prog w) a kvs):(kvs.map (·.1)).Nodup:=alx d λ_ _ _ _ _ _ _ _ nd=>nd
theorem B5(I:bg G c g σ env m s)(op:G3){a b:V}{u v:au}(ra:VR G s.heap g a u)(rb:VR G s.heap g b v):ao (cU G) G c env g m s (vQ op a b σ) (DN (tO op) u v):=by
 induction op using G3.casesOn with
 |add=>
  show ao _ _ _ _ _ _ _ ((match a.eX with|some x=>M.aQ b.eX λy=>M.ok (it<|x+y)|none=>_) σ) _;refine od (a.eX) (λx q=>?_) λq=>?_
  ·refine ah q<|ao.aQ λy hy=>ao.ok I λQ E k=>ue (ra.int q) λt w1=>?_;subst w1
   obtain ⟨t',rfl⟩:=rb.int hy;exact P.iadd_int<|k _ _ ⟨_,rfl⟩
  ·refine ah q<|ao.aQ λn hn=>ao.at<|ao.aQ λxs hx=>ao.aQ λys hy=>ao.eD λSn=>?_
   intro Qv Ev z Q E q e;refine cE (cR hx) λo e1 e2=>?_;cases O.lJ e2;refine eh λcy bk=>xn (Bn I.dR e1<|ra.at hn) λl its k w3 w=>?_;subst w3;refine xn (pH I.dR hy rb) λl2 Ny k2 w3 L2=>?_;subst w3;refine bk<|Bm w.L.at_ L2.at_ (ah iN<|ah iN<|ah w.L.rs.length.symm<|ah L2.rs.length.symm<|iK Sn) ?_;have:=FJ (tk:=s.toks) I e1 w (f:=xj λx=>x++Ny.toArray) (Nz:=its++Ny) (k':=_) (by rw[<-Vf];rfl)<|w.L.rs.append L2.rs;exact q _ _ _ g _ z this.1 this.2<|ra.ext this.2
 |iz=>
  refine ao.aQ λx hx=>ao.aQ λy hy=>ao.ok I λQ E k=>ue (ra.int hx) λt w1=>?_;subst w1;obtain ⟨t',rfl⟩:=rb.int hy;exact P.isub_int<|k _ _ ⟨_,rfl⟩
 |_=>exact ao.no (σ:=σ)
theorem HI{E:au->aY->Prop}{l:bj}{k:Int}{v:au}{Q:Unit->aY->Prop}(hg:s.heap.get? l=aa (gv items n))(h0:0<=k)(ahx:k<2^63)(hn:k<items.size)(hQ:Q () {s with heap:=s.heap.update l (xj (·.setIfInBounds k.toNat v))}):bw (bh prog w) A (DO (ai l) (.int k t) v) Q E s:=by
 have hl:s.heap.IsList l items:=⟨_,hg,rfl,_,rfl⟩
 unfold DO;try with_reducible refine fE<|wpAny_bind (wpAny_sequenceKey hl.typeIs (by decide) ?_)
 refine aR (wpAny_callSpecial?_slot hl.typeIs Uq
  (J' Uq hl.typeIs entry_list_setitem ?_<|args_list_setitem _ _ _))
 show bw _ _ (aew (.int k t)>>=_) _ _ s
 refine aR<|wpAny_listSubscript_int (fitsIndex_of h0 ahx) ?_
 clear ahx
 obtain ⟨j,rfl⟩:=AM h0
 refine aR<|aR<|wpAny_seqItemAt hg rfl<|bO ?_
 refine ah (V7<|(cS.mp<|zz [↑j,↑items.size] eI bb [(1,eA aB bz,bb)] rt hn)) ?_
 refine aR<|wpAny_setSeqItemAt hg rfl ?_
 exact bO<|b0 .none rfl<|bO hQ
theorem So(B:G.dB)(I:bg G c g σ env m s){o k:V}(ro:VR G s.heap g o uo)(rk:VR G s.heap g k uk)(rv:VR G s.heap g v uv):ao ajO G c env g m s (iA o k v σ) (DO uo uk uv):=by
 refine ao.aQ λn hn=>ao.at<|ao.aQ λob ho=>?_;induction ob using O.casesOn with
 |ls xs=>
  refine ao.aQ λi hi=>ao.eD λh0=>ao.aQ λx hx=>?_;intro Qv Ev z Q E q e;obtain ⟨t,rfl⟩:=rk.int hi;refine xn (Bn I.dR ho<|ro.at hn) λl its k w3 w=>?_;subst w3;refine HI w.L.at_ h0.1 (uP h0.2.2<|dc rt) (by refine ah iN ?_;refine ah w.L.rs.length.symm ?_;exact h0.2.1) ?_;have:=FJ (tk:=s.toks) I ho w (f:=xj (·.setIfInBounds i.toNat uv)) (Nz:=its.set i.toNat uv) (k':=_) (by rw[<-List.setIfInBounds_toArray];rfl)<|w.L.rs.set i.toNat<|rv.pl hx;exact q _ _ _ g _ z this.1 this.2 trivial
 |dc es=>
  refine ao.aQ λkey hk=>ao.aQ λx hx=>ao.eD λSn=>?_;intro Qv Ev z Q E q e;obtain ⟨k1,k2⟩:=VR.key hk rk;obtain ⟨l,kvs,rfl,w⟩:=afX B I.dR ho<|ro.at hn;refine Ul k1 w.D.at_ (λh' Mw T5=>?_) (by rw[<-w.D.rs.length];exact iK Sn);have:=afY (tk:=s.toks+1) I ho w (λb q=>T5.2 b q) Mw<|ER.fP k2 (rv.pl hx) w.D.rs<|DictOf.adj w.D.at_;exact q _ _ _ g _ z this.1 this.2 trivial
 |rd es=>
  refine ao.aQ λkey hk=>ao.aQ λx hx=>ao.eD λSn=>?_;intro Qv Ev z Q E q e;obtain ⟨k1,k2⟩:=VR.key hk rk;obtain ⟨l,kvs,rfl,w⟩:=XD B I.dR ho<|ro.at hn;refine Ul k1 w.D.at_ (λh' Mw T5=>?_) (by rw[<-w.D.rs.length];exact iK Sn);have:=XE (tk:=s.toks+1) I ho w (λb q=>T5.2 b q) Mw<|ER.fP k2 (rv.am4 hx) w.D.rs<|DictOf.adj w.D.at_;exact q _ _ _ g _ z this.1 this.2 trivial
 |_=>exact ao.no (σ:=σ)
end
section
open PySem PySem.W PySem.Calls PyProof.Rows Builtin Builtin.ObjectAttr
section
variable{env:bS}{m:Env}
structure kA(K:c7)(a:Nat)(d:cN):Prop where
 cd:∃cd,xi K a=aa cd/\cd.hasDict=ag/\MV cd.mro=ag
 ga:iZ K (ai a) "__getattribute__"=aa (aa<| .builtin<|if d.d5 then "BaseException.__getattribute__" else "object.__getattribute__")
 gh:iZ K (ai a) "__getattr__"=aa aj
 sa:iZ K (ai a) "__setattr__"=aa (aa<|bv "object.__setattr__")
 wa:∀i,i∈d.fields->iZ K (ai a) (nm i)=aa aj
 plain:d.d5=ak->plainOver K a=ag/\makesIn K a=ag/\iZ K (ai a) "__init__"=aa (aa<|ai d.init)/\sA K (ai d.init)=aa (aJ "function")
 jm:d.d5=ag->subIn K (ai a) (aJ "BaseException")=aa ag/\iZ K (ai a) "__class__"=aa (aa<|bv "object.__class__")/\d.mro.contains a=ag/\
  ∃cd,xi K a=aa cd/\cd.mro=d.mro.map jX++[aJ "Exception",aJ "BaseException",aJ "object"]
 call:uR K (ai a)=ag
 aav:sA K (ai a)=aa (aJ "type")/\AR K (ai a) (aJ "type")=aa ag
 vg:∀i f,(i,f)∈d.tG->iZ K (ai a) (nm i)=aa (aa<|ai f)/\sA K (ai f)=aa (aJ "function")/\VL.contains (nm i)=ak
def iU(G:GG):Prop:=∀a d,G.T.cls a=aa d->kA G.K a d
theorem ahy{b:Bool}(h:b=ag):¬(!b)=ag:=by subst h;exact fF
theorem al4{b:Bool}(h:b=ak):¬b=ag:=by subst h;exact fF
theorem GG.dB.jh(B:G.dB)(I:bg G c g σ env m s):G.K.In s.heap:=B.X.keeps I.keep
theorem Sp(n:Nat):qB (.builtin<|xv n)=ag:=by
 unfold xv;repeat' split
 all_goals decide+kernel
theorem jS{u v:au}(e:u=v)(h:qB v=ag):qB u=ag:=e▸h
theorem PR.FK{F:Fz}{x:P}{u:au}(r:PR G h F x u):qB u=ag:=by
 induction x using P.casesOn with
 |none=>exact jS r rt
 |bool b=>exact jS r rt
 |int i=>exact r.elim λt e=>jS e rt
 |str i=>exact r.2.elim λt e=>jS e rt
 |jH i=>exact mY (oE.out r) λa _ _ w=>jS w.1 rt
 |fl i=>exact mY (oE.out r) λa _ _ w=>jS w.1 rt
 |fd i=>exact eZ (Fx.out r) λa _ w=>jS w.1 rt
 |BN i=>exact aeZ (Z5.out r) λa _ _ _ w=>jS w.1 rt
 |fn a=>exact jS r.1 rt
 |cls a=>exact jS r.1 rt
 |ty a=>exact jS r rt
 |bi a=>exact jS r<|Sp _
theorem VR.FK{u:au}(r:VR G h g v u):qB u=ag:=by
 induction v using V.casesOn with
 |p x=>exact PR.FK r
 |dy n=>obtain ⟨a,_,rfl,_⟩:=At.out r.1;rfl
 |_=>obtain ⟨a,_,rfl,_⟩:=At.out r;rfl
theorem I4{i:Nat}{t:kL}:(Ek (nm j) t).isStr (nm i)=decide (j=i):=by
 show (nm j==nm i)=_;by_cases q:j=i
 ·subst q;simp
 ·rw[decide_eq_false q,beq_eq_false_iff_ne]
  exact λz=>q<|u7 z
section
variable{A:Type}{R:A->au->Prop}
theorem FR.refKey:∀{fs:List (Nat×A)}{gB:List i5},bR (FR R) fs gB->gB.any (·.refKey)=ak:=@lr _ _
 (@λ_ r=>by refine ah r.nil ?_;rfl)
 (λe fs ih=>@λgB r=>by
  obtain ⟨⟨hh,ky,x⟩,gB,rfl,⟨⟨t,e⟩,_⟩,r'⟩:=r.cons;obtain rfl:=(e)
  refine ah Ed<|ah (ih r') ?_;rfl)
theorem FR.key{e:Nat×A}{d:i5}(r:FR R e d)(i:Nat):d.key.isStr (nm i)=decide (e.1=i):=r.1.elim λt q=>(congrArg (Value.isStr · _) q).trans I4
theorem FR.ahz(i:Nat):∀{fs:List (Nat×A)}{gB:List i5},bR (FR R) fs gB->match av fs i with
 |some v=>∃e,gB.find? (·.key.isStr (nm i))=aa e/\R v e.val
 |none=>gB.find? (·.key.isStr (nm i))=aj:=@lr _ _ (@λgB r=>by induction gB using cZ with|nil=>exact rfl|cons=>exact r.elim)
 (λe fs ih=>@λgB r=>by
  induction gB using cZ with
  |nil=>exact r.elim
  |cons d gB=>
   rw[WR];refine (sD<|e.1=i).elim (λq=>ah (if_pos q)<|(b0 d (List.find?_cons_of_pos<|r.1.key i▸decide_eq_true q) r.1.2)) λq=>?_
   ·refine ah (if_neg q)<|ah (List.find?_cons_of_neg<|r.1.key i▸decide_eq_false q▸fF) ?_;exact ih r.2)
theorem zf(name:bB)(gB:List i5)(n:Nat):sB name (lQ gB n)=(match gB.find? (·.key.isStr name)with
 |some e=>aa<|aa e.val
 |none=>if gB.any (·.refKey)then aj else aa aj):=by
 unfold sB
 rfl
theorem FR.I5{fs:List (Nat×A)}(r:bR (FR R) fs gB){i:Nat}{v:A}(e:av fs i=aa v)(n:Nat):∃u,sB (nm i) (lQ gB n)=aa (aa u)/\R v u:=by
 have:=FR.ahz i r;rw[e]at this;exact cE this λen h1 h2=>(b0 en.val (by rw[zf];refine ah h1 ?_;rfl) h2)
theorem FR.YY{fs:List (Nat×A)}(r:bR (FR R) fs gB){i:Nat}(e:av fs i=aj)(n:Nat):sB (nm i) (lQ gB n)=aa aj:=by
 have:=FR.ahz i r;rw[e]at this;rw[zf,this];simp only[FR.refKey r];rfl
theorem FR.fP(i:Nat)(hh:Int)(t:kL){v:A}{u:au}(q:R v u):∀{fs:List (Nat×A)}{gB:List i5},bR (FR R) fs gB->bR (FR R) (aN fs i v) (uS (nm i) hh (.str (nm i) t) u gB):=@lr _ _ (@λgB r=>by induction gB using cZ with|nil=>exact ⟨⟨⟨t,rfl⟩,q⟩,trivial⟩|cons=>exact r.elim)
 (λe fs ih=>@λgB r=>by
  induction gB using cZ with
  |nil=>exact r.elim
  |cons d gB=>
   rw[ae6];exact (sD<|e.1=i).elim (λw=>ah (if_pos w)<|ah (show uS (nm i) hh (.str (nm i) t) u (d::gB)=_ from if_pos ((r.1.key i).trans<|decide_eq_true w))<|⟨⟨r.1.1.elim λt e=>⟨t,e.trans<|w▸rfl⟩,q⟩,r.2⟩) λw=>ah (if_neg w)<|ah (show uS (nm i) hh (.str (nm i) t) u (d::gB)=_ from if_neg (al4<|(r.1.key i).trans<|decide_eq_false w))<|⟨r.1,ih r.2⟩)
end
theorem vF{K:c7}{a:Nat}{d:cN}(k:kA K a d){i:Nat}(hi:i∈d.fields){od:cC}{u:au}(hl:sB (nm i) od=aa (aa u)):findObj K a (aa od) (nm i)=aa (.value u):=
 vC k.cd λcd h1 h2 _=>qb.mpr<|b0 cd h1<|qb.mpr<|b0 aj (k.wa i hi)<|qb.mpr<|b0 aj rfl<|qb.mpr<|b0 ak rfl<|qb.mpr<|b0 (aa u) ((if_pos h2).trans hl) rfl
theorem YZ{x a:bj}{od:cC}(I:lR s.heap x ox a<|aa od)(X:G.K.In s.heap){d:cN}(k:kA G.K a d)(hd:d.d5=ak){i:Nat}(hi:i∈d.fields){u:au}(hl:sB (nm i) od=aa (aa u))(hh:qB u=ag){E:au->aY->Prop}{expr:Bool}(z:Q u {s with toks:=s.toks+1}):bw (bh G.prog G.w) A (wJ (ai x) (nm i) expr) Q E s:=by
 refine get_value X I ?_ (vF k hi hl) hh z;have:=k.ga;replace this:=hd▸this;exact this
theorem FL:Slot "BaseException" "__getattribute__" "BaseException.__getattribute__":=Slot.of (owner:="BaseException") (n:="__getattribute__") (by rw[Ux];refine ah Ui ?_;kernel_rfl) (dc rt) (dc rt) (dc rt)
 (az<|dc rt) (by rw[isSubtype_type];kernel_rfl)
theorem Sq:UR "BaseException.__getattribute__"=aa .slot:=dc rt
theorem Oz:splitId "BaseException.__getattribute__"=aa ("BaseException","__getattribute__"):=dc rt
theorem OA(self:au):UT self "__setattr__" TB=pure ():=by kernel_rfl
theorem HJ(self:au):∀{l:List au},MV l=ag->UT self "__setattr__" l=pure ():=@λl=>fT (dC) (λv r ih e=>(HE e).elim
 (λe=>(HE e).elim (λe=>eq_of_beq e▸refuse_only self rt) λe=>eq_of_beq e▸OA self) λe=>ah (eq_of_beq<|aq e)<|(refuseLoop_ref ..).trans<|ih<|aO e) l
theorem yG:∀{l:List au},MV l=ag->l.contains (aJ "object")=ag/\l.isEmpty=ak:=@λl=>fT (dC) (λv r ih e=>⟨AB.mpr ((HE e).elim
 (λe=>(HE e).elim (λe=>eq_of_beq e▸eB _) λe=>eq_of_beq e▸ey _ (ey _<|eB _)) λe=>ey _<|AB.mp (ih<|aO e).1),rf⟩) l
theorem P'{a:Nat}{d:cN}{K:c7}(k:kA K a d):jG K a (aJ "object")=aa ag:=vC k.cd λcd hc _ ho=>by
 unfold jG;exact ah hc<|(if_neg<|(yG ho).2▸fF).trans<|congrArg aa (yG ho).1
section
variable{x a:bj}{od:Option cC}{d:cN}{name:bB}{t:kL}{u:au}{E:au->aY->Prop}
theorem Y0(I:lR s.heap x ox a od)(X:G.K.In s.heap)(k:kA G.K a d)(hd:d.d5=ag)(z:∀A (Q:Fin->aY->Prop) (E:au->aY->Prop),Q (.done<| .ret u) s->bw (bh G.prog G.w) A (sq.«object.__getattribute__» ⟨[ai x,.str name t],[]⟩) Q E s)(q:Q u s):bw (bh G.prog G.w) A (UC (bv "BaseException.__getattribute__") (ai x)<| .str name t) Q E s:=
 aR (wq (FL.bind _)<|bO<|oH<|Ad FL.plain F.entry_bexc_ga<|@Ls (bh G.prog G.w) _ _ _ "BaseException.__getattribute__" "BaseException" "__getattribute__" (ai x) [.str name t] [] _ Sq Oz (I.type.andThen<|Lp X (k.jm hd).1) (F.args_bexc_ga _ _) (z _ _ _ q))
theorem XF(I:lR s.heap x ox a od)(X:G.K.In s.heap)(k:kA G.K a d)(hd:d.d5=ag){fill expr:Bool}(z:∀A (Q:Fin->aY->Prop) (E:au->aY->Prop),Q (.done<| .ret u) s->bw (bh G.prog G.w) A (sq.«object.__getattribute__» ⟨[ai x,.str name t],[]⟩) Q E s)(hh:qB u=ag)(q:Q u s):bw (bh G.prog G.w) A (getAttrBy (ai x) (.str name t) fill expr) Q E s:=by
 refine fE (aR<|I.type.at<|aR<|(AP X (by have:=k.ga;replace this:=hd▸this;exact this:iZ G.K (ai a) "__getattribute__"=aa (aa<|bv "BaseException.__getattribute__"))).at<|wn (λq=>(by decide+kernel:¬(LA "BaseException.__getattribute__"==LA "object.__getattribute__")=ag)<|aO q)<|aR<|(AP X k.gh).at ?_);exact aR (UH<|fE<|wq (by induction expr using fe<;>rfl:callGetattribute (ai x) (.str name t) (bv "BaseException.__getattribute__") expr=UC (bv "BaseException.__getattribute__") (ai x) (.str name t))<|Y0 I X k hd z<|wq (handedOut_of hh)<|bO q)
theorem abF(I:lR s.heap x ox a od)(X:G.K.In s.heap)(k:kA G.K a d)(hd:d.d5=ag){i:Nat}(hi:i∈d.fields)(hl:sB (nm i) (od.getD default)=aa (aa u))(ho:od.isSome=ag)(hh:qB u=ag){expr:Bool}(z:Q u {s with toks:=s.toks+1}):bw (bh G.prog G.w) A (wJ (ai x) (nm i) expr) Q E s:=by
 induction od using fA with
 |none=>exact dC ho
 |some od=>exact aR<|DJ<|XF (s:={s with toks:=s.toks+1}) I X k hd (λA Q E q=>aR<|bO<|aR<|bO<|aR<|I.type.at<|aR<|(VM X I<|vF k hi hl).at<|bO q) hh z
end
theorem BX.iF{A:Type}{R:A->au->Prop}{fs:List (Nat×A)}(z:BX G h R ox fs p)(hc:ox.cls=ai C)(hd:ox.dict=aa p.2)(hn:notCls ox=ag):∃gB n,lR h p.1 ox C (aa<|lQ gB n)/\h.get? p.2=aa (lQ gB n)/\bR (FR R) fs gB:=lK z.fs λgB n e r=>(gZ gB n ⟨z.ob,hc,hn,by exact hd▸e⟩ e r)
theorem I6(B:G.dB)(T:iU G)(I:bg G c g σ env m s){fs:List (Nat×V)}{u:au}(ho:aW σ n=aa (.iF C fs))(ra:At g.ρ n u)(i:Nat)(expr:Bool):ao (cU G) G c env g m s (field G.T ak C i (.aQ (av fs i) .ok) σ) (wJ u (nm i) expr):=
 ao.aQ λd hd=>ao.lS λhf=>ao.aQ λv hv=>ao.ok I λQ E k=>by
  refine eh λcy bk=>?_;obtain ⟨p,rfl,hp,z⟩:=I.dR.ref ra ho (by intro q;contradiction) (by intro q;contradiction);exact oi (BX.iF z rfl rfl rt) λgB n J _ r=>cE (FR.I5 r hv n) λu hl ru=>bk<|YZ J (B.jh I) (T _ _ hd) (eq_of_beq<|aO hf) (AB.mp<|aq hf) hl ru.1.FK<|k _ _ ru.1
theorem B6(B:G.dB)(T:iU G)(I:bg G c g σ env m s){a:V}{u:au}(ra:VR G s.heap g a u)(i:Nat)(expr:Bool):ao (cU G) G c env g m s (getAttr G.T a i σ) (wJ u (nm i) expr):=by
 unfold Mine.Lake.getAttr;cases q:a.Pp with
 |some n=>
  intro Qv Ev z;exact lK z λC fs ho z=>I6 B T I ho (ra.alZ q) i expr Qv Ev z
 |none=>
  refine ao.aQ λn hn=>ao.at<|ao.aQ λob ho=>?_;induction ob using O.casesOn with
  |iF C fs=>exact I6 B T I ho (ra.at hn) i expr
  |jm C fs=>
   refine ao.aQ λd hd=>ao.lS λhf=>ao.aQ λv hv=>ao.ok I λQ E k=>eh λcy bk=>?_;obtain ⟨p,rfl,hp,vs,z,_⟩:=I.dR.ref (ra.at hn) ho (by intro q;contradiction) (by intro q;contradiction);exact oi (BX.iF z rfl rfl rt) λgB n J _ r=>cE (FR.I5 r hv n) λu hl ru=>bk<|abF J (B.jh I) (T _ _ hd) (eq_of_beq<|aO hf) (AB.mp<|aq hf) hl rt ru.FK<|k _ _ ru
  |_=>exact ao.no (σ:=σ)
theorem Y1(name:bB)(hh:Int)(kv v:au):∀l:List i5,(uS name hh kv v l).length<=l.length+1:=fT (gj _) λe r ih=>
 (sD<|e.key.isStr name=ag).elim (λq=>bo (bx<|congrArg xa<|if_pos q)<|kZ _) λq=>bo (bx<|congrArg xa<|if_neg q)<|kY ih
theorem B7{M:iy}{dx:bj}{name akX:bB}{t₀:kL}{v:au}{E:au->aY->Prop}{Q:Fin->aY->Prop}(D:s.heap.get? dx=aa (lQ gB n))(hr:gB.any (·.refKey)=ak)(hz:gB.length<=900)(z:∀hh t tk,Q (.done<| .ret .none) {s with heap:=s.heap.update dx<|sC name hh (.str name t) v,toks:=tk}):bw M A (storeInDict dx (.str akX t₀) name v) Q E s:=by
 refine aR<|bO<|aR<|aR<|aR<|Uu<|bO<|aR<|DJ<|aR<|Af D<|wn ?_<|Ka D<|aR ?_
 ·rw[Ug]
  exact λq=>dC<|(Array.any_toList.symm.trans hr).symm.trans<|aO q
 ·exact wpAny_lookBehind ((nT _ D<|sy ..▸rf).trans<|congrArg aa<|sy ..) (pastItsLine_dict<|bo (iN▸Y1 ..)<|wL▸bo (kY hz) (dc rt))<|bO<|z _ _ _
theorem I7{x a:bj}{od:Option cC}(I:lR s.heap x ox a od)(X:G.K.In s.heap){d:cN}(k:kA G.K a d){i:Nat}(hi:i∈d.fields){v:au}{E:au->aY->Prop}{Q:Unit->aY->Prop}(z:∀A (R:Fin->aY->Prop) E,(∀s',Q () s'->R (.done<| .ret .none) s')->bw (bh G.prog G.w) A (storeInOwnDict (ai x) (ai a) (.str (nm i) s.toks) (nm i) v ak) R E {s with toks:=s.toks+1}):bw (bh G.prog G.w) A (oF (ai x) (nm i) v) Q E s:=by
 refine vC k.cd λcd hc _ ho=>?_;have SF:=aeo;refine set_plain X I k.sa<|Ad SF.slot.plain SF.entry<|@Ls (bh G.prog G.w) _ _ _ "object.__setattr__" "object" "__setattr__" (ai x) [.str (nm i) s.toks,v] [] _ SF.kind SF.split (I.type.andThen<|qA X<|P' k) (SF.args (ai x) (.str (nm i) s.toks) v) (wq (osa_eq ..)<|aR<|wq (refuse_eq ..)<|aR<|I.type.at<|aR<|((Lr X hc).andThen .now:gw _ _ (mroOf<|ai a) cd.mro).at<|wq (HJ _ ho)<|bO ?_);exact aR<|I.type.at<|aR<|(AP X<|k.wa i hi).at<|aR<|bO<|z _ _ _ λ_ q=>q
theorem Sr{K:c7}{M:iy}{x a dx:bj}{E:au->aY->Prop}{Q:Option bj->aY->Prop}(hx:s.heap.get? x=aa ox)(hc:ox.cls=ai a)(hd:ox.dict=aa dx)(L:gw M s.heap (classData a) cd)(hh:cd.hasDict=ag)(q:Q (aa dx) s):bw M A (UN x ag) Q E s:=by
 obtain ⟨_,_,_,_⟩:=ox;subst hc;subst hd;exact aR<|Af hx<|aR<|L.here<|wn (ahy hh)<|bO q
theorem Qa{x a dx:bj}(I:lR s.heap x ox a<|aa<|lQ gB n)(al5:ox.dict=aa dx)(X:G.K.In s.heap){d:cN}(k:kA G.K a d){i:Nat}(hi:i∈d.fields){v:au}(hr:gB.any (·.refKey)=ak)(hz:gB.length<=900){E:au->aY->Prop}{Q:Unit->aY->Prop}(z:∀hh t tk,Q () {s with heap:=s.heap.update dx<|sC (nm i) hh (.str (nm i) t) v,toks:=tk}):bw (bh G.prog G.w) A (oF (ai x) (nm i) v) Q E s:=I7 I X k hi λA R E q=>vC k.cd λcd hc Mw _=>aR (bO<|aR<|Sr (K:=G.K) I.at_ I.cls al5 (Lr X hc) Mw<|B7 (by have:=I.dict;replace this:=al5▸this;exact this:s.heap.get? dx=aa (lQ gB n)) hr hz λhh t tk=>q _<|z hh t tk)
theorem I8(B:G.dB)(T:iU G)(I:bg G c g σ env m s){fs:List (Nat×V)}{b:V}{u v:au}(ho:aW σ n=aa (.iF C fs))(ra:At g.ρ n u)(rb:VR G s.heap g b v)(i:Nat){w:Bool}(hw:w=ag->afP b=ag):ao ajO G c env g m s ((M.aQ (G.T.cls C) λd=>.lS (d.fields.contains i&&!d.d5&&w)<| .eD (fs.length<=500)<|fP n<| .iF C<|aN fs i b) σ) (oF u (nm i) v):=
 ao.aQ λd hd=>ao.lS λhf=>ao.eD λhn Qv Ev z Q E q e=>by
  refine eh λcy bk=>?_;obtain ⟨⟨x,dx⟩,rfl,hp,y⟩:=I.dR.ref ra ho (by intro q;contradiction) (by intro q;contradiction);refine oi (BX.iF y rfl rfl rt) λgB k J g2 r=>bk<|Qa J rfl (B.jh I) (T _ _ hd) (AB.mp<|aq<|aq hf) (FR.refKey r) (r.length▸bo hn (dc rt)) λhh t tk=>?_;have hk:∀b,b≠dx->(s.heap.update dx<|sC (nm i) hh (.str (nm i) t) v).get? b=s.heap.get? b:=λb q=>mA _ _ q.symm;have e2:(s.heap.update dx<|sC (nm i) hh (.str (nm i) t) v).get? dx=aa (lQ (uS (nm i) hh (.str (nm i) t) v gB)<|putN (nm i) gB k):=by
   rw[nT _ g2 (by rw[sy];rfl),sy]
  have mv:∀w u,VR G s.heap g w u->VR G (s.heap.update dx<|sC (nm i) hh (.str (nm i) t) v) g w u:=λw u r=>r.bL (lH.at I.dR hp (h':=s.heap.update dx<|sC (nm i) hh (.str (nm i) t) v) λb _ q=>hk b q) λ_ _ e=>az e
  have:=I.rz (tk:=tk) hp (λk' al6 q=>by replace ho:=q▸ho;cases ho) (λb _ q2=>hk b q2) ⟨_,((hk _ y.ne).trans y.ob)⟩ ⟨_,e2⟩ (o':=.iF C<|aN fs i b) ⟨y.ne,((hk _ y.ne).trans y.ob),_,_,e2,FR.fP i hh t ⟨mv _ _ rb,hw<|aO hf⟩<|r.bL λ_ _ z=>⟨z.1,mv _ _ z.2.1,z.2.2⟩⟩
  exact q _ _ _ g _ z this.1 this.2 trivial
theorem aiQ{b:V}(e:ae2 b=ag):afP b=ag:=by induction b using V.casesOn<;>first|rfl|exact e|cases e
theorem aiR{b:V}(e:agH b=ag):afP b=ag:=by induction b using V.casesOn<;>first|rfl|exact dC e
theorem B8(B:G.dB)(T:iU G)(I:bg G c g σ env m s){a b:V}{u v:au}(ra:VR G s.heap g a u)(rb:VR G s.heap g b v)(i:Nat):ao ajO G c env g m s (setAttr G.T a i b σ) (oF u (nm i) v):=by
 unfold Mine.Lake.setAttr;cases q:a.Pp with
 |some n=>
  intro Qv Ev z;exact lK z λC fs ho z=>I8 B T I ho (ra.alZ q) rb i aiR Qv Ev z
 |none=>
  refine ao.aQ λn hn=>ao.at<|ao.aQ λcf hc=>?_;refine cE (cR hc) λo ho e=>?_;replace ho:=(O.IY e)▸ho;exact I8 B T I ho (ra.at hn) rb i aiQ
end
end
noncomputable def gone (h:bX) (a:bj):bX:=h.update a λo=>{o with data:=.freed}
theorem gone_none(h:bX)(a:bj):(gone h a).get? a=aj:=by
 cases e:(gone h a).get? a with
 |none=>rfl
 |some o=>
  obtain ⟨e1,e2⟩:=Heap.get?_some_iff.mp e;unfold gone at e1;cases h;simp only[Heap.update,Array.getElem?_modify,if_true]at e1;refine cE (lM.mp e1) λx _ w2=>?_;subst w2;exact rT e2
theorem kH(h:bX){a:bj}(n:b≠a):(gone h a).get? b=h.get? b:=mA _ _ n.symm
section
variable{env:bS}{m:Env}
structure jc(G:GG)(c:Cn)(env:bS)(h:bX)(g:Gh)(a:bj):Prop where
 nf:¬(jg g.ρ a\/g.F a)
 h0:G.h₀.get? a=aj
 cY:∀b,wb env b->b≠a
 fr:∀e∈c.fr,∀L,e.frame=aa L->L≠a
 tb:∀o,h.get? a=aa o->¬qW o
theorem bg.qs(I:bg G c g σ env m s)(q:wb env b):∃o,s.heap.get? b=aa o:=cE (I.br.vr q) λo e _=>⟨o,e⟩
theorem bg.NA(I:bg G c g σ env m s){a:bj}(f:s.heap.get? a=aj)(nt:∀o,h'.get? a=aa o->¬qW o):jc G c env h' g a where
 nf:=I.dR.H9 f
 h0:=I.gQ f
 cY:=λb q w=>by obtain ⟨o,e⟩:=I.qs q;rw[w,f]at e;exact cV e
 fr:=λe he L hL w=>by obtain ⟨_,o,eo,_⟩:=I.tu e he L hL;rw[w,f]at eo;exact cV eo
 tb:=nt
theorem jc.ext(l:jc G c env h g a)(x:eJ h g h' g'){o:cC}(e:h.get? a=aa o):jc G c env h' g' a:=
 ⟨(x.Z7 ⟨⟨o,e⟩,l.nf⟩).2,l.h0,l.cY,l.fr,λo' e'=>by
  refine cE (x.keep a o e (λq=>l.nf<|az q)<|l.tb o e) λsl e2 _=>?_;rw[e']at e2;obtain rfl:=fh e2;exact λq=>l.tb o e ⟨q.1,q.2⟩⟩
theorem bg.n5(I:bg G c g σ env m s){a:bj}(l:jc G c env s.heap g a)(k:∀b o,b≠a->s.heap.get? b=aa o->h'.get? b=aa o):bg G c g σ env m {s with heap:=h',toks:=tk}:=by
 have nF:∀b,g.F b->b≠a:=λb f w=>l.nf<|aX<|w▸f;have fx:lH s.heap g.F h' g.F:=λb o f e=>⟨f,k b o (nF b f) e⟩
 refine ⟨λb o e=>k b o (λw=>by rw[w,l.h0]at e;exact cV e)<|I.keep b o e,I.dR.jx fx (λb f=>(I.dR.z0 f).elim λo y=>(k b o (λw=>l.nf<|az<|w▸f) y.1).trans y.1.symm) (λT t=>?_) λb f=>⟨(I.dR.fz b f).1,?_⟩,I.br.adf (λb q o e=>(b0 o (k b o (l.cY b q) e) rfl)) (λb q=>?_) λv u r=>r.bL fx λ_ _=>az,y8 I.frames λe he L hL o eo=>(b0 o (k L o (l.fr e he L hL) eo) rfl),λe he L hL=>?_,I.jS,I.lk,I.tm,I.gens,I.os,I.drawn,I.y6⟩
 ·exact acG t.out λoT ts e hc hd r=>⟨oT,ts,k T oT (λw=>l.tb oT (w▸e) ⟨hc,ts,hd⟩) e,hc,hd,r⟩
 ·obtain ⟨o,e⟩:=(I.dR.fz b f).2;exact ⟨o,k b o (nF b f) e⟩
 ·obtain ⟨⟨o,e⟩,n⟩:=(I.br.cY b q).1;exact ⟨⟨o,k b o (l.cY b q) e⟩,n⟩
 ·refine eh λcy bk=>?_
  obtain ⟨⟨⟨o,e⟩,n⟩,o',e',kc⟩:=I.tu e he L hL;exact bk<|⟨⟨⟨o,k L o (l.fr _ he L hL) e⟩,n⟩,o',k L o' (l.fr _ he L hL) e',kc⟩
theorem eJ.n5(x:eJ h g eY aP){a:bj}(f:h.get? a=aj)(k:∀b o,b≠a->eY.get? b=aa o->h'.get? b=aa o):eJ h g h' aP:=by
 have ne:∀{b o},h.get? b=aa o->b≠a:=λe w=>by rw[w,f]at e;exact cV e
 exact ⟨λb o e nf nt=>by exact cE (x.keep b o e nf nt) λsl e' z=>(b0 sl (k b _ (ne e) e') z),λb o fb e=>⟨(x.ji b o fb e).1,k b o (ne e) (x.ji b o fb e).2⟩,x.rA,x.fresh,λb o e=>by obtain ⟨o',e'⟩:=x.jW b o e;exact ⟨o',k b o' (ne e) e'⟩⟩
theorem CN:∀{z:List Nat}{n:Nat},eG σ z=aa n->aW σ n=aa .free:=@lr _ _
 (@λ_ e=>cV e)
 (λk r ih=>@λn e=>by
  have e:(match (aW σ k).map O.ig with|some ag=>aa k|_=>eG σ r)=aa n:=e;refine oc (aW σ k) (λq=>?_) λo q=>?_
  ·rw[q]at e;exact ih e
  ·
   replace e:=q▸e;induction o using O.casesOn<;>first|(obtain rfl:=fh e;exact q)|exact ih e)
theorem qt(I:bg G c g σ env m s){z:List Nat}{o:O}(k:∀b ob,s.heap.get? b=aa ob->h'.get? b=aa ob)(f1:s.heap.get? p.1=aj)(f2:s.heap.get? p.2=aj)(hz:∀Fy,OR G h' ⟨Fy,g.F⟩ o p)(v:alloc z o σ Qv Ev)(q:yA (cU G) G c env s.heap g m Qv Q):Q (ai p.1) {s with heap:=h',toks:=tk}:=by
 change M.aQ (eG σ z) (λn=>M.bind (fP n o) λ_=>M.ok<| .ob n) σ Qv Ev at v;refine oc (eG σ z) (λe=>?_) λn e=>?_
 ·rw[e]at v;exact v.elim
 ·
  rw[e]at v;have e:=CN e;have:=I.new (p:=p) (o:=o) (tk:=tk) (bP:=aG σ n o) (I.dR.free e) (λ_=>e) (by rw[kg,if_pos rfl];refine ah e ?_;rfl) (λk ne=>by rw[kg,if_neg ne]) k f1 f2<|hz _;exact q _ _ _ _ _ v this.1 this.2.1 this.2.2
theorem Dg(F:Fz)(k:∀b ob,h.get? b=aa ob->h'.get? b=aa ob):lH h F h' F:=λb o f e=>⟨f,k b o e⟩
theorem Ss(I:bg G c g σ env m s){z:List Nat}{xs:List P}{a:Nat}(k:∀b ob,s.heap.get? b=aa ob->h'.get? b=aa ob)(f:s.heap.get? a=aj)(e:h'.get? a=aa (gv its.toArray n))(rs:bR (PR G s.heap g.F) xs its)(v:Gl z xs σ Qv Ev)(q:yA (cU G) G c env s.heap g m Qv Q):Q (ai a) {s with heap:=h',toks:=tk}:=by
 induction z using cZ with
 |nil=>exact tW I k f e rs v q
 |cons y z=>exact qt I (o:=.ls xs) (p:=(a,a)) k f f (λFy=>⟨its,n,rfl,e,rs.bL λv _=>PR.bL (Dg g.F k) v⟩) v q
theorem ER.NB{A:Type}{R:A->au->Prop}:∀{es:List (bV×A)}{kvs:List (bV×au)},bR (ER R) es kvs->es.map (·.1)=kvs.map (·.1)/\(es.map (·.1)).all LX=ag/\bR R (es.map (·.2)) (kvs.map (·.2)):=@lr _ _
 (@λ_ r=>r.nil▸(k8 rfl rt trivial))
 (@pr _ _ _ (λj v es ih=>@λkvs r=>by
  refine eh λcy bk=>?_;obtain ⟨⟨j',u⟩,kvs,rfl,⟨⟨e,o⟩,q⟩,r'⟩:=r.cons;refine agE (ih r') λh1 h2 h3=>bk ?_;obtain rfl:=(e)
  exact (k8 (congrArg (j::·) h1) (tE.mpr ⟨o,h2⟩) ⟨q,h3⟩)))
theorem T6{F:Fz}{es:List (bV×P)}{a:bj}(d:h.DictOf G.kk a kvs)(nm:(a==nG)=ak)(f:F a)(rs:bR (ER<|PR G h F) es kvs):PR G h F (ju es) (ai a):=
 (⟨a,kvs,rfl,f,d,nm,(ER.NB rs).1,(ER.NB rs).2.1,gu.mpr (ER.NB rs).2.2⟩)
theorem bg.rm(B:G.dB)(I:bg G c g σ env m s){a:bj}(f:s.heap.get? a=aj):(a==nG)=ak:=by
 rw[beq_eq_false_iff_ne];rintro rfl;obtain ⟨o,e⟩:=B.z5;rw[I.keep _ _ e]at f;exact Cm f
theorem yH(B:G.dB)(I:bg G c g σ env m s){z:List Nat}{es:List (bV×P)}{a:Nat}(k:∀b ob,s.heap.get? b=aa ob->h'.get? b=aa ob)(f:s.heap.get? a=aj)(d:h'.DictOf G.kk a kvs)(rs:bR (ER<|PR G s.heap g.F) (cn [] es) kvs)(v:zH z es σ Qv Ev)(q:yA (cU G) G c env s.heap g m Qv Q):Q (ai a) {s with heap:=h',toks:=tk}:=by
 obtain ⟨o,e⟩:=(xn d λo _ _ e _=>⟨o,e⟩:∃o,h'.get? a=aa o)
 induction z using cZ with
 |nil=>exact Z' I k f e (λF' x w=>T6 d (I.rm B f) w<|rs.bL λ_ _ y=>⟨y.1,PR.bL x _ y.2⟩) v q
 |cons y z=>exact qt I (o:=.dc<|cn [] es) (p:=(a,a)) k f f (λFy=>⟨kvs,rfl,d,rs.bL λ_ _ y=>⟨y.1,PR.bL (Dg g.F k) _ y.2⟩⟩) v q
theorem ao.at_{k:Unit->fv δ}{p:ca}{x:afT γ}(h:ao Sl G c env g m s x<|k ()):ao Sl G c env g m s x (fk p>>=k):=
 λQv Ev z Q E q e=>aR<|gF<|h Qv Ev z Q E q e
theorem ao.holding{vs:List au}{t:fv β}{x:afT α}(h:ao Rl G c env g m s x t):ao Rl G c env g m s x (kW vs t):=
 λQv Ev z Q E q e=>fE<|h Qv Ev z Q E q e
theorem ao.operate{vs:List au}{t:fv au}{Rl:bX->Gh->α->au->Prop}{x:afT α}(h:ao Rl G c env g m s x t):ao Rl G c env g m s x (PySem.operate vs t):=
 λQv Ev z Q E q e Γ p am6=>by rw[Sem.wp_operate];exact h Qv Ev z Q E q e Γ p am6
theorem ao.here{a:α}{b:β}(I:bg G c g σ env m s)(r:Rl s.heap g a b):ao Rl G c env g m s (M.ok a σ) (oV b:fv β):=λQv Ev z Q E q e=>bO<|q _ _ _ _ _ z I eJ.refl r
abbrev Su(G:GG)(n:Nat):bX->Gh->List V->List au->Prop:=λh g vs us=>bR (VR G h g) vs us/\us.length=n
theorem eO(h:eE e=ag)(l:List bA)(env:bS):hY (e::l) env=(ak,bq e env)::hY l env:=by
 induction e using nV<;>first|rfl|exact dC h
theorem spliced_nil{pos:ca}(I:bg G c g σ env m s):ao (Su G 0) G c env g m s (M.ok [] σ) (nK<|iY pos<|hY [] env):=λQv Ev z Q E q e=>AU<|q _ _ _ _ _ z I eJ.refl ⟨trivial,rfl⟩
theorem spliced_cons{x:M V}{l:List bA}{pos:ca}(hp:eE e=ag)(he:ao (cU G) G c env g m s (x σ)<|bq e env)(hl:∀aF aH aP,bg G c aP aF env m aH->ao (Su G n) G c env aP m aH (xs aF) (nK<|iY pos<|hY l env)):ao (Su G<|n+1) G c env g m s (M.bind x (λv=>M.bind xs λvs=>M.ok<|v::vs) σ) (nK<|iY pos<|hY (e::l) env):=λQv Ev z Q E q e=>by
 refine aes ?_<|eO hp l env;exact he.seq z e λv aF aH aP u eT aU b6 cX mw=>(hl aF aH aP aU).seq eT mw λvs dh da dL us gU cF di gk wB=>q _ _ _ _ _ gU cF (b6.trans di) ⟨⟨cX.ext di,gk.1⟩,congrArg (·+1) gk.2⟩
theorem zg:∀{vs:List V}{us:List au}{xs:List P},uX vs=aa xs->bR (VR G h g) vs us->bR (PR G h g.F) xs us:=@lr _ _
 (@λus xs e r=>by obtain rfl:=fh e;refine ah r.nil ?_;trivial)
 (λv vs ih=>@λus xs e r=>by
  obtain ⟨u,us,rfl,a,r⟩:=r.cons;have e:(match v.pl with|some x=>(uX vs).map (x::·)|none=>aj)=aa xs:=e;refine oc (v.pl) (λq=>?_) λx q=>?_
  ·rw[q]at e;exact cV e
  ·
   replace e:=q▸e;refine cE (lM.mp e) λys e' w2=>?_;subst w2;exact ⟨a.pl q,ih e' r⟩)
theorem rJ(h:n<=1000):n<=oK:=bo h<|dc rt
theorem Y2{l:List bA}{k:_}{pos:ca}(hl:n<=1000)(h:ao (Su G n) G c env g m s (xs σ)<|nK<|iY pos<|hY l env):ao (cU G) G c env g m s (M.bind xs (λvs=>.aQ (uX vs) λys=>.ok<| .p<| .jH ys) σ) (bq (dG l k pos) env):=λQv Ev z Q E q e=>by
 rw[Ur];refine aR<|gF<|aR ?_;refine h.seq z e λvs aF aH aP us eT aU b6 cX mw=>ao.aQ (λys hy Qv Ev z Q E q e=>?_) Qv Ev eT Q E (q.ext b6) mw;exact UD (I1 aU (bY _ _) (cp _) (fZ _ rf) (zg hy cX.1) z q)<|ah cX.2<|rJ hl
theorem abG{l:List bA}{pos:ca}{zz:List Nat}(hl:n<=1000)(h:ao (Su G n) G c env g m s (xs σ)<|nK<|iY pos<|hY l env):ao (cU G) G c env g m s (M.bind xs (λvs=>.aQ (uX vs)<|Gl zz) σ) (bq (.List l pos) env):=λQv Ev z Q E q e=>by
 rw[arm_eval_List];refine aR<|gF<|aR ?_;refine h.seq z e λvs aF aH aP us eT aU b6 cX mw=>ao.aQ (λys hy Qv Ev z Q E q e=>?_) Qv Ev eT Q E (q.ext b6) mw;exact Kh (Ss aU (bY _ _) (cp _) (fZ _ rf) (zg hy cX.1) z q)<|ah cX.2<|rJ hl
end
section
variable{env:bS}{m:Env}
theorem bg.nh(I:bg G c g σ env m s){o:O}(hp:g.ρ n=aa (aa p))(ho:aW σ n=aa o)(hx:o.QA=aj):bg G c ⟨g.ρ.fP n<|aa aj,λb=>g.F b\/b=p.1⟩ (aG σ n .nh) env m s/\eJ s.heap g s.heap ⟨g.ρ.fP n<|aa aj,λb=>g.F b\/b=p.1⟩:=by
 have rA:∀k st,g.ρ k=aa st->(g.ρ.fP n<|aa aj) k=aa st\/(g.ρ.fP n<|aa aj) k=aa aj:=λk st e=>by
  by_cases q:k=n
  ·exact aX<|if_pos q
  ·exact az<|(if_neg q).trans e
 have fx:lH s.heap g.F s.heap λb=>g.F b\/b=p.1:=λb o f e=>⟨az f,e⟩
 have x:eJ s.heap g s.heap ⟨g.ρ.fP n<|aa aj,λb=>g.F b\/b=p.1⟩:=⟨λb o e _ _=>(b0 o.slots e λ_=>rfl),fx,rA,λb f=>by
  rcases f with ⟨k,q,e,hb⟩|f|f
  ·by_cases w:k=n
   ·have e:=(if_pos w).symm.trans e;nomatch e
   ·exact az<|az ⟨k,q,(if_neg w).symm.trans e,hb⟩
  ·exact az<|aX f
  ·exact az<|az ⟨n,p,hp,az f⟩,λb o e=>⟨o,e⟩⟩
 refine ⟨I.next x (I.dR.ahs hp (aX ⟨rfl,rfl⟩) λk x q _ _ z=>z.bL (g':=⟨g.ρ.fP n<|aa aj,λb=>g.F b\/b=p.1⟩) fx rA rfl rfl λT t=>eZ t.out λoT ts w=>⟨oT,ts,w.1,w.2.1,w.2.2.1,w.2.2.2.1,w.2.2.2.2.1,λf=>f.elim w.2.2.2.2.2 λf=>(I.dR.z0 ⟨n,p,hp,az f⟩).elim λo y=>y.2.1<|by refine ah (cP<|y.1.symm.trans w.1) ?_;exact ⟨w.2.1,ts,w.2.2.1⟩⟩) I.keep (I.jS.of λq f=>?_) rfl rfl rfl,x⟩
 refine eZ f.jm λk fs e=>?_
 have ne:dD≠n:=λw=>by rw[w,ho]at e;obtain rfl:=fh e;exact Cm hx
 exact ⟨by exact f.at_▸if_neg ne,k,fs,by rw[kg,if_neg ne];exact e⟩
theorem M.jD{o:Option ω}{f:ω->M α}{Qv:α->H->Prop}(z:M.aQ o f σ Qv Ev):∃a,o=aa a/\f a σ Qv Ev:=by
 induction o using fA with
 |none=>exact z.elim
 |some a=>exact (b0 a rfl z)
theorem M.GV{b:Bool}{x:M α}{Qv:α->H->Prop}(z:M.lS b x σ Qv Ev):b=ag/\x σ Qv Ev:=by
 induction b using fe with
 |false=>exact z.elim
 |true=>exact ⟨rfl,z⟩
theorem afZ(I:bg G c g σ env m s){u:au}(r:VR G s.heap g v u)(z:(M.aQ v.slot λn=>.lS (gb 10 n)<| .at λσ=>.aQ ((aW σ n).bind O.uV) λxs=>.bind (fP n .nh) λ_=>.ok<| .p<| .fl xs) σ Qv Ev)(q:yA (cU G) G c env s.heap g m Qv Q):Q u s:=by
 refine cE (M.jD z) λn hn z=>cE (M.jD (M.GV z).2) λxs hx z=>cE (cR hx) λo e1 e2=>?_;cases O.lJ e2;refine xn (Bn I.dR e1<|r.at hn) λa its k w3 w=>?_;subst w3;have:=I.nh w.ρ e1 rn;exact q _ _ _ _ _ z this.1 this.2<|⟨a,its,k,rfl,aX rfl,w.L.at_,gu.mpr<|w.L.rs.bL λv _=>PR.bL this.2.ji v⟩
theorem Y3{A:Type}{k:bV}{v:A}:∀{es:List (bV×A)}{j:bV},j∈(aN es k v).map (·.1)->j=k\/j∈es.map (·.1):=@lr _ _
 (@λj h=>az<|fq.mp h)
 (@pr _ _ _ (λi w es ih=>@λj h=>by
  rw[EL]at h;by_cases q:i=k
  ·rw[if_pos q]at h
   rcases dU.mp h with h|h
   ·exact az h
   ·exact aX<|ey _ h
  ·rw[if_neg q]at h
   rcases dU.mp h with h|h
   ·exact aX<|h▸eB _
   ·exact (ih h).imp id<|ey _))
theorem OB{A:Type}{k:bV}{v:A}:∀{es:List (bV×A)},(es.map (·.1)).Nodup->((aN es k v).map (·.1)).Nodup:=@lr _ _
 (@λ_=>w9.mpr ⟨Vm,AG⟩)
 (@pr _ _ _ (λi w es ih=>@λnd=>by
  have nd:=w9.mp nd;rw[EL];by_cases q:i=k
  ·exact ah (if_pos q)<|List.nodup_cons.mpr ⟨q▸nd.1,nd.2⟩
  ·exact ah (if_neg q)<|List.nodup_cons.mpr ⟨λz=>(Y3 z).elim q nd.1,ih nd.2⟩))
theorem ER.merged{A:Type}{R:A->au->Prop}:∀{es acc:List (bV×A)}{kvs aac:List (bV×au)},bR (ER R) acc aac->(acc.map (·.1)).Nodup->bR (ER R) es kvs->bR (ER R) (cn acc es) (Kj aac kvs):=@lr _ _
 (@λ_ _ _ a _ r=>r.nil▸a)
 (@pr _ _ _ (λk v es ih=>@λacc kvs aac a nd r=>by
  obtain ⟨⟨k',x⟩,kvs,rfl,⟨⟨e,o⟩,q⟩,r'⟩:=r.cons;obtain rfl:=(e)
  show bR (ER R) (cn (aN acc k v) es)<|Kj (sv aac k x) kvs;exact ih (ER.fP o q a<|(ER.NB a).1▸nd) (OB nd) r'))
structure af0(G:GG)(n:Nat)(h:bX)(g:Gh)(es:List<|bV×P)(us:List<|au×au):Prop where
 out:∃kvs,Carries G.kk us kvs/\bR (ER<|PR G h g.F) es kvs
theorem Sv{pos:ca}(I:bg G c g σ env m s):ao (af0 G 0) G c env g m s (M.ok [] σ) (wO<|wQ [] [] env pos):=ao.here I ⟨[],trivial,trivial⟩
theorem OC{x:M V}{xs:M (List<|bV×P)}{k v:bA}{vs:List bA}{pos:ca}(hx:ao (cU G) G c env g m s (x σ)<|bq k env)(hy:∀aF aH aP,bg G c aP aF env m aH->ao (cU G) G c env aP m aH (y aF) (bq v env))(hr:∀aF aH aP,bg G c aP aF env m aH->ao (af0 G n) G c env aP m aH (xs aF) (wO<|wQ ks vs env pos)):ao (af0 G<|n+1) G c env g m s (M.bind (M.bind x λa=>M.bind y λb=>.aQ a.lj λa=>.aQ b.pl λb=>.ok (a,b)) (λe=>M.bind xs λes=>M.ok<|e::es) σ) (wO<|wQ (aa k::ks) (v::vs) env pos):=λQv Ev z Q E q e=>by
 show bw _ _ (do
  let kv <-bq k env
  let vv <-holding [kv] (do let x <-bq v env;fk pos;pure x)
  return (kv,vv)::(<-holding [kv,vv] (wO<|wQ ks vs env pos))) Q E s
 refine aR<|hx.seq (show M.bind x (λa=>M.bind (M.bind y λb=>.aQ a.lj λa=>.aQ b.pl λb=>.ok (a,b)) λe=>M.bind xs λes=>M.ok<|e::es) σ Qv Ev from z) e λa aF aH aP u eT aU b6 cX mw=>aR<|fE<|aR ?_
 refine (hy aF aH aP aU).seq (show M.bind y (λb=>M.bind (.aQ a.lj λa=>.aQ b.pl λb=>.ok (a,b)) λe=>M.bind xs λes=>M.ok<|e::es) aF Qv Ev from eT) mw λb dh da dL w gU cF di gk wB=>aR<|gF<|bO ?_
 refine oc (a.lj) (λhk=>?_) λkey hk=>?_
 ·replace gU:=hk▸gU;exact gU.elim
 ·
  refine oc (b.pl) (λhb=>?_) λbp hb=>?_
  ·(replace gU:=hk▸gU;rw[hb]at gU);exact gU.elim
  ·
   rw[hk,hb]at gU;refine aah (VR.key hk cX) λk1 k2=>aR<|fE ?_;exact (hr dh da dL cF).seq gU wB λes kB gd lG us yI e9 eU CO akY=>bO<|cE CO.out λkvs c1 c2=>q _ _ _ _ _ yI e9 ((b6.trans di).trans eU) ⟨(key,w)::kvs,⟨k1,rfl,c1⟩,⟨⟨rfl,k2⟩,(gk.pl hb).ext eU⟩,c2⟩
theorem eJ.adk(x:eJ h g h' g'){a:bj}{o:cC}(l:jc G c env h g a)(e:h.get? a=aa o)(hc:o.cls≠aJ "frame"):h'.get? a=aa o:=by
 refine cE (x.keep a o e (λf=>l.nf<|az f)<|l.tb o e) λsl e' q=>ah e'<|ah (q hc) ?_;rfl
theorem vK{a:bj}(k:∀b,b≠a->h'.get? b=h.get? b):∀b ob,(gone h a).get? b=aa ob->h'.get? b=aa ob:=λb ob e=>by
 have ne:b≠a:=λw=>by rw[w,gone_none]at e;exact cV e
 exact (k b ne).trans<|(kH h ne).symm.trans e
theorem abH(B:G.dB){xs:M (List<|bV×P)}{vs:List bA}{pos:ca}{zz:List Nat}(h0:ks≠[])(ad7:ks.all (·.isSome)=ag)(hl:ks.length=vs.length)(hlen:ks.length<=15)(I:bg G c g σ env m s)(h:∀aF aH aP,bg G c aP aF env m aH->ao (af0 G n) G c env aP m aH (xs aF) (wO<|wQ ks vs env pos)):ao (cU G) G c env g m s (M.bind xs ((zH zz)) σ) (bq (.Dict ks vs pos) env):=λQv Ev z Q E q e=>by
 obtain ⟨rK,adQ⟩:=I.push {cls:=aJ "dict",data:=.dict #[]} s.toks;have A₀:(s.heap.push {cls:=aJ "dict",data:=.dict #[]}).get? s.heap.objs.size=aa {cls:=aJ "dict",data:=.dict #[]}:=fZ _ rf;have ahA:=I.NA (cp s.heap) λo e=>by rw[A₀]at e;obtain rfl:=fh e;exact vI rfl
 refine wpAny_Dict_pairs (knd:=G.kk) (zip_pairTrees ks vs env pos ad7 hl) (λq=>h0<|Va.mp<|(Uv ks vs env pos ad7 hl).symm.trans<|congrArg xa q) (by exact (Uv _ _ _ _ ad7 hl)▸hlen)<|(h _ _ _ rK).seq z (e.ext adQ) λes aF aH aP us eT aU b6 cX mw=>cE cX.out λkvs c1 c2=>?_;have l₁:=ahA.ext b6 A₀;refine (tc kvs c1 ?_ λh' hd hs=>?_)
 ·refine eh λcy bk=>xn (Es (knd:=G.kk) s.heap) λo es ep e z=>bk ?_
  rw[A₀]at e;exact ⟨o,es,ep,(b6.adk ahA A₀ λq=>absurd (lP q)<|dc rt).trans e,z⟩
 ·have cF:=aU.n5 (tk:=aH.toks) (h':=gone aH.heap s.heap.objs.size) l₁ λb o n e=>(kH _ n).trans e
  exact yH B cF (vK hs.2) (gone_none _ _) hd (ER.merged trivial AG<|c2.bL λ_ _ y=>⟨y.1,PR.bL (λb o fb e=>⟨fb,(kH _ λw=>l₁.nf<|aX<|by exact w▸fb).trans e⟩) _ y.2⟩) eT<|q.ext<|(adQ.trans b6).n5 (h':=gone aH.heap s.heap.objs.size) (cp s.heap) λb o n e=>(kH _ n).trans e
theorem Y4{zz:List Nat}{pos:ca}(I:bg G c g σ env m s):ao (cU G) G c env g m s (alloc zz (.rd []) σ) (bq (.Dict [] [] pos) env):=λQv Ev z Q E q e=>by
 show bw _ _ (do fk pos;DK []) Q E s;refine aR<|gF ?_;exact ah (show DK []=KN from rfl)<|wpAny_newObj_type<|qt (o:=.rd []) (p:=(_,_)) I (bY _ _) (cp _) (cp _) (λFy=>⟨[],rfl,Es _,trivial⟩) z q
theorem Y5(B:G.dB){zz:List Nat}{pos:ca}(I:bg G c g σ env m s):ao (cU G) G c env g m s (zH zz [] σ) (bq (.Dict [] [] pos) env):=λQv Ev z Q E q e=>by
 show bw _ _ (do fk pos;DK []) Q E s;refine aR<|gF ?_;exact ah (show DK []=KN from rfl)<|wpAny_newObj_type<|yH B (es:=[]) I (bY _ _) (cp _) (Es _) trivial z q
theorem af1{xs:List P}{x:P}(h:(match xs with|[x]=>aa x|_=>aj)=aa x):xs=[x]:=by rcases xs with _|⟨y,_|_⟩<;>first|exact cV h|exact fh h▸rfl
theorem af2(I:bg G c g σ env m s){zz:List Nat}{x y:V}{u v:au}(ra:VR G s.heap g x u)(rb:VR G s.heap g y v):ao (cU G) G c env g m s ((M.aQ (jU σ x) λxs=>M.aQ y.eX λk=>.aQ (match xs with|[x]=>aa x|_=>aj) λx=>.eD (0<=k/\k<=1000)<|alloc zz<| .ls<|iu k.toNat x) σ) (Ap .Mult u v):=by
 refine ao.aQ λxs hx=>ao.aQ λk hk=>ao.aQ λx' ac0=>ao.eD λhr Qv Ev z Q E q e=>eh λcy bk=>xn (pH I.dR hx ra) λl its n w3 L=>?_;subst w3;obtain ⟨tk,rfl⟩:=rb.int hk;obtain rfl:=af1 (x:=x') ac0;refine oi L.rs.cons λw Nz w2 r1 r2=>?_;subst w2;refine bk ?_;cases r2.nil;refine wpAny_binaryOp_repeat_ref (by decide) ⟨_,L.at_,rfl⟩ (λs'=>UU s' k tk) noFill_list_mul F.fills_int_mul VT repeat_list F.slot_int_index.lookup
  (uE VT (UU s k tk) F.entry_int_rmul (F.args_int_rmul_2 _ _) (lm_int_rmul_list_any k tk l [w].toArray n _ _)
   ⟨L.at_,rfl,⟨_,L.at_,rfl⟩,uE F.slot_list_mul ⟨_,L.at_,rfl⟩ F.entry_list_mul (F.args_list_mul_2 _ _)
    (lm_list_mul_any l [w].toArray n _ _ k tk (by simp[aex];exact ⟨i7 (by decide) hr.1,qg hr.2<|dc rt⟩) (by refine ah iN ?_;simp;exact i7 hr.2<|dc rt)<|by refine ah iN ?_;simp[Wl,oK];exact i7 hr.2<|dc rt)
    ⟨L.at_,?_⟩⟩)
 rw[show (List.foldl (λx1 x2=>x1++x2) #[] (iu (if [w].toArray.isEmpty=ag then 0 else k.toNat) [w].toArray))=(iu k.toNat w).toArray by
  rw[listMul_foldl_if];simp]
 exact qt (o:=.ls<|iu k.toNat x') (p:=(_,_)) I (bY _ _) (cp _) (cp _) (λFy=>⟨_,_,rfl,fZ _ rf,bR.replicate (PR.bL (Dg g.F<|bY _ _) _ r1) _⟩) z q
set_option backward.match.sparseCases true in
theorem B9{x:M V}{l:List bA}{pos:ca}{y:V->M V}(h:ao (cU G) G c env g m s (x σ)<|bq e env)(stop:Bool)(hs:∀(b:Bool) (v:au) (r:fv au),(match op,b with| .And,ak=>pure v| .Or,ag=>pure v|_,_=>r)=if b=stop then pure v else r)(hy:∀v aF aH aP u,bg G c aP aF env m aH->VR G aH.heap aP v u->ao (cU G) G c env aP m aH (y v aF) (do fk pos;let t <-kW [u] (su u);if t=stop then pure u else uG pos op (oL (e'::l) env))):
 ao (cU G) G c env g m s (M.bind x y σ) (uG pos op<|oL (e::e'::l) env):=λQv Ev z Q E q ex=>by
 show bw _ _ (do
  let v <-bq e env
  fk pos
  let t <-kW [v] (su v)
  match op,t with
  | .And,ak| .Or,ag=>pure v
  |_,_=>uG pos op<|oL (e'::l) env) Q E s
 refine aR<|h.seq z ex λv aF aH aP u eT aU b6 cX mw=>?_
 have:=hy v aF aH aP u aU cX Qv Ev eT Q E (q.ext b6) mw
 exact Eq.mpr (congrArg (λm=>bw _ _ m Q E aH)<|bind_congr λ_=>bind_congr λt=>hs t u _) this
theorem B'{pos:ca}{u:au}{l:List bA}{y:Bool->M V}(stop:Bool)(I:bg G c g σ env m s)(r:VR G s.heap g v u)(h1:y stop=M.ok v)(h2:∀aF aH aP,bg G c aP aF env m aH->ao (cU G) G c env aP m aH (y (!stop) aF) (uG pos op<|oL (e'::l) env)):
 ao (cU G) G c env g m s (M.bind (fU v) y σ) (do fk pos;let t <-kW [u] (su u);if t=stop then pure u else uG pos op (oL (e'::l) env)):=
 ao.at_ (ao.bind (ao.holding<|wz I r) λb aF aH aP b' aU b6 e=>by
  subst e;by_cases q:b=stop
  ·subst q
   exact ah (if_pos rfl)<|ah h1<|ao.here aU<|r.ext b6
  ·refine ah (if_neg q)<|ah ((show b=!stop by induction b using fe<;>induction stop using fe<;>first|rfl|exact (q rfl).elim)) ?_
   exact h2 _ _ _ aU)
theorem Ca{op:CmpOp}(h:gP r=ag)(env:bS):Kq [op] [r] (oL [r] env)=[bq r env]:=by
 induction r using nV<;>first|rfl|exact dC h
theorem OD(B:G.dB)(hO:c.Ok){x:M V}(op:aak){l:bA}{pos:ca}(hp:gP r=ag)(hx:ao (cU G) G c env g m s (x σ)<|bq l env)(hy:∀aF aH aP,bg G c aP aF env m aH->ao (cU G) G c env aP m aH (y aF) (bq r env)):ao (cU G) G c env g m s (M.bind x (λa=>M.bind y<|hV op a) σ) (bq (.Compare l [tP op] [r] pos) env):=by
 show ao _ _ _ _ _ _ _ _ (do compareChain pos (<-bq l env) [tP op] (Kq [tP op] [r]<|oL [r] env));rw[Ca hp];refine ao.bind hx λa aF aH aP u aU b6 cX=>?_;show ao _ _ _ _ _ _ _ _ (do
  let rv <-kW [u] (bq r env)
  fk pos
  operate [u,rv] (Kw (tP op) u rv))
 exact ao.bind (ao.holding<|hy aF aH aP aU) λb dh da dL v cF di gk=>ao.at_<|ao.operate<|I2 B hO cF op (cX.ext di) gk
theorem OE(B:G.dB)(hO:c.Ok){x:M V}(op:aak){l:bA}{pos:ca}(hp:gP r=ag)(hx:ao (cU G) G c env g m s (x σ)<|bq l env)(hy:∀aF aH aP,bg G c aP aF env m aH->ao (cU G) G c env aP m aH (y aF) (bq r env)) whole:ao nz G c env g m s (M.bind x (λa=>M.bind y λb=>M.bind (hV op a b) fU) σ) (mF (.Compare l [tP op] [r] pos) env whole):=by
 show ao _ _ _ _ _ _ _ _ (do testChain pos (<-bq l env) [tP op] (Kq [tP op] [r]<|oL [r] env));rw[Ca hp];refine ao.bind hx λa aF aH aP u aU b6 cX=>?_;show ao _ _ _ _ _ _ _ _ (do
  let rv <-kW [u] (bq r env)
  fk pos
  let c <-operate [u,rv] (Kw (tP op) u rv)
  kW [c] (su c))
 exact ao.bind (ao.holding<|hy aF aH aP aU) λb dh da dL v cF di gk=>ao.at_<|ao.bind (ao.operate<|I2 B hO cF op (cX.ext di) gk) λw kB gd lG w' e9 eU CO=>ao.holding<|wz e9 CO
theorem Cb{x:M V}(hx:ao (cU G) G c env g m s (x σ)<|bq e env)(he:∀w,mF e env w=(do let v <-w;fk e.pos;kW [v] (su v))):
 ao nz G c env g m s (M.bind x fU σ) (mF e env<|bq e env):=by
 rw[he]
 exact ao.bind hx λv aF aH aP u aU b6 cX=>ao.at_<|ao.holding<|wz aU cX
end
section
variable{env:bS}{m:Env}
theorem bR.qH{R:α->β->Prop}(r:bR R [a] bs):∃b,bs=[b]/\R a b:=by
 induction bs using cZ with
 |nil=>exact r.elim
 |cons b bs=>exact (b0 b (congrArg _<|bR.nil r.2) r.1)
theorem bR.ajP{R:α->β->Prop}(r:bR R [a,a'] bs):∃b b',bs=[b,b']/\R a b/\R a' b':=by
 induction bs using cZ with
 |nil=>exact r.elim
 |cons b bs=>exact (bR.qH r.2).elim λb' q=>(gZ b b' (congrArg _ q.1) r.1 q.2)
theorem ao.qH{Rl:bX->Gh->V->β->Prop}{t:List au->fv β}(rs:bR (VR G h g') vs us)(k:∀v u,VR G h g' v u->ao Rl G c env g m s (f v σ) (t [u])):ao Rl G c env g m s (qH vs f σ) (t us):=by
 rcases vs with _|⟨v,_|⟨_,_⟩⟩
 ·exact ao.no (σ:=σ)
 ·exact (bR.qH rs).elim λu q=>q.1▸k v u q.2
 ·exact ao.no (σ:=σ)
theorem wc{R:α->β->Prop}{xs:List α}{its:List β}(r:bR R xs its)(h:xs.length<=bZ):its.toArray.size<=oK:=ah iN<|ah r.length.symm<|iK h
theorem XG{v:au}(e:jC k v=ag)(o:LX k=ag):PR G h F k.val v:=by
 induction k using bV.casesOn with
 |s t=>exact ⟨o,ny e⟩
 |i n=>exact pn e
theorem Qb{A:Type}{R:A->au->Prop}:∀{es}{kvs}{acc},bR (ER R) es kvs->acc.length=kvs.length->(∀(j:Nat)v,acc[j]?=aa v->∃k x,kvs[j]?=aa (k,x)/\G.kk.is k v=ag)->bR (PR G h F) (mB<|es.map (·.1)) acc:=@lr _ _
 (@λkvs acc r hl _=>by
  rw[r.nil]at hl;refine ah (Va.mp hl) ?_;trivial)
 (λe es ih=>@λkvs acc r hl hv=>by
  induction kvs using cZ with
  |nil=>exact r.elim
  |cons kv kvs=>
   induction acc using cZ with
   |nil=>contradiction
   |cons u acc=>
    exact ⟨eZ (hv 0 u rfl) λk x q=>XG (k:=e.1) (ah (show e.1=k from r.1.1.1.trans (congrArg oW<|cP q.1))<|q.2) r.1.1.2,ih r.2 (pA hl) λj v e=>hv (j+1) v e⟩)
theorem FN(h:n<10):WB (toString (n:Int))=fM (qG n)/\sd (qG n)=ag:=by
 have:∀k:Fin 10,WB (toString ((k.val:Nat):Int))=fM (qG k.val)/\sd (qG k.val)=ag:=dc rt;exact this ⟨n,h⟩
theorem FA.Qc(I:bg G c g σ env m s)(e:(!c.hd)=ag):c.A.handled=aj:=I.jS.1 (by cases q:c.hd with|false=>rfl|true=>rw[q]at e;exact dC e)
def z8(G:GG):Prop:=∀(c:Cn)(env:bS)(m:Env)(g:Gh)(σ:H)(s:aY)(v:V)(u:au)(xs:List P)(es:List<|bV×P),bg G c g σ env m s->(!c.hd)=ag->jU σ v=aa xs->pairsOf xs=aa es->es.length<=bZ->VR G s.heap g v u->
 ao (cU G) G c env g m s (M.ok (.p<|ju<|cn [] es) σ) (call (aJ "dict") [u])
theorem abI(B:G.dB)(I:bg G c g σ env m s)(r:VR G s.heap g v u):ao (cU G) G c env g m s ((match jU σ v with
 |some xs=>.eD (xs.length<=bZ)<| .ok<| .p<| .fl xs
 |none=>.lS (!c.hd) (.aQ (qF σ v) λes=>.eD (es.length<=bZ)<| .ok<| .p<| .fl<|mB<|es.map (·.1)):M V) σ) (call (aJ "list") [u]):=by
 cases q:jU σ v with
 |some xs=>
  exact ao.eD λhl=>mY (pH I.dR q r) λl its n w=>w.1▸λQv Ev z Q E q e=>
   call_list_seq l (az rfl) w.2.at_ rfl rfl (λh' c' hk e=>tW I hk (cp _) e w.2.rs z q) (wc w.2.rs hl)
 |none=>
  exact ao.lS λhd=>ao.aQ λes he=>ao.eD λhl=>(zC B I.dR he r).elim λl w=>w.elim λkvs w=>w.1▸λQv Ev z Q E q e=>w.2.at_.dictAt.elim λep Mx=>
   kdl_call (kdl_dict w.2.z5) (FA.Qc I hd) Mx (w.2.rs.length▸iK hl) λh' tk acc c' hk e hi=>
    tW I hk (cp _) ((LB (xs:=acc)).symm▸e) (Qb w.2.rs (LC.trans hi.1) λj v q=>hi.2 j v<|Eo.symm.trans q) z q
theorem Y6(I:bg G c g σ env m s)(r:VR G s.heap g v u):ao (cU G) G c env g m s (M.aQ (jU σ v) (λxs=>.eD (xs.length<=bZ)<| .ok<| .p<| .jH xs) σ) (call (aJ "tuple") [u]):=
 ao.aQ λxs hx=>ao.eD λhl=>mY (pH I.dR hx r) λl its n w=>w.1▸λQv Ev z Q E q e=>
  call_tuple_list ⟨_,w.2.at_,rfl,_,rfl⟩ (λh' hk=>by
   have f:s.heap.get? h'.objs.size=aj:=by
    cases q:s.heap.get? h'.objs.size with
    |none=>rfl
    |some o=>exact absurd (hJ<|hk _ _ q)<|Az _
   exact I1 I (λb ob e=>bY _ _ _ _<|hk b ob e) f (fZ _ rf) w.2.rs z q) (wc w.2.rs hl)
theorem af3(I:bg G c g σ env m s){u:au}(r:VR G s.heap g v u):ao (cU G) G c env g m s (M.aQ v.eX (λi=>.eD (0<=i/\i<10)<| .ok<| .p<| .str<|qG i.toNat) σ) (call (aJ "str") [u]):=
 ao.aQ λi hi=>ao.eD λh=>ao.ok I λQ E k=>(r.int hi).elim λt q=>q▸by
  obtain ⟨n,rfl⟩:=AM h.1;exact aeU (jB (Nat.log2_le_self n)<|qf (nS.mp h.2)<|dc rt)<|(FN<|nS.mp h.2).1▸k _ _ ⟨(FN<|nS.mp h.2).2,_,rfl⟩
theorem I9(I:bg G c g σ env m s){lo:Int}(k:∀b ob,s.heap.get? b=aa ob->h'.get? b=aa ob)(f:s.heap.get? a=aj)(e:h'.get? a=aa {cls:=aJ "range",data:=.fields #[.int lo yz,.int hi Nw,.int 1 Z6]})(v:Qv (.p<| .BN lo hi) σ)(q:yA (cU G) G c env s.heap g m Qv Q):Q (ai a) {s with heap:=h',toks:=tk}:=
 Z' (x:=.BN lo hi) I k f e (λF' x w=>(⟨a,_,_,_,rfl,w,e⟩)) v q
theorem Y7(I:bg G c g σ env m s)(rs:bR (VR G s.heap g) vs us):ao (cU G) G c env g m s ((match (generalizing:=false) vs with
 |[a]=>.aQ a.eX λb=>.ok<| .p<| .BN 0 b
 |[a,b]=>.aQ a.eX λa=>.aQ b.eX λb=>.ok<| .p<| .BN a b
 |_=>.no:M V) σ) (call (aJ "range") us):=by
 rcases vs with _|⟨a,_|⟨b,_|⟨_,_⟩⟩⟩
 ·exact ao.no (σ:=σ)
 ·
  exact ao.aQ λi hi=>(bR.qH rs).elim λu q=>q.1▸(q.2.int hi).elim λt q=>q▸λQv Ev z Q E q e=>call_range_1<|I9 I (bY _ _) (cp _) (fZ _ rf) z q
 ·
  exact ao.aQ λi hi=>ao.aQ λj hj=>eZ (bR.ajP rs) λu u' q=>q.1▸(q.2.1.int hi).elim λt q1=>q1▸(q.2.2.int hj).elim λt q2=>q2▸λQv Ev z Q E q e=>call_range_2<|I9 I (bY _ _) (cp _) (fZ _ rf) z q
 ·exact ao.no (σ:=σ)
theorem Sw(B:G.dB)(P:z8 G)(I:bg G c g σ env m s)(n:Nat)(rs:bR (VR G s.heap g) vs us):ao (cU G) G c env g m s (WN c.hd n vs σ) (call (aJ<|Be n) us):=by
 match n with
 |0=>
  exact ao.qH (t:=λus=>call (aJ "list") us) rs λv u r=>abI B I r
 |1=>
  exact ao.qH (t:=λus=>call (aJ "dict") us) rs λv u r=>(ao.lS λhd=>ao.aQ λxs hx=>ao.aQ λes he=>ao.eD λhl=>P c env m g σ s v u xs es I hd hx he hl r)
 |2=>
  exact ao.qH (t:=λus=>call (aJ "tuple") us) rs λv u r=>Y6 I r
 |3=>exact ao.no (σ:=σ)
 |4=>
  exact ao.qH (t:=λus=>call (aJ "str") us) rs λv u r=>af3 I r
 |5=>exact Y7 I rs
 |n+6=>exact ao.no (σ:=σ)
end
section
open PySem PySem.W PySem.Calls PyProof.Rows PySem.Spec
section
variable{le:α->α->Bool}
theorem FP(x:α):∀l,(wh le x l).Perm (x::l):=@lr _ _
 (.refl _)
 (λy r ih=>by
  show ((match le x y with|true=>x::y::r|false=>y::wh le x r:List α)).Perm _;cases le x y with
  |true=>exact .refl _
  |false=>exact ((ih).cons y).trans<| .swap x y r)
theorem OF:∀l,(nY le l).Perm l:=@lr _ _
 (.nil)
 (λx r ih=>(FP x _).trans<|(ih).cons x)
theorem abJ(ajQ:∀a b,le a b=ak->le b a=ag)(tr:∀a b c,le a b=ag->le b c=ag->le a c=ag)(x:α):∀{l:List α},l.Pairwise (le · ·)->(wh le x l).Pairwise (le · ·):=@lr _ _
 (@λ_=>Vb _ _)
 (λy r ih=>@λh=>by
  have h:=D8.mp h;show (match le x y with|true=>x::y::r|false=>y::wh le x r:List α).Pairwise (le · ·);exact bc (le x y) (λq=>ah q<|List.pairwise_cons.mpr ⟨λz hz=>(dU.mp hz).elim (λe=>e▸q) λhz=>tr _ _ _ q<|h.1 z hz,D8.mpr h⟩) λq=>ah q<|List.pairwise_cons.mpr ⟨λz hz=>(dU.mp<|(FP x r).mem_iff.mp hz).elim (λe=>e▸ajQ _ _ q)<|h.1 z,ih h.2⟩)
theorem Ja(ajQ:∀a b,le a b=ak->le b a=ag)(tr:∀a b c,le a b=ag->le b c=ag->le a c=ag)(akZ:∀a b,le a b=ag->le b a=ag->a=b){l l':List α}(p:l'.Perm l)(r:l'.Pairwise (le · ·)):l'=nY le l:=
 aeG (λa b _ _=>akZ a b) r ((λl=>by induction l with|nil=>exact .nil|cons x r ih=>exact abJ ajQ tr x ih:∀l,(nY le l).Pairwise (le · ·)) l) (p.trans (OF l).symm)
end
theorem Y8{l l':List Int}(p:l'.Perm l)(r:l'.Pairwise (·<=·)):l'=nY ae3 l:=
 Ja (le:=ae3) (λa b h=>decide_eq_true<|Ll<|xf.mp<|of_decide_eq_false h) (λa b c h k=>decide_eq_true<|i7 (of_decide_eq_true h)<|of_decide_eq_true k) (λa b h k=>ko (of_decide_eq_true h)<|of_decide_eq_true k) p (r.imp decide_eq_true)
theorem me{a b:Tx}:WM a b=ag↔a<=b:=by unfold WM;rw[Vx,decide_eq_false_iff_not];exact Iff.rfl
theorem yP:∀{l:List Tx},sortedS (l.map fM)=ag->l.Pairwise (WM · ·):=@lr _ _
 (@λ_=>.nil)
 (λx l b5=>@λh=>by
  have:∀{l:List Tx}{x:Tx},risingS (fM x) (l.map fM)=ag->(x::l).Pairwise (WM · ·):=λ{l}=>by
   induction l with
   |nil=>exact λ_=>Vb _ _
   |cons y r ih=>
    intro x h;have h1:=(congrArg (!·)<|ltCps_eq y x).symm.trans<|aq h;have h2:=ih<|aO h;exact D8.mpr ⟨λz hz=>(dU.mp hz).elim (λe=>e▸h1) λhz=>me.mpr<|Vp (me.mp h1)<|me.mp<|(D8.mp h2).1 z hz,h2⟩
  exact this h)
theorem Y9{l l':List Tx}(p:l'.Perm l)(r:sortedS (l'.map fM)=ag):l'=nY WM l:=
 Ja (le:=WM) (λa b h=>me.mpr<|(List.le_total a b).resolve_left λk=>by rw[me.mpr k]at h;exact rT h) (λa b c h k=>me.mpr<|Vp (me.mp h)<|me.mp k) (λa b h k=>List.le_antisymm (me.mp h)<|me.mp k) p (yP r)
theorem am7{ts:List Tx}:∀{ss:List bB},(∀x∈ss,x∈ts.map fM)->∃Sy:List Tx,ss=Sy.map fM:=@lr _ _
 (@λ_=>⟨[],rfl⟩)
 (λx r ih=>@λh=>(nQ.mp<|h x<|eB _).elim λt q=>(ih λy hy=>h y<|ey _ hy).elim λts e=>⟨t::ts,by exact ah e<|ah q.2.symm rfl⟩)
theorem Jb{a b:List Tx}(p:(a.map fM).Perm<|b.map fM):a.Perm b:=by
 have:=p.map λx:bB=>x.cps.toList;rwa[nL,nL,show ((λx:bB=>x.cps.toList)∘fM)=id from rfl,Vt,Vt]at this
section
variable{env:bS}{m:Env}
variable{prog:oM}{w:kK}{E:au->aY->Prop}{T:String}{r d:bj}{Pj:Nat->au->Prop}{OK:bX->Prop}
theorem OG(K:KdlSrc prog w T r d n Pj OK)(hh:A.handled=aj)(am8:OK s.heap)(hn:n<=oK)(h:∀(h':bX) (tk:Nat) (vs:List au),(∀b o,s.heap.get? b=aa o->h'.get? b=aa o)->vs.length=n->(∀(j:Nat) (v:au),vs[j]?=aa v->Pj j v)->bw (bh prog w) A.in1 (call (bv "list.sort") [ai h'.objs.size]) (λ_ s'=>Q (ai h'.objs.size) s') E {s with heap:=h'.push<|Eu "list" vs.toArray 0,toks:=tk}):bw (bh prog w) A (call (bv "sorted") [ai r]) Q E s:=by
 refine call_function_entry kind_sorted plain_sorted entry_sorted (args_sorted1 _) ?_;unfold sq.«sorted»;refine aR<|bO<|aR<|kdu_collect K hh am8 hn λh' tk acc hk ad8=>?_;exact aR<|Kh (aR<|fE<|oG (h h' tk acc.toList hk (LC.trans ad8.1) λj v e=>ad8.2 j v<|Eo.symm.trans e) (λ_ s' x=>bO<|b0 _ rfl x) λ_ _ e=>e)<|(LC.trans ad8.1)▸hn
theorem abK{F:Fz}{ns:List Int}(r:IntsAre us ns):bR (PR G h F) (ns.map P.int) us:=by
 induction r with
 |nil=>trivial
 |cons _ _ _ ih=>exact ⟨⟨_,rfl⟩,ih⟩
theorem Qd{F:Fz}:∀{us:List au}{ts:List Tx},Et us (ts.map fM)->(∀t∈ts,sd t=ag)->bR (PR G h F) (ts.map P.str) us
 |us,[],r,_=>by cases r;trivial
 |us,t::ts,r,ok=>by cases r with|cons y tk r=>exact ⟨⟨ok t<|eB _,_,rfl⟩,Qd r λx hx=>ok x<|ey _ hx⟩
theorem Sz{F:Fz}:∀{ks:List bV}{ns:List Int}{us:List au},vj ks=aa ns->bR (PR G h F) (mB ks) us->IntsAre us ns:=@lr _ _
 (@λns us e r=>by obtain rfl:=fh e;exact r.nil▸.nil)
 (λIa=>no_implicit_lambda% (bV.rec (λn ks ih=>@λns us e r=>cV e)
  (λn ks ih=>@λns us e r=>(lM.mp<|e).elim λns q=>q.2▸by
  induction us using cZ with
  |nil=>exact r.elim
  |cons u us=>exact r.1.elim λt q'=>q'▸.cons _ _ (ih q.1 r.2)) Ia))
theorem uA{F:Fz}:∀{ks:List bV}{ns:List Tx}{us:List au},G5 ks=aa ns->bR (PR G h F) (mB ks) us->Et us (ns.map fM)/\∀t∈ns,sd t=ag:=@lr _ _
 (@λns us e r=>by obtain rfl:=fh e;exact r.nil▸⟨.nil,λ_ h=>by contradiction⟩)
 (λIa=>no_implicit_lambda% (bV.rec (λn ks ih=>@λns us e r=>(lM.mp<|e).elim λns q=>q.2▸by
  induction us using cZ with
  |nil=>exact r.elim
  |cons u us=>exact r.1.2.elim λt q'=>q'▸⟨.cons _ _ (ih q.1 r.2).1,λt ht=>(dU.mp ht).elim (λe=>e▸r.1.1)<|(ih q.1 r.2).2 t⟩)
  (λn ks ih=>@λns us e r=>cV e) Ia))
theorem Jc(I:bg G c g σ env m s){xs:List P}{out vs:List au}(hk:∀b o,s.heap.get? b=aa o->h'.get? b=aa o)(rx:bR (PR G s.heap g.F) xs out)(z:Qv (.p<| .fl xs) σ)(q:yA (cU G) G c env s.heap g m Qv Q):Q (ai h'.objs.size) {s with heap:=sortedHeap (h'.push<|Eu "list" vs.toArray 0) h'.objs.size vs out.toArray,toks:=tk}:=by
 refine ue (sortedHeap_at (out:=out.toArray)<|show (h'.push<|Eu "list" vs.toArray 0).get? h'.objs.size=aa (Eu "list" vs.toArray 0)from fZ _ rf) λe he=>?_;have hf:s.heap.get? h'.objs.size=aj:=by
  cases q:s.heap.get? h'.objs.size with
  |none=>rfl
  |some o=>exact absurd (hJ<|hk _ _ q)<|Az _
 refine tW I (λb ob q=>?_) hf he rx z q
 refine ah (sortedHeap_old (m7<|hJ<|hk _ _ q)<|wX (hJ<|hk _ _ q)<|by rw[nU];exact kZ _) ?_
 exact bY _ _ _ _<|hk _ _ q
theorem SD(B:G.dB)(I:bg G c g σ env m s){u:au}(r:VR G s.heap g v u):ao (cU G) G c env g m s (M.lS (!c.hd) (.at λσ=>.aQ (yh σ v) λes=>.eD (es.length<64)<| .aQ (rV<|es.map (·.1)) λl=>.ok<| .p<| .fl l) σ) (call (bv "sorted") [u]):=by
 refine ao.lS λhd=>ao.at<|ao.aQ λes he=>ao.eD λam9=>ao.aQ λxs hx=>eZ (Df B I.dR he r) λl kvs w=>w.1▸λQv Ev z Q E q e=>w.2.at_.dictAt.elim λep Mx=>?_;have ad9:=w.2.rs.length▸am9;refine OG (kdl_dict w.2.z5) (FA.Qc I hd) Mx (rJ<|uK<|qf ad9<|dc rt) λh' tk vs hk hl hv=>?_;have ks:=Qb (F:=g.F) (h:=s.heap) w.2.rs hl hv;rcases tz hx with hx|hx
 ·refine cE (lM.mp hx) λns hn hx=>J' Wf ⟨_,(fZ _ rf),rfl⟩ We (list_sort_tree (n:=0) (fZ _ rf) (Sz hn ks) (hl▸ad9) λout aas hI hp hP=>(b0 .none rfl ?_))<|Wg _
  have:=Jc (vs:=vs) (tk:=tk) I hk (hx▸Y8 hp hP▸abK hI) z q;rwa[LB]at this
 ·refine cE (lM.mp hx) λns hn hx=>J' Wf ⟨_,(fZ _ rf),rfl⟩ We (list_sort_treeK (n:=0) strKind_oneLt (fZ _ rf) (uA hn ks).1.keysOf (λak0 anD rest e=>keyKind_strs<|e▸(uA hn ks).1) (hl▸ad9) λMy hp hs=>(b0 .none rfl ?_))<|Wg _
  refine eh λcy bk=>vC (sorted_out_str (uA hn ks).1 hp hs) λanM h1 h2 h3=>?_;obtain ⟨Sy,rfl⟩:=am7 λx hx=>h2.mem_iff.mp hx;refine bk ?_;have:=Jc (vs:=vs) (tk:=tk) I hk (hx▸Y9 (Jb h2) h3▸Qd h1 λt ht=>(uA hn ks).2 t<|(Jb h2).mem_iff.mp ht) z q;rwa[LB]at this
end
end
section
open PySem PySem.W PySem.Calls PyProof.Rows PySem.Spec Builtin Builtin.ObjectAttr
section
variable{env:bS}{m:Env}
theorem OH(K:c7):xh K (bv "object.__class__") "__get__"=aa (aa<|bv "getset_descriptor.__get__"):=by kernel_rfl
theorem Y'(K:c7):takesIn K (bv "object.__class__")=aa ag:=by kernel_rfl
theorem OI{K:c7}(k:kA K a d)(hd:d.d5=ag){od:Option cC}:findObj K a od "__class__"=aa (.bind (bv "getset_descriptor.__get__")<|bv "object.__class__"):=
 vC k.cd λcd h1 h2 _=>qb.mpr<|b0 cd h1<|qb.mpr<|b0 _ (k.jm hd).2.1<|qb.mpr<|b0 _ (OH K)<|qb.mpr<|b0 _ (Y' K) rfl
section
variable{x a:bj}{od:Option cC}{d:cN}{E:au->aY->Prop}
theorem Za(I:lR h x ox a od):∃ahB XH adl,h.get? x=aa ⟨ai a,ahB,XH,adl⟩:=by
 have h1:=I.at_;have h2:=I.cls;clear I;obtain ⟨oc,ahB,XH,adl⟩:=ox;exact (Po ahB XH adl<|h2▸h1)
theorem SE(I:lR s.heap x ox a od)(X:G.K.In s.heap)(k:kA G.K a d)(z:Q (ai a) s):bw (bh G.prog G.w) A (Al (bv "getset_descriptor.__get__") [bv "object.__class__",ai x,ai a]) Q E s:=by
 have L5:gw (bh G.prog G.w) s.heap (isSubtype (ai a)<|aJ<|".".intercalate ("object.__class__".cutAt '.').dropLast) ag:=F.owner_object_class.symm▸qA X (P' k);refine mY (Za I) λahB XH adl hx=>oH<|Ad VW.plain F.entry_gs_get<|VW.check _ _ _ _ _ _ _ _ F.typeOf_object_class (F.args_gs_get _ _ _) ?_;clear I;repeat (any_goals (first|assumption|(with_reducible refine Dz hx ?_)|(with_reducible refine L5.at ?_)|wp_step))
 refine ⟨LH _ (by decide+kernel),Kb F.entry_object_class ?_⟩;repeat (any_goals (first|assumption|(with_reducible refine Dz hx ?_)|(with_reducible refine L5.at ?_)|wp_step))
theorem HK{Q:Option au->aY->Prop}(I:lR s.heap x ox a od)(X:G.K.In s.heap)(k:kA G.K a d)(hd:d.d5=ag)(z:Q (aa<|ai a) {s with toks:=s.toks+1}):bw (bh G.prog G.w) A (KC (ai x) "__class__") Q E s:=by
 refine aR<|DJ<|aR<|UH<|XF (s:={s with toks:=s.toks+1}) (u:=ai a) I X k hd (λA Q E q=>?_) rt<|bO z;exact aR<|bO<|aR<|bO<|aR<|I.type.at<|aR<|(VM X I<|OI k hd).at<|aR<|fE<|SE I X k<|bO q
end
theorem HL{E:au->aY->Prop}{id:String}(kind:UR id=aj)(plain:plainId id=ag)(entry:entryFor table id=aa B)(ok:argsOk id ⟨args,[]⟩)(ahC:bw (bh prog w) A.in1 (B ⟨args,[]⟩) (λfin s'=>match fin with| .done f=>wants Q E (.ok f) s'| .again c'=>c'.quiet=ag/\kI (bh prog w) A c' (wants Q E) s') (λe s'=>wants Q E (.error e) s') s):bw (bh prog w) A (call (.builtin id) args) Q E s:=by
 refine oH<|Ad plain entry ?_;simp only[wI,kind];cases ak1:aeK id with
 |none=>exact bO ahC
 |some sig=>
  simp only[argsOk,ak1]at ok;exact Km ok ahC
theorem abL(a b:Nat):(jX a==jX b)=(a==b):=AL.mpr<|beq_iff_eq.trans<|(Iff.intro Ez<|congrArg jX).trans beq_iff_eq.symm
theorem Zb(C:Nat):∀l:List Nat,(l.map jX++TB).contains (ai C)=l.contains C:=fT rfl λy r ih=>Le.trans<|(congr (congrArg or<|abL C y) ih).trans Le.symm
theorem Qe{K:c7}(k:kA K a d)(hd:d.d5=ag):jG K a (ai C)=aa (d.mro.contains C):=cE (k.jm hd).2.2.2 λcd hc hm=>vC k.cd λanN ahn _ ho=>by
 obtain rfl:=fh<|ahn.symm.trans hc;unfold jG;exact ah hc<|(if_neg<|al4 (yG ho).2).trans<|congrArg aa<|(congrArg (List.contains · _) hm).trans<|Zb C d.mro
theorem af4{K:c7}(e:xi K C=aa cd):∃oc od sl,K.lookup C=aa ⟨oc,od,.cls cd,sl⟩:=by
 unfold xi at e;refine oc (K.lookup C) (λq=>by rw[q]at e;exact cV e) λo q=>?_;obtain ⟨c,d,dt,sl⟩:=o;rw[q]at e;induction dt using uU<;>first|exact cV e|(obtain rfl:=fh e;exact (Po _ _ _ q))
theorem Mz{K:c7}{M:iy}(X:K.In h){d:cN}(k:kA K C d):gw M h (KP<|ai C) ag:=ue k.cd λcd w=>mY (af4 w.1) λoc od sl q=>(sF<|X _ _ q).andThen .now
theorem abM{x a C:bj}{od:Option cC}(I:lR s.heap x ox a od)(X:G.K.In s.heap){d dc:cN}(k:kA G.K a d)(hd:d.d5=ag)(kc:kA G.K C dc){E:au->aY->Prop}(z:∀tk,Q (.bool<|d.mro.contains C) {s with toks:=tk}):bw (bh G.prog G.w) A (call (bv "isinstance") [ai x,ai C]) Q E s:=by
 have t4:=qA (M:=bh G.prog G.w) X<|Qe (C:=C) k hd;refine HL F.kind_isinstance F.plain_isinstance F.entry_isinstance (F.args_isinstance_2 _ _)<|isinstance_outer ?_ λe=>nomatch e;refine aR<|I.type.at<|(sD<|(jX a==jX C)=ag).elim (λq=>wy q<|aR<|Ak<|aR<|bO<|bO ?_) λq=>wn q ?_
 ·have:=z s.toks
  rw[<-Ez (eq_of_beq q),(k.jm hd).2.2.1]at this;exact this
 ·refine aR ((Lo X kc.aav.1).at<|wy (by decide) ?_)
  k_delta "plainIsInstance";refine aR<|aR<|(Mz X kc).at<|wn (ahy rfl)<|aR<|(I.type.andThen t4:gw _ s.heap (DL (ai x)<|ai C) _).at ?_;refine bd (d.mro.contains C) (λhb=>?_) λhb=>?_<;>rw[hb]at z t4⊢
  ·exact aR<|HK I X k hd<|aR<|(Mz X k).at<|wn (ahy rfl)<|aR<|Ak<|t4.at<|bO<|z _
  ·exact bO<|bO<|z _
theorem XI{R:α->β->Prop}{xs:List α}{its:List β}(r:bR R xs its)(h:xs.length<=bZ):(its.toArray.size:Int)<2^63:=ah iN<|ah r.length.symm<|FG h
theorem af5(I:bg G c g σ env m s)(r:VR G s.heap g v u):ao (cU G) G c env g m s ((match v.lh with
 |some s=>.eD (s.length<=bZ)<| .ok<|it s.length
 |none=>.aQ (vi σ v) λxs=>.eD (xs.length<=bZ) (.ok<|it xs.length):M V) σ) (call (bv "len") [u]):=by
 cases q:v.lh with
 |some t=>exact ao.eD λhl=>ao.ok I λQ E k=>(r.str q).2.elim λtk e=>e▸aev (xf.mpr<|FG hl) (k _ _ ⟨_,rfl⟩)
 |none=>
  exact ao.aQ λxs hx=>ao.eD λhl=>ao.ok I λQ E k=>mY (Mu I.dR hx r) λl its n w=>w.1▸
   w.2.1.elim (λe=>call_len_list ⟨_,e,rfl,_,rfl⟩ (XI w.2.2 hl)<|(congrArg (λn:Nat=>AV (n:Int)<|s.toks+1)<|iN.trans w.2.2.length.symm)▸k _ _ ⟨_,rfl⟩) λe=>aeu ⟨_,e,rfl,_,rfl⟩ (XI w.2.2 hl)<|(congrArg (λn:Nat=>AV (n:Int)<|s.toks+1)<|iN.trans w.2.2.length.symm)▸k _ _ ⟨_,rfl⟩
theorem abN(I:bg G c g σ env m s){x:P}{b:Bool}(hn:(dk n 2||Nat.beq n 3)=ag)(e:adG n x=aa b)(r:PR G s.heap g.F x u){E:au->aY->Prop}(z:∀tk,Q (.bool b) {s with toks:=tk}):bw (bh G.prog G.w) c.A (call (bv "isinstance") [u,aJ<|Be n]) Q E s:=by
 rcases ((Ee.mp hn).imp (rN) λq=>rN q)with rfl|rfl
 ·cases x<;>first|(exact cV e;done)|skip
  ·obtain rfl:=fh e;exact r.elim λt q=>q▸aeM (z _)
  ·obtain rfl:=fh e;exact r.2.elim λt q=>q▸aeN (z _)
  ·cases e;exact (oE.out r).elim λa w=>w.elim λits w=>w.elim λk w=>w.1▸aeL w.2.2.1 rfl (z s.toks)
 ·cases x<;>first|(exact cV e;done)|skip
  ·obtain rfl:=fh e;exact r.elim λt q=>q▸aeP (z s.toks)
  ·obtain rfl:=fh e;exact r.2.elim λt q=>q▸aeQ (z _)
  ·cases e;exact (oE.out r).elim λa w=>w.elim λits w=>w.elim λk w=>w.1▸aeO w.2.2.1 rfl (z _)
theorem P.Zc{x:P}(e:x.ajo=aa n):x=.ty n:=by induction x using P.casesOn<;>first|(obtain rfl:=fh e;rfl)|exact cV e
theorem P.Zd{x:P}(e:x.ajp=aa n):x=.cls n:=by induction x using P.casesOn<;>first|(obtain rfl:=fh e;rfl)|exact cV e
theorem af6(B:G.dB)(T:iU G)(I:bg G c g σ env m s){w:V}(r:VR G s.heap g v u)(r2:VR G s.heap g w u2):ao (cU G) G c env g m s (M.aQ w.pl (λc=>match v.pl with
 |some x=>.aQ c.ajo λn=>.lS (dk n 2||Nat.beq n 3)<| .aQ (adG n x) λb=>.ok<|bl b
 |none=>.aQ c.ajp λc=>.aQ v.slot λn=>.at λσ=>.aQ ((aW σ n).bind O.QA) λe=>.aQ (G.T.cls e.1) λk=>.aQ (G.T.cls c) λ_=>.lS k.d5<| .ok<|bl<|k.mro.contains c) σ) (call (bv "isinstance") [u,u2]):=by
 refine ao.aQ λc' hc=>?_
 have r2:=r2.pl hc
 cases q:v.pl with
 |some x=>
  refine ao.aQ λn hn=>ao.lS λhb=>ao.aQ λb hi=>ao.ok I λQ E k=>?_;rw[P.Zc hn]at r2;exact (r2)▸abN I hb hi (r.pl q) λtk=>k _ tk rfl
 |none=>
  refine ao.aQ λC hC=>ao.aQ λn hn=>ao.at<|ao.aQ λe he=>ao.aQ λd hd=>ao.aQ λdc ana=>ao.lS λhx=>ao.ok I λQ E k=>(cR he).elim λo w=>(I.dR.ref (r.at hn) w.1 (λq=>by rw[q]at w;cases w.2) λq=>by rw[q]at w;cases w.2).elim λp y=>y.1▸?_;rw[P.Zd hC]at r2;have z:=y.2.2;replace z:=(O.IZ w.2)▸z;exact z.elim λvs z=>eZ (BX.iF z.1 rfl rfl rt) λgB n J=>r2.1▸abM J.1 (B.jh I) (T _ _ hd) hx (T _ _ ana) λtk=>k _ tk rfl
theorem SG(B:G.dB)(T:iU G)(I:bg G c g σ env m s)(n:Nat)(rs:bR (VR G s.heap g) vs us):ao (cU G) G c env g m s (WO G.T c.hd n vs σ) (call (.builtin<|xv n) us):=by
 rcases n with _|_|_|n
 ·exact ao.qH (t:=λus=>call (bv "len") us) rs λv u r=>af5 I r
 ·exact ao.qH (t:=λus=>call (bv "sorted") us) rs λv u r=>SD B I r
 ·rcases vs with _|⟨v,_|⟨w,_|⟨_,_⟩⟩⟩
  ·exact ao.no (σ:=σ)
  ·exact ao.no (σ:=σ)
  ·exact eZ (bR.ajP rs) λu u' q=>q.1▸af6 B T I q.2.1 q.2.2
  ·exact ao.no (σ:=σ)
 ·exact ao.no (σ:=σ)
end
end
theorem OJ:∀s:Tx,d9 s=(s.reverse.dropWhile (·==32)).reverse:=@lr _ _
 (rfl)
 (λc r ih=>by
  refine ah List.reverse_cons<|ah List.dropWhile_append ?_;show (match d9 r with|[]=>if c=32 then []else [c]|a::l=>c::a::l)=_;refine ah (ih) ?_;cases q:r.reverse.dropWhile (·==32)with
  |nil=>
   by_cases h:c=32
   ·subst h;rfl
   ·refine ah (if_neg h)<|ah (show [c].dropWhile (·==32)=[c] by refine ah List.dropWhile_cons<|ah (if_neg λz=>h<|eq_of_beq z) ?_;rfl) ?_;rfl
  |cons a l=>
   cases q2:(a::l).reverse with
   |nil=>cases List.reverse_eq_nil_iff.mp q2
   |cons b t=>
    refine ah Vg<|ah q2 ?_;rfl)
theorem t8(s:Tx):s.take (s.length - (s.reverse.takeWhile (·==32)).length)=d9 s:=by
 have h:=congrArg List.reverse<|List.takeWhile_append_dropWhile (p:=(·==32)) (l:=s.reverse);rw[Vg,List.reverse_reverse,<-OJ]at h;have h3:=congrArg xa h;rw[cg,List.length_reverse]at h3;refine ah (show s.length - (s.reverse.takeWhile (·==32)).length=(d9 s).length from Nat.sub_eq_of_eq_add h3.symm) ?_;have t:=List.take_left (l₁:=d9 s) (l₂:=(s.reverse.takeWhile (·==32)).reverse);rwa[h]at t
theorem OL(s:Tx):LK (fM s) (fM [32])=fM (d9 s):=by
 have al7:stripHi (λc=>c==32) ag (fM s) 0=s.length - (s.reverse.takeWhile (·==32)).length:=by
  simp[stripHi,fM,WC]
 have e0:stripLo (λc=>c==32) ak (fM s)=0:=rfl
 have af7:UE (λc=>c==32) ak ag (fM s)=fM (d9 s):=by
  unfold UE;refine ah e0 ?_;rw[al7,<-t8];unfold aep fM;simp
 unfold LK Wn
 refine ah (by funext c;simp[fM,Array.contains]:((fM [32]).cps.contains)=λc=>c==32) ?_;refine ah af7 ?_
 split
 ·rename_i q
  unfold stripSame at q;rw[e0,al7]at q;rw[<-t8,show s.length - (s.reverse.takeWhile (·==32)).length=s.length from eq_of_beq (aO q),Ea]
 ·rfl
theorem OM{s:Tx}(o:sd s=ag):sd (d9 s)=ag:=by rw[<-t8];exact P9 o 0 _
theorem ON(its:List au):its.toArray.eraseIdxIfInBounds (its.toArray.size - 1)=its.dropLast.toArray:=by
 induction its using cZ with
 |nil=>rfl
 |cons a l=>
  unfold Array.eraseIdxIfInBounds;rw[dif_pos (by rw[iN];exact pw _),List.eraseIdx_toArray,iN];refine ah List.eraseIdx_length_sub_one ?_;rfl
theorem SH(its:List au)(n:Nat):∃k,xj (λxs=>xs.eraseIdxIfInBounds<|its.toArray.size - 1) (gv its.toArray n)=gv its.dropLast.toArray k:=⟨_,by rw[<-ON];rfl⟩
theorem Ze(its:List au)(u:au)(n:Nat):∃k,xj (λx=>x.push u) (gv its.toArray n)=gv (its++[u]).toArray k:=⟨_,by rw[<-Vl];rfl⟩
theorem bR.dropLast{R:α->β->Prop}{xs:List α}{its:List β}(r:bR R xs its):bR R xs.dropLast its.dropLast:=ah Vc<|ah Vc<|ah r.length.symm<|r.take _
noncomputable def xY:List Bool->Option Nat
 |[]=>aj
 |b::r=>match b with|true=>aa 0|false=>(xY r).map (·+1)
theorem SI(v:P):∀xs,l8 v xs=xY (xs.map (cL · v)):=@lr _ _
 (rfl)
 (λx r ih=>by show (match cL x v with|true=>aa 0|false=>(l8 v r).map (·+1))=_;rw[ih];rfl)
theorem OO:∀{its:List au}{j:Nat},xY (its.map f)=aa j->∃h,f its[j]=ag/\∀n(hn:n<its.length),n<j->f its[n]=ak:=@lr _ _
 (@λj e=>cV e)
 (λu its ih=>@λj e=>by
  refine bc (f u) (λq=>?_) λq=>?_
  ·
   have e:(match f u with|true=>aa 0|false=>(xY<|its.map f).map (·+1))=aa j:=e;replace e:=q▸e;obtain rfl:=fh e;exact (b0 (KZ _) q λn _ h=>absurd h<|Ay n)
  ·
   have e:(match f u with|true=>aa 0|false=>(xY<|its.map f).map (·+1))=aa j:=e;replace e:=q▸e;refine cE (lM.mp<|show (xY<|its.map f).map (·+1)=aa j from e) λi e' w2=>?_;subst w2;clear e;exact cE (ih e') λh h1 h2=>(b0 (KU h) h1 (λn hn hl=>by
    induction n using jP with
    |zero=>exact q
    |succ n=>exact h2 n (Av hn)<|Av hl)))
theorem abO{v:P}(hv:cK 8 v=ag):∀{xs},dS 8 xs=ag->(kt xs).map (λy=>qD y<|qX v)=xs.map (cL · v):=@lr _ _
 (@λ_=>rfl)
 (λx xs ih=>@λh=>List.cons_eq_cons.mpr ⟨Ms x v (aq h) hv,ih<|aO h⟩)
section
variable{env:bS}{m:Env}
structure aiS(us:List au)(t:Tx)(ts:List Tx):Prop where
 ajR:Et us (ts.map fM)
 eq:t=ts.flatten
 ok:sd t=ag
theorem SJ:∀{xs}{us}{t:Tx},G6 xs=aa t->bR (PR G h F) xs us->∃ts,aiS us t ts:=@lr _ _
 (@λus t e r=>by obtain rfl:=fh e;exact r.nil▸⟨[],.nil,rfl,rt⟩)
 (λx xs ih=>@λus t e r=>by
  induction us using cZ with
  |nil=>exact r.elim
  |cons u us=>
   have e:(match x.sV with|some s=>(G6 xs).map (s++·)|none=>aj)=aa t:=e;refine oc (x.sV) (λq=>?_) λy q=>?_
   ·rw[q]at e;exact cV e
   ·
    rw[q]at e;have r1:=r.1;replace r1:=(P.yC q)▸r1;exact (lM.mp e).elim λt' e=>(ih e.1 r.2).elim λts j=>r1.2.elim λtk q=>⟨y::ts,q▸.cons _ _ j.ajR,by exact ah e.2.symm<|ah j.eq rfl,e.2▸BZ r1.1 j.ok⟩)
theorem Jd:∀ts:List Tx,WD (fM []) (ts.map fM)=fM ts.flatten
 |[]=>rfl
 |[x]=>by show fM x=fM (x++[]);rw[fc]
 |x::y::r=>by
  show fM x++fM []++WD (fM []) ((y::r).map fM)=_;refine ah (Jd<|y::r) ?_;rw[<-rI,<-rI,fc];rfl
theorem CP(r:Et us ss):us.length=ss.length:=by
 induction r with
 |nil=>rfl
 |cons _ _ _ ih=>exact congrArg (·+1) ih
theorem JS:∀ts:List Tx,((ts.map fM).map (·.length)).sum=ts.flatten.length:=@lr _ _
 (rfl)
 (λx r ih=>by rw[oP,oP,List.sum_cons,ih,List.flatten_cons];exact ah cg rfl)
theorem Zf(I:bg G c g σ env m s)(ro:VR G s.heap g o u)(r:VR G s.heap g v w):ao (cU G) G c env g m s (M.aQ o.slot (λn=>.at λσ=>.aQ ((aW σ n).bind O.uV) λxs=>.aQ v.pl λx=>.eD (xs.length<=bZ)<| .bind (fP n<| .ls<|xs++[x]) λ_=>.ok<| .p .none) σ) (call (bv "list.append") [u,w]):=by
 refine ao.aQ λn hn=>ao.at<|ao.aQ λxs hx=>ao.aQ λx hp=>ao.eD λhl=>(cR hx).elim λob y=>mY (Bn I.dR (y.1.trans<|congrArg aa<|O.lJ y.2)<|ro.at hn) λa its k w'=>w'.1▸λQv Ev z Q E q e=>uE VN ⟨_,w'.2.L.at_,rfl⟩ F.entry_list_append (F.args_list_append_2 _ _) (aeC a its.toArray k w<|wc w'.2.L.rs hl) ⟨w'.2.L.at_,?_⟩;exact (Ze its w k).elim λ_ e=>have:=FJ I (y.1.trans<|congrArg aa<|O.lJ y.2) w'.2 e<|w'.2.L.rs.append<|show bR (PR G s.heap g.F) [x] [w]from ⟨r.pl hp,trivial⟩;q _ _ _ g _ z this.1 this.2 rfl
theorem aiT(I:bg G c g σ env m s)(ro:At g.ρ n u):ao (cU G) G c env g m s (M.aQ ((aW σ n).bind O.uV) (λxs=>.aQ xs.getLast? λx=>.eD (xs.length<=bZ)<| .bind (fP n<| .ls xs.dropLast) λ_=>.ok<| .p x) σ) (call (bv "list.pop") [u]):=by
 refine ao.aQ λxs hx=>ao.aQ λx hp=>ao.eD λhl=>(cR hx).elim λob y=>mY (Bn I.dR (y.1.trans<|congrArg aa<|O.lJ y.2) ro) λa its k w'=>w'.1▸λQv Ev z Q E q e=>(w'.2.L.rs.kM<|(List.getLast?_eq_getElem?)▸hp).elim λw hw=>?_;refine uE VU ⟨_,w'.2.L.at_,rfl⟩ F.entry_list_pop (F.args_list_pop_1 _) (aeI a its.toArray k w (by refine ah iN<|ah w'.2.L.rs.length.symm<|ah (D6) ?_;exact hw.1)<|wc w'.2.L.rs hl) ⟨w'.2.L.at_,?_⟩;exact (SH its k).elim λ_ e=>have:=FJ I (y.1.trans<|congrArg aa<|O.lJ y.2) w'.2 e w'.2.L.rs.dropLast;q _ _ _ g _ z this.1 this.2 (PR.ext this.2 (v:=x) hw.2)
theorem abP(hO:c.Ok)(I:bg G c g σ env m s){o:V}(ro:VR G s.heap g o u)(r:VR G s.heap g v w):ao (cU G) G c env g m s (M.aQ (jU σ o) (λxs=>.aQ v.pl λx=>.eD (cK 8 x=ag/\dS 8 xs=ag/\xs.length<=bZ)<| .aQ (l8 x xs) λj=>.ok<|it j) σ) (call (bv "list.index") [u,w]):=by
 refine ao.aQ λxs hx=>ao.aQ λx hp=>ao.eD λh=>ao.aQ λj hj=>ao.ok I λQ E k=>mY (pH I.dR hx ro) λa its n y=>y.1▸?_;have p:=Mq xs h.2.1<|gu▸y.2.rs;have p':=Nx x h.1<|r.pl hp;refine p.r.elim λas ra=>p'.r.elim λbs rb=>?_;have e:its.map (λy=>qD (WE s.heap y)<|qX x)=xs.map (cL · x):=by
  rw[<-abO h.1 h.2.1,<-SeqAt.readsAll_map (kt xs) its as p.u8 ra,nL];rfl
 rw[SI,<-e]at hj
 refine (OO hj).elim λhl q=>?_
 have d':=p'.depth
 exact uE VO ⟨_,y.2.at_,rfl⟩ F.entry_list_index (F.args_list_index_2 _ _)
  (SeqAt.list_indexAt a its.toArray n aj #[] w (λy=>qD (WE s.heap y)<|qX x) j (iN▸hl) (uP (nS.mpr<|wX hl<|y.2.rs.length▸h.2.2)<|show ((bZ:Nat):Int)<2^63 - 1 by decide+kernel) q.1 λn hn=>q.2 n hn)
  (k8 y.2.at_ (λy' hy=>SeqAt.items_eqAt ra rb p.u8 p'.u8 (hO.HG p.depth) y' hy)<|k _ _ ⟨_,rfl⟩)
theorem ER.anb{A:Type}{R:A->au->Prop}(k:bV):∀{es}{kvs},bR (ER R) es kvs->bR (ER R) (cW es k) (UI kvs k):=@lr _ _
 (@λ_ r=>by refine ah r.nil ?_;trivial)
 (@pr _ _ _ (λj v es ih=>@λkvs r=>by
  induction kvs using cZ with
  |nil=>exact r.elim
  |cons kv kvs=>
   rw[LW];unfold UI;refine ah Vn ?_;by_cases w:j=k
   ·exact ah (if_pos w)<|ah (if_neg<|by simp[<-r.1.1.1,w])<|ih r.2
   ·exact ah (if_neg w)<|ah (if_pos<|by simp[<-r.1.1.1,w])<|⟨r.1,ih r.2⟩))
end
section
variable{env:bS}{m:Env}
theorem OP(e:jC k w=ag):(∃t tk,w=.str t tk)\/∃i tk,w=.int i tk:=by
 induction k using bV.casesOn with
 |s t=>exact (ny e).elim λtk q=>az<|yQ _ tk q
 |i n=>exact (pn e).elim λtk q=>aX<|yQ _ tk q
theorem aiU(B:G.dB)(I:bg G c g σ env m s)(ro:At g.ρ n u)(r:VR G s.heap g v w):ao (cU G) G c env g m s (M.aQ v.lj (λa=>.aQ ((aW σ n).bind O.yS) λes=>.aQ (av es a) λx=>.eD (es.length<=bZ)<| .bind (fP n<| .rd<|cW es a) λ_=>.ok<| .dy x) σ) (call (bv "dict.pop") [u,w]):=by
 refine ao.aQ λa ha=>ao.aQ λes hx=>ao.aQ λx hp=>ao.eD λhl=>(cR hx).elim λob y=>eZ (XD B I.dR (y.1.trans<|congrArg aa<|O.tw y.2) ro) λl kvs w'=>w'.1▸λQv Ev z Q E q e=>?_;have k1:=(VR.key ha r).1;have gt:=ER.kM (k:=a) w'.2.D.rs;rw[hp]at gt;refine gt.elim λuv hu=>Kk VV (DictOf.sf w'.2.D.at_).typeIs F.entry_dict_pop (F.args_dict_pop_2 _ _) (meets_dict_pop_there G.kk l k1 [] (az rfl) ?_)<|Dk kvs uv w'.2.D.at_ (w'.2.D.rs.length▸iK hl) hu.1 λh' Mw hs=>?_
 ·rcases OP k1 with ⟨t,tk,q⟩|⟨t,tk,q⟩<;>rw[q]<;>rfl
 ·have:=XE (tk:=s.toks+1) I (y.1.trans<|congrArg aa<|O.tw y.2) w'.2 hs.2 Mw<|ER.anb a w'.2.D.rs
  exact q _ _ _ g _ z this.1 this.2 ⟨At.bL this.2.rA hu.2.1,hu.2.2⟩
theorem Qf{A:Type}{R:A->au->Prop}{es:List (bV×A)}(D:H' G h R es a kvs){f:A->V}(hf:∀x u,R x u->VR G h g (f x) u)(rd:VR G h g d ud):VR G h g (qI f d<|av es k) ((oN kvs k).getD ud):=by
 have gt:=ER.kM (k:=k) D.rs;refine oc (av es k) (λq=>?_) λx q=>?_
 ·refine ah q ?_;rw[q]at gt;exact ah (gt)<|rd
 ·refine ah q ?_;rw[q]at gt;exact gt.elim λu q=>q.1▸hf _ _ q.2
theorem XJ(I:bg G c g σ env m s){A:Type}{R:A->au->Prop}{es:List (bV×A)}(D:H' G s.heap R es a kvs){f:A->V}(hf:∀x u,R x u->VR G s.heap g (f x) u)(hk:jC k w=ag):ao (cU G) G c env g m s (M.ok (qI f (.p .none)<|av es k) σ) (call (bv "dict.get") [ai a,w]):=ao.ok I λQ E z=>by
 refine Kk Lx (DictOf.sf D.at_).typeIs VS (F.args_dict_get_2 _ _) (meets_dict_get G.kk a hk D.z5)<|b0 _ (DictOf.sf D.at_) ?_;exact z _ _<|Qf D hf rfl
theorem XK(I:bg G c g σ env m s){A:Type}{R:A->au->Prop}{es:List (bV×A)}{a:bj}(D:H' G s.heap R es a kvs){f:A->V}(hf:∀x u,R x u->VR G s.heap g (f x) u){k:bV}(hk:jC k w=ag)(rd:VR G s.heap g d ud):ao (cU G) G c env g m s (M.ok (qI f d<|av es k) σ) (call (bv "dict.get") [ai a,w,ud]):=ao.ok I λQ E z=>by
 refine Kk Lx (DictOf.sf D.at_).typeIs VS (F.args_dict_get_3 _ _ _) (meets_dict_get_default G.kk a hk D.z5 ud)<|b0 _ (DictOf.sf D.at_) ?_;exact z _ _<|Qf D hf rd
theorem aiV(B:G.dB)(I:bg G c g σ env m s)(ro:VR G s.heap g o u)(rs:bR (VR G s.heap g) vs us):ao (cU G) G c env g m s (uW 1 3 o vs σ) (call (bv "dict.get")<|u::us):=by
 rcases vs with _|⟨v,_|⟨d,_|⟨_,_⟩⟩⟩
 ·exact ao.no (σ:=σ)
 ·
  refine ao.aQ λa ha=>(bR.qH rs).elim λw q=>q.1▸?_;show ao _ _ _ _ _ _ _ ((match qF σ o with|some es=>M.ok (qI V.p (.p .none)<|av es a)|none=>.aQ (yh σ o) λes=>.ok (qI V.dy (.p .none)<|av es a):M V) σ) _;cases q':qF σ o with
  |some es=>exact (zC B I.dR q' ro).elim λl y=>y.elim λkvs y=>y.1▸XJ I y.2 (f:=V.p) (λ_ _ r=>r) (VR.key ha q.2).1
  |none=>exact ao.aQ λes he=>eZ (Df B I.dR he ro) λl kvs y=>y.1▸XJ I y.2 (f:=V.dy) (λ_ _ r=>r) (VR.key ha q.2).1
 ·
  refine ao.aQ λa ha=>eZ (bR.ajP rs) λw w2 q=>q.1▸?_;show ao _ _ _ _ _ _ _ ((match qF σ o with|some es=>M.ok (qI V.p d<|av es a)|none=>.aQ (yh σ o) λes=>.ok (qI V.dy d<|av es a):M V) σ) _;exact od (qF σ o) (λes q'=>ah q'<|eZ (zC B I.dR q' ro) λl kvs y=>y.1▸XK I y.2 (f:=V.p) (λ_ _ r=>r) (VR.key ha q.2.1).1 q.2.2) λq'=>q'▸ao.aQ λes he=>eZ (Df B I.dR he ro) λl kvs y=>y.1▸XK I y.2 (f:=V.dy) (λ_ _ r=>r) (VR.key ha q.2.1).1 q.2.2
 ·exact ao.aQ λa ha=>ao.no (σ:=σ)
theorem Zg(I:bg G c g σ env m s)(ro:VR G s.heap g o u)(r:VR G s.heap g v w):ao (cU G) G c env g m s (M.aQ o.lh (λs=>.aQ v.lh λt=>.eD (t=[32]/\s.length<=bZ)<| .ok<| .p<| .str<|d9 s) σ) (call (bv "str.rstrip") [u,w]):=
 ao.aQ λt ht=>ao.aQ λt2 h2=>ao.eD λhl=>ao.ok I λQ E k=>(ro.str ht).2.elim λtk q=>q▸(r.str h2).2.elim λanO q2=>q2▸hl.1▸by
  refine call_gives VP (Aj s _ _) F.entry_str_rstrip (F.args_str_rstrip_2 _ _) (gives_str_rstrip_chars _ _ _ _)<|post_val_or_made (λ_=>fits_stripped _ _ _<|iK hl.2) λt' tk=>?_;have e:=OL t;unfold LK Wn at e;exact e▸k _ _ ⟨OM (ro.str ht).1,_,rfl⟩
theorem af8(I:bg G c g σ env m s)(ro:VR G s.heap g o u)(r:VR G s.heap g v w):ao (cU G) G c env g m s (M.aQ o.lh (λs=>.at λσ=>.aQ (jU σ v) λxs=>.aQ (G6 xs) λt=>.eD (s=[]/\t.length<=400000/\xs.length<=400000)<| .ok<| .p<| .str t) σ) (call (bv "str.join") [u,w]):=by
 refine ao.aQ λt ht=>ao.at<|ao.aQ λxs hx=>ao.aQ λt2 h2=>ao.eD λhl=>ao.ok I λQ E k=>(ro.str ht).2.elim λtk q=>q▸mY (pH I.dR hx r) λa its n y=>y.1▸hl.1▸(SJ h2 y.2.rs).elim λts j=>?_;have h2:ts.length<=400000:=by
  have:=CP j.ajR;rw[<-y.2.rs.length,cq]at this;exact this▸hl.2.2
 refine join_listW ⟨_,y.2.at_,rfl,_,rfl⟩ j.ajR (dc rt) ?_ λt' tk=>?_
 ·rw[JS,cq];exact bo (DY (j.eq▸hl.2.1) h2) (by decide)
 ·rw[show Wo (fM []) (ts.map fM)=fM t2 by unfold Wo;rw[aeJ,Jd,j.eq]]
  exact k _ _ ⟨j.ok,_,rfl⟩
noncomputable def Bo (k j:Nat):String:=match j with
 |0=>"list.append"
 |1=>match k with|0=>"list.pop"|_=>"dict.pop"
 |2=>"list.index"|3=>"dict.get"|4=>"str.rstrip"|_=>"str.join"
theorem SK(B:G.dB)(hO:c.Ok)(I:bg G c g σ env m s)(k j:Nat)(ro:VR G s.heap g o u)(rs:bR (VR G s.heap g) vs us):ao (cU G) G c env g m s (uW k j o vs σ) (call (.builtin<|Bo k j)<|u::us):=by
 rcases j with _|_|_|_|_|_|j
 ·exact ao.qH (t:=λus=>call (bv "list.append")<|u::us) rs λv w r=>Zf I ro r
 ·rcases k with _|k
  ·refine ao.aQ λn hn=>?_
   rcases vs with _|⟨_,_⟩
   ·exact rs.nil▸aiT I (ro.at hn)
   ·exact ao.no (σ:=σ)
  ·exact ao.aQ λn hn=>ao.qH (t:=λus=>call (bv "dict.pop")<|u::us) rs λv w r=>aiU B I (ro.at hn) r
 ·exact ao.qH (t:=λus=>call (bv "list.index")<|u::us) rs λv w r=>abP hO I ro r
 ·exact aiV B I ro rs
 ·exact ao.qH (t:=λus=>call (bv "str.rstrip")<|u::us) rs λv w r=>Zg I ro r
 ·exact ao.qH (t:=λus=>call (bv "str.join")<|u::us) rs λv w r=>af8 I ro r
 ·exact ao.no (σ:=σ)
end
section
set_option tactic.hygienic true
structure po(N:tH):Prop where
 append:nm N.append="append"
 EG:nm N.EG="pop"
 xq:nm N.xq="index"
 kM:nm N.kM="get"
 AY:nm N.AY="rstrip"
 join:nm N.join="join"
theorem mQ{K A:Type}[DecidableEq K]{k:K}{v:A}:∀{es:List (K×A)},av es k=aa v->(k,v)∈es:=@lr _ _
 (@λe=>cV e)
 (@pr _ _ _ (λj w es ih=>@λe=>by
  rw[Bd]at e;by_cases q:j=k
  ·rw[if_pos q]at e
   exact dU.mpr<|az<|Prod.ext q.symm (cP e).symm
  ·rw[if_neg q]at e
   exact ey _<|ih e))
theorem iW{A B:Type}{a a':A}{b b':B}(e:(a,b)=(a',b')):a=a'/\b=b':=⟨congrArg oW e,congrArg Er e⟩
section
variable{env:bS}{m:Env}
def nA(G:GG)(u:au):Prop:=∀h:bX,G.K.In h->∃k,(k=Keeper.frame\/k=Keeper.machine\/k=Keeper.boundFrame)/\gw (bh G.prog G.w) h (keeperOf u) k
theorem nA.builtin{id:String}:nA G (.builtin id):=λh _=>(b0 .machine (aX<|az rfl) Wc)
theorem nA.type{id:String}:nA G (aJ id):=λh _=>(b0 .machine (aX<|az rfl) Wc)
theorem nA.ahD{u:au}(e:uR G.K u=ag):nA G u:=λh X=>keeps_K e h X
theorem gm{pos:ca}:∀{l:List bA},l.all eE=ag->(iY pos<|hY l env).any (·.1)=ak:=@lr _ _
 (@λ_=>rf)
 (λe l ih=>@λh=>by
  rw[eO<|aq h];exact ih<|aO h)
theorem xZ{pos:ca}:∀{l:List bA},l.all eE=ag->(iY pos<|hY l env).all (!·.1)=ag:=@lr _ _
 (@λ_=>rt)
 (λe l ih=>@λh=>by
  rw[eO<|aq h];exact ih<|aO h)
theorem ix{M:iy}{E:au->aY->Prop}{f:au}{args:List (Bool×fv au)}{Q:Args->aY->Prop}(hp:args.any (·.1)=ak)(h:bw M A (nK args) (λvs aH=>Q ⟨vs,[]⟩ aH) E s):bw M A (evalArgs f ag args []) Q E s:=by
 induction args using cZ with
 |nil=>exact aR<|oG h (λvs aH eY=>aR<|bO<|fE<|aR<|bO<|aR<|bO<|bO eY) λ_ _ x=>x
 |cons a r=>
  obtain ⟨b,t⟩:=a;induction b using fe with
  |true=>exact rT hp
  |false=>exact aR<|oG h (λvs aH eY=>aR<|bO<|fE<|aR<|bO<|aR<|bO<|bO eY) λ_ _ x=>x
def FQ(G:GG)(c:Cn)(pG:V->List V->M V):Prop:=∀(env:bS)(m:Env)(g:Gh)(σ:H)(s:aY)(f:V)(vs:List V)(u:au)(us:List au),bg G c g σ env m s->VR G s.heap g f u->bR (VR G s.heap g) vs us->
 (∀Qv Ev,pG f vs σ Qv Ev->nA G u)/\ao (cU G) G c env g m s (pG f vs σ) (call u us)
theorem t9(B:G.dB){pG:List V->M V}{u:au}{al8:List au}{l:List bA}{pos:ca}(hl:l.all eE=ag)(hc:∀aF aH aP vs us,bg G c aP aF env m aH->eJ s.heap g aH.heap aP->bR (VR G aH.heap aP) vs us->(∀Qv Ev,pG vs aF Qv Ev->nA G u)/\ao (cU G) G c env aP m aH (pG vs aF) (call u<|al8++us))(ha:ao (Su G n) G c env g m s (xs σ)<|nK<|iY pos<|hY l env):ao (cU G) G c env g m s (M.bind xs pG σ) (KD pos u al8 (iY pos<|hY l env) []):=λQv Ev z Q E q e=>by
 by_cases hk:nA G u
 ·exact Ei (by refine ah (gm hl) ?_;rfl) hk<|ix (gm hl)<|ha.seq z e λvs aF aH aP us eT aU b6 cX mw=>⟨B.jh aU,(hc aF aH aP vs us aU b6 cX.1).2 Qv Ev eT Q E (q.ext b6) mw⟩
 ·unfold KD
  exact aR<|fE<|ix (gm hl)<|ha.seq z e λvs aF aH aP us eT aU b6 cX mw=>absurd ((hc aF aH aP vs us aU b6 cX.1).1 Qv Ev eT) hk
theorem yJ{f:bA}(h:Gn f=ag)(l:List bA)(pos:ca):bq (.Call f l [] pos) env=(do KD pos (<-bq f env) [] (iY pos<|hY l env) []):=by
 induction f using nV<;>first|rfl|exact dC h
theorem abQ(B:G.dB)(hc:FQ G c pG){x:M V}{f:bA}{l:List bA}{pos:ca}(hf:Gn f=ag)(hl:l.all eE=ag)(hx:ao (cU G) G c env g m s (x σ)<|bq f env)(ha:∀aF aH aP,bg G c aP aF env m aH->ao (Su G n) G c env aP m aH (xs aF) (nK<|iY pos<|hY l env)):ao (cU G) G c env g m s (M.bind x (λg=>M.bind xs<|pG g) σ) (bq (.Call f l [] pos) env):=by
 rw[yJ hf];exact ao.bind hx λf' aF aH aP u aU b6 cX=>t9 B hl (λdh da dL vs us cF di gk=>hc env m dL dh da f' vs u us cF (cX.ext di) gk)<|ha aF aH aP aU
theorem FT{o:bA}{name:bB}{pos:ca}{l:List bA}(hb:n0 o=ag):bq (.Call (d3 o name apos) l [] pos) env=(do
 let ov <-bq o env
 fk apos.atName
 Kr o name apos pos env ov (l.length+0) (iY pos<|hY l env) []):=by
 cases o<;>first|rfl|(rename_i f _ _ _;induction f using nV<;>first|rfl|exact dC hb)
section
variable{pl:fv Bool}{E:au->aY->Prop}{Q:au×List au->aY->Prop}{u:au}{i:Nat}
theorem abR{M:iy}(hN:po N){a:bj}{its:Array au}(g:s.heap.get? a=aa (gv its n))(hm:(i,j)∈[(N.append,0),(N.EG,1),(N.xq,2)])(q:Q (.builtin<|Bo 0 j,[ai a]) s):bw M A (uF (ai a) (nm i) pl) Q E s:=by
 have hT:s.TypeIs (ai a) "list":=⟨_,g,rfl⟩
 have hd:∀b,(jX a)=ai b->∃o,s.heap.get? b=aa o/\o.dict=aj:=λb e=>(b0 _ (Ez e▸g) rn)
 rcases dU.mp hm with e|hm
 ·refine ah ((iW e).1)<|ah hN.append ?_;replace q:=((iW e).2)▸q
  exact Ae hT Lv VN F.type_list_append hd q
 ·rcases dU.mp hm with e|hm
  ·refine ah ((iW e).1)<|ah hN.EG ?_;replace q:=((iW e).2)▸q
   exact Ae hT Lv VU F.type_list_pop hd q
  ·have e:=fq.mp hm
   refine ah ((iW e).1)<|ah hN.xq ?_;rw[(iW e).2]at q;exact Ae hT Lv VO F.type_list_index hd q
theorem Qg{M:iy}(hN:po N){a:bj}{f:bV->Option au}(g:s.heap.MapOf G.kk a f)(hm:(i,j)∈[(N.EG,1),(N.kM,3)])(q:Q (.builtin<|Bo 1 j,[ai a]) s):bw M A (uF (ai a) (nm i) pl) Q E s:=by
 rcases dU.mp hm with e|hm
 ·refine ah ((iW e).1)<|ah hN.EG ?_;replace q:=((iW e).2)▸q
  exact Ae g.typeIs VQ VV F.type_dict_pop g.noDict q
 ·have e:=fq.mp hm
  refine ah ((iW e).1)<|ah hN.kM ?_;rw[(iW e).2]at q;exact Ae g.typeIs VQ Lx F.type_dict_get g.noDict q
theorem Zh{M:iy}(hN:po N){t:bB}{tk:kL}(hm:(i,j)∈[(N.AY,4),(N.join,5)])(q:Q (.builtin<|Bo 2 j,[.str t tk]) s):bw M A (uF (.str t tk) (nm i) pl) Q E s:=by
 rcases dU.mp hm with e|hm
 ·refine ah ((iW e).1)<|ah hN.AY ?_;replace q:=((iW e).2)▸q
  have q:Q (bv "str.rstrip",[.str t tk]) s:=q;with_reducible exact GM.of _ (Aj _ _ _) VP F.type_str_rstrip WI q
 ·have e:=fq.mp hm
  refine ah ((iW e).1)<|ah hN.join ?_;rw[(iW e).2]at q;have q:Q (bv "str.join",[.str t tk]) s:=q;with_reducible exact GM.of _ (Aj _ _ _) F.slot_str_join F.type_str_join WI q
end
theorem BH{l:List (Nat×Nat)}{k i:Nat}{x:MK}(e:Pq l k i=aa x):∃j,(i,j)∈l/\x=.bi k j:=(lM.mp e).elim λj q=>(b0 j (mQ q.1) q.2.symm)
def MK.fn(u:au):MK->au| .cY a=>ai a| .bi k j=>.builtin<|Bo k j
theorem abS(B:G.dB)(T:iU G)(hN:po N)(I:bg G c g σ env m s){x:V}{u:au}(rx:VR G s.heap g x u){i:Nat}{k:MK}(hk:iI G.T N x i σ=aa k){pl:fv Bool}{E:au->aY->Prop}{Q:au×List au->aY->Prop}(q:(∀a,k=.cY a->(G.T.fn a).isSome=ag)->Q (k.fn u,[u]) s):bw (bh G.prog G.w) c.A (uF u (nm i) pl) Q E s:=by
 unfold iI at hk;refine od (x.lh) (λt q1=>?_) λq1=>?_
 ·rw[q1]at hk;exact (BH hk).elim λj w=>(rx.str q1).2.elim λtk e=>e▸Zh hN w.1 (by rw[e,w.2]at q;exact q λa e=>by contradiction)
 ·
  rw[q1]at hk;refine od (jU σ x) (λxs q2=>?_) λq2=>?_
  ·replace hk:=q2▸hk;exact (BH hk).elim λj w=>mY (pH I.dR q2 rx) λa its n y=>y.1▸abR hN y.2.at_ w.1 (by rw[y.1,w.2]at q;exact q λa e=>by contradiction)
  ·
   rw[q2]at hk;refine od (ng ((qF σ x).map λ_=>())<|(yh σ x).map λ_=>()) (λw q3=>?_) λq3=>?_
   ·
    rw[q3]at hk;refine (BH hk).elim λj w=>(tz q3).elim (λe=>(lM.mp e).elim λes e=>(zC B I.dR e.1 rx).elim λa y=>y.elim λits y=>y.1▸Qg hN (DictOf.sf y.2.at_) w.1 (by rw[y.1,w.2]at q;exact q λa e=>by cases e))
     λe=>(lM.mp e).elim λes e=>(Df B I.dR e.1 rx).elim λa y=>y.elim λits y=>y.1▸Qg hN (DictOf.sf y.2.at_) w.1 (by rw[y.1,w.2]at q;exact q λa e=>by cases e)
   ·
    rw[q3]at hk;refine oc ((x.slot.bind<|aW σ).bind O.EE) (λq4=>?_) λcf q4=>?_
    ·rw[q4]at hk;exact cV hk
    ·
     rw[q4]at hk;replace hk:(match G.T.cls cf.1 with
      |some d=>match d.d5||(av cf.2 i).isSome with
       |true=>aj
       |false=>match av d.tG i with
        |some a=>match (G.T.fn a).isSome with|true=>aa (.cY a)|false=>aj
        |none=>aj
      |none=>aj)=aa k:=hk
     refine oc (G.T.cls cf.1) (λq5=>?_) λd q5=>?_
     ·rw[q5]at hk;exact cV hk
     ·
      rw[q5]at hk;replace hk:(match d.d5||(av cf.2 i).isSome with
       |true=>aj
       |false=>match av d.tG i with
        |some a=>match (G.T.fn a).isSome with|true=>aa (.cY a)|false=>aj
        |none=>aj)=aa k:=hk
      refine bc (d.d5||(av cf.2 i).isSome) (λq6=>?_) λq6=>?_
      ·rw[q6]at hk;exact cV hk
      ·
       rw[q6]at hk;replace hk:(match av d.tG i with
        |some a=>match (G.T.fn a).isSome with|true=>aa (.cY a)|false=>aj
        |none=>aj)=aa k:=hk
       refine oc (av d.tG i) (λq7=>?_) λa q7=>?_
       ·rw[q7]at hk;exact cV hk
       ·
        rw[q7]at hk;replace hk:(match (G.T.fn a).isSome with|true=>aa (MK.cY a)|false=>aj)=aa k:=hk;refine bd ((G.T.fn a).isSome) (λq8=>?_) λq8=>?_
        ·rw[q8]at hk;exact cV hk
        ·
         rw[q8]at hk;obtain rfl:=fh hk;refine (cR q4).elim λo w=>(cR w.1).elim λn w'=>(I.dR.ref (rx.at w'.1) (w'.2.trans<|congrArg aa<|O.IY w.2) (λe=>by contradiction) λe=>by contradiction).elim λp y=>y.1▸eZ (BX.iF y.2.2 rfl rfl rt) λgB kk J=>?_;have ga:=(T _ _ q5).ga;rw[(xb.mp q6).1]at ga;refine method_fn (B.jh I) J.1 ga (T _ _ q5).gh ((T _ _ q5).vg _ _<|mQ q7).1 ((T _ _ q5).vg _ _<|mQ q7).2.1 ?_ (by rw[y.1]at q;exact q λa' e=>by cases e;exact q8);show (sB (nm i)<|lQ gB kk).map _=_;rw[FR.YY J.2.2<|Ue.mp<|ah (xb.mp q6).2<|Bool.false_ne_true];rfl
def aad(G:GG):Prop:=∀a F,G.T.fn a=aa F->(G.K.lookup a).any uj=ag
theorem abT(B:G.dB)(hO:c.Ok)(T:iU G)(TF:aad G)(hN:po N)(hc:FQ G c pG){x:M V}{o:bA}{i:Nat}{pos:ca}{l:List bA}(hb:n0 o=ag)(R4:(apos.endLine==pos.line)=ag)(hlen:l.length<=20)(hl:l.all eE=ag)(hx:ao (cU G) G c env g m s (x σ)<|bq o env)(ha:∀aF aH aP,bg G c aP aF env m aH->ao (Su G n) G c env aP m aH (xs aF) (nK<|iY pos<|hY l env)):ao (cU G) G c env g m s (M.bind x (λx=>.at λσ=>.aQ (iI G.T N x i σ) λk=>.bind xs λvs=>match k with| .cY a=>pG (.p<| .fn a) (x::vs)| .bi k j=>uW k j x vs) σ) (bq (.Call (d3 o (nm i) apos) l [] pos) env):=by
 refine ah (FT hb)<|ao.bind hx λa aF aH aP u aU b6 cX=>ao.at_ ?_;have anc:DD (l.length+0) (iY pos<|hY l env) []=ag:=by
  unfold DD;refine ah (xZ hl) ?_;simp;exact dj (.a (.v 0)<| .n 1) (.n 30) [(1,.v 0,.n 20)] rt hlen
 unfold Kr
 refine ah anc<|ah (show DG ag o env apos pos=pure pos by unfold DG;refine ah R4 ?_;rfl) ?_
 refine ao.at<|ao.aQ λk hk Qv Ev z Q E q e=>aR<|fE<|abS B T hN aU cX hk λhf=>aR<|bO ?_
 cases k with
 |bi kk j=>exact t9 B hl (λdh da dL vs us cF di gk=>⟨λ_ _ _=>nA.builtin,SK B hO cF kk j (cX.ext di) gk⟩) (ha aF aH aP aU) Qv Ev z Q E q e
 |cY f=>
  have ⟨Fd,ane⟩:=m6.mp<|hf f rfl;exact t9 (pG:=λvs=>pG (.p<| .fn f)<|a::vs) B hl (λdh da dL vs us cF di gk=>hc env m dL dh da (.p<| .fn f) (a::vs) (ai f) (u::us) cF ⟨rfl,TF f Fd ane⟩ ⟨cX.ext di,gk⟩) (ha aF aH aP aU) Qv Ev z Q E q e
end
end
section
variable{env:bS}{m:Env}{L:Nat->Prop}
theorem mE{b:Bool}(e:(!b)=ag):b=ak:=by induction b using fe with|false=>rfl|true=>exact dC e
theorem pR{n:bB}(e:mJ n=ag):(n==("__debug__":bB))=ak/\(n==("__classdict__":bB))=ak:=⟨mE<|aq e,mE<|aO e⟩
theorem VR.g7{u:au}(r:VR G h g v u):VR G h g v.g7 u:=by induction v using V.casesOn<;>exact r
def aae(env:bS)(n:bB):Prop:=env.kindOf n=aa .local\/env.kindOf n=aa .cell\/env.kindOf n=aa .free
theorem abU(I:bg G c g σ env m s){i:Nat}{p:ca}(hv:aae env<|nm i)(hd:mJ (nm i)=ag):ao (cU G) G c env g m s (M.aQ (av m i) (λv=>.ok v.g7) σ) (bq (aK (nm i) p) env):=
 ao.aQ λv hm Qv Ev z Q E q e=>UW (hv.elim (λhk=>I.br.ns.elim λmr n=>(n.2 i v hm hk).elim λu w=>J8 I.br.kind hk n.1 w.1<|q _ _ _ _ _ z I eJ.refl w.2.g7) λhk=>hk.elim
  (λhk=>(I.br.n4 i v hm<|az hk).elim λy w=>w.elim λu w=>Um I.br.kind hk w.1 w.2.1<|q _ _ _ _ _ z I eJ.refl w.2.2.g7)
  λhk=>(I.br.n4 i v hm<|aX hk).elim λy w=>w.elim λu w=>Un I.br.kind hk w.1 w.2.1 (q _ _ _ _ _ z I eJ.refl w.2.2.g7) (pR hd).2) (pR hd).1
def FU(G:GG):Prop:=∀i v,G.T.fy i=aa v->∃u,(∀mg mb,G.h₀.Ns jz mg->G.h₀.Ns kX mb->(∀x:bB,x≠"__name__"->mb x=uD x)->mg (nm i)=aa u\/(mg (nm i)=aj/\mb (nm i)=aa u))/\
 ∀h F,(∀b o,G.h₀.get? b=aa o->h.get? b=aa o)->(∀b o,G.h₀.get? b=aa o->F b)->PR G h F v u
theorem abV(B:G.dB)(T:FU G)(I:bg G c g σ env m s){i:Nat}{p:ca}(hv:env.kindOf (nm i)=aa .globalImplicit)(hd:mJ (nm i)=ag):ao (cU G) G c env g m s (M.aQ (G.T.fy i) (λv=>.ok<| .p v) σ) (bq (aK (nm i) p) env):=
 ao.aQ λv hm Qv Ev z Q E q e=>(T i v hm).elim λu w=>B.alX.elim λmg t=>t.elim λmb t=>
  have fin:Q u s:=q _ _ _ _ _ z I eJ.refl (w.2 s.heap g.F I.keep I.y6)
  VX I.br.kind hv ((w.1 mg mb t.1 t.2.1 t.2.2).elim (λq=>VZ (by rw[I.br.fy];exact t.1.keeps I.keep) q fin)
   λq=>VY (by rw[I.br.fy];exact t.1.keeps I.keep) q.1 (ah I.br.pQ<|t.2.1.keeps I.keep) q.2 fin) (pR hd).1
theorem SN(I:bg G c g σ env m s){i:Int}{k:_}{p:ca}:ao (cU G) G c env g m s (M.ok (.p<| .int i) σ) (bq (.Constant (.int i) k p) env):=ao.ok I λQ E h=>wpAny_Constant_int<|h _ _ ⟨_,rfl⟩
theorem SO(I:bg G c g σ env m s){t:Tx}(o:sd t=ag){k:_}{p:ca}:ao (cU G) G c env g m s (M.ok (.p<| .str t) σ) (bq (.Constant (.str<|fM t) k p) env):=ao.ok I λQ E h=>wpAny_Constant_str<|h _ _ ⟨o,_,rfl⟩
theorem OQ(I:bg G c g σ env m s){k:_}{p:ca}:ao (cU G) G c env g m s (M.ok (.p .none) σ) (bq (.Constant .none k p) env):=ao.ok I λQ E h=>wpAny_Constant_none<|h _ s.toks rfl
theorem OS(I:bg G c g σ env m s){b:Bool}{k:_}{p:ca}:ao (cU G) G c env g m s (M.ok (.p<| .bool b) σ) (bq (.Constant (.bool b) k p) env):=ao.ok I λQ E h=>wpAny_Constant_bool<|h _ s.toks rfl
structure gR(L:Nat->Prop)(env:bS)(h:bX)(g:Gh)(h':bX)(g':Gh):Prop where
 keep:∀b o,h.get? b=aa o->¬jg g.ρ b->¬qW o->¬wb env b->∃sl,h'.get? b=aa {o with slots:=sl}/\(o.cls≠aJ "frame"->sl=o.slots)
 cY:∀b o,h.get? b=aa o->wb env b->∃o',h'.get? b=aa o'/\o'.cls=o.cls
 ji:lH h g.F h' g'.F
 rA:∀n st,g.ρ n=aa st->L n->g'.ρ n=aa st\/g'.ρ n=aa aj
 fresh:∀b,jg g'.ρ b\/g'.F b->(jg g.ρ b\/g.F b)\/h.get? b=aj
 jW:∀b o,h.get? b=aa o->∃o',h'.get? b=aa o'
theorem gR.refl:gR L env h g h g:=⟨λb o e _ _ _=>(b0 o.slots e λ_=>rfl),λb o e _=>(b0 o e rfl),λ_ _ f e=>⟨f,e⟩,λ_ _ e _=>az e,λ_ f=>az f,λ_ o e=>⟨o,e⟩⟩
theorem gR.trans(x:gR L env eY aP l4 dL)(y:gR L env l4 dL zX lG):gR L env eY aP zX lG where
 keep:=λb o e nf nt no=>by
  by_cases f:aP.F b
  ·have f2:=x.ji b o f e
   exact (b0 o.slots (y.ji b o f2.1 f2.2).2 λ_=>rfl)
  ·exact (x.keep b o e nf nt no).elim λsl w=>(y.keep b _ w.1 (λq=>(x.fresh b<|az q).elim (λq=>q.elim nf f) λq=>by rw[q]at e;exact cV e) nt no).elim λafQ w'=>(b0 afQ w'.1 λq=>(w'.2 q).trans<|w.2 q)
 cY:=λb o e w=>(x.cY b o e w).elim λo' q=>(y.cY b o' q.1 w).elim λajS q'=>(b0 ajS q'.1<|q'.2.trans q.2)
 ji:=λb o f e=>y.ji b o (x.ji b o f e).1 (x.ji b o f e).2
 rA:=λn st e l=>(x.rA n st e l).elim (λe=>y.rA n st e l) λe=>aX ((y.rA n _ e l).elim id id)
 fresh:=λb f=>(y.fresh b f).elim (x.fresh b) λq=>aX (by
  cases e:eY.get? b with
  |none=>rfl
  |some o=>exact (x.jW b o e).elim λo' e'=>by rw[q]at e';exact cV e')
 jW:=λb o e=>(x.jW b o e).elim λo' e'=>y.jW b o' e'
theorem eJ.l(x:eJ h g h' g')(w:fV G h g env m):gR L env h g h' g' where
 keep:=λb o e nf nt _=>x.keep b o e nf nt
 cY:=λb o e q=>(w.vr q).elim λo' q'=>(x.keep b o e (λf=>(w.cY b q).1.2<|az f)<|(cP<|e.symm.trans q'.1)▸q'.2).elim λsl e'=>(b0 _ e'.1 rfl)
 ji:=x.ji
 rA:=λn st e _=>x.rA n st e
 fresh:=x.fresh
 jW:=x.jW
theorem mx{A:Type}{v:A}{i:Nat}:∀{m:List (Nat×A)}(j:Nat),av (aN m i v) j=if i=j then aa v else av m j:=@lr _ _
 (@λj=>rfl)
 (@pr _ _ _ (λk w m ih=>@λj=>by
  rw[EL];by_cases q:k=i
  ·rw[if_pos q]
   show (if i=j then aa v else av m j)=if i=j then aa v else if k=j then aa w else av m j
   refine ah q ?_;by_cases z:i=j
   ·refine ah (if_pos z)<|ah (if_pos z) ?_;rfl
   ·refine ah (if_neg z)<|ah (if_neg z)<|ah (if_neg z) ?_;rfl
  ·rw[if_neg q]
   show (if k=j then aa w else av (aN m i v) j)=if i=j then aa v else if k=j then aa w else av m j
   refine ah (ih j) ?_;by_cases z:k=j
   ·refine ah (if_pos z)<|ah (if_pos z)<|ah (if_neg λw=>q<|z.trans w.symm) ?_;rfl
   ·rw[if_neg z,if_neg z]))
structure jT(env:bS)(h h':bX):Prop where
 jx:∀b,¬wb env b->h'.get? b=h.get? b
 cY:∀b o,h.get? b=aa o->wb env b->∃o',h'.get? b=aa o'/\o'.cls=o.cls/\∀ts,o'.data≠.fields ts
theorem jT.my(k:jT env h h')(w:fV G h g env m):gR L env h g h' g where
 keep:=λb o e _ _ no=>(b0 o.slots ((k.jx b no).trans e) λ_=>rfl)
 cY:=λb o e q=>(k.cY b o e q).elim λo' q=>(b0 o' q.1 q.2.1)
 ji:=λb o f e=>⟨f,(k.jx b λq=>(w.cY b q).1.2<|aX f).trans e⟩
 rA:=λ_ _ e _=>az e
 fresh:=λ_ f=>az f
 jW:=λb o e=>by
  by_cases q:wb env b
  ·exact (k.cY b o e q).elim λo' e'=>⟨o',e'.1⟩
  ·exact ⟨o,(k.jx b q).trans e⟩
theorem bg.vL(I:bg G c g σ env m s)(k:jT env s.heap h')(e':fV G h' g env m')(ht:∀i n,av m' i=aa (.tm n)->¬c.lk n):bg G c g σ env m' {s with heap:=h',toks:=tk}:=by
 have x:gR c.lk env s.heap g h' g:=k.my I.br;refine ⟨λb o e=>(k.jx b λq=>by rw[(I.br.cY b q).2]at e;exact cV e).trans<|I.keep b o e,I.dR.jx x.ji (λb f=>k.jx b λq=>(λq=>(I.br.cY _ q).1.2) q<|az f) (λT t=>?_) λb f=>⟨(I.dR.fz b f).1,(I.dR.fz b f).2.elim λo e=>x.jW b o e⟩,e',?_,λe he F hF=>?_,I.jS,I.lk,ht,I.gens,I.os,I.drawn,I.y6⟩
 ·exact acG t.out λoT ts e hc hd r=>⟨oT,ts,(k.jx T λq=>(I.br.vr q).elim λo w=>w.2<|(cP<|w.1.symm.trans e)▸⟨hc,ts,hd⟩).trans e,hc,hd,r⟩
 ·have:∀{l:List bS},s.heap.FunFrames G.h₀ l->h'.FunFrames G.h₀ l:=λ{l}=>by
   induction l with
   |nil=>exact λ_=>trivial
   |cons e0 rest ih=>
    rintro ⟨hk,⟨F,o,hf,hn,ho,hd⟩,hr⟩;refine ⟨hk,⟨F,?_⟩,ih hr⟩;by_cases q:wb env F
    ·exact (k.cY F o ho q).elim λo' w=>(ajj o' hf hn w.1 λts z=>absurd z<|w.2.2 ts)
    ·exact (ajj o hf hn ((k.jx F q).trans ho) hd)
  exact this I.frames
 ·obtain ⟨p,o,eo,kc⟩:=I.tu e he F hF
  by_cases q:wb env F
  ·exact (k.cY F o eo q).elim λo' w=>⟨⟨⟨o',w.1⟩,p.2⟩,o',w.1,w.2.1.trans kc⟩
  ·have e':=(k.jx F q).trans eo
   exact ⟨⟨⟨o,e'⟩,p.2⟩,o,e',kc⟩
theorem HM{cs:List (bB×bj)}(hp:cs.Pairwise λx y=>x.2≠y.2){x y:bB}{a:bj}(hx:cs.lookup x=aa a)(hy:cs.lookup y=aa a):x=y:=name_of_addr hp (qc hx)<|qc hy
theorem ajT{P:Prop}{a b:uI}(h:a=b)(n:dk a.ctorIdx b.ctorIdx=ak):P:=dC<|n.symm.trans<|h▸sw _
theorem FV{o o':cC}(e:h.get? b=aa o)(e':h.get? b=aa o'):o=o':=cP<|e.symm.trans e'
theorem fV.adm(e:fV G h g env m):∃o es ep,h.get? env.locals=aa o/\o.data=.dict es ep:=e.ns.elim λmr n=>n.1.elim λo w=>w.elim λes w=>w.elim λep w=>(ae0 o es ep w.1 w.2.1)
theorem fV.adn{P:Prop}(e:fV G h g env m)(q:wb env b){o:cC}(ho:h.get? b=aa o){ts:Array au}(z:o.data=.fields ts):P:=
 q.elim (λq=>xn e.adm λo' es ep e2 d2=>ajT (d2.symm.trans<|(congrArg Ly<|FV (q▸e2) ho).trans z) rf)
  λq=>q.elim λx q=>lK (e.cells x b q) λov o' e' d=>ajT (d.symm.trans<|(congrArg Ly<|FV e' ho).trans z) rf
theorem fV.qY(e:fV G h g env m){x:bB}{a:bj}(q:env.cells.lookup x=aa a):a≠env.locals:=λw=>
 lK (e.cells x a q) λov o e1 d1=>xn e.adm λo' es ep e2 d2=>ajT (d1.symm.trans<|(congrArg Ly<|FV (w▸e1) e2).trans d2) rf
theorem Qh(eo:fV G h g env m){a:bj}(qa:wb env a)(hs:∀b,b≠a->h'.get? b=h.get? b)(hc:∀o,h.get? a=aa o->∃o',h'.get? a=aa o'/\o'.cls=o.cls/\∀ts,o'.data≠.fields ts):jT env h h':=
 ⟨λb nb=>hs b λq=>nb<|q▸qa,λb o e q=>(sD<|b=a).elim (λw=>w▸hc o (w▸e)) λw=>(tc o ((hs b w).trans e) rfl λts=>eo.adn q e)⟩
end
section
variable{env:bS}{m:Env}{L:Nat->Prop}
theorem af9(name:bB)(t:kL)(y:bB):(Ek name t).isStr y=decide (y=name):=by
 exact AL.mpr<|beq_iff_eq.trans<|eq_comm.trans decide_eq_true_iff.symm
theorem OT{c:au}{sl:Array (Option au)}(hk:DP es)(name:bB)(hh:Int)(t:kL)(v:au):∃v9 n',sC name hh (.str name t) v ⟨c,d,.dict es ep,sl⟩=⟨c,d,.dict v9 n',sl⟩/\DP v9/\∀x,Au v9 x=if x=name then aa v else Au es x:=ah Obj.putName_eq<|oc (es.findIdx? (·.key.isStr name)) (λhi=>(gZ (es.push ⟨hh,.str name t,v⟩) (ep+1) (by dsimp only[V1];refine ah hi ?_;rfl) (hk.push _ _ _ _) λx=>findBy_push (λn v=>v.isStr n) es name x _ _ v (af9 name t) hi))
 λi hi=>(gZ _ ep (by dsimp only[V1];refine ah hi ?_;rfl) (hk.modify _ _) λx=>findBy_modify (λn v=>v.isStr n) Value.isStr_inj es name x v i hi)
theorem JT(hk:DP es):es.any (·.refKey)=ak:=Array.any_eq_false'.mpr λe he=>eZ (hk e he) λn t h=>by unfold aeW;exact ah h<|dC
theorem HN{M:iy}{a:bj}{v:au}{Q:Unit->aY->Prop}(hn:s.heap.Ns a mr)(h:∀h',h'.Ns a (λx=>if x=name then aa v else mr x)->Eg a s.heap h'->(∀o,s.heap.get? a=aa o->∃o',h'.get? a=aa o'/\o'.cls=o.cls/\∀ts,o'.data≠.fields ts)->Q () {s with heap:=h',toks:=s.toks+1}):bw M A (nsSet a name v) Q E s:=by
 obtain ⟨⟨c,d,_,sl⟩,es,ep,ho,rfl,hk,hm⟩:=hn;refine aR<|aR<|Uu<|bO<|aR<|DJ<|aR<|Af ho ?_;show bw _ _ (ite _ _ _) _ _ _;rw[Ug,JT hk,Bool.and_false];have fin:=λhh=>oi (OT hk name hh s.toks v) λv9 n' e sk fb=>by
  have g:=(nT _ ho<|by refine ah e ?_;rfl).trans<|congrArg aa e;exact h _ ⟨_,v9,n',g,rfl,sk,λx=>(fb x).trans<|by rw[hm]⟩ (Wt ..) λSP wB=>(tc _ g (show c=SP.cls from congrArg V4 (cP<|ho.symm.trans wB)) λts q=>by cases q)
 exact Ka ho<|fin _
theorem XM(I:bg G c g σ env m s)(ht:∀n,v=.tm n->¬c.lk n):∀j n,av (aN m i v) j=aa (.tm n)->¬c.lk n:=λj n e=>by
 rw[mx]at e;by_cases q:i=j
 ·rw[if_pos q]at e;exact ht n<|cP e
 ·rw[if_neg q]at e;exact I.tm j n e
theorem qZ(q:i≠j):av (aN m i v) j=av m j:=by rw[mx,if_neg q]
theorem Je(e:av (aN m i v) i=aa w):w=v:=by rw[mx,if_pos rfl]at e;exact (cP e).symm
theorem n6(z:h.IsCell a ov)(k:h'.get? a=h.get? a):h'.IsCell a ov:=z.elim λo q=>⟨o,k.trans q.1,q.2⟩
theorem zh(I:bg G c g σ env m s){i:Nat}(r:VR G s.heap g v u)(ht:∀n,v=.tm n->¬c.lk n)(hk:env.kindOf (nm i)=aa .local){Q:Unit->aY->Prop}{E:au->aY->Prop}(z:∀s',bg G c g σ env (aN m i v) s'->jT env s.heap s'.heap->Eg env.locals s.heap s'.heap->Q () s'):bw (bh G.prog G.w) c.A (wR env (nm i) u) Q E s:=by
 have eo:=I.br;rw[storeName_local hk<|by refine ah eo.kind ?_;rfl];refine eo.ns.elim λmr ns=>HN ns.1 λh' aas hs hc=>?_;have oc:=Qh eo (az rfl) hs.2 hc;have x:gR c.lk env s.heap g h' g:=oc.my eo;have mv:∀{w u},VR G s.heap g w u->VR G h' g w u:=λr=>r.bL x.ji λ_ _=>az;refine z _ (I.vL oc ⟨eo.kind,eo.fy,eo.pQ,(b0 _ aas λj w hj FW=>(sD<|i=j).elim (λq=>by subst q;exact (b0 u (if_pos rfl)<|mv<|Je hj▸r)) λq=>(ns.2 j w (qZ q▸hj) FW).elim λu' w=>(b0 u' ((if_neg λe=>q (u7 e).symm).trans w.1)<|mv w.2)),λb q=>⟨⟨(eo.cY b q).1.1.elim λo e=>x.jW b o e,(eo.cY b q).1.2⟩,(eo.cY b q).2⟩,λy a q=>(eo.cells y a q).elim λov z=>⟨ov,n6 z<|hs.2 a<|eo.qY q⟩,λj w hj FW=>?_,eo.qq,eo.apart⟩<|XM I ht) oc hs
 ·have q:i≠j:=λq=>FW.elim (λw=>by cases q;rw[hk]at w;nomatch w) λw=>by cases q;rw[hk]at w;nomatch w
  exact eZ (eo.n4 j w (qZ q▸hj) FW) λa u' y=>(gZ a u' y.1 (n6 y.2.1<|hs.2 a<|eo.qY y.1)<|mv y.2.2)
theorem CQ{v:au}(hk:env.scope.kind=b7)(hl:env.kindOf name=aa .cell):wR env name v=(DT env name>>=λa=>cellSet a<|aa v):=by
 unfold wR;refine ah hl<|ah hk ?_;rfl
theorem OU(I:bg G c g σ env m s){i:Nat}(r:VR G s.heap g v u)(ht:∀n,v=.tm n->¬c.lk n)(hk:env.kindOf (nm i)=aa .cell){Q:Unit->aY->Prop}{E:au->aY->Prop}(z:∀s',bg G c g σ env (aN m i v) s'->jT env s.heap s'.heap->Q () s'):bw (bh G.prog G.w) c.A (wR env (nm i) u) Q E s:=by
 have eo:=I.br;refine ah (CQ eo.kind hk)<|ue (m6.mp<|eo.qq (nm i)<|az hk) λa ha=>lK (eo.cells _ a ha) λov og gg dg=>aR<|wpAny_cellOf ha ?_;refine aR<|Kt gg ?_;refine dg▸UO gg ?_;have hu:(s.heap.update a λo=>{o with data:=.cell (aa u)}).get? a=aa {og with data:=.cell (aa u)}:=nT _ gg rf;have hs:∀b,b≠a->(s.heap.update a λo=>{o with data:=.cell (aa u)}).get? b=s.heap.get? b:=λb q=>mA _ _ q.symm;generalize (s.heap.update a λo=>{o with data:=.cell (aa u)})=h' at hu hs⊢;have oc:=Qh eo (aX ⟨_,ha⟩) hs λo e=>(tc _ hu (show og.cls=o.cls from congrArg V4 (FV gg e)) λts z=>by cases z)
 have x:gR c.lk env s.heap g h' g:=oc.my eo;have mv:∀{w u'},VR G s.heap g w u'->VR G h' g w u':=λr=>r.bL x.ji λ_ _=>az;refine z _ (I.vL oc ⟨eo.kind,eo.fy,eo.pQ,eo.ns.elim λmr ns=>(b0 mr (xn ns.1 λSP aiW aiX dL gk=>⟨SP,aiW,aiX,(hs _ (eo.qY ha).symm).trans dL,gk⟩) λj w hj FW=>?_),λb q=>⟨⟨(eo.cY b q).1.1.elim λo e=>x.jW b o e,(eo.cY b q).1.2⟩,(eo.cY b q).2⟩,λy b q=>?_,λj w hj FW=>?_,eo.qq,eo.apart⟩<|XM I ht) oc
 ·have q:i≠j:=λq=>by subst q;rw[hk]at FW;nomatch FW
  exact (ns.2 j w (qZ q▸hj) FW).elim λu' w=>(b0 u' w.1<|mv w.2)
 ·exact (sD<|b=a).elim (λw=>by cases w;exact ⟨_,⟨_,hu,rfl⟩⟩) λw=>(eo.cells y b q).elim λov z=>⟨ov,n6 z<|hs b w⟩
 ·exact (sD<|i=j).elim (λq=>by subst q;exact (gZ a u ha ⟨_,hu,rfl⟩<|mv<|Je hj▸r)) λq=>
   eZ (eo.n4 j w (qZ q▸hj) FW) λb u' y=>(gZ b u' y.1 (n6 y.2.1<|hs b λw=>q<|u7<|eo.apart _ _ _ ha<|w▸y.1)<|mv y.2.2)
theorem kh(I:bg G c g σ env m s){i:Nat}(r:VR G s.heap g v u)(ht:∀n,v=.tm n->¬c.lk n)(hk:env.kindOf (nm i)=aa .local\/env.kindOf (nm i)=aa .cell){Q:Unit->aY->Prop}{E:au->aY->Prop}(z:∀s',bg G c g σ env (aN m i v) s'->jT env s.heap s'.heap->Q () s'):bw (bh G.prog G.w) c.A (wR env (nm i) u) Q E s:=
 hk.elim (λhk=>zh I r ht hk λs' I' oc _=>z s' I' oc) λhk=>OU I r ht hk z
end
theorem Bp:∀{names:List bB}{lF:List α},lF.length=names.length->∀n∈names,((names.zip lF).lookup n).isSome=ag:=@lr _ _ (@λ_ _ _ h=>nomatch h) (λx r ih=>@λvs e n h=>by
 induction vs using cZ with
 |nil=>exact nomatch e
 |cons v vs=>
  refine bc (n==x) (λq=>?_) λq=>?_<;>rw[List.zip_cons_cons,ve,q]
  ·rfl
  ·exact ih (pA e) n<|(dU.mp h).resolve_left λz=>by rw[z,beq_self_eq_true]at q;exact dC q.symm)
theorem OV{x n:bB}{v:α}{lV:List (bB×α)}(h:n≠x)(hp:lV.lookup n=aj):(lV++[(x,v)]).lookup n=aj:=by
 refine ah Vi<|ah hp<|ah ve<|ah (beq_eq_false_iff_ne.mpr h) ?_;rfl
theorem Dv:∀{names:List bB}{lF:List α}(lV:List<|bB×α),lF.length=names.length->names.Nodup->(∀n∈names,lV.lookup n=aj)->names.filterMap (λn=>((lV++names.zip lF).lookup n).map (n,·))=names.zip lF:=@lr _ _ (@λ_ _ _ _ _=>rfl) (λx r ih=>@λvs lV e nd hp=>by
 induction vs using cZ with
 |nil=>exact nomatch e
 |cons v vs=>
  have e2:=ih (lV++[(x,v)]) (pA e) (w9.mp nd).2 λn hn=>OV (λq=>(w9.mp nd).1<|q▸hn)<|hp n<|ey _ hn;rw[de]at e2;exact (K6<|by refine ah (by rw[Vi,hp x<|eB _,ve,beq_self_eq_true];rfl:(lV++(x,v)::r.zip vs).lookup x=aa v) ?_;rfl).trans<|congrArg ((x,v)::·) e2)
theorem OW{M:iy}{E:au->aY->Prop}(f:α->β->fv (ForInStep β))(b:β){Q:β->aY->Prop}:∀(l:List α),(∀x∈l,f x b=pure (.yield b))->Q b s->bw M A (forIn l b f) Q E s:=@lr _ _
 (@λ_ h=>ah List.forIn_nil<|wpAny_pure h)
 (λx l ih=>@λhf h=>by
  rw[uN,hf x<|eB _];exact aR<|bO<|ih (λy hy=>hf y<|ey _ hy) h)
theorem ak2{o:Option α}(h:o.isSome=ag):o.isNone=ak:=by induction o using fA<;>first|rfl|exact dC h
theorem aga{a d:List Arg}{b:List Arg}{c f:Option Arg}{e:List (Option bA)}{g:List bA}(h1:a=[])(h3:c=aj)(h4:d=[])(h5:f=aj):(⟨a,b,c,d,e,f,g⟩:DM)=⟨[],b,aj,[],e,aj,g⟩:=by refine ah h1<|ah h3<|ah h4<|ah h5 ?_;rfl
theorem agb{p:DM}(h1:p.posonlyargs=[])(h3:p.vararg=aj)(h4:p.kwonlyargs=[])(h5:p.kwarg=aj):p=⟨[],p.args,aj,[],p.kw_defaults,aj,p.defaults⟩:=by cases p;exact aga h1 h3 h4 h5
theorem OX{anf qn:bB}{ar:List Arg}{kd:List (Option bA)}{df:List bA}{bd:FuncBody}{gl:bj}{cl:List (bB×bj)}{dv kv dc pm:au}{an:Option bj}{cd ct:au}{bs:bj}{names:List bB}{aQ:Option (Array au)}{p:DM}(hp:p=⟨[],ar,aj,[],kd,aj,df⟩)(hN:ar.map (·.arg)=names)(hd:∀(M:iy) (A:qx) (E:au->aY->Prop) (Q:Option (Array au)->aY->Prop),Q aQ s->bw M A (Ky dv) Q E s)(len:lF.length=names.length)(L:∀n∈names,((names.zip lF).lookup n).isNone=ak)(Z:names.filterMap (λn=>((names.zip lF).lookup n).map (n,·))=names.zip lF):As s ⟨anf,qn,p,bd,sc,gl,cl,dv,kv,dc,pm,an,cd,ct,bs⟩ ⟨lF,[]⟩ (names.zip lF):=by
 subst hp;subst hN;intro M A E Q hq;refine aR<|bO<|aR<|hd M A E _<|wn (λh=>absurd (of_decide_eq_true<|aq h)<|len▸Az _)<|wn (λh=>dC<|(congrArg (λl=>!List.isEmpty l)<|List.filter_eq_nil_iff.mpr λn hn=>L n (Vd hn)▸fF).symm.trans h)<|aR<|OW _ _ _ (λx hx=>if_neg<|L x.1 (Ve (Lh hx).1)▸fF) ?_
 ·refine aR<|bO<|bO ?_
  show Q (List.filterMap _<|ar.map _++[]) s;rw[fc];exact Z.symm▸hq
theorem Cc{names:List bB}{aQ:Option (Array au)}(h1:fd.params.posonlyargs=[])(h2:fd.params.args.map (·.arg)=names)(h3:fd.params.vararg=aj)(h4:fd.params.kwonlyargs=[])(h5:fd.params.kwarg=aj)(nd:names.Nodup)(hd:∀(M:iy) (A:qx) (E:au->aY->Prop) (Q:Option (Array au)->aY->Prop),Q aQ s->bw M A (Ky fd.defaults) Q E s)(len:lF.length=names.length):As s fd ⟨lF,[]⟩ (names.zip lF):=OX (agb h1 h3 h4 h5) h2 hd len (λn hn=>ak2<|Bp len n hn)<|Dv [] len nd λ_ _=>rn
theorem JU:∀(names:List<|bB×i6)(k:Nat)(acc:List<|bB×bj)(x:bB),names.lookup x=aa .cell\/(acc.lookup x).isSome=ag->((sn k names acc).lookup x).isSome=ag:=@lr _ _
 (@λ_ _ _ h=>h.elim ((cV)) id)
 (@pr _ _ _ (λname kind r ih=>@λk acc x h=>by
  unfold sn;rw[ve]at h;by_cases e:x==name
  ·rw[e]at h
   by_cases q:kind==Eh
   ·rw[if_pos q]
    exact ih _ _ x (aX<|by refine ah ve<|ah e ?_;rfl)
   ·rw[if_neg q]
    refine ih _ _ x<|aX<|h.resolve_left λw=>q ?_;refine ah (cP w) ?_;rfl
  ·rw[eq_false_of_ne_true e]at h
   by_cases q:kind==Eh
   ·rw[if_pos q]
    exact ih _ _ x<|h.imp id λw=>ah ve<|ah (eq_false_of_ne_true e)<|w
   ·rw[if_neg q]
    exact ih _ _ x h))
section
variable{env:bS}{m:Env}
theorem jT.refl(I:fV G h g env m):jT env h h:=⟨λ_ _=>rfl,λb o e q=>(tc o e rfl λts=>I.adn q e)⟩
theorem jT.trans(x:jT env eY l4)(y:jT env l4 zX):jT env eY zX:=⟨λb nb=>(y.jx b nb).trans<|x.jx b nb,λb o e q=>(x.cY b o e q).elim λo' w=>(y.cY b o' w.1 q).elim λajS w'=>(tc ajS w'.1 (w'.2.1.trans w.2.1) w'.2.2)⟩
theorem tX:v.g7≠.tm n:=by induction v using V.casesOn<;>exact λe=>by contradiction
def vt:List V->Prop|[]=>True|v::r=>(∀n,v≠.tm n)/\vt r
theorem SQ{Q:PUnit->aY->Prop}{E:au->aY->Prop}:∀{is:List Nat}{vs:List V}{us:List au}{m:Env}{s:aY},bg G c g σ env m s->bR (VR G s.heap g) vs us->vt vs->(∀i∈is,env.kindOf (nm i)=aa .local\/env.kindOf (nm i)=aa .cell)->ow m is vs=aa m'->
 (∀s',bg G c g σ env m' s'->jT env s.heap s'.heap->Q ⟨⟩ s')->bw (bh G.prog G.w) c.A (forIn ((is.map nm).zip us) PUnit.unit λx _=>(do wR env x.1 x.2;pure (.yield ⟨⟩))) Q E s:=@lr _ _
 (@λvs us m s I r _ _ e z=>by induction vs using cZ with
  |nil=>exact bO<|z s (fh e▸I)<|jT.refl I.br
  |cons=>exact cV e)
 (λi is ih=>@λvs us m s I r nt hk e z=>by induction vs using cZ with
  |nil=>exact cV e
  |cons v vs=>induction us using cZ with
   |nil=>exact r.elim
   |cons u us=>exact wq (uN ..)<|aR<|aR<|kh I r.1 (λn e=>(nt.1 n e).elim) (hk i<|eB _) λs' I' oc=>bO<|ih I' (r.2.bL λ_ _ r=>r.bL (oc.my (L:=c.lk) I.br).ji λ_ _=>az) nt.2 (λj hj=>hk j<|ey _ hj) e λMA SR ajU=>z MA SR<|oc.trans ajU)
theorem OY(I:bg G c g σ env m s){scope:ic}{qual:bB}{func:Option bj}{code:au}{is:List Nat}(ang:∀n,lk n->g.ρ n≠aj)(r:bR (VR G s.heap g) vs us)(nt:vt vs)(hk:scope.kind=b7)(aiY:∀x,scope.names.lookup x≠aa .free)(hp:∀i∈is,scope.names.lookup (nm i)=aa .local\/scope.names.lookup (nm i)=aa .cell)(hs:ow [] is vs=aa m'){Q:bS->aY->Prop}{E:au->aY->Prop}(z:∀s',bg G {c with lk:=lk} g σ (wW scope s.heap.objs.size jz (sn (s.heap.objs.size+1) scope.names []) qual func code aj kX) m' s'->(∀b o,s.heap.get? b=aa o->s'.heap.get? b=aa o)->lc s'.heap s.heap.objs.size->Q (wW scope s.heap.objs.size jz (sn (s.heap.objs.size+1) scope.names []) qual func code aj kX) s'):bw (bh G.prog G.w) c.A (UG scope jz [] ((is.map nm).zip us) qual func code aj kX) Q E s:=by
 simp only[UG,Option.isSome_none,Vw,if_false];refine aR (Kn<|aR<|wpAny_layCells _ (λname kind cells=>by cases anh:kind==Eh<;>simp[anh]) _ _ _ _ ?_);refine ah (nU ..) ?_;have ok:=UP scope.names (s.heap.push {cls:=aJ "frame",data:=.dict #[]}) (s.heap.objs.size+1) [] ⟨λ_ _ hm=>(nomatch hm),Ww⟩ (by rw[nU];exact gj _);rw[nU]at ok;have kp:∀b o,s.heap.get? b=aa o->(Am (s.heap.push {cls:=aJ "frame",data:=.dict #[]}) scope.names).get? b=aa o:=λb o e=>Kd _ _ b o<|qh _ e;have hL:(Am (s.heap.push {cls:=aJ "frame",data:=.dict #[]}) scope.names).get? s.heap.objs.size=aa {cls:=aJ "frame",data:=.dict #[]}:=Kd _ _ _ _<|fZ _ rf;have gr:=I.jW (λ_=>False) (tk:=s.toks) kp λ_ f=>f.elim;simp only[or_false]at gr;have cY:∀b,wb (wW scope s.heap.objs.size jz (sn (s.heap.objs.size+1) scope.names []) qual func code aj kX) b->s.heap.objs.size<=b/\∃o,(Am (s.heap.push {cls:=aJ "frame",data:=.dict #[]}) scope.names).get? b=aa o:=λb q=>by
  rcases q with q|⟨x,q⟩
  ·exact q▸⟨gj _,_,hL⟩
  ·have e:=ok.empty x b<|qc q
   exact ⟨U4 e.2,e.1.elim λo w=>⟨o,w.1⟩⟩
 have ani:fV G (Am (s.heap.push {cls:=aJ "frame",data:=.dict #[]}) scope.names) g (wW scope s.heap.objs.size jz (sn (s.heap.objs.size+1) scope.names []) qual func code aj kX) []:=
  ⟨hk,rfl,rfl,(b0 (λ_=>aj) ((aeY s.heap<|aJ "frame").keeps<|Kd _ _) λi v q=>cV q),λb q=>⟨⟨(cY b q).2,I.dR.H9<|(λb hb=>xg hb) b (cY b q).1⟩,I.gQ<|(λb hb=>xg hb) b (cY b q).1⟩,λx a q=>⟨_,(ok.empty x a<|qc q).1⟩,(λi v q=>cV q),
   λx q=>JU _ _ _ x<|az<|q.resolve_right<|aiY x,λx y a hx hy=>HM ok.apart hx hy⟩
 have aU:bg G {c with lk:=lk} g σ (wW scope s.heap.objs.size jz (sn (s.heap.objs.size+1) scope.names []) qual func code aj kX) [] {s with heap:=Am (s.heap.push {cls:=aJ "frame",data:=.dict #[]}) scope.names}:=
  ⟨gr.1.keep,gr.1.dR,ani,gr.1.frames,gr.1.tu,gr.1.jS,ang,λi n e=>(cV e),gr.1.gens,gr.1.os,gr.1.drawn,gr.1.y6⟩
 exact aR<|SQ (c:={c with lk:=lk})
  aU (r.bL λ_ _ r=>r.ext gr.2) nt hp hs
  λs' I' oc=>bO<|z s' I' (λb o e=>(oc.jx b λq=>absurd (hJ e)<|qy.mpr (cY b q).1).trans<|kp b o e)<|(oc.cY _ _ hL<|az rfl).elim λo' w=>⟨o',w.1,w.2.1⟩
end
structure ak3(h':bX)(b:bj)(o:cC):Prop where
 k:o.cls=aJ "frame"
 e:∃sl,h'.get? b=aa {o with slots:=sl}
structure ak4(h':bX)(b:bj)(o:cC):Prop where
 k:o.cls=aJ "traceback"
 e:∃ts o' Sy,o.data=.fields ts/\h'.get? b=aa o'/\o'.cls=aJ "traceback"/\o'.data=.fields Sy/\Sy.size=ts.size
def q9(G:GG)(F:Fz)(a:bj)(h h':bX):Prop:=∀b o,h.get? b=aa o->b≠a->h'.get? b=aa o\/((G.h₀.get? b=aj/\¬F b)/\(ak3 h' b o\/ak4 h' b o))
theorem T7{o:cC}(a:o.cls=aJ "frame")(b:o.cls=aJ "traceback"){C:Prop}:C:=absurd (lP<|a.symm.trans b)<|dc rt
theorem SS:∀{σ:H}{n:Nat}{o:O},aW σ n=aa o->aG σ n o=σ:=@lr _ _
 (@λn o e=>cV e)
 (λx r ih=>@λn o e=>by
  induction n using jP with
  |zero=>obtain rfl:=fh e;rfl
  |succ n=>exact congrArg (x::·)<|ih e)
section
variable{F:Fz}{env:bS}{m:Env}
theorem q9.trans(x:q9 G F a eY l4)(y:q9 G F a l4 zX):q9 G F a eY zX:=λb o e nb=>(x b o e nb).elim (λe2=>y b o e2 nb) λw=>aX ⟨w.1,w.2.elim
 (λf=>az ⟨f.k,f.e.elim λsl e2=>(y b _ e2 nb).elim (λe3=>⟨sl,e3⟩) λw'=>w'.2.elim (λf'=>f'.e.elim λafQ e3=>⟨afQ,e3⟩) λt=>T7 f.k t.k⟩)
 λt=>aX ⟨t.k,mY t.e λts o' Sy w=>(y b o' w.2.1 nb).elim (λe3=>(LS ts o' Sy w.1 e3 w.2.2)) λw'=>w'.2.elim (λf'=>T7 f'.k w.2.2.1)
  λt'=>mY t'.e λamm ak5 aiZ q=>(ajk ts ak5 aiZ w.1 q.2.1 q.2.2.1 q.2.2.2.1<|q.2.2.2.2.trans (by have:=q.1;rw[w.2.2.2.1]at this;exact (Wy this)▸w.2.2.2.2))⟩⟩
theorem q9.push(o:cC):q9 G F a h (h.push o):=λb ob e _=>az<|bY _ _ _ _ e
theorem q9.jm(f:cC->cC):q9 G F a h (h.update a f):=λb ob e nb=>az<|(mA _ _ nb.symm).trans e
structure agc(G:GG)(h:bX)(F:Fz)(T:bj)(oT:cC)(ts:Array au):Prop where
 at_:h.get? T=aa oT
 c:oT.cls=aJ "traceback"
 d:oT.data=.fields ts
 sz:3<ts.size
 h0:G.h₀.get? T=aj
 nF:¬F T
theorem rH.o(t:rH G h F T):∃oT ts,agc G h F T oT ts:=eZ t.out λoT ts w=>(yQ oT ts ⟨w.1,w.2.1,w.2.2.1,w.2.2.2.1,w.2.2.2.2.1,w.2.2.2.2.2⟩)
theorem agc.a{ts:Array au}(t:agc G h F T oT ts):rH G h F T:=⟨oT,ts,t.at_,t.c,t.d,t.sz,t.h0,t.nF⟩
theorem q9.tb{ts:Array au}(t:agc G h F T oT ts)(f:Array au->Array au)(hf:∀l,(f l).size=l.size):q9 G F a h (h.update T<|oS f):=λb ob e nb=>by
 by_cases q:b=T
 ·rw[q,t.at_]at e
  obtain rfl:=fh e;exact q.symm▸aX ⟨⟨t.h0,t.nF⟩,aX ⟨t.c,ts,_,_,t.d,nT _ t.at_<|V0<|Ej t.d f,(V2 ..).trans t.c,(Ej t.d f),hf _⟩⟩
 ·exact az<|(mA _ _<|oX q).trans e
theorem q9.slots{S:List bj}(x:Heap.SlotsOnly S h h')(hS:∀b∈S,(G.h₀.get? b=aj/\¬F b)/\lc h b):q9 G F a h h':=λb o e nb=>by
 by_cases q:b∈S
 ·exact aX ⟨(hS b q).1,az ⟨(hS b q).2.elim λo' w=>(cP<|e.symm.trans w.1)▸w.2,x.2.2 b o e⟩⟩
 ·exact az<|(x.2.1 b q).trans e
structure Dh(h:bX)(a d:bj)(C:Nat)(vs:Array au):Prop where
 at_:h.get? a=aa (Nv C d vs)
 sz:2<vs.size
structure i4(g:Gh)(σ:H)(n:Nat)(a d:bj)(C:Nat)(fs:List<|Nat×P):Prop where
 p:g.ρ n=aa (aa (a,d))
 o:aW σ n=aa (.jm C fs)
theorem i4.out(x:i4 g σ n a d C fs)(R:kT G g σ h):∃vs,BX G h (PR G h g.F) (Nv C d vs) fs (a,d)/\ade G h g.F vs:=(R.slot x.o (λq=>by contradiction) λq=>by contradiction).elim λp w=>by
 have e:=w.1;rw[x.p]at e;have z:=w.2;rw[<-(cP<|cP e)]at z;exact z
theorem bg.Qi(I:bg G c g σ env m s){fs:List (Nat×P)}(xs:i4 g σ n a d C fs)(st:q9 G g.F a s.heap h')(e:Dh h' a d C IA)(ok:IA[1]?=aa .none\/∃T,IA[1]?=aa (ai T)/\rH G h' g.F T):bg G c g σ env m {s with heap:=h'}/\eJ s.heap g h' g:=by
 have Fa:jg g.ρ a:=⟨n,_,xs.p,az rfl⟩
 have x:eJ s.heap g h' g:=⟨λb o eb nf nt=>(st b o eb λq=>nf<|q▸Fa).elim (λe2=>(b0 o.slots e2 λ_=>rfl)) λw=>w.2.elim (λf=>f.e.elim λsl e2=>(b0 sl e2<|absurd f.k)) λt=>absurd ⟨t.k,t.e.elim λts w=>⟨ts,eZ w λ_ _ w=>w.1⟩⟩ nt,
  λb o f eb=>⟨f,(st b o eb λq=>(I.dR.fz b f).1<|q▸Fa).elim id λw=>absurd f w.1.2⟩,λ_ _ e=>az e,λ_ f=>az f,λb o eb=>by
   by_cases q:b=a
   ·exact q▸⟨_,e.at_⟩
   ·exact (st b o eb q).elim (λe2=>⟨_,e2⟩) λw=>w.2.elim (λf=>f.e.elim λsl e2=>⟨_,e2⟩) λt=>mY t.e λts o' _ w=>⟨o',w.2.1⟩⟩
 have cY:=λb f nb=>(I.dR.z0 f).elim λob w=>(st b ob w.1 nb).elim (λe2=>e2.trans w.1.symm) λy=>y.2.elim (λf=>absurd f.k w.2.2) λt=>absurd ⟨t.k,t.e.elim λts w=>⟨ts,eZ w λ_ _ w=>w.1⟩⟩ w.2.1
 have tb:∀T,rH G s.heap g.F T->rH G h' g.F T:=λT t=>eZ t.o λoT ts w=>(st T oT w.at_ λq=>(I.dR.z0 Fa).elim λob y=>y.2.1<|ah (cP<|y.1.symm.trans<|q▸w.at_)<|⟨w.c,ts,w.d⟩).elim (λe2=>⟨oT,ts,e2,w.c,w.d,w.sz,w.h0,w.nF⟩) λy=>y.2.elim (λf=>T7 f.k w.c)
  λt'=>mY t'.e λamn o' Sy q=>⟨o',Sy,q.2.1,q.2.2.1,q.2.2.2.1,by exact ah q.2.2.2.2<|ah (Wy<|q.1.symm.trans w.d)<|w.sz,w.h0,w.nF⟩
 refine (xs.out I.dR).elim λvs z=>?_
 have R:=I.dR.rz xs.p (o':=.jm C fs) (h':=h') x.ji (λb f q1 _=>cY b f q1) tb ⟨IA,⟨z.1.ne,e.at_,eZ z.1.fs λgB k w=>(jY gB k ((cY d ⟨n,_,xs.p,aX rfl⟩<|oX z.1.ne).trans w.1)<|w.2.bL λ_ _ y=>⟨y.1,PR.bL x.ji _ y.2⟩)⟩,e.sz,ok⟩
 rw[SS xs.o]at R
 exact ⟨I.next (s':={s with heap:=h'}) x R (λb o eb=>(λ{b o}eb=>(st b o (I.keep b o eb) λq=>by rw[q,I.dR.new _ Fa]at eb;exact cV eb).elim id λw=>by replace w:=eb▸w;nomatch w.1.1) eb) I.jS rfl rfl rfl,x⟩
theorem SU(I:bg G c g σ env m s):∀b∈c.fr.filterMap (·.frame),(G.h₀.get? b=aj/\¬g.F b)/\lc s.heap b:=λb hb=>(List.mem_filterMap.mp hb).elim λe w=>⟨⟨(I.frames.mem hb).1,λf=>(I.tu e w.1 b w.2).1.2<|aX f⟩,(I.tu e w.1 b w.2).2⟩
structure sQ(G:GG)(h:bX)(F:Fz)(a d:bj)(C:Nat):Prop where
 out:∃vs T,Dh h a d C vs/\vs[1]?=aa (ai T)/\rH G h F T
theorem Jf(I:bg G c g σ env m s)(hA:c.A.frames=aa c.fr)(Bq:c.fr=env::outer)(hL:env.frame=aa L)(xs:i4 g σ n a d C fs)(head:au)(abW:Bool){Q:Unit->aY->Prop}{E:au->aY->Prop}(z:∀s',bg G c g σ env m s'->eJ s.heap g s'.heap g->sQ G s'.heap g.F a d C->Q () s'):
 bw (bh G.prog G.w) c.A (do let b <-Wu head (<-frameOf env) .none (uH L) .none (<-entryPlaceOf L abW);setField (ai a) 1 b) Q E s:=by
 refine eh λcy bk=>?_
 obtain ⟨vs,y,Mh,lL⟩:=xs.out I.dR
 refine bk<|wpAny_bind<|wpAny_frameOf_fun (hA.trans<|congrArg _ Bq) (Bq▸I.frames) hL λeY zD=>?_
 replace zD:=Bq.symm▸zD
 have ahE:=(zD.2.1 a λhm=>(I.frames.mem hm).2.elim λo w=>by
  have e:=w.1;rw[y.ob]at e;obtain rfl:=fh e;exact w.2 vs rfl).trans y.ob
 refine aR<|wpAny_entryPlaceOf λpl anj=>?_
 unfold Wu newFields
 refine aR<|DA ?_<|anj.sizeOk5 _ _ _ _ _
 have aea:=bY eY {cls:=aJ "traceback",dict:=aj,data:=.fields ([head,ai L,.none,uH L,.none]++(if pl.isEmpty then iu 6 xk else pl)).toArray} _ _ ahE
 refine Kf aea rfl (KS Mh) ?_
 have fr:s.heap.get? eY.objs.size=aj:=by
  cases q:s.heap.get? eY.objs.size with
  |none=>rfl
  |some o=>exact (zD.2.2 _ _ q).elim λsl e2=>absurd (hJ e2)<|Az _
 have t:rH G ((eY.push {cls:=aJ "traceback",dict:=aj,data:=.fields ([head,ai L,.none,uH L,.none]++(if pl.isEmpty then iu 6 xk else pl)).toArray}).update a<|oS (·.setIfInBounds 1 (jX eY.objs.size))) g.F eY.objs.size:=
  ⟨_,_,((mA (eY.push {cls:=aJ "traceback",dict:=aj,data:=.fields ([head,ai L,.none,uH L,.none]++(if pl.isEmpty then iu 6 xk else pl)).toArray}) (oS (·.setIfInBounds 1 (jX eY.objs.size)))<|oX<|sx<|hJ ahE).trans<|fZ eY rf),rfl,rfl,by exact ah iN<|ah cg<|Nat.lt_of_lt_of_le (show 3<5 by decide)<|gf 5 _,I.gQ fr,λf=>(I.dR.H9 fr)<|aX f⟩
 have:=I.Qi xs (((q9.slots zD<|SU I).trans<|q9.push _).trans<|q9.jm _) (⟨(nT (oS (·.setIfInBounds 1 (jX eY.objs.size))) aea rf),by exact ah Em<|Mh⟩)<|aX<|b0 _ (V5<|KS Mh) t
 exact z _ this.1 this.2 ⟨_,_,(⟨(nT (oS (·.setIfInBounds 1 (jX eY.objs.size))) aea rf),by exact ah Em<|Mh⟩),(V5<|KS Mh),t⟩
theorem ado(I:bg G c g σ env m s){a d:bj}{fs:List (Nat×P)}(xs:i4 g σ n a d C fs){vs:Array au}{T:bj}(ea:Dh s.heap a d C vs)(h1:vs[1]?=aa (ai T))(t:rH G s.heap g.F T)(x:au){Q:Unit->aY->Prop}(z:∀s',bg G c g σ env m s'->eJ s.heap g s'.heap g->Q () s'):bw (bh G.prog G.w) c.A (setField (ai T) 3 x) Q E s:=
 eZ t.o λoT ts w=>Kf w.at_ w.d w.sz (by
  have ank:T≠a:=λq=>by
   have e:=w.at_;rw[q,ea.at_]at e;have k:=w.c;rw[<-cP e]at k;contradiction
  have:=I.Qi xs (q9.tb w (·.setIfInBounds 3 x) λl=>Em ..) (IA:=vs) ⟨(mA s.heap (oS (·.setIfInBounds 3 x)) ank).trans ea.at_,ea.sz⟩
   (aX<|b0 T h1 ⟨_,_,nT _ w.at_<|V0<|Ej w.d (·.setIfInBounds 3 x),(V2 ..).trans w.c,(Ej w.d (·.setIfInBounds 3 x)),by exact ah Em<|w.sz,w.h0,w.nF⟩)
  exact z _ this.1 this.2)
theorem wd(I:bg G c g σ env m s)(hA:c.A.frames=aa c.fr)(Bq:c.fr=env::outer){L:bj}(hL:env.frame=aa L)(xs:i4 g σ n a d C fs){Q:Unit->aY->Prop}(z:∀s',bg G c g σ env m s'->eJ s.heap g s'.heap g->sQ G s'.heap g.F a d C->Q () s'):bw (bh G.prog G.w) c.A (noteFrame (ai a) env) Q E s:=by
 refine eh λcy bk=>?_;obtain ⟨vs,y,Mh,lL⟩:=xs.out I.dR;refine bk ?_;unfold noteFrame;simp only[hL];rcases lL with h1|⟨T,h1,t⟩
 ·refine aR<|qw y.ob rfl h1 ?_
  exact wn (dc rt)<|Jf I hA Bq hL xs _ _ z
 ·refine aR<|qw y.ob rfl h1 ?_
  refine wy (rt)<|eZ t.o λoT ts w=>aR<|qw w.at_ w.d (V7 w.sz) ?_;by_cases q:(ts[3]'w.sz==uH L)=ag
  ·exact ah (if_pos q)<|wpAny_pure<|z s I eJ.refl ⟨vs,T,⟨y.ob,Mh⟩,h1,t⟩
  ·exact ah (if_neg q)<|wpAny_bind<|ado I xs ⟨y.ob,Mh⟩ h1 t _ λs' I' x'=>Jf I' hA Bq hL xs _ _ λMA SR agd=>z MA SR<|x'.trans agd
theorem n7(I:bg G c g σ env m s){a d:bj}(xs:i4 g σ n a d C fs)(T:sQ G s.heap g.F a d C)(fr:Option bj){Q:Unit->aY->Prop}(z:∀s',bg G c g σ env m s'->eJ s.heap g s'.heap g->Q () s'):bw (bh G.prog G.w) c.A (An (ai a) fr) Q E s:=
 eZ T.out λvs T w=>by
  unfold An;refine aR<|qw w.1.at_ rfl w.2.1 ?_;exact (if_pos<|rfl)▸ado I xs w.1 w.2.1 w.2.2 _ z
theorem OZ(I:bg G c g σ env m s)(hA:c.A.frames=aa c.fr)(Bq:c.fr=env::outer)(hL:env.frame=aa L)(xs:i4 g σ n a d C fs){Q:Unit->aY->Prop}(z:∀s',bg G c g σ env m s'->eJ s.heap g s'.heap g->Q () s'):bw (bh G.prog G.w) c.A (leaving env<|ai a) Q E s:=by
 unfold leaving;exact aR<|wd I hA Bq hL xs λs' I' x' T=>n7 I' xs T aj λMA SR agd=>z MA SR<|x'.trans agd
theorem O0(I:bg G c g σ env m s)(hA:c.A.frames=aa c.fr)(Bq:c.fr=env::outer){L:bj}(hL:env.frame=aa L){a d:bj}(xs:i4 g σ n a d C fs)(z:∀s',bg G c g σ env m s'->eJ s.heap g s'.heap g->E (ai a) s'):oO (bh G.prog G.w) c.A env (λe s'=>wN (bh G.prog G.w) c.A env E e s') (ai a) s:=by
 unfold oO;refine wd I hA Bq hL xs λs' I' x' T=>?_;unfold wN;exact eZ T.out λvs SV w=>aR (qw w.1.at_ rfl w.2.1 (by
  exact wn (by simp)<|n7 I' xs T _ λMA SR agd=>z MA SR<|x'.trans agd))
end
section
variable{env:bS}{m:Env}
def MB(G:GG)(h:bX)(g:Gh)(f:Fl)(u:mG):Prop:=match f with
 | .next=>u=.next| .cont=>u=.cont| .ret v=>∃w,u=.ret w/\VR G h g v w
def adp(G:GG)(c:Cn)(env:bS)(h:bX)(g:Gh)(Qv:Fl->Env->H->Prop)(Q:mG->aY->Prop):Prop:=
 ∀f m' bP s' g' u,Qv f m' bP->bg G c g' bP env m' s'->gR c.lk env h g s'.heap g'->MB G s'.heap g' f u->Q u s'
def age(G:GG)(c:Cn)(env:bS)(h:bX)(g:Gh)(Ev:Env->H->Prop)(E:au->aY->Prop):Prop:=
 ∀m' bP s' g' p,Ev m' bP->bg G c g' bP env m' s'->gR c.lk env h g s'.heap g'->se g' bP p->E (ai p.1) s'
def cb(G:GG)(c:Cn)(env:bS)(g:Gh)(s:aY)(x:(Fl->Env->H->Prop)->(Env->H->Prop)->Prop)(t:fv mG):Prop:=
 ∀Qv Ev,x Qv Ev->∀Q E,adp G c env s.heap g Qv Q->age G c env s.heap g Ev E->bw (bh G.prog G.w) c.A t Q E s
theorem adp.ext{Qv:Fl->Env->H->Prop}{Q:mG->aY->Prop}(x:gR c.lk env h g h' g')(q:adp G c env h g Qv Q):adp G c env h' g' Qv Q:=λf m σ s' R9 u a I y r=>q f m σ s' R9 u a I (x.trans y) r
theorem age.ext{Ev:Env->H->Prop}(x:gR c.lk env h g h' g')(q:age G c env h g Ev E):age G c env h' g' Ev E:=λm σ s' R9 p a I y r=>q m σ s' R9 p a I (x.trans y) r
theorem eJ.XN(hL:∀n st,g.ρ n=aa st->L n)(kp:∀b o,h.get? b=aa o->eY.get? b=aa o)(x:gR L env eY g l4 g')(no:∀b o,h.get? b=aa o->¬wb env b):eJ h g l4 g' where
 keep:=λb o e nf nt=>x.keep b o (kp b o e) nf nt (no b o e)
 ji:=λb o f e=>x.ji b o f (kp b o e)
 rA:=λn st e=>x.rA n st e (hL n st e)
 fresh:=λb f=>(x.fresh b f).imp id λf=>by
  cases q:h.get? b with
  |none=>rfl
  |some o=>rw[kp b o q]at f;exact Cm f
 jW:=λb o e=>x.jW b o<|kp b o e
noncomputable def Di (c:Cn) (rL:bS) (d:Nat) (lk:Nat->Prop):Cn:=⟨c.A.deeper rL,rL::c.fr,c.hd,d,3,lk⟩
theorem BI(hO:c.Ok)(hd:c.d=d+1):(Di c env d lk).Ok where
 frames:=by show c.A.frames.map _=_;refine ah hO.frames ?_;rfl
 depth:=by
  have:=hO.depth;exact qE (eA (eA (eA (eA Dj<|eM 8 bb)<|eM 2 l5) kC) bz) aA [(8,eA bb bz,aB),(1,eA (eA (eA (eA cv<|eM 8 aB)<|eM 2 gO) kC) bz,aA)] rt (bx hd.symm) this
 units:=by
  have:=hO.units;exact Pn (eA (eA (eA (eA (eA cv l5)<|eM 30 bb)<|eM 8 l5) m8) bz) rR [(30,eA bb bz,aB),(1,eA (eA (eA (eA cv<|eM 30 aB)<|eM 8 gO) m8) bz,rR)] rt (bx hd.symm) this
theorem bg.ai0(I:bg G {c with lk:=lk} g σ env m s)(hk:env.scope.kind=b7)(hf:env.frame=aa env.locals)(fr:lc s.heap env.locals)(d:Nat):bg G (Di c env d lk) g σ env m s where
 keep:=I.keep
 dR:=I.dR
 br:=I.br
 frames:=⟨by exact hk▸λq=>(by contradiction),I.br.ns.elim λmr w=>mY w.1 λo es ep w=>(Dk env.locals o hf (I.br.cY _<|az rfl).2 w.1 (λvs q=>by have e:=w.2.1;rw[q]at e;contradiction)),I.frames⟩
 tu:=λe he L hL=>(dU.mp he).elim (λq=>by (replace hL:=q▸hL;rw[hf]at hL);exact cP hL▸⟨(I.br.cY _<|az rfl).1,fr⟩) λhe=>I.tu e he L hL
 jS:=I.jS
 lk:=I.lk
 tm:=I.tm
 gens:=I.gens
 os:=I.os
 drawn:=I.drawn
 y6:=I.y6
theorem bg.aeb(I:bg G c g σ env m s)(I':bg G (Di c rL d lk) g' bP rL m' s')(x:eJ s.heap g s'.heap g'):bg G c g' bP env m s':=
 I.next x I'.dR I'.keep I'.jS (I'.gens.trans I.gens.symm) (I'.os.trans I.os.symm) (I'.drawn.trans I.drawn.symm)
structure SW(G:GG)(Ck:List (bB×i6)->S->List dO->Prop)(F:aT)(fd:oJ)(body:List dO):Prop where
 bd:fd.body=.stmts body
 ck:Ck fd.scope.names F.body body
 al9:fd.closure=[]
 fy:fd.globals=jz
 pQ:fd.builtins=kX
 kind:fd.scope.kind=b7
 aec:fd.scope.isCoroutine=ak
 ajV:fd.scope.isGenerator=ak
 code:G.h₀.CodeRec fd.code fd.qualname
 free:∀x,fd.scope.names.lookup x≠aa .free
 pos:fd.params.posonlyargs=[]
 args:fd.params.args.map (·.arg)=F.params.map nm
 va:fd.params.vararg=aj
 ajW:fd.params.kwonlyargs=[]
 ajX:fd.params.kwarg=aj
 nd:(F.params.map nm).Nodup
 ajY:∀i∈F.params,fd.scope.names.lookup (nm i)=aa .local\/fd.scope.names.lookup (nm i)=aa .cell
 Dl:∀(s:aY),G.K.In s.heap->∃aQ:Option<|Array au,∀(M:iy)(A:qx)(E:au->aY->Prop)(Q:Option (Array au)->aY->Prop),Q aQ s->bw M A (Ky fd.defaults) Q E s
 ama:F.tF≠[]->∃dv:List au,(∀h F',bR (PR G h F') F.tF dv)/\∀(s:aY)(lF:List au),G.K.In s.heap->lF.length+F.tF.length=F.params.length->As s fd ⟨lF,[]⟩ ((F.params.map nm).zip<|lF++dv)
def T8(G:GG)(Ck:List (bB×i6)->S->List dO->Prop):Prop:=∀a F,G.T.fn a=aa F->∃o fd body,G.K.lookup a=aa o/\o.data=.func fd/\SW G Ck F fd body
def agf(G:GG)(Ck:List (bB×i6)->S->List dO->Prop)(c:Cn)(d:Nat)(C:Cx)(cf:Bool->V->List V->M V):Prop:=∀(F:aT)(body:List dO)(rL:bS)(g:Gh)(σ:H)(m:Env)(s:aY)(lk:Nat->Prop),Ck rL.scope.names F.body body->rL.frame=aa rL.locals->bg G (Di c rL d lk) g σ rL m s->
 cb G (Di c rL d lk) rL g s (iR C cf F.body m σ) (jF body rL)
theorem Jg:∀{is}{vs}{m m':Env},ow m is vs=aa m'->is.length=vs.length:=@lr _ _
 (@λvs _ _ h=>by induction vs using cZ with|nil=>rfl|cons=>exact cV h)
 (λi is ih=>@λvs m m' h=>by induction vs using cZ with|nil=>exact cV h|cons v vs=>exact congrArg (·+1)<|ih h)
theorem Jh:∀{vs}{us},bR (VR G h g) vs us->bR (VR G h g) (vs.map V.g7) us:=λr=>r.map λa b r=>VR.g7 r
theorem Zi:∀(vs:List V),vt (vs.map V.g7):=@lr _ _
 (trivial)
 (λv r ih=>⟨λn=>tX,ih⟩)
theorem abX(ds:List P):∀(vs:List V),vt (vs.map V.g7++ds.map V.p):=@lr _ _
 (by
  induction ds with
  |nil=>trivial
  |cons d ds ih=>exact ⟨λn e=>(by contradiction),ih⟩)
 (λv r b5=>⟨λn=>tX,b5⟩)
theorem Qj(r:bR (PR G h g.F) ds dv):bR (VR G h g) (ds.map V.p) dv:=bR.map (f:=V.p) (λa b r=>r) r
structure ai1(G:GG)(s:aY)(g:Gh)(fd:oJ)(F:aT)(us:List au)(IA:List V)(adq:List au):Prop where
 rs:bR (VR G s.heap g) IA adq
 nt:vt IA
 b:As s fd ⟨us,[]⟩<|(F.params.map nm).zip adq
theorem Zj(B:G.dB)(I:bg G c g σ env m s)(K:SW G Ck F fd body)(r:bR (VR G s.heap g) vs us)(e:ow [] F.params (oZ F vs)=aa m'):∃adq,ai1 G s g fd F us (oZ F vs) adq:=by
 have hl:=Jg e;unfold oZ at hl⊢;cases q:gb F.params.length vs.length with
 |true=>
  replace hl:=q▸hl;have hl:=hl;exact (K.Dl s<|B.jh I).elim λaQ ho=>⟨us,Jh r,Zi vs,Cc K.pos K.args K.va K.ajW K.ajX K.nd ho<|by rw[cq,hl,cq];exact r.length.symm⟩
 |false=>
  rw[q]at hl;have hl:=hl;rw[cg,cq,cq]at hl;have Mn:F.tF≠[]:=λz=>by
   rw[z]at hl;rw[hl,show vs.length+([]:List P).length=vs.length from rfl,Nat.ble_self_eq_true]at q;exact rT q
  exact (K.ama Mn).elim λdv w=>⟨us++dv,(Jh r).append<|Qj<|w.1 _ _,abX _ _,w.2 s us (B.jh I)<|r.length▸hl.symm⟩
end
section
variable{env:bS}{m:Env}
variable{Ck:List (bB×i6)->S->List dO->Prop}
theorem abY(I:bg G c g σ env m s):bg G {c with A:=c.A.in1} g σ env m s:=⟨I.keep,I.dR,I.br,I.frames,I.tu,I.jS,I.lk,I.tm,I.gens,I.os,I.drawn,I.y6⟩
theorem agg(I:bg G {c with A:=c.A.in1,lk:=lk} g σ env m s):bg G {c with lk:=lk} g σ env m s:=⟨I.keep,I.dR,I.br,I.frames,I.tu,I.jS,I.lk,I.tm,I.gens,I.os,I.drawn,I.y6⟩
theorem JV(B:G.dB)(TF:T8 G Ck)(hO:c.Ok)(hd:c.d=d+1)(hB:agf G Ck c d ⟨G.T,N,ba G.T N d c.hd,c.hd,3⟩<|ba G.T N d)(I:bg G c g σ env m s)(r:bR (VR G s.heap g) vs us)(z:ba G.T N (d+1) c.hd (.p<| .fn a) vs σ Qv Ev)(q:yA (cU G) G c env s.heap g m Qv λv s'=>R (.ok<| .ret v) s')(ex:Mp G c env s.heap g m Ev λe s'=>R (.error e) s'):kI (bh G.prog G.w) c.A (.call (ai a) ⟨us,[]⟩) R s:=by
 refine eh λcy bk=>?_;obtain ⟨F,hF,z⟩:=M.jD (show (M.aQ (G.T.fn a) λF=>.aQ (ow [] F.params<|oZ F vs) λm=>λσ Q E=>
  iR ⟨G.T,N,ba G.T N d c.hd,c.hd,3⟩ (ba G.T N d) F.body m σ (l3 Q) (sH E)) σ Qv Ev from z)
 refine cE (M.jD z) λm' hm z=>aai (TF a F hF) λo fd body k1 k2 K=>?_
 obtain ⟨adq,b⟩:=Zj B I K r hm
 refine bk<|codeAny_call_function (jB (bo (gf _ _)<|bo (gf _ _)<|gf _ _) hO.depth) (B.jh I _ _ k1) k2 K.aec K.ajV K.bd (K.code.keeps I.keep)<|b.b _ _ _ _ ?_
 refine ah K.al9<|ah K.fy<|ah K.pQ<|OY (abY I) (λn q=>q) b.rs b.nt K.kind K.free K.ajY hm λaH aU kp fr=>⟨B.P5.keeps aU.keep,codeAny_func ?_⟩
 have no:∀b o,s.heap.get? b=aa o->¬wb (wW fd.scope s.heap.objs.size jz (sn (s.heap.objs.size+1) fd.scope.names []) fd.qualname (aa a) fd.code aj kX) b:=λb o e q=>by
  rcases q with q|⟨x,q⟩
  ·exact Az _<|q▸(hJ e)
  ·have ok:=UP fd.scope.names (s.heap.push {cls:=aJ "frame",data:=.dict #[]}) (s.heap.objs.size+1) [] ⟨λ_ _ hm=>(nomatch hm),Ww⟩ (by rw[nU];exact gj _)
   rw[nU]at ok;exact absurd (hJ e)<|qy.mpr<|U4 (ok.empty x b<|qc q).2
 have rA:∀n st,g.ρ n=aa st->g.ρ n≠aj:=λn st e w=>by rw[e]at w;exact Cm w
 refine hB F body _ g σ m' aH _ K.ck rfl ((agg aU).ai0 K.kind rfl fr d) _ _ z _ _ (λf yK kB gd lG u y e9 eU adr=>?_) λyK kB gd lG p y e9 eU fl=>?_
 ·have X:=eJ.XN rA kp eU no
  induction f using Fl.casesOn with
  |next=>obtain rfl:=(adr);exact q _ _ _ _ _ y (I.aeb e9 X) X rfl
  |cont=>exact (y).elim
  |ret v=>exact (adr).elim λw e=>e.1▸q _ _ _ _ _ y (I.aeb e9 X) X e.2
 ·exact eZ fl.jm λC fs w=>OZ e9 (BI hO hd).frames rfl rfl ⟨fl.at_,w⟩ λwC pS yL=>
   have X:=(eJ.XN rA kp eU no).trans yL
   ex _ _ _ p y (I.aeb pS X) X fl
end
def sR(G:GG)(N:tH)(d:Nat)(hd:Bool):Prop:=∀(c:Cn),c.Ok->c.d=d->c.hd=hd->∀(env:bS)(m:Env)(g:Gh)(σ:H)(s:aY)(a:Nat)(vs:List V)(us:List au),bg G c g σ env m s->bR (VR G s.heap g) vs us->
 ∀Qv Ev,ba G.T N d hd (.p<| .fn a) vs σ Qv Ev->∀R:DR->aY->Prop,yA (cU G) G c env s.heap g m Qv (λv s'=>R (.ok<| .ret v) s')->Mp G c env s.heap g m Ev (λe s'=>R (.error e) s')->kI (bh G.prog G.w) c.A (.call (ai a) ⟨us,[]⟩) R s
section
variable{env:bS}{m:Env}
noncomputable abbrev Cn.under (c:Cn) (d:Nat) (C:bj) (us:List au):Cn:=⟨c.A.under<| .builtin "type.__call__" ⟨ai C::us,[]⟩,c.fr,c.hd,d,c.lv,c.lk⟩
theorem Zk(hO:c.Ok)(hd:c.d=d+1)(C:bj)(us:List au):(c.under d C us).Ok where
 frames:=hO.frames
 depth:=by
  have:=hO.depth;exact qE (eA (eA (eA (eA Dj<|eM 8 bb)<|eM 2 gO) kC) bz) aA [(8,eA bb bz,aB),(1,eA (eA (eA (eA cv<|eM 8 aB)<|eM 2 gO) kC) bz,aA)] rt (bx hd.symm) this
 units:=by
  have:=hO.units;exact Pn (eA (eA (eA (eA Dj<|eM 30 bb)<|eM 8 gO) m8) bz) rR [(30,eA bb bz,aB),(1,eA (eA (eA (eA cv<|eM 30 aB)<|eM 8 gO) m8) bz,rR)] rt (bx hd.symm) this
theorem bg.abZ(I:bg G c g σ env m s):bg G (c.under d C us) g σ env m s:=⟨I.keep,I.dR,I.br,I.frames,I.tu,I.jS,I.lk,I.tm,I.gens,I.os,I.drawn,I.y6⟩
theorem bg.Qk(I:bg G (c.under d C us) g σ env m s):bg G c g σ env m s:=⟨I.keep,I.dR,I.br,I.frames,I.tu,I.jS,I.lk,I.tm,I.gens,I.os,I.drawn,I.y6⟩
theorem Zl(I:bg G c g σ env m s)(k:∀b ob,s.heap.get? b=aa ob->h'.get? b=aa ob)(f1:s.heap.get? p.1=aj)(f2:s.heap.get? p.2=aj)(hz:∀Fy,OR G h' ⟨Fy,g.F⟩ o p)(v:LU o σ Qv Ev)(q:yA (cU G) G c env s.heap g m Qv Q):Q (ai p.1) {s with heap:=h',toks:=tk}:=by
 have no:aW σ σ.length=aj:=by
  have:∀σ:H,aW σ σ.length=aj:=λσ=>by
   induction σ with
   |nil=>rfl
   |cons o r ih=>exact ih
  exact this σ
 have:=I.new (p:=p) (o:=o) (tk:=tk) (bP:=σ++[o]) (I.dR.out no) ((absurd no)) (by rw[P4,if_pos rfl]) (λk ne=>by rw[P4,if_neg ne]) k f1 f2<|hz _
 exact q _ _ _ _ _ v.2 this.1 this.2.1 ⟨this.2.2,v.1⟩
structure Made(G:GG)(c:Cn)(env:bS)(m:Env)(h:bX)(g:Gh)(Qv:V->H->Prop)(u:au)(s':aY):Prop where
 out:∃aP aF w,Qv w aF/\bg G c aP aF env m s'/\eJ h g s'.heap aP/\VR G s'.heap aP w u
theorem Zm(I:bg G c g σ env m s){al:List Nat}(v:(match al with|[]=>LU (.iF C [])|z=>alloc z<| .iF C []) σ Qv Ev):Made G c env m s.heap g Qv (ai<|s.heap.objs.size+1) {s with heap:=(s.heap.push uQ).push (AQ C s.heap.objs.size)}:=by
 have gx:((s.heap.push uQ).push<|AQ C s.heap.objs.size).get? (s.heap.objs.size+1)=aa (AQ C s.heap.objs.size):=by
  exact ah ((nU ..).symm)<|Heap.get?_push_size _ rf
 have z:∀Fy,OR G ((s.heap.push uQ).push<|AQ C s.heap.objs.size) ⟨Fy,g.F⟩ (.iF C []) (s.heap.objs.size+1,s.heap.objs.size):=λFy=>⟨Ax _,gx,[],0,(bY _ _ _ _<|fZ _ rf),trivial⟩
 have q:yA (cU G) G c env s.heap g m Qv (Made G c env m s.heap g Qv):=λa bP s' g' b z I x r=>⟨g',bP,a,z,I,x,r⟩
 induction al using cZ with
 |nil=>exact Zl I (λb o e=>bY _ _ _ _<|bY _ _ _ _ e) (xg<|kZ _) (cp _) z v q
 |cons y al=>exact qt I (λb o e=>bY _ _ _ _<|bY _ _ _ _ e) (xg<|kZ _) (cp _) z v q
theorem O1(B:G.dB)(TC:iU G)(hO:c.Ok)(hd:c.d=d+1)(hF:sR G N d c.hd)(I:bg G c g σ env m s)(r:bR (VR G s.heap g) vs us):ao (cU G) G c env g m s (ba G.T N (d+1) c.hd (.p<| .cls C) vs σ) (call (ai C) us):=by
 refine ao.aQ (o:=G.T.cls C) λk hk=>ao.lS λhx Qv Ev z Q E q e=>mY (Zm I z).out λaP aF v w=>oH ?_;have w2:=w.2.2;obtain ⟨hh,gg,dr,t,os⟩:=s;refine make_core (makes_of (B.jh I) ((TC C k hk).plain<|mE hx).2.1) (AP (B.jh I) ((TC C k hk).plain<|mE hx).2.2.1) (λself=>bind_fn (B.jh I) self ((TC C k hk).plain<|mE hx).2.2.2) (az rfl)<|hF (c.under d C us) (Zk hO hd C us) rfl rfl env m aP aF _ k.init (v::vs) (ai (hh.objs.size+1)::us) w.2.1.abZ ⟨w2.2,r.bL λ_ _ r=>r.ext w2.1⟩ (λr dh=>(M.lS (j0 r)<| .ok v) dh Qv Ev) Ev w.1 _ (λa bP s' g' b y I' x' rb=>?_) λbP s' g' p y I' x' fl=>e _ _ _ _ y I'.Qk (w2.1.trans x') fl;rw[yF (M.GV y).1]at rb;exact (rb)▸⟨rfl,q _ _ _ _ _ (M.GV y).2 I'.Qk (w2.1.trans x')<|w2.2.ext x'⟩
theorem ab0(e:(G.K.lookup a).any uj=ag):uR G.K (ai a)=ag:=by
 unfold uR;refine oc (G.K.lookup a) (λq=>?_) λo q=>?_
 ·rw[q]at e;exact dC e
 ·
  rw[q]at e;obtain ⟨oc,od,XH,adl⟩:=o;induction XH using uU<;>first|(exact dC e;done)|(dsimp only;refine ah q ?_;rfl)
theorem Ji(B:G.dB)(TC:iU G)(hO:c.Ok){d:Nat}(hd:c.d=d)(hF:sR G N d c.hd)(anl:∀e,d=e+1->sR G N e c.hd)(P:z8 G):FQ G c (ba G.T N d c.hd):=by
 intro env m g σ s f vs u us I rf rs;induction d using jP with
 |zero=>exact ⟨λ_ _ z=>z.elim,λ_ _ z=>z.elim⟩
 |succ d=>
  have no:∀{t},(∀Qv Ev,(M.no:M V) σ Qv Ev->nA G u)/\ao (cU G) G c env g m s ((M.no:M V) σ) t:=⟨λ_ _ z=>z.elim,ao.no (σ:=σ)⟩
  induction f using V.casesOn with
  |p x=>
   cases x with
   |fn a=>exact (rf).1▸⟨λ_ _ _=>nA.ahD<|ab0 (rf).2,λQv Ev z Q E q e=>oH<|hF c hO hd rfl env m g σ s a vs us I rs Qv Ev z _ q e⟩
   |cls a=>
    exact (rf).1▸⟨λ_ _ z=>(M.jD (o:=G.T.cls a) z).elim λk w=>nA.ahD (TC a k w.1).call,O1 B TC hO hd (anl d rfl) I rs⟩
   |ty n=>exact (rf)▸⟨λ_ _ _=>nA.type,Sw B P I n rs⟩
   |bi n=>exact (rf)▸⟨λ_ _ _=>nA.builtin,SG B TC I n rs⟩
   |_=>exact no
  |_=>exact no
end
section
variable{env:bS}{m:Env}
theorem cb.c9{x:Env->M α}(I:bg G c g σ env m s)(hx:ao Rl G c env g m s (x m σ) t)(hf:∀a aF aH aP b,bg G c aP aF env m aH->eJ s.heap g aH.heap aP->Rl aH.heap aP a b->cb G c env aP aH (f a m aF) (k b)):cb G c env g s (Mine.Lake.c9 x f m σ) (t>>=k):=λQv Ev z Q E q e=>
 aR (hx _ _ z _ _ (λa bP s' g' b y I' x' r=>hf a bP s' g' b I' x' r Qv Ev y Q E (q.ext<|x'.l I.br)<|e.ext<|x'.l I.br) λbP s' g' p y I' x' fl=>e _ _ _ _ p y I' (x'.l I.br) fl)
theorem cb.at_{x:(Fl->Env->H->Prop)->(Env->H->Prop)->Prop}{p:ca}(h:cb G c env g s x<|k ()):cb G c env g s x (fk p>>=k):=λQv Ev z Q E q e=>aR<|gF<|h Qv Ev z Q E q e
theorem cb.fl(I:bg G c g σ env m s)(r:MB G s.heap g f u):cb G c env g s (SM.fl f m σ) (oV u):=λQv Ev z Q E q e=>bO<|q _ _ _ _ _ _ z I gR.refl r
theorem agh{a b:SM}{st:dO}{rest:List dO}(h1:cb G c env g s (a m σ)<|dZ st env)(h2:∀m' bP s' g',bg G c g' bP env m' s'->cb G c env g' s' (b m' bP) (jF rest env)):cb G c env g s (λQ E=>a m σ (λfl m' bP=>match fl with| .next=>b m' bP Q E|fl=>Q fl m' bP) E) (jF (st::rest) env):=λQv Ev z Q E q e=>by
 rw[Ku];refine aR<|h1 _ _ z _ _ (λf m₁ aF aH aP u y aU b6 r=>?_) e;induction f using Fl.casesOn with
 |next=>obtain rfl:=(r);exact h2 m₁ aF aH aP aU Qv Ev y Q E (q.ext b6)<|e.ext b6
 |cont=>obtain rfl:=(r);exact bO<|q .cont _ _ _ _ _ y aU b6 rfl
 |ret v=>exact (r).elim λw k=>k.1▸bO (q (.ret v) _ _ _ _ _ y aU b6 ⟨w,rfl,k.2⟩)
theorem agi(I:bg G c g σ env m s):cb G c env g s (SM.fl .next m σ) (jF [] env):=λQv Ev z Q E q e=>DB<|q .next _ _ _ _ _ z I gR.refl rfl
theorem SX{pos:ca}(I:bg G c g σ env m s)(hx:ao (cU G) G c env g m s (x m σ)<|bq e env):cb G c env g s (Mine.Lake.c9 x (λv=>SM.fl<| .ret v) m σ) (dZ (.Return (aa e) pos) env):=by
 rw[exec_Return_some];exact cb.at_<|cb.c9 I hx λv aF aH aP u aU b6 cX=>cb.fl aU ⟨u,rfl,cX⟩
theorem Dw(I:bg G c g σ env m s):cb G c env g s (SM.fl (.ret<| .p .none) m σ) (dZ (.Return aj pos) env):=λQv Ev z Q E q e=>wpAny_Return_none<|q (.ret<| .p .none) _ _ _ _ _ z I gR.refl ⟨_,rfl,rfl⟩
theorem ai2{x:Env->M Bool}{a b:SM}{pos:ca}(I:bg G c g σ env m s)(hx:ao nz G c env g m s (x m σ)<|mF e env<|bq e env)(ha:∀bP s' g',bg G c g' bP env m s'->cb G c env g' s' (a m bP) (jF sa env))(hb:∀bP s' g',bg G c g' bP env m s'->cb G c env g' s' (b m bP) (jF sb env)):cb G c env g s (Mine.Lake.c9 x (λr=>match r with|true=>a|false=>b) m σ) (dZ (.If e sa sb pos) env):=by
 rw[exec_If];refine cb.at_<|cb.c9 I hx λr aF aH aP u aU b6 cX=>?_;subst cX;induction r using fe with
 |true=>exact ha aF aH aP aU
 |false=>exact hb aF aH aP aU
theorem ab1{pos:ca}(I:bg G c g σ env m s):cb G c env g s (SM.fl .next m σ) (dZ (.Pass pos) env):=cb.at_<|cb.fl I rfl
theorem ab2{pos:ca}(I:bg G c g σ env m s):cb G c env g s (SM.fl .cont m σ) (dZ (.Continue pos) env):=cb.at_<|cb.fl I rfl
theorem zj(I:bg G c g σ env m s)(hk:env.kindOf (nm i)=aa .local\/env.kindOf (nm i)=aa .cell)(r:VR G s.heap g v u)(ht:∀n,v=.tm n->¬c.lk n):
 cb G c env g s (SM.env (aa<|aN m i v) m σ) (do ib (aK (nm i) pos) env u;oV .next):=λQv Ev z Q E q e=>aR<|aR<|gF<|qv<|kh I r ht hk λs' I' oc=>bO<|q .next _ _ _ _ _ z I' (oc.my I.br) rfl
theorem JW(B:G.dB)(T:iU G)(I:bg G c g σ env m s){u:au}(r:VR G s.heap g v u)(hx:ao (cU G) G c env g m s (x m σ)<|bq o env):
 cb G c env g s (Mine.Lake.c9 x (λov=>Mine.Lake.c9 (λ_=>setAttr G.T ov i v) λ_=>SM.fl .next) m σ) (do ib (d3 o (nm i) pos) env u;oV .next):=by
 have e:(do ib (d3 o (nm i) pos) env u;oV LM)=(do
  (do
   let ov <-kW [u] (bq o env)
   fk pos.atName
   kW [u,ov] (oF ov (nm i) u)
   DQ [u,ov] [])
  oV LM):=rfl
 refine ah e ?_
 intro Qv Ev z Q E q ex
 refine aR<|aR<|fE<|hx _ _ z _ _ (λov aF aH aP uo y aU b6 cX=>aR<|gF<|aR<|fE<|B8 B T aU cX (r.ext b6) i _ _ y _ _ (λ_ dh da dL _ y cF di _=>?_) λdh da dL p y cF di fl=>ex _ _ _ _ p y cF ((b6.trans di).l I.br) fl) λaF aH aP p y aU b6 fl=>ex _ _ _ _ p y aU (b6.l I.br) fl
 exact DH<|bO<|q .next _ _ _ _ _ y cF ((b6.trans di).l I.br) rfl
theorem O2(B:G.dB){y:Env->M V}{o k:bA}(anm:n8 k=ag)(I:bg G c g σ env m s){u:au}(r:VR G s.heap g v u)(hx:ao (cU G) G c env g m s (x m σ)<|bq o env)(hy:∀aF aH aP,bg G c aP aF env m aH->ao (cU G) G c env aP m aH (y m aF) (bq k env)):
 cb G c env g s (Mine.Lake.c9 x (λov=>Mine.Lake.c9 y λkv=>Mine.Lake.c9 (λ_=>iA ov kv v) λ_=>SM.fl .next) m σ) (do ib (.Subscript o k pos) env u;oV .next):=by
 have e:ib (.Subscript o k pos) env u=(do
  let ov <-kW [u] (bq o env)
  let iv <-kW [u,ov] (bq k env)
  fk pos
  kW [u,ov,iv] (DO ov iv u)
  DQ [u,ov,iv] []):=by cases k<;>first|rfl|exact dC anm
 refine ah e ?_
 intro Qv Ev z Q E q ex
 refine aR (aR (fE (hx _ _ z _ _ (λov aF aH aP uo eT aU b6 cX=>aR (fE (hy aF aH aP aU _ _ eT _ _ (λkv dh da dL uk gU cF di gk=>aR (gF (aR (fE
  (So B cF (cX.ext di) gk ((r.ext b6).ext di) _ _ gU _ _ (λ_ kB gd lG _ yI e9 eU _=>?_) λkB gd lG p yI e9 eU fl=>ex _ _ _ _ p yI e9 (((b6.trans di).trans eU).l I.br) fl)))))
   λdh da dL p gU cF di fl=>ex _ _ _ _ p gU cF ((b6.trans di).l I.br) fl))) λaF aH aP p eT aU b6 fl=>ex _ _ _ _ p eT aU (b6.l I.br) fl)))
 exact DH<|bO<|q .next _ _ _ _ _ yI e9 (((b6.trans di).trans eU).l I.br) rfl
theorem zm(hs:nJ value (aa t) pos.line env=pure ak)(hw:uC [t] value env=pure aj)(af7:nH [t] env=[(ak,ib t env)]):dZ (fJ [t] value pos) env=(do
 fk pos
 let v <-bq value env
 ib t env v
 pure .next):=by
 have e:dZ (fJ [t] value pos) env=(do
  fk pos
  if <-wK [t] value pos.line env then do
   Ah value env λv=>Ao v ((nH [t] env).map (·.2))
   pure .next
  else do
   let v <-bq value env
   Kl env v (<-uC [t] value env) ((nH [t] env).map (·.2))):=rfl
 exact ah e<|ah (show wK [t] value pos.line env=pure ak from hs)<|ah hw<|ah af7 rfl
theorem rc{f:V->SM}{pos:ca}(hs:nJ value (aa t) pos.line env=pure ak)(hw:uC [t] value env=pure aj)(af7:nH [t] env=[(ak,ib t env)])(I:bg G c g σ env m s)(hx:ao (cU G) G c env g m s (x m σ)<|bq value env)(hf:∀v u aF aH aP,bg G c aP aF env m aH->VR G aH.heap aP v u->cb G c env aP aH (f v m aF) (do ib t env u;oV .next)):cb G c env g s (Mine.Lake.c9 x f m σ) (dZ (fJ [t] value pos) env):=ah (zm hs hw af7)<|cb.at_<|cb.c9 I hx λv aF aH aP u aU b6 cX=>hf v u aF aH aP aU cX
theorem ab3(I:bg G c g σ env m s)(hc:kD e=ag)(hx:ao (cU G) G c env g m s (x m σ)<|bq e env):cb G c env g s (Mine.Lake.c9 x (λ_=>SM.fl .next) m σ) (dZ (.Expr e pos) env):=by
 have hs:nJ e aj pos.line env=pure ak:=by induction e using nV<;>first|rfl|exact dC hc
 have e0:dZ (.Expr e pos) env=(do
  fk pos
  if wM env then printExpr (bq e env)
  else if <-nJ e aj pos.line env then do Ah e env λ_=>point;pure .next
  else do Kz e pos (<-bq e env)):=rfl
 refine ah e0<|ah (by unfold wM;refine ah I.br.kind ?_;rfl:wM env=ak) ?_;exact ah hs<|cb.at_<|cb.c9 (t:=bq e env) I hx λv aF aH aP u aU b6 cX=>λQv Ev z Q E q e=>Uy<|q .next _ _ _ _ _ z aU gR.refl rfl
end
section
variable{env:bS}{m:Env}
theorem JX(I:bg G c g σ env m s)(hm:av m i=aa v)(hv:aae env<|nm i)(hd:mJ (nm i)=ag)(q:∀u,VR G s.heap g v u->Q u s):bw (bh G.prog G.w) c.A (loadName env<|nm i) Q E s:=
 hv.elim (λhk=>I.br.ns.elim λmr n=>(n.2 i v hm hk).elim λu w=>J8 I.br.kind hk n.1 w.1<|q _ w.2) λhk=>hk.elim
  (λhk=>(I.br.n4 i v hm<|az hk).elim λy w=>w.elim λu w=>Um I.br.kind hk w.1 w.2.1<|q _ w.2.2)
  λhk=>(I.br.n4 i v hm<|aX hk).elim λy w=>w.elim λu w=>Un I.br.kind hk w.1 w.2.1 (q _ w.2.2) (pR hd).2
theorem V.Zn(e:v.cY=aa n):v=.tm n:=by induction v using V.casesOn<;>first|(obtain rfl:=fh e;rfl)|exact cV e
theorem Ql(I:bg G c g σ env m s){jN r w:V}(hm:av m i=aa jN)(e:MN jN r=aa w)(rr:VR G s.heap g r u):VR G s.heap g w u/\∀k,w=.tm k->¬c.lk k:=by
 unfold MN at e;refine oc (jN.cY) (λq=>?_) λn q=>?_
 ·rw[q]at e;exact cP e▸⟨rr.g7,λk z=>(tX z).elim⟩
 ·
  replace e:=q▸e;refine oc (r.slot) (λq2=>?_) λk q2=>?_
  ·rw[q2]at e;exact cV e
  ·
   replace e:=q2▸e;refine bd (dk k n) (λq3=>?_) λq3=>?_
   ·
    have e:(match dk k n with|true=>aa (V.tm k)|false=>aj)=aa w:=e;rw[q3]at e;exact cV e
   ·
    have e:(match dk k n with|true=>aa (V.tm k)|false=>aj)=aa w:=e;rw[q3]at e;obtain rfl:=fh e;exact ⟨rr.at q2,λj z=>by cases z;exact rN q3▸I.tm i n (V.Zn q▸hm)⟩
theorem ab4(op:G3)(hv:aae env<|nm i)(hd:mJ (nm i)=ag)(hk:env.kindOf (nm i)=aa .local\/env.kindOf (nm i)=aa .cell)(I:bg G c g σ env m s)(hx:ao (cU G) G c env g m s (x m σ)<|bq e env):cb G c env g s ((match av m i with
 |some jN=>Mine.Lake.c9 x (λv=>Mine.Lake.c9 (λ_=>vQ op jN.g7 v) λr=>λm=>SM.env ((MN jN r).map<|aN m i) m) m
 |none=>SM.no m) σ) (dZ (.AugAssign (aK (nm i) np) (tO op) e pos) env):=by
 rw[exec_AugAssign_Name]
 refine oc (av m i) (λhm=>hm▸λ_ _ z=>z.elim) λjN hm=>?_
 ·refine ah hm ?_
  intro Qv Ev z Q E q ex;refine aR<|gF<|aR<|JX I hm hv hd λu ru=>aR<|fE<|hx _ _ z _ _ (λv aF aH aP uv eT aU b6 cX=>aR<|gF<|aR ?_) λaF aH aP p eT aU b6 fl=>ex _ _ _ _ p eT aU (b6.l I.br) fl;refine ao.operate (B5 aU op (ru.g7.ext b6) cX) _ _ eT _ _ (λw dh da dL uw y cF di gk=>?_) λdh da dL p y cF di fl=>ex _ _ _ _ p y cF ((b6.trans di).l I.br) fl;replace y:SM.env ((MN jN w).map<|aN m i) m dh Qv Ev:=y;refine oc (MN jN w) (λqa=>?_) λv' qa=>?_
  ·rw[qa]at y;exact (y).elim
  ·
   replace y:=qa▸y;exact aR<|gF<|aR<|qv<|kh cF (Ql cF hm qa gk).1 (Ql cF hm qa gk).2 hk λwC pS oc=>bO<|q .next _ _ _ _ _ y pS (((b6.trans di).l I.br).trans<|oc.my cF.br) rfl
end
section
variable{env:bS}{m:Env}
theorem ab5(B:G.dB)(T:iU G){y:Env->M V}(op:G3)(I:bg G c g σ env m s)(hx:ao (cU G) G c env g m s (x m σ)<|bq o env)(hy:∀aF aH aP,bg G c aP aF env m aH->ao (cU G) G c env aP m aH (y m aF) (bq e env)):cb G c env g s (Mine.Lake.c9 x (λov=>Mine.Lake.c9 (λ_=>getAttr G.T ov i) λjN=>Mine.Lake.c9 y λv=>Mine.Lake.c9 (λ_=>vQ op jN v) λr=>Mine.Lake.c9 (λ_=>setAttr G.T ov i r) λ_=>SM.fl .next) m σ) (dZ (.AugAssign (d3 o (nm i) tp) (tO op) e pos) env):=by
 have ee:dZ (.AugAssign (d3 o (nm i) tp) (tO op) e pos) env=(do
  fk pos
  let ov <-bq o env
  let new <-kW [ov] (do
   fk tp.atName
   let jN <-wJ ov (nm i) ag
   let v <-kW [jN] (bq e env)
   fk pos
   operate [jN,v] (DN (tO op) jN v))
  fk tp.atName
  kW [new,ov] (oF ov (nm i) new)
  DQ [new,ov] []
  pure .next):=rfl
 refine ah ee<|cb.at_<|cb.c9 I hx λov aF aH aP uo aU b6 cX=>λQv Ev z Q E q ex=>aR<|fE<|aR<|gF<|aR ?_
 have ahF:∀{bP s' g' p},Ev m bP->bg G c g' bP env m s'->eJ aH.heap aP s'.heap g'->se g' bP p->E (ai p.1) s':=λz I x fl=>ex _ _ _ _ _ z I (x.l aU.br) fl
 refine B6 B T aU cX i ag _ _ z _ _ (λjN dh da dL anE gU cF di gk=>aR<|fE ?_) λdh da dL p gU cF di fl=>ahF gU cF di fl
 refine hy dh da dL cF _ _ gU _ _ (λv kB gd lG uv yI e9 eU CO=>aR<|gF ?_) λkB gd lG p yI e9 eU fl=>ahF yI e9 (di.trans eU) fl
 refine ao.operate (B5 e9 op (gk.ext eU) CO) _ _ yI _ _ (λw ai3 wC ak6 uw aed pS yL ak7=>aR<|gF<|aR<|fE ?_) λai3 wC ak6 p aed pS yL fl=>ahF aed pS ((di.trans eU).trans yL) fl
 exact B8 B T pS (((VR.ext di cX).ext eU).ext yL) ak7 i _ _ aed _ _ (λ_ ai4 Ib ak8 _ aee FX aef _=>aR<|DH<|bO<|q .next _ _ _ _ _ aee FX ((((di.trans eU).trans yL).trans aef).l aU.br) rfl) λai4 Ib ak8 p aee FX aef fl=>ahF aee FX (((di.trans eU).trans yL).trans aef) fl
structure pJ(c:Cn)(env:bS):Prop where
 fr:∃outer,c.fr=env::outer
 A:c.A.frames=aa c.fr
 L:∃L,env.frame=aa L
theorem Jj(F:pJ c env){Ev:Env->H->Prop}(I:bg G c g σ env m s)(fl:se g σ p)(y:Ev m σ)(ex:age G c env s.heap g Ev E):oO (bh G.prog G.w) c.A env (λe s'=>wN (bh G.prog G.w) c.A env E e s') (ai p.1) s:=
 F.fr.elim λouter Bq=>F.L.elim λL hL=>eZ fl.jm λC fs w=>O0 I F.A Bq hL ⟨fl.at_,w⟩ λgd e9 eU=>ex _ _ _ _ p y e9 (eU.l I.br) fl
structure ak9(G:GG)(c:Cn)(env:bS)(h:bX)(g:Gh)(x:Nat->SM)(Qv:Fl->Env->H->Prop)(Ev:Env->H->Prop)(n:Nat)(s':aY):Prop where
 out:∃g' m' bP,bg G c g' bP env m' s'/\gR c.lk env h g s'.heap g'/\x n m' bP Qv Ev
theorem Zo(F:pJ c env){f:SM}{pos:ca}(I:bg G c g σ env m s)(hc:∀m σ s g,bg G c g σ env m s->ao nz G c env g m s (cc m σ) (mF test env<|bq test env))(hf:∀m σ s g,bg G c g σ env m s->cb G c env g s (f m σ) (jF body env))(k:Nat):cb G c env g s (WQ cc f k m σ) (dZ (.While test body [] pos) env):=λQv Ev z Q E q ex=>by
 refine wpAny_While<|codeAny_whileLoop (ak9 G c env s.heap g (WQ cc f) Qv Ev) (λn s' W=>mY W.out λg' m' bP w=>?_) k ⟨g,m,σ,I,gR.refl,z⟩;refine agE w λI' x' z'=>?_;induction n using jP with
 |zero=>exact (z').elim
 |succ n=>
  refine hc m' bP s' g' I' _ _ z' _ _ (λb aF da dL b' gU cF di e=>?_) λaF da dL p y cF di fl=>Jj F cF fl y<|ex.ext<|x'.trans<|di.l I'.br;subst e;have X:=x'.trans<|di.l I'.br;induction b using fe with
  |false=>
   exact ah (if_neg fF)<|wpAny_execs_nil<|q .next _ _ _ _ _ gU cF X rfl
  |true=>
   refine ah (if_pos rfl)<|hf m' aF da dL cF _ _ gU _ _ (λfl yK kB gd lG u y e9 eU r=>?_) λyK kB gd lG p y e9 eU fl=>Jj F e9 fl y<|ex.ext<|X.trans eU;induction fl using Fl.casesOn with
   |next=>cases (show u=.next from r);exact (b0 n (pw _) ⟨lG,yK,kB,e9,X.trans eU,y⟩)
   |cont=>cases (show u=.cont from r);exact (b0 n (pw _) ⟨lG,yK,kB,e9,X.trans eU,y⟩)
   |ret v=>exact (r).elim λw k=>k.1▸q (.ret v) _ _ _ _ _ y e9 (X.trans eU) ⟨w,rfl,k.2⟩
end
section
set_option tactic.hygienic true
def tY(o:cC):Prop:=∃T,o.cls=aJ T/\(T="list_iterator"\/T="tuple_iterator"\/T="range_iterator"\/T="dict_keyiterator")
structure sS(G:GG)(xs:List P)(h₀:bX)(FY:Fz)(a:bj)(St:Nat->bX->Prop):Prop where
 x8:∃fp Pj,(∀A:qx,A.handled=aj->Walks G.prog G.w A a fp [a] xs.length Pj St)/\(∀b∈fp,b=a\/(FY b/\∃o,h₀.get? b=aa o))/\∀i u,i<xs.length->Pj i u->∃v,xs[i]?=aa v/\PR G h₀ FY v u
 cls:∀i h,St i h->∃o,h.get? a=aa o/\tY o
section
variable{env:bS}{m:Env}
theorem tY.ne{o:cC}(c:tY o){T:String}(h1:T≠"list_iterator")(h2:T≠"tuple_iterator")(h3:T≠"range_iterator")(h4:T≠"dict_keyiterator"):o.cls≠aJ T:=λe=>c.elim λT' w=>by
 rw[(lP<|w.1.symm.trans e)]at w;exact w.2.elim h1 λw=>w.elim h2 λw=>w.elim h3 h4
theorem tY.vr{o:cC}(c:tY o):¬qW o:=λq=>c.ne (by decide) (by decide) (by decide) (by decide) q.1
theorem XO{a:bj}{F:Fz}{o:cC}(f:F b)(e:h.get? b=aa o):∀x∈[a,b],x=a\/(F x/\∃o,h.get? x=aa o):=λx hx=>(dU.mp hx).imp id λhx=>by exact (fq.mp hx)▸⟨f,o,e⟩
theorem bR.at{R:α->β->Prop}:∀{as:List α}{bs:List β}{i:Nat}{b:β},bR R as bs->bs[i]?=aa b->∃a,as[i]?=aa a/\R a b:=@lr _ _
 (@λ_ _ _ h e=>by replace e:=h.nil▸e;exact cV e)
 (λa as ih=>@λbs i b h e=>by
  induction bs using cZ with
  |nil=>exact h.elim
  |cons b' bs=>induction i using jP with
   |zero=>obtain rfl:=fh e;exact (b0 a rfl h.1)
   |succ i=>exact ih (i:=i) h.2 e)
theorem ab6{R:P->au->Prop}{F:Fz}:∀{ks:List bV}{kvs:List (bV×au)},ks=kvs.map (·.1)->ks.all LX=ag->∀{i:Nat}{k:bV}{x w:au},kvs[i]?=aa (k,x)->jC k w=ag->∃v,(mB ks)[i]?=aa v/\PR G h F v w:=λ{ks kvs}e o{i k x w}h1 h2=>
 (b0 k.val (mz.trans<|congrArg (Ac _)<|e▸(mz.trans<|congrArg (Ac _) h1))<|XG (k:=k) h2<|lO.mp o k<|w7<|e▸(mz.trans<|congrArg (Ac _) h1))
theorem Jk{xs:List P}{a n:bj}{F:Fz}{St:Nat->bX->Prop}{T:String}(hT:T="list_iterator"\/T="tuple_iterator"\/T="range_iterator"\/T="dict_keyiterator")(f:F a){o:cC}(ga:h.get? a=aa o)(rs:bR (PR G h F) xs its)(w:∀A:qx,A.handled=aj->Walks G.prog G.w A n [n,a] [n] its.toArray.size (λi v=>its.toArray[i]?=aa v) St)(hc:∀i h,St i h->∃o,h.get? n=aa o/\o.cls=aJ T):sS G xs h F n St:=
 ⟨(gZ [n,a] (λi v=>its.toArray[i]?=aa v) (λA hh=>rs.length.symm▸w A hh) (XO f ga) λi w _ hw=>rs.at<|(D6 ..).symm.trans hw),λi h st=>cE (hc i h st) λo e k=>(b0 o e ⟨T,k,hT⟩)⟩
theorem SY{a b:Bool}(h:a=ag)(g:b=ag):(a&&b)=ag:=by refine ah h<|ah g ?_;rfl
theorem ahG{i:Int}(h:-10000000<i)(g:i<10000000):aeA i=ag:=SY (decide_eq_true<|aab h)<|decide_eq_true<|aaa g
theorem S2{lo:Int}(q:-1000000<=lo/\lo<=1000000/\-1000000<=hi/\hi<=1000000):Wv lo hi 1=ag:=by
 unfold Wv;rw[Wi];refine SY (SY (SY (SY (ahG (uO (by decide) q.1)<|qg q.2.1<|by decide)<|ahG (uO (by decide) q.2.2.1)<|qg q.2.2.2<|by decide) rt)<|ahG (uO (by decide)<|gG _) ?_) (Ee.mpr<|aX<|(VG hi).symm▸(ahG (uO (by decide) q.2.2.1)<|qg q.2.2.2<|by decide));rw[Int.ofNat_toNat];exact qg (Int.max_le.mpr ⟨VC q.2.2.2 q.1,by decide⟩)<|dc rt
theorem Zp(I:bg G c g σ env m s){lo:Int}{a:bj}{t2 t3:kL}(ga:s.heap.get? a=aa {cls:=aJ "range",data:=.fields #[.int lo t1,.int hi t2,.int 1 t3]})(q:-1000000<=lo/\lo<=1000000/\-1000000<=hi/\hi<=1000000){E:au->aY->Prop}(z:∀oI St,sS G ((AI (hi - lo).toNat).map λ(k:Nat)=>P.int<|lo+(k:Int)) s.heap g.F s.heap.objs.size St->St 0 (s.heap.push oI)->Q (ai s.heap.objs.size) {s with heap:=s.heap.push oI}):bw (bh G.prog G.w) c.A (pyIter<|ai a) Q E s:=by
 refine wpAny_pyIter_range (t:=t1) (u:=t2) (v:=t3) ga (S2 q)<|ah (Wi lo hi)<|z _ (λi h=>IsRangeIter h s.heap.objs.size (lo+(i:Nat)*1) (((hi - lo).toNat:Int) - (i:Nat)) 1) ⟨(gZ [s.heap.objs.size] (λi v=>∃t,v=.int (lo+i*1) t) (λA hh=>?_) (λb hb=>az<|fq.mp hb) λi w xK hw=>?_),λi h st=>(b0 _ st ⟨_,rfl,aX<|aX<|az rfl⟩)⟩ ?_
 ·have:=Walks.range (prog:=G.prog) (w:=G.w) hh s.heap.objs.size lo 1 (hi - lo).toNat
  rw[cq,Lf];exact this
 ·rw[cq,Lf]at xK
  exact (b0 (.int<|lo+(i:Int)) (by refine ah (mz) ?_;refine ah (List.getElem?_range xK) ?_;rfl)<|hw.elim λt q=>by refine ah q ?_;rw[VI];exact ⟨t,rfl⟩)
 ·simpa using fZ s.heap rfl
theorem Qm(I:bg G c g σ env m s){x:P}{u:au}{xs:List P}(e:hX x=aa xs)(r:PR G s.heap g.F x u){E:au->aY->Prop}(z:∀oI St,sS G xs s.heap g.F s.heap.objs.size St->St 0 (s.heap.push oI)->Q (ai s.heap.objs.size) {s with heap:=s.heap.push oI}):bw (bh G.prog G.w) c.A (pyIter u) Q E s:=by
 induction x using P.casesOn with
 |jH vs=>
  obtain rfl:=fh e;refine aai (oE.out r) λa its n w f z'=>?_;have Mn:=m7<|hJ z'.1;exact w▸wpAny_pyIter_tuple ⟨_,z'.1,rfl,_,rfl⟩ (z _ _ (Jk (aX<|az rfl) f z'.1 (gu▸z'.2) (λA hh=>Walks.tuple hh s.heap.objs.size a Mn its.toArray) λi h st=>st.1.elim λo w=>(b0 o w.1 w.2.1)) ⟨⟨_,fZ _ rf,rfl,rfl⟩,_,bY _ _ _ _ z'.1,rfl,_,rfl⟩)
 |fl vs=>
  obtain rfl:=fh e;refine aai (oE.out r) λa its n w f z'=>?_;have Mn:=m7<|hJ z'.1;exact w▸Us ⟨_,z'.1,rfl,_,rfl⟩ (z _ _ (Jk (az rfl) f z'.1 (gu▸z'.2) (λA hh=>Walks.list hh s.heap.objs.size a Mn its.toArray) λi h st=>st.1.elim λo w=>(b0 o w.1 w.2.1)) ⟨⟨_,fZ _ rf,rfl,rfl⟩,_,bY _ _ _ _ z'.1,rfl,_,rfl⟩)
 |fd ks vs=>
  have e:(match dk ks.length vs.length with|true=>aa (mB ks)|false=>aj)=aa xs:=e;refine bd (dk ks.length vs.length) (λq=>by rw[q]at e;exact cV e) λq=>?_;rw[q]at e;obtain rfl:=fh e;exact alw (Fx.out r) λa kvs w2 f d ns k1 k2 _=>d.dictAt.elim λep Mx=>eZ Mx λo gB ho=>w2▸wpAny_pyIter_dict ns Mx (z _ (λi h=>h.IsKeyIter s.heap.objs.size a i kvs.length ep/\h.DictAt G.kk a kvs ep) ⟨(gZ [s.heap.objs.size,a] (λi v=>∃k x,kvs[i]?=aa (k,x)/\G.kk.is k v=ag) (λA hh=>(ah k1<|((cq ..).trans<|cq ..).symm:kvs.length=(mB ks).length)▸Walks.dictKeys hh s.heap.objs.size a (m7<|hJ ho.1) kvs ep) (XO f ho.1) λi w _ hw=>eZ hw λk x w=>ab6 (R:=PR G s.heap g.F) k1 k2 w.1 w.2),λi h st=>st.1.elim λo w=>(b0 o w.1 ⟨_,w.2.1,aX<|aX<|aX rfl⟩)⟩ ⟨⟨_,fZ _ rf,rfl,rfl⟩,Mx.push _⟩)
 |BN lo hi=>
  have e:(match decide (-1000000<=lo/\lo<=1000000/\-1000000<=hi/\hi<=1000000)with|true=>aa ((AI (hi - lo).toNat).map λ(k:Nat)=>P.int<|lo+(k:Int))|false=>aj)=aa xs:=e;refine bd (decide<|-1000000<=lo/\lo<=1000000/\-1000000<=hi/\hi<=1000000) (λq=>by rw[q]at e;exact cV e) λq=>?_;rw[q]at e;obtain rfl:=fh e;exact agF (Z5.out r) λa t1 t2 t3 w4 w=>w4▸Zp I w.2 (of_decide_eq_true q) z
 |_=>exact cV e
end
end
section
set_option tactic.hygienic true
section
variable{env:bS}{m:Env}{FY:Fz}
theorem jc.my(l:jc G c env h g a)(x:gR c.lk env h g h' g'){o:cC}(e:h.get? a=aa o):jc G c env h' g' a:=
 ⟨λf=>(x.fresh a f).elim l.nf λq=>(by rw[q]at e;exact cV e),l.h0,l.cY,l.fr,λo' e'=>(x.keep a o e (λq=>l.nf<|az q) (l.tb o e) λq=>l.cY a q rfl).elim λsl w=>by
  rw[e']at w;exact ah (cP w.1)<|λq=>l.tb o e ⟨q.1,q.2⟩⟩
theorem jc.yM(l:jc G c env h g a)(nt:∀o,h'.get? a=aa o->¬qW o):jc G c env h' g a:=⟨l.nf,l.h0,l.cY,l.fr,nt⟩
theorem gR.yM(x:gR L env h₀ mu h g)(fr:h₀.get? a=aj)(k:∀b o,b≠a->h.get? b=aa o->h'.get? b=aa o):gR L env h₀ mu h' g:=by
 have ne:∀{b o},h₀.get? b=aa o->b≠a:=λe w=>by rw[w,fr]at e;exact cV e
 exact ⟨λb o e nf nt no=>(x.keep b o e nf nt no).elim λsl w=>(b0 sl (k b _ (ne e) w.1) w.2),λb o e q=>(x.cY b o e q).elim λo' w=>(b0 o' (k b _ (ne e) w.1) w.2),λb o f e=>⟨(x.ji b o f e).1,k b o (ne e) (x.ji b o f e).2⟩,x.rA,x.fresh,λb o e=>(x.jW b o e).elim λo' e'=>⟨o',k b o' (ne e) e'⟩⟩
theorem FZ{xs:List P}{St:Nat->bX->Prop}(K:sS G xs h₀ FY a St)(I:bg G c g σ env m s)(hh:c.A.handled=aj)(l:jc G c env s.heap g a)(fx:lH h₀ FY s.heap g.F)(st:St i s.heap)(hi:i<xs.length){Q:Option au->aY->Prop}(z:∀u v s',xs[i]?=aa v->PR G s'.heap g.F v u->bg G c g σ env m s'->St (i+1) s'.heap->jc G c env s'.heap g a->(∀b o,b≠a->s.heap.get? b=aa o->s'.heap.get? b=aa o)->Q (aa u) s'):bw (bh G.prog G.w) c.A (KQ<|ai a) Q E s:=
 eZ K.x8 λfp Pj W=>(W.1 c.A hh).item i s Q E hi st λu h' tk ann My k=>by
  have k':∀b o,b≠a->s.heap.get? b=aa o->h'.get? b=aa o:=λb o nb e=>k b o (λw=>nb<|fq.mp w) e;exact (W.2.2 i u hi ann).elim λv w=>z u v {s with heap:=h',toks:=tk} w.1 (PR.bL (λb o f e=>⟨(fx b o f e).1,k' b o (λw=>l.nf<|aX<|w▸(fx b o f e).1) (fx b o f e).2⟩) v w.2) (I.n5 l k') My (l.yM λo e=>(K.cls _ _ My).elim λo' w=>ah (cP<|e.symm.trans w.1)<|w.2.vr) k'
theorem F0{xs:List P}{St:Nat->bX->Prop}(K:sS G xs h₀ FY a St)(I:bg G c g σ env m s)(hh:c.A.handled=aj)(l:jc G c env s.heap g a)(st:St xs.length s.heap){Q:Option au->aY->Prop}(z:∀s',bg G c g σ env m s'->(∀b o,b≠a->s.heap.get? b=aa o->s'.heap.get? b=aa o)->Q aj s'):bw (bh G.prog G.w) c.A (KQ<|ai a) Q E s:=
 eZ K.x8 λfp Pj W=>(W.1 c.A hh).done s Q E st λh' tk k=>
  z {s with heap:=h',toks:=tk} (I.n5 l λb o nb e=>k b o (λw=>nb<|fq.mp w) e) (λb o nb e=>k b o (λw=>nb<|fq.mp w) e)
theorem vM{xs:List P}{St:Nat->bX->Prop}(K:sS G xs h₀ FY a St)(l:jc G c env h g a)(fx:lH h₀ FY h g.F)(st:St i h)(x:gR c.lk env h g h' g'):St i h':=
 eZ K.x8 λfp Pj W=>(W.1 {handled:=aj} rn).frame i h h' st λb hb o e=>(W.2.1 b hb).elim (λq=>by
  refine cE (K.cls i h st) λo' e' hc=>?_;rw[q]at e⊢;rw[e]at e';obtain rfl:=fh e';refine cE (x.keep a o e (λf=>l.nf<|az f) hc.vr λw=>l.cY a w rfl) λsl e2 k=>ah e2<|ah (k<|hc.ne (dc rt) (dc rt) (dc rt)<|dc rt) ?_;rfl)
  λw=>w.2.elim λFC s8=>by
   have y:=fx b FC w.1 s8;exact ah (cP<|e.symm.trans y.2)<|(x.ji b FC y.1 y.2).2
end
end
section
variable{env:bS}{m:Env}
theorem HO(hc:T="list_iterator"\/T="tuple_iterator"\/T="range_iterator"\/T="dict_keyiterator"):["enumerate","zip","dict_itemiterator","dict_reverseitemiterator","odict_iterator","itertools.zip_longest","itertools.pairwise"].contains T=ak:=by
 rcases hc with rfl|rfl|rfl|rfl<;>rfl
set_option backward.match.sparseCases true in
theorem JY{M:iy}{Q:Unit->aY->Prop}{v:au}(ha:s.heap.get? a=aa o)(hc:tY o)(h:Q () s):bw M A (letOwnedTupleGo target (ai a) v) Q E s:=by
 have key:∀b,bw M A (do
  let o <-load a
  match o.cls,o.data with
  |aJ n,.fields vs=>
   if ["enumerate","zip","dict_itemiterator","dict_reverseitemiterator","odict_iterator","itertools.zip_longest","itertools.pairwise"].contains n&&vs[0]?==aa (uH b)then
    rule "for.unpacks-the-owned-tuple"
    updateField a 0 .none
  |_,_=>pure ()) Q E s:=λb=>by
  refine aR<|Kt ha ?_
  refine cE hc λT k hT=>?_
  obtain ⟨oc,od,XH,adl⟩:=o
  obtain rfl:=k
  induction XH using uU<;>first|exact bO h|exact wn (λq=>dC<|(HO hT).symm.trans<|aq q) (bO h)
 induction target using nV<;>first|exact bO h|(induction v using Lz<;>first|exact bO h|exact key _)
def sT(at_:P->SM)(bd:SM)(x:P):SM:=λm σ Q E=>at_ x m σ (λ_ m' bP=>bd m' bP Q E) λ_ _=>False
structure ads(G:GG)(c:Cn)(env:bS)(h₀:bX)(mu:Gh)(a:bj)(St:Nat->bX->Prop)(f:P->SM)(xs:List P)(Qv:Fl->Env->H->Prop)(Ev:Env->H->Prop)(n:Nat)(s':aY):Prop where
 out:∃i g' m' bP,(n+i=xs.length+1/\i<=xs.length/\St i s'.heap)/\(bg G c g' bP env m' s'/\gR c.lk env h₀ mu s'.heap g'/\jc G c env s'.heap g' a)/\jf f (xs.drop i) m' bP Qv Ev
theorem F2(hn:n+i=k+1)(xK:i<k):∃j,j<n/\j+(i+1)=k+1:=by
 induction n using jP with
 |zero=>exact absurd xK<|qy.mpr<|bo (kZ _)<|bx<|hn.symm.trans<|lN i
 |succ j=>exact (b0 j (pw j)<|(KY j i).symm.trans hn)
theorem ab7{xs:List α}{v:α}(h:xs[i]?=aa v):xs.drop i=v::xs.drop (i+1):=by
 obtain ⟨xK,e⟩:=pz.mp h;refine ah (U' xK)<|ah e ?_;rfl
@[elab_as_elim] theorem MB.cs{P:Fl->mG->Prop}{fl:Fl}{u:mG}(r:MB G h g fl u)(n:P .next .next)(k:P .cont .cont)(v:∀x w,VR G h g x w->P (.ret x) (.ret w)):P fl u:=by
 induction fl using Fl.casesOn with
 |next=>obtain rfl:=(r);exact n
 |cont=>obtain rfl:=(r);exact k
 |ret x=>exact (r).elim λw k=>k.1▸v x w k.2
theorem O3{xs:List P}{St:Nat->bX->Prop}(K:sS G xs h₀ mu.F a St)(fr:h₀.get? a=aj)(hh:c.A.handled=aj){bd:SM}{body:List dO}(Mx:∀v u m σ s g,bg G c g σ env m s->PR G s.heap g.F v u->∀Qv,at_ v m σ Qv (λ_ _=>False)->∀Q E,(∀f m' bP s' g',Qv f m' bP->bg G c g' bP env m' s'->gR c.lk env s.heap g s'.heap g'->Q () s')->bw (bh G.prog G.w) c.A (ib target env u) Q E s)(ajZ:∀m σ s g,bg G c g σ env m s->cb G c env g s (bd m σ) (jF body env))(I:bg G c g σ env m s)(l:jc G c env s.heap g a)(st:St 0 s.heap)(x:gR c.lk env h₀ mu s.heap g){Qv:Fl->Env->H->Prop}{Ev:Env->H->Prop}(z:jf (sT at_ bd) xs m σ Qv Ev)(q:adp G c env h₀ mu Qv λfl s'=>R (.ok fl) s'):kI (bh G.prog G.w) c.A (.forLoop target (ai a) body [] env) R s:=by
 refine codeAny_forLoop_any (ads G c env h₀ mu a St (sT at_ bd) xs Qv Ev) (λn s' W=>eZ W.out λi g' w=>oi w λm' bP My I' z'=>?_) (xs.length+1) ⟨0,g,m,σ,(k8 rfl (bH _) st),(k8 I x l),z⟩;refine (Nat.lt_or_ge i xs.length).elim (λxK=>?_) λamb=>?_
 ·refine FZ K I'.1 hh I'.2.2 I'.2.1.ji My.2.2 xK λu v aH hv rv aU HP l₁ k₁=>(K.cls _ _ HP).elim λo ho=>JY ho.1 ho.2 ?_
  have b6:=I'.2.1.yM fr k₁;refine Mx v u m' bP aH g' aU rv _ (ab7 hv▸z') _ _ λ_ m₂ dh da dL y cF di=>?_;have adt:=vM K l₁ b6.ji HP di;refine ajZ m₂ dh da dL cF _ _ y _ _ (λfl yK kB gd lG u y e9 eU r=>?_) λyK kB gd lG p y e9 eU fl=>y.elim;have more:jf (sT at_ bd) (xs.drop<|i+1) yK kB Qv Ev->∃k<n,ads G c env h₀ mu a St (sT at_ bd) xs Qv Ev k gd:=λy=>(K.cls _ _ adt).elim λSP l4=>cE (F2 My.1 xK) λk k1 k2=>(b0 k k1 ⟨i+1,lG,yK,kB,(k8 k2 xK<|vM K (l₁.my di ho.1) (b6.trans di).ji adt eU),(k8 e9 ((b6.trans di).trans eU)<|(l₁.my di ho.1).my eU l4.1),y⟩)
  revert y;exact MB.cs r more more λv w k y=>q (.ret v) _ _ _ _ _ y e9 ((b6.trans di).trans eU) ⟨w,rfl,k⟩
 ·have e:=kn My.2.1 amb
  exact F0 K I'.1 hh I'.2.2 (e▸My.2.2) λaH aU k₁=>DB<|q .next _ _ _ _ _ (K9 amb▸z':jf (sT at_ bd) [] m' bP Qv Ev) aU (I'.2.1.yM fr k₁) rfl
end
section
variable{env:bS}{m:Env}
theorem agj(hh:c.A.handled=aj){bd:SM}{target it:bA}(hp:gP it=ag)(I:bg G c g σ env m s)(hx:ao (cU G) G c env g m s (x m σ)<|bq it env)(Mx:∀v u m σ s g,bg G c g σ env m s->PR G s.heap g.F v u->∀Qv,at_ v m σ Qv (λ_ _=>False)->∀Q E,(∀f m' bP s' g',Qv f m' bP->bg G c g' bP env m' s'->gR c.lk env s.heap g s'.heap g'->Q () s')->bw (bh G.prog G.w) c.A (ib target env u) Q E s)(ajZ:∀m σ s g,bg G c g σ env m s->cb G c env g s (bd m σ) (jF body env)):cb G c env g s (Mine.Lake.c9 x (λv=>λm σ Q E=>match v.pl.bind hX with
 |some xs=>jf (sT at_ bd) xs m σ Q E
 |none=>False) m σ) (dZ (.For target it body [] pos) env):=λQv Ev z Q E q ex=>by
 refine wpAny_For ?_ (λv=>by induction it using nV<;>first|rfl|exact dC hp)
 refine hx _ _ z _ _ (λv aF aH aP u eT aU b6 cX=>?_) λaF aH aP p y aU b6 fl=>ex _ _ _ _ p y aU (b6.l I.br) fl
 refine oc (v.pl.bind hX) (λhi=>?_) λxs hi=>?_
 ·
  have eT:(match v.pl.bind hX with|some xs=>jf (sT at_ bd) xs m aF Qv Ev|none=>False):=eT;replace eT:=hi▸eT;exact eT.elim
 ·
  have eT:(match v.pl.bind hX with|some xs=>jf (sT at_ bd) xs m aF Qv Ev|none=>False):=eT;rw[hi]at eT;exact (cR hi).elim λy w=>Qm aU w.2 (cX.pl w.1) λoI St K st=>O3 K (cp aH.heap) hh Mx ajZ (aU.push oI aH.toks).1 (aU.NA (cp aH.heap) λo e=>(K.cls _ _ st).elim λo' w=>ah (cP<|e.symm.trans w.1)<|w.2.vr) st ((aU.push oI aH.toks).2.l aU.br) eT<|q.ext<|b6.l I.br
theorem JZ(hk:env.kindOf (nm i)=aa .local\/env.kindOf (nm i)=aa .cell)(v:P)(u:au)(m:Env)(σ:H)(s:aY)(g:Gh)(I:bg G c g σ env m s)(r:PR G s.heap g.F v u)(Qv:Fl->Env->H->Prop)(z:SM.env (aa<|aN m i<| .p v) m σ Qv λ_ _=>False) Q E (q:∀f m' bP s' g',Qv f m' bP->bg G c g' bP env m' s'->gR c.lk env s.heap g s'.heap g'->Q () s'):bw (bh G.prog G.w) c.A (ib (aK (nm i) pos) env u) Q E s:=by
 exact aR (gF<|qv<|kh I (v:=.p v) r (λn e=>by contradiction) hk λs' I' oc=>q _ _ _ _ _ z I'<|oc.my I.br)
end
theorem F3:∀{m:Env}{j:Nat}{v:V},noRef n m=ag->av m j=aa v->v.zI n=ak:=@lr _ _
 (@λ_ _ _ e=>cV e)
 (@pr _ _ _ (λk w m ih=>@λj v h e=>by
  have h:(match w.zI n with|true=>ak|false=>noRef n m)=ag:=h;cases q:w.zI n with
  |true=>rw[q]at h;exact dC h
  |false=>
   rw[q]at h;rw[Bd]at e;by_cases z:k=j
   ·rw[if_pos z]at e;exact cP e▸q
   ·rw[if_neg z]at e;exact ih h e))
theorem tA{A:Type}:∀{m}{j:Nat}{v:A},av (cW m i) j=aa v->av m j=aa v:=@lr _ _
 (@λ_ _ e=>cV e)
 (@pr _ _ _ (λk w m b5=>@λj v e=>by
  rw[LW]at e;by_cases z:k=i
  ·replace e:=(if_pos z)▸e
   have e:=b5 e;rw[Bd];by_cases y:k=j
   ·have no:∀{m:List (Nat×A)},av (cW m i) i=aj:=λ{m}=>by
     induction m with
     |nil=>rfl
     |cons x m ih=>
      rw[WS];by_cases q:x.1=i
      ·rw[if_pos q];exact ih
      ·rw[if_neg q];rw[WR];exact ah (if_neg q)<|ih
    rename_i e0
    rw[<-y,z,no]at e0;exact cV e0
   ·exact ah (if_neg y)<|e
  ·replace e:=(if_neg z)▸e
   rw[Bd]at e⊢;by_cases y:k=j
   ·rw[if_pos y]at e⊢;exact e
   ·rw[if_neg y]at e⊢;exact b5 e))
section
variable{env:bS}{m:Env}
abbrev Gh.u9(g:Gh)(n:Nat)(a:bj):Gh:=⟨g.ρ.fP n aj,λb=>g.F b\/b=a⟩
theorem At.u9(ne:k≠n)(r:At g.ρ k u):At (g.u9 n a).ρ k u:=r.out.elim λb w=>w.elim λst w=>⟨b,st,w.1,(if_neg ne).trans w.2.1,w.2.2⟩
theorem VR.u9(hn:n<10)(nr:v.zI n=ak)(r:VR G h g v u):VR G h (g.u9 n a) v u:=by
 induction v using V.casesOn with
 |p x=>exact PR.bL (λb o f e=>⟨az f,e⟩) x r
 |ob k=>exact At.u9 (λq=>by rw[q]at nr;exact absurd (show dk n n=ak from nr)<|by rw[sw];exact λz=>by cases z) r
 |tm k=>exact At.u9 (λq=>by rw[q]at nr;exact absurd (show dk n n=ak from nr)<|by rw[sw];exact λz=>by cases z) r
 |dy k=>exact ⟨At.u9 (λq=>qy.mpr r.2<|q▸hn) r.1,r.2⟩
theorem Zq(hn:n<10)(w:afP v=ag):(∃x,v=.p x)\/v.zI n=ak:=by
 induction v using V.casesOn with
 |p x=>exact az ⟨x,rfl⟩
 |ob k=>
  refine aX ?_;cases q:dk k n with
  |false=>exact q
  |true=>exact absurd (jA<|w)<|U8.mpr<|rN q▸hn
 |tm k=>exact dC w
 |dy k=>exact aX rf
theorem OR.u9(hn:n<10)(r:OR G h g o p)(ano:∀b,b=a->∃o,h.get? b=aa o/\¬qW o):OR G h (g.u9 n a) o p:=by
 have px:∀{x u},PR G h g.F x u->PR G h (g.u9 n a).F x u:=λ{x u}r=>PR.bL (λb o f e=>⟨az f,e⟩) x r;induction o using O.casesOn with
 |free=>exact r.elim
 |nh=>exact r.elim
 |ls xs=>exact (ajN.out r).elim λits w=>w.elim λk w=>⟨its,k,w.1,w.2.1,w.2.2.bL λ_ _=>px⟩
 |dc es=>exact (R8.out r).elim λkvs w=>⟨kvs,w.1,w.2.1,w.2.2.bL λ_ _ y=>⟨y.1,px y.2⟩⟩
 |rd es=>exact (R8.out r).elim λkvs w=>⟨kvs,w.1,w.2.1,w.2.2.bL λ_ _ y=>⟨y.1,At.u9 (λq=>qy.mpr y.2.2<|q▸hn) y.2.1,y.2.2⟩⟩
 |iF c fs=>exact ⟨BX.ne r,BX.ob r,(BX.fs r).elim λgB w=>w.elim λk w=>(jY gB k w.1 (w.2.bL λ_ _ y=>⟨y.1,(Zq hn y.2.2).elim (λq=>q.elim λx q=>by
  have z:=y.2.1;rw[q]at z⊢;exact px z) λq=>VR.u9 hn q y.2.1,y.2.2⟩))⟩
 |jm c fs=>exact r.elim λvs w=>⟨vs,⟨w.1.ne,w.1.ob,w.1.fs.elim λgB w=>w.elim λk w=>(jY gB k w.1<|w.2.bL λ_ _ y=>⟨y.1,px y.2⟩)⟩,w.2.size,w.2.tb.imp id λt=>t.elim λT t=>(b0 T t.1<|t.2.out.elim λoT y=>y.elim λts y=>⟨oT,ts,y.1,y.2.1,y.2.2.1,y.2.2.2.1,y.2.2.2.2.1,λf=>f.elim y.2.2.2.2.2 λf=>(ano T f).elim λo' e=>e.2<|ah (cP<|e.1.symm.trans y.1)<|⟨y.2.1,ts,y.2.2.1⟩⟩)⟩
end
section
set_option tactic.hygienic true
section
variable{env:bS}{m:Env}
theorem sZ.u9(hp:g.ρ n=aa (aa p))(r:sZ h g b):sZ h (g.u9 n p.1) b:=⟨r.1,λf=>r.2 (f.elim (λf=>eZ f λk q w=>by
 by_cases z:k=n
 ·have:=(if_pos z).symm.trans w.1;exact cV this
 ·exact az ⟨k,q,(if_neg z).symm.trans w.1,w.2⟩) λf=>f.elim aX λf=>az ⟨n,p,hp,az f⟩)⟩
structure tZ(G:GG)(h:bX)(g:Gh)(n:Nat)(a:bj)(w v:V):Prop where
 r:∀u,VR G h g w u->VR G h (g.u9 n a) v u
 t:∀k,v=.tm k->w=.tm k
theorem tZ.jx(hn:n<10)(nr:v.zI n=ak):tZ G h g n a v v:=⟨λu=>VR.u9 hn nr,λ_ e=>e⟩
theorem bg.free(I:bg G c g σ env m s)(hn:n<10)(nx:dD=n->c.hd=ak)(hp:g.ρ n=aa (aa p))(nl:¬c.lk n)(hm:∀i v,av m' i=aa v->∃w,av m i=aa w/\tZ G s.heap g n p.1 w v):bg G c (g.u9 n p.1) (aG σ n .free) env m' s/\gR c.lk env s.heap g s.heap (g.u9 n p.1):=by
 have eo:=I.br;refine ⟨⟨I.keep,I.dR.ahs hp (az ⟨rfl,rfl⟩) λk x q _ _ z=>OR.u9 hn z λb e=>(I.dR.z0 ⟨n,p,hp,az e⟩).elim λo w=>(b0 o w.1 w.2.1),⟨eo.kind,eo.fy,eo.pQ,eo.ns.elim λmr w=>(b0 mr w.1 λi v a b=>(hm i v a).elim λx q=>(w.2 i x q.1 b).elim λu y=>(b0 u y.1<|q.2.r u y.2)),λb q=>⟨sZ.u9 hp (eo.cY b q).1,(eo.cY b q).2⟩,eo.cells,
  λi v a b=>(hm i v a).elim λx q=>eZ (eo.n4 i x q.1 b) λy u w=>(gZ y u w.1 w.2.1<|q.2.r u w.2.2),eo.qq,eo.apart⟩,I.frames,λe he L hL=>⟨sZ.u9 hp (I.tu e he L hL).1,(I.tu e he L hL).2⟩,
  ⟨I.jS.1,λq=>(I.jS.2 q).elim λpl w=>(b0 pl ⟨(if_neg λz=>by rw[nx z]at q;exact dC q).trans w.1.at_,eZ w.1.jm λk fs y=>(yQ k fs<|by rw[kg,if_neg λz=>by rw[nx z]at q;exact dC q];exact y)⟩ w.2)⟩,λk q e=>I.lk k q<|(if_neg (λz:k=n=>nl<|z▸q)).symm.trans e,
  λi k e=>(hm i _ e).elim λw q=>I.tm i k<|q.2.t k rfl▸q.1,I.gens,I.os,I.drawn,λb o e=>az<|I.y6 b o e⟩,
  ⟨λb o e _ _ _=>(b0 o.slots e λ_=>rfl),λb o e _=>(b0 o e rfl),λb o f e=>⟨az f,e⟩,λk st e l=>az<|(if_neg (λz:k=n=>nl<|z▸l)).trans e,λb f=>az ?_,λb o e=>⟨o,e⟩⟩⟩
 exact f.elim (λf=>eZ f λk q w=>by
  by_cases z:k=n
  ·have:=(if_pos z).symm.trans w.1;exact cV this
  ·exact az ⟨k,q,(if_neg z).symm.trans w.1,w.2⟩) λf=>f.elim aX λf=>az ⟨n,p,hp,az f⟩
end
end
section
set_option tactic.hygienic true
section
variable{env:bS}{m:Env}
def ki(env:bS):List Nat->List bA->Prop
 |[],l=>l=[]
 |i::is,l=>∃p r,l=aK (nm i) p::r/\(env.kindOf (nm i)=aa .local\/env.kindOf (nm i)=aa .cell)/\ki env is r
theorem ki.len:∀{is}{l},ki env is l->(nH l env).length=is.length:=@lr _ _
 (@λ_ h=>by refine ah (h) ?_;rfl)
 (λi is ih=>@λl h=>eZ h λp r w=>w.1▸congrArg (·+1) (ih w.2.2))
theorem ki.ala:∀{is}{l},ki env is l->(nH l env).findIdx? (·.1)=aj:=@lr _ _
 (@λ_ h=>by refine ah (h) ?_;rfl)
 (λi is ih=>@λl h=>eZ h λp r w=>by
  refine ah w.1 ?_;refine ah (List.findIdx?_cons) ?_;refine ah (ih w.2.2) ?_;rfl)
theorem S4:∀{is}{l}{vs}{us}{m:Env}{s}{Q}{E},ki env is l->bg G c g σ env m s->bR (VR G s.heap g) vs us->vt vs->ow m is vs=aa m'->(∀s',bg G c g σ env m' s'->jT env s.heap s'.heap->Q () s')->bw (bh G.prog G.w) c.A (UJ ((nH l env).map (·.2)) us) Q E s:=@lr _ _
 (@λl vs us m s Q E N I r nt e z=>by
  induction vs using cZ with
  |nil=>
   refine ah (N) ?_;obtain rfl:=fh e;exact bO<|z s I<|jT.refl I.br
  |cons=>exact cV e)
 (λi is ih=>@λl vs us m s Q E N I r nt e z=>by
  induction vs using cZ with
  |nil=>exact cV e
  |cons v vs=>
   exact eZ r.cons λu adq w=>eZ N λp l' y=>by
    refine ah y.1<|ah w.1 ?_;exact aR (fE (aR (gF (qv (kh I w.2.1 (λn e=>(nt.1 n e).elim) y.2.1 λs' I' oc=>
     ih y.2.2 I' (w.2.2.bL λ_ _ r=>r.bL (oc.my (L:=c.lk) I.br).ji λ_ _=>az) nt.2 e λMA SR ajU=>z MA SR<|oc.trans ajU))))))
theorem zn(hh:c.A.handled=aj)(N:ki env is l)(I:bg G c g σ env m s)(e:s.heap.get? a=aa (xT us.toArray n))(r:bR (VR G s.heap g) vs us)(nt:vt vs)(ha:ow m is vs=aa m'){Q:Unit->aY->Prop}(z:∀s',bg G c g σ env m' s'->gR c.lk env s.heap g s'.heap g->Q () s'):bw (bh G.prog G.w) c.A (ib (dG l k pos) env<|ai a) Q E s:=
 assign_Tuple_tuple hh ⟨_,e,rfl,n,rfl⟩ (N.len.trans<|(Jg ha).trans r.length) N.ala λh' he=>by
  have kp:=λb o nb e=>he b o nb e;have aU:bg G c g σ env m {s with heap:=h'}:=I.n5 (I.NA (cp _) λo e=>by rw[cp]at e;exact cV e) kp;exact S4 N aU (r.bL λ_ _ r=>r.ext<|eJ.n5 eJ.refl (cp _) kp) nt ha λs' I' oc=>z s' I'<|((eJ.n5 eJ.refl (cp _) kp).l I.br).trans<|oc.my aU.br
theorem SM.Qn{Qv:Fl->Env->H->Prop}{Ev:Env->H->Prop}(z:SM.env o m σ Qv Ev):∃m',o=aa m'/\Qv .next m' σ:=by
 induction o using fA with
 |none=>exact z.elim
 |some m'=>exact (b0 m' rfl z)
theorem F4:∀(xs:List P),vt (xs.map V.p):=@lr _ _
 (trivial)
 (λx r ih=>⟨λn e=>(by contradiction),ih⟩)
theorem F5(r:VR G h g v u)(e:(v.yg.bind λxs=>ow m is<|xs.map V.p)=aa m'):∃(xs:List P)(us:List au)(a n:Nat),u=ai a/\h.get? a=aa (xT us.toArray n)/\bR (VR G h g) (xs.map V.p) us/\ow m is (xs.map V.p)=aa m':=
 (cR e).elim λxs w=>(cR w.1).elim λy q=>by
  have r:=r.pl q.1;rw[P.yD q.2]at r;exact mY r.out λa its n t=>(amC xs its a n t.1 t.2.2.1 (Qj<|gu▸t.2.2.2) w.2)
theorem HQ(hh:c.A.handled=aj){i:Nat}{is:List Nat}{l:List bA}(N:ki env (i::j::is) l){pos:ca}(v:P)(u:au)(m:Env)(σ:H)(s:aY)(g:Gh)(I:bg G c g σ env m s)(r:PR G s.heap g.F v u)(Qv:Fl->Env->H->Prop)(z:AZ ak (i::j::is) (.p v) m σ Qv λ_ _=>False) Q E (q:∀f m' bP s' g',Qv f m' bP->bg G c g' bP env m' s'->gR c.lk env s.heap g s'.heap g'->Q () s'):bw (bh G.prog G.w) c.A (ib (dG l k pos) env u) Q E s:=
 (SM.Qn (m:=m) (Ev:=λ_ _=>False) z).elim λm' w=>eZ (F5 (v:=.p v) r w.1) λxs us t=>eZ t λa n t=>t.1▸zn hh N I t.2.1 t.2.2.1 (F4 xs) t.2.2.2 λs' I' x'=>q _ _ _ _ _ w.2 I' x'
theorem HR(hh:c.A.handled=aj){is:List Nat}{l:List bA}(N:ki env is l){k:_}(I:bg G c g σ env m s){u:au}(r:VR G s.heap g v u):
 cb G c env g s (SM.env ((v.yg).bind λxs=>ow m is<|xs.map V.p) m σ) (do ib (dG l k pos) env u;oV .next):=λQv Ev z Q E q e=>
 (SM.Qn z).elim λm' w=>eZ (F5 r w.1) λxs us t=>eZ t λa n t=>t.1▸aR (zn hh N I t.2.1 t.2.2.1 (F4 xs) t.2.2.2 λs' I' x'=>bO<|q .next _ _ _ _ _ w.2 I' x' rfl)
theorem agk(rK:bg G c mu tI env m s')(I:bg G c g σ env m s)(hk:env.kindOf (nm i)=aa .local\/env.kindOf (nm i)=aa .cell)(r:VR G s.heap g v u):
 cb G c env g s (G7 tI i v m σ) (do ib (aK (nm i) pos) env u;oV .next):=λQv Ev z Q E q e=>by
 unfold G7 at z
 split at z
 ·rename_i n hs
  have s8:aW tI n=aa .free:=by
   refine oc (aW tI n) (λhn=>?_) λo hn=>?_
   ·rw[hn]at z;exact z.elim
   ·rw[hn]at z;refine ah hn ?_;induction o using O.casesOn<;>first|rfl|exact z.elim
  rw[s8]at z
  rw[V.yB hs]at r
  refine zj (i:=i) I hk (v:=.tm n) r (λk e l=>?_) _ _ z Q E q e
  cases e
  exact rK.lk n l<|rK.dR.free s8
 ·exact z.elim
theorem O4{y:P}(e:kO o=aa y)(B:G.dB)(R:kT G g σ h)(hp:g.ρ n=aa (aa p))(r:OR G h g o p)(u:au)(q:At g.ρ n u):PR G h (g.u9 n p.1).F y u:=by
 refine oi q.out λa st eu es ek=>?_;rw[hp]at es;refine ah eu<|ah (ek p<|cP es.symm).symm ?_;induction o using O.casesOn with
 |ls xs=>obtain rfl:=fh e;exact eZ (ajN.out r) λits k w=>⟨p.1,its,k,rfl,aX rfl,w.2.1,gu▸w.2.2.bL λ_ _=>PR.bL (λb o f e=>⟨az f,e⟩) _⟩
 |dc es=>obtain rfl:=fh e;exact (R8.out r).elim λkvs w=>T6 w.2.1 (jg.rm B R ⟨n,p,hp,az rfl⟩) (aX rfl)<|w.2.2.bL λ_ _ y=>⟨y.1,PR.bL (λb o f e=>⟨az f,e⟩) _ y.2⟩
 |_=>exact cV e
theorem Zr{A:Type}:∀{m:List (Nat×A)},av (cW m i) i=aj:=@lr _ _
 (rn)
 (@pr _ _ _ (λk w m ih=>by
  rw[LW];by_cases q:k=i
  ·exact ah (if_pos q)<|ih
  ·exact ah (if_neg q)<|(if_neg q).trans ih))
theorem Jl(B:G.dB)(I:bg G c g σ env m s)(hw:∀o v,w o=aa v->∃x,kO o=aa x/\∀y,v=aa y->y=.p x){st:fv mG}{f:SM}(h:∀m' bP g',bg G c g' bP env m' s->cb G c env g' s (f m' bP) st):cb G c env g s (λQ E=>letGo i w m σ (λfl m' bP=>match fl with| .next=>f m' bP Q E|fl=>Q fl m' bP) E) st:=λQv Ev z Q E q e=>by
 unfold letGo at z;split at z
 ·rename_i n hn
  split at z
  ·exact z.elim
  ·rename_i hb
   split at z
   ·rename_i v hv
    split at z
    ·rename_i nr
     refine eh λcy bk=>cE (cR hn) λt ht ho=>?_;have ht:av m i=aa (.tm n):=by refine ah ht ?_;cases t<;>first|(obtain rfl:=(fh ho).symm;rfl)|exact cV ho
     refine cE (cR hv) λo en ew=>cE (hw o v ew) λx ef ex=>?_;obtain ⟨p,hp,r⟩:=I.dR.slot en (λq=>by rw[q]at ef;exact cV ef) λq=>by rw[q]at ef;exact cV ef
     have h9:=Nat.lt_of_not_le λl=>by rw[Nat.ble_eq_true_of_le l]at hb;exact rT hb
     have jN:∀{j v},av (cW m i) j=aa v->∃w,av m j=aa w/\tZ G s.heap g n p.1 w v:=λ{j v}k=>(b0 v (tA k)<|tZ.jx (Aw h9)<|F3 nr k)
     obtain ⟨m₂,em⟩:∃m₂,m₂=(match v with|some v=>aN (cW m i) i v|none=>cW m i):=⟨_,rfl⟩
     refine bk ?_;have z:f m₂ (aG σ n .free) Qv Ev:=ah em<|z;have:=I.free (m':=m₂) (Aw h9) (λq=>absurd (q▸h9)<|by decide+kernel) hp (I.tm i n ht) λj y k=>by
      replace k:=em▸k;induction v using fA with
      |none=>exact jN k
      |some v=>
       rw[mx]at k;by_cases hj:i=j
       ·rw[if_pos hj]at k
        refine (b0 (.tm n) (hj▸ht) ?_);exact ah (cP k).symm<|ah (ex v rfl)<|⟨λu r'=>O4 ef B I.dR hp r u r',λ_ e=>(by contradiction)⟩
       ·rw[if_neg hj]at k;exact jN k
     exact h _ _ _ this.1 Qv Ev z Q E (q.ext this.2)<|e.ext this.2
    ·exact z.elim
   ·exact z.elim
 ·exact z.elim
end
end
structure sU(K:c7)(C:bj):Prop where
 obj:∃oc od cd sl,K.lookup C=aa ⟨oc,od,.cls cd,sl⟩/\cd.hasDel=ak/\cd.mro.isEmpty=ak
 self:jG K C (ai C)=aa ag
 jm:jG K C (aJ "Exception")=aa ag
 amc:jG K C (aJ "AttributeError")=aa ak
 amd:jG K C (aJ "NameError")=aa ak
 call:xh K (ai C) "__call__"=aa (aa<|bv "type.__call__")
 aav:AR K (ai C) (aJ "type")=aa ag
 NC:∀S,oR K S (LJ<|ai C)=aa (aa "Exception.__new__")
 gQ:∀S,oR K S (LI<|ai C)=aa (ai C)
 ahH:∀S rest,oR K S (wI "Exception.__new__" ⟨ai C::rest,[]⟩)=aa ()
noncomputable abbrev iL (C t:bj):cC:={cls:=ai C,data:=.fields #[ai t,.none,.none,.none,.bool ak,.none]}
noncomputable abbrev iX (rest:List au):cC:={cls:=aJ "tuple",data:=.seq rest.toArray}
theorem sU.at_{K:c7}(Y:sU K C)(X:K.In h):∃oc od cd sl,h.get? C=aa ⟨oc,od,.cls cd,sl⟩/\cd.hasDel=ak/\cd.mro.isEmpty=ak:=aeZ Y.obj λoc od cd sl z=>(ajl oc od cd sl (X _ _ z.1) z.2)
section
variable{prog:oM}{w:kK}{E:au->aY->Prop}{K:c7}{g:Array KA}{d:Drawn}{t:Nat}{os:KJ}{C:bj}
theorem ab8(X:K.In h)(Y:sU K C)(hr:rest.length<=20)(hq:R (.ok<| .ret<|ai<|h.objs.size+1) ⟨(h.push<|iX rest).push<|iL C h.objs.size,g,d,t,os⟩):kI (bh prog w) A (.builtin "Exception.__new__" ⟨ai C::rest,[]⟩) R ⟨h,g,d,t,os⟩:=by
 have F:=AS;have amo:=F.ends;refine agF (Y.at_ X) λoc od cd sl hC z=>codeAny_builtinAt F.entry ?_;unfold sq.«BaseException.__new__»;refine Uz ?_;refine Uz<|PySem.wpAt_stack λp below=>Uo ?_;wp_walk;refine Uo<|ah F.owner<|wpAny_bind (((sF hC).andThen .now:gw (bh prog w) h (KP<|ai C) ag).at<|aR<|(qA X Y.jm).at<|aR<|((AW X<|Y.gQ _).andThen ((AW X<|Y.NC _).andThen<|Wb<|by simp only[Option.map_some,F.canon,bne_self_eq_false,Vw,if_false]):gw (bh prog w) h (Bind.madeHere "BaseException.__new__" (ai C)) ()).at<|aR ?_);refine aR<|(qA X Y.amc).at<|aR<|(qA X Y.amd).at<|bO ?_;unfold newTuple;refine aR<|DA ?_<|show rest.toArray.size<=oK from iN.symm▸wL▸bo hr (dc rt);show bw _ _ (UX _ _ _>>=_) _ _ _;unfold UX classHasDel;refine aR<|aR<|Kn<|aR<|aR<|Kt (qh _<|qh _ hC)<|bO ?_;refine wn (z.1▸fF)<|bO<|bO ?_;show R _ _;rw[nU];exact hq
theorem Zs(X:K.In h)(Y:sU K C)(hi:gw (bh prog w) h (Ai (ai C) "__init__")<|aa init)(hb:∀self,gw (bh prog w) h (bindSpecial init self) (init,[self]))(hr:rest.length<=20)(hq:kI (bh prog w) (A.under<| .builtin "type.__call__" ⟨ai C::rest,[]⟩) (.call init ⟨ai (h.objs.size+1)::rest,[]⟩) (InitBack (h.objs.size+1) R) ⟨(h.push<|iX rest).push<|iL C h.objs.size,g,d,t,os⟩):kI (bh prog w) A (.call (ai C) ⟨rest,[]⟩) R ⟨h,g,d,t,os⟩:=by
 refine aly (Y.at_ X) λoc od cd sl hC e2 e4=>?_;have NC:=AW (M:=bh prog w) X<|Y.NC _;refine codeAny_of_tree ?_;refine nd_load hC ?_;show bw _ _ (Wx (ai C) _) _ _ _;unfold Wx;refine aR<|(looks_specialIn X Y.call).at ?_;refine aR<|wq (tc_bind _)<|bO<|aR<|bO ?_;refine bO (a:=Fin.again<| .call (bv "type.__call__") ⟨ai C::rest,[]⟩)<|WG rt ?_;refine codeAny_call_builtin_at (LH _<|by decide+kernel) entry_typeCall<|Ls tc_kind tc_split (looks_instIn X Y.aav) (tc_args _ _ _) ?_;unfold sq.«type.__call__»;have hm:gw (bh prog w) h (mroOf<|ai C) cd.mro:=((sF hC).andThen .now).andThen .now;repeat (first|with_reducible refine oH ?_|with_reducible refine wn (by refine ah e4 ?_;exact fF) ?_|lk)
 refine codeAny_call_builtin_code (LH _ AS.quiet)<|(AW X<|Y.ahH _ rest).here ?_;refine ab8 X Y hr ?_;have k:∀b o,h.get? b=aa o->((h.push<|iX rest).push<|iL C h.objs.size).get? b=aa o:=λb o e=>qh _<|qh _ e;have t1:gw (bh prog w) ((h.push<|iX rest).push<|iL C h.objs.size) (DU<|ai<|h.objs.size+1) (ai C):=(sF (by heap_get:((h.push<|iX rest).push<|iL C h.objs.size).get? (h.objs.size+1)=aa (iL C h.objs.size))).andThen .now;have s1:=(qA X Y.self:gw (bh prog w) h (isSubtype (ai C)<|ai C) ag).keeps k;have i1:=hi.keeps k;have b1:=(hb<|ai<|h.objs.size+1).keeps k;unfold DL callSpecial? specialOf;repeat (first|with_reducible refine oH ?_|lk)
 refine codeAny_mono hq λr s' z=>?_;rcases r with e|(v|_|_|_)<;>first|exact z|exact z.elim|skip
 obtain ⟨rfl,z⟩:=z;exact bO<|bO z
theorem CR{M:iy}(X:K.In h)(Y:sU K C){x:bj}{Q:Unit->aY->Prop}(hx:h.get? x=aa ox)(hc:ox.cls=ai C)(hq:Q () ⟨h,g,d,t,os⟩):bw M A (wI "Exception.__init__" ⟨ai x::rest,[]⟩) Q E ⟨h,g,d,t,os⟩:=by
 have F:=AS;have ame:=F.noStar;refine aeZ (Y.at_ X) λoc od cd sl z=>?_;have hC:=z.1;simp only[wI,F.initKind,F.initSplit,F.initRow];refine aR<|((hc▸(sF hx).andThen .now:gw M h (DU<|ai x)<|ai C).andThen (qA X Y.jm):gw M h (DL (ai x)<|aJ "Exception") ag).at ?_;repeat (first|(with_reducible refine Dz hx<|ah hc ?_)|with_reducible refine Dz hC ?_|wp_step)
 refine UK ?_;rw[show ∀a b n,Bind.check ⟨.positional,"*","Exception",.self,[⟨"args",.varPos,ak⟩]⟩ a b n (AJ (λx=>x.fst) ({pos:=jX x::rest}:Args).kw)=pure ()from
  λa b n=>check_star_args _ _ _ _ _ _]
 exact bO hq
theorem S6(X:K.In h)(Y:sU K C){x:bj}{vs:Array au}(hx:h.get? x=aa ox)(hc:ox.cls=ai C)(hd:ox.data=.fields vs)(h0:vs[0]?=aa (ai t0))(hr:rest.length<=20)(hq:Q .none ⟨(h.push<|iX rest).update x<|oS (·.setIfInBounds 0 (ai h.objs.size)),g,d,t,os⟩):bw (bh prog w) A (Al (bv "Exception.__init__")<|ai x::rest) Q E ⟨h,g,d,t,os⟩:=by
 refine oH<|Ad AS.init.plain AS.initEntry<|CR X Y hx hc ?_;unfold sq.«BaseException.__init__» aeF newTuple;have amf:=qh (h:=h) (iX rest) hx;have f0:gw (bh prog w) (h.push<|iX rest) (PySem.field (ai x) 0) (ai t0):=by
  intro A Q E s k q;exact qw (k _ _ amf) hd h0 q
 dsimp only
 refine wn (dc rt)<|wpAny_bind<|DA ?_<|show rest.toArray.size<=oK from iN.symm▸wL▸bo hr (dc rt)
 refine aR<|aR<|f0.at<|aR<|Kf amf hd (V6.mp h0).1 ?_
 exact aR (m:=PySem.letGo [ai t0])<|wpAny_letGo<|bO<|bO hq
end
theorem O5{K:c7}{M:iy}{x a:bj}{vs:Array au}{E:au->aY->Prop}{Q:Option bj->aY->Prop}(hx:s.heap.get? x=aa ox)(hc:ox.cls=ai a)(hd:ox.dict=aj)(hf:ox.data=.fields vs)(L:gw M s.heap (classData a) cd)(hh:cd.hasDict=ag)(q:Q (aa s.heap.objs.size) {s with heap:=(s.heap.push uQ).update x λo=>{o with dict:=aa s.heap.objs.size}}):bw M A (UN x ag) Q E s:=by
 obtain ⟨_,_,_,_⟩:=ox;subst hc;subst hd;subst hf;exact aR<|Af hx<|aR<|L.here<|wn (ahy hh)<|wn xc<|aR<|Kn<|aR<|UO (qh uQ hx)<|bO q
theorem J0{x a:bj}(I:lR h x ox a aj):ox.dict=aj:=by have:=I.dict;cases q:ox.dict with|none=>rfl|some d=>rw[q]at this;exact this.elim
theorem Zt{x a:bj}{vs:Array au}(I:lR s.heap x ox a aj)(alb:ox.data=.fields vs)(X:G.K.In s.heap){d:cN}(k:kA G.K a d){i:Nat}(hi:i∈d.fields){v:au}{E:au->aY->Prop}{Q:Unit->aY->Prop}(z:∀hh t tk,Q () {s with heap:=((s.heap.push uQ).update x λo=>{o with dict:=aa s.heap.objs.size}).update s.heap.objs.size<|sC (nm i) hh (.str (nm i) t) v,toks:=tk}):bw (bh G.prog G.w) A (oF (ai x) (nm i) v) Q E s:=
 I7 I X k hi λA R E q=>vC k.cd λcd hc Mw _=>aR (bO (aR (O5 (K:=G.K) I.at_ I.cls (J0 I) alb (Lr X hc) Mw (B7 (n:=0)
  ((mA _ _<|m7<|hJ I.at_).trans<|fZ _ rf) rf (bH _) λhh t tk=>q _<|z hh t tk))))
theorem Br:(nm 9==("__debug__":bB))=ak/\(nm 6==("__debug__":bB))=ak/\(nm 7==("__debug__":bB))=ak:=dc rt
abbrev alc:List (bB×i6)->S->List dO->Prop:=λ_ _ _=>True
structure F6(G:GG)(a:bj)(F:aT)(gQ:bB)(wa:Nat):Prop where
 out:∃o fd body,G.K.lookup a=aa o/\o.data=.func fd/\SW G alc F fd body/\(∀x∈fd.scope.names,x.2≠.cell)/\fd.scope.names.lookup gQ=aa .globalImplicit/\
  ∃p1 p2 pa pb p5 p6 p7 p8 p9 agl,body=[.Expr (.Call (d3 (aK gQ p1) "__init__" p2) [aK (nm 9) pa,aK (nm 6) pb] [] p5) p6,fJ [d3 (aK (nm 9) p7) (nm wa) p8] (aK (nm wa) p9) agl]/\(p2.endLine==p5.line)=ag
def iM(G:GG)(gQ:bB)(u:au):Prop:=∀mg mb,G.h₀.Ns jz mg->G.h₀.Ns kX mb->(∀x:bB,x≠"__name__"->mb x=uD x)->mg gQ=aa u\/(mg gQ=aj/\mb gQ=aa u)
theorem uB(B:G.dB)(bn:iM G gQ u)(k:∀b o,G.h₀.get? b=aa o->s.heap.get? b=aa o)(hk:env.scope.kind=b7)(hg:env.globals=jz)(hb:env.builtins=kX)(hx:env.kindOf gQ=aa .globalImplicit)(hd:(gQ==("__debug__":bB))=ak){p:ca}(z:Q u s):bw (bh G.prog G.w) A (bq (aK gQ p) env) Q E s:=B.alX.elim λmg w=>w.elim λmb w=>
 VX hk hx ((bn mg mb w.1 w.2.1 w.2.2).elim (λq=>VZ (by rw[hg];exact w.1.keeps k) q z) λq=>VY (by rw[hg];exact w.1.keeps k) q.1 (ah hb<|w.2.1.keeps k) q.2 z) hd
structure S7(env:bS)(m:bB->Option au)(i:Nat)(u:au):Prop where
 v:m (nm i)=aa u
 k:env.kindOf (nm i)=aa .local
 d:(nm i==("__debug__":bB))=ak
theorem S7.ok(hk:env.scope.kind=b7)(l:S7 env m i u)(hn:s.heap.Ns env.locals m){p:ca}(z:Q u s):bw (bh G.prog G.w) A (bq (aK (nm i) p) env) Q E s:=UW (J8 hk l.k hn l.v z) l.d
theorem Dx(hk:env.scope.kind=b7){a b:Nat}{u v:au}(la:S7 env m a u)(lb:S7 env m b v)(hn:s.heap.Ns env.locals m){Q:List au->aY->Prop}(z:Q [u,v] s):bw (bh G.prog G.w) A (nK<|iY pos<|hY [aK (nm a) pa,aK (nm b) pb] env) Q E s:=by
 rw[eO rfl,eO rfl];exact uT<|la.ok hk hn<|uT<|lb.ok hk hn<|AU z
theorem S8(hk:env.scope.kind=b7)(hc:kD e=ag):dZ (.Expr e pos) env=(do fk pos;let v <-bq e env;Kz e pos v):=by
 have hs:nJ e aj pos.line env=pure ak:=by induction e using nV<;>first|rfl|exact dC hc
 have e0:dZ (.Expr e pos) env=(do
  fk pos
  if wM env then printExpr (bq e env)
  else if <-nJ e aj pos.line env then do Ah e env λ_=>point;pure .next
  else do Kz e pos (<-bq e env)):=rfl
 refine ah e0<|ah (by unfold wM;refine ah hk ?_;rfl:wM env=ak) ?_;refine ah hs ?_;rfl
theorem Ta(B:G.dB)(bn:iM G gQ ub)(hf:nA G f)(k:∀b o,G.h₀.get? b=aa o->s.heap.get? b=aa o)(hk:env.scope.kind=b7)(hg:env.globals=jz)(hb:env.builtins=kX)(hx:env.kindOf gQ=aa .globalImplicit)(hd:(gQ==("__debug__":bB))=ak)(aeg:∀A Q E pl,(∀tk,Q (f,[]) {s with toks:=tk})->bw (bh G.prog G.w) A (uF ub "__init__" pl) Q E s){x:au}(m1:S7 env m 9 x)(m2:S7 env m 6 ut)(hn:s.heap.Ns env.locals m)(hp:(p2.endLine==p5.line)=ag){Q:mG->aY->Prop}{E:au->aY->Prop}(z:∀tk,bw (bh G.prog G.w) A (Al f [x,ut]) (λ_ s'=>Q .next s') E {s with toks:=tk}):bw (bh G.prog G.w) A (dZ (.Expr (.Call (d3 (aK gQ p1) "__init__" p2) [aK (nm 9) pa,aK (nm 6) pb] [] p5) p6) env) Q E s:=by
 refine wq (S8 hk rfl)<|wpAny_bind<|gF<|aR ?_;refine ah (FT rfl)<|wpAny_bind<|uB B bn k hk hg hb hx hd<|aR<|gF ?_;unfold Kr;refine ah (show DD (([aK (nm 9) pa,aK (nm 6) pb]).length+0) (iY p5<|hY [aK (nm 9) pa,aK (nm 6) pb] env) []=ag by
  unfold DD;refine ah (xZ rfl) ?_;rfl) ?_;refine ah (show DG ag (aK gQ p1) env p2 p5=pure p5 by
  unfold DG;refine ah hp ?_;rfl) ?_
 exact aR (fE (aeg _ _ _ _ λtk=>aR (bO (Ei (by refine ah (gm rfl) ?_;rfl) hf (ix (gm rfl) (Dx (s:={s with toks:=tk}) hk m1 m2 hn
  ⟨B.X.keeps k,oG (z tk) (λv s' q=>Uy q) λ_ _ q=>q⟩))))))
theorem Tb(hk:env.scope.kind=b7){x uf:au}(m1:S7 env m 9 x)(m2:S7 env m wa uf)(hn:s.heap.Ns env.locals m){Q:mG->aY->Prop}(z:bw (bh G.prog G.w) A (oF x (nm wa) uf) (λ_ s'=>Q .next s') E s):bw (bh G.prog G.w) A (dZ (fJ [d3 (aK (nm 9) p7) (nm wa) p8] (aK (nm wa) p9) agl) env) Q E s:=by
 refine wq (zm rfl rfl rfl)<|wpAny_bind<|gF<|aR<|m2.ok hk hn<|aR ?_;show bw _ _ (do
  let ov <-holding [uf] (bq (aK (nm 9) p7) env)
  fk p8.atName
  holding [uf,ov] (oF ov (nm wa) uf)
  DQ [uf,ov] []) _ _ _
 exact aR<|fE<|m1.ok hk hn<|aR<|gF<|aR<|fE<|oG z (λ_ s' q=>DH<|bO q) λ_ _ q=>q
theorem Zu{a x:bj}(n:h.Ns a m)(ne:a≠x)(k:∀b o,b≠x->h.get? b=aa o->h'.get? b=aa o):h'.Ns a m:=mY n λo es ep w=>⟨o,es,ep,k _ _ ne w.1,w.2⟩
structure Jm(x:bj)(s s':aY):Prop where
 keep:∀b o,b≠x->s.heap.get? b=aa o->s'.heap.get? b=aa o
 gens:s'.gens=s.gens
 os:s'.os=s.os
 drawn:s'.drawn=s.drawn
theorem Jm.trans{x:bj}(a:Jm x s s')(b:Jm x s' MA):Jm x s MA:=⟨λc o n e=>b.keep c o n<|a.keep c o n e,b.gens.trans a.gens,b.os.trans a.os,b.drawn.trans a.drawn⟩
theorem Qo(B:G.dB){gQ:bB}(D:F6 G a F gQ wa)(ya:A.depth<DE)(k:∀b o,G.h₀.get? b=aa o->s.heap.get? b=aa o)(bn:iM G gQ ub)(hf:nA G f)(hd:(gQ==("__debug__":bB))=ak)(aeg:∀s A Q E pl,G.K.In s.heap->(∀tk,Q (f,[]) {s with toks:=tk})->bw (bh G.prog G.w) A (uF ub "__init__" pl) Q E s){x:bj}(hx:s.heap.get? x=aa ox)(x0:G.h₀.get? x=aj)(len:us.length=F.params.length)(mem:9∈F.params/\6∈F.params/\wa∈F.params)(db:(nm wa==("__debug__":bB))=ak)(m1:((F.params.map nm).zip us).reverse.lookup (nm 9)=aa (ai x))(m2:((F.params.map nm).zip us).reverse.lookup (nm 6)=aa ut)(m3:((F.params.map nm).zip us).reverse.lookup (nm wa)=aa uf)(z:∀aH F7,F7.depth=A.depth+1->Jm x s aH->aH.heap.get? x=aa ox->bw (bh G.prog G.w) F7 (Al f [ai x,ut]) (λ_ da=>Jm x aH da/\bw (bh G.prog G.w) F7 (oF (ai x) (nm wa) uf) (λ_ gd=>R (.ok<| .ret .none) gd) (λ_ _=>False) da) (λ_ _=>False) aH):kI (bh G.prog G.w) A (.call (ai a) ⟨us,[]⟩) R s:=by
 refine eh λcy bk=>?_;obtain ⟨o,fd,body,ho,anp,K,adu,anq,p1,p2,pa,pb,p5,p6,p7,p8,p9,agl,rfl,hp⟩:=D.out;have X:=B.X.keeps k;obtain ⟨aQ,aj0⟩:=K.Dl s X;refine bk ?_;have aaw:=λi hi=>(K.ajY i hi).elim id λq=>absurd rfl<|adu _<|qc q;refine codeAny_call_def ya (X _ _ ho) anp (B.P5.keeps k) (K.code.keeps k) K.bd (Cc K.pos K.args K.va K.ajW K.ajX K.nd aj0<|by rw[cq];exact len) adu (λy hy=>(nQ.mp (Lh hy).1).elim λi w=>w.2▸aaw i w.1) (λeY hn kp=>oG ?_ (λ_ _ z=>z) λ_ _ z=>(z:False).elim) K.aec K.ajV K.kind;have ll:∀i∈F.params,(nm i==("__debug__":bB))=ak->∀u,((F.params.map nm).zip us).reverse.lookup (nm i)=aa u->S7 (KO fd s.heap.objs.size a) (λx=>((F.params.map nm).zip us).reverse.lookup x) i u:=λi hi d u e=>⟨e,aaw i hi,d⟩
 rw[Ku];refine aR<|Ta (env:=KO fd s.heap.objs.size a) B bn hf (λb o e=>kp b o<|k b o e) K.kind K.fy K.pQ anq hd (λA Q E pl q=>aeg _ A Q E pl (B.X.keeps λb o e=>kp b o<|k b o e) q) (ll 9 mem.1 Br.1 _ m1) (ll 6 mem.2.1 Br.2.1 _ m2) hn hp λtk=>?_;refine oG (z _ (A.deeper<|KO fd s.heap.objs.size a) rfl ⟨λb o _ e=>kp b o e,rfl,rfl,rfl⟩<|kp _ _ hx) (λ_ da w=>?_) λ_ _ q=>q;dsimp only;rw[Ku];exact aR<|Tb K.kind (ll 9 mem.1 Br.1 _ m1) (ll wa mem.2.2 db _ m3) (Zu hn (sx<|hJ hx) w.1.keep)<|oG w.2 (λ_ gd q=>DB q) λ_ _ q=>q
structure wD(G:GG)(ub f:au):Prop where
 out:∀(s:aY)(A:qx)(Q:au×List au->aY->Prop)(E:au->aY->Prop)(pl:fv Bool),G.K.In s.heap->(∀tk,Q (f,[]) {s with toks:=tk})->bw (bh G.prog G.w) A (uF ub "__init__" pl) Q E s
structure yb(G:GG)(C cB fB fI:bj)(d:cN):Prop where
 cls:sU G.K C
 ok:kA G.K C d
 f6:6∈d.fields
 f7:7∈d.fields
 init:iZ G.K (ai C) "__init__"=aa (aa<|ai fI)
 amg:sA G.K (ai fI)=aa (aJ "function")
 adv:iM G "Exception" (aJ "Exception")
 adw:iM G "F77Error" (ai cB)
 T9:iM G "IoFault" (ai C)
 ahI:wD G (aJ "Exception") (bv "Exception.__init__")
 ahJ:wD G (ai cB) (ai fB)
 z6:uR G.K (ai fB)=ag
 ahK:F6 G fB ⟨[9,6],[],.nil⟩ "Exception" 6
 ahL:F6 G fI ⟨[9,7,6],[],.nil⟩ "F77Error" 7
structure aeh(h h₀:bX)(C x dx:bj)(vs:Array au)(gB:List i5)(n:Nat):Prop where
 at_:h.get? x=aa (Nv C dx vs)
 sz:2<vs.size
 no:vs[1]?=aa .none
 d:h.get? dx=aa (lQ gB n)
 fr:h₀.get? dx=aj
 ne:dx≠x
section
variable{C cB fB fI:bj}{d:cN}
theorem BJ{x y:bj}(k:∀b o,b≠x->h.get? b=aa o->h'.get? b=aa o)(ne:y≠x)(e:h'.get? y=aj):h.get? y=aj:=by
 cases q:h.get? y with
 |none=>rfl
 |some o=>rw[k _ _ ne q]at e;exact Cm e
theorem oh(k:∀b o,G.h₀.get? b=aa o->s.heap.get? b=aa o){x:bj}(x0:G.h₀.get? x=aj)(b:Jm x s s'):∀b o,G.h₀.get? b=aa o->s'.heap.get? b=aa o:=λc o e=>b.keep c o (λq=>by rw[q,x0]at e;exact cV e)<|k c o e
theorem O6(x:bj)(o:cC)(f:cC->cC){g:Array KA}{os:KJ}:Jm x ⟨h,g,dr,t,os⟩ ⟨(h.push o).update x f,g,dr,t',os⟩:=⟨λb ob nb e=>(mA _ _<|oX nb).trans<|qh _ e,rfl,rfl,rfl⟩
theorem ai5(B:G.dB)(T:yb G C cB fB fI d)(ya:A.depth<DE)(k:∀b o,G.h₀.get? b=aa o->s.heap.get? b=aa o){x:bj}(hx:s.heap.get? x=aa (iL C t0))(x0:G.h₀.get? x=aj)(z:∀s' dx vs hh t,Jm x s s'->aeh s'.heap s.heap C x dx vs [⟨hh,.str (nm 6) t,ut⟩] 1->R (.ok<| .ret .none) s'):kI (bh G.prog G.w) A (.call (ai fB) ⟨[ai x,ut],[]⟩) R s:=by
 refine Qo B T.ahK ya k T.adv nA.builtin (dc rt) T.ahI.out hx x0 rfl (k8 (eB _) (ey _<|eB _)<|ey _<|eB _) Br.2.1 rfl rfl rfl λaH F7 hA wF ND=>?_;obtain ⟨eY,g,dr,yz,os⟩:=aH;have wG:=O6 x (iX [ut]) (oS (·.setIfInBounds 0 (ai eY.objs.size))) (g:=g) (dr:=dr) (t:=yz) (t':=yz) (os:=os) (h:=eY);refine S6 (B.X.keeps<|oh k x0 wF) T.cls ND rfl rfl rfl (show 1<=20 by decide) ⟨wG,?_⟩;have zF:((eY.push<|iX [ut]).update x<|oS (·.setIfInBounds 0 (ai eY.objs.size))).get? x=aa (iL C eY.objs.size):=nT _ (qh _ ND) rf;have k₂:=oh (oh k x0 wF) x0 wG;generalize ((eY.push<|iX [ut]).update x<|oS (·.setIfInBounds 0 (ai eY.objs.size)))=l4 at zF wG k₂⊢;refine Zt (s:=⟨l4,g,dr,yz,os⟩) ⟨zF,rfl,rt,trivial⟩ rfl (B.X.keeps k₂) T.ok T.f6 λhh t tk=>?_;have D0:((l4.push uQ).update x λo=>{o with dict:=aa l4.objs.size}).get? l4.objs.size=aa (lQ [] 0):=(mA _ _<|m7<|hJ zF).trans<|fZ _ rf;refine z _ l4.objs.size #[ai eY.objs.size,.none,.none,.none,.bool ak,.none] hh t ((wF.trans wG).trans ⟨λb o nb e=>((mA _ _<|sx<|hJ e).trans<|(mA _ _<|oX nb).trans<|qh _ e),rfl,rfl,rfl⟩) ⟨?_,show 2<6 by decide,rfl,?_,?_,(sx<|hJ zF)⟩
 ·exact (mA _ _<|sx<|hJ zF).trans<|nT _ (qh _ zF) rf
 ·refine ah (nT _ D0<|by rw[sy];rfl) ?_;rw[sy]
  rfl
 ·exact BJ (wF.trans wG).keep (sx<|hJ zF)<|cp _
theorem F8:(Ek (nm 6) t).isStr (nm 7)=ak:=by refine ah I4 ?_;rfl
theorem ald:uS (nm 7) h2 (.str (nm 7) t2) uc [⟨h1,.str (nm 6) t1,ut⟩]=[⟨h1,.str (nm 6) t1,ut⟩,⟨h2,.str (nm 7) t2,uc⟩]:=by
 unfold uS;refine ah F8 ?_;rfl
theorem ai6:putN (nm 7) [⟨h1,.str (nm 6) t1,ut⟩] 1=2:=by
 unfold putN;refine ah Ed<|ah F8 ?_;rfl
theorem ai7(B:G.dB)(T:yb G C cB fB fI d)(ya:A.depth+2<DE)(k:∀b o,G.h₀.get? b=aa o->s.heap.get? b=aa o){x:bj}(hx:s.heap.get? x=aa (iL C t0))(x0:G.h₀.get? x=aj)(z:∀s' dx vs h1 t1 h2 t2,Jm x s s'->aeh s'.heap s.heap C x dx vs [⟨h1,.str (nm 6) t1,ut⟩,⟨h2,.str (nm 7) t2,uc⟩] 2->R (.ok<| .ret .none) s'):kI (bh G.prog G.w) A (.call (ai fI) ⟨[ai x,uc,ut],[]⟩) R s:=by
 refine Qo B T.ahL (cw eI bb [(1,eA iP bz,bb)] rt ya) k T.adw (nA.ahD T.z6) (dc rt) T.ahJ.out hx x0 rfl (k8 (eB _) (ey _<|ey _<|eB _)<|ey _<|eB _) Br.2.2 rfl rfl rfl λaH F7 hA wF ND=>oH<|ai5 B T (ah hA<|cw mh bb [(1,eA iP bz,bb)] rt ya) (oh k x0 wF) ND x0 λda dx vs hh t wG D=>⟨wG,?_⟩;refine Qa (s:=da) (n:=1) ⟨D.at_,rfl,rt,D.d⟩ rfl (B.X.keeps<|oh (oh k x0 wF) x0 wG) T.ok T.f7 rf (show 1<=900 by decide) λh2 t2 tk=>?_;have fr:=BJ wF.keep D.ne D.fr;refine z _ dx vs hh t h2 t2 ⟨λb o nb e=>(mA _ _ λq=>by rw[<-q,fr]at e;exact cV e).trans<|(wF.trans wG).keep b o nb e,(wF.trans wG).gens,(wF.trans wG).os,(wF.trans wG).drawn⟩ ⟨(mA _ _ D.ne).trans D.at_,D.sz,D.no,?_,fr,D.ne⟩;refine ah (nT _ D.d<|by rw[sy];rfl) ?_;rw[sy,ald,ai6]
theorem Zv(B:G.dB)(T:yb G C cB fB fI d)(ya:A.depth+8<DE)(k:∀b o,G.h₀.get? b=aa o->s.heap.get? b=aa o){E:au->aY->Prop}(z:∀s' x dx vs h1 t1 h2 t2,s.heap.get? x=aj->Jm x s s'->aeh s'.heap s.heap C x dx vs [⟨h1,.str (nm 6) t1,ut⟩,⟨h2,.str (nm 7) t2,uc⟩] 2->Q (ai x) s'):bw (bh G.prog G.w) A (Al (ai C) [uc,ut]) Q E s:=by
 obtain ⟨h,g,dr,t,os⟩:=s;have X:=B.X.keeps k;refine oH (Zs X T.cls (AP X T.init) (λself=>bind_fn X self T.amg) (show 2<=20 by decide) ?_);have CK:Jm (h.objs.size+1) ⟨h,g,dr,t,os⟩ ⟨(h.push<|iX [uc,ut]).push<|iL C h.objs.size,g,dr,t,os⟩:=⟨λb o _ e=>bY _ _ _ _<|bY _ _ _ _ e,rfl,rfl,rfl⟩
 have gx:((h.push<|iX [uc,ut]).push<|iL C h.objs.size).get? (h.objs.size+1)=aa (iL C h.objs.size):=by
  exact ah (show h.objs.size+1=(h.push<|iX [uc,ut]).objs.size from (nU ..).symm)<|Heap.get?_push_size _ rf
 have nx:h.get? (h.objs.size+1)=aj:=xg<|kZ _
 have x0:G.h₀.get? (h.objs.size+1)=aj:=by
  cases q:G.h₀.get? (h.objs.size+1)with
  |none=>rfl
  |some o=>
   have:=k _ _ q;rw[show (⟨h,g,dr,t,os⟩:aY).heap.get? (h.objs.size+1)=aj from nx]at this;exact cV this
 exact ai7 B T (by exact cw (eA (eA eI g9) bz) bb [(1,eA (eA aB kC) bz,bb)] rt ya) (oh k x0 CK) gx x0 λs' dx vs h1 t1 h2 t2 b D=>⟨rfl,z s' _ dx vs h1 t1 h2 t2 nx (CK.trans b) ⟨D.at_,D.sz,D.no,D.d,BJ CK.keep D.ne D.fr,D.ne⟩⟩
end
section
set_option tactic.hygienic true
section
variable{env:bS}{m:Env}
theorem Cd(I:bg G c g σ env m s)(xs:i4 g σ n a d C fs)(fr:Option bj){Q:Unit->aY->Prop}(z:∀s',bg G c g σ env m s'->eJ s.heap g s'.heap g->Q () s'):bw (bh G.prog G.w) c.A (An (ai a) fr) Q E s:=
 (xs.out I.dR).elim λvs y=>y.2.tb.elim (λt=>by
  unfold An;refine aR<|qw y.1.ob rfl t ?_;exact wn (dc rt)<|wpAny_pure<|z s I eJ.refl) λt=>t.elim λT t=>n7 I xs ⟨vs,T,⟨y.1.ob,y.2.size⟩,t.1,t.2⟩ fr z
theorem HS(env:bS)(x:fv au):wU env (aa x) aj=x>>=λv=>wU env (aa<|pure v) aj:=rfl
structure yc(G:GG)(k:Nat)(dd:cN):Prop where
 k:G.T.cls k=aa dd
 ex:dd.d5=ag
theorem Ce(B:G.dB)(TC:iU G)(I:bg G c g σ env m s)(xs:i4 g σ dD a d k fs)(hk:yc G k dd){Q:mG->aY->Prop}(z:∀s',bg G c g σ env m s'->eJ s.heap g s'.heap g->E (ai a) s'):bw (bh G.prog G.w) c.A (wU env (aa<|pure<|ai a) aj) Q E s:=by
 refine cE (xs.out I.dR) λvs y ok=>?_;have L0:gw (bh G.prog G.w) s.heap (KP<|ai a) ak:=(sF y.ob).andThen .now;have L1:gw (bh G.prog G.w) s.heap (DU<|ai a) (ai k):=(sF y.ob).andThen .now;unfold wU;refine aR<|bO<|aR<|bO<|aR<|fE ?_;unfold excFromValue UY;refine aR<|aR<|L0.here ?_;refine wn fF<|wpAny_pure<|wn fF<|wpAny_bind<|(L1.andThen (Lp (B.jh I) ((TC k dd hk.k).jm hk.ex).1):gw (bh G.prog G.w) s.heap (DL (ai a)<|aJ "BaseException") ag).here ?_;refine wy rfl<|wpAny_pure<|aR<|L0.here ?_;refine wn fF ?_;unfold raisedInstance;refine aR<|aR<|L1.here<|aR<|(Lo (B.jh I) (TC k dd hk.k).aav.1).here ?_;refine wy (beq_self_eq_true _)<|wpAny_pure<|aR<|Cd I xs aj λs' I' x'=>?_;unfold raiseNew;refine aR<|wpAny_handled ?_;refine bd (c.hd) (λq=>?_) λq=>?_
 ·
  exact ah (I.jS.1 q)<|wpAny_bind<|bO<|Ko<|z s' I' x'
 ·
  refine cE (I.jS.2 q) λp f e=>ah e<|ah (show p.1=a from congrArg oW (cP<|cP<|f.at_.symm.trans xs.p)) ?_;dsimp only;refine wn (by rw[bne_self_eq_false];exact fF) ?_;exact aR<|bO<|Ko<|z s' I' x'
theorem Cf(e:bA)(pos:ca)(env:bS):dZ (.Raise (aa e) aj pos) env=(do
 fk pos
 let v <-bq e env
 fk pos
 wU env (aa<|pure v) aj):=by
 rw[arm_exec_Raise]
 show (fk pos>>=λ_=>wU env (aa<|bq e env>>=λv=>fk pos>>=λ_=>pure v) aj)=_
 rw[HS]
 simp only[bind_assoc,pure_bind]
theorem Cg(h:mH T σ=ag):∃k fs d,aW σ dD=aa (.jm k fs)/\T.cls k=aa d/\d.d5=ag/\d.mro.contains ou=ag:=by
 unfold mH at h;split at h
 ·rename_i e he
  split at h
  ·rename_i d hd
   exact (cR he).elim λo w=>(aaj e.1 e.2 d (by refine ah w.1<|ah (O.IZ w.2) ?_;rfl) hd (aq h)<|aO h)
  ·exact dC h
 ·exact dC h
theorem Tc(R:kT G g σ h)(e:aW σ dD=aa (.jm k fs)):∃a d,i4 g σ dD a d k fs:=
 (R.slot e (λq=>by contradiction) λq=>by contradiction).elim λp w=>(yQ p.1 p.2 ⟨w.1,e⟩)
theorem Td(B:G.dB)(TC:iU G)(I:bg G c g σ env m s)(hx:ao (cU G) G c env g m s (x m σ)<|bq e env):cb G c env g s (Mine.Lake.c9 x (λv=>λm σ Q E=>match v.slot with
 |some n=>match dk n dD&&c.hd&&mH G.T σ with|true=>E m σ|false=>False
 |none=>False) m σ) (dZ (.Raise (aa e) aj pos) env):=by
 rw[Cf]
 refine cb.at_ (cb.c9 I hx λv aF aH aP u aU b6 cX=>cb.at_ λQv Ev z Q E q ex=>?_)
 split at z
 ·rename_i n hn
  split at z
  ·rename_i hc
   refine eh λcy bk=>G2 (Cg<|aO hc) λk fs d e1 e2 e3 _=>eZ (Tc aU.dR e1) λa dd xs=>bk ?_;rw[V.yB hn,(rN<|aq<|aq hc)]at cX;exact eh λcy bk=>oi (At.out cX) λb st eu es ek=>bk<|ah eu<|ah (ek (a,dd)<|cP<|es.symm.trans xs.p).symm<|Ce B TC aU xs ⟨e2,e3⟩ λs' I' x'=>ex m _ _ _ (a,dd) z I' (x'.l aU.br) ⟨xs.p,k,fs,e1⟩
  ·exact z.elim
 ·exact z.elim
theorem Zw{a b:Option P}{K:P->P->Prop}(z:match a,b,o.map O.ig with|some x,aa y,aa ag=>K x y|_,_,_=>False):∃x y,a=aa x/\b=aa y/\o=aa .free/\K x y:=by
 rcases a with _|a
 ·exact z.elim
 ·rcases b with _|b
  ·exact z.elim
  ·rcases o with _|o
   ·exact z.elim
   ·induction o using O.casesOn<;>first|exact (Dk a b rfl rfl rfl z)|exact z.elim
theorem Te(B:G.dB)(TC:iU G){cB fB fI:bj}{d:cN}(T:yb G ou cB fB fI d)(hC:yc G ou d)(hO:c.Ok)(hh:c.hd=ak){y:Env->M V}{ea eb:bA}(h1:eE ea=ag)(h2:eE eb=ag)(I:bg G c g σ env m s)(hk:env.kindOf ("IoFault":bB)=aa .globalImplicit)(hx:ao (cU G) G c env g m s (x m σ)<|bq ea env)(hy:∀aF aH aP,bg G c aP aF env m aH->ao (cU G) G c env aP m aH (y m aF) (bq eb env)):cb G c env g s (Mine.Lake.c9 x (λx=>Mine.Lake.c9 y λy=>λm σ Q E=>match x.pl,y.pl,(aW σ dD).map O.ig with
 |some x,aa y,aa ag=>E m<|aG σ dD<| .jm ou [(6,y),(7,x)]
 |_,_,_=>False) m σ) (dZ (.Raise (aa<| .Call (aK "IoFault" np) [ea,eb] [] anF) aj pos) env):=by
 rw[Cf,yJ rfl]
 refine cb.at_ λQv Ev z Q E q ex=>aR<|aR<|uB B T.T9 I.keep I.br.kind I.br.fy I.br.pQ hk (dc rt) ?_
 refine Ei (by refine ah (gm (by refine ah oQ ?_;refine ah oQ ?_;refine ah h1<|ah h2 ?_;rfl:[ea,eb].all eE=ag)) ?_;rfl) (nA.ahD T.ok.call) (ix (gm (by refine ah oQ<|ah oQ<|ah h1<|ah h2 ?_;rfl:[ea,eb].all eE=ag)) ?_)
 rw[eO h1,eO h2]
 refine uT<|hx _ _ z _ _ (λv aF aH aP u eT aU b6 cX=>uT<|hy aF aH aP aU _ _ eT _ _ (λw dh da dL t gU cF di gk=>AU ?_) λdh da dL p y cF di fl=>ex _ _ _ _ p y cF ((b6.trans di).l I.br) fl) λaF aH aP p y aU b6 fl=>ex _ _ _ _ p y aU (b6.l I.br) fl
 refine ⟨B.jh cF,?_⟩
 refine acG (Zw gU) λa b ha hb e gU=>Zv B T (jB (bo (zp (bo (gf _ _)<|gf _ _) 8)<|gj _) hO.depth) cF.keep λs' adx dx vs h1 t1 h2 t2 nx bu D=>?_
 have kp:=λb' o e=>bu.keep b' o (λq=>by rw[q,nx]at e;exact cV e) e
 have:=cF.new (p:=(adx,dx)) (o:=.jm ou [(6,b),(7,a)]) (tk:=s'.toks) (h':=s'.heap) (bP:=aG dh dD<| .jm ou [(6,b),(7,a)]) (cF.dR.free e) (λ_=>e) (by rw[kg,if_pos rfl];refine ah e ?_;rfl) (λk ne=>by rw[kg];refine ah (if_neg ne) ?_;rfl) kp nx D.fr
  ⟨vs,⟨oX D.ne,D.at_,_,2,D.d,⟨⟨t1,rfl⟩,(λ{F a u}r=>PR.bL (Dg F kp) _ r:∀{F:Fz}{a:P}{u},PR G da.heap F a u->PR G s'.heap F a u)<|gk.pl hb⟩,⟨⟨t2,rfl⟩,(λ{F a u}r=>PR.bL (Dg F kp) _ r:∀{F:Fz}{a:P}{u},PR G da.heap F a u->PR G s'.heap F a u)<|(cX.ext di).pl ha⟩,trivial⟩,D.sz,az D.no⟩
 have es:({da with heap:=s'.heap,toks:=s'.toks}:aY)=s':=by
  obtain ⟨hp,gg,dd,tt,oo⟩:=s';refine ah (show gg=da.gens from bu.gens)<|ah (show dd=da.drawn from bu.drawn)<|ah (show oo=da.os from bu.os) ?_;rfl
 replace this:=es▸this
 have xs:i4 ⟨dL.ρ.fP dD<|aa<|aa (adx,dx),dL.F⟩ (aG dh dD<| .jm ou [(6,b),(7,a)]) dD adx dx ou [(6,b),(7,a)]:=⟨(if_pos rfl:(dL.ρ.fP dD<|aa<|aa (adx,dx)) dD=aa (aa (adx,dx))),by rw[kg,if_pos rfl];refine ah e ?_;rfl⟩
 exact aR<|gF<|Ce B TC this.1 xs hC λgd e9 eU=>ex m _ _ _ (adx,dx) gU e9 ((((b6.trans di).trans this.2.1).trans eU).l I.br) ⟨xs.p,_,_,xs.o⟩
end
end
section
set_option tactic.hygienic true
section
variable{env:bS}{m:Env}
theorem ab9(e:Au es name=aa u):∃i,es.findIdx? (·.key.isStr name)=aa i:=by
 refine od (es.findIdx? (·.key.isStr name)) (λi q=>q▸⟨i,rfl⟩) λq=>?_
 ·
  rw[Array.findIdx?_eq_none_iff]at q;refine cE (lM.mp e) λx hx _=>?_;have:=Array.find?_some (p:=λe:i5=>e.key.isStr name) hx;rw[q x<|Array.mem_of_find?_eq_some hx]at this;exact dC this
theorem HT{M:iy}{Q:Bool->aY->Prop}(hn:s.heap.Ns a mr)(hu:mr name=aa u)(hQ:∀h' v,h'.Ns a (λx=>if x=name then v else mr x)->Eg a s.heap h'->(∀o,s.heap.get? a=aa o->∃o',h'.get? a=aa o'/\o'.cls=o.cls/\∀ts,o'.data≠.fields ts)->Q ag {s with heap:=h'}):bw M A (nsDel a name) Q E s:=by
 refine eh λcy bk=>G2 hn λo es ep ho hd hk hm=>?_;obtain ⟨i,hi⟩:=ab9<|(hm name).trans hu;refine bk ?_;have ai8:es.any (·.key.isStr name)=ag:=by
  refine cE (Array.findIdx?_eq_some_iff_getElem.mp hi) λhl hp _=>?_;exact Array.any_eq_true'.mpr<|b0 _ (Array.getElem_mem hl) hp
 unfold nsDel
 refine aR<|Af ho ?_
 refine ah (show nsHas name o=pure ag by
  refine ah nsHas_eq ?_;unfold nsHasByArray;exact hd▸if_pos ai8) ?_
 refine aR<|bO ?_
 refine wy rfl<|wpAny_bind<|Ka ho<|bO ?_
 obtain ⟨cl,d,dt,sl⟩:=o
 subst hd
 have ed:V3 name ⟨cl,d,.dict es ep,sl⟩=⟨cl,d,.dict (es.eraseIdxIfInBounds i)<|ep+1,sl⟩:=by simp only[Obj.dropName_eq,Obj.dropNameByArray,hi]
 have hg:=nT (V3 name) ho (by refine ah ed ?_;rfl)
 rw[ed]at hg
 refine hQ _ (Au (es.eraseIdxIfInBounds i) name) ⟨_,_,ep+1,hg,rfl,hk.erase i,λx=>?_⟩ (Wt ..) λSP wB=>(tc _ hg (by rw[ho]at wB;obtain rfl:=fh wB;rfl) λts q=>by contradiction)
 by_cases hx:x=name
 ·exact hx▸(if_pos rfl).symm
 ·exact ((nsFind_erase_other hi hx).trans<|hm x).trans (if_neg hx).symm
theorem z9{A:Type}{v:A}{m:List (Nat×A)}(e:av (cW m i) j=aa v):i≠j:=λq=>by rw[q,Zr]at e;exact cV e
theorem F9(I:bg G c g σ env m s){i:Nat}(hk:env.kindOf (nm i)=aa .local){pos:ca}{Q:Unit->aY->Prop}(z:∀s',bg G c g σ env (cW m i) s'->jT env s.heap s'.heap->Q () s'):bw (bh G.prog G.w) c.A (do KG env (nm i) .none;Uj env (nm i) pos) Q E s:=by
 refine aR (qv<|kh I (v:=.p .none) rfl (λn e=>by contradiction) (az hk) λaH aU ai9=>?_);have eo:=aU.br;refine eh λcy bk=>cE eo.ns λmr ns hm=>cE (hm i (.p .none) (by rw[mx,if_pos rfl]) hk) λu hu _=>bk ?_;unfold Uj;refine UK ?_;unfold unbindName;refine aR<|US<|aR ?_;unfold deleteName;refine ah hk<|ah (by refine ah eo.kind ?_;rfl:(env.scope.kind==.class||(env.scope.kind==.module&&env.locals !=env.globals))=ak) ?_;refine aR<|HT ns hu λh' v aas hs hc=>?_;have oc:jT env aH.heap h':=⟨λb nb=>hs.2 b λq=>nb<|az q,λb o e q=>by
  by_cases w:b=env.locals
  ·exact w▸hc o (w▸e)
  ·refine (tc o ((hs.2 b w).trans e) rfl λts z=>?_)
   rcases q with q|⟨x,q⟩
   ·exact w q
   ·refine lK (eo.cells x b q) λov o' e' d=>?_
    rw[e]at e';obtain rfl:=fh e';rw[z]at d;contradiction⟩
 have x:gR c.lk env aH.heap g h' g:=oc.my eo
 have mv:∀{w u},VR G aH.heap g w u->VR G h' g w u:=λr=>r.bL x.ji λ_ _=>az
 have up:∀{j w},av (cW m i) j=aa w->av (aN m i<| .p .none) j=aa w:=λ{j w}e=>(qZ<|z9 e).trans<|tA e
 have cF:=aU.vL (tk:=aH.toks) oc ⟨eo.kind,eo.fy,eo.pQ,(b0 _ aas λj w hj FW=>(hm j w (up hj) FW).elim λu y=>(b0 u ((if_neg λe=>z9 hj (u7 e).symm).trans y.1)<|mv y.2)),
  λb q=>⟨⟨(eo.cY b q).1.1.elim λo e=>x.jW b o e,(eo.cY b q).1.2⟩,(eo.cY b q).2⟩,λy a q=>(eo.cells y a q).elim λov z=>⟨ov,n6 z<|hs.2 a<|eo.qY q⟩,
  λj w hj FW=>eZ (eo.n4 j w (up hj) FW) λa u y=>(gZ a u y.1 (n6 y.2.1<|hs.2 a<|eo.qY y.1)<|mv y.2.2),eo.qq,eo.apart⟩ λj n e=>aU.tm j n<|up e
 exact bO<|US<|z _ cF<|ai9.trans oc
end
end
section
set_option tactic.hygienic true
noncomputable def Cn.mark (c:Cn) (a:bj):Cn:=⟨c.A.mark<|aa<|ai a,c.fr,ag,c.d,c.lv,c.lk⟩
section
variable{env:bS}{m:Env}
theorem Cn.Ok.mark(hO:c.Ok)(a:bj):(c.mark a).Ok:=⟨hO.frames,hO.depth,hO.units⟩
theorem pJ.mark(F:pJ c env)(a:bj):pJ (c.mark a) env:=⟨F.fr,F.A,F.L⟩
theorem bg.mark(I:bg G c g σ env m s)(f:se g σ p):bg G (c.mark p.1) g σ env m s:=⟨I.keep,I.dR,I.br,I.frames,I.tu,⟨λq=>(rT q),λ_=>(b0 p f rfl)⟩,I.lk,I.tm,I.gens,I.os,I.drawn,I.y6⟩
theorem bg.MD(I:bg G (c.mark a) g σ env m s)(h1:c.hd=ak)(h2:c.A.handled=aj):bg G c g σ env m s:=⟨I.keep,I.dR,I.br,I.frames,I.tu,⟨λ_=>h2,λq=>(by rw[h1]at q;exact dC q)⟩,I.lk,I.tm,I.gens,I.os,I.drawn,I.y6⟩
theorem aca(I:bg G c g σ env m s)(xs:i4 g σ n a d C fs)(T:sQ G s.heap g.F a d C)(z:∀s',bg G c g σ env m s'->eJ s.heap g s'.heap g->E (ai a) s'):wN (bh G.prog G.w) c.A env E (ai a) s:=by
 unfold wN;exact eZ T.out λvs SV w=>aR (qw w.1.at_ rfl w.2.1 (by
  exact wn (by simp)<|n7 I xs T _ z))
theorem sQ.cY(T:sQ G h F a d C)(oc:jT env h h')(eo:fV G h g env m)(fa:jg g.ρ a):sQ G h' F a d C:=eZ T.out λvs SV w=>w.2.2.o.elim λoT y=>y.elim λts y=>
 ⟨vs,SV,⟨(oc.jx a λq=>(eo.cY a q).1.2<|az fa).trans w.1.at_,w.1.sz⟩,w.2.1,(⟨(oc.jx SV λq=>(eo.vr q).elim λo r=>r.2<|(cP<|r.1.symm.trans y.at_)▸⟨y.c,ts,y.d⟩).trans y.at_,y.c,y.d,y.sz,y.h0,y.nF⟩:agc G h' F SV oT ts).a⟩
theorem MB.map{fl:Fl}(r:MB G h g fl u)(k:∀v w,fl=.ret v->VR G h g v w->VR G h' g' v w):MB G h' g' fl u:=by
 induction fl using Fl.casesOn with
 |ret v=>exact (r).elim λw q=>⟨w,q.1,k v w rfl q.2⟩
 |_=>exact r
theorem O7(TC:iU G)(X:G.K.In s.heap){vs:Array au}(e:Dh s.heap a d k vs)(hk:yc G k dd)(hI:yc G CI dI)(hm:dd.mro.contains CI=ag){Q:Bool->aY->Prop}(z:Q ag s):bw (bh G.prog G.w) A (excMatches (ai a)<|ai CI) Q E s:=by
 refine aR<|((Lo X (TC CI dI hI.k).aav.1).andThen<|Wb tc_notTuple).here<|wn fF<|aR<|bO<|aR<|wq (uN ..)<|aR<|aR<|((Mz X<|TC CI dI hI.k).andThen (Lp X ((TC CI dI hI.k).jm hI.ex).1):gw (bh G.prog G.w) s.heap (UY<|ai CI) ag).here<|wn fF ?_;exact bO<|bO<|aR<|((sF e.at_).andThen .now:gw _ s.heap (DU<|ai a)<|ai k).here<|aR<|wq (uN ..)<|aR<|aR<|(qA X<|(Qe (TC k dd hk.k) hk.ex).trans<|congrArg aa hm).here<|wy rfl<|bO<|bO<|bO z
theorem O8(I:bg G c g σ env m s)(xs:i4 g σ n a d C fs)(T:sQ G s.heap g.F a d C)(fr:Option bj){Q:Unit->aY->Prop}(z:∀s',bg G c g σ env m s'->eJ s.heap g s'.heap g->(∃vs,Dh s'.heap a d C vs)->Q () s'):bw (bh G.prog G.w) c.A (An (ai a) fr) Q E s:=n7 I xs T fr λs' I' x'=>z s' I' x'<|(xs.out I'.dR).elim λvs y=>⟨vs,y.1.ob,y.2.size⟩
structure agm(G:GG)(c:Cn)(g:Gh)(σ:H)(env:bS)(m:Env)(s:aY)(fl:Fl)(u:mG)(g':Gh):Prop where
 I:bg G c g' (aG σ dD .free) env m s
 x:gR c.lk env s.heap g s.heap g'
 r:MB G s.heap g' fl u
theorem agn(I:bg G c g σ env m s)(hh:c.hd=ak)(nl:¬c.lk dD)(hp:g.ρ dD=aa (aa p))(r:MB G s.heap g fl u)(h:(noRef dD m&&zr dD fl)=ag):∃g',agm G c g σ env m s fl u g':=
 have hn:dD<10:=dc rt
 have:=I.free (m':=m) hn (λ_=>hh) hp nl λi v e=>(b0 v e<|tZ.jx hn<|F3 (aq h) e)
 ⟨_,⟨this.1,this.2,r.map λv w e q=>VR.u9 hn (mE<|aO<|e▸h) q⟩⟩
def ady(HA:Option Nat)(hm:SM):SM:=λm σ Q E=>hm (match HA with|some i=>aN m i (.ob dD)|none=>m) σ
 (λfl uY oy=>match noRef dD (MP uY HA)&&zr dD fl with
  |true=>Q fl (MP uY HA)<|aG oy dD .free
  |false=>False)
 λuY oy=>E (MP uY HA) oy
theorem acb(B:G.dB)(TC:iU G)(F:pJ c env)(hI:yc G ou dI)(bn:iM G "IoFault" (ai ou))(aj1:env.kindOf ("IoFault":bB)=aa .globalImplicit)(Qp:c.hd=ak)(nl:¬c.lk dD)(aei:∀i,HA=aa i->env.kindOf (nm i)=aa .local)(hH:∀a m σ s g,bg G (c.mark a) g σ env m s->cb G (c.mark a) env g s (hm m σ) (jF (CK::HD) env))(I:bg G c g σ env m s){a d:bj}(xs:i4 g σ dD a d k fs)(hk:yc G k dd)(hc:dd.mro.contains ou=ag)(ea:∃vs,Dh s.heap a d k vs):cb G c env g s (ady HA hm m σ) (handleBy (ai a) env [.ExceptHandler (aa<|aK "IoFault" np) (HA.map nm) (CK::HD) R4]):=λQv Ev z Q E q ex=>by
 obtain ⟨outer,Bq⟩:=F.fr;obtain ⟨L,hL⟩:=F.L;have hA:=I.jS.1 Qp;refine ea.elim λvs ga=>wpAny_handleBy_cons (codeAny_handlers_test<|uB B bn I.keep I.br.kind I.br.fy I.br.pQ aj1 (dc rt)<|O7 TC (B.jh I) ga hk hI hc ?_) (by intro q;contradiction);refine ah (if_pos rfl) ?_;have amh:=λ(Q:Unit->aY->Prop)E(z:∀s',bg G (c.mark a) g σ env m s'->eJ s.heap g s'.heap g->Q () s')=>Cd (c:=c.mark a) (I.mark<|⟨xs.p,k,fs,xs.o⟩) xs aj z (E:=E);have out:∀{p}{m₂:Env}{dh:H}{da}{dL:Gh},bg G (c.mark a) dL dh env m₂ da->se dL dh p->(∀gd,bg G c dL dh env m₂ gd->eJ da.heap dL gd.heap dL->E (ai p.1) gd)->
  oO (bh G.prog G.w) (c.mark a).A env (λx s'=>wN (bh G.prog G.w) c.A env E x s') (ai p.1) da:=λ{p m₂ dh da dL}cF Aa zE=>eZ Aa.jm λk' al6 w=>by
  unfold oO
  exact wd cF F.A Bq hL ⟨Aa.at_,w⟩ λgd e9 eU ale=>aca (e9.MD Qp hA) ⟨Aa.at_,w⟩ ale λwC pS yL=>zE wC pS<|eU.trans yL
 have fin:∀{fl:Fl}{u}{m₂:Env}{dh:H}{da}{dL:Gh},bg G c dL dh env m₂ da->(∃p,se dL dh p)->gR c.lk env s.heap g da.heap dL->MB G da.heap dL fl u->(match noRef dD m₂&&zr dD fl with|true=>Qv fl m₂ (aG dh dD .free)|false=>False)->Q u da:=λ{fl u m₂ dh da dL}cF Aa di gk y=>by
  refine bd (noRef dD m₂&&zr dD fl) (λhr=>?_) λhr=>?_
  ·replace y:=hr▸y;exact y.elim
  ·
   replace y:=hr▸y;exact Aa.elim λp Aa=>(agn cF Qp nl Aa.at_ gk hr).elim λlG w=>q fl m₂ _ da lG u y w.I (di.trans w.x) w.r
 have ami:∀{m₂:Env}{dh:H}{da}{dL:Gh},bg G (c.mark a) dL dh env m₂ da->∃p,se dL dh p:=λcF=>(cF.jS.2 rfl).elim λp w=>⟨p,w.1⟩
 induction HA using fA with
 |none=>
  exact codeAny_handlers_suite<|amh _ _ λaH aU b6=>hH a m σ aH g aU _ _ z _ _ (λfl m₂ dh da dL u y cF di gk=>fin (cF.MD Qp hA) (ami cF) ((b6.l I.br).trans di) gk y) λm₂ dh da dL p y cF di Aa=>out cF Aa λgd e9 eU=>ex m₂ dh gd dL p y e9 (((b6.l I.br).trans di).trans<|eU.l cF.br) Aa
 |some i=>
  have hl:=aei i rfl;refine codeAny_handlers_suite_as (amh _ _ λaH aU b6=>kh aU (v:=.ob dD) ⟨a,_,rfl,xs.p,λp e=>by refine ah (cP e).symm ?_;rfl⟩ (λn e=>by contradiction) (az hl) λda cF adz=>hH a _ σ da g cF _ _ z _ _ (λfl yK kB gd lG u y e9 eU CO=>?_) λyK kB gd lG p y e9 eU NE=>?_)
  ·have x:=((b6.l I.br).trans<|adz.my aU.br).trans eU
   exact F9 (e9.MD Qp hA) hl λwC pS HU=>fin pS (ami e9) (x.trans<|HU.my e9.br) (CO.map λ_ _ _ q=>q.bL (HU.my (L:=c.lk) e9.br).ji λ_ _=>az) y
  ·have x:=((b6.l I.br).trans<|adz.my aU.br).trans eU
   refine eZ NE.jm λk' al6 w=>wd e9 F.A Bq hL ⟨NE.at_,w⟩ λwC pS yL alf=>F9 pS hl λIb FX NF=>?_;have ahM:=alf.cY NF pS.br ⟨dD,_,NE.at_,az rfl⟩;unfold PySem.passOn;refine eh λcy bk=>eZ ahM.out λamq anG ahN=>bk<|wpAny_bind<|qw ahN.1.at_ rfl ahN.2.1 ?_;exact wn (by simp)<|aR<|n7 FX ⟨NE.at_,w⟩ ahM _ λahO alg alh=>Ko<|out alg NE λali alj alk=>ex _ kB ali lG p y alj (((x.trans<|yL.l e9.br).trans<|NF.my pS.br).trans<|(alh.trans alk).l FX.br) NE
theorem ago(B:G.dB)(TC:iU G)(F:pJ c env)(hI:yc G ou dI)(bn:iM G "IoFault" (ai ou))(aj1:env.kindOf ("IoFault":bB)=aa .globalImplicit)(aei:∀i,HA=aa i->env.kindOf (nm i)=aa .local){bd:SM}(hH:∀a m σ s g,c.hd=ak->bg G (c.mark a) g σ env m s->cb G (c.mark a) env g s (hm m σ) (jF (CK::HD) env))(I:bg G c g σ env m s)(hb:cb G c env g s (bd m σ)<|jF body env):cb G c env g s (λQ E=>match (aW σ dD).map O.ig with
 |some ag=>bd m σ Q λm' bP=>match !c.hd&&mH G.T bP with
  |true=>ady HA hm m' bP Q E
  |false=>False
 |_=>False) (dZ (.Try body [.ExceptHandler (aa<|aK "IoFault" np) (HA.map nm) (CK::HD) R4] [] [] pos) env):=λQv Ev z Q E q ex=>by
 obtain ⟨outer,Bq⟩:=F.fr
 obtain ⟨L,hL⟩:=F.L
 have s8:aW σ dD=aa .free:=by
  refine oc (aW σ dD) (λe=>?_) λo e=>?_
  ·rw[e]at z;exact z.elim
  ·rw[e]at z;refine ah e ?_;induction o using O.casesOn<;>first|rfl|exact z.elim
 rw[s8]at z
 have nl:=λl=>I.lk dD l<|I.dR.free s8
 refine wpAny_Try_except<|hb _ _ z _ _ (λf m₁ aF aH aP u y aU b6 r=>?_) λm₁ aF aH aP p y aU b6 fl=>?_
 ·have w:=q f m₁ aF aH aP u y aU b6 r
  cases u<;>first|exact w|exact DB w
 ·dsimp only at y
  split at y
  ·rename_i hc
   refine eh λcy bk=>G2 (Cg<|aO hc) λk fs dd e1 e2 e3 e4=>bk ?_;have Qp:=mE<|aq hc;have xs:i4 aP aF dD p.1 p.2 k fs:=⟨fl.at_,e1⟩
   exact wd aU F.A Bq hL xs λda cF di alm=>O8 cF xs alm aj λgd e9 eU ea=>acb B TC F hI bn aj1 Qp nl aei (λa m σ s g I=>hH a m σ s g Qp I) e9 xs ⟨e2,e3⟩ e4 ea Qv Ev y Q E (q.ext<|b6.trans<|(di.trans eU).l aU.br)<|ex.ext<|b6.trans<|(di.trans eU).l aU.br
  ·exact y.elim
end
end
structure kU(env:bS)(scope:ic)(t:Nat):Prop where
 kind:scope.kind=b7
 XP:∀x∈scope.names,x.2≠.cell
 aaw:scope.names.lookup (nm t)=aa .local
 only:∀i,scope.names.lookup (nm i)=aa .local->i=t
 lk:∀x∈scope.names,x.2=.local->scope.names.lookup x.1=aa .local
 free:∀x∈scope.names,x.2=.free->env.kindOf x.1=aa .cell\/env.kindOf x.1=aa .free
noncomputable def pq (env:bS):List (bB×i6)->List (bB×bj)->List (bB×bj)
 |[],cs=>cs
 |x::r,cs=>pq env r<|match x.2==.free with|true=>(x.1,(env.cells.lookup x.1).getD 0)::cs|false=>cs
section
variable{env kV:bS}{m:Env}{scope:ic}{t:Nat}
theorem Jn(x:bB×i6)(r:List<|bB×i6)(cs:List<|bB×bj):pq env (x::r) cs=pq env r (match x.2==.free with|true=>(x.1,(env.cells.lookup x.1).getD 0)::cs|false=>cs):=rfl
theorem O9{y:bB×bj}:∀{l:List (bB×i6)}{cs:List (bB×bj)},y∈pq env l cs->y∈cs\/((y.1,qi)∈l/\y.2=(env.cells.lookup y.1).getD 0):=@lr _ _
 (@λcs h=>az h)
 (@pr _ _ _ (λn k l ih=>@λcs h=>(ih h).elim (λh=>by
  refine bd (k==qi) (λq=>?_) λq=>?_
  ·rw[q]at h;exact az h
  ·
   rw[q]at h;exact (dU.mp h).elim (λe=>aX<|e▸⟨eq_of_beq q▸eB _,rfl⟩) az) λh=>aX ⟨ey _ h.1,h.2⟩))
theorem Pa{x:bB}:∀{l:List (bB×i6)}{cs:List (bB×bj)},(x,qi)∈l\/(∃a,(x,a)∈cs)->∃a,(x,a)∈pq env l cs:=@lr _ _
 (@λcs h=>h.elim (λh=>by contradiction) id)
 (@pr _ _ _ (λn k l ih=>@λcs h=>ih (h.elim (λh=>(dU.mp h).elim (λe=>aX<|by cases e;exact ⟨_,eB _⟩) az) λh=>h.elim λa h=>aX (by
  cases k==.free with
  |true=>exact ⟨a,ey _ h⟩
  |false=>exact ⟨a,h⟩))))
theorem Pb(hf:∀x,(x,qi)∈scope.names->(env.cells.lookup x).isSome=ag):UZ scope env=pure (pq env scope.names []):=by
 unfold UZ;have:∀(l:List<|bB×i6)(cs:List<|bB×bj),(∀x,(x,qi)∈l->(env.cells.lookup x).isSome=ag)->(forIn l cs λx r=>(if (x.2==qi)=ag then do let a <-DT env x.1;pure (Ew<|(x.1,a)::r)else pure (Ew r):fv<|ForInStep<|List<|bB×bj))=pure (pq env l cs):=by
  intro l;induction l with
  |nil=>intro cs _;rfl
  |cons y l ih=>
   intro cs h;rw[uN];refine bd (y.2==qi) (λq=>?_) λq=>?_
   ·refine ah q<|ah (if_neg fF) ?_;rw[pure_bind,Jn,q]
    exact ih cs λx hx=>h x<|ey _ hx
   ·refine ah q ?_
    obtain ⟨a,ea⟩:=m6.mp<|h y.1<|eq_of_beq q▸eB _;refine ah (if_pos rfl) ?_;rw[show DT env y.1=pure a by unfold DT;refine ah ea ?_;rfl,pure_bind,pure_bind,Jn,q,ea];exact ih _ λx hx=>h x<|ey _ hx
 have:=this scope.names [] hf
 simp only[bind_pure]at this⊢
 exact this
theorem Pc{x:bB}{a:α}:∀{l:List (bB×α)},(x,a)∈l->(l.lookup x).isSome=ag:=@lr _ _
 (λh=>absurd h Vm)
 (@pr _ _ _ (λy b l ih h=>by
  refine ah ve<|bc (x==y) (λq=>?_) λq=>?_
  ·rw[q];rfl
  ·rw[q];exact (dU.mp h).elim (λe=>rT<|(beq_iff_eq.mpr<|congrArg oW e).symm.trans q) ih))
theorem vb(S:kU env scope t)(eo:fV G h g env m){x:bB}{a:bj}(e:(pq env scope.names []).lookup x=aa a):env.cells.lookup x=aa a/\(x,qi)∈scope.names:=
 (O9<|qc e).elim (λq=>by contradiction) λq=>⟨by
  obtain ⟨b,eb⟩:=m6.mp<|eo.qq x<|S.free _ q.1 rfl;refine ah (show a=(env.cells.lookup x).getD 0 from q.2)<|ah eb ?_;rfl,q.1⟩
theorem adA(S:kU env scope t)(eo:fV G h g env m){x:bB}(e:(x,qi)∈scope.names):∃a,(pq env scope.names []).lookup x=aa a/\env.cells.lookup x=aa a:=
 (Pa<|az e).elim λa q=>(m6.mp<|Pc q).elim λb w=>(b0 b w (vb S eo w).1)
theorem CS{x:bB}{k:i6}:∀{l:List (bB×i6)},(l.map λy=>if (y.2==qi&&env.scope.kind==b7&&env.kindOf y.1==aa .cell)=ag then (y.1,Eh)else y).lookup x=aa k->∃k',l.lookup x=aa k'/\(k'=k\/(k'=.free/\k=.cell)):=@lr _ _
 (@λh=>cV h)
 (@pr _ _ _ (λn k₁ l ih=>@λh=>by
  rw[oP,ve]at h;refine ah ve ?_;by_cases q:(k₁==qi&&env.scope.kind==b7&&env.kindOf n==aa .cell)=ag
  ·rw[if_pos q]at h
   cases w:x==n with
   |true=>
    rw[w]at h;exact (b0 k₁ rfl<|aX ⟨eq_of_beq<|aq<|aq q,(cP h).symm⟩)
   |false=>rw[w]at h;exact ih h
  ·rw[if_neg q]at h
   cases w:x==n with
   |true=>rw[w]at h;exact (b0 k₁ rfl<|az<|cP h)
   |false=>rw[w]at h;exact ih h))
abbrev vw(scope:ic)(C:bj)(env:bS):bS:=compEnvC scope (pq env scope.names []) C env
theorem Ua(S:kU env scope t){C:bj}{x:bB}{k:i6}(e:(vw scope C env).kindOf x=aa k):scope.names.lookup x=aa k\/(scope.names.lookup x=aa .free/\k=.cell):=(CS e).elim λk' w=>w.2.elim (λq=>az<|q▸w.1) λq=>aX ⟨q.1▸w.1,q.2⟩
theorem vN(S:kU env scope t){C:bj}{x:bB}(e:(vw scope C env).kindOf x=aa .cell\/(vw scope C env).kindOf x=aa .free):(x,qi)∈scope.names:=
 e.elim (λe=>(Ua S e).elim (λq=>absurd rfl<|S.XP _<|qc q) λq=>qc q.1) λe=>(Ua S e).elim (λq=>qc q) λq=>qc q.1
theorem acd(S:kU env scope t){C:bj}:(vw scope C env).kindOf (nm t)=aa .local:=lookup_relabel_local S.aaw
theorem Zx(S:kU env scope t){C:bj}(eo:fV G h g env m)(nC:h.Ns C mr)(pC:sZ h g C)(c0:G.h₀.get? C=aj):fV G h g (vw scope C env) (cW m t) where
 kind:=S.kind
 fy:=eo.fy
 pQ:=eo.pQ
 ns:=(b0 mr nC λi v a b=>(Ua S b).elim (λq=>absurd (S.only i q).symm<|z9 a) λq=>by nomatch q.2)
 cY:=λb q=>q.elim (λq=>ah (q)<|⟨pC,c0⟩) λq=>q.elim λx q=>eo.cY b (aX ⟨x,(vb S eo q).1⟩)
 cells:=λx a q=>eo.cells x a (vb S eo q).1
 n4:=λi v a b=>cE (adA S eo<|vN S b) λy l1 l2=>eZ (eo.n4 i v (tA a)<|S.free _ (vN S b) rfl) λa u w=>(gZ y u l1 (by
  exact (cP<|w.1.symm.trans l2)▸w.2.1) w.2.2)
 qq:=λx q=>(adA S eo<|vN S q).elim λa w=>by
  refine ah w.1 ?_;rfl
 apart:=λx y a q r=>eo.apart x y a (vb S eo q).1 (vb S eo r).1
theorem bg.Nj(I:bg G c g σ env m s)(e:fV G s.heap g kV m')(ht:∀i n,av m' i=aa (.tm n)->¬c.lk n):bg G c g σ kV m' s:=⟨I.keep,I.dR,e,I.frames,I.tu,I.jS,I.lk,ht,I.gens,I.os,I.drawn,I.y6⟩
theorem fV.iz(e:fV G h g env m)(k:∀i v,av m' i=aa v->av m i=aa v):fV G h g env m':=⟨e.kind,e.fy,e.pQ,e.ns.elim λmr w=>(b0 mr w.1 λi v a b=>w.2 i v (k i v a) b),e.cY,e.cells,λi v a b=>e.n4 i v (k i v a) b,e.qq,e.apart⟩
theorem bg.iz(I:bg G c g σ env m s)(k:∀i v,av m' i=aa v->av m i=aa v):bg G c g σ env m' s:=I.Nj (I.br.iz k) λi n e=>I.tm i n<|k i _ e
theorem Tf{A:Type}{i:Nat}{m:List (Nat×A)}(n:i≠j):av (cW m i) j=av m j:=by
 induction m with
 |nil=>rfl
 |cons e m ih=>
  rw[WS];by_cases q:e.1=i
  ·exact ah (if_pos q)<|ah ih<|(if_neg λz=>n<|q.symm.trans z).symm
  ·rw[if_neg q]
   show (if e.1=j then aa e.2 else av (cW m i) j)=if e.1=j then aa e.2 else av m j
   refine ah ih ?_;rfl
theorem ace{A:Type}{i:Nat}{v w:A}{m:List (Nat×A)}(e:av (aN m i v) j=aa w):av (aN (cW m i) i v) j=aa w:=by
 rw[mx]at e⊢;by_cases q:i=j
 ·rw[if_pos q]at e⊢;exact e
 ·rw[if_neg q]at e⊢;rw[Tf q];exact e
theorem GW{A:Type}{i:Nat}{v w:A}{m:List (Nat×A)}(e:av (cW m i) j=aa w):av (aN m i v) j=aa w:=by
 rw[mx,if_neg<|z9 e];exact tA e
end
section
set_option genInjectivity false
structure nB{α:Type}(lY:bX->Fz->cC->α->Prop):Prop where
 fr:∀{h F o acc},lY h F o acc->o.cls≠aJ "frame"/\¬qW o
 bL:∀{h F h' F' o acc},lH h F h' F'->lY h F o acc->lY h' F' o acc
structure nP(env:bS)(scope:ic)(t:Nat)(m:Env) where
 nw:aY
 mu:Gh
 a:bj
 D:bj
 C:bj
 xs:List P
 St:Nat->bX->Prop
structure pt(G:GG)(c:Cn)(env:bS)(scope:ic)(t:Nat)(m:Env)(N:nP env scope t m):Prop where
 K:sS G N.xs N.nw.heap N.mu.F N.a N.St
 S:kU env scope t
 hh:c.A.handled=aj
 fa:N.nw.heap.get? N.a=aj
 fD:N.nw.heap.get? N.D=aj
 fC:N.nw.heap.get? N.C=aj
 aD:N.a≠N.D
 aC:N.a≠N.C
 DC:N.D≠N.C
section
variable{env:bS}{scope:ic}{t:Nat}{m:Env}{N:nP env scope t m}{i:Nat}
abbrev nP.kV(N:nP env scope t m):bS:=vw scope N.C env
structure iE(G:GG)(c:Cn)(N:nP env scope t m)(lY:bX->Fz->cC->α->Prop)(acc:α)(i:Nat)(mm:Env)(g:Gh)(σ:H)(s:aY):Prop where
 st:N.St i s.heap
 I:bg G c g σ N.kV mm s
 x:eJ N.nw.heap N.mu s.heap g
 la:jc G c N.kV s.heap g N.a
 lD:jc G c N.kV s.heap g N.D
 d:∃o,s.heap.get? N.D=aa o/\lY s.heap g.F o acc
theorem iE.H2(O:pt G c env scope t m N)(AK:nB lY)(A:iE G c N lY acc i mm g σ s)(I:bg G c g' bP N.kV mm s')(y:eJ s.heap g s'.heap g'):iE G c N lY acc i mm g' bP s' where
 st:=vM O.K A.la A.x.ji A.st (y.l A.I.br)
 I:=I
 x:=A.x.trans y
 la:=(O.K.cls _ _ A.st).elim λo w=>A.la.ext y w.1
 lD:=A.d.elim λo w=>A.lD.ext y w.1
 d:=A.d.elim λo w=>(b0 o (y.adk A.lD w.1 (AK.fr w.2).1)<|AK.bL y.ji w.2)
theorem iE.other(O:pt G c env scope t m N)(AK:nB lY)(fb:N.nw.heap.get? b=aj)(Db:N.D≠b)(A:iE G c N lY acc i mm g σ s)(k:∀b' o,b'≠b->s.heap.get? b'=aa o->s'.heap.get? b'=aa o)(st:N.St i' s'.heap)(I:bg G c g σ N.kV anr s')(fx:lH s.heap g.F s'.heap g.F):iE G c N lY acc i' anr g σ s' where
 st:=st
 I:=I
 x:=A.x.n5 fb k
 la:=A.la.yM λo e=>(O.K.cls _ _ st).elim λo' w=>by rw[cP<|e.symm.trans w.1];exact w.2.vr
 lD:=A.lD.yM λo e=>A.d.elim λo' w=>by rw[cP<|e.symm.trans<|k _ _ Db w.1];exact (AK.fr w.2).2
 d:=A.d.elim λo w=>(b0 o (k _ _ Db w.1)<|AK.bL fx w.2)
theorem iE.fP(O:pt G c env scope t m N)(AK:nB lY)(A:iE G c N lY acc i mm g σ s)(hs:Eg N.D s.heap h')(e:h'.get? N.D=aa o)(r:lY h' g.F o Z4):iE G c N lY Z4 i mm g σ {s with heap:=h',toks:=tk}:=by
 have k:∀b o,b≠N.D->s.heap.get? b=aa o->h'.get? b=aa o:=λb o nb e=>(hs.2 b nb).trans e;have st:=eZ O.K.x8 λfp Pj W=>(W.1 c.A O.hh).frame i s.heap h' A.st λb hb o e=>(W.2.1 b hb).elim (λq=>k b o (q▸O.aD) e) λw=>w.2.elim λFC s8=>k b o (λq=>by rw[q,O.fD]at s8;exact cV s8) e;exact ⟨st,A.I.n5 A.lD k,A.x.n5 O.fD k,A.la.yM λo e=>(O.K.cls _ _ st).elim λo' w=>ah (cP<|e.symm.trans w.1)<|w.2.vr,A.lD.yM λo' e'=>ah (cP<|e'.symm.trans e)<|(AK.fr r).2,o,e,r⟩
theorem BK(A:iE G c N lY acc i mm g σ s)(nf:¬g.F b)(k:∀b' o,b'≠b->s.heap.get? b'=aa o->h'.get? b'=aa o):lH s.heap g.F h' g.F:=λb' o f e=>⟨f,k b' o (λq=>nf<|q▸f) e⟩
structure we(G:GG)(c:Cn)(N:nP env scope t m)(lY:bX->Fz->cC->α->Prop)(acc:α)(g:Gh)(σ:H)(s:aY):Prop where
 I:bg G c g σ N.kV (cW m t) s
 x:eJ N.nw.heap N.mu s.heap g
 lD:jc G c N.kV s.heap g N.D
 d:∃o,s.heap.get? N.D=aa o/\lY s.heap g.F o acc
structure vy(G:GG)(c:Cn)(N:nP env scope t m)(lY:bX->Fz->cC->α->Prop)(Kc:α->List P->H->Prop)(n:Nat)(s:aY):Prop where
 out:∃i acc g σ,(n+i=N.xs.length+1/\i<=N.xs.length)/\iE G c N lY acc i (cW m t) g σ s/\Kc acc (N.xs.drop i) σ
noncomputable abbrev mf (ifs:List bA) (env:bS):fv Bool:=forIn ifs ag λc r=>if r=ag then do let ok <-mF c env (bq c env);pure (Ew ok)else pure (Ew r)
theorem Ga(O:pt G c env scope t m N)(AK:nB lY){Kc Y:α->List P->H->Prop}{W:Nat->aY->Prop}(fin:∀acc g σ s,Kc acc [] σ->we G c N lY acc g σ s->R (.ok .next) s)(hT:∀x acc r i g σ s (Q:Bool->aY->Prop),iE G c N lY acc i (aN m t<| .p x) g σ s->Kc acc (x::r) σ->(∀g' bP s',iE G c N lY acc i (aN m t<| .p x) g' bP s'->Kc acc r bP->Q ak s')->(∀g' bP s',iE G c N lY acc i (aN m t<| .p x) g' bP s'->Y acc (x::r) bP->Q ag s')->bw (bh G.prog G.w) c.A (mf ifs N.kV) Q E s)(hW:∀x acc i g σ s n,(n+i=N.xs.length+1/\i+1<=N.xs.length)->iE G c N lY acc (i+1) (aN m t<| .p x) g σ s->Y acc (x::N.xs.drop (i+1)) σ->W n s)(n:Nat) s (H:vy G c N lY Kc n s) {P:Option au->aY->Prop} (p0:∀aH,R (.ok .next) aH->P aj aH) (p1:∀v aH,bw (bh G.prog G.w) c.A (ib (aK (nm t) px) N.kV v) (λ_ da=>bw (bh G.prog G.w) c.A (mf ifs N.kV) (λok gd=>if ok=ag then W n gd else ∃k,k<n/\vy G c N lY Kc k gd) E da) E aH->P (aa v) aH):bw (bh G.prog G.w) c.A (KQ<|ai N.a) P E s:=by
 refine eh λcy bk=>?_;obtain ⟨i,acc,g,σ,⟨hn,hi⟩,A,z⟩:=H.out;refine bk ?_;by_cases xK:i<N.xs.length
 ·refine FZ O.K A.I O.hh A.la A.x.ji A.st xK λu v aH hv rv aU HP l₁ k₁=>?_
  have F7:=A.other O AK O.fa (oX O.aD) k₁ HP aU<|BK A (λf=>A.la.nf<|aX f) k₁;have hd:N.xs.drop i=v::N.xs.drop (i+1):=by
   refine ah (U' xK) ?_;rw[wZ xK]at hv;obtain rfl:=fh hv;rfl
  rw[hd]at z
  refine p1 _ _ ?_
  refine aR (gF<|qv<|zh aU (v:=.p v) rv (λn e=>by contradiction) (acd O.S) λda cF oc hs=>?_)
  have k₂:∀b o,b≠N.C->aH.heap.get? b=aa o->da.heap.get? b=aa o:=λb o nb e=>(hs.2 b nb).trans e
  refine hT v acc _ (i+1) g σ da _ (F7.other O AK O.fC O.DC k₂ (eZ O.K.x8 λfp Pj W=>(W.1 c.A O.hh).frame _ aH.heap da.heap HP λb hb o e=>(W.2.1 b hb).elim (λq=>k₂ b o (q▸O.aC) e) λw=>w.2.elim λFC s8=>k₂ b o (λq=>by rw[q,O.fC]at s8;exact cV s8) e) (cF.iz (m':=aN m t<| .p v) λ_ _ e=>ace e)<|BK F7 (λf=>(aU.br.cY N.C<|az rfl).1.2<|aX f) k₂) z (λg' bP s' A' z'=>?_) λg' bP s' A' y=>?_
  ·exact ah (if_neg fF)<|(F2 hn xK).elim λk kk=>(b0 k kk.1 ⟨i+1,acc,g',bP,⟨kk.2,xK⟩,⟨A'.st,A'.I.iz λ_ _ e=>GW e,A'.x,A'.la,A'.lD,A'.d⟩,z'⟩)
  ·exact ah (if_pos rfl)<|hW v acc i g' bP s' n ⟨hn,xK⟩ A' y
 ·have e:=kn hi<|qy.mp xK
  rw[e]at A z;replace z:=List.drop_length▸z;exact F0 O.K A.I O.hh A.la A.st λaH aU k₁=>p0 _<|fin acc g σ aH z ⟨aU,A.x.n5 O.fa k₁,A.lD.yM λo e=>A.d.elim λo' w=>(cP<|e.symm.trans<|k₁ _ _ (oX O.aD) w.1)▸(AK.fr w.2).2,A.d.elim λo w=>(b0 o (k₁ _ _ (oX O.aD) w.1)<|AK.bL (BK A (λf=>A.la.nf<|aX f) k₁) w.2)⟩
theorem bg.Jo(rK:bg G c aP aF env m aH)(x:eJ aH.heap aP s.heap g)(I:bg G c g σ kV mm s):bg G c g σ env m s:=I.Nj (rK.br.bL x) λi n e=>rK.tm i n e
end
end
section
variable{env:bS}{scope:ic}{t:Nat}{m:Env}{N:nP env scope t m}{i:Nat}
structure t5(G:GG)(c:Cn)(env:bS)(m:Env)(nw:aY)(mu:Gh)(x:P)(D C:bj)(σ:H)(s:aY)(g:Gh):Prop where
 I:bg G c g σ env m s
 e:eJ nw.heap mu s.heap g
 f:nw.heap.get? C=aj
 r:PR G s.heap g.F x (ai D)
 l:jc G c env s.heap g C
 n:∃mC,s.heap.Ns C mC
theorem Zy(rK:bg G c N.mu tI env m N.nw)(O:pt G c env scope t m N){iw:α->P}(aej:∀h F o acc,h.get? N.D=aa o->F N.D->lY h F o acc->PR G h F (iw acc) (ai N.D))(AK:nB lY)(Z:we G c N lY acc g σ s):∃g',t5 G c env m N.nw N.mu (iw acc) N.D N.C σ s g':=by
 refine cE Z.d λo eo r=>?_;have pC:=(Z.I.br.cY N.C<|az rfl)
 refine ⟨_,(((rK.Jo Z.x Z.I).n5 (tk:=s.toks) (h':=gone s.heap N.D) (⟨Z.lD.nf,Z.lD.h0,(λf b q w=>(rK.qs q).elim λo e=>by rw[w,f]at e;exact cV e:∀{a},N.nw.heap.get? a=aj->∀b,wb env b->b≠a) O.fD,Z.lD.fr,Z.lD.tb⟩) λb o n e=>(kH _ n).trans e).jW (h':=s.heap) (λb=>b=N.D) (vK λ_ _=>rfl) λb w=>⟨w▸gone_none _ _,o,w▸eo⟩).1,(Z.x.n5 O.fD λb o n e=>(kH _ n).trans e).trans (((rK.Jo Z.x Z.I).n5 (tk:=s.toks) (h':=gone s.heap N.D) (⟨Z.lD.nf,Z.lD.h0,(λf b q w=>(rK.qs q).elim λo e=>by rw[w,f]at e;exact cV e:∀{a},N.nw.heap.get? a=aj->∀b,wb env b->b≠a) O.fD,Z.lD.fr,Z.lD.tb⟩) λb o n e=>(kH _ n).trans e).jW (h':=s.heap) (λb=>b=N.D) (tk:=s.toks) (vK λ_ _=>rfl) λb w=>⟨w▸gone_none _ _,o,w▸eo⟩).2,O.fC,aej _ _ _ _ eo (aX rfl)<|AK.bL (λb o f e=>⟨az f,e⟩) r,(⟨λq=>q.elim (λq=>pC.1.2<|az q) λq=>q.elim (λq=>pC.1.2<|aX q) λq=>O.DC q.symm,pC.2,(λf b q w=>(rK.qs q).elim λo e=>by rw[w,f]at e;exact cV e:∀{a},N.nw.heap.get? a=aj->∀b,wb env b->b≠a) O.fC,λe he L hL q=>(rK.tu e he L hL).1.1.elim λo e=>(by rw[q,O.fC]at e;exact cV e),λo e=>(Z.I.br.vr<|az rfl).elim λo' w=>(cP<|e.symm.trans w.1)▸w.2⟩),Z.I.br.ns.elim λmr w=>⟨mr,w.1⟩⟩
theorem Qq(B:G.dB)(S:kU env scope t)(I:bg G c g σ env m s)(hh:c.A.handled=aj){iter:bA}{ifs:List bA}{pos:ca}{XQ:fv au}{oD:cC}(ans:clausesOf e=[⟨aK (nm t) px,iter,ifs,0⟩])(hp:gP iter=ag)(hN:∀s Q E,Q (ai s.heap.objs.size) {s with heap:=s.heap.push oD}->bw (bh G.prog G.w) c.A XQ Q E s)(amj:oD.isFreed=ak)(AK:nB lY){Bs:α}(h0:∀h F,lY h F oD Bs){iw:α->P}(aej:∀h F o acc D,(D==nG)=ak->h.get? D=aa o->F D->lY h F o acc->PR G h F (iw acc) (ai D))(hx:ao (cU G) G c env g m s (x m σ)<|bq iter env){Kc:α->List P->H->Prop}{W:List P->M V}(hW:∀xs bP,W xs bP Qv (λ_=>False)->Kc Bs xs bP)(z:M.bind (x m) (λs=>.aQ (s.pl.bind hX) λxs=>yi<|W xs) σ Qv Ev)(loop:∀N R s,pt G c env scope t m N->vy G c N lY Kc (N.xs.length+1) s->(∀acc g σ s,Kc acc [] σ->we G c N lY acc g σ s->R (.ok .next) s)->kI (bh G.prog G.w) c.A (.compStart e 0 (ai N.a) (ai N.D) N.kV) R s)(ex:Mp G c env s.heap g m Ev E)(fin:∀acc bP aH aP s' g' D C,Kc acc [] bP->eJ s.heap g aH.heap aP->t5 G c env m aH aP (iw acc) D C bP s' g'->Aq (bh G.prog G.w) c.A E use Q (ai D) C (.ok .next) s'):bw (bh G.prog G.w) c.A (Ag e scope env pos XQ ak (bq iter env) use) Q E s:=by
 refine wpAny_comprehension_free ans (λv=>by induction iter using nV<;>first|rfl|exact dC hp) (Pb λx hx=>I.br.qq x<|S.free _ hx rfl) S.kind S.lk<|hx _ _ z _ _ (λv aF aH aP u eT aU b6 cX=>?_) ex;refine cE (M.jD eT) λxs hi eT=>(cR hi).elim λy w=>Qm aU w.2 (cX.pl w.1) λoI St K st=>hN _ _ _ (wpAny_newFunctionEnv S.XP (λy hy=>by contradiction) (λh' ns hs=>?_) S.kind);have fa:=cp aH.heap;have hC:((aH.heap.push oI).push oD).objs.size=aH.heap.objs.size+1+1:=by rw[nU];refine ah (nU ..) ?_;rfl
 have aC:aH.heap.objs.size≠((aH.heap.push oI).push oD).objs.size:=ah hC<|Nat.ne_of_lt<|Aw<|pw _;have DC:(aH.heap.push oI).objs.size≠((aH.heap.push oI).push oD).objs.size:=ah hC<|ah (nU ..)<|(Ax _).symm;have fD:aH.heap.get? (aH.heap.push oI).objs.size=aj:=xg<|ah (nU ..)<|Nat.le_succ _;have fC:aH.heap.get? ((aH.heap.push oI).push oD).objs.size=aj:=xg<|ah hC<|Nat.le_succ_of_le<|kZ _;have k₁:∀b o,((aH.heap.push oI).push oD).get? b=aa o->h'.get? b=aa o:=λb o e=>hs.extBut b o (m7<|hJ e)<|bY _ _ _ _ e;have cF:=aU.jW (λ_=>False) (tk:=aH.toks) (λb o e=>k₁ b o<|bY _ _ _ _<|bY _ _ _ _ e) λ_ f=>f.elim;simp only[or_false]at cF;have O:pt G c env scope t m ⟨aH,aP,aH.heap.objs.size,(aH.heap.push oI).objs.size,((aH.heap.push oI).push oD).objs.size,xs,St⟩:=⟨K,S,hh,fa,fD,fC,(ah (nU ..)<|(Ax _).symm:aH.heap.objs.size≠(aH.heap.push oI).objs.size),aC,DC⟩
 have My:St 0 h':=eZ K.x8 λfp Pj W=>(W.1 c.A hh).frame _ _ h' st λb _ o e=>k₁ b o<|bY _ _ _ _ e;refine loop _ _ {aH with heap:=h',toks:=aH.toks} O ⟨0,Bs,aP,aF,⟨Nat.add_zero _,bH _⟩,⟨My,(cF.1.Nj (Zx S cF.1.br ns ⟨mY ns λo _ _ w=>⟨o,w.1⟩,aU.dR.H9 fC⟩<|aU.gQ fC) λi n e=>I.tm i n<|tA e),cF.2,⟨aU.dR.H9 fa,aU.gQ fa,λb q w=>?_,λe he L hL q=>(aU.tu e he L hL).1.1.elim λo e=>(by rw[q,fa]at e;exact cV e),λo e=>(K.cls _ _ My).elim λo' w=>(ah (cP<|e.symm.trans w.1)<|w.2.vr)⟩,
  ⟨aU.dR.H9 fD,aU.gQ fD,λb q w=>?_,λe he L hL q=>(aU.tu e he L hL).1.1.elim λo e=>(by rw[q,fD]at e;exact cV e),λo e=>(by refine ah (cP<|e.symm.trans<|k₁ _ _<|fZ _ amj) ?_;exact (AK.fr<|h0 h' aP.F).2)⟩,oD,(k₁ _ _<|fZ _ amj),h0 _ _⟩,hW _ _ eT⟩ λacc g' bP s' z' Z=>(Zy aU O (λh F o acc=>aej h F o acc _<|aU.rm B fD) AK Z).elim λR9 Y=>fin acc bP aH aP s' R9 _ _ z' b6 Y
 ·exact q.elim (λq=>aC<|w.symm.trans q) λq=>q.elim λx q=>(aU.qs<|aX ⟨x,(vb S aU.br q).1⟩).elim λo e=>by rw[w,fa]at e;exact cV e
 ·exact q.elim (λq=>DC<|w.symm.trans q) λq=>q.elim λx q=>(aU.qs<|aX ⟨x,(vb S aU.br q).1⟩).elim λo e=>by rw[w,fD]at e;exact cV e
theorem Ch{x:P}(Y:t5 G c env m nw mu x D C σ s g)(z:Qv (.p x) σ)(q:yA (cU G) G c env nw.heap mu m Qv Q):Aq (bh G.prog G.w) c.A E aj Q (ai D) C (.ok .next) s:=
 Y.n.elim λmC n=>⟨mC,n,λh' hs=>by
  have k:∀b o,b≠C->s.heap.get? b=aa o->h'.get? b=aa o:=λb o nb e=>(hs.2 b nb).trans e;exact q _ _ _ _ _ z (Y.I.n5 Y.l k) (Y.e.n5 Y.f k)<|PR.bL (λb o f e=>⟨f,k b o (λw=>Y.l.nf<|aX<|w▸f) e⟩) _ Y.r⟩
end
section
variable{env:bS}{scope:ic}{t:Nat}{m:Env}
def Tg(G:GG)(h:bX)(F:Fz)(o:cC)(acc:List P):Prop:=∃its k,o=gv its.toArray k/\bR (PR G h F) acc its
def Th(G:GG)(h:bX)(F:Fz)(o:cC)(acc:List<|bV×P):Prop:=∃kvs,o.IsDictOf G.kk kvs/\bR (ER<|PR G h F) acc kvs
theorem re:nB (Tg G):=⟨λr=>eZ r λits k w=>w.1▸⟨λq=>absurd (lP q)<|dc rt,λq=>absurd (lP q.1)<|dc rt⟩,λfx r=>eZ r λits k w=>⟨its,k,w.1,w.2.bL λv _=>PR.bL fx v⟩⟩
theorem rg:nB (Th G):=⟨λr=>r.elim λkvs w=>eZ w.1 λes ep y=>⟨λq=>absurd (lP<|y.1.1.symm.trans q)<|dc rt,λq=>absurd (lP<|y.1.1.symm.trans q.1)<|dc rt⟩,λfx r=>r.elim λkvs w=>⟨kvs,w.1,w.2.bL λ_ _ y=>⟨y.1,PR.bL fx _ y.2⟩⟩⟩
theorem Ti(I:bg G c g σ env m s):ao nz G c env g m s (M.ok ag σ) (mf [] env):=ao.here I rfl
theorem Zz(hf:∀e,f e ak=pure (.yield ak)):∀l:List bA,forIn l ak f=(pure ak:fv Bool):=@lr _ _
 (rfl)
 (λe l ih=>by rw[uN,hf];exact ih)
theorem Pd{x y:M Bool}(hx:ao nz G c env g m s (x σ)<|mF e env<|bq e env)(hy:∀bP s' g',bg G c g' bP env m s'->ao nz G c env g' m s' (y bP) (mf l env)):ao nz G c env g m s (M.bind x (λb=>match b with|true=>y|false=>M.ok ak) σ) (mf (e::l) env):=by
 have e0:mf (e::l) env=(mF e env (bq e env)>>=λb=>match b with|true=>mf l env|false=>pure ak):=by
  show forIn (e::l) ag _=_;rw[uN,if_pos rfl,bind_assoc];refine congrArg _<|funext λb=>?_;rw[pure_bind];induction b using fe with
  |true=>rfl
  |false=>exact Zz (λ_=>if_neg fF) l
 refine ah e0<|ao.bind hx λb aF aH aP b' aU b6 r=>?_
 subst r
 induction b using fe with
 |true=>exact hy aF aH aP aU
 |false=>exact ao.here aU rfl
structure vz(G:GG)(c:Cn)(env:bS)(scope:ic)(ifs:List bA)(ts:Env->M Bool):Prop where
 ts:∀C mm σ s g,bg G c g σ (vw scope C env) mm s->ao nz G c (vw scope C env) g mm s (ts mm σ) (mf ifs<|vw scope C env)
structure ME(G:GG)(c:Cn)(env:bS)(scope:ic)(e:bA)(x:Env->M V):Prop where
 el:∀C mm σ s g,bg G c g σ (vw scope C env) mm s->ao (cU G) G c (vw scope C env) g mm s (x mm σ) (bq e<|vw scope C env)
abbrev Jp:H->Prop:=λ_=>False
theorem Ci{N:nP env scope t m}(O:pt G c env scope t m N)(AK:nB lY)(T:vz G c env scope ifs ts){y:M β}{KK:Option β->H->Prop}{Q:Bool->aY->Prop}(A:iE G c N lY acc i mm g σ s)(z:M.bind (ts mm) (λb=>lw b y) σ KK Jp)(q0:∀g' bP s',iE G c N lY acc i mm g' bP s'->KK aj bP->Q ak s')(q1:∀g' bP s',iE G c N lY acc i mm g' bP s'->y bP (λv=>KK<|aa v) Jp->Q ag s'):bw (bh G.prog G.w) c.A (mf ifs N.kV) Q E s:=
 T.ts N.C mm σ s g A.I _ _ z _ _ (λb bP s' g' b' zb I' x' r=>by
  subst r;induction b using fe with
  |false=>exact q0 g' bP s' (A.H2 O AK I' x') zb
  |true=>exact q1 g' bP s' (A.H2 O AK I' x') zb) λ_ _ _ _ f=>f.elim
abbrev aj2(ts:Env->M Bool)(el:Env->M V)(m:Env)(t:Nat)(Qv:V->H->Prop)(acc xs:List P)(σ:H):Prop:=iQ (λx=>.bind (ts<|aN m t<| .p x) λb=>lw b<| .bind (el<|aN m t<| .p x) λv=>.aQ v.pl .ok) acc xs σ Qv Jp
theorem Tj(hh:c.A.handled=aj){iter:bA}(T:vz G c env scope ifs ts)(L:ME G c env scope elt el)(N:nP env scope t m)(R:DR->aY->Prop)(s:aY)(O:pt G c env scope t m N)(H:vy G c N (Tg G) (aj2 ts el m t Qv) (N.xs.length+1) s)(fin:∀acc g σ s,Qv (.p<| .fl acc) σ->we G c N (Tg G) acc g σ s->R (.ok .next) s):kI (bh G.prog G.w) c.A (.compStart (dq elt [⟨aK (nm t) px,iter,ifs,0⟩] scope pos) 0 (ai N.a) (ai N.D) N.kV) R s:=by
 have l:=codeAny_compLoop_tests (s:=s) (target:=aK (nm t) px) (iter:=iter) (scope:=scope) (pos:=pos) (R:=R) (vy G c N (Tg G)<|aj2 ts el m t Qv) (λn s H=>Ga (Y:=λacc l σ=>match l with
  |x::r=>M.bind (el<|aN m t<| .p x) (λv=>.aQ v.pl .ok) σ (λv bP=>M.eD (acc.length<=bZ) (iQ (λx=>.bind (ts<|aN m t<| .p x) λb=>lw b<| .bind (el<|aN m t<| .p x) λv=>.aQ v.pl .ok) (acc++[v]) r) bP Qv Jp) Jp
  |[]=>False) (W:=λn gd=>bw (bh G.prog G.w) c.A (bq elt N.kV) (λx wC=>bw (bh G.prog G.w) c.A (call (bv "list.append") [ai N.D,x]) (λ_ Ib=>∃k,k<n/\vy G c N (Tg G) (aj2 ts el m t Qv) k Ib) (oO (bh G.prog G.w) c.A N.kV λe s'=>R (.error e) s') wC) (oO (bh G.prog G.w) c.A N.kV λe s'=>R (.error e) s') gd)
  O re fin (λx acc r i g σ s Q A z q0 q1=>Ci (KK:=λr' bP=>(match r' with|none=>iQ (λx=>.bind (ts<|aN m t<| .p x) λb=>lw b<| .bind (el<|aN m t<| .p x) λv=>.aQ v.pl .ok) acc r|some v=>M.eD (acc.length<=bZ)<|iQ (λx=>.bind (ts<|aN m t<| .p x) λb=>lw b<| .bind (el<|aN m t<| .p x) λv=>.aQ v.pl .ok) (acc++[v]) r) bP Qv Jp) O re T A z q0 q1) (λx acc i g σ s n hn A y=>?_) n s H (λ_ h=>h) λ_ _ h=>h) (N.xs.length+1) H
 ·exact codeAny_compStart_list l<|eZ H.out λi acc w=>eZ w λg σ w=>eZ O.K.x8 λfp Pj W=>(W.1 c.A hh).self i s _ _ w.2.1.st l
 ·refine L.el N.C _ σ s g A.I _ _ y _ _ (λv bP s' g' u y I' x' r=>?_) λ_ _ _ _ f=>f.elim
  have A':=A.H2 O re I' x';refine oc (v.pl) (λhv=>?_) λw hv=>?_
  ·
   have y:(M.aQ v.pl M.ok:M P) bP _ Jp:=y;rw[hv]at y;exact y.elim
  ·
   have y:(M.aQ v.pl M.ok:M P) bP _ Jp:=y;replace y:=hv▸y;refine eh λcy bk=>?_;obtain ⟨o,eo,its,k,e,rs⟩:=A'.d;refine bk<|wpAny_list_append_plain ⟨k,eo.trans<|congrArg aa e⟩ (λh' hl hs=>?_)<|wc rs y.1;refine ue hl λk' ant=>?_;have vA:=A'.fP O re (tk:=s'.toks) (Z4:=acc++[w]) hs ant ⟨its++[u],k',by rw[<-Vl],(rs.append<|show bR (PR G s'.heap g'.F) [w] [u]from ⟨r.pl hv,trivial⟩).bL λv _=>PR.bL (λb o f e=>⟨f,(hs.2 b λq=>A'.lD.nf<|aX<|q▸f).trans e⟩) v⟩;exact (F2 hn.1 hn.2).elim λj jj=>(b0 j jj.1 ⟨i+1,_,g',bP,⟨jj.2,hn.2⟩,⟨vA.st,vA.I.iz λ_ _ e=>GW e,vA.x,vA.la,vA.lD,vA.d⟩,y.2⟩)
abbrev zG(ts:Env->M Bool)(kx vx:Env->M V)(m:Env)(t:Nat)(x:P):M (Option<|bV×P):=.bind (ts<|aN m t<| .p x) λb=>lw b<| .bind (kx<|aN m t<| .p x) λa=>.bind (vx<|aN m t<| .p x) λr=>.aQ a.lj λa=>.aQ r.pl λr=>.ok (a,r)
abbrev aj3(ts:Env->M Bool)(kx vx:Env->M V)(m:Env)(t:Nat)(Qv:V->H->Prop)(acc:List<|bV×P)(xs:List P)(σ:H):Prop:=rW (zG ts kx vx m t) acc xs σ Qv Jp
theorem Tl(hh:c.A.handled=aj){aax iter:bA}(T:vz G c env scope ifs ts)(L:ME G c env scope aax kx)(L':ME G c env scope ev vx)(N:nP env scope t m)(R:DR->aY->Prop)(s:aY)(O:pt G c env scope t m N)(H:vy G c N (Th G) (aj3 ts kx vx m t Qv) (N.xs.length+1) s)(fin:∀acc g σ s,Qv (.p<|ju acc) σ->we G c N (Th G) acc g σ s->R (.ok .next) s):kI (bh G.prog G.w) c.A (.compStart (.DictComp aax ev [⟨aK (nm t) px,iter,ifs,0⟩] scope pos) 0 (ai N.a) (ai N.D) N.kV) R s:=by
 have l:=codeAny_compLoop_testsD (s:=s) (target:=aK (nm t) px) (iter:=iter) (scope:=scope) (pos:=pos) (R:=R) (vy G c N (Th G)<|aj3 ts kx vx m t Qv) (λn s H=>Ga (Y:=λacc l σ=>match l with
  |x::r=>M.bind (kx<|aN m t<| .p x) (λa=>.bind (vx<|aN m t<| .p x) λr=>.aQ a.lj λa=>.aQ r.pl λr=>.ok (a,r)) σ (λe bP=>M.eD (acc.length<=bZ) (rW (zG ts kx vx m t) (aN acc e.1 e.2) r) bP Qv Jp) Jp
  |[]=>False) (W:=λn gd=>bw (bh G.prog G.w) c.A (bq aax N.kV) (λkv wC=>bw (bh G.prog G.w) c.A (bq ev N.kV) (λvv Ib=>bw (bh G.prog G.w) c.A (dictSet N.D kv vv) (λ_ ahO=>∃k,k<n/\vy G c N (Th G) (aj3 ts kx vx m t Qv) k ahO) (oO (bh G.prog G.w) c.A N.kV λe s'=>R (.error e) s') Ib) (oO (bh G.prog G.w) c.A N.kV λe s'=>R (.error e) s') wC) (oO (bh G.prog G.w) c.A N.kV λe s'=>R (.error e) s') gd)
  O rg fin (λx acc r i g σ s Q A z q0 q1=>Ci (KK:=λr' bP=>(match r' with|none=>rW (zG ts kx vx m t) acc r|some e=>M.eD (acc.length<=bZ)<|rW (zG ts kx vx m t) (aN acc e.1 e.2) r) bP Qv Jp) (y:=.bind (kx<|aN m t<| .p x) λa=>.bind (vx<|aN m t<| .p x) λr=>.aQ a.lj λa=>.aQ r.pl λr=>.ok (a,r)) O rg T A z q0 q1) (λx acc i g σ s n hn A y=>?_) n s H (λ_ h=>h) λ_ _ h=>h) (N.xs.length+1) H
 ·exact codeAny_compStart_dict l<|eZ H.out λi acc w=>eZ w λg σ w=>eZ O.K.x8 λfp Pj W=>(W.1 c.A hh).self i s _ _ w.2.1.st l
 ·refine L.el N.C _ σ s g A.I _ _ y _ _ (λak0 aF aH aP anH aln aU b6 cX=>L'.el N.C _ aF aH aP aU _ _ aln _ _ (λv bP s' g' u y I' x' r=>?_) λ_ _ _ _ f=>f.elim) λ_ _ _ _ f=>f.elim
  have A':=A.H2 O rg I'<|b6.trans x';refine eh λcy bk=>cE (M.jD (σ:=bP) y) λk hk y=>cE (M.jD (σ:=bP) y) λw hw y=>?_;obtain ⟨hk,ok⟩:=VR.key hk<|cX.ext x';obtain ⟨o,eo,kvs,d,rs⟩:=A'.d;refine bk<|wpAny_dictSet_pairs hk (Ef.mpr<|b0 o eo d) (λh' hd hs=>?_)<|rs.length▸iK y.1;refine cE (Ef.mp hd) λo' anu d'=>?_;have fx:lH s'.heap g'.F h' g'.F:=λb o f e=>⟨f,(hs.2 b λq=>A'.lD.nf<|aX<|q▸f).trans e⟩
  have nd:=eZ d λes ep q=>q.2.2.2.2;have vA:=A'.fP O rg (tk:=s'.toks+1) (Z4:=aN acc k w) hs anu ⟨_,d',(ER.fP ok (r.pl hw) rs nd).bL λ_ _ y=>⟨y.1,PR.bL fx _ y.2⟩⟩;exact (F2 hn.1 hn.2).elim λj jj=>(b0 j jj.1 ⟨i+1,_,g',bP,⟨jj.2,hn.2⟩,⟨vA.st,vA.I.iz λ_ _ e=>GW e,vA.x,vA.la,vA.lD,vA.d⟩,y.2⟩)
theorem Gb(B:G.dB)(S:kU env scope t)(I:bg G c g σ env m s)(hd:c.hd=ak)(hp:gP iter=ag)(hx:ao (cU G) G c env g m s (x m σ)<|bq iter env)(T:vz G c env scope ifs ts)(L:ME G c env scope elt el)(z:M.bind (x m) (λs=>.aQ (s.pl.bind hX) λxs=>yi<|iQ (λx=>.bind (ts<|aN m t<| .p x) λb=>lw b<| .bind (el<|aN m t<| .p x) λv=>.aQ v.pl .ok) [] xs) σ Qv Ev)(ex:Mp G c env s.heap g m Ev E)(fin:∀acc bP aH aP s' g' D C,Qv (.p<| .fl acc) bP->eJ s.heap g aH.heap aP->t5 G c env m aH aP (.fl acc) D C bP s' g'->Aq (bh G.prog G.w) c.A E use Q (ai D) C (.ok .next) s'):bw (bh G.prog G.w) c.A (Ag (dq elt [⟨aK (nm t) px,iter,ifs,0⟩] scope pos) scope env p1 (newList []) ak (bq iter env) use) Q E s:=
 Qq B S I (I.jS.1 hd) rfl hp (λs Q E q=>Kh q<|bH _) rf re (Bs:=[]) (λh F=>⟨[],_,rfl,trivial⟩) (iw:=P.fl) (λh F o acc D _ e f r=>eZ r λits k w=>(⟨D,its,k,rfl,f,e.trans<|congrArg aa w.1,gu▸w.2⟩)) hx
  (λ_ _ h=>h) z (λN R s O H fin=>Tj (I.jS.1 hd) T L N R s O H fin) ex fin
theorem Tn(B:G.dB)(S:kU env scope t)(I:bg G c g σ env m s)(hd:c.hd=ak)(hp:gP iter=ag)(hx:ao (cU G) G c env g m s (x m σ)<|bq iter env)(T:vz G c env scope ifs ts)(L:ME G c env scope aax kx)(L':ME G c env scope ev vx)(z:M.bind (x m) (λs=>.aQ (s.pl.bind hX) λxs=>yi<|rW (zG ts kx vx m t) [] xs) σ Qv Ev)(ex:Mp G c env s.heap g m Ev E)(fin:∀acc bP aH aP s' g' D C,Qv (.p<|ju acc) bP->eJ s.heap g aH.heap aP->t5 G c env m aH aP (ju acc) D C bP s' g'->Aq (bh G.prog G.w) c.A E use Q (ai D) C (.ok .next) s'):bw (bh G.prog G.w) c.A (Ag (.DictComp aax ev [⟨aK (nm t) px,iter,ifs,0⟩] scope pos) scope env p1 KN ak (bq iter env) use) Q E s:=
 Qq B S I (I.jS.1 hd) rfl hp (λs Q E q=>DA q) rfl rg (Bs:=[]) (λh F=>⟨[],⟨#[],0,⟨rfl,rfl,rfl⟩,rfl,λ_ he=>by simp at he,Pairs.nil,AG⟩,trivial⟩) (iw:=ju) (λh F o acc D nm e f r=>r.elim λkvs w=>T6 (Ef.mpr<|b0 o e w.1) nm f w.2) hx
  (λ_ _ h=>h) z (λN R s O H fin=>Tl (I.jS.1 hd) T L L' N R s O H fin) ex fin
theorem ZA(B:G.dB)(S:kU env scope t)(I:bg G c g σ env m s)(hd:c.hd=ak)(hp:gP iter=ag)(hx:ao (cU G) G c env g m s (x m σ)<|bq iter env)(T:vz G c env scope ifs ts)(L:ME G c env scope elt el):ao (cU G) G c env g m s (M.bind (x m) (λs=>.aQ (s.pl.bind hX) λxs=>yi<|iQ (λx=>.bind (ts<|aN m t<| .p x) λb=>lw b<| .bind (el<|aN m t<| .p x) λv=>.aQ v.pl .ok) [] xs) σ) (bq (dq elt [⟨aK (nm t) px,iter,ifs,0⟩] scope pos) env):=λQv Ev z Q E q ex=>
 Gb B S I hd hp hx T L z ex λacc bP aH aP s' g' D C z' b6 Y=>Ch Y z'<|q.ext b6
theorem ZC(B:G.dB)(S:kU env scope t)(I:bg G c g σ env m s)(hd:c.hd=ak)(hp:gP iter=ag)(hx:ao (cU G) G c env g m s (x m σ)<|bq iter env)(T:vz G c env scope ifs ts)(L:ME G c env scope aax kx)(L':ME G c env scope ev vx):ao (cU G) G c env g m s (M.bind (x m) (λs=>.aQ (s.pl.bind hX) λxs=>yi<|rW (zG ts kx vx m t) [] xs) σ) (bq (.DictComp aax ev [⟨aK (nm t) px,iter,ifs,0⟩] scope pos) env):=λQv Ev z Q E q ex=>
 Tn B S I hd hp hx T L L' z ex λacc bP aH aP s' g' D C z' b6 Y=>Ch Y z'<|q.ext b6
theorem To{x:P}{p:ca}(Y:t5 G c env m nw mu x D C σ s g)(rK:fV G nw.heap mu env m)(hk:env.kindOf (nm i)=aa .local){Qv:Fl->Env->H->Prop}(z:Qv .next (aN m i<| .p x) σ){Q:mG->aY->Prop}(hQ:∀u s,Q .next s->Q' u s)(q:adp G c env nw.heap mu Qv Q):Aq (bh G.prog G.w) c.A E (aa λv=>Ao v [ib (aK (nm i) p) env]) Q' (ai D) C (.ok .next) s:=by
 refine aR (gF<|qv<|kh (v:=.p x) Y.I Y.r (λn e=>by contradiction) (az hk) λs' I' oc=>Y.n.elim λmC n=>(b0 mC (mY n λo es ep w=>⟨o,es,ep,(oc.jx C λw=>Y.l.cY C w rfl).trans w.1,w.2⟩) λh' hs=>?_))
 ·have k:∀b o,b≠C->s'.heap.get? b=aa o->h'.get? b=aa o:=λb o nb e=>(hs.2 b nb).trans e
  exact hQ _ _<|q .next _ σ {s' with heap:=h'} g .next z (I'.n5 (Y.l.yM λo e=>Y.l.tb o<|(oc.jx C λw=>Y.l.cY C w rfl).symm.trans e) k) (((Y.e.l rK).trans<|oc.my Y.I.br).yM Y.f k) rfl
theorem Pe{p pos:ca}(hs:nJ (dq elt [⟨aK (nm t) px,iter,ifs,0⟩] scope pos) (aa<|aK (nm i) p) zY.line env=pure ag):dZ (fJ [aK (nm i) p] (dq elt [⟨aK (nm t) px,iter,ifs,0⟩] scope pos) zY) env=(do
 fk zY
 let _ <-Ag (dq elt [⟨aK (nm t) px,iter,ifs,0⟩] scope pos) scope env (firstIterPos [⟨aK (nm t) px,iter,ifs,0⟩] pos) (newList []) ak (bq iter env) (aa λv=>Ao v [ib (aK (nm i) p) env])
 pure .next):=by
 have e:dZ (fJ [aK (nm i) p] (dq elt [⟨aK (nm t) px,iter,ifs,0⟩] scope pos) zY) env=(do
  fk zY
  if <-wK [aK (nm i) p] (dq elt [⟨aK (nm t) px,iter,ifs,0⟩] scope pos) zY.line env then do
   Ah (dq elt [⟨aK (nm t) px,iter,ifs,0⟩] scope pos) env λv=>Ao v ((nH [aK (nm i) p] env).map (·.2))
   pure .next
  else do
   let v <-bq (dq elt [⟨aK (nm t) px,iter,ifs,0⟩] scope pos) env
   Kl env v (<-uC [aK (nm i) p] (dq elt [⟨aK (nm t) px,iter,ifs,0⟩] scope pos) env) ((nH [aK (nm i) p] env).map (·.2))):=rfl
 refine ah e<|ah (show wK [aK (nm i) p] (dq elt [⟨aK (nm t) px,iter,ifs,0⟩] scope pos) zY.line env=pure ag from hs) ?_
 show (fk zY>>=λ_=>(Ag _ _ _ _ _ _ _ _>>=λ_=>pure ())>>=λ_=>pure LM)=_
 simp only[bind_assoc,pure_bind]
 rfl
theorem HV(B:G.dB)(S:kU env scope t)(I:bg G c g σ env m s)(hd:c.hd=ak){p pos:ca}(hk:env.kindOf (nm i)=aa .local)(hs:nJ (dq elt [⟨aK (nm t) px,iter,ifs,0⟩] scope pos) (aa<|aK (nm i) p) zY.line env=pure ag)(hp:gP iter=ag)(hx:ao (cU G) G c env g m s (x m σ)<|bq iter env)(T:vz G c env scope ifs ts)(L:ME G c env scope elt el):cb G c env g s (Mine.Lake.c9 (λm=>M.bind (x m) λs=>.aQ (s.pl.bind hX) λxs=>yi<|iQ (λx=>.bind (ts<|aN m t<| .p x) λb=>lw b<| .bind (el<|aN m t<| .p x) λv=>.aQ v.pl .ok) [] xs) (λv=>λm=>SM.env (aa<|aN m i v.g7) m) m σ) (dZ (fJ [aK (nm i) p] (dq elt [⟨aK (nm t) px,iter,ifs,0⟩] scope pos) zY) env):=λQv Ev z Q E q ex=>(Pe hs)▸aR (gF<|aR<|Gb B S I hd hp hx T L z (λbP s' g' p y I' x' fl=>ex _ _ _ _ p y I' (x'.l I.br) fl) λacc bP aH aP s' g' D C z' b6 Y=>To Y (I.br.bL b6) hk z' (λu s h=>bO h)<|q.ext<|b6.l I.br)
end
section
variable{env:bS}{m:Env}
theorem ao.cond{x:M Bool}{a b:M α}(hx:ao nz G c env g m s (x σ) t)(ha:∀bP s' g',bg G c g' bP env m s'->ao Rl G c env g' m s' (a bP) ta)(hb:∀bP s' g',bg G c g' bP env m s'->ao Rl G c env g' m s' (b bP) tb):
 ao Rl G c env g m s (M.bind x (λr=>match r with|true=>a|false=>b) σ) (do if <-t then ta else tb):=
 ao.bind hx λr aF aH aP r' aU b6 e=>by
  subst e;induction r using fe with
  |true=>exact ha aF aH aP aU
  |false=>exact hb aF aH aP aU
theorem agp{x:M V}(hx:ao (cU G) G c env g m s (x σ)<|bq e env):ao (cU G) G c env g m s (M.bind x (λv=>M.bind (fU v) λb=>.ok<|bl !b) σ) (bq (.UnaryOp .Not e pos) env):=by
 rw[Uh];refine ao.bind hx λv aF aH aP u aU b6 cX=>ao.at_<|ao.holding ?_;exact ah (show unaryOp .Not u=kW [u] (su u>>=λb=>pure<| .bool !b)from rfl)<|ao.holding (ao.bind (wz aU cX) λb dh da dL b' cF di e=>by
  subst e;exact ao.here cF rfl)
theorem Tp{x:M Bool}(hx:ao nz G c env g m s (x σ) t):ao nz G c env g m s (M.bind x (λb=>.ok !b) σ) (do return !(<-t)):=
 ao.bind hx λb aF aH aP b' aU b6 e=>by subst e;exact ao.here aU rfl
theorem yd{x:M Bool}{y:Bool->M Bool}(stop:Bool)(aj0:(op=.And/\stop=ak)\/(op=.Or/\stop=ag))(hx:ao nz G c env g m s (x σ)<|mF e env<|bq e env)(h1:y stop=M.ok stop)(h2:∀bP s' g',bg G c g' bP env m s'->ao nz G c env g' m s' (y (!stop) bP) (wV op l env)):ao nz G c env g m s (M.bind x y σ) (wV op (e::l) env):=by
 have e0:wV op (e::l) env=(mF e env (bq e env)>>=λb=>if b=stop then pure stop else wV op l env):=by
  rcases aj0 with ⟨rfl,rfl⟩|⟨rfl,rfl⟩<;>exact congrArg _ (funext λb=>by induction b using fe<;>rfl)
 refine ah e0<|ao.bind hx λb aF aH aP b' aU b6 e=>?_
 subst e
 by_cases q:b=stop
 ·exact ah (if_pos q)<|ah q<|ah h1<|ao.here aU rfl
 ·refine ah (if_neg q)<|ah ((show b=!stop by induction b using fe<;>induction stop using fe<;>first|rfl|exact (q rfl).elim)) ?_;exact h2 aF aH aP aU
theorem ZD{x:M V}{h:bA}{p pos:ca}(hx:ao (cU G) G c env g m s (x σ)<|bq e env)(hy:∀aF aH aP,bg G c aP aF env m aH->ao (cU G) G c env aP m aH (y aF) (bq h env)):ao (cU G) G c env g m s (M.bind x (λo=>M.bind y λh=>.aQ h.eX<|CY o 0) σ) (bq (.Subscript e (.Slice aj (aa h) aj p) pos) env):=λQv Ev z Q E q ex=>
 FH (hx.seq z ex λo aF aH aP u eT aU b6 cX mw=>evalPart_none_step<|(hy aF aH aP aU).seq eT mw λv dh da dL w gU cF di gk wB=>(M.jD gU).elim λi Tq=>(gk.int Tq.1).elim λt et=>et▸B0 cF (cX.ext di) (lo:=aj) Tq.2 (q.ext<|b6.trans di))
theorem ZE{x y':M V}{l h:bA}{p pos:ca}(hx:ao (cU G) G c env g m s (x σ)<|bq e env)(hy:∀aF aH aP,bg G c aP aF env m aH->ao (cU G) G c env aP m aH (y aF) (bq l env))(afV:∀aF aH aP,bg G c aP aF env m aH->ao (cU G) G c env aP m aH (y' aF) (bq h env)):ao (cU G) G c env g m s (M.bind x (λo=>M.bind y λl=>M.bind y' λh=>.aQ l.eX λl=>.aQ h.eX<|CY o l) σ) (bq (.Subscript e (.Slice (aa l) (aa h) aj p) pos) env):=λQv Ev z Q E q ex=>
 FH (hx.seq z ex λo aF aH aP u eT aU b6 cX mw=>Up<|(hy aF aH aP aU).seq eT mw λv dh da dL w gU cF di gk wB=>Up<|(afV dh da dL cF).seq gU wB λv' kB gd lG w' yI e9 eU CO akY=>(M.jD yI).elim λi ahP=>(M.jD ahP.2).elim λj Tq=>(gk.int ahP.1).elim λt et=>(CO.int Tq.1).elim λt' anv=>et▸anv▸B0 e9 ((cX.ext di).ext eU) (lo:=aa (i,t)) Tq.2 (q.ext<|(b6.trans di).trans eU))
theorem acf{x:M V}{a b:bA}{zz:List Nat}(hx:ao (cU G) G c env g m s (x σ)<|bq a env)(hy:∀aF aH aP,bg G c aP aF env m aH->ao (cU G) G c env aP m aH (y aF) (bq b env)):ao (cU G) G c env g m s (M.bind x (λx=>M.bind y λy=>.at λσ=>.aQ (jU σ x) λxs=>.aQ y.eX λk=>.aQ (match xs with|[x]=>aa x|_=>aj) λx=>.eD (0<=k/\k<=1000)<|alloc zz<| .ls<|iu k.toNat x) σ) (bq (.BinOp a .Mult b pos) env):=by
 rw[Uk];exact ao.bind hx λv aF aH aP u aU b6 cX=>ao.bind (ao.holding<|hy aF aH aP aU) λw dh da dL t cF di gk=>ao.at_<|ao.operate<|af2 cF (cX.ext di) gk
theorem acg{x:M V}(hx:ao (cU G) G c env g m s (x σ)<|bq e env):ao (cU G) G c env g m s (M.bind x (λx=>.aQ x.slot λn=>.lS (gb 10 n)<| .at λσ=>.aQ ((aW σ n).bind O.uV) λxs=>.bind (fP n .nh) λ_=>.ok<| .p<| .fl xs) σ) (bq e env):=λQv Ev z Q E q ex=>
 hx.seq z ex λv aF aH aP u eT aU b6 cX mw=>afZ aU cX eT<|q.ext b6
theorem ZF(B:G.dB)(bn:iM G "dict" (aJ "dict"))(hk:env.kindOf ("dict":bB)=aa .globalImplicit){x:M V}{zz:List Nat}(he:eE e=ag)(hz:zz≠[])(I:bg G c g σ env m s)(hx:ao (cU G) G c env g m s (x σ)<|bq e env):ao (cU G) G c env g m s (M.bind x (λx=>.at λσ=>.aQ (qF σ x) λes=>.eD (es.length<=bZ)<|alloc zz<| .dc es) σ) (bq (.Call (aK "dict" np) [e] [] pos) env):=by
 rw[yJ rfl];intro Qv Ev z Q E q ex;refine aR<|uB B bn I.keep I.br.kind I.br.fy I.br.pQ hk (dc rt) ?_;have pl:[e].all eE=ag:=by refine ah oQ<|ah he ?_;rfl
 refine Ei (by refine ah (gm pl) ?_;rfl) nA.type<|ix (gm pl) ?_;rw[eO he];refine uT<|hx.seq z ex λv aF aH aP u eT aU b6 cX mw=>AU ⟨B.jh aU,?_⟩;refine eh λcy bk=>cE (M.jD eT) λes hd gU=>lK (zC B aU.dR hd cX) λa kvs w2 D=>?_;subst w2;exact bk<|kt_call_dict D.z5 D.at_ (D.rs.length▸iK gU.1) λh' Mw hs=>qt aU (o:=.dc es) (p:=(_,_)) (λb o e=>hs.extBut b o (m7<|hJ e)<|bY _ _ _ _ e) (cp _) (cp _) (λFy=>⟨kvs,rfl,Mw,D.rs.bL λ_ _ y=>⟨y.1,PR.bL (Dg aP.F λb o e=>hs.extBut b o (m7<|hJ e)<|bY _ _ _ _ e) _ y.2⟩⟩) gU.2<|q.ext b6
end
section
set_option genInjectivity false
def vB(P:X->Prop):X->Prop
 | .cons a r=>(P a/\vB P a)/\(P r/\vB P r)
 |_=>True
end
section
set_option tactic.hygienic true
section
variable{env:bS}{m:Env}
theorem ach{x:M V}(op:G3){a b:bA}(hx:ao (cU G) G c env g m s (x σ)<|bq a env)(hy:∀aF aH aP,bg G c aP aF env m aH->ao (cU G) G c env aP m aH (y aF) (bq b env)):ao (cU G) G c env g m s (M.bind x (λx=>M.bind y<|Tw op x) σ) (bq (.BinOp a (tO op) b pos) env):=by
 rw[Uk];exact ao.bind hx λv aF aH aP u aU b6 cX=>ao.bind (ao.holding<|hy aF aH aP aU) λw dh da dL t cF di gk=>ao.at_<|ao.operate<|YV cF op (cX.ext di) gk
theorem aci{x:M V}(hx:ao (cU G) G c env g m s (x σ)<|bq a env):ao (cU G) G c env g m s (M.bind x (λx=>.aQ x.eX λi=>.ok<|it<|-i) σ) (bq (.UnaryOp .USub a pos) env):=by
 rw[Uh];exact ao.bind hx λv aF aH aP u aU b6 cX=>ao.at_<|ao.holding<|afW aU cX
theorem Pf{n:bB}(hb:n0 a=ag):UL a n env w=w:=by cases a<;>first|rfl|(rename_i f _ _ _;induction f using nV<;>first|rfl|exact dC hb)
theorem ZG(B:G.dB)(T:iU G){x:M V}{a:bA}(hb:n0 a=ag)(hx:ao (cU G) G c env g m s (x σ)<|bq a env):ao (cU G) G c env g m s (M.bind x (λo=>getAttr G.T o i) σ) (bq (d3 a (nm i) pos) env):=by
 show ao _ _ _ _ _ _ _ _ (do
  let o <-UL a (nm i) env (bq a env)
  fk pos.atName
  let r <-kW [o] (wJ o (nm i) ag)
  letTemporaryGo a o r
  pure r)
 exact (Pf hb)▸ao.bind hx λv aF aH aP u aU b6 cX=>ao.at_ λQv Ev z Q E q ex=>aR<|(ao.holding<|B6 B T aU cX i ag) Qv Ev z _ _ (λa bP s' g' b y I' x' r=>aR<|wpAny_letTemporaryGo<|bO<|q a bP s' g' b y I' x' r) ex
theorem acj(B:G.dB){x:M V}{a b:bA}(hp:n8 b=ag)(hx:ao (cU G) G c env g m s (x σ)<|bq a env)(hy:∀aF aH aP,bg G c aP aF env m aH->ao (cU G) G c env aP m aH (y aF) (bq b env)):ao (cU G) G c env g m s (M.bind x (λo=>M.bind y<|rU o) σ) (bq (.Subscript a b pos) env):=λQv Ev z Q E q ex=>
 Wh (hx.seq z ex λv aF aH aP u eT aU b6 cX mw=>(hy aF aH aP aU).seq eT mw λw dh da dL t gU cF di gk wB=>afU B cF (cX.ext di) gk hp Qv Ev gU Q E (q.ext<|b6.trans di) wB)
noncomputable def rh:X->Bool| .nil=>ag| .cons _ _=>ag|_=>ak
theorem kj{Q:X->Prop}(h0:Q .nil)(h1:∀a r,Q r->Q (.cons a r))(h2:∀x,rh x=ak->Q x):∀x,Q x:=λx=>by
 induction x with
 |nil=>exact h0
 |cons a r _ ih=>exact h1 a r ih
 |_=>exact h2 _ rf
theorem agq{x:X}(e:rh x=ak):oA ns x l=ak:=by induction x using X.casesOn<;>first|rfl|exact rT e
theorem nE{x:X}{l:List bA}(e:rh x=ak)(h:oA ns x l=ag){P:Prop}:P:=absurd ((agq e).symm.trans h) fF
theorem ack{x:X}{a b:bA}(e:rh x=ak):TD ns x a b=ak:=by induction x using X.casesOn<;>first|rfl|exact rT e
theorem ZH{x:X}{a b:bA}(e:rh x=ak)(h:TD ns x a b=ag){P:Prop}:P:=absurd ((ack e).symm.trans h) fF
theorem ZI{x:X}{a b:List bA}(e:rh x=ak):Bf ns x a b=ak:=by induction x using X.casesOn<;>first|rfl|exact rT e
theorem Gd{x:X}{a b:List bA}(e:rh x=ak)(h:Bf ns x a b=ag){P:Prop}:P:=absurd ((ZI e).symm.trans h) fF
theorem rM(x:X):x=.nil\/(∃a r,x=.cons a r)\/rh x=ak:=kj (Q:=λx=>x=.nil\/(∃a r,x=.cons a r)\/rh x=ak) (az rfl) (λa r _=>aX<|az<|yQ a r rfl) (λ_ h=>aX<|aX h) x
structure Mt(G:GG)(N:tH)(cf:Bool->V->List V->M V)(d:Nat):Prop where
 B:G.dB
 TC:iU G
 TG:FU G
 TF:aad G
 N:po N
 dict:iM G "dict" (aJ "dict")
 call:∀c:Cn,c.Ok->c.d=d->FQ G c (cf c.hd)
noncomputable abbrev cx (G:GG) (N:tH) (cf:Bool->V->List V->M V) (c:Cn):Cx:=⟨G.T,N,cf c.hd,c.hd,3⟩
abbrev NG(G:GG)(x:X):Prop:=∀{N cf d}(_:Mt G N cf d)(c:Cn)(_:c.Ok)(_:c.d=d)(env:bS)(m:Env)(g:Gh)(σ:H)(s:aY)(e:bA),iq env.scope.names x e=ag->bg G c g σ env m s->ao (cU G) G c env g m s (eP (cx G N cf c) m x σ) (bq (bF x e) env)
abbrev ahQ(G:GG)(x:X):Prop:=∀{N cf d}(_:Mt G N cf d)(c:Cn)(_:c.Ok)(_:c.d=d)(env:bS)(m:Env)(g:Gh)(σ:H)(s:aY)(e:bA),iq env.scope.names x e=ag->bg G c g σ env m s->ao nz G c env g m s (rX (cx G N cf c) m x σ) (mF (bF x e) env<|bq (bF x e) env)
structure pT(G:GG)(x:X):Prop where
 val:NG G x
 rX:ahQ G x
variable{d:Nat}
theorem Ab(M:Mt G N cf d)(O:c.Ok)(hd:c.d=d){pos:ca}:∀(x:X)l,vB (pT G) x->oA env.scope.names x l=ag->∀g(σ:H)s,bg G c g σ env m s->ao (Su G (dJ 0 x l).length) G c env g m s (EH (cx G N cf c) m x σ) (nK<|iY pos<|hY (dJ 0 x l) env):=
 kj (λl _ _ g σ s I=>spliced_nil I) (λa r ih l A h g σ s I=>spliced_cons (aO<|aq h) (A.1.1.val M c O hd env m g σ s _ (aq<|aq h) I) λaF aH aP aU=>ih l.tail A.2.2 (aO h) aP aF aH aU)
  λx e l _ h=>nE e h
theorem zo:∀(x:X)l,oA ns x l=ag->(dJ 0 x l).all eE=ag:=
 kj (λl _=>rt) (λa r ih l h=>tE.mpr ⟨aO<|aq h,ih l.tail<|aO h⟩) λx e l h=>nE e h
theorem ZJ(M:Mt G N cf d)(O:c.Ok)(hd:c.d=d){pos:ca}:∀(x:X)l,vB (pT G) x->oA env.scope.names x l=ag->∀g(σ:H)s,bg G c g σ env m s->ao (cU G) G c env g m s (Tz (cx G N cf c) m x σ) (uG pos .And<|oL (dJ 0 x l) env):=
 kj (λl _ _ g σ s I=>ao.no (σ:=σ)) (λa r ih l A h g σ s I=>by
  have hx:=A.1.1.val M c O hd env m g σ s _ (aq<|aq h) I;rcases rM r with rfl|⟨x',r,rfl⟩|hn
  ·exact λQv Ev z Q E q ex=>hx Qv Ev z Q E q ex
  ·exact B9 hx ak (λb v r=>by induction b using fe<;>rfl) λv aF aH aP u aU cX=>B' ak aU cX rfl λdh da dL cF=>ih l.tail A.2.2 (aO h) dL dh da cF
  ·exact nE hn<|aO h) λx e l _ h=>nE e h
theorem acm(M:Mt G N cf d)(O:c.Ok)(hd:c.d=d){pos:ca}:∀(x:X)l,vB (pT G) x->oA env.scope.names x l=ag->∀g(σ:H)s,bg G c g σ env m s->ao (cU G) G c env g m s (adI (cx G N cf c) m x σ) (uG pos .Or<|oL (dJ 0 x l) env):=
 kj (λl _ _ g σ s I=>ao.no (σ:=σ)) (λa r ih l A h g σ s I=>by
  have hx:=A.1.1.val M c O hd env m g σ s _ (aq<|aq h) I;rcases rM r with rfl|⟨x',r,rfl⟩|hn
  ·exact λQv Ev z Q E q ex=>hx Qv Ev z Q E q ex
  ·exact B9 hx ag (λb v r=>by induction b using fe<;>rfl) λv aF aH aP u aU cX=>B' ag aU cX rfl λdh da dL cF=>ih l.tail A.2.2 (aO h) dL dh da cF
  ·exact nE hn<|aO h) λx e l _ h=>nE e h
theorem Tr(M:Mt G N cf d)(O:c.Ok)(hd:c.d=d):∀(x:X)l,vB (pT G) x->oA env.scope.names x l=ag->∀g(σ:H)s,bg G c g σ env m s->ao nz G c env g m s (LV (cx G N cf c) m x σ) (wV .And (dJ 0 x l) env):=
 kj (λl _ _ g σ s I=>ao.here I rfl) (λa r ih l A h g σ s I=>yd ak (az ⟨rfl,rfl⟩) (A.1.1.rX M c O hd env m g σ s _ (aq<|aq h) I) rfl λbP s' g' I'=>ih l.tail A.2.2 (aO h) g' bP s' I') λx e l _ h=>nE e h
theorem ZK(M:Mt G N cf d)(O:c.Ok)(hd:c.d=d):∀(x:X)l,vB (pT G) x->oA env.scope.names x l=ag->∀g(σ:H)s,bg G c g σ env m s->ao nz G c env g m s (TA (cx G N cf c) m x σ) (wV .Or (dJ 0 x l) env):=
 kj (λl _ _ g σ s I=>ao.here I rfl) (λa r ih l A h g σ s I=>yd ag (aX ⟨rfl,rfl⟩) (A.1.1.rX M c O hd env m g σ s _ (aq<|aq h) I) rfl λbP s' g' I'=>ih l.tail A.2.2 (aO h) g' bP s' I') λx e l _ h=>nE e h
theorem acn(M:Mt G N cf d)(O:c.Ok)(hd:c.d=d):∀(x:X)l,vB (pT G) x->oA env.scope.names x l=ag->∀g(σ:H)s,bg G c g σ env m s->ao nz G c env g m s (ni (cx G N cf c) m x σ) (mf (dJ 0 x l) env):=
 kj (λl _ _ g σ s I=>Ti I) (λa r ih l A h g σ s I=>Pd (A.1.1.rX M c O hd env m g σ s _ (aq<|aq h) I) λbP s' g' I'=>ih l.tail A.2.2 (aO h) g' bP s' I') λx e l _ h=>nE e h
theorem aco(M:Mt G N cf d)(O:c.Ok)(hd:c.d=d){pos:ca}:∀(x:X)l l',vB (pT G) x->Bf env.scope.names x l l'=ag->∀g(σ:H)s,bg G c g σ env m s->ao (af0 G (dJ 1 x l).length) G c env g m s (adH (cx G N cf c) m x σ) (wO<|wQ ((dJ 1 x l).map aa) (dJ 2 x l') env pos):=
 kj (λl l' _ _ g σ s I=>Sv I) (λa r ih l l' A h g σ s I=>by
  rcases rM a with rfl|⟨k,v,rfl⟩|hn
  ·cases aq h
  ·exact OC (A.1.2.1.1.val M c O hd env m g σ s _ (aq<|aq h) I) (λaF aH aP aU=>A.1.2.2.1.val M c O hd env m aP aF aH _ (aO<|aq h) aU) λaF aH aP aU=>ih l.tail l'.tail A.2.2 (aO h) aP aF aH aU
  ·exact ZH hn<|aq h) λx e l l' _ h=>Gd e h
theorem Pg:∀(x:X)l l',(dJ 1 x l).length=(dJ 2 x l').length:=
 kj (λ_ _=>rfl) (λa r ih l l'=>congrArg (·+1)<|ih l.tail l'.tail) λx e l l'=>by induction x using X.casesOn<;>first|rfl|exact rT e
end
end
theorem agr:∀{i:Nat},nm i≠(".0":bB):=λ{i}e=>by
 have un:∀{t:List Nat},(⟨t.toArray⟩:bB)=(".0":bB)->t=[46,48]:=λ{t}e=>by
  rw[show (".0":bB)=⟨[46,48].toArray⟩ by decide+kernel]at e;injection e with e;exact congrArg Ep e
 unfold nm at e
 refine od (ma[i]?) (λt q=>?_) λq=>?_
 ·
  rw[q]at e;have:=lO.mp (by decide+kernel:ma.all (λt=>t !=[46,48])=ag) t<|w7 q;rw[un e]at this;exact dC this
 ·replace e:=q▸e;exact absurd (congrArg xa<|un e) (show ¬1=2 by decide)
section
variable{env:bS}{m:Env}{t:Nat}
theorem GX(h:LY env.scope.names sc t=ag):kU env sc t:=by
 have al:=λx hx=>lO.mp (aO h) x hx;have aaw:∀x∈sc.names,x.2=.local->((x.1==nm t||x.1==(".0":bB))&&(sc.names.lookup x.1==aa .local))=ag:=λx hx e=>(HE<|aO<|aq<|al x hx).elim (λq=>by rw[e]at q;exact dC q) id;refine ⟨eq_of_beq<|aq<|aq h,λx hx e=>?_,eq_of_beq<|aO<|aq h,λi e=>?_,λx hx e=>eq_of_beq<|aO<|aaw x hx e,λx hx e=>?_⟩
 ·have:=aq<|aq<|al x hx
  rw[e]at this;exact dC this
 ·exact (HE<|aq<|aaw _ (qc e) rfl).elim (λq=>u7<|eq_of_beq q) λq=>(agr<|eq_of_beq q).elim
 ·exact (HE<|aO<|al x hx).elim (λq=>by rw[e]at q;exact dC q) λq=>(HE q).imp eq_of_beq eq_of_beq
theorem Cj(hk:env.scope.kind=b7){C:bj}:(vw sc C env).scope.names=lx env.scope.names sc:=by
 show (KH sc env).names=_;unfold lx KH;refine ah hk ?_;rfl
theorem wH{i:Nat}(h:adK env.scope.names i=ag):aae env (nm i)/\mJ (nm i)=ag:=
 ⟨(HE<|aq h).elim (λq=>(HE q).elim (λq=>az<|eq_of_beq q) λq=>aX<|az<|eq_of_beq q) λq=>aX<|aX<|eq_of_beq q,aO h⟩
theorem ao.of{x y:afT α}{t:fv β}(h:∀Qv Ev,x Qv Ev->y Qv Ev)(k:ao Rl G c env g m s y t):ao Rl G c env g m s x t:=λQv Ev z=>k Qv Ev<|h Qv Ev z
theorem acp(I:bg G c g σ env m s){k:Nat}{p:ca}:∀{v:P},agO v=ag->ao (cU G) G c env g m s (M.ok (.p v) σ) (bq (.Constant (Pr v) k p) env):=@λv h=>by
 induction v using P.casesOn with
 |int _=>exact SN I
 |str _=>exact SO I h
 |none=>exact OQ I
 |bool _=>exact OS I
 |_=>exact dC h
theorem jE{x:X}(h:∀C m,rX C m x=M.no):ahQ G x:=λ_ _ _ _ _ _ _ _ _ _ _ _=>by
 rw[h];exact ao.no (σ:=_)
theorem Ub{x:X}(h:∀C m,eP C m x=M.no):NG G x:=λ_ _ _ _ _ _ _ _ _ _ _ _=>by
 rw[h];exact ao.no (σ:=_)
theorem Qr{x:M V}{t:fv au}(k:c.hd=ak->ao (cU G) G c env g m s (x σ) t):ao (cU G) G c env g m s ((match c.hd with|true=>(M.no:M V)|false=>x) σ) t:=by
 cases q:c.hd with
 |false=>exact k q
 |true=>exact ao.no (σ:=σ)
theorem BL{d:Nat}(M:Mt G N cf d)(O:c.Ok)(hd:c.d=d)(hk:env.scope.kind=b7){cs:X}{l:List bA}(A:vB (pT G) cs)(h:oA (lx env.scope.names sc) cs l=ag):vz G c env sc (dJ 0 cs l) λmm=>ni (cx G N cf c) mm cs:=
 ⟨λC mm σ s g I=>acn M O hd cs _ A ((Cj hk)▸h) g σ s I⟩
theorem Ge{d:Nat}(M:Mt G N cf d)(O:c.Ok)(hd:c.d=d)(hk:env.scope.kind=b7){x:X}(A:pT G x)(h:iq (lx env.scope.names sc) x e=ag):ME G c env sc (bF x e) λmm=>eP (cx G N cf c) mm x:=
 ⟨λC mm σ s g I=>A.val M c O hd _ mm g σ s _ ((Cj hk)▸h) I⟩
theorem ags{x it cs:X}{t:Nat}(hx:pT G x)(hi:pT G it)(hc:vB (pT G) cs):NG G (.kr x t it cs):=λ{N cf d}M c O hd env m g σ s e h I=>by
 show ao (cU G) G c env g m s ((match c.hd with|true=>Mine.Lake.M.no|false=>Mine.Lake.M.bind (eP (cx G N cf c) m it) λs=>Mine.Lake.M.aQ (s.pl.bind hX) λxs=>yi<|iQ (λy=>Mine.Lake.M.bind (ni (cx G N cf c) (aN m t<| .p y) cs) λb=>lw b<|Mine.Lake.M.bind (eP (cx G N cf c) (aN m t<| .p y) x) λv=>Mine.Lake.M.aQ v.pl Mine.Lake.M.ok) [] xs) σ)
  (bq (dq (bF x<|e0 e) [⟨aK (nm t) (nk e).target.pos,bF it (nk e).iter,dJ 0 cs (nk e).ifs,0⟩] (Hp e) e.pos) env)
 exact Qr λq=>ZA (x:=λm=>eP (cx G N cf c) m it) (ts:=λm=>ni (cx G N cf c) m cs) (el:=λm=>eP (cx G N cf c) m x) M.B (GX<|aq<|aq<|aq<|aq h) I q (aO<|aq<|aq h) (hi.val M c O hd env m g σ s _ (aO<|aq<|aq<|aq h) I) (BL M O hd I.br.kind hc<|aO h)<|Ge M O hd I.br.kind hx<|aO<|aq h
theorem agt{k v it cs:X}{t:Nat}(hk:pT G k)(hv:pT G v)(hi:pT G it)(hc:vB (pT G) cs):NG G (.CX k v t it cs):=λ{N cf d}M c O hd env m g σ s e h I=>by
 show ao (cU G) G c env g m s ((match c.hd with|true=>Mine.Lake.M.no|false=>Mine.Lake.M.bind (eP (cx G N cf c) m it) λs=>Mine.Lake.M.aQ (s.pl.bind hX) λxs=>yi<|rW (zG (λm=>ni (cx G N cf c) m cs) (λm=>eP (cx G N cf c) m k) (λm=>eP (cx G N cf c) m v) m t) [] xs) σ)
  (bq (.DictComp (bF k<|e0 e) (bF v<|e1 e) [⟨aK (nm t) (nk e).target.pos,bF it (nk e).iter,dJ 0 cs (nk e).ifs,0⟩] (Hp e) e.pos) env)
 exact Qr λq=>ZC (x:=λm=>eP (cx G N cf c) m it) M.B (GX<|aq<|aq<|aq<|aq<|aq h) I q (aO<|aq<|aq<|aq h) (hi.val M c O hd env m g σ s _ (aO<|aq<|aq<|aq<|aq h) I) (BL M O hd I.br.kind hc<|aO h) (Ge M O hd I.br.kind hk<|aO<|aq<|aq h)<|Ge M O hd I.br.kind hv<|aO<|aq h
theorem Gf:∀x:X,pT G x/\vB (pT G) x:=λx=>by
 induction x with
 |nil=>exact ⟨⟨Ub λ_ _=>rfl,jE λ_ _=>rfl⟩,trivial⟩
 |cons a r ha hr=>exact ⟨⟨Ub λ_ _=>rfl,jE λ_ _=>rfl⟩,ha,hr⟩
 |val v=>exact ⟨⟨λM c O hd env m g σ s e h I=>acp I h,jE λ_ _=>rfl⟩,trivial⟩
 |name i=>
  have v:NG G (.name i):=λM c O hd env m g σ s e h I=>abU I (wH h).1 (wH h).2;exact ⟨⟨v,λM c O hd env m g σ s e h I=>ao.of (λQv Ev z=>(Mine.Lake.M.jD z).elim λa w=>by
   show Mine.Lake.M.aQ (av m i) (λv=>Mine.Lake.M.ok v.g7) σ _ _;exact w.1▸w.2)<|Cb (v M c O hd env m g σ s e h I) λw=>rfl⟩,trivial⟩
 |fy i=>exact ⟨⟨λM c O hd env m g σ s e h I=>abV M.B M.TG I (eq_of_beq<|aq h)<|aO h,jE λ_ _=>rfl⟩,trivial⟩
 |tuple es ih=>exact ⟨⟨λM c O hd env m g σ s e h I=>Y2 (jA<|aO h)<|Ab M O hd es _ ih.2 (aq h) g σ s I,jE λ_ _=>rfl⟩,trivial⟩
 |list z es ih=>exact ⟨⟨λM c O hd env m g σ s e h I=>abG (jA<|aO h)<|Ab M O hd es _ ih.2 (aq h) g σ s I,jE λ_ _=>rfl⟩,trivial⟩
 |dict z kvs ih=>
  refine ⟨⟨λM c O hd env m g σ s e h I=>?_,jE λ_ _=>rfl⟩,trivial⟩;have hp:∀aF aH aP,bg G c aP aF env m aH->_:=λaF aH aP aU=>aco M O hd (pos:=e.pos) kvs (agM e) (mK e) ih.2 (aq h) aP aF aH aU;rcases rM kvs with rfl|⟨x',r,rfl⟩|hn
  ·exact Y5 M.B I
  ·exact abH M.B (λq=>by contradiction) (ah List.all_map<|List.all_eq_true.mpr λ_ _=>rt) (by rw[cq];exact Pg _ _ _) (by rw[cq];exact jA<|aO h) I hp
  ·exact Gd hn<|aq h
 |CU z=>exact ⟨⟨λM c O hd env m g σ s e h I=>Y4 I,jE λ_ _=>rfl⟩,trivial⟩
 |dR z a b ha hb=>exact ⟨⟨λM c O hd env m g σ s e h I=>acf (ha.1.val M c O hd env m g σ s _ (aq h) I) λaF aH aP aU=>hb.1.val M c O hd env m aP aF aH _ (aO h) aU,jE λ_ _=>rfl⟩,trivial⟩
 |CV z x ih=>exact ⟨⟨λM c O hd env m g σ s e h I=>ZF M.B M.dict (eq_of_beq<|aq<|aO<|aq h) (aO<|aq<|aq h) (λq=>by replace h:=q▸h;exact absurd (aO h) fF) I<|ih.1.val M c O hd env m g σ s _ (aq<|aq<|aq h) I,jE λ_ _=>rfl⟩,trivial⟩
 |aal op a b ha hb=>exact ⟨⟨λM c O hd env m g σ s e h I=>ach op (ha.1.val M c O hd env m g σ s _ (aq h) I) λaF aH aP aU=>hb.1.val M c O hd env m aP aF aH _ (aO h) aU,jE λ_ _=>rfl⟩,trivial⟩
 |BO op a b ha hb=>exact ⟨⟨λM c O hd env m g σ s e h I=>OD M.B O op (aO h) (ha.1.val M c O hd env m g σ s _ (aq<|aq h) I) λaF aH aP aU=>hb.1.val M c O hd env m aP aF aH _ (aO<|aq h) aU,
  λM c O hd env m g σ s e h I=>OE M.B O op (aO h) (ha.1.val M c O hd env m g σ s _ (aq<|aq h) I) (λaF aH aP aU=>hb.1.val M c O hd env m aP aF aH _ (aO<|aq h) aU) _⟩,trivial⟩
 |neg a ha=>exact ⟨⟨λM c O hd env m g σ s e h I=>aci<|ha.1.val M c O hd env m g σ s _ h I,jE λ_ _=>rfl⟩,trivial⟩
 |EB a ha=>exact ⟨⟨λM c O hd env m g σ s e h I=>agp<|ha.1.val M c O hd env m g σ s _ h I,λM c O hd env m g σ s e h I=>Tp<|ha.1.rX M c O hd env m g σ s _ h I⟩,trivial⟩
 |MG es ih=>exact ⟨⟨λM c O hd env m g σ s e h I=>ZJ M O hd es _ ih.2 h g σ s I,λM c O hd env m g σ s e h I=>Tr M O hd es _ ih.2 h g σ s I⟩,trivial⟩
 |aam es ih=>exact ⟨⟨λM c O hd env m g σ s e h I=>acm M O hd es _ ih.2 h g σ s I,λM c O hd env m g σ s e h I=>ZK M O hd es _ ih.2 h g σ s I⟩,trivial⟩
 |ite x a b hx ha hb=>exact ⟨⟨λM c O hd env m g σ s e h I=>ao.cond (hx.1.rX M c O hd env m g σ s _ (aq<|aq h) I) (λaF aH aP aU=>ha.1.val M c O hd env m aP aF aH _ (aO<|aq h) aU) λaF aH aP aU=>hb.1.val M c O hd env m aP aF aH _ (aO h) aU,
  λM c O hd env m g σ s e h I=>ao.cond (hx.1.rX M c O hd env m g σ s _ (aq<|aq h) I) (λaF aH aP aU=>ha.1.rX M c O hd env m aP aF aH _ (aO<|aq h) aU) λaF aH aP aU=>hb.1.rX M c O hd env m aP aF aH _ (aO h) aU⟩,trivial⟩
 |yf x i hx=>exact ⟨⟨λM c O hd env m g σ s e h I=>ZG M.B M.TC (aO h)<|hx.1.val M c O hd env m g σ s _ (aq h) I,jE λ_ _=>rfl⟩,trivial⟩
 |iz a b ha hb=>exact ⟨⟨λM c O hd env m g σ s e h I=>acj M.B (aO h) (ha.1.val M c O hd env m g σ s _ (aq<|aq h) I) λaF aH aP aU=>hb.1.val M c O hd env m aP aF aH _ (aO<|aq h) aU,jE λ_ _=>rfl⟩,trivial⟩
 |zq a b ha hb=>exact ⟨⟨λM c O hd env m g σ s e h I=>ZD (ha.1.val M c O hd env m g σ s _ (aq h) I) λaF aH aP aU=>hb.1.val M c O hd env m aP aF aH _ (aO h) aU,jE λ_ _=>rfl⟩,trivial⟩
 |CW a b b' ha hb anw=>exact ⟨⟨λM c O hd env m g σ s e h I=>ZE (ha.1.val M c O hd env m g σ s _ (aq<|aq h) I) (λaF aH aP aU=>hb.1.val M c O hd env m aP aF aH _ (aO<|aq h) aU) λaF aH aP aU=>anw.1.val M c O hd env m aP aF aH _ (aO h) aU,jE λ_ _=>rfl⟩,trivial⟩
 |call f a hf ha=>
  have v:NG G (.call f a):=λM c O hd env m g σ s e h I=>abQ M.B (M.call c O hd) (aO h) (zo a _<|aO<|aq h) (hf.1.val M c O hd env m g σ s _ (aq<|aq h) I) λaF aH aP aU=>Ab M O hd a _ ha.2 (aO<|aq h) aP aF aH aU;exact ⟨⟨v,λM c O hd env m g σ s e h I=>Cb (v M c O hd env m g σ s e h I) λw=>rfl⟩,trivial⟩
 |vg o i a ho ha=>exact ⟨⟨λM c O hd env m g σ s e h I=>abT M.B O M.TC M.TF M.N (M.call c O hd) (aO<|aq<|aq h) (aO<|aq h) (jA<|aO h) (zo a _<|aO<|aq<|aq<|aq h) (ho.1.val M c O hd env m g σ s _ (aq<|aq<|aq<|aq h) I) λaF aH aP aU=>Ab M O hd a _ ha.2 (aO<|aq<|aq<|aq h) aP aF aH aU,jE λ_ _=>rfl⟩,trivial⟩
 |ji x hx=>exact ⟨⟨λM c O hd env m g σ s e h I=>acg<|hx.1.val M c O hd env m g σ s _ h I,jE λ_ _=>rfl⟩,trivial⟩
 |kr x t it cs hx hi hc=>exact ⟨⟨ags hx.1 hi.1 hc.2,jE λ_ _=>rfl⟩,trivial⟩
 |CX k v t it cs hk hv hi hc=>exact ⟨⟨agt hk.1 hv.1 hi.1 hc.2,jE λ_ _=>rfl⟩,trivial⟩
 |dm=>exact ⟨⟨Ub λ_ _=>rfl,jE λ_ _=>rfl⟩,trivial⟩
end
section
set_option genInjectivity false
end
section
variable{env:bS}{m:Env}
theorem Jq{v:bA}(hv:kD v=ag):nJ v t l env=pure ak:=by cases v<;>first|rfl|exact dC hv
noncomputable def agu (e:bA):Bool:=!dk e.ctorIdx 23
theorem ua{v t:bA}(ht:agu t=ag):nJ v (aa t) l env=pure ak:=by
 induction v using nV<;>first|rfl|(induction t using nV<;>first|rfl|exact dC ht)
theorem J1{ts v:bA}{p:ca}(hv:acK v=ag):uC [dG l k p] v env=pure aj:=by cases v<;>first|rfl|exact dC hv
theorem Jr(hk:env.scope.kind=b7):env.blockKind=b7:=by unfold Env.blockKind;refine ah hk ?_;rfl
theorem tB(h:MY env.scope.names i=ag):env.kindOf (nm i)=aa .local\/env.kindOf (nm i)=aa .cell:=(HE h).imp eq_of_beq eq_of_beq
theorem Gg:∀{is}{l},zK env.scope.names is=ag->ki env is (vT is l):=@lr _ _
 (@λ_ _=>rfl)
 (λi is ih=>@λl h=>⟨_,_,rfl,tB<|aq h,ih<|aO h⟩)
theorem J2{pos p:ca}(hk:env.scope.kind=b7)(h:LZ env.scope.names i p l (dq elt gs sc pos)=ag):nJ (dq elt gs sc pos) (aa<|aK (nm i) p) l env=pure ag:=by
 show (pure<|env.blockKind==b7&&env.kindOf (nm i)==aa .local&&p.line==pos.line&&!(sc.names.any λ(n,k)=>n==nm i&&(k==.local||k==.cell)))=_;refine ah (Jr hk)<|ah (show (env.kindOf (nm i)==aa .local)=ag from aq (aq h))<|ah (aO<|aq h)<|ah (show (!(sc.names.any λ(n,k)=>n==nm i&&(k==.local||k==.cell)))=ag from aO h) ?_;rfl
theorem acq{a b:bA}(hk:env.scope.kind=b7)(h:vU env.scope.names i j pi pj a b=ag){g:bA->Option bB}(hf:∀x,eE x=ag->f x=ak)(hg:∀n p,g (aK n p)=if (env.kindOf n==aa .local&&p.line==pi.line)=ag then aa n else aj):(if (!(2==2||2==3)||2 !=2||env.blockKind !=b7)=ag then (pure aj:fv<|Option<|List bB)else if ([a,b].any f)=ag then pure aj else if ((([aK (nm i) pi,aK (nm j) pj]).filterMap g).length !=2||(([aK (nm i) pi,aK (nm j) pj]).filterMap g).eraseDups.length !=(([aK (nm i) pi,aK (nm j) pj]).filterMap g).length)=ag then pure aj else
 if ([a,b].all<|Kg 8)=ag then pure aj else if ([a,b].all<|Ke 8)=ag then (do unsupported "assign.tuple-of-constant-expressions:order-of-the-stores";pure (aa<|([aK (nm i) pi,aK (nm j) pj]).filterMap g))else pure (aa<|([aK (nm i) pi,aK (nm j) pj]).filterMap g))=pure (aa [nm i,nm j]):=by
 have h1:=aq<|aq<|aq<|aq<|aq<|aq<|aq h
 have h2:=aO<|aq<|aq<|aq<|aq<|aq<|aq h
 have h3:=aO<|aq<|aq<|aq<|aq<|aq h
 have ne:nm i≠nm j:=λe=>by
  have:=aO<|aq<|aq<|aq<|aq h;rw[u7 e,sw]at this;exact dC this
 have fm:([aK (nm i) pi,aK (nm j) pj]).filterMap g=[nm i,nm j]:=by
  refine ah (K6<|show g (aK (nm i) pi)=aa (nm i)from (hg _ _).trans<|if_pos<|tE.mpr ⟨h1,beq_self_eq_true _⟩)<|ah (K6<|show g (aK (nm j) pj)=aa (nm j)from (hg _ _).trans<|if_pos<|tE.mpr ⟨h2,by exact (eq_of_beq h3)▸beq_self_eq_true _⟩) ?_;rfl
 have ed:[nm i,nm j].eraseDups.length=2:=by
  refine ah Vh<|ah Vn<|ah Eb<|ah (if_pos<|by refine ah (beq_eq_false_iff_ne.mpr<|oX ne) ?_;rfl) ?_;refine ah Vh<|ah Eb<|ah List.eraseDups_nil ?_;rfl
 refine ah fm<|ah ed<|ah (Jr hk)<|(if_neg fF).trans<|(if_neg λq=>?_).trans<|(if_neg fF).trans<|(if_neg λq=>?_).trans<|if_neg λq=>?_
 ·rw[Ed,Ed,hf _<|aO<|aq<|aq<|aq h,hf _<|aO<|aq<|aq h]at q;exact dC q
 ·rw[oQ,oQ,Vs,Vy,mE<|aO<|aq h]at q;exact dC q
 ·rw[oQ,oQ,Vs,Vy,mE<|aO h]at q;exact dC q
theorem J3{i k:Nat}{p:ca}{a b:bA}(hk:env.scope.kind=b7)(h:vU env.scope.names i j pi pj a b=ag):uC [dG [aK (nm i) pi,aK (nm j) pj] k p] (dG [a,b] k' p') env=pure (aa [nm i,nm j]):=
 acq hk h (λx hx=>by induction x using nV<;>first|rfl|exact dC hx) λ_ _=>rfl
end
section
variable{env:bS}{m:Env}
theorem Ph{p pos:ca}{a b:bA}(hk:env.scope.kind=b7)(h:vU env.scope.names i j pi pj a b=ag):dZ (fJ [dG [aK (nm i) pi,aK (nm j) pj] k p] (dG [a,b] k' p') pos) env=(do
 fk pos
 let v <-bq (dG [a,b] k' p') env
 rule "assign.swapped-stores"
 let items <-unpackItems v 2 aj
 UJ [λu=>KG env (nm j) u,λu=>KG env (nm i) u] items.reverse
 pure .next):=by
 have e:dZ (fJ [dG [aK (nm i) pi,aK (nm j) pj] k p] (dG [a,b] k' p') pos) env=(do
  fk pos
  if <-wK [dG [aK (nm i) pi,aK (nm j) pj] k p] (dG [a,b] k' p') pos.line env then do
   Ah (dG [a,b] k' p') env λv=>Ao v ((nH [dG [aK (nm i) pi,aK (nm j) pj] k p] env).map (·.2))
   pure .next
  else do
   let v <-bq (dG [a,b] k' p') env
   Kl env v (<-uC [dG [aK (nm i) pi,aK (nm j) pj] k p] (dG [a,b] k' p') env) ((nH [dG [aK (nm i) pi,aK (nm j) pj] k p] env).map (·.2))):=rfl
 exact ah e<|ah (show wK [dG [aK (nm i) pi,aK (nm j) pj] k p] (dG [a,b] k' p') pos.line env=pure ak from rfl)<|ah (J3 hk h) rfl
theorem ZL(hd:c.hd=ak){p pos:ca}{a b:bA}{y:Env->M V}(h:vU env.scope.names i j pi pj a b=ag)(I:bg G c g σ env m s)(hx:ao (cU G) G c env g m s (x m σ)<|bq a env)(hy:∀aF aH aP,bg G c aP aF env m aH->ao (cU G) G c env aP m aH (y m aF) (bq b env)):cb G c env g s (Mine.Lake.c9 x (λv=>Mine.Lake.c9 y λw=>λm=>SM.env (aa<|aN (aN m j w.g7) i v.g7) m) m σ) (dZ (fJ [dG [aK (nm i) pi,aK (nm j) pj] k p] (dG [a,b] k' p') pos) env):=λQv Ev z Q E q ex=>by
 refine ah (Ph I.br.kind h) ?_;rw[Ur];refine aR<|gF<|aR<|aR<|gF<|aR ?_;rw[eO<|aO<|aq<|aq<|aq h,eO<|aO<|aq<|aq h];refine uT<|hx _ _ z _ _ (λv aF aH aP u eT aU b6 cX=>uT<|hy aF aH aP aU _ _ eT _ _ (λw dh da dL t gU cF di gk=>AU<|UD ?_<|rJ<|dc rt) λdh da dL p y cF di fl=>ex _ _ _ _ p y cF ((b6.trans di).l I.br) fl) λaF aH aP p y aU b6 fl=>ex _ _ _ _ p y aU (b6.l I.br) fl;have P:=cF.push {cls:=aJ "tuple",data:=.seq [u,t].toArray} da.toks;refine aR<|Ak ?_;refine aR<|unpackItems_tuple (items:=[u,t].toArray) (cF.jS.1 hd) ⟨_,fZ _ rf,rfl,_,rfl⟩ λh' he=>?_;have kp:=λb o nb e=>he b o nb e;have eU:eJ (da.heap.push {cls:=aJ "tuple",data:=.seq [u,t].toArray}) dL h' dL:=eJ.n5 eJ.refl (cp _) kp;have e9:bg G c dL dh env m {da with heap:=h'}:=P.1.n5 (P.1.NA (cp _) λo e=>by rw[cp]at e;exact cV e) kp;refine aR (aR (fE (qv (kh e9 (((gk.ext P.2).ext eU).g7) (λn e=>(tX e).elim) (az<|eq_of_beq<|aO<|aq<|aq<|aq<|aq<|aq<|aq h) λwC pS HU=>aR (fE (qv (kh pS (((((cX.ext di).ext P.2).ext eU).bL (HU.my (L:=c.lk) e9.br).ji λ_ _=>az).g7) (λn e=>(tX e).elim) (az<|eq_of_beq<|aq<|aq<|aq<|aq<|aq<|aq<|aq h) λIb FX NF=>
  bO (bO<|q .next _ _ _ _ _ gU FX ((((((b6.trans di).trans P.2).trans eU).l I.br).trans<|HU.my e9.br).trans<|NF.my pS.br) rfl))))))))
structure vc(G:GG):Prop where
 out:∃cB fB fI d,yb G ou cB fB fI d/\yc G ou d
variable{d:Nat}
structure Ts(G:GG)(x:S):Prop where
 ajI:∀{N cf d}(_:Mt G N cf d)(_:vc G)(c:Cn)(_:c.Ok)(_:c.d=d)(env:bS)(_:pJ c env)(m:Env)(g:Gh)(σ:H)(s:aY)(st:dO),aao env.scope.names x st=ag->bg G c g σ env m s->cb G c env g s (iR (cx G N cf c) cf x m σ) (dZ (xw x st) env)
 Qs:∀{N cf d}(_:Mt G N cf d)(_:vc G)(c:Cn)(_:c.Ok)(_:c.d=d)(env:bS)(_:pJ c env)(m:Env)(g:Gh)(σ:H)(s:aY)(l:List dO),oB env.scope.names x l=ag->bg G c g σ env m s->cb G c env g s (iR (cx G N cf c) cf x m σ) (jF (gn x l) env)
theorem cb.no:cb G c env g s (λ_ _=>False) t:=λ_ _ z=>z.elim
theorem NH{x:SM}(k:c.hd=ak->cb G c env g s (x m σ) t):cb G c env g s ((match c.hd with|false=>x|true=>SM.no:SM) m σ) t:=by
 cases q:c.hd with
 |false=>exact k q
 |true=>exact cb.no
theorem NI{x:S}(h:∀ns st,aao ns x st=ak):∀{N cf d}(_:Mt G N cf d)(_:vc G)(c:Cn)(_:c.Ok)(_:c.d=d)(env:bS)(_:pJ c env)(m:Env)(g:Gh)(σ:H)(s:aY)(st:dO),aao env.scope.names x st=ag->bg G c g σ env m s->cb G c env g s (iR (cx G N cf c) cf x m σ) (dZ (xw x st) env):=λ_ _ _ _ _ _ _ _ _ _ _ _ q=>absurd ((h _ _).symm.trans q) fF
theorem je{x:S}(h:∀ns l,oB ns x l=ak):∀{N cf d}(_:Mt G N cf d)(_:vc G)(c:Cn)(_:c.Ok)(_:c.d=d)(env:bS)(_:pJ c env)(m:Env)(g:Gh)(σ:H)(s:aY)(l:List dO),oB env.scope.names x l=ag->bg G c g σ env m s->cb G c env g s (iR (cx G N cf c) cf x m σ) (jF (gn x l) env):=λ_ _ _ _ _ _ _ _ _ _ _ _ q=>absurd ((h _ _).symm.trans q) fF
theorem J4{x:S}(h:tQ x=ag):(∃i,x=.yR i)\/∃i,x=.drop i:=by induction x using S.casesOn<;>first|exact az ⟨_,rfl⟩|exact aX ⟨_,rfl⟩|exact dC h
theorem XR{v:Option V}(hf:∀x y,f x=aa y->y=.p x)(e:(kO o).map f=aa v):∃x,kO o=aa x/\∀y,v=aa y->y=.p x:=(lM.mp e).elim λx w=>(b0 x w.1 λy q=>hf x y<|w.2.trans q)
theorem acr{a r:S}(ha:Ts G a)(hr:Ts G r)(M:Mt G N cf d)(X:vc G)(O:c.Ok)(hd:c.d=d)(F:pJ c env){l:List dO}(h:oB env.scope.names (.cons a r) l=ag)(I:bg G c g σ env m s):cb G c env g s (iR (cx G N cf c) cf (.cons a r) m σ) (jF (gn (.cons a r) l) env):=by
 have h:(match tQ a with|true=>oB env.scope.names r l|false=>aao env.scope.names a (agP l)&&oB env.scope.names r l.tail)=ag:=h;show cb _ _ _ _ _ _<|jF (match tQ a with|true=>gn r l|false=>xw a (agP l)::gn r l.tail) env;cases q:tQ a with
 |true=>
  replace h:=q▸h;rcases J4 q with ⟨i,rfl⟩|⟨i,rfl⟩
  ·exact Jl M.B I (λo v e=>XR (λx y e=>(cP e).symm) e) λm' bP g' I'=>hr.Qs M X c O hd env F m' g' bP s l h I'
  ·exact Jl M.B I (λo v e=>XR (λx y e=>cV e) e) λm' bP g' I'=>hr.Qs M X c O hd env F m' g' bP s l h I'
 |false=>
  replace h:=q▸h;exact agh (ha.ajI M X c O hd env F m g σ s _ (aq h) I) λm' bP s' g' I'=>hr.Qs M X c O hd env F m' g' bP s' _ (aO h) I'
end
section
variable{env:bS}{m:Env}
variable{d:Nat}
theorem ye(M:Mt G N cf d)(O:c.Ok)(hd:c.d=d){x:X}(h:iq env.scope.names x e=ag)(I:bg G c g σ env m s):ao (cU G) G c env g m s (eP (cx G N cf c) m x σ) (bq (bF x e) env):=(Gf x).1.val M c O hd env m g σ s e h I
theorem ahR(M:Mt G N cf d)(O:c.Ok)(hd:c.d=d){x:X}(h:iq env.scope.names x e=ag)(I:bg G c g σ env m s):ao nz G c env g m s (rX (cx G N cf c) m x σ) (mF (bF x e) env<|bq (bF x e) env):=(Gf x).1.rX M c O hd env m g σ s e h I
theorem J5{e:X}(q:zJ e=ag):∃x t it cs,e=.kr x t it cs:=by induction e using X.casesOn<;>first|exact (ae1 _ _ _ _ rfl)|exact dC q
theorem acs(M:Mt G N cf d)(O:c.Ok)(hd:c.d=d){e:X}{st:dO}(h:aao env.scope.names (.ug i e) st=ag)(I:bg G c g σ env m s):cb G c env g s (iR (cx G N cf c) cf (.ug i e) m σ) (dZ (xw (.ug i e) st) env):=by
 have h:(MY env.scope.names i&&iq env.scope.names e (dW st).e&&(match zJ e with|true=>LZ env.scope.names i (dW st).t.pos st.pos.line (bF e (dW st).e)|false=>kD<|bF e (dW st).e))=ag:=h;refine bd (zJ e) (λq=>?_) λq=>?_
 ·
  replace h:=q▸h;exact rc (Jq<|aO h) rfl rfl I (ye M O hd (aO<|aq h) I) λv u aF aH aP aU r=>zj aU (tB<|aq<|aq h) r.g7 λn e=>(tX e).elim
 ·
  replace h:=q▸h;refine eh λcy bk=>aeZ (J5 q) λx t it cs w4=>?_;subst w4;refine bk ?_;have hl:=eq_of_beq<|aq<|aq<|aO h;have hs:=J2 I.br.kind<|aO h;have h:=aO<|aq h;show cb G c env g s (Mine.Lake.c9 (λm=>(match c.hd with|true=>Mine.Lake.M.no|false=>Mine.Lake.M.bind (eP (cx G N cf c) m it) λs=>Mine.Lake.M.aQ (s.pl.bind hX) λxs=>yi<|iQ (λy=>Mine.Lake.M.bind (ni (cx G N cf c) (aN m t<| .p y) cs) λb=>lw b<|Mine.Lake.M.bind (eP (cx G N cf c) (aN m t<| .p y) x) λv=>Mine.Lake.M.aQ v.pl Mine.Lake.M.ok) [] xs)) (λv=>λm=>SM.env (aa<|aN m i v.g7) m) m σ)
   (dZ (fJ [aK (nm i) (dW st).t.pos] (dq (bF x<|e0 (dW st).e) [⟨aK (nm t) (nk (dW st).e).target.pos,bF it (nk (dW st).e).iter,dJ 0 cs (nk (dW st).e).ifs,0⟩] (Hp (dW st).e) (dW st).e.pos) st.pos) env)
  cases qd:c.hd with
  |true=>exact cb.no
  |false=>exact HV (el:=λm=>eP (cx G N cf c) m x) M.B (GX<|aq<|aq<|aq<|aq h) I qd hl hs (aO<|aq<|aq h) (ye M O hd (aO<|aq<|aq<|aq h) I) (BL M O hd I.br.kind (Gf cs).2<|aO h)<|Ge M O hd I.br.kind (Gf x).1<|aO<|aq h
theorem alo{b x:S}(hb:Ts G b)(hx:Ts G x)(M:Mt G N cf d)(X:vc G)(O:c.Ok)(hd:c.d=d)(F:pJ c env){st:dO}(h:aao env.scope.names (.vh b i x) st=ag)(I:bg G c g σ env m s):cb G c env g s (iR (cx G N cf c) cf (.vh b i x) m σ) (dZ (xw (.vh b i x) st) env):=by
 have h:(oB env.scope.names b (dW st).b&&oB env.scope.names x (dW st).o&&!(gn x (dW st).o).isEmpty&&(env.scope.names.lookup ("IoFault":bB)==aa .globalImplicit)&&WT env.scope.names i)=ag:=h;refine eh λcy bk=>agF X.out λcB fB fI dd T hI=>bk ?_;cases q:gn x (dW st).o with
 |nil=>replace h:=q▸h;exact absurd (aO<|aq<|aq h) fF
 |cons CK HD=>
  have:=ago (HA:=i) (np:=(dW st).np) (R4:=(dW st).hp) (pos:=st.pos) (hm:=iR ⟨G.T,N,cf ag,ag,3⟩ cf x) M.B M.TC F hI T.T9 (eq_of_beq<|aO<|aq h) (λj e=>by have:=aO h;rw[e]at this;exact eq_of_beq this)
   (λa m σ s g _ I'=>q▸hx.Qs M X (c.mark a) (O.mark a) hd env (F.mark a) m g σ s (dW st).o (aO<|aq<|aq<|aq h) I') I (hb.Qs M X c O hd env F m g σ s (dW st).b (aq<|aq<|aq<|aq h) I)
  replace this:=q.symm▸this
  exact this
theorem agv:∀x:S,Ts G x:=λx=>by
 induction x with
 |nil=>exact ⟨NI λ_ _=>rfl,λM X c O hd env F m g σ s l h I=>agi I⟩
 |cons a r ha hr=>exact ⟨NI λ_ _=>rfl,λM X c O hd env F m g σ s l h I=>acr ha hr M X O hd F h I⟩
 |ug i e=>exact ⟨λM X c O hd env F m g σ s st h I=>acs M O hd h I,je λ_ _=>rfl⟩
 |Qz o i e=>exact ⟨λM X c O hd env F m g σ s st h I=>rc (ua rfl) rfl rfl I (ye M O hd (aq h) I) λv u aF aH aP aU r=>JW M.B M.TC aU r<|ye M O hd (aO h) aU,je λ_ _=>rfl⟩
 |MI o k e=>exact ⟨λM X c O hd env F m g σ s st h I=>rc (ua rfl) rfl rfl I (ye M O hd (aq<|aq<|aq h) I) λv u aF aH aP aU r=>O2 M.B (aO h) aU r (ye M O hd (aO<|aq<|aq h) aU) λdh da dL cF=>ye M O hd (aO<|aq h) cF,je λ_ _=>rfl⟩
 |MJ is e=>exact ⟨λM X c O hd env F m g σ s st h I=>NH λq=>rc (ua rfl) (J1 (ts:=xE)<|aO h) rfl I (ye M O hd (aq<|aq h) I) λv u aF aH aP aU r=>HR (aU.jS.1 q) (Gg<|aO<|aq h) aU r,je λ_ _=>rfl⟩
 |G4 i j a b=>exact ⟨λM X c O hd env F m g σ s st h I=>NH λq=>ZL q (aO h) I (ye M O hd (aq<|aq h) I) λaF aH aP aU=>ye M O hd (aO<|aq h) aU,je λ_ _=>rfl⟩
 |cY i e=>exact ⟨λM X c O hd env F m g σ s st h I=>rc (x:=λm=>eP (cx G _ _ c) m e) (Jq<|aO h) rfl rfl I (ye M O hd (aO<|aq h) I) λv u aF aH aP aU r=>agk I aU (tB<|aq<|aq h) r,je λ_ _=>rfl⟩
 |yR i=>exact ⟨NI λ_ _=>rfl,je λ_ _=>rfl⟩
 |drop i=>exact ⟨NI λ_ _=>rfl,je λ_ _=>rfl⟩
 |EC i op e=>exact ⟨λM X c O hd env F m g σ s st h I=>ab4 op (wH<|aq<|aq h).1 (wH<|aq<|aq h).2 (tB<|aO<|aq h) I<|ye M O hd (aO h) I,je λ_ _=>rfl⟩
 |Co o i op e=>exact ⟨λM X c O hd env F m g σ s st h I=>ab5 M.B M.TC op I (ye M O hd (aq h) I) λaF aH aP aU=>ye M O hd (aO h) aU,je λ_ _=>rfl⟩
 |expr e=>exact ⟨λM X c O hd env F m g σ s st h I=>ab3 I (aO h)<|ye M O hd (aq h) I,je λ_ _=>rfl⟩
 |aan x a b ha hb=>exact ⟨λM X c O hd env F m g σ s st h I=>ai2 I (ahR M O hd (aq<|aq h) I) (λbP s' g' I'=>ha.Qs M X c O hd env F m g' bP s' _ (aO<|aq h) I') λbP s' g' I'=>hb.Qs M X c O hd env F m g' bP s' _ (aO h) I',je λ_ _=>rfl⟩
 |lg is it b hb=>exact ⟨λM X c O hd env F m g σ s st h I=>NH λq=>agj (at_:=λx=>AZ ak is<| .p x) (I.jS.1 q) (aO<|aq<|aq<|aq h) I (ye M O hd (aq<|aq<|aq<|aq h) I) (by
  rcases is with _|⟨i,_|⟨j,is⟩⟩
  ·exact absurd (aO<|aq h) fF
  ·exact λv u m σ s g I r Qv z Q E q=>JZ (tB<|aq<|aO<|aq<|aq h) v u m σ s g I r Qv z Q E q
  ·exact λv u m σ s g I r Qv z Q E q'=>HQ (I.jS.1 q) (Gg<|aO<|aq<|aq h) v u m σ s g I r Qv z Q E q') λm σ s g I=>hb.Qs M X c O hd env F m g σ s _ (aO h) I,je λ_ _=>rfl⟩
 |sG x b hb=>exact ⟨λM X c O hd env F m g σ s st h I=>Zo F I (λm σ s g I=>ahR M O hd (aq h) I) (λm σ s g I=>hb.Qs M X c O hd env F m g σ s _ (aO h) I) C0,je λ_ _=>rfl⟩
 |ret e=>exact ⟨λM X c O hd env F m g σ s st h I=>SX I<|ye M O hd h I,je λ_ _=>rfl⟩
 |ML=>exact ⟨λM X c O hd env F m g σ s st h I=>Dw I,je λ_ _=>rfl⟩
 |gL a b=>exact ⟨λM X c O hd env F m g σ s st h I=>NH λq=>eZ X.out λcB fB w=>eZ w λfI dd w=>Te M.B M.TC w.1 w.2 O q (aO<|aq<|aq h) (aO<|aq h) I (eq_of_beq<|aO h) (ye M O hd (aq<|aq<|aq<|aq h) I) λaF aH aP aU=>ye M O hd (aO<|aq<|aq<|aq h) aU,je λ_ _=>rfl⟩
 |xo e=>exact ⟨λM X c O hd env F m g σ s st h I=>Td M.B M.TC I<|ye M O hd h I,je λ_ _=>rfl⟩
 |vh b i x hb hx=>exact ⟨λM X c O hd env F m g σ s st h I=>alo hb hx M X O hd F h I,je λ_ _=>rfl⟩
 |ZV=>exact ⟨λM X c O hd env F m g σ s st h I=>ab1 I,je λ_ _=>rfl⟩
 |cont=>exact ⟨λM X c O hd env F m g σ s st h I=>ab2 I,je λ_ _=>rfl⟩
 |dm=>exact ⟨λM X c O hd env F m g σ s st h I=>cb.no,je λ_ _=>rfl⟩
end
section
set_option tactic.hygienic true
def aj4:List (bB×i6)->S->List dO->Prop:=λns x body=>oB ns x body=ag/\gn x body=body
structure NJ(G:GG)(N:tH):Prop where
 B:G.dB
 TC:iU G
 TG:FU G
 TF:aad G
 N:po N
 dict:iM G "dict" (aJ "dict")
 X:vc G
 P:z8 G
 fn:T8 G aj4
theorem acu(K:NJ G N)(h:∀hd,sR G N d hd)(h':∀e,d=e+1->∀hd,sR G N e hd)(hd:Bool):sR G N (d+1) hd:=λc hO aj5 Qp env m g σ s a vs us I r Qv Ev z R q ex=>by
 rw[<-Qp]at z;exact JV K.B K.fn hO aj5 (λF body rL g σ m s lk ck hf I'=>by
  have:=(agv F.body).Qs (⟨K.B,K.TC,K.TG,K.TF,K.N,K.dict,λc O e=>Ji K.B K.TC O e (h c.hd) (λe' q=>h' e' q c.hd) K.P⟩) K.X (Di c rL d lk) (BI hO aj5) rfl rL ⟨⟨c.fr,rfl⟩,(BI hO aj5).frames,⟨_,hf⟩⟩ m g σ s body ck.1 I';rw[ck.2]at this;exact this) I r z q ex
theorem XS(K:NJ G N):∀d,(∀hd,sR G N d hd)/\∀e,d=e+1->∀hd,sR G N e hd:=@nr _
 (⟨λhd c _ _ _ _ _ _ _ _ _ _ _ _ _ _ _ z=>(z).elim,λ_ e=>by contradiction⟩)
 (λd ih=>⟨acu K (ih).1 (ih).2,λe q=>pA q▸(ih).1⟩)
end
theorem jy:plainId "dict.update.loop"=ag:=by decide+kernel
theorem pY:entryFor table "dict.update.loop"=aa sq.«dict.update.loop»:=entryFor_of_tree (by kernel_rfl)
section
variable{prog:oM}{w:kK}{E:au->aY->Prop}
theorem CT:Ai (aJ "list") "keys"=pure aj:=by rw[Ux,Ui];kernel_rfl
theorem acv{a:bj}{its:Array au}{Q:Option au->aY->Prop}(hg:s.heap.get? a=aa (gv its n))(hA:A.handled=aj)(h:∀h' tk,(∀b o,s.heap.get? b=aa o->h'.get? b=aa o)->Q aj {s with heap:=h',toks:=tk}):bw (bh prog w) A (KC (ai a) "keys") Q E s:=by
 obtain ⟨hp,g,d,tk,os⟩:=s;have hT:∀Mo,(⟨hp,g,d,Mo,os⟩:aY).TypeIs (ai a) "list":=λ_=>⟨_,hg,rfl⟩
 have f1:=sub_AttributeError;have f3:=Lu.lookup;have f4:=Lu.bind<|ai a;have f5:=am_list_getattr_none;unfold KC getAttrBy? getAttrBy;repeat (any_goals (first|assumption|exact hT _|((with_reducible show bw _ _ (call (LA "list.__getattribute__") _ _) _ _ _);refine uE Lu (hT _) am_entry_list_getattribute (F.args_list_getattribute_2 _ _) (meets_getattribute_miss_list a its n _ "keys" _ CT (dc rt) (dc rt)) ⟨hg,hA,λh' Mo e ac0=>?_⟩)|wp_step))
 have he:=ac0.there;refine eZ he λt' u' he=>?_;unfold getattributeRaised;repeat (any_goals (first|assumption|wp_step))
 exact h _ _ ac0.keeps
structure Bt(G:GG)(h:bX)(u:au)(kv:bV×au):Prop where
 out:∃t n ku,u=ai t/\h.get? t=aa (xT [ku,kv.2].toArray n)/\jC kv.1 ku=ag
theorem Bt.keeps{u:au}{kv:bV×au}(k:∀b o,h.get? b=aa o->o.cls=aJ "tuple"->h'.get? b=aa o)(p:Bt G h u kv):Bt G h' u kv:=mY p.out λt n ku w=>⟨t,n,ku,w.1,k _ _ w.2.1 rfl,w.2.2⟩
theorem Pk(hA:A.handled=aj){D I l:bj}(hlen:items.size<=bZ)(DI:D≠I)(lI:l≠I)(lD:l≠D):∀(its:List au)(kvs:List<|bV×au)(i:Nat)(s:aY)(acc:List<|bV×au),items.toList.drop i=its->acc.length<=i->bR (Bt G s.heap) its kvs->s.heap.IsListIter I l i->s.heap.IsList l items->s.heap.DictOf G.kk D acc->(∀o,s.heap.get? D=aa o->o.cls≠aJ "tuple")->(∀o,s.heap.get? I=aa o->o.cls≠aJ "tuple")->(∀h' tk,h'.DictOf G.kk D (Kj acc kvs)->(∀b o,b≠D->b≠I->s.heap.get? b=aa o->h'.get? b=aa o)->R (.ok<| .ret .none) {s with heap:=h',toks:=tk})->kI (bh G.prog G.w) A (.builtin "dict.update.loop" ⟨[ai D,ai I,uH i,.none],[]⟩) R s:=@lr _ _
 (λkvs i s acc hd ha rs hit hl hD _ _ q=>by
  rw[rs.nil]at q;refine Kb pY ?_;rw[Ws jy _];refine aR<|wpAny_pyNext_list_end hA hit hl ((Eo)▸List.getElem?_eq_none (List.drop_eq_nil_iff.mp hd)) λh' he=>?_;exact aR<|bO<|bO<|q h' s.toks (hD.at λo e=>he _ o DI e) λb o _ nI e=>he b o nI e)
 (λit its ih kvs i s acc hd ha rs hit hl hD cD cI q=>by
  refine eh λcy bk=>?_;obtain ⟨⟨k,v⟩,Fw,rfl,p,XB⟩:=rs.cons;refine bk ?_;have hi:items[i]?=aa it:=by
   rw[<-Eo,<-List.head?_drop,hd];rfl
  refine Kb pY ?_
  rw[Ws jy _]
  refine aR<|wpAny_pyNext_list_item hit hl hi λeY XT zD=>?_
  have k₁:∀b o,b≠I->s.heap.get? b=aa o->eY.get? b=aa o:=λb o nb e=>(zD.2 b nb).trans e
  have yz:=λb o e c=>k₁ b o (λw=>cI o (w▸e) c) e
  have alp:=hD.at λo e=>k₁ _ o DI e
  refine eh λcy bk=>aai ((p.keeps yz).out) λt n ku w3 gt hk=>?_;subst w3
  refine bk<|wpAny_bind<|fE<|aR<|wpAny_tryCatch ?_
  unfold aez
  refine aR<|Ki ⟨_,gt,rfl⟩ ?_
  rw[if_pos<|by decide]
  refine aR<|wpAny_seqItems gt rfl<|bO ?_
  refine fE<|wpAny_dictSet_pairs hk alp (λl4 adB aja=>?_)<|iK ?_
  ·have k₂:∀b o,b≠D->eY.get? b=aa o->l4.get? b=aa o:=λb o nb e=>(aja.2 b nb).trans e
   have anx:∀o,l4.get? D=aa o->o.cls≠aJ "tuple":=λo e w=>by
    refine cE (Ef.mp adB) λo' e' d'=>?_;rw[e]at e';obtain rfl:=fh e';exact eZ d' λes ep y=>absurd (lP<|y.1.1.symm.trans w)<|dc rt
   have Nw:=λb o e c=>k₂ b o (λw=>cD o (w▸e) c)<|yz b o e c
   refine bO ⟨UM jy _,ih Fw (i+1) {s with heap:=l4,toks:=s.toks+1} (sv acc k v) ?_ ?_ (XB.bL λu kv p=>p.keeps Nw) (XT.at λo e=>k₂ _ o DI.symm e) (hl.elim λo w=>⟨o,k₂ _ o lD<|k₁ _ o lI w.1,w.2⟩) adB anx (λo e w=>?_) λh' tk d' k'=>q h' tk d' λb o nD nI e=>k' b o nD nI<|k₂ b o nD<|k₁ b o nI e⟩
   ·rw[<-List.drop_drop,hd];rfl
   ·exact bo (stored_length_le acc k v)<|kY ha
   ·refine vC XT λo' e' c' _=>?_
    rw[k₂ _ o' DI.symm e']at e;obtain rfl:=fh e;rw[c']at w;exact absurd (lP w)<|dc rt
  ·exact bo (bo ha<|uK (V6.mp hi).1) hlen)
theorem Pl{F:Fz}:∀{xs:List P}{es:List (bV×P)}{its:List au},pairsOf xs=aa es->bR (PR G h F) xs its->∃kvs,bR (Bt G h) its kvs/\bR (ER<|PR G h F) es kvs:=@lr _ _
 (@λes its e r=>by obtain rfl:=fh e;exact r.nil▸(b0 [] trivial trivial))
 (λx xs ih=>@λes its e r=>by
  refine oi r.cons λu its w2 p r'=>?_;subst w2;have e:(match x.MM with|some l=>(match l with|[k,v]=>(match k.HY with|some k=>(pairsOf xs).map ((k,v)::·)|none=>aj)|_=>aj)|none=>aj)=aa es:=e;refine oc (x.MM) (λhx=>?_) λl hx=>?_
  ·rw[hx]at e;exact cV e
  ·
   rw[hx]at e;rcases l with _|⟨k,_|⟨v,_|⟨_,_⟩⟩⟩
   ·exact cV e
   ·exact cV e
   rotate_left
   ·exact cV e
   ·
    have e:(match k.HY with|some k=>(pairsOf xs).map ((k,v)::·)|none=>aj)=aa es:=e;refine oc (k.HY) (λhk=>?_) λkk hk=>?_
    ·rw[hk]at e;exact cV e
    ·
     rw[hk]at e;refine cE (lM.mp e) λv9 e' w2=>?_;subst w2;rw[P.yD hx]at p;refine eh λcy bk=>G2 (oE.out p) λt us n w3 _ gt rs=>?_;subst w3;obtain ⟨ku,us,rfl,pk,rs⟩:=(gu▸rs).cons;obtain ⟨vu,us,rfl,pv,rs⟩:=rs.cons;refine bk ?_;rw[rs.nil]at gt;exact cE (ih e' r') λkvs a b=>(b0 ((kk,vu)::kvs) ⟨⟨t,n,ku,rfl,gt,(GU hk pk).1⟩,a⟩ ⟨⟨⟨rfl,(GU hk pk).2⟩,pv⟩,b⟩))
theorem ZM(B:G.dB):z8 G:=λc env m g σ s v u xs es I hd hx he hl r Qv Ev z Q E q ex=>by
 refine eh λcy bk=>xn (pH I.dR hx r) λl its n w3 L=>?_;subst w3;have hA:=I.jS.1<|mE hd;refine cE (Pl he L.rs) λkvs pi rs=>bk<|callType_codes (Q₁:=λobj aH=>obj=ai s.heap.objs.size/\aH={s with heap:=s.heap.push {cls:=aJ "dict",data:=.dict #[]}}) F.kt_called_dict (F.kt_typeCall_dict_1 _) F.entry_dict_init (kt_code_dict_new _ ⟨rfl,rfl⟩) ?_;rintro obj aH ⟨rfl,rfl⟩;have aek:(s.heap.push {cls:=aJ "dict",data:=.dict #[]}).DictOf G.kk s.heap.objs.size []:=Es s.heap;have gD:(s.heap.push {cls:=aJ "dict",data:=.dict #[]}).get? s.heap.objs.size=aa {cls:=aJ "dict",data:=.dict #[]}:=fZ _ rfl;have Ia:=bY s.heap {cls:=aJ "dict",data:=.dict #[]};refine (k8 aek.typeIs (F.args_dict_init_2 _ _) ?_);unfold sq.«dict.__init__»;refine aR ?_;unfold aey;refine aR<|wpAny_notOrdered_dict aek.typeIs ?_;refine bO ?_;show bw _ _ (Wm "dict.__init__" s.heap.objs.size (ai l) [] .none) _ _ _;unfold Wm;refine aR<|Ki ⟨_,Ia _ _ L.at_,rfl⟩ ?_;rw[if_pos<|by decide];refine aR<|acv (Ia _ _ L.at_) hA λeY tk k₁=>?_;rw[if_pos<|show aj.isNone=ag from rfl];have adC:=λb o e=>k₁ b o<|Ia b o e;refine aR<|Ak<|aR<|Us ⟨_,adC _ _ L.at_,rfl,_,rfl⟩<|aR<|bO<|bO ⟨UM jy _,?_⟩;have adD:=k₁ _ _ gD;have lt:=hJ adD;have ajb:=bY eY {cls:=aJ "list_iterator",data:=.fields #[ai l,.int 0 0]} _ _ adD;have k₂:∀b o,s.heap.get? b=aa o->(eY.push {cls:=aJ "list_iterator",data:=.fields #[ai l,.int 0 0]}).get? b=aa o:=λb o e=>bY _ _ _ _<|adC b o e;have ne:∀{b o},s.heap.get? b=aa o->b≠s.heap.objs.size/\b≠eY.objs.size:=λe=>⟨m7<|hJ e,m7<|qf (hJ e) lt⟩
 refine Pk (G:=G) (A:=c.A.in1) (i:=0) (acc:=[]) hA (items:=its.toArray) (l:=l) (kvs:=kvs) (its:=its) (by rw[iN,pi.length,<-rs.length];exact hl) (m7 lt) (ne L.at_).2 (ne L.at_).1 {s with heap:=eY.push {cls:=aJ "list_iterator",data:=.fields #[ai l,.int 0 0]},toks:=tk} rfl (gj _) (pi.bL λu kv p=>p.keeps λb o e _=>k₂ b o e)
  ⟨_,fZ _ rfl,rfl,rfl⟩ ⟨_,k₂ _ _ L.at_,rfl,_,rfl⟩ (aek.at λo e=>bY _ _ _ _<|k₁ _ _ e) (λo e w=>?_) (λo e w=>?_) λh' Mo d' k'=>⟨rfl,yH B (z:=[]) (Ev:=Ev) I (λb o e=>k' b o (ne e).1 (ne e).2<|k₂ b o e) (cp _) d' (ER.merged trivial AG rs) z q⟩
 ·rw[ajb]at e;obtain rfl:=fh e;exact absurd (lP w)<|dc rt
 ·rw[fZ eY rfl]at e;obtain rfl:=fh e;exact absurd (lP w)<|dc rt
end
section
set_option tactic.hygienic true
theorem GY{K:c7}(h:a≠b):Vu a ((b,o)::K)=K.lookup a:=by
 show (match a==b with|true=>aa o|false=>K.lookup a)=_;refine ah (beq_eq_false_iff_ne.mpr h) ?_;rfl
theorem Qt{K:c7}:Vu a ((a,o)::K)=aa o:=by
 show (match a==a with|true=>aa o|false=>K.lookup a)=_;rw[beq_self_eq_true]
theorem Gi{D a:bj}:∀{K},(dM D K).lookup a=aa o->a≠D/\K.lookup a=aa o:=@lr _ _
 (@(cV))
 (@pr _ _ _ (λb x K ih=>@λe=>by
  have e:(match dk b D with|true=>dM D K|false=>(b,x)::dM D K:c7).lookup a=aa o:=e;refine bc (dk b D) (λq=>?_) λq=>?_
  ·
   have z:=ih (by replace e:=q▸e;exact e);exact ⟨z.1,(GY λw=>z.1<|w.trans<|rN q).trans z.2⟩
  ·
   replace e:=q▸e;by_cases w:a=b
   ·subst w
    exact ⟨Nat.ne_of_beq_eq_false q,Qt.trans<|Qt.symm.trans e⟩
   ·have z:=ih<|(GY w).symm.trans e
    exact ⟨z.1,(GY w).trans z.2⟩))
theorem ZN{K:c7}(X:K.In h):(dM D K).In (xm h [D]):=λa o e=>
 (AX λq=>(Gi e).1<|fq.mp q).trans (X a o (Gi e).2)
theorem Qu{p:Array au×Nat}(h:adL d=aa p):d=.seq p.1 p.2:=by induction d using uU<;>first|exact cV h|exact fh h▸rfl
theorem Qw{p:Array i5×Nat}(h:adM d=aa p):d=.dict p.1 p.2:=by induction d using uU<;>first|exact cV h|exact fh h▸rfl
theorem acw{e:i5}(h:agQ e=ag):∃n t,e.key=.str n t:=by
 obtain ⟨hh,k,v⟩:=e;cases k<;>first|exact (yQ _ _ rfl)|exact dC h
structure Uc(h:bX)(D:bj):Prop where
 out:∃o es n,h.get? D=aa o/\o.data=.dict es n/\DP es/\o.cls=aJ "dict"
theorem pu(h:o.any f=ag):∃a,o=aa a/\f a=ag:=by induction o using fA with|none=>exact dC h|some a=>exact (b0 a rfl h)
theorem Js{K:c7}{D:bj}(X:K.In h)(e:MZ K D=ag):Uc h D:=
 cE (pu e) λo q w=>cE (pu<|aO w) λp d a=>⟨o,p.1,p.2,X _ _ q,Qw d,λx hx=>acw<|lO.mp a x<|V8.mpr hx,eq_of_beq<|aq w⟩
theorem Jt:∀k n,aW (iu k O.free) n=aj\/aW (iu k O.free) n=aa .free
 |0,_=>az rfl
 |k+1,0=>aX rfl
 |k+1,n+1=>Jt k n
section
variable{prog:oM}{w:kK}{K:c7}{D:bj}
abbrev gg(prog:oM)(w:kK)(K:c7)(D:bj)(s:aY):GG:=⟨prog,w,dM D K,xm s.heap [D],TT,s.gens,s.os,s.drawn⟩
noncomputable abbrev ahS (D:bj):bS:={scope:=⟨b7,[],ak,ak,[]⟩,locals:=D,globals:=jz,cells:=[],builtins:=kX}
noncomputable abbrev amk:Cn:=⟨KI,[],ak,12,3,λ_=>False⟩
noncomputable abbrev aml (h:bX):Gh:=⟨λ_=>aj,λb=>∃o,h.get? b=aa o⟩
theorem Gj:¬jg (λ_=>aj) b:=λw=>lK w λn p e _=>cV e
theorem agw:amk.Ok:=⟨rfl,by decide,by decide⟩
theorem alq(Y:Uc s.heap D):bg (gg prog w K D s) amk (aml<|xm s.heap [D]) (iu 36 .free) (ahS D) [] s where
 keep:=λb o e=>(Wj e).2
 dR:=⟨λn=>az ⟨Jt 36 n,rfl⟩,λn m p q e=>by (exact cV e),λb f=>(Gj f).elim,λb f=>⟨Gj,f.elim λo e=>⟨o,(Wj e).2⟩⟩⟩
 br:={
  kind:=rfl
  fy:=rfl
  pQ:=rfl
  ns:=mY Y.out λo es n z=>(b0 (Au es) ⟨o,es,n,z.1,z.2.1,z.2.2.1,λ_=>rfl⟩ λi v e=>cV e)
  cY:=λb q=>q.elim (λe=>e▸⟨⟨mY Y.out λo es n z=>⟨o,z.1⟩,λf=>f.elim Gj λf=>f.elim λo z=>by rw[Wk<|eB _]at z;exact cV z⟩,Wk<|eB _⟩) λe=>e.elim λx e=>cV e
  cells:=λx a e=>cV e
  n4:=λi v e=>cV e
  qq:=λx e=>by rcases e with e|e<;>exact cV e
  apart:=λx y a e=>by cases e}
 frames:=trivial
 tu:=λe he=>by contradiction
 jS:=⟨λ_=>rfl,λq=>dC q⟩
 lk:=λn q=>q.elim
 tm:=λi n e=>cV e
 gens:=rfl
 os:=rfl
 drawn:=rfl
 y6:=λb o e=>⟨o,e⟩
theorem acx(F:NJ (gg prog w K D s) NN)(Y:Uc s.heap D){xs:List Int}(hl:s.heap.get? l=aa (gv its.toArray n))(hi:bR (λi u=>∃t,u=AV i t) xs its)(hr:ba TT NN 12 ak (.p<| .fn 1082) [.p<| .fl<|xs.map .int] (iu 36 .free) (λv _=>v=.p (.bool ag)) λ_=>False) E:bw (bh prog w) KI (call (ai 1082) [ai l]) (λv s'=>v=.bool ag/\(∀b o,s.heap.get? b=aa o->s'.heap.get? b=aa o)/\s'.os=s.os/\s'.gens=s.gens) E s:=by
 have lD:l≠D:=λe=>mY Y.out λo es n z=>by
  rw[e,z.1]at hl;have:=z.2.2.2;rw[cP hl]at this;exact absurd (lP this)<|dc rt
 have A:=Ji F.B F.TC agw (d:=12) rfl ((XS F 12).1 ak) (λe q=>(XS F 12).2 e q ak) F.P (ahS D) [] (aml<|xm s.heap [D]) _ s (.p<| .fn 1082) [.p<| .fl<|xs.map .int] (ai 1082) [ai l] (alq Y) ⟨rfl,F.TF 1082 tN rfl⟩
  ⟨⟨l,its,n,rfl,⟨_,((AX λq=>lD<|fq.mp q).trans hl)⟩,hl,by exact ah gu<|bR.map (f:=P.int) (λ_ _ z=>z) hi⟩,trivial⟩
 refine A.2 _ _ hr _ _ (λv bP s' g' u q I x r=>?_) λbP s' g' p q=>q.elim
 obtain rfl:=q
 exact (acH r (λb o e=>by
  by_cases hb:b=D
  ·subst hb
   refine G2 Y.out λo' es m z zd zk zc=>?_;rw[z]at e;obtain rfl:=fh e;refine cE (x.keep _ _ z Gj<|vI zd) λsl e' k=>?_;rw[k<|zc▸λq=>absurd (lP q)<|dc rt]at e';exact e'
  ·exact I.keep b o<|(AX λq=>hb<|fq.mp q).trans e) I.os I.gens)
end
end
section
set_option tactic.hygienic true
theorem Ju(h:Bu t o=ag):o.cls=aJ t/\o.dict=aj/\o.slots=#[]:=
 (k8 (eq_of_beq<|aq<|aq h) (J6.mp<|aO<|aq h)<|congrArg Array.mk<|AE.mp<|aO h)
theorem XU{o:cC}{c:au}{x:uI}(h1:o.cls=c/\o.dict=d/\o.slots=l)(h2:o.data=x):o=⟨c,d,x,l⟩:=h1.1▸h1.2.1▸h1.2.2▸h2▸rfl
theorem Gk{b:Bool}(e:(bif b then o else aj)=aa a):b=ag/\o=aa a:=by induction b using fe with|true=>exact ⟨rfl,e⟩|false=>exact cV e
theorem qu{K:c7}{t:String}(e:TE K t u=aa o):u=ai (acL u)/\K.lookup (acL u)=aa o/\Bu t o=ag:=
 ⟨eq_of_beq (Gk e).1,Option.filter_eq_some_iff.mp (Gk e).2⟩
theorem ZO{K:c7}{u:au}(e:acM K u=aa l):∃a n,u=ai a/\K.lookup a=aa (xT l.toArray n):=
 cE (qb.mp e) λo h1 h2=>cE (lM.mp h2) λp h3 h4=>(jY _ p.2 (qu h1).1<|(qu h1).2.1.trans<|congrArg aa<|XU (Ju (qu h1).2.2)<|(Qu h3).trans<|h4▸rfl)
theorem Tt{K:c7}(e:L3 K u=aa l):∃a o n,u=ai a/\K.lookup a=aa o/\o.ExactDict/\o.data=.dict l.toArray n:=
 cE (qb.mp e) λo h1 h2=>cE (lM.mp h2) λp h3 h4=>(aaj _ o p.2 (qu h1).1 (qu h1).2.1 (Ju (qu h1).2.2)<|(Qw h3).trans<|h4▸rfl)
section
variable{F:Fz}
theorem MF{p:α->Bool}(e:o.any p=ag):∃a,o=aa a/\p a=ag:=oc o (λq=>dC (q▸e:none.any p=ag)) λa q=>(b0 a q (q▸e:(aa a).any p=ag))
mutual
theorem XW(k:∀a o,G.K.lookup a=aa o->h.get? a=aa o/\F a):∀(x:P)u,ajq G.K x u=ag->PR G h F x u
 | .int i,u,e=>⟨_,eq_of_beq e⟩
 | .str s,u,e=>⟨aq e,_,eq_of_beq<|aO e⟩
 | .jH vs,u,e=>cE (MF<|e) λus q z=>lK (ZO q) λa n r y=>⟨a,us,n,r,(k _ _ y).2,(k _ _ y).1,GZ k vs us z⟩
 | .fn a,u,e=>⟨eq_of_beq<|aq e,aO e⟩
 | .cls a,u,e=>⟨eq_of_beq<|aq e,aO e⟩
 | .ty n,u,e=>eq_of_beq<|show (u==aJ (Be n))=ag from e
 | .bi n,u,e=>eq_of_beq<|show (u==.builtin (xv n))=ag from e
 | .none,_,e=>dC e
 | .bool _,_,e=>dC e
 | .fl _,_,e=>dC e
 | .fd _ _,_,e=>dC e
 | .BN _ _,_,e=>dC e
theorem GZ(k:∀a o,G.K.lookup a=aa o->h.get? a=aa o/\F a):∀xs us,ZW G.K xs us=ag->IW G h F xs us
 |[],us,e=>by induction us using cZ with|nil=>trivial|cons=>exact dC e
 |x::xs,us,e=>by induction us using cZ with|nil=>exact dC e|cons u us=>exact ⟨XW k x u<|aq e,GZ k xs us<|aO e⟩
end
structure agx(w:kK)(ks:List bV)(es:List i5):Prop where
 h:∀e∈es,∃k,jC k e.key=ag/\e.hash=um w k
 k:(ks.zip<|es.map (·.val)).map (·.1)=ks
 v:(ks.zip<|es.map (·.val)).map (·.2)=es.map (·.val)
 o:ks.all LX=ag
theorem acy(ks:List bV):∀es,M4 ks es=ag->es.map (·.hash)=ks.map (um w)->agx w ks es:=
 fT (λes=>fT (λ_ _=>⟨λ_ h=>(nomatch h),rfl,rfl,rt⟩) (λ_ _ _ h=>dC h) es)
  (λk ks ih es=>fT (dC) (λe es _ h q=>have r:=ih es (aO h) (WA q).2
   ⟨λx hx=>(dU.mp hx).elim (λz=>z▸(b0 k (aq<|aq h) (WA q).1))<|r.h x,congrArg (k::·) r.k,congrArg (e.val::·) r.v,tE.mpr ⟨aO<|aq h,r.o⟩⟩) es) ks
theorem ZP(ks:List bV):∀es,M4 ks es=ag->Pairs G.kk es (ks.zip<|es.map (·.val)):=
 fT (λes=>fT (λ_=>.nil) (λ_ _ _ h=>dC h) es) (λk ks ih es=>fT (dC) (λe es _ h=>.cons (aq<|aq h) rfl<|ih es<|aO h) es) ks
theorem agy{u:au}(r:u=ai a)(h:(u==ai b)=ak):(a==b)=ak:=bc (a==b) (λq=>rT<|(beq_self_eq_true<|jX b).symm.trans<|by rw[r,eq_of_beq q]at h;exact h) id
theorem ajc(k:∀a o,G.K.lookup a=aa o->h.get? a=aa o/\F a){v:P}{u:au}(e:ajr G.K v u=ag)(hh:ajs G.K (aa u) v=ajt G.w v):PR G h F v u:=by
 induction v using P.casesOn with
 |fd ks vs=>
  refine cE (MF<|e) λes q e=>G2 (Tt q) λa o n r z x d=>?_;have K:=acy ks es (aq<|aq<|aq e)<|(congrArg (λo:Option (List i5)=>(o.getD []).map (λx:i5=>x.hash)) q).symm.trans hh;exact ⟨a,ks.zip<|es.map (·.val),r,(k _ _ z).2,⟨o,_,n,(k _ _ z).1,x,d,λe he=>K.h e<|V8.mpr he,ZP ks es<|aq<|aq<|aq e,K.k.symm▸of_decide_eq_true (aO<|aq e)⟩,
   agy r (mE<|aO e),K.k.symm,K.o,K.v.symm▸GZ k _ _ (aO<|aq<|aq e)⟩
 |_=>exact XW k _ _ e
theorem vO{K:c7}(X:K.In h){x:bB}(e:k9 K x=aa u)(hg:h.Ns jz mg)(hb:∀x:bB,x≠"__name__"->mb x=uD x):mg x=aa u\/(mg x=aj/\mb x=aa u):=by
 unfold k9 at e;split at e
 ·rename_i v q;obtain rfl:=fh e;exact az<|mg_of X hg q
 ·rename_i q
  split at e
  ·exact cV e
  ·rename_i z;exact aX ⟨ns_none_of X hg q,(hb x λw=>by replace z:=w▸z;exact absurd ((beq_self_eq_true _).symm.trans z)<|dc rt).trans e⟩
 ·exact cV e
theorem ZQ(X:G.K.In G.h₀)(e:mI.all (λe=>(k9 G.K<|nm e.1).any<|ajr G.K e.2)=ag)(hT:G.T.fy=av mI)(hh:mI.map (λe=>ajs G.K (k9 G.K<|nm e.1) e.2)=mI.map (λe=>ajt G.w e.2)):FU G:=λi v q=>
 have m:=mQ (hT▸q)
 cE (MF<|lO.mp e _ m) λu z y=>(b0 u (λmg mb hg _ hb=>vO X z hg hb) λh F k f=>ajc (λa o e=>⟨k _ _<|X a o e,f _ _<|X a o e⟩) y<|z▸AD.mp hh _ m)
end
end
section
set_option tactic.hygienic true
theorem agz{K:c7}(b:adN K a d=ag)(e:adO K a d=adP d):kA K a d where
 cd:=(pu<|aq<|aq<|aq b).elim λcd z=>(tc cd z.1 (aq z.2)<|aO z.2)
 ga:=congrArg (·.1.1) e
 gh:=congrArg (·.1.2.1) e
 sa:=congrArg (·.1.2.2) e
 wa:=λi h=>AD.mp (congrArg (·.2.1) e) i h
 plain:=λh=>by
  have e5:ae8 K a d=ae9 d:=congrArg (·.2.2.2.2) e;have b2:=aO<|aq<|aq b;unfold ae8 ae9 at e5;rw[h]at e5 b2;exact (acH (aq b2) (aO b2) (congrArg (·.1) e5)<|congrArg (·.2.1) e5)
 jm:=λh=>by
  have e5:ae8 K a d=ae9 d:=congrArg (·.2.2.2.2) e;have b2:=aO<|aq<|aq b;unfold ae8 ae9 at e5;rw[h]at e5 b2;exact (acH (congrArg (·.2.2.1) e5) (congrArg (·.1) e5) b2<|lM.mp<|congrArg (·.2.2.2) e5)
 call:=aO (aq b)
 aav:=⟨congrArg (·.2.2.2.1.1) e,congrArg (·.2.2.2.1.2) e⟩
 vg:=λi f h=>have z:=AD.mp (congrArg (·.2.2.1) e) (i,f) h
  (k8 (congrArg (·.1) z) (congrArg (·.2) z)<|mE<|lO.mp (aO b) (i,f) h)
theorem Qx(hT:G.T.cls=av o6)(b:o6.all (λe=>adN G.K e.1 e.2)=ag)(e:o6.map (λe=>adO G.K e.1 e.2)=o6.map (λe=>adP e.2)):iU G:=λa d q=>by
 rw[hT]at q;exact agz (lO.mp b _<|mQ q)<|AD.mp e _<|mQ q
abbrev Ud(G:GG)(F:aT)(fd:oJ):Prop:=F.tF≠[]->∃dv:List au,(∀h F',bR (PR G h F') F.tF dv)/\∀(s:aY)(lF:List au),G.K.In s.heap->lF.length+F.tF.length=F.params.length->As s fd ⟨lF,[]⟩ ((F.params.map nm).zip<|lF++dv)
theorem Tu{l:List Nat}:l.Nodup->(l.map nm).Nodup:=λh=>aeE nm (λ_ _ ne e=>ne<|u7 e) h
theorem ZR[DecidableEq α]{x:α}{y:β}:∀{l:List (α×β)},l.lookup x=aa y->(x,y)∈l:=@lr _ _
 (@λh=>cV h)
 (@pr _ _ _ (λa b l ih=>@λh=>by
  by_cases q:x=a
  ·subst q
   have:aa b=aa y:=by refine ah h.symm ?_;show aa b=(match x==x with|true=>aa b|false=>_);rw[beq_self_eq_true]
   obtain rfl:=fh this;exact eB _
  ·have:l.lookup x=aa y:=by refine ah h.symm ?_;show _=(match x==a with|true=>_|false=>l.lookup x);refine ah (beq_eq_false_iff_ne.mpr q) ?_;rfl
   exact ey _<|ih this))
theorem acz(h:agR k=ag):k=b7:=eq_of_beq h
theorem adE(X:G.K.In G.h₀){F:aT}{Ck:List (bB×i6)->S->List dO->Prop}(b:afa G.K F fd=ag)(ck:Ck fd.scope.names F.body<|mL fd)(ea:fd.params.args.map (·.arg)=F.params.map nm)(hd:Ud G F fd):SW G Ck F fd (mL fd):=
 have b1:=aq<|aq<|aq b
 have b2:=aO<|aq<|aq b
 have b3:=aO<|aq b
 have b4:=aO b
 {bd:=by
   have:=aq<|aq<|aq<|aq<|aq b1;unfold mL;cases q:fd.body with
   |stmts s=>rfl
   |expr s=>rw[q]at this;exact dC this
  ck:=ck
  al9:=AE.mp (aO<|aq<|aq<|aq<|aq b1)
  fy:=rN (aO<|aq<|aq<|aq b1)
  pQ:=rN (aO<|aq<|aq b1)
  kind:=acz (aq<|aq<|aq b2)
  aec:=mE (aO<|aq<|aq b2)
  ajV:=mE (aO<|aq b2)
  code:=codeRec_of X (aO<|aq b1)
  free:=λx h=>fF (lO.mp (aO b2) _<|ZR h)
  pos:=AE.mp (aq<|aq<|aq b3)
  args:=ea
  va:=J6.mp (aO<|aq<|aq b3)
  ajW:=AE.mp (aO<|aq b3)
  ajX:=J6.mp (aO b3)
  nd:=Tu (of_decide_eq_true<|aq b4)
  ajY:=λi h=>by
   have:=lO.mp (aO b4) i h;exact (HE this).imp eq_of_beq eq_of_beq
  Dl:=λs K=>by
   have:=aO b1;refine (HE this).elim (λq=>⟨aj,λM A E Q h=>(ah (eq_of_beq q)<|wpAny_pure h)⟩) λq=>?_
   ·refine cE (pu<|aO q) λo ho z=>ue (m6.mp z) λp hp=>⟨aa p.1,λM A E Q h=>?_⟩
    exact ah (eq_of_beq<|aq q)<|wpAny_seqItems (K _ _ ho) (Qu hp) h
  ama:=hd}
theorem acA{d:uI}(z:(match d with| .func fd=>aa fd|_=>aj)=aa fd):d=.func fd:=by induction d using uU<;>first|exact cV z|exact congrArg Data.func (fh z)
theorem Jv{K:c7}(h:pE K a=aa fd):∃o,K.lookup a=aa o/\o.data=.func fd:=cE (qb.mp h) λo ho z=>(b0 o ho<|acA z)
theorem agA(X:G.K.In G.h₀)(hT:G.T.fn=av nM)(b:nM.all (λe=>(pE G.K e.1).any λfd=>afa G.K e.2 fd&&oB fd.scope.names e.2.body (mL fd))=ag)(e:nM.map (aju G.K)=nM.map (ajv G.K))(hd:∀a F fd,av nM a=aa F->pE G.K a=aa fd->Ud G F fd):T8 G aj4/\aad G:=by
 have A:∀a F,G.T.fn a=aa F->∃o fd,G.K.lookup a=aa o/\o.data=.func fd/\SW G aj4 F fd (mL fd):=λa F q=>by
  replace q:=hT▸q;have m:=mQ q;refine cE (pu<|lO.mp b _ m) λfd z b=>?_;have e:=AD.mp e _ m;unfold aju ajv at e;dsimp only at e z;rw[z]at e;exact cE (Jv z) λo ho d=>(gZ o fd ho d<|adE X (aq b) ⟨aO b,congrArg (·.1) e⟩ (congrArg (·.2) e)<|hd a F fd q z)
 exact ⟨λa F q=>eZ (A a F q) λo fd z=>(Po o fd _ z),λa F q=>eZ (A a F q) λo fd z=>by
  refine ah z.1 ?_;exact (congrArg (λd:uI=>dk d.ctorIdx 7) z.2.1)⟩
theorem acB{v:au}(hg:xh G.K (ai C) "__getattribute__"=aa (aa<|bv "type.__getattribute__"))(hr:readsIn G.K C (aJ "type")=ag)(e:findCls G.K (ai C) (aJ "type") "__init__"=aa (.val v))(hh:qB v=ag):wD G (ai C) v:=⟨λs A Q E pl X q=>
 method_cls X hg (cls_value X hr e hh<|q _)⟩
theorem ZS(hD:MZ G.K D=ag):wD G (aJ "Exception") (bv "Exception.__init__"):=⟨λs A Q E pl X q=>
 mY (Js X hD).out λo es n z=>by
  apply @method_type (K:=[]) (h₀:=default) (L:=D);case h=>exact q _
  ·exact ⟨⟨o,es,n,z.1,z.2.1,z.2.2.1,λ_=>rfl⟩,λb o e=>(cV e),bH _⟩
  ·exact λa o e=>cV e
  ·kernel_rfl
  ·exact dc rt
  ·kernel_rfl
  ·decide+kernel⟩
end
section
set_option tactic.hygienic true
theorem acC{p:Kv}(h:agS d=aa p):d=.cls p:=by induction d using uU<;>first|exact cV h|exact fh h▸rfl
theorem agB{K:c7}(b:agT K C=ag)(e:(jG K C<|ai C,jG K C<|aJ "Exception",jG K C<|aJ "AttributeError",jG K C<|aJ "NameError",xh K (ai C) "__call__",AR K (ai C)<|aJ "type")=(aa ag,aa ag,aa ak,aa ak,aa<|aa<|bv "type.__call__",aa ag))(NC:∀S,oR K S (LJ<|ai C)=aa (aa "Exception.__new__"))(gQ:∀S,oR K S (LI<|ai C)=aa (ai C))(ahH:∀S rest,oR K S (wI "Exception.__new__" ⟨ai C::rest,[]⟩)=aa ()):sU K C where
 obj:=cE (pu b) λo q z=>cE (pu z) λcd p z=>⟨o.cls,o.dict,cd,o.slots,q.trans<|congrArg aa<|XU ⟨rfl,rfl,rfl⟩<|acC p,mE<|aq z,mE<|aO z⟩
 self:=congrArg (·.1) e
 jm:=congrArg (·.2.1) e
 amc:=congrArg (·.2.2.1) e
 amd:=congrArg (·.2.2.2.1) e
 call:=congrArg (·.2.2.2.2.1) e
 aav:=congrArg (·.2.2.2.2.2) e
 NC:=NC
 gQ:=gQ
 ahH:=ahH
theorem Qy(X:G.K.In G.h₀)(b:(pE G.K a).any (λfd=>afa G.K F fd&&(fd.scope.names.all λe=>Ps e.2)&&agU (fd.scope.names.lookup gQ))=ag)(e:(pE G.K a).map (λfd=>(mL fd,fd.params.args.map (·.arg)))=aa (body,F.params.map nm))(hn:F.tF=[])(q:∃p1 p2 pa pb p5 p6 p7 p8 p9 agl,body=[.Expr (.Call (d3 (aK gQ p1) "__init__" p2) [aK (nm 9) pa,aK (nm 6) pb] [] p5) p6,fJ [d3 (aK (nm 9) p7) (nm wa) p8] (aK (nm wa) p9) agl]/\(p2.endLine==p5.line)=ag):F6 G a F gQ wa:=by
 refine cE (pu b) λfd z b=>?_;rw[z]at e;refine cE (Jv z) λo ho d=>⟨o,fd,mL fd,ho,d,adE X (aq<|aq b) trivial (congrArg (·.2)<|cP e) λw=>(w hn).elim,λx hx w=>?_,?_,(congrArg (·.1) (cP e):mL fd=body).symm▸q⟩
 ·have:=lO.mp (aO<|aq b) x hx
  rw[w]at this;exact dC this
 ·exact eq_of_beq<|aO b
end
theorem ZT:po NN:=⟨by decide+kernel,by decide+kernel,by decide+kernel,by decide+kernel,by decide+kernel,by decide+kernel⟩
section
variable{prog:oM}{w:kK}{K:c7}
theorem acD(C:EM w K)(X:(dM 50 K).In<|xm s.heap [50])(TC:iU<|gg prog w K 50 s):yb (gg prog w K 50 s) 82 38 35 79 qK:=
 have bn:∀{x:bB}{u},k9 (dM 50 K) x=aa u->iM (gg prog w K 50 s) x u:=λe mg mb hg _ hb=>vO X e hg hb
 have e:=C.j9
 have b:=C.j1
 {cls:=agB (aO<|aq<|aq<|aq<|aq b) C.j8 C.k1 C.k2 C.k3
  ok:=TC 82 _ rfl
  f6:=dc rt
  f7:=dc rt
  init:=congrArg (·.1) e
  amg:=congrArg (·.2.1) e
  adv:=bn (congrArg (·.2.2.1) e)
  adw:=bn (congrArg (·.2.2.2.1) e)
  T9:=bn (congrArg (·.2.2.2.2.1) e)
  ahI:=ZS (D:=3) (aO<|aq<|aq<|aq<|aq<|aq b)
  ahJ:=acB (congrArg (·.2.2.2.2.2.2.2.1) e) (aO<|aq<|aq<|aq b) (congrArg (·.2.2.2.2.2.2.2.2) e) rt
  z6:=aO (aq<|aq b)
  ahK:=Qy X (aO<|aq b) (congrArg (·.1) C.jb) rfl ⟨_,_,_,_,_,_,_,_,_,_,rfl,by decide⟩
  ahL:=Qy X (aO b) (congrArg (·.2) C.jb) rfl ⟨_,_,_,_,_,_,_,_,_,_,rfl,by decide⟩}
theorem ZU:nM.all (λe=>e.2.tF.isEmpty||Nat.beq e.1 851)=ag:=dc rt
theorem agC(C:EM w K)(a:Nat)(F:aT)(fd:oJ)(q:av nM a=aa F)(z:pE (dM 50 K) a=aa fd):Ud (gg prog w K 50 s) F fd:=λne=>by
 rcases Ee.mp (lO.mp ZU _<|mQ q)with h|h
 ·exact (ne<|AE.mp h).elim
 ·obtain rfl:a=851:=rN h
  obtain rfl:mT=F:=cP q;obtain rfl:TH (dM 50 K)=fd:=cP<|C.jl.symm.trans z;refine ⟨[.int 32 1519,.int 7 1520,.int 15 1521,.int 38 1522,.int 1000000 1523,.int 19 1524,.int 72 1525,.int 40 1526],λh F'=>⟨⟨_,rfl⟩,⟨_,rfl⟩,⟨_,rfl⟩,⟨_,rfl⟩,⟨_,rfl⟩,⟨_,rfl⟩,⟨_,rfl⟩,⟨_,rfl⟩,trivial⟩,λs lF X e=>?_⟩;obtain ⟨v,rfl⟩:=List.length_eq_one_iff.mp<|Nat.add_right_cancel e;exact λM A E Q hq=>(AW X<|C.jd M v).here hq
theorem BM(n:h.Ns a m)(ne:a≠D):(xm h [D]).Ns a m:=mY n λo es ep z=>⟨o,es,ep,(AX λq=>ne<|fq.mp q).trans z.1,z.2⟩
theorem ajd(C:EM w K)(KX:K.In s.heap){mm:bB->Option au}(ahT:s.heap.Ns jz mg)(hb:s.heap.Ns kX mb)(hl:s.heap.NoLimit)(hm:s.heap.Ns nG mm)(hx:∀x:bB,x≠"__name__"->mb x=uD x):NJ (gg prog w K 50 s) NN:=
 have X:=ZN KX
 have B:=⟨X,⟨mg,mb,BM ahT<|dc rt,BM hb<|dc rt,hx⟩,hl.elim λmc z=>⟨mc,BM z.1<|dc rt,z.2⟩,mY hm λo es ep z=>⟨o,(AX<|by decide).trans z.1⟩⟩
 have F:=agA (G:=gg prog w K 50 s) X rfl C.j6 C.j7 (agC C)
 ⟨B,(Qx rfl C.j4 C.j5),ZQ X C.j2 rfl C.j3,F.2,ZT,(λmg mb hg _ hb=>vO X (congrArg (·.2.2.2.2.2.1) C.j9) hg hb),⟨38,35,79,qK,acD C X<|Qx rfl C.j4 C.j5,⟨rfl,rt⟩⟩,ZM B,F.1⟩
theorem Tv{P:Params}:∀{xs}{vs},WellAll P h vs (ofPys<|xs.map .int)->bR (λi u=>∃t,u=AV i t) xs vs:=@lr _ _
 (@λvs W=>by cases W;trivial)
 (λx xs ih=>@λvs W=>by
  cases W with
  |cons a b=>exact ⟨by cases a;exact ⟨_,rfl⟩,ih b⟩)
theorem aje(H:ah4):agV:=λprog w K s mg mb mm fa l P xs E C KX ahT hb hl hm hx anz W hn=>by
 obtain rfl:1082=fa:=Ez<|cP<|(mg_of KX ahT<|congrArg (·.2.2.2.2.2.2.1) C.j9).symm.trans anz;cases W with
 |list ho W=>exact acx (ajd C KX ahT hb hl hm hx) (Js KX<|aq<|aq<|aq<|aq<|aq<|aq C.j1) ho (Tv W) (H xs hn) E
end
end
section
open P renaming int->af,str->ab,jH->aw,fn->aI,fl->aL,fd->cu,bool->ei
open O renaming free->ae,ls->aM,rd->cH,dc->du,iF->bJ
open X renaming name->bC,val->dN
open Fl renaming next->bE
open Or renaming inl->bW,inr->bM
open Except renaming error->bK
open List.Mem renaming tail->aS,head->bt
set_option genCtorIdx false
set_option genInjectivity false
set_option tactic.hygienic false
variable{σ aV:H}{d n i x k p c a N q j lv r y td iC:Nat}{b hd mU:Bool}{Q:V->H->Prop}{E:H->Prop}{α β A:Type}{o x5 x6 x7:O}{m rs m0:Env}{t key Dl ac fo aE w:Tx}{args:List V}{v ws at':V}{l Pt kd z:Int}{us:List (bV×Nat)}{tl t':List O}{u u':C5}{ks:List bV}{C:Cx}{es lV:List En}{kk:bV}{K K':GK}{cf:Bool->V->List V->M V}{cl:V->List V->M V}{g:Nat->O}{s:Tx×Tx×Int}{e:En}{un:Option Int}{W':Wd}{M' Me Ik:Mem}{ms:List Nat}{bf:Int->Nat}{rows:List pV}{sc:List Int}{L:Int->Prop}{S' Sx:List Tx}
section
variable{f b:Nat}
theorem akt{p:Nat->Prop}:∀i,i<0->p i:=λi h=>absurd h<|Ay i
theorem CC{p:Nat->Prop}(k:∀i,i<n->p i)(h:p n):∀i,i<n+1->p i:=λi l=>(Nat.lt_or_eq_of_le<|Nat.le_of_lt_succ l).elim (k i) λe=>e▸h
theorem Il{p:Nat->Prop}(h0:p 0)(h1:p 1)(h2:p 2)(h3:p 3)(h4:p 4)(h5:p 5)(h6:p 6)(h7:p 7):∀i,i<8->p i:=CC (CC (CC (CC (CC (CC (CC (CC akt h0) h1) h2) h3) h4) h5) h6) h7
theorem alB{p:List α->Prop}(h:p []):∀l,l.length=0->p l:=λl e=>(K4 e)▸h
theorem Hq{p:List α->Prop}(k:∀a l,l.length=n->p (a::l)):∀l,l.length=n+1->p l:=λl=>match l with|[]=>λh=>Nat.noConfusion h|a::l=>λh=>k a l<|pA h
theorem jk{T:Ig}{fs:List (Nat×V)}(h:aW σ n=aa (bJ c fs))(k:field T ak c i (.aQ (av fs i) .ok) σ Q E):getAttr T (.dy n) i σ Q E:=⟨c,fs,h,k⟩
theorem ax{o:Option α}{a:α}{f:α->M β}{Q:β->H->Prop}(h:o=aa a)(k:f a σ Q E):M.aQ o f σ Q E:=h▸k
theorem WV{x:P}:Cp σ (.p x)=aa x:=by induction x using P.casesOn<;>rfl
theorem M5{x y:P}{Q:Bool->H->Prop}(hx:cK 8 x=ag)(hy:cK 8 y=ag)(k:Q (cL x y) σ):agG (.p x) (.p y) σ Q E:=ax WV<|ax WV ⟨⟨hx,hy⟩,k⟩
theorem pN{b:Bool}{Q:Bool->H->Prop}(h1:b=ag->Q ag σ)(h2:b=ak->Q ak σ):fU (bl b) σ Q E:=by
 induction b using fe with
 |true=>exact ⟨bH _,h1 rfl⟩
 |false=>exact ⟨bH _,h2 rfl⟩
theorem ly{x y:P}{Q:Bool->H->Prop}(hx:cK 8 x=ag)(hy:cK 8 y=ag)(k1:cL x y=ag->Q ag σ)(k2:cL x y=ak->Q ak σ):hV .eq (.p x) (.p y) σ (hM fU Q E) E:=M5 hx hy<|pN k1 k2
theorem H0{x y:P}{Q:Bool->H->Prop}(hx:cK 8 x=ag)(hy:cK 8 y=ag)(k1:cL x y=ag->Q ak σ)(k2:cL x y=ak->Q ag σ):hV .ne (.p x) (.p y) σ (hM fU Q E) E:=M5 hx hy (pN (λh=>k2 (by cases q:cL x y with|false=>rfl|true=>rw[q]at h;exact dC h)) λh=>k1 (by cases q:cL x y with|true=>rfl|false=>rw[q]at h;exact rT h))
theorem cT{x y:P}{Q:Bool->H->Prop}(h:cL x y=ak)(hx:cK 8 x=ag)(hy:cK 8 y=ag)(k:Q ak σ):hV .eq (.p x) (.p y) σ (hM fU Q E) E:=ly hx hy (λq=>dC<|h.symm.trans q) λ_=>k
theorem lz{x y:P}{Q:Bool->H->Prop}(h:cL x y=ag)(hx:cK 8 x=ag)(hy:cK 8 y=ag)(k:Q ag σ):hV .eq (.p x) (.p y) σ (hM fU Q E) E:=ly hx hy (λ_=>k) λq=>rT<|h.symm.trans q
theorem QW{x y:P}{Q:Bool->H->Prop}(h:cL x y=ak)(hx:cK 8 x=ag)(hy:cK 8 y=ag)(k:Q ag σ):hV .ne (.p x) (.p y) σ (hM fU Q E) E:=H0 hx hy (λq=>dC<|h.symm.trans q) λ_=>k
theorem ZX{x y:P}{Q:Bool->H->Prop}(h:cL x y=ag)(hx:cK 8 x=ag)(hy:cK 8 y=ag)(k:Q ak σ):hV .ne (.p x) (.p y) σ (hM fU Q E) E:=H0 hx hy (λ_=>k) λq=>rT<|h.symm.trans q
theorem sK{a b:Tx}(h:cL (ab a) (ab b)=ag):a=b:=eq_of_beq h
theorem Bg{a b:Tx}(h:cL (ab a) (ab b)=ak):a≠b:=ne_of_beq_false h
def Bh(E:H->Prop)(σ:H)(c:Int):Prop:=∀t:Tx,E<|aG σ 9<| .jm 82 [(6,ab t),(7,af c)]
theorem fj(cl:V->List V->M V)(cf:Bool->V->List V->M V){B:SM}{Q:Fl->Env->H->Prop}{E:Env->H->Prop}{c:Int}(hg:TT.fy i=aa (af c))(h:aW σ 9=aa ae)(k:E m<|aG σ 9<| .jm 82 [(6,ab t),(7,af c)]):CZ (adJ (iR ⟨TT,NN,cl,ak,3⟩ cf<| .cons (.gL (.fy i)<|dN<|ab t) .nil) B) m Q E ag σ:=by
 have z:∀{o},o=aa (af c)->(M.aQ o λv=>M.ok<|V.p v) σ (λ(x:V)bP=>match x.pl,(V.p<|ab t).pl,(aW bP 9).map O.ig with|some x,aa y,aa ag=>E m (aG bP 9<| .jm 82 [(6,y),(7,x)])|_,_,_=>False) λbP=>E m bP:=λe=>by
  refine ah e ?_;show (match aa (P.int c),aa<|P.str t,(aW σ 9).map O.ig with|some x,aa y,aa ag=>E m (aG σ 9<| .jm 82 [(6,y),(7,x)])|_,_,_=>False);exact h▸k
 exact z hg
abbrev jo(cl:V->List V->M V)(d:Nat)(hd:Bool):Prop:=∀{v l}{σ:H}{Q:V->H->Prop}{E:H->Prop},ba TT NN d hd v l σ Q E->cl v l σ Q E
abbrev ez(cl:V->List V->M V)(cf:Bool->V->List V->M V):=iR ⟨TT,NN,cl,ak,3⟩ cf
theorem acO{F:aT}(hF:TT.fn a=aa F)(hm:ow [] F.params (oZ F args)=aa m)(k:∀cl cf,jo cl d hd->cf=ba TT NN d->iR ⟨TT,NN,cl,hd,3⟩ cf F.body m σ (l3 Q) (sH E)):ba TT NN (d+1) hd (.p<|aI a) args σ Q E:=
 ax rfl (ax hF<|ax hm<|k _ _ (λh=>h) rfl)
theorem aZ{F:aT}(hF:TT.fn a=aa F)(hm:ow [] F.params (oZ F args)=aa m)(k:∀{cl} {cf},jo cl d hd->iR ⟨TT,NN,cl,hd,3⟩ cf F.body m σ (l3 Q) (sH E)):ba TT NN (d+1) hd (.p<|aI a) args σ Q E:=acO hF hm λ_ _ h _=>k h
theorem ajw{c c':V->List V->M V}{l:List V}(h:c=c')(k:c' v l σ Q E):c v l σ Q E:=h▸k
theorem qL{b:Bool}{x:M β}{Q:β->H->Prop}(h:b=ag)(k:x σ Q E):M.lS b x σ Q E:=h▸k
structure m9 where
 nm:Tx
 ac:Tx
 fo:Tx
 le:Int
structure C5 where
 Pt:Int
 bl:Tx
 pl:Int
noncomputable def ja (a:m9):O:=bJ 390 [(62,.p<|ab a.nm),(88,.p<|ab a.ac),(89,.p<|ab a.fo),(90,.p<|af a.le),(91,.p<|aL []),(92,.p<|cu [] [])]
noncomputable def gM (u:C5) (f:Nat):O:=bJ 432 [(94,.p<|af u.Pt),(95,.dy f),(96,.p<|ab u.bl),(33,.p<|af u.pl)]
structure Wd where
 fs:List (bV×Nat)
 us:List (bV×Nat)
 tl:List O
noncomputable def sh (b:Nat) (es:List<|bV×Nat):List (bV×Nat):=es.map λe=>(e.1,b+e.2)
noncomputable def agW (b:Nat):V->V| .dy n=>.dy (b+n)|v=>v
def L4(b:Nat):O->O|bJ c fs=>bJ c (fs.map λe=>(e.1,agW b e.2))|o=>o
noncomputable def sL (x:Nat):O:=bJ 976 [(214,.p<|aL []),(42,.p<|af 0),(215,.p<|aL []),(113,.ob<|x+1),(107,.ob<|x+3),(216,.p<|cu [] [])]
structure qM(x:Nat)(aV:H):Prop where
 w:aW aV x=aa (sL x)
 s:aW aV (x+1)=aa (bJ 411 [(93,.ob<|x+2)])
 l:x+3<aV.length
 f8:aW aV 8=aa ae
 f9:aW aV 9=aa ae
 x9:9<x
def HW(x:Nat)(aV:H)(W:Wd):H:=aG (aG aV (x+2)<|cH<|sh aV.length W.fs) (x+3) (cH<|sh aV.length W.us)++W.tl.map (L4 aV.length)
theorem ej:∀(σ:H)(n:Nat)(o:O),(aG σ n o).length=σ.length
 |[],_,_=>rfl
 |_::_,0,_=>rfl
 |_::σ,n+1,o=>congrArg (·+1)<|ej σ n o
theorem zL:∀{a b:H}{n:Nat},n<a.length->aW (a++b) n=aW a n
 |[],_,_,h=>absurd h<|Ay _
 |_::_,_,0,_=>rfl
 |_::a,_,n+1,h=>zL (a:=a) (n:=n)<|Av h
theorem aaB:∀(a:H){b:H}(n:Nat),aW (a++b) (a.length+n)=aW b n:=@lr _ _
 (@λ_ n=>congrArg _<|lN n)
 (λx a ih=>@λb n=>ah (KY _ _)<|ih n)
theorem wi:∀{a b:H}{n:Nat}{o:O},n<a.length->aG (a++b) n o=aG a n o++b
 |[],_,_,_,h=>absurd h<|Ay _
 |_::_,_,0,_,_=>rfl
 |x::a,_,n+1,_,h=>congrArg (x::·)<|wi (a:=a) (n:=n)<|Av h
theorem X1:∀(a:H){b:H}(n:Nat){o:O},aG (a++b) (a.length+n) o=a++aG b n o:=@lr _ _
 (@λ_ n o=>congrArg (aG _ · o)<|lN n)
 (λx a ih=>@λb n o=>ah (KY _ _)<|congrArg (x::·)<|ih n)
theorem ay:∀{a:H}{n k:Nat}{o:O},n≠k->aW (aG a n o) k=aW a k
 |[],_,_,_,_=>rfl
 |_::_,0,0,_,h=>absurd rfl h
 |_::_,0,_+1,_,_=>rfl
 |_::_,_+1,0,_,_=>rfl
 |_::a,n+1,k+1,_,h=>ay (a:=a) (n:=n) (k:=k) λe=>h<|congrArg (·+1) e
theorem iG:∀{a:H}{n:Nat}{o:O},n<a.length->aW (aG a n o) n=aa o
 |[],_,_,h=>absurd h<|Ay _
 |_::_,0,_,_=>rfl
 |_::a,n+1,_,h=>iG (a:=a) (n:=n)<|Av h
theorem dT:∀{a:H}{n:Nat}{o o':O},aG (aG a n o) n o'=aG a n o'
 |[],_,_,_=>rfl
 |_::_,0,_,_=>rfl
 |x::_,_+1,_,_=>congrArg (x::·) dT
theorem dA:∀{a:H}{n k:Nat}{o o':O},n≠k->aG (aG a n o) k o'=aG (aG a k o') n o
 |[],_,_,_,_,_=>rfl
 |_::_,0,0,_,_,h=>absurd rfl h
 |_::_,0,_+1,_,_,_=>rfl
 |_::_,_+1,0,_,_,_=>rfl
 |x::a,n+1,k+1,_,_,h=>congrArg (x::·)<|dA (a:=a) (n:=n) (k:=k) λe=>h<|congrArg (·+1) e
theorem Pu:∀{a:H}{n:Nat}{o:O}{g:O->O},(aG a n o).map g=aG (a.map g) n (g o)
 |[],_,_,_=>rfl
 |_::_,0,_,_=>rfl
 |x::_,_+1,_,_=>congrArg (_::·) Pu
theorem Pw:∀{a:H}{n:Nat}{g:O->O},aW (a.map g) n=(aW a n).map g
 |[],_,_=>rfl
 |_::_,0,_=>rfl
 |_::a,_+1,_=>Pw (a:=a)
variable{W:Wd}
theorem zN:(aG (aG aV (x+2)<|cH<|sh aV.length W.fs) (x+3)<|cH<|sh aV.length W.us).length=aV.length:=(ej _ _ _).trans<|ej _ _ _
theorem xx(h:k<aV.length):k<(aG (aG aV (x+2)<|cH<|sh aV.length W.fs) (x+3)<|cH<|sh aV.length W.us).length:=ah zN<|h
theorem u3(h:k<aV.length)(h2:x+2≠k)(h3:x+3≠k):aW (HW x aV W) k=aW aV k:=(zL<|xx h).trans<|(ay h3).trans<|ay h2
theorem mD(L:qM x aV):aW (HW x aV W) (x+2)=aa (cH<|sh aV.length W.fs):=(zL<|xx<|qf (pw _) L.l).trans<|(ay<|Ax _).trans<|iG<|qf (pw _) L.l
theorem fN(L:qM x aV):aW (HW x aV W) (x+3)=aa (cH<|sh aV.length W.us):=(zL<|xx L.l).trans<|iG<|(ej _ _ _).symm▸L.l
theorem xy:aW (HW x aV W) (aV.length+n)=(aW W.tl n).map (L4 aV.length):=by
 have:=aaB (aG (aG aV (x+2)<|cH<|sh aV.length W.fs) (x+3)<|cH<|sh aV.length W.us) (b:=W.tl.map<|L4 aV.length) n;rw[zN]at this;exact this.trans Pw
theorem wj(L:qM x aV):aW (HW x aV W) x=aa (sL x):=(u3 (jB (gf x 3) L.l) (λh_=>eH 0<|nn [_] bz eC [(1,eA aB g9,aB)] rt<|bx h_) λh_=>eH 0<|nn [_] bz eC [(1,eA aB l5,aB)] rt<|bx h_).trans L.w
theorem uq(L:qM x aV):aW (HW x aV W) (x+1)=aa (bJ 411 [(93,.ob<|x+2)]):=(u3 (jB (vd (by decide:1<=3) x) L.l) (λh_=>eH 0<|nn [_] bz eC [(1,eA aB g9,eA aB bz)] rt<|bx h_) λh_=>eH 0<|nn [_] bz eC [(1,eA aB l5,eA aB bz)] rt<|bx h_).trans L.s
theorem eL(L:qM x aV):aW (HW x aV W) 9=aa ae:=(u3 (qf L.x9<|jB (gf x 3) L.l) (by have:=L.x9;exact λh_=>eH 0<|nn [_] bz eC [(1,eA pK bz,aB),(1,eA aB g9,pK)] rt this<|bx h_) (by have:=L.x9;exact λh_=>eH 0<|nn [_] bz eC [(1,eA pK bz,aB),(1,eA aB l5,pK)] rt this<|bx h_)).trans L.f9
theorem EN:(HW x aV W).length=aV.length+W.tl.length:=by delta HW;rw[cg,zN,cq]
theorem WW(L:qM x aV){fs:List (bV×Nat)}:aG (HW x aV W) (x+2) (cH<|sh aV.length fs)=HW x aV {W with fs:=fs}:=by
 rw[HW,wi<|xx<|qf (pw _) L.l,dA<|Ax _];refine ah dT ?_;rfl
theorem WX(L:qM x aV):aG (HW x aV W) (x+3) (cH<|sh aV.length us)=HW x aV {W with us:=us}:=by
 rw[HW,wi<|xx L.l];refine ah dT ?_;rfl
theorem WY:aG (HW x aV W) (aV.length+n) (L4 aV.length o)=HW x aV {W with tl:=aG W.tl n o}:=by
 have:=X1 (aG (aG aV (x+2)<|cH<|sh aV.length W.fs) (x+3)<|cH<|sh aV.length W.us) (b:=W.tl.map<|L4 aV.length) n (o:=L4 aV.length o);rw[zN,<-Pu]at this;exact this
theorem WZ:HW x aV W++[L4 aV.length o]=HW x aV {W with tl:=W.tl++[o]}:=by
 rw[HW,HW,de];refine ah uM ?_;rfl
structure acP(a:m9):Prop where
 nm:a.nm.length<=100
 ac:a.ac.length<=100
 fo:a.fo.length<=100
 le:a.le<10
structure UB(u:C5):Prop where
 bl:u.bl.length<=100
 p0:0<=u.pl
 p1:u.pl<=1
def QX(tl:List O)(n:Nat):Prop:=∃a,acP a/\aW tl n=aa (ja a)
def QY(tl:List O)(n:Nat):Prop:=∃u f,UB u/\aW tl n=aa (gM u f)/\QX tl f
def EO(tl:List O)(n:Nat):Option Tx:=(((((aW tl n).bind O.EE).bind λc=>av c.2 95).bind V.Pp).bind λf=>((aW tl f).bind O.EE).bind λc=>av c.2 62).bind V.lh
theorem gY{k:bV}{v:A}:∀{es},av es k=aa v->(k,v)∈es:=@lr _ _
 (@λh=>cV h)
 (@pr _ _ _ (λj w es ih=>@λh=>by
  by_cases q:j=k
  ·have h:(if j=k then aa w else av es k)=aa v:=h
   rw[if_pos q]at h;obtain rfl:=fh h;exact q▸bt _
  ·have h:(if j=k then aa w else av es k)=aa v:=h
   rw[if_neg q]at h;exact aS _<|ih h))
structure WF(N:Nat)(W:Wd):Prop where
 lf:W.fs.length<=N
 lu:W.us.length<=N
 fs:∀e∈W.fs,∃a,acP a/\aW W.tl e.2=aa (ja a)/\e.1=.s a.nm
 us:∀e∈W.us,(∃i,e.1=.i i)/\QY W.tl e.2
 i1:∀i n,av W.us i=aa n->∀t,EO W.tl n=aa t->t=[]\/(av W.fs<| .s t).isSome=ag
 i2:∀i n,av W.us i=aa n->∀i' n',av W.us i'=aa n'->∀t,EO W.tl n=aa t->EO W.tl n'=aa t->t=[]\/i=i'
theorem qN{a:m9}(hn:aW tl n=aa (gM u f))(hf:aW tl f=aa (ja a)):EO tl n=aa a.nm:=by
 have z:∀{o o'},o=aa (gM u f)->o'=aa (ja a)->((((o.bind O.EE).bind λc=>av c.2 95).bind V.Pp).bind λf'=>((if f'=f then o' else aW tl f').bind O.EE).bind λc=>av c.2 62).bind V.lh=aa a.nm:=λe e'=>by
  refine ah e<|ah e' ?_;show (((if f=f then aa (ja a)else aW tl f).bind O.EE).bind λc=>av c.2 62).bind V.lh=aa a.nm;refine ah (if_pos rfl) ?_;rfl
 have e:(λf'=>((if f'=f then aW tl f else aW tl f').bind O.EE).bind λc=>av c.2 62)=λf'=>((aW tl f').bind O.EE).bind λc=>av c.2 62:=funext λf'=>by
  by_cases q:f'=f
  ·refine ah (if_pos q)<|ah q ?_;rfl
  ·rw[if_neg q]
 have y:=z hn hf
 rw[e]at y
 exact y
def Hr(tl acQ:List O)(us:List<|bV×Nat):Prop:=∀i n,av us i=aa n->EO acQ n=EO tl n
theorem WF.H2(F:WF N W){acQ:List O}(hf:∀e∈W.fs,∀a,aW W.tl e.2=aa (ja a)->aW acQ e.2=aa (ja a))(hu:∀e∈W.us,QY acQ e.2)(s:Hr W.tl acQ W.us):WF N {W with tl:=acQ} where
 lf:=F.lf
 lu:=F.lu
 fs:=λe h=>(F.fs e h).elim λa z=>(tc a z.1 (hf e h a z.2.1) z.2.2)
 us:=λe h=>⟨(F.us e h).1,hu e h⟩
 i1:=λi n h t q=>F.i1 i n h t ((s i n h).symm.trans q)
 i2:=λi n h i' n' h' t q q'=>F.i2 i n h i' n' h' t ((s i n h).symm.trans q)<|(s i' n' h').symm.trans q'
end
section
variable{f b:Nat}{vs al:List P}
theorem Im{o:Option P}{a:P}:qI V.p (.p a) o=.p (o.getD a):=by induction o using fA<;>rfl
theorem xA{b:Bool}{p q:Prop}(h1:b=ag->p)(h2:b=ak->q):((!b)=ag->q)/\((!b)=ak->p):=match b,h1,h2 with|true,h1,_=>⟨(λh=>nomatch h),λ_=>h1 rfl⟩|false,_,h2=>⟨λ_=>h2 rfl,λh=>nomatch h⟩
theorem C6{y:P}{Q:Bool->H->Prop}(hy:cK 8 y=ag)(hx:dS 8 al=ag)(k1:cO y al=ag->Q ak σ)(k2:cO y al=ak->Q ag σ):hV .vP (.p y) (.p<|aw al) σ (hM fU Q E) E:=⟨⟨hy,hx⟩,pN (xA k1 k2).1 (xA k1 k2).2⟩
theorem X2(hv:v=.p (ab t))(hl:t.length<=1000)(k:Q (.p<|ab<|d9 t) σ):M.aQ (iI TT NN v 4 σ) (λk=>.bind (EH C m<| .cons (dN<|ab [32]) .nil) λvs=>match k with| .cY a=>C.call (.p<|aI a) (v::vs)| .bi k j=>uW k j v vs) σ Q E:=hv▸⟨⟨rfl,bo hl<|dc rt⟩,k⟩
def wt(o:Option Tx)(Dl:Tx):Tx:=d9<|o.getD Dl
theorem dK{o:Option Tx}(h:av (ks.zip vs) (.s key)=o.map ab)(hl:(o.getD Dl).length<=1000)(ha:dS 8 al=ag)(f9:aW σ 9=aa ae)(k1:cO (ab<|wt o Dl) al=ag->Q (.p<|ab<|wt o Dl) σ)(k2:cO (ab<|wt o Dl) al=ak->Bh E σ 12):ba TT NN (d+1) ak (.p<|aI 443) [.p<|cu ks vs,.p<|ab key,.p<|ab Dl,.p<|aw al] σ Q E:=
 aZ rfl rfl @λcl cf _=>X2 (Im.trans<|congrArg V.p<|by refine ah h ?_;induction o using fA<;>rfl) hl<|C6 rt ha k1 λq=>fj cl cf rfl f9<|k2 q _
theorem vm{Q:Bool->H->Prop}(k1:(av (ks.zip vs)<| .s key).isSome=ag->Q ak σ)(k2:(av (ks.zip vs)<| .s key).isSome=ak->Q ag σ):hV .vP (.p<|ab key) (.p<|cu ks vs) σ (hM fU Q E) E:=pN (xA k1 k2).1 (xA k1 k2).2
theorem nq{Q:Bool->H->Prop}(k1:(av (ks.zip vs)<| .s key).isSome=ag->Q ag σ)(k2:(av (ks.zip vs)<| .s key).isSome=ak->Q ak σ):hV .jh (.p<|ab key) (.p<|cu ks vs) σ (hM fU Q E) E:=pN k1 k2
variable{es:List (bV×Nat)}
theorem Gp{Q:Bool->H->Prop}(h:aW σ n=aa (cH es))(k:Q (av es kk).isSome σ):nX (.p kk.val) (.ob n) σ Q E:=by
 have z:∀{o},o=aa (cH es)->(match ng (V.yg<| .ob n) (ng aj<|o.bind O.uV)with
  |some xs=>M.aQ (V.pl<| .p kk.val) λx=>.eD (cK 8 x=ag/\dS 8 xs=ag)<| .ok<|cO x xs
  |none=>.aQ (V.lj<| .p kk.val) λk=>match ng aj (o.bind O.Ih)with
   |some es=>M.ok (av es k).isSome
   |none=>.aQ (o.bind O.yS) λes=>.ok (av es k).isSome) σ Q E:=λe=>by
  refine ah e ?_
  cases kk<;>exact k
 exact z h
theorem zt{Q:Bool->H->Prop}(h:aW σ n=aa (cH es))(k1:(av es kk).isSome=ag->Q ag σ)(k2:(av es kk).isSome=ak->Q ak σ):hV .jh (.p kk.val) (.ob n) σ (hM fU Q E) E:=Gp h<|pN k1 k2
theorem xB{Q:Bool->H->Prop}(h:aW σ n=aa (cH es))(k1:(av es kk).isSome=ag->Q ak σ)(k2:(av es kk).isSome=ak->Q ag σ):hV .vP (.p kk.val) (.ob n) σ (hM fU Q E) E:=Gp h<|pN (xA k1 k2).1 (xA k1 k2).2
theorem jJ(h:aW σ n=aa (cH es))(hk:av es kk=aa f)(k:Q (.dy f) σ):rU (.ob n) (.p kk.val) σ Q E:=by
 have z:∀{o},o=aa (cH es)->(match ng (V.yg<| .ob n) (ng aj<|o.bind O.uV)with
  |some xs=>M.aQ (V.eX<| .p kk.val) λi=>.aQ (pU xs.length i) λj=>.aQ (xs[j]?) λv=>.ok<|V.p v
  |none=>.aQ (V.lj<| .p kk.val) λk=>match ng aj (o.bind O.Ih)with
   |some es=>.aQ (av es k) λv=>.ok<|V.p v
   |none=>.aQ (o.bind O.yS) λes=>.aQ (av es k) λn=>.ok<|V.dy n) σ Q E:=λe=>by
  refine ah e ?_
  cases kk<;>exact ax rfl (ax rfl<|ax hk k)
 exact z h
theorem mj{fi:Option Tx}(h:av (ks.zip vs) (.s dV)=fi.map ab)(hl:∀t,fi=aa t->t.length<=1000)(f9:aW σ 9=aa ae)(k0:fi=aj->Q (.p .none) σ)(k1:∀t,fi=aa t->d9 t≠[]->Q (.p<|ab<|d9 t) σ)(k2:∀t,fi=aa t->d9 t=[]->Bh E σ 20):ba TT NN (d+1) ak (.p<|aI 450) [.p<|cu ks vs] σ Q E:=by
 induction fi using fA with
 |none=>exact aZ rfl rfl λ_=>vm (λq=>by rw[h]at q;exact dC q) λ_=>k0 rfl
 |some t=>exact aZ rfl rfl @λcl cf _=>vm (λ_=>ax h<|WG ⟨rfl,bo (hl t rfl)<|dc rt⟩<|ly (x:=ab<|d9 t) (y:=ab []) rt rt (λq=>fj cl cf rfl f9<|k2 t rfl (sK q) _) λq=>k1 t rfl<|Bg q) λq=>by rw[h]at q;exact rT q
theorem Px{i:Int}(h:aW σ n=aa (cH es))(f9:aW σ 9=aa ae)(k1:∀f,av es (.i i)=aa f->Q (.dy f) σ)(k2:av es (.i i)=aj->Bh E σ 11):ba TT NN (d+1) ak (.p<|aI 506) [.ob n,.p<|af i] σ Q E:=
 aZ rfl rfl @λcl cf _=>xB h (λq=>(m6.mp q).elim λf q=>jJ h q<|k1 f q) λq=>fj cl cf rfl f9<|k2 (Ue.mp<|q▸fF) _
structure ajx(σ:H)(n f:Nat)(u:C5)(a:m9):Prop where
 u:aW σ n=aa (gM u f)
 f:aW σ f=aa (ja a)
variable{a:m9}
theorem k7(R:ajx σ n f u a)(f9:aW σ 9=aa ae)(k:a.ac=ac->Q (.p .none) σ)(e:a.ac≠ac->Bh E σ 16):ba TT NN (d+1) ak (.p<|aI 513) [.dy n,.p<|ab ac] σ Q E:=
 aZ rfl rfl @λcl cf _=>jk R.u<|jk R.f<|H0 (x:=ab a.ac) (y:=ab ac) rt rt (λh=>k<|sK h) λh=>fj cl cf rfl f9<|e (Bg h) _
end
def L6(f k:Nat)(args:Nat->Nat->List V)(W W':Wd)(r:Except Int V):Prop:=∀x aV,qM x aV->∀d Q E,(match r with| .ok v=>Q (agW aV.length v) (HW x aV W')|bK c=>Bh E (HW x aV W') c)->ba TT NN (d+k) ak (.p<|aI f) (args x aV.length) (HW x aV W) Q E
section
variable{f b:Nat}{W:Wd}{a:m9}
theorem l6(hn:aW W.tl n=aa (gM u f))(hf:aW W.tl f=aa (ja a)):ajx (HW x aV W) (aV.length+n) (aV.length+f) u a:=⟨xy.trans<|congrArg _ hn,xy.trans<|congrArg _ hf⟩
noncomputable def TJ (u:C5) (f:Nat):List (Nat×V):=[(94,.p<|af u.Pt),(95,.dy f),(96,.p<|ab u.bl),(33,.p<|af u.pl)]
theorem ZY{Q:Unit->H->Prop}(hn:aW W.tl n=aa (gM u f))(hc:(o5.fields.contains i&&!o5.d5&&agH v)=ag)(e:aN (TJ u<|aV.length+f) i v=TJ u' (aV.length+f))(k:Q ()<|HW x aV {W with tl:=aG W.tl n (gM u' f)}):setAttr TT (.dy<|aV.length+n) i v (HW x aV W) Q E:=
 ⟨432,TJ u<|aV.length+f,xy.trans<|congrArg _ hn,ax (a:=o5) rfl (qL hc ⟨(by decide:4<=500),by
  refine ah e ?_;show Q ()<|aG (HW x aV W) (aV.length+n)<|L4 aV.length<|gM u' f;exact ah WY<|k⟩)⟩
theorem fX:∀{a:H}{n:Nat}{o:O},aW a n=aa o->aG a n o=a
 |[],_,_,_=>rfl
 |_::_,0,_,h=>congrArg (·::_) (cP h).symm
 |x::a,n+1,_,h=>congrArg (x::·)<|fX (a:=a) (n:=n) h
theorem TK(hf:aW W.tl f=aa (ja a))(hn:aW W.tl n=aa (gM u k)):n≠f:=λe=>by
 rw[e,hf]at hn;exact absurd (congrArg (λo=>o.EE.map (·.1))<|cP hn) (by show ¬aa 390=aa 432;decide)
theorem cz:∀{a:H}{n:Nat}{o o':O},aW a n=aa o->aW (aG a n o') n=aa o'
 |[],_,_,_,h=>cV h
 |_::_,0,_,_,_=>rfl
 |_::a,n+1,_,_,h=>cz (a:=a) (n:=n) h
theorem EP(F:WF N W)(hn:aW W.tl n=aa (gM u f))(hf:QX W.tl f)(h:UB u'):WF N {W with tl:=aG W.tl n (gM u' f)}:=
 have U:∀m,QY W.tl m->∃v g a,UB v/\aW (aG W.tl n<|gM u' f) m=aa (gM v g)/\acP a/\aW (aG W.tl n<|gM u' f) g=aa (ja a)/\EO W.tl m=aa a.nm:=λm z=>by
  refine eh λcy bk=>?_;obtain ⟨v,g,z1,z2,a,z3,z4⟩:=z;refine bk ?_;by_cases q:n=m
  ·exact cE hf λa' y1 y2=>(ajk u' f a' h (q▸cz hn) y1 ((ay<|TK y2 hn).trans y2)<|qN (q▸hn) y2)
  ·exact (ajk v g a z1 ((ay q).trans z2) z3 ((ay<|TK z4 hn).trans z4)<|qN z2 z4)
 F.H2 (λe he a z=>(ay<|TK z hn).trans z) (λe he=>mY (U _ (F.us e he).2) λv g a z=>⟨v,g,z.1,z.2.1,a,z.2.2.1,z.2.2.2.1⟩) λi m he=>mY (U _ (F.us _<|gY he).2) λv g a z=>(qN z.2.1 z.2.2.2.1).trans z.2.2.2.2.symm
theorem QZ(F:WF N W)(hn:aW W.tl n=aa (gM u f))(hu:UB u)(hf:QX W.tl f):∃W' r,WF N W'/\L6 541 2 (λ_ b=>[.dy<|b+n]) W W' r/\∀v,r=.ok v->v=.p .none:=hf.elim λa z=>by
 by_cases q:a.ac=ch
 ·exact (gZ _ (.ok<| .p .none) (EP F hn hf (u':={u with pl:=0}) ⟨hu.bl,AO 0,(by decide:(0:Int)<=1)⟩) (λx aV L d Q E k=>aZ rfl rfl λhc=>hc<|k7 (l6 hn z.2) (eL L) (λ_=>ZY hn rt rfl k) λh=>(h q).elim) λv h=>(rP h).symm)
 ·exact (gZ W (bK 16) F (λx aV L d Q E k=>aZ rfl rfl λhc=>hc<|k7 (l6 hn z.2) (eL L) (λh=>(q h).elim) λ_=>k) λv h=>by contradiction)
theorem pO{p q:Int}{Q:Bool->H->Prop}(k1:q<p->Q ag σ)(k2:¬q<p->Q ak σ):hV .gt (.p<|af p) (.p<|af q) σ (hM fU Q E) E:=pN (λh=>k1<|of_decide_eq_true h) λh=>k2<|of_decide_eq_false h
theorem mn{p q:Int}{Q:Bool->H->Prop}(k1:p<q->Q ag σ)(k2:¬p<q->Q ak σ):hV .lt (.p<|af p) (.p<|af q) σ (hM fU Q E) E:=pN (λh=>k1<|of_decide_eq_true h) λh=>k2<|of_decide_eq_false h
theorem Hs(F:WF N W)(hn:aW W.tl n=aa (gM u f))(hu:UB u)(hf:QX W.tl f):∃W' r,WF N W'/\L6 534 2 (λ_ b=>[.dy<|b+n]) W W' r/\∀v,r=.ok v->v=.p .none:=hf.elim λa z=>by
 by_cases q:a.ac=ch
 ·by_cases h0:0<u.pl
  ·exact (gZ _ (.ok<| .p .none) (EP F hn hf (u':={u with pl:=u.pl - 1}) ⟨hu.bl,Int.le_sub_one_of_lt h0,i7 (Int.sub_le_self _<|dc rt) hu.p1⟩) (λx aV L d Q E k=>aZ rfl rfl λhc=>hc<|k7 (l6 hn z.2) (eL L) (λ_=>jk (l6 hn z.2).u<|pO (λ_=>jk (l6 hn z.2).u<|ZY hn rt rfl k) λh=>(h h0).elim) λh=>(h q).elim) λv h=>(rP h).symm)
  ·exact (gZ W (.ok<| .p .none) F (λx aV L d Q E k=>aZ rfl rfl λhc=>hc<|k7 (l6 hn z.2) (eL L) (λ_=>jk (l6 hn z.2).u<|pO (λh=>(h0 h).elim) λ_=>k) λh=>(h q).elim) λv h=>(rP h).symm)
 ·exact (gZ W (bK 16) F (λx aV L d Q E k=>aZ rfl rfl λhc=>hc<|k7 (l6 hn z.2) (eL L) (λh=>(q h).elim) λ_=>k) λv h=>by contradiction)
theorem aku{Q:Unit->H->Prop}(hf:aW W.tl f=aa (ja a))(k:Q ()<|HW x aV W):setAttr TT (.dy<|aV.length+f) 91 (.p<|aL []) (HW x aV W) Q E:=
 ⟨390,[(62,.p<|ab a.nm),(88,.p<|ab a.ac),(89,.p<|ab a.fo),(90,.p<|af a.le),(91,.p<|aL []),(92,.p<|cu [] [])],xy.trans<|congrArg _ hf,ax (a:=lU) rfl (qL rt ⟨(by decide:6<=500),by
  show Q ()<|aG (HW x aV W) (aV.length+f)<|L4 aV.length<|ja a;exact ah WY<|ah (fX hf)<|k⟩)⟩
theorem Bv(hn:aW W.tl n=aa (gM u f))(hf:aW W.tl f=aa (ja a))(L:qM x aV)(k:a.ac=ch->u.pl=0->Q (.p .none) (HW x aV W))(p0:0<=u.pl)(k1:a.ac≠ch->Bh E (HW x aV W) 16)(k2:a.ac=ch->0<u.pl->Bh E (HW x aV W) 17):ba TT NN (d+2) ak (.p<|aI 520) [.dy<|aV.length+n] (HW x aV W) Q E:=
 have R:=l6 (x:=x) hn hf
 aZ rfl rfl @λcl cf hc=>hc (k7 R (eL L) (λh=>jk R.u<|jk R.u<|jk R.f<|hc ⟨bH _,pO (λh'=>fj cl cf rfl (eL L)<|k2 h h' _) λh'=>jk R.u<|jk R.f<|jk R.u ⟨⟨by decide,p0⟩,bH _,jk R.u<|(ko (kq.mp h') p0).symm▸aku hf (k h<|ko (kq.mp h') p0)⟩⟩) k1)
theorem N3(F:WF N W)(hn:aW W.tl n=aa (gM u f))(hu:UB u)(hf:QX W.tl f):∃W' r,WF N W'/\L6 527 3 (λ_ b=>[.dy<|b+n]) W W' r/\∀v,r=.ok v->v=.p .none:=hf.elim λa z=>by
 by_cases q:a.ac=ch
 ·by_cases h0:0<u.pl
  ·exact (gZ W (bK 17) F (λx aV L d Q E k=>aZ rfl rfl λhc=>hc<|Bv hn z.2 L (λ_ h=>absurd h0<|by refine ah h ?_;decide) hu.p0 (λh=>(h q).elim) λ_ _=>k) λv h=>by contradiction)
  ·have e:=ko (kq.mp h0) hu.p0
   exact (gZ _ (.ok<| .p .none) (EP F hn hf (u':={u with pl:=u.pl+1}) ⟨hu.bl,(by show 0<=u.pl+1;refine ah e ?_;decide),(by show u.pl+1<=1;refine ah e ?_;decide)⟩) (λx aV L d Q E k=>aZ rfl rfl λhc=>hc<|Bv hn z.2 L (λ_ _=>jk (l6 hn z.2).u<|ZY hn rt rfl k) hu.p0 (λh=>(h q).elim) λ_ h=>(h0 h).elim) λv h=>(rP h).symm)
 ·exact (gZ W (bK 16) F (λx aV L d Q E k=>aZ rfl rfl λhc=>hc<|Bv hn z.2 L (λh=>(q h).elim) hu.p0 (λ_=>k) λh=>(q h).elim) λv h=>by contradiction)
end
section
variable{f b:Nat}{W:Wd}{a:m9}
theorem Io:∀{σ:H}{o:O},aW (σ++[o]) σ.length=aa o:=@lr _ _
 (@λ_=>rfl)
 (λadQ σ ih=>@λ_=>ih)
theorem X3:∀{σ:H}{o o':O},aG (σ++[o]) σ.length o'=σ++[o']:=@lr _ _
 (@λ_ _=>rfl)
 (λx σ ih=>@λ_ _=>congrArg (x::·)<|ih)
theorem o7{K:cN}{fs:List (Nat×V)}{Q:Unit->H->Prop}(hK:TT.cls c=aa K)(hc:(K.fields.contains i&&!K.d5&&agH v)=ag)(hl:gb fs.length 500=ag)(k:Q ()<|σ++[bJ c<|aN fs i v]):setAttr TT (.dy σ.length) i v (σ++[bJ c fs]) Q E:=
 ⟨c,fs,Io,ax hK (qL hc ⟨jA hl,by
  show Q ()<|aG (σ++[bJ c fs]) σ.length<|bJ c<|aN fs i v;exact ah X3<|k⟩)⟩
theorem Py{K:cN}{F:aT}(hK:TT.cls c=aa K)(he:(!K.d5)=ag)(ha:K.al=[])(l:10<=σ.length)(hF:TT.fn K.init=aa F)(hm:ow [] F.params (oZ F<| .dy σ.length::args)=aa m)(k:∀cl cf,iR ⟨TT,NN,cl,hd,3⟩ cf F.body m (σ++[bJ c []]) (l3<|hM (λr=>M.lS (j0 r)<|M.ok<|V.dy σ.length) Q E)<|sH E):ba TT NN (d+2) hd (.p<| .cls c) args σ Q E:=
 ax rfl (ax hK (qL he (by
  exact ha▸⟨l,aZ hF hm @λcl cf _=>k cl cf⟩)))
theorem X4{nm:Tx}{le:Int}(l:10<=σ.length)(k:Q (.dy σ.length)<|σ++[ja ⟨nm,ac,fo,le⟩]):ba TT NN (d+2) hd (.p<| .cls 390) [.p<|ab nm,.p<|ab ac,.p<|ab fo,.p<|af le] σ Q E:=
 Py (F:=yU) rfl rt rfl l rfl rfl λcl cf=>o7 rfl rt rt<|o7 rfl rt rt<|o7 rfl rt rt<|o7 rfl rt rt<|o7 rfl rt rt<|o7 rfl rt rt k
theorem X5{bl:Tx}(l:10<=σ.length)(k:Q (.dy σ.length)<|σ++[gM ⟨Pt,bl,0⟩ f]):ba TT NN (d+2) hd (.p<| .cls 432) [.p<|af Pt,.dy f,.p<|ab bl] σ Q E:=
 Py (F:=yV) rfl rt rfl l rfl rfl λcl cf=>o7 rfl rt rt<|o7 rfl rt rt<|o7 rfl rt rt<|o7 rfl rt rt k
theorem oj{le:Int}(h:aW σ n=aa (ja a))(f9:aW σ 9=aa ae)(k1:cL (aw [ab a.ac,ab a.fo,af a.le]) (aw [ab ac,ab fo,af le])=ag->Q (.p .none) σ)(k2:cL (aw [ab a.ac,ab a.fo,af a.le]) (aw [ab ac,ab fo,af le])=ak->Bh E σ 16):ba TT NN (d+1) ak (.p<|aI 464) [.dy n,.p<|aw [ab ac,ab fo,af le]] σ Q E:=
 aZ rfl rfl @λcl cf _=>jk h<|jk h<|jk h<|H0 (x:=aw [ab a.ac,ab a.fo,af a.le]) (y:=aw [ab ac,ab fo,af le]) rt rt k1 λq=>fj cl cf rfl f9<|k2 q _
theorem L7{T:Ig}{fs:List (Nat×V)}(h:aW σ n=aa (bJ c fs))(k:field T ak c i (.aQ (av fs i) .ok) σ Q E):getAttr T (.ob n) i σ Q E:=(λe=>e▸k:∀{o:Option O},o=aa (bJ c fs)->M.aQ o (λob=>match ob with|bJ c fs=>field T ak c i (.aQ (av fs i) .ok)| .jm c fs=>field T ag c i (.aQ (av fs i) λx=>.ok<|V.p x)|_=>.no) σ Q E) h
variable{es:List (bV×Nat)}
theorem Pz{Q:Unit->H->Prop}(h:aW σ n=aa (cH es))(hl:es.length<=bZ)(k:Q ()<|aG σ n<|cH<|aN es kk f):iA (.ob n) (.p kk.val) (.dy f) σ Q E:=ax (a:=n) rfl (ax h<|ax (a:=kk) (by cases kk<;>rfl) ⟨hl,k⟩)
theorem Gq:∀{es}{kk:bV},av (sh b es) kk=(av es kk).map (b+·):=@lr _ _
 (@λ_=>rfl)
 (@pr _ _ _ (λk n es ih=>@λkk=>by
  show (if k=kk then aa (b+n)else av (sh b es) kk)=Ac (b+·) (if k=kk then aa n else av es kk);by_cases q:k=kk
  ·exact ah (if_pos q)<|ah (if_pos q) rfl
  ·exact ah (if_neg q)<|ah (if_neg q)<|ih))
theorem PA:∀{es}{kk:bV},aN (sh b es) kk (b+n)=sh b (aN es kk n):=@lr _ _
 (@λ_=>rfl)
 (@pr _ _ _ (λk m es ih=>@λkk=>by
  show (if k=kk then (kk,b+n)::sh b es else (k,b+m)::aN (sh b es) kk (b+n))=sh b (if k=kk then (kk,n)::es else (k,m)::aN es kk n);by_cases q:k=kk
  ·refine ah (if_pos q)<|ah (if_pos q) ?_;rfl
  ·refine ah (if_neg q)<|ah (if_neg q)<|ah ih ?_;rfl))
theorem PB:∀{es}{kk:bV},cW (sh b es) kk=sh b (cW es kk):=@lr _ _
 (@λ_=>rfl)
 (@pr _ _ _ (λk m es ih=>@λkk=>by
  show (if k=kk then cW (sh b es) kk else (k,b+m)::cW (sh b es) kk)=sh b (if k=kk then cW es kk else (k,m)::cW es kk);by_cases q:k=kk
  ·exact ah (if_pos q)<|ah (if_pos q)<|ih
  ·exact ah (if_neg q)<|ah (if_neg q)<|ah ih rfl))
theorem Gr{k:bV}{v:A}:∀{es}{e:bV×A},e∈aN es k v->e=(k,v)\/e∈es:=@lr _ _
 (@λe h=>bW<|fq.mp h)
 (@pr _ _ _ (λj w es ih=>@λe h=>by
  have h:e∈(if j=k then (k,v)::es else (j,w)::aN es k v):=h;by_cases q:j=k
  ·rw[if_pos q]at h;exact (dU.mp h).imp id<|aS _
  ·rw[if_neg q]at h;exact (dU.mp h).elim (λh=>bM<|h▸bt _) λh=>(ih h).imp id<|aS _))
theorem o8{k:bV}{v:A}:∀{es},(aN es k v).length<=es.length+1:=@lr _ _
 (gj 1)
 (@pr _ _ _ (λj w es ih=>by
  show (if j=k then (k,v)::es else (j,w)::aN es k v).length<=_;by_cases q:j=k
  ·rw[if_pos q];exact kZ _
  ·rw[if_neg q];exact kY ih))
theorem qk{k:bV}:∀{es:List (bV×A)},Vq (cW es k) es:=@lr _ _
 (.slnil)
 (@pr _ _ _ (λj w es ih=>by
  show Vq (if j=k then cW es k else (j,w)::cW es k) _;by_cases q:j=k
  ·rw[if_pos q];exact .cons _ ih
  ·rw[if_neg q];exact .cons_cons _ ih))
theorem mM:∀{a b:H}{n:Nat}{o:O},aW a n=aa o->aW (a++b) n=aa o
 |[],_,_,_,h=>cV h
 |_::_,_,0,_,h=>h
 |_::a,_,n+1,_,h=>mM (a:=a) (n:=n) h
theorem X6{m:Nat}(h:QX tl m):QX (tl++t') m:=h.elim λa z=>⟨a,z.1,mM z.2⟩
theorem X7{m:Nat}(h:QY tl m):QY (tl++t') m:=eZ h λu f z=>⟨u,f,z.1,mM z.2.1,X6 z.2.2⟩
theorem yk(h:∀e∈us,QY tl e.2):Hr tl (tl++t') us:=λi n he=>eZ (h _<|gY he) λu f z=>z.2.2.elim λa y=>(qN (mM z.2.1)<|mM y.2).trans (qN z.2.1 y.2).symm
theorem vV(F:WF N W):WF N {W with tl:=W.tl++t'}:=F.H2 (λe _ a z=>mM z) (λe h=>X7 (F.us e h).2)<|yk λe h=>(F.us e h).2
theorem gp{k j:bV}{v:A}(h:j≠k):∀{es},av (aN es k v) j=av es j:=@lr _ _
 (if_neg h.symm)
 (@pr _ _ _ (λi w es ih=>by
  show av (if i=k then (k,v)::es else (i,w)::aN es k v) j=if i=j then aa w else av es j
  by_cases q:i=k
  ·exact ah (if_pos q)<|ah (if_neg<|q▸h.symm)<|if_neg h.symm
  ·rw[if_neg q]
   show (if i=j then aa w else av (aN es k v) j)=_;refine ah ih ?_;rfl))
theorem yY{k j:bV}(h:j≠k):∀{es:List (bV×A)},av (cW es k) j=av es j:=@lr _ _
 (rfl)
 (@pr _ _ _ (λi w es ih=>by
  show av (if i=k then cW es k else (i,w)::cW es k) j=if i=j then aa w else av es j
  by_cases q:i=k
  ·refine ah (if_pos q)<|ah (if_neg<|q▸h.symm)<|ah ih ?_;rfl
  ·rw[if_neg q]
   show (if i=j then aa w else av (cW es k) j)=_;refine ah ih ?_;rfl))
theorem jq{k:bV}{v:A}:∀{es},av (aN es k v) k=aa v:=@lr _ _
 (if_pos rfl)
 (@pr _ _ _ (λj w es ih=>by
  show av (if j=k then (k,v)::es else (j,w)::aN es k v) k=aa v;by_cases q:j=k
  ·exact ah (if_pos q)<|if_pos rfl
  ·exact ah (if_neg q)<|(if_neg q).trans ih))
theorem X8{k:bV}:∀{es:List (bV×A)},av (cW es k) k=aj:=@lr _ _
 (rn)
 (@pr _ _ _ (λi w es ih=>by
  show av (if i=k then cW es k else (i,w)::cW es k) k=aj;by_cases q:i=k
  ·exact ah (if_pos q)<|ih
  ·exact ah (if_neg q)<|(if_neg q).trans ih))
theorem ah5(F:WF N W)(hf:aW W.tl n=aa (ja a))(ha:acP a):WF (N+1) {W with fs:=aN W.fs (.s a.nm) n} where
 lf:=bo o8 (kY F.lf)
 lu:=uJ F.lu
 fs:=λe q=>(Gr q).elim (λq=>q▸(tc a ha hf rfl)) (F.fs e)
 us:=F.us
 i1:=λi m h t q=>(F.i1 i m h t q).imp id λz=>by
  by_cases w:bV.s t=.s a.nm
  ·refine ah w<|ah jq ?_;rfl
  ·exact ah (gp w)<|z
 i2:=F.i2
theorem rB{i k:bV}{m:Nat}(h:av (aN us k n) i=aa m):(i=k/\n=m)\/av us i=aa m:=by
 by_cases q:i=k
 ·rw[q,jq]at h;exact bW ⟨q,cP h⟩
 ·rw[gp q]at h;exact bM h
theorem kP{es:List (bV×A)}{i k:bV}{v:A}(h:av (cW es k) i=aa v):i≠k/\av es i=aa v:=by
 by_cases q:i=k
 ·rw[q,X8]at h;exact cV h
 ·rw[yY q]at h;exact ⟨q,h⟩
theorem ah6(F:WF N W){j:Int}(h:QY W.tl n)(ht:EO W.tl n=aa t)(h1:t=[]\/(av W.fs<| .s t).isSome=ag)(h2:t=[]\/∀i m,av W.us i=aa m->EO W.tl m≠aa t):WF (N+1) {W with us:=aN W.us (.i j) n} where
 lf:=uJ F.lf
 lu:=bo o8 (kY F.lu)
 fs:=F.fs
 us:=λe q=>(Gr q).elim (λq=>q▸⟨⟨j,rfl⟩,h⟩) (F.us e)
 i1:=λi m q t' w=>(rB q).elim (λq=>by rw[<-q.2]at w;exact cP (ht.symm.trans w)▸h1) λq=>F.i1 i m q t' w
 i2:=λi m q i' m' q' t' w w'=>(rB q).elim (λz=>(rB q').elim (λz'=>bM<|z.1.trans z'.1.symm) λz'=>by
  rw[<-z.2]at w;have e:=cP<|ht.symm.trans w;exact e▸h2.elim bW λy=>(y i' m' z'<|e▸w').elim) λz=>(rB q').elim (λz'=>by
  rw[<-z'.2]at w';have e':=cP<|ht.symm.trans w';exact e'▸h2.elim bW λy=>(y i m z<|e'▸w).elim) λz'=>F.i2 i m z i' m' z' t' w w'
theorem W3(F:WF N W):WF N {W with us:=cW W.us kk}:=⟨F.lf,bo qk.length_le F.lu,F.fs,λe q=>F.us e<|qk.subset q,λi n q=>F.i1 i n (kP q).2,λi n q i' n' q'=>F.i2 i n (kP q).2 i' n' (kP q').2⟩
theorem afb(F:WF N W){i:bV}(h:av W.us i=aa n)(ht:EO W.tl n=aa t)(h0:t≠[]):WF N {W with fs:=cW W.fs<| .s t,us:=cW W.us i} where
 lf:=bo qk.length_le F.lf
 lu:=bo qk.length_le F.lu
 fs:=λe q=>F.fs e (qk.subset q)
 us:=λe q=>F.us e (qk.subset q)
 i1:=λi' n' q t' w=>(F.i1 i' n' (kP q).2 t' w).imp id λz=>by
  by_cases y:bV.s t'=.s t
  ·have e:t'=t:=bV.s.inj y
   exact ((F.i2 i' n' (kP q).2 i n h t' w<|e▸ht).elim (λz=>(h0<|e.symm.trans z).elim) λz=>((kP q).1 z).elim)
  ·exact (yY y).symm▸z
 i2:=λi n q i' n' q'=>F.i2 i n (kP q).2 i' n' (kP q').2
theorem WF.bL(F:WF N W):WF (N+1) W:=⟨uJ F.lf,uJ F.lu,F.fs,F.us,F.i1,F.i2⟩
end
section
variable{f b:Nat}{W:Wd}{a:m9}{nm st:Tx}{le:Int}
theorem acR(L:qM x aV):10<=(HW x aV W).length:=by
 refine ah EN ?_;have:=L.x9;have:=L.l;exact gS HX (eA bb cv) [(1,eA pK bz,aB),(1,eA (eA aB l5) bz,bb)] rt (by assumption) this
theorem W4(F:WF N W)(h:N<=60):(sh b W.fs).length<=bZ:=by delta sh;rw[cq];exact bo F.lf<|bo h<|dc rt
theorem afc(F:WF N W)(h:N<=60):(sh b W.us).length<=bZ:=by delta sh;rw[cq];exact bo F.lu<|bo h<|dc rt
theorem dn{es:List (bV×Nat)}(h:av es kk=aa n):av (sh b es) kk=aa (b+n):=Gq.trans<|congrArg _ h
theorem n9{es:List (bV×Nat)}(h:av es kk=aj):av (sh b es) kk=aj:=Gq.trans<|congrArg _ h
theorem md{o:Option α}{P:Prop}(h:o=aj)(q:o.isSome=ag):P:=by rw[h]at q;exact dC q
theorem ir{o:Option α}{a:α}{P:Prop}(h:o=aa a)(q:o.isSome=ak):P:=by rw[h]at q;exact rT q
theorem vW:aW (tl++[o]) tl.length=aa o:=Io
theorem tf{b:Bool}{P:Prop}(h:b=ag)(q:b=ak):P:=by rw[h]at q;exact rT q
theorem PC(L:qM x aV)(k:Q (.dy<|aV.length+W.tl.length)<|HW x aV {W with tl:=W.tl++[ja ⟨nm,ac,fo,le⟩]}):ba TT NN (d+2) ak (.p<| .cls 390) [.p<|ab nm,.p<|ab ac,.p<|ab fo,.p<|af le] (HW x aV W) Q E:=
 X4 (acR L) (by
  exact ah (WZ (o:=ja ⟨nm,ac,fo,le⟩))<|ah EN<|k)
theorem aaC{bl:Tx}(L:qM x aV)(k:Q (.dy<|aV.length+W.tl.length)<|HW x aV {W with tl:=W.tl++[gM ⟨Pt,bl,0⟩ f]}):ba TT NN (d+2) ak (.p<| .cls 432) [.p<|af Pt,.dy<|aV.length+f,.p<|ab bl] (HW x aV W) Q E:=
 X5 (acR L) (by
  exact ah (WZ (o:=gM ⟨Pt,bl,0⟩ f))<|ah EN<|k)
theorem afd{Q:Unit->H->Prop}(L:qM x aV)(F:WF N W)(hN:N<=60)(k:Q ()<|HW x aV {W with fs:=aN W.fs (.s t) n}):iA (.ob<|x+2) (.p<|ab t) (.dy<|aV.length+n) (HW x aV W) Q E:=
 Pz (kk:=.s t) (mD L) (W4 F hN) (ah PA<|ah (WW L)<|k)
theorem afe{Q:Unit->H->Prop}(L:qM x aV)(F:WF N W)(hN:N<=60){j:Int}(k:Q ()<|HW x aV {W with us:=aN W.us (.i j) n}):iA (.ob<|x+3) (.p<|af j) (.dy<|aV.length+n) (HW x aV W) Q E:=
 Pz (kk:=.i j) (fN L) (afc F hN) (ah PA<|ah (WX L)<|k)
theorem N4(F:WF N W)(hN:N<=60)(h1:nm.length<=100)(h2:ac.length<=100)(h3:fo.length<=100)(h4:le<10):∃W' r,WF (N+1) W'/\L6 478 4 (λx _=>[.ob<|x+1,.p<|ab nm,.p<|ab st,.p<|aw [ab ac,ab fo,af le]]) W W' r/\(W'.us=W.us/\Hr W.tl W'.tl W.us)/\∀v,r=.ok v->∃n a,v=.dy n/\acP a/\aW W'.tl n=aa (ja a)/\((a.nm=[]/\cL (ab st) (ab fK)=ag)\/(a.nm=nm/\(av W'.fs<| .s a.nm).isSome=ag/\cL (ab st) (ab fK)=ak)):=by
 have S0:Hr W.tl W.tl W.us:=λ_ _ _=>rfl;have S1:∀t',Hr W.tl (W.tl++t') W.us:=λt'=>yk λe h=>(F.us e h).2;cases c1:cL (ab st) (ab fK)with
 |true=>exact (Dk ({W with tl:=W.tl++[ja ⟨[],ac,fo,le⟩]}) (.ok<| .dy W.tl.length) (vV F).bL (λx aV L d Q E k=>aZ rfl rfl λhc=>lz c1 rt rt<|hc<|PC L k) ⟨rfl,S1 _⟩ λv h=>(Dk _ _ (rP h).symm ⟨bH _,h2,h3,h4⟩ vW<|bW ⟨rfl,rfl⟩))
 |false=>
  refine od (av W.fs<| .s nm) (λn c2=>?_) λc2=>?_
  ·
   refine eh λcy bk=>vC (F.fs _<|gY c2) λa ha hf hk=>bk<|bc (cL (ab st)<|ab EJ) (λc3=>(Dk W (bK 14) F.bL (λx aV L d Q E k=>aZ rfl rfl @λcl cf hc=>cT c1 rt rt<|L7 (uq L)<|zt (kk:=.s nm) (mD L) (λ_=>lz c3 rt rt<|fj cl cf rfl (eL L)<|k _)<|ir<|dn c2) ⟨rfl,S0⟩ λv h=>by contradiction)) λc3=>?_
   ·
    refine bc (cL (aw [ab a.ac,ab a.fo,af a.le])<|aw [ab ac,ab fo,af le]) (λc4=>(Dk W (.ok<| .dy n) F.bL (λx aV L d Q E k=>aZ rfl rfl λhc=>cT c1 rt rt<|L7 (uq L)<|zt (kk:=.s nm) (mD L) (λ_=>cT c3 rt rt<|L7 (uq L)<|jJ (mD L) (dn c2)<|hc<|oj (xy.trans<|congrArg _ hf) (eL L) (λ_=>L7 (uq L)<|jJ (mD L) (dn c2) k)<|tf c4)<|ir<|dn c2) ⟨rfl,S0⟩ λv h=>(Dk _ a (rP h).symm ha hf<|bM<|k8 (bV.s.inj hk).symm (by refine ah ((bV.s.inj hk).symm)<|ah c2 ?_;rfl) rfl))) λc4=>?_
    ·exact (Dk W (bK 16) F.bL (λx aV L d Q E k=>aZ rfl rfl λhc=>cT c1 rt rt<|L7 (uq L)<|zt (kk:=.s nm) (mD L) (λ_=>cT c3 rt rt<|L7 (uq L)<|jJ (mD L) (dn c2)<|hc<|oj (xy.trans<|congrArg _ hf) (eL L) (λq=>tf q c4) λ_=>k)<|ir<|dn c2) ⟨rfl,S0⟩ λv h=>by contradiction)
  ·
   exact bc (cL (ab st)<|ab MT) (λc3=>(Dk W (bK 13) F.bL (λx aV L d Q E k=>aZ rfl rfl @λcl cf hc=>cT c1 rt rt<|L7 (uq L)<|zt (mD L) (md<|n9 c2) λ_=>lz c3 rt rt<|fj cl cf rfl (eL L)<|k _) ⟨rfl,S0⟩ λv h=>by contradiction)) λc3=>(Dk ({W with fs:=aN W.fs (.s nm) W.tl.length,tl:=W.tl++[ja ⟨nm,ac,fo,le⟩]}) (.ok<| .dy W.tl.length) (ah5 (vV F) (a:=⟨nm,ac,fo,le⟩) vW ⟨h1,h2,h3,h4⟩) (λx aV L d Q E k=>aZ rfl rfl λhc=>cT c1 rt rt<|L7 (uq L)<|zt (mD L) (md<|n9 c2) λ_=>cT c3 rt rt<|hc<|PC L<|L7 (uq L)<|afd L (vV F) hN<|L7 (uq L)<|jJ (kk:=.s nm) (mD L) (dn jq) k) ⟨rfl,S1 _⟩ λv h=>(Dk _ _ (rP h).symm ⟨h1,h2,h3,h4⟩ vW<|bM<|k8 rfl (by refine ah jq ?_;rfl) rfl))
end
structure Ow where
 st:Option Tx
 ac:Option Tx
 fo:Option Tx
 bl:Option Tx
 fi:Option Tx
 rl:Option Int
structure EQ(ks:List bV)(vs:List P)(c:Ow):Prop where
 st:av (ks.zip vs) (.s eW)=c.st.map ab
 ac:av (ks.zip vs) (.s fL)=c.ac.map ab
 fo:av (ks.zip vs) (.s k6)=c.fo.map ab
 bl:av (ks.zip vs) (.s gy)=c.bl.map ab
 fi:av (ks.zip vs) (.s dV)=c.fi.map ab
 rl:av (ks.zip vs) (.s fH)=c.rl.map af
def Iq(o:Option Tx):Prop:=∀t,o=aa t->t.length<=100
structure aff(c:Ow):Prop where
 st:Iq c.st
 ac:Iq c.ac
 fo:Iq c.fo
 bl:Iq c.bl
 fi:Iq c.fi
 rl:∀i,c.rl=aa i->i<10
theorem xC{a:Bool}(h:(a&&b)=ag):a=ag:=(tE.mp h).1
theorem W5{a:Bool}(h:(a&&b)=ag):b=ag:=(tE.mp h).2
section
variable{f b:Nat}{W:Wd}{a:m9}{nm st:Tx}{le:Int}{c:Ow}{vs:List P}{o:Option Tx}
theorem Iq.kM(h:Iq o)(hd:Dl.length<=100):(o.getD Dl).length<=1000:=by
 induction o using fA with
 |none=>exact bo hd<|dc rt
 |some t=>exact bo (h t rfl)<|dc rt
theorem yl:∀t:Tx,(d9 t).length<=t.length:=lr
 (gj 0)
 (λc r b5=>by
  have ih:=b5;show (match d9 r with|[]=>if c=32 then []else [c]|a::l=>c::a::l).length<=r.length+1;cases h:d9 r with
  |nil=>
   by_cases q:c=32
   ·exact (if_pos q)▸bH _
   ·exact ah (if_neg q)<|Nat.succ_le_succ<|bH _
  |cons a l=>rw[h]at ih;exact kY ih)
theorem Iq.wt(h:Iq o)(hd:Dl.length<=100):(wt o Dl).length<=100:=bo (yl _) (by
 induction o using fA with
 |none=>exact hd
 |some t=>exact h t rfl)
abbrev TL:=Except Int<|Tx×Tx×Int
abbrev TM(Q:V->H->Prop)(E:H->Prop)(σ:H)(r:TL):Prop:=match r with| .ok s=>Q (.p<|aw [ab s.1,ab s.2.1,af s.2.2]) σ|bK e=>Bh E σ e
theorem Q0{x y:P}(hx:cK 8 x=ag)(hy:cK 8 y=ag)(k:Q (bl<|cL x y) σ):hV .eq (.p x) (.p y) σ Q E:=M5 hx hy k
theorem lL{f:α->M β}{a:α}{v:β}{Q:β->H->Prop}(e:f a=M.ok v)(k:Q v σ):hM f Q E a σ:=by show f a σ Q E;exact e▸k
theorem cj{s r:S}{Q:Fl->Env->H->Prop}{E:Env->H->Prop}(k:iR C cf s m σ (HZ (iR C cf r) Q E) E):iR C cf (.cons s r) m σ Q E:=k
theorem Gs{Q:Fl->Env->H->Prop}{E:Env->H->Prop}{r:Option Int}(hm:av m j=aa (.p<|cu ks vs))(h:av (ks.zip vs) (.s key)=r.map af)(k:Q bE (aN m i<| .p<|af<|r.getD 0) σ):iR ⟨TT,NN,cl,hd,lv⟩ cf (.ug i<| .vg (bC j) 3<| .cons (dN<|ab key)<| .cons (dN<|af 0) .nil) m σ Q E:=ax hm ((λe=>by refine ah e ?_;induction r using fA<;>exact k:∀{o},o=r.map af->Q bE (aN m i (qI V.p (.p<|af 0) o).g7) σ) h)
theorem map_some{o:Option α}{g:α->β}{y:Option β}(h:y=o.map g):y.isSome=o.isSome:=by refine ah h ?_;induction o using fA<;>rfl
abbrev agX(b:Bool):Tx:=match b with|true=>fG|false=>d6
noncomputable def zu:S->S| .cons _ r=>r|_=>.nil
theorem Ir{a f:Tx}(h:EQ ks vs c)(f9:aW σ 9=aa ae)(k:TM Q E σ<|match c.bl.isSome&&cL (ab f) (ab d6)with|true=>bK 12|false=>.ok (a,f,l)):ez cl cf (zu<|zu<|zu<|zu t6.body) [(75,.p<|cu ks vs),(88,.p<|ab a),(89,.p<|ab f),(90,.p<|af l)] σ (l3 Q) (sH E):=
 nq (λq=>ly (x:=ab f) (y:=ab d6) rt rt (λz=>by rw[(map_some h.bl).symm.trans q,z]at k;exact lL rfl<|fj cl cf rfl f9<|k _) λz=>by rw[(map_some h.bl).symm.trans q,z]at k;exact k) λq=>by rw[(map_some h.bl).symm.trans q]at k;exact k
theorem Q1{a f:Tx}(ha:a.length<=100)(hf:f.length<=100)(hl:∀i,c.rl=aa i->i<10):∃r:TL,(∀s,r=.ok s->s.1.length<=100/\s.2.1.length<=100/\s.2.2<10)/\∀ks vs,EQ ks vs c->∀σ,aW σ 9=aa ae->∀cl cf Q E,TM Q E σ r->ez cl cf (zu<|zu t6.body) [(75,.p<|cu ks vs),(88,.p<|ab a),(89,.p<|ab f)] σ (l3 Q) (sH E):=by
 refine bd (cL (ei<|cL (ab a)<|ab fY)<|ei<|decide<|c.rl.getD 0>0) (λc4=>(b0 (bK 12) (λs h=>nomatch h) λks vs h σ f9 cl cf Q E k=>cj<|Gs rfl h.rl<|Q0 (x:=ab a) (y:=ab fY) rt rt<|QW c4 rt rt<|lL rfl<|fj cl cf rfl f9<|k _)) λc4=>?_
 ·
  exact bc (c.rl.isSome&&decide (c.rl.getD 0<1)) (λc5=>(b0 (bK 12) (λs h=>nomatch h) λks vs h σ f9 cl cf Q E k=>cj<|Gs rfl h.rl<|Q0 (x:=ab a) (y:=ab fY) rt rt<|ZX c4 rt rt<|nq (λq=>mn (λ_=>lL rfl<|lL rfl<|fj cl cf rfl f9<|k _) λz=>absurd (of_decide_eq_true<|W5 c5) z) λq=>tf (xC c5)<|(map_some h.rl).symm.trans q)) λc5=>(b0 (match c.bl.isSome&&cL (ab f) (ab d6)with|true=>bK 12|false=>.ok (a,f,c.rl.getD 0)) (λs h=>by
   split at h
   ·contradiction
   ·cases h;refine (k8 ha hf ?_)
    show c.rl.getD 0<10;cases q:c.rl with
    |none=>decide
    |some i=>exact hl i q) λks vs h σ f9 cl cf Q E k=>cj<|Gs rfl h.rl<|Q0 (x:=ab a) (y:=ab fY) rt rt<|ZX c4 rt rt<|nq (λq=>mn (λz=>by rw[(map_some h.rl).symm.trans q,decide_eq_true z]at c5;exact rT c5) λ_=>lL rfl<|lL rfl<|Ir h f9 k) λ_=>lL rfl<|lL rfl<|Ir h f9 k)
theorem Q2(ok:aff c):∃r:TL,(∀s,r=.ok s->s.1.length<=100/\s.2.1.length<=100/\s.2.2<10)/\∀ks vs,EQ ks vs c->∀σ,aW σ 9=aa ae->∀d Q E,TM Q E σ r->ba TT NN (d+2) ak (.p<|aI 457) [.p<|cu ks vs] σ Q E:=by
 refine bd (cO (ab<|wt c.ac ch) [ab ch,ab fY]) (λc1=>(b0 (bK 12) (λs h=>nomatch h) λks vs h σ f9 d Q E k=>aZ rfl rfl λhc=>hc<|dK h.ac (ok.ac.kM<|dc rt) rt f9 (λq=>tf q c1) λ_=>k)) λc1=>?_
 ·
  refine bd (cO (ab<|wt c.fo<|agX<|cL (ab<|wt c.ac ch)<|ab ch) [ab fG,ab d6]) (λc3=>((b0 (bK 12) (λs h=>nomatch h) (λks vs h σ f9 d Q E k=>aZ rfl rfl λhc=>hc (dK h.ac (ok.ac.kM<|dc rt) rt f9 (λ_=>ly (x:=ab<|wt c.ac ch) (y:=ab ch) rt rt
   (λe=>by rw[e]at c3;exact hc<|dK h.fo (ok.fo.kM<|dc rt) rt f9 (λq=>tf q c3) λ_=>k) λe=>by rw[e]at c3;exact hc<|dK h.fo (ok.fo.kM<|dc rt) rt f9 (λq=>tf q c3) λ_=>k)<|tf c1))))) λc3=>?_
  ·
   obtain ⟨r,hr,T⟩:=Q1 (a:=wt c.ac ch) (f:=wt c.fo<|agX<|cL (ab<|wt c.ac ch)<|ab ch) (c:=c) (ok.ac.wt<|dc rt) (ok.fo.wt<|by cases cL (ab<|wt c.ac ch) (ab ch)<;>decide) ok.rl;exact (b0 r hr (λks vs h σ f9 d Q E k=>aZ rfl rfl @λcl cf hc=>hc (dK h.ac (ok.ac.kM<|dc rt) rt f9 (λ_=>ly (x:=ab<|wt c.ac ch) (y:=ab ch) rt rt
    (λe=>by rw[e]at c3 T;exact hc<|dK h.fo (ok.fo.kM<|dc rt) rt f9 (λ_=>T ks vs h σ f9 cl cf Q E k) λq=>tf c3 q) λe=>by rw[e]at c3 T;exact hc<|dK h.fo (ok.fo.kM<|dc rt) rt f9 (λ_=>T ks vs h σ f9 cl cf Q E k) λq=>tf c3 q)<|tf c1)))
end
section
variable{f b:Nat}{W:Wd}{a:m9}{nm st:Tx}{le:Int}{c:Ow}{vs:List P}{o:Option Tx}
theorem aaD{le:α->α->Bool}{x y:α}:∀{l:List α},y∈wh le x l->y=x\/y∈l:=@lr _ _
 (@λh=>bW<|fq.mp h)
 (λz l ih=>@λh=>by
  have h:y∈(match le x z with|true=>x::z::l|false=>z::wh le x l):=h;refine bc (le x z) (λq=>?_) λq=>?_
  ·rw[q]at h;exact (dU.mp h)
  ·rw[q]at h;exact (dU.mp h).elim (λh=>bM<|h▸bt _) λh=>(ih h).imp id<|aS _)
theorem X9{le:α->α->Bool}{y:α}:∀{l:List α},y∈nY le l->y∈l:=@lr _ _
 (@λh=>h)
 (λz l ih=>@λh=>(aaD h).elim (λh=>h▸bt _) λh=>aS _<|ih h)
theorem aaE{le:α->α->Bool}{x y:α}:∀{l:List α},y=x\/y∈l->y∈wh le x l:=@lr _ _
 (@λh=>fq.mpr<|h.elim id λh=>nomatch h)
 (λz l ih=>@λh=>by
  show y∈(match le x z with|true=>x::z::l|false=>z::wh le x l);cases q:le x z with
  |true=>exact dU.mpr h
  |false=>exact dU.mpr<|h.elim (λh=>bM<|ih<|bW h) λh=>(dU.mp h).imp id λh=>ih<|bM h)
theorem It{le:α->α->Bool}{y:α}:∀{l:List α},y∈l->y∈nY le l
 |z::l,h=>aaE<|(dU.mp h).imp id It
theorem Iu:∀{es:List (bV×Nat)},(∀e∈es,∃i,e.1=.i i)->∃l,vj (es.map (·.1))=aa l/\(∀j∈l,∃n,av es (.i j)=aa n)/\∀j n,(.i j,n)∈es->j∈l:=@lr _ _
 (@λ_=>(tc [] rfl (λj h=>nomatch h) λj n h=>nomatch h))
 (@pr _ _ _ (λkk n es ih=>@λh=>by
  obtain ⟨i,rfl⟩:=h _<|bt _;refine cE (ih λe he=>h e<|aS _ he) λl e z=>(tc (i::l) (by show (vj<|es.map (·.1)).map (i::·)=_;refine ah e ?_;rfl) (λj hj=>?_) λj n h=>(dU.mp h).elim (λh=>bV.i.inj (sE h).1▸bt _) λh=>aS _<|z.2 j n h)
  show ∃m,(if bV.i i=.i j then aa n else av es (.i j))=aa m;by_cases q:bV.i i=.i j
  ·exact ⟨n,if_pos q⟩
  ·exact (if_neg q)▸(dU.mp hj).elim (λw=>(q<|w▸rfl).elim) (z.1 j)))
theorem PD:(sh b W.us).map (·.1)=W.us.map (·.1):=by delta sh;rw[nL];rfl
theorem X':(sh b W.fs).map (·.1)=W.fs.map (·.1):=by delta sh;rw[nL];rfl
theorem ym{es:List (bV×Nat)}{l:List P}(h:aW σ n=aa (cH es))(hl:es.length<64)(hs:rV (es.map (·.1))=aa l)(k:Q (.p<|aL l) σ):ba TT NN (d+1) ak (.p<| .bi 1) [.ob n] σ Q E:=by
 have z:∀{o},o=aa (cH es)->M.aQ (o.bind O.yS) (λes=>.eD (es.length<64)<| .aQ (rV<|es.map (·.1)) λl=>.ok<|V.p<|aL l) σ Q E:=λe=>e▸⟨hl,ax hs k⟩;exact z h
theorem bQ{v:A}:∀{es},av (aN es k v) k=aa v:=@lr _ _
 (if_pos rfl)
 (@pr _ _ _ (λj w es ih=>by
  show av (if j=k then (k,v)::es else (j,w)::aN es k v) k=aa v;by_cases q:j=k
  ·exact ah (if_pos q)<|if_pos rfl
  ·exact ah (if_neg q)<|(if_neg q).trans ih))
theorem xD(F:WF N W):∃l:List Int,rV (W.us.map (·.1))=aa (l.map af)/\(∀j∈l,∃n,av W.us (.i j)=aa n)/\∀j n,av W.us (.i j)=aa n->j∈l:=cE (Iu λe he=>(F.us e he).1) λl e z=>(tc (nY ae3 l) (by delta rV;rw[e];rfl) (λj h=>z.1 j<|X9 h) λj n h=>It<|z.2 j n<|gY h)
abbrev acS(C:Cx)(cf:Bool->V->List V->M V)(i:Nat)(body:S):P->SM:=λx=>λm σ Q E=>AZ ak [i] (.p x) m σ (λ_ m' bP=>iR C cf body m' bP Q E) λ_ _=>False
theorem Q3(F:WF N W):∀l:List Int,(∀j∈l,∃n,av W.us (.i j)=aa n)->∃r,((∀n,r=aa n->QY W.tl n)/\(r=aj->∀j∈l,∀n,av W.us (.i j)=aa n->EO W.tl n≠aa nm))/\∀x aV,qM x aV->∀cl cf(rs:Env)(Q:Fl->Env->H->Prop)E,(∀m,match r with|some n=>Q (.ret<| .dy<|aV.length+n) m (HW x aV W)|none=>Q bE m<|HW x aV W)->jf (acS ⟨TT,NN,cl,ak,3⟩ cf 94 rq) (l.map af) ((107,.ob<|x+3)::(62,.p<|ab nm)::rs) (HW x aV W) Q E:=lr
 (@λ_=>(b0 aj ⟨(λn h=>nomatch h),λ_ j h=>nomatch h⟩ λx aV L cl cf rs Q E k=>k _))
 (λj l ih=>@λh=>by
  refine eh λcy bk=>?_;obtain ⟨n,hn⟩:=h j<|bt _;obtain ⟨u,f,hu,hU,a,ha,hA⟩:=(F.us _<|gY hn).2;exact cE (ih λj hj=>h j<|aS _ hj) λr hr T=>bk<|bc (cL (ab a.nm)<|ab nm) (λc1=>(b0 (aa n) ⟨(λm e=>cP e▸⟨u,f,hu,hU,a,ha,hA⟩),λe=>nomatch e⟩ λx aV L cl cf rs Q E k=>ax bQ<|jJ (fN L) (dn hn)<|jk (l6 hU hA).u<|jk (l6 hU hA).f<|lz c1 rt rt<|ax bQ<|jJ (fN L) (dn hn)<|k _)) λc1=>(b0 r ⟨hr.1,λe j' amI m hm=>(dU.mp amI).elim (λq y=>Bg c1<|by rw[q,hn]at hm;rw[<-cP hm,qN hU hA]at y;exact cP y) λq=>hr.2 e j' q m hm⟩ λx aV L cl cf rs Q E k=>ax bQ<|jJ (fN L) (dn hn)<|jk (l6 hU hA).u<|jk (l6 hU hA).f<|cT c1 rt rt<|T x aV L cl cf _ Q E k))
theorem xF(F:WF N W)(hN:N<=60):∃r:Option Nat,((∀n,r=aa n->QY W.tl n)/\(r=aj->∀i n,av W.us i=aa n->EO W.tl n≠aa nm))/\∀x aV,qM x aV->∀d Q E,(match r with|some n=>Q (.dy<|aV.length+n) (HW x aV W)|none=>Q (.p .none)<|HW x aV W)->ba TT NN (d+2) ak (.p<|aI 471) [.ob<|x+3,.p<|ab nm] (HW x aV W) Q E:=eh λcy bk=>cE (xD F) λl hs hl=>cE (Q3 F l hl.1) λr hr T=>bk<|(b0 r ⟨hr.1,λe i n h=>(F.us _<|gY h).1.elim λj q=>by
 subst q;exact hr.2 e j (hl.2 j n h) n h⟩ λx aV L d Q E k=>aZ rfl rfl @λcl cf hc=>hc<|ym (fN L) (by delta sh;rw[cq];exact jB F.lu<|jB hN<|dc rt) (PD▸hs)<|T x aV L cl cf [] _ _ λm=>by induction r using fA<;>exact k)
theorem N5(F:WF N W)(ok:aff c)(hn:aW W.tl n=aa (gM u f))(hu:UB u)(hf:QX W.tl f):∃W' r,WF N W'/\(∀v,r=.ok v->v=.dy n)/\∀ks vs,EQ ks vs c->L6 485 2 (λx b=>[.dy<|b+n,.p<|cu ks vs,.p<|ab t,.p<|aw [ab s.1,ab s.2.1,af s.2.2]]) W W' r:=hf.elim λa z=>by
 refine bc (cL (ab t)<|ab EJ) (λc1=>(gZ W (bK 15) F (λv h=>nomatch h) λks vs h x aV L d Q E k=>aZ rfl rfl @λcl cf hc=>lz c1 rt rt<|lL rfl<|fj cl cf rfl (eL L)<|k _)) λc1=>?_
 ·
  refine bc (cL (ab t)<|ab fK) (λc2=>(gZ W (bK 15) F (λv h=>nomatch h) λks vs h x aV L d Q E k=>aZ rfl rfl @λcl cf hc=>cT c1 rt rt<|lz c2 rt rt<|lL rfl<|fj cl cf rfl (eL L)<|k _)) λc2=>?_
  ·
   refine bd (cL (aw [ab a.ac,ab a.fo,af a.le])<|aw [ab s.1,ab s.2.1,af s.2.2]) (λc3=>(gZ W (bK 16) F (λv h=>nomatch h) λks vs h x aV L d Q E k=>aZ rfl rfl λhc=>cT c1 rt rt<|cT c2 rt rt<|jk (l6 hn z.2).u<|hc<|oj (l6 hn z.2).f (eL L) (λq=>tf q c3) λ_=>k)) λc3=>?_
   ·
    exact bd (cO (ab<|wt c.bl u.bl) [ab vk,ab G']) (λc4=>(gZ W (bK 12) F (λv h=>nomatch h) λks vs h x aV L d Q E k=>aZ rfl rfl λhc=>cT c1 rt rt<|cT c2 rt rt<|jk (l6 hn z.2).u<|hc<|oj (l6 hn z.2).f (eL L) (λ_=>jk (l6 hn z.2).u<|hc<|dK h.bl (ok.bl.kM hu.bl) rt (eL L) (λq=>tf q c4) λ_=>k)<|tf c3)) λc4=>(gZ _ (.ok<| .dy n) (EP F hn hf (u':={u with bl:=wt c.bl u.bl}) ⟨ok.bl.wt hu.bl,hu.p0,hu.p1⟩) (λv h=>(rP h).symm) λks vs h x aV L d Q E k=>aZ rfl rfl λhc=>cT c1 rt rt<|cT c2 rt rt<|jk (l6 hn z.2).u<|hc<|oj (l6 hn z.2).f (eL L) (λ_=>jk (l6 hn z.2).u<|hc<|dK h.bl (ok.bl.kM hu.bl) rt (eL L) (λ_=>ZY hn rt rfl k)<|tf c4)<|tf c3)
end
noncomputable def eR:Nat->S->S|0,s=>s|n+1,s=>eR n<|zu s
section
variable{f b:Nat}{W:Wd}{a:m9}{st bl:Tx}{le j:Int}{c:Ow}{vs:List P}{o:Option Tx}
def adR(body:S)(k:Nat)(env:Nat->Nat->Env)(W W':Wd)(r:Except Int V):Prop:=∀x aV,qM x aV->∀d cl cf,jo cl (d+k) ak->∀(Q:V->H->Prop)(E:H->Prop),(match r with| .ok v=>Q (agW aV.length v) (HW x aV W')|bK c=>Bh E (HW x aV W') c)->ez cl cf body (env x aV.length) (HW x aV W) (l3 Q) (sH E)
noncomputable abbrev ajy (s:Tx×Tx×Int):V:=.p<|aw [ab s.1,ab s.2.1,af s.2.2]
theorem Bw(F:WF N W)(hN:N<=58)(hs:s.1.length<=100/\s.2.1.length<=100/\s.2.2<10)(ht:t.length<=100)(hb:bl.length<=100):∃W' r,WF (N+2) W'/\∀(w:V)(ws:Nat->V),adR (eR 9 pM.body) 4 (λx b=>[(113,.ob<|x+1),(107,.ob<|x+3),(94,.p<|af j),(75,w),(110,.p<|ab st),(106,ajy s),(96,.p<|ab bl),(62,.p<|ab t),(116,ws b)]) W W' r:=by
 refine eh λcy bk=>acG (N4 (st:=st) (nm:=t) F (bo hN<|dc rt) ht hs.1 hs.2.1 hs.2.2) λW' r F' R hS hr=>cE (xF (nm:=t) F<|bo hN<|dc rt) λr1 Q4 R1=>bk ?_;have fin:(cL (ab st) (ab fK)=ak->∀i n,av W.us i=aa n->EO W.tl n≠aa t)->∃(aap:Wd)(r':Except Int V),WF (N+2) aap/\∀x aV,qM x aV->∀d cl cf(w:V)(ws:Nat->V),jo cl (d+4) ak->∀Q(E:H->Prop),(match r' with| .ok v=>Q (agW aV.length v) (HW x aV aap)|bK c=>Bh E (HW x aV aap) c)->ez cl cf (eR 10 pM.body) [(113,.ob<|x+1),(107,.ob<|x+3),(94,.p<|af j),(75,w),(110,.p<|ab st),(106,ajy s),(96,.p<|ab bl),(62,.p<|ab t),(116,ws aV.length)] (HW x aV W) (l3 Q) (sH E):=λhq=>by
  induction r using qC with
  |error e=>exact (jY W' (bK e) F'.bL λx aV L d cl cf w ws hc Q E k=>hc<|R x aV L d _ _ k)
  |ok v=>
   refine eh λcy bk=>acG (hr v rfl) λn a w2 ha hf hk=>?_;subst w2;exact bk<|(jY ({W' with us:=aN W'.us (.i j) W'.tl.length,tl:=W'.tl++[gM ⟨j,bl,0⟩ n]}) (.ok<| .dy W'.tl.length) (ah6 (vV F' (t':=[gM ⟨j,bl,0⟩ n])) ⟨_,n,⟨hb,AO 0,(by decide:(0:Int)<=1)⟩,vW,a,ha,mM hf⟩ (qN vW<|mM hf) (hk.imp WH λz=>z.2.1) (hk.imp WH λz i m h y=>hq z.2.2 i m (hS.1▸h) (by
    rw[show EO (W'.tl++[gM ⟨j,bl,0⟩ n]) m=_ from yk (λe h=>(F'.us e h).2) i m h,hS.2 i m<|hS.1▸h,z.1]at y;exact y))) λx aV L d cl cf w ws hc Q E k=>hc<|R x aV L d _ _<|hc<|aaC L<|afe L (vV F' (t':=[gM ⟨j,bl,0⟩ n])) (bo (kY hN)<|dc rt)<|jJ (kk:=.i j) (fN L) (dn jq) k)
 refine bc (cL (ab st)<|ab fK) (λc1=>?_) λc1=>?_
 ·
  exact lK (fin<|tf c1) λaap r' ajz T=>(jY aap r' ajz λw ws x aV L d cl cf hc Q E k=>ZX c1 rt rt<|T x aV L d cl cf w ws hc Q E k)
 ·
  cases r1 with
  |none=>
   exact eh λcy bk=>lK (fin λ_=>Q4.2 rn) λaap r' ajz T=>bk<|(jY aap r' ajz λw ws x aV L d cl cf hc Q E k=>QW c1 rt rt<|hc<|R1 x aV L (d+2) _ _ ⟨bH _,T x aV L d cl cf w ws hc Q E k⟩)
  |some n=>exact (jY W (bK 15) F.bL.bL λw ws x aV L d cl cf hc Q E k=>QW c1 rt rt<|hc<|R1 x aV L (d+2) _ _ ⟨bH _,lL rfl<|fj cl cf rfl (eL L)<|k _⟩)
theorem te{Q:Fl->Env->H->Prop}{E:Env->H->Prop}{es:List (bV×Nat)}(hm:av m p=aa (.ob n))(hk:av m q=aa (.p<|af j))(h:aW σ n=aa (cH es))(k:Q bE (aN m i<|qI V.dy (.p .none)<|av es<| .i j) σ):iR ⟨TT,NN,cl,hd,lv⟩ cf (.ug i<| .vg (bC p) 3<| .cons (bC q) .nil) m σ Q E:=by
 have e:iI TT NN (.ob n) 3 σ=aa (.bi 1 3):=by
  show (match ng aj ((aW σ n).bind O.uV)with|some _=>Pq [(NN.append,0),(NN.EG,1),(NN.xq,2)] 0 3|none=>match ng ((ng aj<|(aW σ n).bind O.Ih).map λ_=>()) ((((aW σ n).bind O.yS)).map λ_=>())with|some _=>Pq [(NN.EG,1),(NN.kM,3)] 1 3|none=>_)=_;refine ah h ?_;rfl
 refine ax hm<|ax e<|ax hk ?_
 have z:∀{o},o=aa (cH es)->(match ng aj (o.bind O.Ih)with|some es=>M.ok (qI V.p (.p .none)<|av es<| .i j)|none=>.aQ (o.bind O.yS) λes=>M.ok<|qI V.dy (.p .none)<|av es<| .i j) σ (λa bP=>Q bE (aN m i a.g7) bP) (E m):=λe=>by
  refine ah e ?_;show Q bE (aN m i (qI V.dy (.p .none)<|av es<| .i j).g7) σ;cases q:av es (.i j)<;>(rw[q]at k;exact k)
 exact z h
theorem agY{m:Nat}:(qG m).length<=1:=by
 unfold qG;by_cases q:m<10
 ·rw[if_pos q];exact gj 1
 ·rw[if_neg q];exact bH 1
theorem afg{m:Nat}:(agJ++qG m).length<=100:=ah cg<|Nat.le_trans (vd agY _)<|dc rt
noncomputable abbrev nv (o:Option Tx):V:=match o with|some t=>.p (ab t)|none=>.p .none
theorem Iv(F:WF N W)(hN:N<=58)(ok:aff c)(hs:s.1.length<=100/\s.2.1.length<=100/\s.2.2<10)(ht:Iq o)(hb:bl.length<=100)(h0:0<=j)(agZ:j<10):∃W' r,WF (N+2) W'/\∀ks vs,EQ ks vs c->adR (eR 6 pM.body) 4 (λx b=>[(113,.ob<|x+1),(107,.ob<|x+3),(94,.p<|af j),(75,.p<|cu ks vs),(110,.p<|ab st),(106,ajy s),(96,.p<|ab bl),(62,nv o)]) W W' r:=by
 refine oc (av W.us<| .i j) (λc1=>?_) λn c1=>?_
 ·
  induction o using fA with
  |none=>
   exact lK (Bw (j:=j) F hN hs afg hb) λW' r F' T=>(jY W' r F' λks vs h x aV L d cl cf hc Q E k=>cj<|te rfl rfl (fN L)<|(n9 c1)▸⟨bH _,⟨bH _,hc ⟨⟨h0,agZ⟩,⟨⟨by decide,bo agY<|dc rt⟩,T _ (λ_=>.p .none) x aV L d cl cf hc Q E k⟩⟩⟩⟩)
  |some t=>
   exact lK (Bw (j:=j) (t:=t) F hN hs (ht t rfl) hb) λW' r F' T=>(jY W' r F' λks vs h x aV L d cl cf hc Q E k=>cj<|te rfl rfl (fN L)<|(n9 c1)▸⟨bH _,⟨bH _,T _ (λ_=>.p .none) x aV L d cl cf hc Q E k⟩⟩)
 ·
  refine eh λcy bk=>?_;obtain ⟨u,f,hu,hU,a,ha,hA⟩:=(F.us _<|gY c1).2;refine oi (N5 (s:=s) (t:=st) F ok hU hu ⟨a,ha,hA⟩) λW1 r1 F1 Q4 R1=>bk ?_;induction o using fA with
  |none=>exact (jY W1 r1 F1.bL.bL λks vs h x aV L d cl cf hc Q E k=>cj<|te rfl rfl (fN L)<|(dn c1)▸⟨bH _,⟨bH _,hc<|R1 ks vs h x aV L (d+2) _ _<|by cases r1<;>exact k⟩⟩)
  |some t=>
   refine bc (cL (ab t)<|ab a.nm) (λc2=>(jY W1 r1 F1.bL.bL λks vs h x aV L d cl cf hc Q E k=>cj<|te rfl rfl (fN L)<|ah (dn c1)<|⟨bH _,⟨bH _,jk (l6 hU hA).u<|jk (l6 hU hA).f<|lz c2 rt rt<|hc<|R1 ks vs h x aV L (d+2) _ _<|by cases r1<;>exact k⟩⟩)) λc2=>?_
   ·
    exact lK (Bw (j:=j) (t:=t) F hN hs (ht t rfl) hb) λW' r F' T=>(jY W' r F' λks vs h x aV L d cl cf hc Q E k=>cj<|te rfl rfl (fN L)<|ah (dn c1)<|⟨bH _,⟨bH _,jk (l6 hU hA).u<|jk (l6 hU hA).f<|cT c2 rt rt<|⟨bH _,T _ (λb=>.dy<|b+n) x aV L d cl cf hc Q E k⟩⟩⟩)
theorem Q5(F:WF N W)(hN:N<=58)(ok:aff c)(agZ:j<10):∃W' r,WF (N+2) W'/\∀ks vs,EQ ks vs c->L6 492 5 (λx _=>[.ob<|x+1,.ob<|x+3,.p<|af j,.p<|cu ks vs]) W W' r:=by
 by_cases h0:j<0
 ·exact (jY W (bK 10) F.bL.bL λks vs h x aV L d Q E k=>aZ rfl rfl @λcl cf hc=>mn (λ_=>fj cl cf rfl (eL L)<|k _) λq=>(q h0).elim)
 refine bd (cO (ab<|wt c.st iJ) [ab MT,ab EJ,ab fK,ab iJ]) (λc1=>(jY W (bK 12) F.bL.bL λks vs h x aV L d Q E k=>aZ rfl rfl λhc=>mn (λq=>(h0 q).elim) λ_=>hc<|dK h.st (ok.st.kM<|dc rt) rt (eL L) (λq=>tf q c1) λ_=>k)) λc1=>?_
 ·
  refine cE (Q2 ok) λrs hs T=>?_;induction rs using qC with
  |error e=>exact (jY W (bK e) F.bL.bL λks vs h x aV L d Q E k=>aZ rfl rfl λhc=>mn (λq=>(h0 q).elim) λ_=>hc<|dK h.st (ok.st.kM<|dc rt) rt (eL L) (λ_=>hc<|T ks vs h _ (eL L) _ _ _ k)<|tf c1)
  |ok s=>
   refine bd (cO (ab<|wt c.bl vk) [ab vk,ab G']) (λc2=>(jY W (bK 12) F.bL.bL λks vs h x aV L d Q E k=>aZ rfl rfl λhc=>mn (λq=>(h0 q).elim) λ_=>hc<|dK h.st (ok.st.kM<|dc rt) rt (eL L) (λ_=>hc<|T ks vs h _ (eL L) _ _ _<|hc<|dK h.bl (ok.bl.kM<|dc rt) rt (eL L) (λq=>tf q c2) λ_=>k)<|tf c1)) λc2=>?_
   ·
    refine oc (c.fi) (λc3=>?_) λt c3=>?_
    ·
     exact lK (Iv (o:=aj) (s:=s) (st:=wt c.st iJ) (bl:=wt c.bl vk) F hN ok (hs s rfl) (λt e=>nomatch e) (ok.bl.wt<|dc rt) (kq.mp h0) agZ) λW' r F' M=>(jY W' r F' λks vs h x aV L d Q E k=>aZ rfl rfl @λcl cf hc=>mn (λq=>(h0 q).elim) λ_=>hc<|dK h.st (ok.st.kM<|dc rt) rt (eL L) (λ_=>hc<|T ks vs h _ (eL L) _ _ _<|hc<|dK h.bl (ok.bl.kM<|dc rt) rt (eL L) (λ_=>hc<|mj h.fi (λt q=>nomatch c3.symm.trans q) (eL L) (λ_=>ly (x:=ab<|wt c.st iJ) (y:=ab fK) rt rt (λ_=>⟨bH _,M ks vs h x aV L d cl cf hc Q E k⟩) λ_=>M ks vs h x aV L d cl cf hc Q E k) (λt q=>nomatch c3.symm.trans q) λt q=>nomatch c3.symm.trans q)<|tf c2)<|tf c1)
    ·
     by_cases c4:d9 t=[]
     ·exact (jY W (bK 20) F.bL.bL λks vs h x aV L d Q E k=>aZ rfl rfl λhc=>mn (λq=>(h0 q).elim) λ_=>hc<|dK h.st (ok.st.kM<|dc rt) rt (eL L) (λ_=>hc<|T ks vs h _ (eL L) _ _ _<|hc<|dK h.bl (ok.bl.kM<|dc rt) rt (eL L) (λ_=>hc<|mj h.fi (λt' q=>cP (c3.symm.trans q)▸bo (ok.fi t c3) (dc rt)) (eL L) (λq=>nomatch c3.symm.trans q) (λt' q z=>absurd c4<|cP (c3.symm.trans q)▸z) λ_ _ _=>k)<|tf c2)<|tf c1)
     ·cases c5:cL (ab<|wt c.st iJ) (ab fK)with
      |true=>exact (jY W (bK 20) F.bL.bL λks vs h x aV L d Q E k=>aZ rfl rfl @λcl cf hc=>mn (λq=>(h0 q).elim) λ_=>hc<|dK h.st (ok.st.kM<|dc rt) rt (eL L) (λ_=>hc<|T ks vs h _ (eL L) _ _ _<|hc<|dK h.bl (ok.bl.kM<|dc rt) rt (eL L) (λ_=>hc<|mj h.fi (λt' q=>cP (c3.symm.trans q)▸bo (ok.fi t c3) (dc rt)) (eL L) (λq=>nomatch c3.symm.trans q) (λt' q z=>cP (c3.symm.trans q)▸lz c5 rt rt (⟨bH _,lL rfl<|fj cl cf rfl (eL L)<|k _⟩)) λt' q z=>absurd (cP (c3.symm.trans q)▸z) c4)<|tf c2)<|tf c1)
      |false=>
       exact lK (Iv (s:=s) (bl:=wt c.bl vk) F hN ok (hs s rfl) (λt' e=>cP e▸bo (yl t) (ok.fi t c3)) (ok.bl.wt<|dc rt) (kq.mp h0) agZ) λW' r F' M=>(jY W' r F' λks vs h x aV L d Q E k=>aZ rfl rfl @λcl cf hc=>mn (λq=>(h0 q).elim) λ_=>hc<|dK h.st (ok.st.kM<|dc rt) rt (eL L) (λ_=>hc<|T ks vs h _ (eL L) _ _ _<|hc<|dK h.bl (ok.bl.kM<|dc rt) rt (eL L) (λ_=>hc<|mj h.fi (λt' q=>cP (c3.symm.trans q)▸bo (ok.fi t c3) (dc rt)) (eL L) (λq=>nomatch c3.symm.trans q) (λt' q z=>cP (c3.symm.trans q)▸ly (x:=ab<|wt c.st iJ) (y:=ab fK) rt rt (λq=>tf q c5) λ_=>M ks vs h x aV L d cl cf hc Q E k) λt' q z=>absurd (cP (c3.symm.trans q)▸z) c4)<|tf c2)<|tf c1)
end
section
variable{f b:Nat}{W:Wd}{a:m9}{st bl:Tx}{le j:Int}{c:Ow}{vs:List P}{o:Option Tx}{es:List (bV×Nat)}
theorem wk(h:aW σ n=aa (cH es)):iI TT NN (.ob n) 1 σ=aa (.bi 1 1):=by
 show (match ng aj ((aW σ n).bind O.uV)with|some _=>Pq [(NN.append,0),(NN.EG,1),(NN.xq,2)] 0 1|none=>match ng ((ng aj<|(aW σ n).bind O.Ih).map λ_=>()) ((((aW σ n).bind O.yS)).map λ_=>())with|some _=>Pq [(NN.EG,1),(NN.kM,3)] 1 1|none=>_)=_;refine ah h ?_;rfl
theorem acT(h:aW σ n=aa (cH es)):(aW σ n).bind O.yS=aa es:=by refine ah h ?_;rfl
theorem cJ{c:Nat}{K:cN}{fs:List (Nat×V)}(h:aW σ n=aa (bJ c fs))(hK:TT.cls c=aa K)(hb:(K.fields.contains i&&(K.d5==ak))=ag)(hv:av fs i=aa v)(k:Q v σ):getAttr TT (.ob n) i σ Q E:=L7 h<|ax hK<|qL hb<|ax hv k
theorem qO{c:Nat}{K:cN}{fs:List (Nat×V)}(h:aW σ n=aa (bJ c fs))(hK:TT.cls c=aa K)(hb:(K.fields.contains i&&(K.d5==ak))=ag)(hv:av fs i=aa v)(k:Q v σ):getAttr TT (.dy n) i σ Q E:=jk h<|ax hK<|qL hb<|ax hv k
theorem L8(L:qM x aV)(F:W.us.length<=N)(hN:N<=60)(h:av W.us (.i j)=aa n)(k:Q (.dy<|aV.length+n)<|HW x aV {W with us:=cW W.us (.i j)}):M.aQ ((aW (HW x aV W)<|x+3).bind O.yS) (λes=>.aQ (av es<| .i j) λy=>.eD (es.length<=bZ)<| .bind (fP (x+3)<|cH<|cW es<| .i j) λ_=>.ok<| .dy y) (HW x aV W) Q E:=
 ax (acT<|fN L) (ax (dn h) ⟨by delta sh;rw[cq];exact bo F<|bo hN<|dc rt,by
  show Q _<|aG (HW x aV W) (x+3)<|cH<|cW (sh aV.length W.us)<| .i j;exact ah PB<|ah (WX L)<|k⟩)
theorem afh(L:qM x aV)(F:WF N W)(hN:N<=60)(h:av W.fs (.s t)=aa n)(k:Q (.dy<|aV.length+n)<|HW x aV {W with fs:=cW W.fs (.s t)}):M.aQ ((aW (HW x aV W)<|x+2).bind O.yS) (λes=>.aQ (av es<| .s t) λy=>.eD (es.length<=bZ)<| .bind (fP (x+2)<|cH<|cW es<| .s t) λ_=>.ok<| .dy y) (HW x aV W) Q E:=
 ax (acT<|mD L) (ax (dn h) ⟨W4 F hN,by
  show Q _<|aG (HW x aV W) (x+2)<|cH<|cW (sh aV.length W.fs)<| .s t;exact ah PB<|ah (WW L)<|k⟩)
theorem wm:cK 8 (match o with|some t=>P.str t|none=>.none)=ag:=by induction o using fA<;>rfl
noncomputable abbrev np (o:Option Tx):P:=match o with|some t=>ab t|none=>.none
theorem ES(F:WF N W)(hN:N<=58):∃W' r,WF N W'/\adR (eR 2 xt.body) 0 (λx b=>[(113,.ob<|x+1),(107,.ob<|x+3),(94,.p<|af j),(110,.p<|np o)]) W W' r:=by
 have N6:=bo hN (by decide:58<=60);refine oc (av W.us<| .i j) (λc1=>(jY W (.ok<| .p .none) F λx aV L d cl cf hc Q E k=>xB (fN L) (md<|n9 c1) λ_=>k)) λn c1=>?_
 ·
  refine eh λcy bk=>?_;obtain ⟨u,f,hu,hU,a,ha,hA⟩:=(F.us _<|gY c1).2;refine bk<|bc (cL (ab a.nm)<|ab []) (λc2=>?_) λc2=>?_
  ·
   cases c3:cL (np o) (ab C3)with
   |true=>exact (jY W (bK 12) F λx aV L d cl cf hc Q E k=>xB (kk:=.i j) (fN L) (λ_=>jJ (fN L) (dn c1)<|jk (l6 hU hA).u<|jk (l6 hU hA).f<|lz c2 rt rt<|lz c3 wm rt<|lL rfl<|fj cl cf rfl (eL L)<|k _)<|ir<|dn c1)
   |false=>exact (jY ({W with us:=cW W.us (.i j)}) (.ok<| .p .none) (W3 F) λx aV L d cl cf hc Q E k=>xB (kk:=.i j) (fN L) (λ_=>jJ (fN L) (dn c1)<|jk (l6 hU hA).u<|jk (l6 hU hA).f<|lz c2 rt rt<|cT c3 wm rt<|jk (l6 hU hA).f<|ZX c2 rt rt<|ax (wk<|fN L)<|L8 L F.lu N6 c1 k)<|ir<|dn c1)
  ·
   have h0:=Bg c2;refine bd (cL (np o)<|ab tK) (λc3=>(jY ({W with us:=cW W.us (.i j)}) (.ok<| .p .none) (W3 F) λx aV L d cl cf hc Q E k=>xB (kk:=.i j) (fN L) (λ_=>jJ (fN L) (dn c1)<|jk (l6 hU hA).u<|jk (l6 hU hA).f<|cT c2 rt rt<|jk (l6 hU hA).f<|QW c2 rt rt<|cT c3 wm rt<|ax (wk<|fN L)<|L8 L F.lu N6 c1 k)<|ir<|dn c1)) λc3=>?_
   ·
    obtain ⟨m,hm⟩:=m6.mp<|(F.i1 _ _ c1 _<|qN hU hA).resolve_left h0;exact (jY ({W with fs:=cW W.fs<| .s a.nm,us:=cW W.us (.i j)}) (.ok<| .p .none) (afb F c1 (qN hU hA) h0) λx aV L d cl cf hc Q E k=>xB (kk:=.i j) (fN L) (λ_=>jJ (fN L) (dn c1)<|jk (l6 hU hA).u<|jk (l6 hU hA).f<|cT c2 rt rt<|jk (l6 hU hA).f<|QW c2 rt rt<|lz c3 wm rt<|cJ (uq L) (K:=o0) rfl rt rfl<|ax (wk<|mD L)<|qO (l6 hU hA).f (K:=lU) rfl rt rfl<|afh L F N6 hm<|ax (wk<|fN L)<|L8 L F.lu N6 c1 k)<|ir<|dn c1)
theorem N7(F:WF N W)(hN:N<=58)(ht:Iq o):∃W' r,WF N W'/\L6 499 2 (λx _=>[.ob<|x+1,.ob<|x+3,.p<|af j,.p<|np o]) W W' r:=by
 by_cases h0:j<0
 ·exact (jY W (bK 10) F λx aV L d Q E k=>aZ rfl rfl @λcl cf hc=>mn (λ_=>fj cl cf rfl (eL L)<|k _) λq=>(q h0).elim)
 induction o using fA with
 |none=>
  exact lK (ES (j:=j) F hN) λW' r F' M=>(jY W' r F' λx aV L d Q E k=>aZ rfl rfl @λcl cf hc=>mn (λq=>(h0 q).elim) λ_=>⟨bH _,M x aV L (d+1) cl cf hc Q E k⟩)
 |some t=>
  refine bd (cO (ab<|wt (aa t) []) [ab C3,ab tK]) (λc1=>(jY W (bK 12) F λx aV L d Q E k=>aZ rfl rfl λhc=>mn (λq=>(h0 q).elim) λ_=>⟨bH _,hc<|dK (o:=aa t) (if_pos rfl) (ht.kM<|dc rt) rt (eL L) (λq=>tf q c1) λ_=>k⟩)) λc1=>?_
  ·
   exact lK (ES (o:=aa<|wt (aa t) []) (j:=j) F hN) λW' r F' M=>(jY W' r F' λx aV L d Q E k=>aZ rfl rfl @λcl cf hc=>mn (λq=>(h0 q).elim) λ_=>⟨bH _,hc<|dK (o:=aa t) (if_pos rfl) (ht.kM<|dc rt) rt (eL L) (λ_=>M x aV L (d+1) cl cf hc Q E k)<|tf c1⟩)
def yn(b:Bool):Tx:=match b with|true=>agK|false=>[78,79]
theorem ag0{b:Bool}{Q:Bool->H->Prop}(k:Q b σ):fU (Mine.Lake.bl b) σ Q E:=pN (λh=>h▸k) λh=>h▸k
theorem ET{b:Bool}(k:Q (.p<|ab<|yn b) σ):ba TT NN (d+1) hd (.p<|aI 548) [Mine.Lake.bl b] σ Q E:=aZ rfl rfl λ_=>pN (λh=>by rw[h]at k;exact k) λh=>by rw[h]at k;exact k
theorem TN{A B:M V}{v w:P}{b:Bool}(hA:∀Q E,Q (V.p v) σ->A σ Q E)(hB:∀Q E,Q (V.p w) σ->B σ Q E)(k:Q (.p<|cond b v w) σ):fU (Mine.Lake.bl b) σ (hM (λr=>match r with|true=>A|false=>B) Q E) E:=pN (λh=>hA _ _<|by rw[h]at k;exact k) λh=>hB _ _ (by rw[h]at k;exact k)
theorem akv{A B:M V}{v w:P}{b:Bool}(hA:∀Q E,Q (V.p v) σ->A σ Q E)(hB:∀Q E,Q (V.p w) σ->B σ Q E)(k:Q (.p<|cond b v w) σ):hM (λr=>match r with|true=>A|false=>B) Q E b σ:=by
 induction b using fe with
 |true=>exact hA _ _ k
 |false=>exact hB _ _ k
theorem akw{x y:P}(hx:cK 8 x=ag)(hy:cK 8 y=ag)(k:Q (Mine.Lake.bl !(cL x y)) σ):hV .ne (.p x) (.p y) σ Q E:=M5 hx hy k
def acU(u:C5)(a:m9)(d f:Bool):List P:=[ei ag,ei ag,af u.Pt,ei !(cL (ab a.nm)<|ab []),cond (!a.nm.isEmpty) (ab a.nm) .none,ab a.ac,ab<|yn !d,ab<|yn d,ab a.fo,ab<|yn f,ab<|yn !f,cond d (af a.le) .none,cond d (af<|u.pl+1) .none,cond f (ab u.bl) .none]
def acV:List bV:=[.s xr,.s tL,.s tM,.s EK,.s C4,.s fL,.s ch,.s fY,.s k6,.s fG,.s d6,.s fH,.s qj,.s gy]
theorem PE(R:ajx σ n f u a)(hn:a.nm.length<=100)(k:Q (.p<|cu acV<|acU u a (cL (ab a.ac)<|ab fY)<|cL (ab a.fo)<|ab fG) σ):ba TT NN (d+2) ak (.p<|aI 555) [.dy n] σ Q E:=aZ rfl rfl λhc=>
by
 refine jk R.u<|jk R.f<|Q0 (x:=ab a.ac) (y:=ab fY) rt rt ?_;refine jk R.f<|Q0 (x:=ab a.fo) (y:=ab fG) rt rt ?_;refine jk R.u<|jk R.f<|akw (x:=ab a.nm) (y:=ab []) rt rt ?_;refine jk R.f ⟨bo hn<|dc rt,akv (λ_ _ h=>h) (λ_ _ h=>h) ?_⟩;refine jk R.f<|ag0<|hc<|ET<|hc<|ET ?_;refine jk R.f<|hc<|ET<|ag0<|hc<|ET ?_;exact TN (λ_ _ h=>jk R.f h) (λ_ _ h=>h)<|TN (λ_ _ h=>jk R.u h) (λ_ _ h=>h)<|TN (λ_ _ h=>jk R.u h) (λ_ _ h=>h) k
end
section
variable{f b:Nat}{W:Wd}{a:m9}{st:Tx}{le j:Int}{c:Ow}{vs:List P}{o:Option Tx}
theorem EU{o:O}:∀{σ:H},aW σ (n+1)=aa o->∃s r,σ=s::r/\aW r n=aa o:=@lr _ _
 (@λh=>nomatch h)
 (λs r ih=>@λh=>(jY s r rfl h))
theorem akx{o:O}:∀{σ:H},aW σ 0=aa o->∃r,σ=o::r:=@lr _ _
 (@λh=>nomatch h)
 (λs r ih=>@λh=>⟨r,congrArg (·::r)<|cP h⟩)
def M6:List bV:=[.s xr,.s tL,.s EK,.s C4,.s tM,.s fL,.s ch,.s fY,.s k6,.s fG,.s d6,.s fH,.s qj,.s gy]
def M7(e:Bool)(o:Option Tx):List P:=[ei e,ei ak,ei o.isSome,np o,.none,.none,.none,.none,.none,.none,.none,.none,.none,.none]
theorem xG{e:Bool}(h:aW σ 8=aa ae)(k:Q (.p<|cu M6<|M7 e o) σ):ba TT NN (d+1) ak (.p<|aI 562) [bl e,.p<|np o] σ Q E:=by
 refine eh λcy bk=>lK (EU h) λs0 r0 e0 h0=>lK (EU h0) λs1 r1 e1 h1=>lK (EU h1) λs2 r2 e2 h2=>lK (EU h2) λs3 r3 e3 h3=>lK (EU h3) λs4 r4 e4 h4=>lK (EU h4) λs5 r5 e5 h5=>lK (EU h5) λs6 r6 e6 h6=>lK (EU h6) λs7 r7 e7 h7=>?_;obtain ⟨r,e8⟩:=akx h7;refine bk ?_;subst e8 e7 e6 e5 e4 e3 e2 e1 e0;have l:∀{n:Nat},gb n 1000000=ag->n<=bZ:=jA;have z:∀o,(4<=bZ/\5<=bZ/\6<=bZ/\7<=bZ/\8<=bZ/\9<=bZ/\10<=bZ/\11<=bZ/\12<=bZ/\13<=bZ/\Q (.p<|cu M6<|M7 e o) (s0::s1::s2::s3::s4::s5::s6::s7::O.free::r))=ba TT NN (d+1) ak (.p<|aI 562) [bl e,.p<|np o] (s0::s1::s2::s3::s4::s5::s6::s7::O.free::r) Q E
  |none=>by kernel_rfl
  |some t=>by kernel_rfl
 rw[<-z]
 exact ⟨l rt,l rt,l rt,l rt,l rt,l rt,l rt,l rt,l rt,l rt,k⟩
theorem ag1(L:qM x aV):aW (HW x aV W) 8=aa ae:=(u3 (qf (by decide:8<9)<|qf L.x9<|jB (gf x 3) L.l) (by have:=L.x9;exact λh_=>eH 0<|dj bz eC [(1,eA pK bz,aB),(1,eA aB g9,kC)] rt this<|bx h_) (by have:=L.x9;exact λh_=>eH 0<|dj bz eC [(1,eA pK bz,aB),(1,eA aB l5,kC)] rt this<|bx h_)).trans L.f8
theorem aky{es:List (bV×Nat)}{b:Bool}(h:aW σ n=aa (cH es))(e:(av es kk).isSome=b)(k:Q (bl b) σ):hV .jh (.p kk.val) (.ob n) σ Q E:=Gp h<|e▸k
def gT(i:Nat):Tx:=[xr,tL,tM,fH,qj,fL,C4,gy].getD i []
def Q6(i:Nat)(v:P):Prop:=[∃b,v=ei b,∃b,v=ei b,∃n,v=af n,∃n:Int,v=af n/\n<10,∃n,v=af n,∃s:Tx,v=ab s/\s.length<=100,∃s:Tx,v=ab s/\s.length<=100,∃s:Tx,v=ab s/\s.length<=100].getD i False
def W6(i:Nat)(v:P):Prop:=v=.none\/Q6 i v
def zO(p:P):Prop:=∃ks vs,p=cu ks vs/\∀i,i<8->∃v,av (ks.zip vs) (.s<|gT i)=aa v/\W6 i v
theorem zP{b:Bool}{v:P}(h:Q6 i v):W6 i (cond b v .none):=by induction b using fe with|true=>exact bM h|false=>exact bW rfl
theorem Iw(ha:acP a)(hu:UB u){d f:Bool}:zO (cu acV<|acU u a d f):=⟨_,_,rfl,Il (b0 (ei ag) (by kernel_rfl)<|bM ⟨_,rfl⟩) (b0 (ei ag) (by kernel_rfl)<|bM ⟨_,rfl⟩) (b0 (af u.Pt) (by kernel_rfl)<|bM ⟨_,rfl⟩) (b0 (cond d (af a.le) .none) (by kernel_rfl)<|zP ⟨_,rfl,ha.le⟩) (b0 (cond d (af<|u.pl+1) .none) (by kernel_rfl)<|zP ⟨_,rfl⟩) (b0 (ab a.ac) (by kernel_rfl)<|bM ⟨_,rfl,ha.ac⟩) (b0 (cond (!a.nm.isEmpty) (ab a.nm) .none) (by kernel_rfl)<|zP ⟨_,rfl,ha.nm⟩)<|b0 (cond f (ab u.bl) .none) (by kernel_rfl)<|zP ⟨_,rfl,hu.bl⟩⟩
theorem Iy{e:Bool}(ht:∀t,o=aa t->t.length<=100):zO (cu M6<|M7 e o):=⟨_,_,rfl,Il (b0 (ei e) (by kernel_rfl)<|bM ⟨_,rfl⟩) (b0 (ei ak) (by kernel_rfl)<|bM ⟨_,rfl⟩) (b0 .none (by kernel_rfl)<|bW rfl) (b0 .none (by kernel_rfl)<|bW rfl) (b0 .none (by kernel_rfl)<|bW rfl) (b0 .none (by kernel_rfl)<|bW rfl) (b0 (np o) (by kernel_rfl)<|by induction o using fA with|none=>exact bW rfl|some t=>exact bM ⟨t,rfl,ht t rfl⟩)<|b0 .none (by kernel_rfl)<|bW rfl⟩
theorem Ht(F:WF N W):∃p:P,zO p/\∀x aV,qM x aV->∀d Q E,Q (.p p) (HW x aV W)->ba TT NN (d+3) ak (.p<|aI 569) [.ob<|x+3,.p<|af j] (HW x aV W) Q E:=by
 refine od (av W.us<| .i j) (λn c1=>?_) λc1=>?_
 ·
  refine eh λcy bk=>?_;obtain ⟨u,f,hu,hU,a,ha,hA⟩:=(F.us _<|gY c1).2;exact bk<|(b0 _ (Iw ha hu) λx aV L d Q E k=>aZ rfl rfl λhc=>zt (kk:=.i j) (fN L) (λ_=>jJ (fN L) (dn c1)<|hc<|PE (l6 hU hA) ha.nm k)<|ir<|dn c1)
 ·exact (b0 _ (Iy (o:=aj) λt q=>nomatch q) λx aV L d Q E k=>aZ rfl rfl λhc=>zt (fN L) (md<|n9 c1) λ_=>hc<|xG (o:=aj) (ag1 L) k)
theorem Hu(F:WF N W)(hN:N<=60)(ht:t.length<=100):∃r:Except Int P,(∀p,r=.ok p->zO p)/\∀x aV,qM x aV->∀d Q E,(match r with| .ok p=>Q (.p p) (HW x aV W)|bK e=>Bh E (HW x aV W) e)->ba TT NN (d+4) ak (.p<|aI 576) [.ob<|x+1,.ob<|x+3,.p<|ab t] (HW x aV W) Q E:=by
 by_cases c0:d9 t=[]
 ·exact (b0 (bK 20) (λp q=>nomatch q) λx aV L d Q E k=>aZ rfl rfl λhc=>hc<|mj (fi:=aa t) (if_pos rfl) (λt' e=>cP e▸bo ht (dc rt)) (eL L) (λq=>nomatch q) (λt' e z=>absurd c0<|cP e▸z) λ_ _ _=>k)
 refine cE (xF (nm:=d9 t) F hN) λr hr T=>?_;induction r using fA with
 |some n=>
  refine eh λcy bk=>?_;obtain ⟨u,f,hu,hU,a,ha,hA⟩:=hr.1 n rfl;exact bk<|(b0 (.ok _) (λp q=>rP q▸Iw ha hu) λx aV L d Q E k=>aZ rfl rfl λhc=>hc<|mj (fi:=aa t) (if_pos rfl) (λt' e=>cP e▸bo ht (dc rt)) (eL L) (λq=>nomatch q) (λt' e z=>cP e▸hc (T x aV L (d+1) _ _ ⟨bH _,hc<|PE (l6 hU hA) ha.nm k⟩)) λt' e z=>absurd (cP e▸z) c0)
 |none=>exact (b0 (.ok<|cu M6<|M7 (av W.fs<| .s<|d9 t).isSome<|aa<|d9 t) (λp q=>rP q▸Iy λt' e=>cP e▸bo (yl t) ht) λx aV L d Q E k=>aZ rfl rfl λhc=>hc<|mj (fi:=aa t) (if_pos rfl) (λt' e=>cP e▸bo ht (dc rt)) (eL L) (λq=>nomatch q) (λt' e z=>cP e▸hc (T x aV L (d+1) _ _ ⟨bH _,cJ (uq L) (K:=o0) rfl rt rfl<|aky (kk:=.s<|d9 t) (mD L) (by refine ah Gq<|ah J7 ?_;rfl)<|hc<|xG (o:=aa<|d9 t) (ag1 L) k⟩)) λt' e z=>absurd (cP e▸z) c0)
end
section
variable{f b:Nat}{W:Wd}{a:m9}{st:Tx}{le j:Int}{c:Ow}{vs:List P}{o:Option Tx}
abbrev zv:List P:=[ab cM,ab bU,ab cQ,ab pL]
def W7(es:List<|bV×P):List Tx->List (bV×P)->List (bV×P)
 |[],acc=>acc
 |t::l,acc=>W7 es l<|match cO (ab t) zv with|true=>acc|false=>match av es (.s t)with|some v=>aN acc (.s t) v|none=>acc
theorem aaF{es:List (bV×P)}(h:cO (ab t) zv=ak):∀l acc,(∀s∈l,(av es<| .s s).isSome=ag)->av (W7 es l acc) (.s t)=if t∈l then av es (.s t)else av acc (.s t):=lr
 (@λacc _=>rfl)
 (λs l b5=>@λacc hl=>by
  show av (W7 es l _) (.s t)=_;rw[(λacc=>b5 acc λs hs=>hl s<|aS _ hs)];by_cases q:t=s
  ·subst q
   obtain ⟨v,hv⟩:=m6.mp<|hl t<|bt _;refine ah h<|ah hv<|ah (if_pos<|List.mem_cons_self) ?_;by_cases w:t∈l
   ·refine ah (if_pos w) ?_;rfl
   ·exact ah (if_neg w)<|jq
  ·have e:av (match cO (ab s) zv with|true=>acc|false=>match av es (.s s)with|some v=>aN acc (.s s) v|none=>acc) (.s t)=av acc (.s t):=by
    cases cO (ab s) zv with
    |true=>rfl
    |false=>
     cases av es (.s s)with
     |none=>rfl
     |some v=>exact gp λz=>q<|bV.s.inj z
   refine ah e ?_
   by_cases w:t∈l
   ·refine ah (if_pos w)<|ah (if_pos<|aS _ w) ?_;rfl
   ·refine ah (if_neg w)<|ah (if_neg λz=>(dU.mp z).elim q w) ?_;rfl)
theorem N8{es:List (bV×P)}(he:es=ks.zip vs):∀l acc,acc.length+l.length<=1000->(∀s∈l,(av es<| .s s).isSome=ag)->Q (.p<|ju<|W7 es l acc) σ->rW (λx=>.bind (ni ⟨TT,NN,cl,hd,lv⟩ (aN [(69,.p<|cu ks vs)] 36<| .p x)<| .cons (.BO .vP (bC 36)<| .tuple<| .cons (dN<|ab cM)<| .cons (dN<|ab bU)<| .cons (dN<|ab cQ)<| .cons (dN<|ab pL) .nil) .nil) λb=>lw b<| .bind (eP ⟨TT,NN,cl,hd,lv⟩ (aN [(69,.p<|cu ks vs)] 36<| .p x)<|bC 36) λa=>.bind (eP ⟨TT,NN,cl,hd,lv⟩ (aN [(69,.p<|cu ks vs)] 36<| .p x)<| .iz (bC 69)<|bC 36) λr=>.aQ a.lj λa=>.aQ r.pl λr=>.ok (a,r)) acc (l.map ab) σ Q E:=lr
 (@λacc _ _ k=>k)
 (λt l b5=>@λacc hl hs k=>by
  refine ue (m6.mp<|hs t<|bt _) λv hv=>C6 rt rt (λq=>?_) λq=>?_
  ·have k:Q (.p<|ju<|W7 es l<|match cO (ab t) zv with|true=>acc|false=>match av es (.s t)with|some v=>aN acc (.s t) v|none=>acc) σ:=k
   replace k:=q▸k;exact b5 acc (by have:=hl;exact cw (eA aB bb) aA [(1,eA aB ie,aA)] rt this) (λs ajA=>hs s<|aS _ ajA) k
  ·have k:Q (.p<|ju<|W7 es l<|match cO (ab t) zv with|true=>acc|false=>match av es (.s t)with|some v=>aN acc (.s t) v|none=>acc) σ:=k
   rw[q,hv]at k;exact ax (he▸hv) ⟨bo (bo (gf _ _) hl)<|dc rt,b5 (aN acc (.s t) v) (by have:=o8 (es:=acc) (k:=.s t) (v:=v);exact gS (eA cv bb) aA [(1,eA aB ie,aA),(1,cv,eA aB bz)] rt hl this) (λs ajA=>hs s<|aS _ ajA) k⟩)
structure ag2(ks:List bV)(vs:List P)(un:Option Int)(c:Ow):Prop where
 w:EQ ks vs c
 un:av (ks.zip vs) (.s cM)=un.map af
 len:dk ks.length vs.length=ag
 alC:∃l:List Tx,ks=l.map .s/\l.length<=1000
theorem Iz{k:bV}:∀{ks:List bV}{vs:List P},ks.length=vs.length->k∈ks->(av (ks.zip vs) k).isSome=ag
 |[],_,_,h=>nomatch h
 |j::ks,[],e,_=>nomatch e
 |j::ks,v::vs,e,h=>by
  show (if j=k then aa v else av (ks.zip vs) k).isSome=ag;by_cases q:j=k
  ·rw[if_pos q];rfl
  ·rw[if_neg q];exact Iz (pA e)<|(dU.mp h).resolve_left λz=>q z.symm
theorem d7:∀{es:List (bV×P)},(es.map (·.1)).zip (es.map (·.2))=es:=@lr _ _
 (rfl)
 (λe es ih=>congrArg (e::·) ih)
theorem Q7:∀{l:List Tx},mB (l.map .s)=l.map ab:=@lr _ _
 (rfl)
 (λt l ih=>congrArg (P.str t::·) ih)
theorem JL(h:ag2 ks vs un c)(k:∀ag3 IA,EQ ag3 IA c->Q (.p<|cu ag3 IA) σ):ba TT NN (d+1) ak (.p<|aI 581) [.p<|cu ks vs] σ Q E:=by
 refine cE h.alC λl hl hn=>?_;have hs:∀s∈l,(av (ks.zip vs)<| .s s).isSome=ag:=λs m=>Iz (rN h.len)<|hl▸Ld m;have g:∀t,cO (ab t) zv=ak->av ((W7 (ks.zip vs) l []).map (·.1)|>.zip ((W7 (ks.zip vs) l []).map (·.2))) (.s t)=av (ks.zip vs) (.s t):=λt q=>by
  refine ah d7<|ah (aaF q l [] hs) ?_;by_cases w:t∈l
  ·rw[if_pos w]
  ·rw[if_neg w]
   refine oc (av (ks.zip vs)<| .s t) (λz=>?_) λv z=>?_
   ·refine ah z ?_;rfl
   ·refine ah z ?_
    have:=(Lh<|gY z).1;rw[hl]at this;exact cE (nQ.mp this) λt' m e=>(w<|bV.s.inj e▸m).elim
 have e:hX (cu ks vs)=aa (l.map ab):=by
  show (match dk ks.length vs.length with|true=>aa (mB ks)|false=>aj)=_;refine ah h.len<|ah hl<|ah Q7 ?_;rfl
 exact aZ rfl rfl λ_=>ax e (N8 rfl l [] ((lN _).symm▸hn) hs<|k _ _<|⟨(g _<|by decide+kernel).trans h.w.st,(g _<|by decide+kernel).trans h.w.ac,(g _<|by decide+kernel).trans h.w.fo,(g _<|by decide+kernel).trans h.w.bl,(g _<|by decide+kernel).trans h.w.fi,(g _<|by decide+kernel).trans h.w.rl⟩)
abbrev M8(Q:V->H->Prop)(E:H->Prop)(σ:H)(r:Except Int P):Prop:=match r with| .ok p=>Q (.p p) σ|bK e=>Bh E σ e
structure ag4(aE:Tx)(un:Option Int)(c:Ow):Prop where
 ok:aff c
 lo:∀j,un=aa j->j<10
 any:(∃j,un=aa j)\/(aE=bm/\∃t,c.fi=aa t)
theorem yo{fn:Nat}(F:WF N W)(h:∀n u f,aW W.tl n=aa (gM u f)->UB u->QX W.tl f->∃(W':Wd) (r:Except Int V),WF N W'/\L6 fn 3 (λ_ b=>[.dy<|b+n]) W W' r/\∀v,r=.ok v->v=.p .none):∃(W':Wd)(r:Except Int V),WF N W'/\∀x aV,qM x aV->∀d cl,jo cl (d+3) ak->∀Q(E:H->Prop),(match r with| .ok v=>Q (.p .none) (HW x aV W')|bK c=>Bh E (HW x aV W') c)->cl (.p<|aI 506) [.ob<|x+3,.p<|af j] (HW x aV W) (λv σ=>cl (.p<|aI fn) [v] σ Q E) E:=by
 refine oc (av W.us<| .i j) (λc1=>(jY W (bK 11) F λx aV L d cl hc Q E k=>hc<|Px (fN L) (eL L) (λf q=>nomatch q.symm.trans (n9 c1)) λ_=>k)) λn c1=>?_
 ·
  refine eh λcy bk=>oi ((F.us _<|gY c1).2) λu f hu hU hF=>oi (h n u f hU hu hF) λW' r F' R hr=>bk<|(jY W' r F' λx aV L d cl hc Q E k=>hc<|Px (fN L) (eL L) (λg q=>?_) λq=>nomatch q.symm.trans (dn c1))
  refine ah (show g=aV.length+n from cP (q.symm.trans<|dn c1))<|hc<|R x aV L d _ _ ?_;induction r using qC with
  |ok v=>exact ah (hr v rfl)<|k
  |error e=>exact k
theorem akz{l l':List V}(h:jo cl d hd)(e:l=l')(k:ba TT NN d hd v l' σ Q E):cl v l σ Q E:=h<|ah e<|k
theorem L6.up{f:Nat}{args:Nat->Nat->List V}{W:Wd}{r:Except Int V}(h:L6 f k args W W' r):L6 f (k+1) args W W' r:=λx aV L d=>by have:=h x aV L<|d+1;rwa[qe,wY 1 k]at this
theorem aaG(F:WF N W)(hN:N<=58)(T:ag4 aE un c):∃(W':Wd)(r:Except Int P),WF (N+2) W'/\(∀p,r=.ok p->cL (ab aE) (ab bm)=ag->zO p)/\∀ks vs,ag2 ks vs un c->∀x aV,qM x aV->∀d Q E,M8 Q E (HW x aV W') r->ba TT NN (d+6) ak (.p<|aI 588) [.ob x,.p<|ab aE,.p<|cu ks vs] (HW x aV W) Q E:=by
 cases c1:cL (ab aE) (ab bm)with
 |true=>
  refine od (c.fi) (λt c2=>?_) λc2=>?_
  ·
   obtain ⟨r,ha,R⟩:=Hu (t:=t) F (bo hN (by decide:58<=60))<|T.ok.fi t c2;exact (gZ W r F.bL.bL (λp q _=>ha p q) λks vs h x aV L d Q E k=>aZ rfl rfl λhc=>lz c1 rt rt<|nq (λ_=>cJ (wj L) (K:=dX) rfl rt rfl<|cJ (wj L) (K:=dX) rfl rt rfl<|ax (h.w.fi.trans<|congrArg _ c2)<|hc<|R x aV L (d+1) _ _<|by cases r<;>exact k) λq=>by rw[h.w.fi,c2]at q;exact rT q)
  ·
   obtain ⟨j,hj⟩:=T.any.resolve_right λz=>z.2.elim λt e=>nomatch e.symm.trans c2;exact cE (Ht (j:=j) F) λp ha R=>(gZ W (.ok p) F.bL.bL (λp' q _=>rP q▸ha) λks vs h x aV L d Q E k=>aZ rfl rfl λhc=>lz c1 rt rt<|nq (λq=>by rw[h.w.fi,c2]at q;exact dC q) λ_=>cJ (wj L) (K:=dX) rfl rt rfl<|ax (h.un.trans<|congrArg _ hj)<|hc<|R x aV L (d+2) _ _ k)
 |false=>
  obtain ⟨j,hj⟩:=T.any.resolve_right λz=>Bg c1 z.1;refine bc (cL (ab aE)<|ab i8) (λc2=>?_) λc2=>?_
  ·
   refine eh λcy bk=>?_;obtain ⟨W',r,F',R⟩:=Q5 (j:=j) F hN T.ok<|T.lo j hj;exact bk<|(gZ W' (r.map λ_=>cu [] []) F' (λp _ q=>nomatch q) λks vs h x aV L d Q E k=>aZ rfl rfl λhc=>cT c1 rt rt<|ax (h.un.trans<|congrArg _ hj)<|lz c2 rt rt<|cJ (wj L) (K:=dX) rfl rt rfl<|cJ (wj L) (K:=dX) rfl rt rfl<|hc<|JL h λag3 IA h'=>hc<|R ag3 IA h' x aV L d _ _<|by cases r<;>exact k)
  ·
   cases c3:cL (ab aE) (ab iB)with
   |true=>
    obtain ⟨W',r,F',R⟩:=N7 (j:=j) F hN T.ok.st;exact (gZ W' (r.map λ_=>cu [] []) F'.bL.bL (λp _ q=>nomatch q) λks vs h x aV L d Q E k=>aZ rfl rfl λhc=>cT c1 rt rt<|ax (h.un.trans<|congrArg _ hj)<|cT c2 rt rt<|lz c3 rt rt<|cJ (wj L) (K:=dX) rfl rt rfl<|cJ (wj L) (K:=dX) rfl rt rfl<|akz hc (by refine ah Im<|ah h.w.st ?_;cases c.st<;>rfl)<|R x aV L (d+3) _ _<|by cases r<;>exact k)
   |false=>
    refine bc (cL (ab aE)<|ab fW) (λc4=>?_) λc4=>?_
    ·
     refine eh λcy bk=>?_;obtain ⟨W',r,F',D⟩:=yo (j:=j) F λn u f h hu hf=>(Hs F h hu hf).imp λW' z=>z.imp λr z=>(k8 z.1 z.2.1.up z.2.2)
     exact bk<|(gZ W' (r.map λ_=>cu [] []) F'.bL.bL (λp _ q=>nomatch q) λks vs h x aV L d Q E k=>aZ rfl rfl @λcl cf hc=>cT c1 rt rt<|ax (h.un.trans<|congrArg _ hj)<|cT c2 rt rt<|cT c3 rt rt<|lz c4 rt rt<|cJ (wj L) (K:=dX) rfl rt rfl<|D x aV L (d+2) cl hc _ _<|by cases r<;>exact k)
    ·
     cases c5:cL (ab aE) (ab ka)with
     |true=>
      obtain ⟨W',r,F',D⟩:=yo (j:=j) F λn u f h hu hf=>(QZ F h hu hf).imp λW' z=>z.imp λr z=>(k8 z.1 z.2.1.up z.2.2)
      exact (gZ W' (r.map λ_=>cu [] []) F'.bL.bL (λp _ q=>nomatch q) λks vs h x aV L d Q E k=>aZ rfl rfl @λcl cf hc=>cT c1 rt rt<|ax (h.un.trans<|congrArg _ hj)<|cT c2 rt rt<|cT c3 rt rt<|cT c4 rt rt<|lz c5 rt rt<|cJ (wj L) (K:=dX) rfl rt rfl<|D x aV L (d+2) cl hc _ _<|by cases r<;>exact k)
     |false=>
      obtain ⟨W',r,F',D⟩:=yo (j:=j) F λn u f h hu hf=>N3 F h hu hf;exact (gZ W' (r.map λ_=>cu [] []) F'.bL.bL (λp _ q=>nomatch q) λks vs h x aV L d Q E k=>aZ rfl rfl @λcl cf hc=>cT c1 rt rt<|ax (h.un.trans<|congrArg _ hj)<|cT c2 rt rt<|cT c3 rt rt<|cT c4 rt rt<|cT c5 rt rt<|cJ (wj L) (K:=dX) rfl rt rfl<|D x aV L (d+2) cl hc _ _<|by cases r<;>exact k)
end
structure Mem where
 S:Int
 N:Int
 R:Int
 T:Int
 E:Bool
 O:Bool
 A:Tx
 F:Tx
noncomputable def rC (M:Mem):List P:=[aw [af 0,af M.S],aw [af 0,af M.N],aw [af 0,af M.R],aw [af 0,af M.T],aw [af 4,ei M.E],aw [af 4,ei M.O]]
noncomputable def vX (t:Tx):List P:=t.map λc=>ab [c]
def iS(M:Mem):List P:=vX<|M.A++M.F
noncomputable def zQ (y:Nat):O:=bJ 682 [(156,.ob<|y+1),(157,.ob<|y+2)]
structure nN(M:Mem):Prop where
 A:M.A.length=10
 F:M.F.length=3
 R:M.R<10
structure CD(σ:H)(y:Nat)(M:Mem):Prop where
 o:aW σ y=aa (zQ y)
 n:aW σ (y+1)=aa (aM<|rC M)
 c:aW σ (y+2)=aa (aM<|iS M)
noncomputable def H3:List (bV×P):=[(.s [83],aw [af 0,af 0,af 0,aw []]),(.s [78],aw [af 0,af 1,af 0,aw []]),(.s [82],aw [af 0,af 2,af 0,aw []]),(.s [84],aw [af 0,af 3,af 0,aw []]),(.s [69],aw [af 4,af 4,af 0,aw []]),(.s [79],aw [af 4,af 5,af 0,aw []]),(.s [65],aw [af 5,af 0,af 10,aw []]),(.s [70],aw [af 5,af 10,af 3,aw []])]
def yZ(c:Nat):P:=(av H3<| .s [c]).getD .none
section
variable{xs:List P}{M:Mem}
theorem TO(h:aW σ n=aa (aM xs)):jU σ (.ob n)=aa xs:=by
 show ng aj ((aW σ n).bind O.uV)=_;refine ah h ?_;rfl
theorem W8(h:aW σ n=aa (aM xs)):vi σ (.ob n)=aa xs:=TO h
theorem L9(h:aW σ n=aa (aM xs))(hl:xs.length<=bZ)(k:Q (it xs.length) σ):ba TT NN (d+1) hd (.p<| .bi 0) [.ob n] σ Q E:=ax rfl<|ax (W8 h) ⟨hl,k⟩
theorem Ma{i:Int}{v:P}(h:aW σ n=aa (aM xs))(hi:pU xs.length i=aa j)(hj:xs[j]?=aa v)(k:Q (.p v) σ):rU (.ob n) (.p<|af i) σ Q E:=by
 have z:∀{o},o=aa xs->(match o with
  |some xs=>M.aQ (V.eX<| .p<|af i) λi=>.aQ (pU xs.length i) λj=>.aQ (xs[j]?) λv=>.ok<|V.p v
  |none=>.aQ (V.lj<| .p<|af i) λk=>match qF σ (.ob n)with
   |some es=>.aQ (av es k) λv=>.ok<|V.p v
   |none=>.aQ (yh σ<| .ob n) λes=>.aQ (av es k) λn=>.ok<|V.dy n) σ Q E:=λe=>e▸ax rfl (ax hi<|ax hj k)
 exact z<|W8 h
theorem kG{a c:Int}(h:aW σ n=aa (aM xs))(hl:xs.length<=1000)(h0:¬a<0)(h1:¬(xs.length:Int)<a+c)(k:Q (.p .none) σ):ba TT NN (d+2) hd (.p<|aI 693) [.ob n,.p<|af a,.p<|af c] σ Q E:=
 aZ rfl rfl λhc=>mn (λq=>(h0 q).elim) λ_=>hc<|L9 h (bo hl<|dc rt)<|pO (λq=>(h1 q).elim) λ_=>k
theorem Bi(hk:kd=0\/kd=4)(k:Q (it 1) σ):ba TT NN (d+1) hd (.p<|aI 272) [.p<|af kd] σ Q E:=by
 induction hk using xl with
 |inl h=>subst h;exact aZ rfl rfl λ_=>⟨⟨rt,rt⟩,bH _,⟨rt,rt⟩,bH _,⟨rt,rt⟩,bH _,k⟩
 |inr h=>subst h;exact aZ rfl rfl λ_=>⟨⟨rt,rt⟩,bH _,⟨rt,rt⟩,bH _,⟨rt,rt⟩,bH _,k⟩
theorem W9(A:CD σ y M)(k:Q (it M.R) σ):ba TT NN (d+4) hd (.p<|aI 665) [.ob y,.p<|yZ 82] σ Q E:=
 aZ rfl rfl λhc=>⟨⟨rt,rt⟩,bH _,cJ A.o (K:=eQ) rfl rt rfl<|hc<|aZ rfl rfl λhc=>hc<|Bi (bW rfl)<|hc<|kG A.n (by decide:6<=1000) (dc rt) (by decide:¬(6:Int)<2+1) ⟨⟨rt,rt⟩,bH _,hc<|aZ rfl rfl λhc=>Ma A.n rfl rfl ⟨bH _,⟨rt,rt⟩,bH _,lL rfl ⟨⟨rt,rt⟩,bH _,k⟩⟩⟩⟩
theorem tR{i:Int}{x:P}{Q:Unit->H->Prop}(h:aW σ n=aa (aM xs))(hi:0<=i/\i<xs.length/\i<10000000)(k:Q ()<|aG σ n<|aM<|xs.set i.toNat x):iA (.ob n) (.p<|af i) (.p x) σ Q E:=ax (a:=n) rfl<|ax h ⟨hi,k⟩
theorem Q8{v:P}(A:CD σ y M)(hk:kd=0\/kd=4)(ha:a<6)(k:Q (.p .none)<|aG σ (y+1)<|aM<|(rC M).set a<|aw [af kd,v]):ba TT NN (d+4) hd (.p<|aI 672) [.ob y,.p<|aw [af kd,af a,af 0,aw []],.p v] σ Q E:=by
 have h0:=kq.mpr<|gG a;have h1:¬(6:Int)<a+1:=(kq.mpr<|dp (.a (.v 0)<| .n 1) (.n 6) [(1,.a (.v 0)<| .n 1,.n 6)] rt<|cS.mpr ha)
 have h2:0<=(a:Int)/\(a:Int)<6/\(a:Int)<10000000:=(⟨dp (.n 0) (.v 0) [(1,.n 0,.v 0)] rt<|gG _,⟨dp (.a (.v 0)<| .n 1) (.n 6) [(1,.a (.v 0)<| .n 1,.n 6)] rt<|cS.mpr ha,dp (.a (.v 0)<| .n 1) (.n 10000000) [(1,.a (.v 0)<| .n 1,.n 6)] rt<|cS.mpr ha⟩⟩)
 induction hk using xl with
 |inl h=>subst h;exact aZ rfl rfl λhc=>⟨⟨rt,rt⟩,bH _,cJ A.o (K:=eQ) rfl rt rfl<|hc<|aZ rfl rfl λhc=>hc<|Bi (bW rfl)<|hc<|kG A.n (by decide:6<=1000) h0 h1 ⟨⟨rt,rt⟩,bH _,tR A.n h2 ⟨⟨rt,rt⟩,bH _,k⟩⟩⟩
 |inr h=>subst h;exact aZ rfl rfl λhc=>⟨⟨rt,rt⟩,bH _,cJ A.o (K:=eQ) rfl rt rfl<|hc<|aZ rfl rfl λhc=>hc<|Bi (bM rfl)<|hc<|kG A.n (by decide:6<=1000) h0 h1 ⟨⟨rt,rt⟩,bH _,tR A.n h2 ⟨⟨rt,rt⟩,bH _,k⟩⟩⟩
theorem amJ{p:List α->Prop}(k:∀a0 a1 a2,p [a0,a1,a2]):∀l,l.length=3->p l:=Hq λa0=>Hq λa1=>Hq λa2=>alB<|k a0 a1 a2
theorem akA{p:List α->Prop}(k:∀a0 a1 a2 a3 a4 a5 a6 a7 a8 a9,p [a0,a1,a2,a3,a4,a5,a6,a7,a8,a9]):∀l,l.length=10->p l:=Hq λa0=>Hq λa1=>Hq λa2=>Hq λa3=>Hq λa4=>Hq λa5=>Hq λa6=>Hq λa7=>Hq λa8=>Hq λa9=>alB<|k a0 a1 a2 a3 a4 a5 a6 a7 a8 a9
theorem aaH:∀y0:Tx,y0.length=10->∀Ft:Tx,Ft.length=3->∀{S N R T E' O'},CD σ y ⟨S,N,R,T,E',O',y0,Ft⟩->Q (.p<|ab Ft) σ->ba TT NN (d+4) hd (.p<|aI 665) [.ob y,.p<|yZ 70] σ Q E:=
 akA λ_ _ _ _ _ _ _ _ _ _=>amJ λ_ _ _{_ _ _ _ _ _}A k=>aZ rfl rfl λhc=>⟨⟨rt,rt⟩,bH _,cJ A.o (K:=eQ) rfl rt rfl<|hc<|aZ rfl rfl λhc=>hc<|kG A.c (by decide:13<=1000) (dc rt) (by decide:¬(13:Int)<10+3) ⟨by decide,ax (TO A.c) ⟨(jA rt),⟨rt,rt⟩,bH _,⟨(k8 rfl (jA rt)<|jA rt),k⟩⟩⟩⟩
theorem Xa(A:CD σ y M)(ok:nN M)(k:Q (.p<|ab M.F) σ):ba TT NN (d+4) hd (.p<|aI 665) [.ob y,.p<|yZ 70] σ Q E:=aaH M.A ok.A M.F ok.F A k
end
def qP(n:Nat)(t:Tx):Tx:=((t.take n).drop 0)++oY ((n:Int) - t.length)
section
variable{xs:List P}
theorem jr:(qP n t).length=n:=by
 rw[qP,cg,Ec,D9,oY,w0,Lj,wY];exact Nat.sub_add_min_cancel n t.length
theorem Mb(hn:n<=100)(ht:t.length<=100)(k:Q (.p<|ab<|qP n t) σ):ba TT NN (d+2) hd (.p<|aI 735) [.p<|ab t,.p<|af n] σ Q E:=by
 have l:t.length<=1000000:=bo ht (by decide);have h3:((t.take n).drop 0).length<=1000000/\(oY<|(n:Int) - t.length).length<=1000000:=by
  rw[Ec,D9,oY,w0,Lj];exact ⟨bo (KW _ _)<|bo hn<|by decide,bo (DZ _ _)<|bo hn<|by decide⟩
 exact aZ rfl rfl λhc=>⟨(⟨AO 0,gG n⟩),l,hc ⟨l,((k8 rfl (i7 (by decide)<|VC (gG n)<|cS.mpr ht)<|rQ (eS aB bb) aA [(1,aB,iO),(1,eC,bb)] rt (cS.mpr hn)<|gG _)),h3,k⟩⟩
theorem aaI{o v:α}{R:List α}:∀{L:List α}{i:Nat},i=L.length->(L++o::R).set i v=(L++[v])++R:=@lr _ _
 (@λ_ h=>by subst h;rfl)
 (λx L ih=>@λ_ h=>by subst h;exact congrArg (x::·)<|ih rfl)
theorem PF{b:Tx}:∀{a:Tx}{i:Nat},i=a.length->(a++c::b)[i]?=aa c:=@lr _ _
 (@λ_ h=>by subst h;rfl)
 (λx a ih=>@λ_ h=>by subst h;exact ih rfl)
theorem N9{post:List P}{Q:Fl->Env->H->Prop}{E:Env->H->Prop}(ha:a<=100):∀(t2 t1:Tx)L jN(σ:H)(rs:Env),aW σ n=aa (aM<|L++(jN++post))->L.length=a+t1.length->jN.length=t2.length->(t1++t2).length<=100->(∀m,Q bE m<|aG σ n<|aM<|L++(vX t2++post))->jf (acS ⟨TT,NN,cl,hd,lv⟩ cf 80 uh) ((jQ t1.length t2.length).map λ(k:Nat)=>P.int<|0+(k:Int)) ((166,.ob n)::(164,.p<|af a)::(6,.p<|ab<|t1++t2)::rs) σ Q E:=lr
 (λt1 L jN σ rs h hL ho hl k=>by
  obtain rfl:=K4 ho;replace k:=(fX h)▸k;exact k _)
 (λc t2 b5 t1 L jN σ rs h hL ho hl k=>by
  rcases jN with _|⟨o,jN⟩
  ·exact (DW _ ho.symm).elim
  have l:t1.length+1<=100:=by rw[cg,rO]at hl;exact cw (.a (.v 0)<| .n 1) (.n 100) [(1,.a (.v 0)<| .a (.v 1)<| .n 1,.n 100)] rt hl
  have e2:t1++c::t2=(t1++[c])++t2:=by rw[de];rfl
  have ih:=b5 (t1++[c]) (L++[ab [c]]) jN (aG σ n<|aM<|(L++[ab [c]])++(jN++post)) (aN rs 80<| .p<|af<|0+(t1.length:Int)) (cz h) (by rw[cg,hL,cg];rfl) (pA ho) (e2▸hl) λm=>by
   rw[dT,de];exact k m
  rw[cg,<-e2]at ih
  have x3:0<=(a:Int)+(0+(t1.length:Int))/\(a:Int)+(0+(t1.length:Int))<(L++((o::jN)++post)).length/\(a:Int)+(0+(t1.length:Int))<10000000:=by
   have:(L++((o::jN)++post)).length=L.length+(jN.length+1+post.length):=by rw[cg,cg];rfl
   exact (k8 (gG<|a+(0+t1.length)) (nS.mpr<|aaf (eA (eA aB<|eA eC bb) bz) G0 [(1,eA cv<|eA (eA gO bz) rR,G0),(1,eA aB bb,cv)] rt (bx this.symm)<|bx hL.symm)<|nS.mpr<|jB (cw (.a (.v 0)<| .a (.n 0)<| .v 1) (.n 200) [(1,.v 0,.n 100),(1,.a (.v 1)<| .n 1,.n 100)] rt ha l) (by decide:200<10000000))
  exact ax bQ ⟨((⟨dp (.n 0) (.a (.n 0)<| .v 0) [(1,.n 0,.v 0)] rt<|gG _,dp (.a (.a (.n 0)<| .v 0)<| .n 1) (.n 10000000) [(1,.a (.v 0)<| .n 1,.n 100)] rt<|cS.mpr l⟩)),ax (PF<|(congrArg VK<|AN _).trans<|xe _)<|ax bQ<|tR h x3<|ah (aaI<|show a+(0+t1.length)=L.length by rw[lN,hL])<|ih⟩)
theorem kQ{b:Nat}(h:b<=1000):hX (.BN 0 (b:Int))=aa ((jQ 0 b).map λ(k:Nat)=>P.int<|0+(k:Int)):=by
 show (match decide (-1000000<=(0:Int)/\(0:Int)<=1000000/\-1000000<=(b:Int)/\(b:Int)<=1000000)with|true=>aa ((AI ((b:Int) - 0).toNat).map λ(k:Nat)=>P.int<|0+(k:Int))|false=>aj)=_;rw[decide_eq_true ⟨by decide,by decide,i7 (by decide)<|gG b,cS.mpr<|bo h<|dc rt⟩,Int.sub_zero,xe,List.range_eq_range']
theorem o9{f:P->SM}{Q:Fl->Env->H->Prop}{E:Env->H->Prop}(h:v.pl.bind hX=aa xs)(k:jf f xs m σ Q E):CZ (λ(s:V)=>λm σ Q E=>match s.pl.bind hX with|some xs=>jf f xs m σ Q E|none=>False) m Q E v σ:=by
 show match v.pl.bind hX with|some xs=>jf f xs m σ Q E|none=>False
 exact h▸k
theorem vH{L jN post:List P}(h:aW σ n=aa (aM<|L++(jN++post)))(hL:L.length=a)(ho:jN.length=t.length)(ha:a<=100)(ht:t.length<=100)(hp:(L++(jN++post)).length<=1000)(k:Q (.p .none)<|aG σ n<|aM<|L++(vX t++post)):ba TT NN (d+3) ak (.p<|aI 728) [.ob n,.p<|af a,.p<|ab t] σ Q E:=by
 have h2:¬((L++(jN++post)).length:Int)<(a:Int)+(t.length:Int):=by
  exact ah cg<|ah cg<|Int.not_lt.mpr<|ams (eA gO rR) (eA aB<|eA bb cv) [(1,gO,aB),(1,rR,bb),(1,eC,cv)] rt (cS.mpr<|bx hL.symm) (cS.mpr<|bx ho.symm)<|gG _
 exact aZ rfl rfl λhc=>hc ⟨(bo ht<|dc rt),hc<|kG h hp ((kq.mpr<|dp eC aB [(1,eC,aB)] rt<|gG _)) h2<|hc ⟨(bo ht<|dc rt),hc<|o9 (kQ<|bo ht<|dc rt)<|N9 ha t [] L jN σ [] h hL ho ht λm=>k⟩⟩
theorem vY{a b:Tx}:vX (a++b)=vX a++vX b:=uM
theorem vZ:(vX t).length=t.length:=cq _
theorem PG{M:Mem}(A:CD σ y M)(ok:nN M)(ht:t.length<=100)(k:Q (.p .none)<|aG σ (y+2)<|aM<|iS {M with A:=qP 10 t}):ba TT NN (d+4) ak (.p<|aI 672) [.ob y,.p<|yZ 65,.p<|ab t] σ Q E:=by
 have e:iS M=[]++(vX M.A++vX M.F):=vY;have e':iS {M with A:=qP 10 t}=[]++(vX (qP 10 t)++vX M.F):=vY;rw[e']at k;exact aZ rfl rfl λhc=>⟨⟨rt,rt⟩,bH _,cJ A.o (K:=eQ) rfl rt rfl<|hc<|Mb (n:=10) (dc rt) ht<|hc<|vH (a:=0) (L:=[]) (e▸A.c) rfl (by refine ah vZ<|ah ok.A<|ah jr ?_;rfl) (dc rt) (by refine ah jr ?_;decide) (by refine ah e.symm ?_;rw[iS,vZ,cg,ok.A,ok.F];decide) k⟩
theorem aaJ{M:Mem}(A:CD σ y M)(ok:nN M)(ht:t.length<=100)(k:Q (.p .none)<|aG σ (y+2)<|aM<|iS {M with F:=qP 3 t}):ba TT NN (d+4) ak (.p<|aI 672) [.ob y,.p<|yZ 70,.p<|ab t] σ Q E:=by
 have e:iS M=vX M.A++(vX M.F++[]):=vY.trans (by rw[fc]);have e':iS {M with F:=qP 3 t}=vX M.A++(vX (qP 3 t)++[]):=vY.trans (by rw[fc]);rw[e']at k;exact aZ rfl rfl λhc=>⟨⟨rt,rt⟩,bH _,cJ A.o (K:=eQ) rfl rt rfl<|hc<|Mb (n:=3) (dc rt) ht<|hc<|vH (a:=10) (e▸A.c) (by refine ah vZ<|ah ok.A ?_;rfl) (by refine ah vZ<|ah ok.F<|ah jr ?_;rfl) (dc rt) (by refine ah jr ?_;decide) (by refine ah e.symm ?_;rw[iS,vZ,cg,ok.A,ok.F];decide) k⟩
end
def wo(y:Nat)(aV:H)(M:Mem):H:=aG (aG aV (y+1)<|aM<|rC M) (y+2)<|aM<|iS M
def MW(y x:Nat)(aV:H)(M:Mem)(W:Wd):H:=HW x (wo y aV M) W
structure Lq(y x:Nat)(aV:H):Prop where
 l:x+3<aV.length
 m:aW aV y=aa (zQ y)
 y9:9<y
 yx:y+2<x
structure Lm(y x:Nat)(aV:H):Prop where
 w:qM x aV
 q:Lq y x aV
section
variable{W:Wd}
theorem Mc(h:k<aV.length)(h3:x+2≠k)(h4:x+3≠k):aG (HW x aV W) k o=HW x (aG aV k o) W:=by
 rw[HW,wi<|xx h,dA (k:=k) h4,dA (k:=k) h3,HW,ej]
theorem lA{M:Mem}:(wo y aV M).length=aV.length:=(ej _ _ _).trans<|ej _ _ _
theorem tg{M:Mem}(h1:y+1≠k)(h2:y+2≠k):aW (wo y aV M) k=aW aV k:=(ay h2).trans<|ay h1
theorem Lm.lo{M:Mem}(L:Lm y x aV):qM x (wo y aV M):=
 have e3:=L.w.l
 ⟨(tg (λh_=>eH 0<|cw bz eC [(1,eA iP bz,bb),(1,bb,eA aB bz)] rt L.q.yx<|bx h_.symm) λh_=>eH 0<|cw bz eC [(1,eA iP bz,bb),(1,bb,eA aB g9)] rt L.q.yx<|bx h_.symm).trans L.w.w,(tg (λh_=>eH 0<|cw bz eC [(1,eA iP bz,bb),(1,eA bb bz,eA aB bz)] rt L.q.yx<|bx h_.symm) λh_=>eH 0<|cw bz eC [(1,eA iP bz,bb),(1,eA bb bz,eA aB g9)] rt L.q.yx<|bx h_.symm).trans L.w.s,(lA.symm▸L.w.l),(tg (λh_=>eH 0<|dj bz eC [(1,eA pK bz,aB),(1,eA aB bz,kC)] rt L.q.y9<|bx h_) λh_=>eH 0<|dj bz eC [(1,eA pK bz,aB),(1,eA aB g9,kC)] rt L.q.y9<|bx h_).trans L.w.f8,(tg (λh_=>eH 0<|dj bz eC [(1,eA pK bz,aB),(1,eA aB bz,pK)] rt L.q.y9<|bx h_) λh_=>eH 0<|dj bz eC [(1,eA pK bz,aB),(1,eA aB g9,pK)] rt L.q.y9<|bx h_).trans L.w.f9,L.w.x9⟩
theorem Md{M:Mem}(h:k<aV.length)(h1:y+1≠k)(h2:y+2≠k)(h3:x+2≠k)(h4:x+3≠k):aW (MW y x aV M W) k=aW aV k:=(u3 (lA.symm▸h) h3 h4).trans<|tg h1 h2
theorem EV{M:Mem}(h:k<aV.length)(h1:y+1≠k)(h2:y+2≠k)(h3:x+2≠k)(h4:x+3≠k):aG (MW y x aV M W) k o=MW y x (aG aV k o) M W:=by
 delta MW;refine ah (Mc (by refine ah lA ?_;exact h) h3 h4) ?_;delta wo;refine ah (dA (k:=k) h2)<|ah (dA (k:=k) h1) ?_;rfl
theorem Lq.mem{M:Mem}(L:Lq y x aV):CD (MW y x aV M W) y M:=
 have e1:=L.y9;have e2:=L.yx;have e3:=L.l
 ⟨(Md (gS eI cv [(1,eA iP bz,bb),(1,eA (eA bb l5) bz,cv)] rt e2 e3) (λh_=>eH 0<|dj bz eC [(1,eA aB bz,aB)] rt<|bx h_) (λh_=>eH 0<|dj bz eC [(1,eA aB g9,aB)] rt<|bx h_) (λh_=>eH 0<|cw bz eC [(1,eA iP bz,bb),(1,eA bb g9,aB)] rt e2<|bx h_) λh_=>eH 0<|cw bz eC [(1,eA iP bz,bb),(1,eA bb l5,aB)] rt e2<|bx h_).trans L.m,
  (u3 (ah lA<|gS mh cv [(1,eA iP bz,bb),(1,eA (eA bb l5) bz,cv)] rt e2 e3) (λh_=>eH 0<|cw bz eC [(1,eA iP bz,bb),(1,eA bb g9,eA aB bz)] rt e2<|bx h_) λh_=>eH 0<|cw bz eC [(1,eA iP bz,bb),(1,eA bb l5,eA aB bz)] rt e2<|bx h_).trans ((ay λh_=>eH 0<|dj bz eC [(1,eA aB g9,eA aB bz)] rt<|bx h_).trans<|iG<|gS mh cv [(1,eA iP bz,bb),(1,eA (eA bb l5) bz,cv)] rt e2 e3),
  (u3 (ah lA<|gS (eA iP bz) cv [(1,eA iP bz,bb),(1,eA (eA bb l5) bz,cv)] rt e2 e3) (λh_=>eH 0<|cw bz eC [(1,eA iP bz,bb),(1,eA bb g9,eA aB g9)] rt e2<|bx h_) λh_=>eH 0<|cw bz eC [(1,eA iP bz,bb),(1,eA bb l5,eA aB g9)] rt e2<|bx h_).trans (iG<|by rw[ej];exact gS (eA iP bz) cv [(1,eA iP bz,bb),(1,eA (eA bb l5) bz,cv)] rt e2 e3)⟩
theorem akB{M:Mem}(L:Lq y x aV)(h:iS M'=iS M):aG (MW y x aV M W) (y+1) (aM<|rC M')=MW y x aV M' W:=by
 have e1:=L.y9;have e3:=L.l;delta MW;rw[Mc (by exact ah lA<|gS mh cv [(1,eA iP bz,bb),(1,eA (eA bb l5) bz,cv)] rt L.yx e3) (by exact λh_=>eH 0<|cw bz eC [(1,eA iP bz,bb),(1,eA bb g9,eA aB bz)] rt L.yx<|bx h_) (by exact λh_=>eH 0<|cw bz eC [(1,eA iP bz,bb),(1,eA bb l5,eA aB bz)] rt L.yx<|bx h_),wo,dA (n:=y+2) (k:=y+1) λh_=>eH 0<|dj bz eC [(1,eA aB g9,eA aB bz)] rt<|bx h_,dT,<-h];rfl
theorem adS{M:Mem}(L:Lq y x aV)(h:rC M'=rC M):aG (MW y x aV M W) (y+2) (aM<|iS M')=MW y x aV M' W:=by
 have e1:=L.y9;have e3:=L.l;delta MW;rw[Mc (by exact ah lA<|gS (eA iP bz) cv [(1,eA iP bz,bb),(1,eA (eA bb l5) bz,cv)] rt L.yx e3) (by exact λh_=>eH 0<|cw bz eC [(1,eA iP bz,bb),(1,eA bb g9,eA aB g9)] rt L.yx<|bx h_) (by exact λh_=>eH 0<|cw bz eC [(1,eA iP bz,bb),(1,eA bb l5,eA aB g9)] rt L.yx<|bx h_),wo,dT,<-h];rfl
def St(hd:Bool)(c:Nat)(v:P)(M M':Mem):Prop:=∀y x aV,Lq y x aV->∀W d Q E,Q (.p .none) (MW y x aV M' W)->ba TT NN (d+4) hd (.p<|aI 672) [.ob y,.p<|yZ c,.p v] (MW y x aV M W) Q E
theorem xH{v:P}{M:Mem}(hp:yZ c=aw [af kd,af a,af 0,aw []])(hk:kd=0\/kd=4)(ha:a<6)(hn:(rC M).set a (aw [af kd,v])=rC M')(hc:iS M'=iS M):St hd c v M M':=λy x aV L W d Q E k=>hp▸Q8 L.mem hk ha (ah hn<|ah (akB L hc)<|k)
theorem ZZ{i:Int}{M:Mem}:St hd 83 (af i) M {M with S:=i}:=xH (kd:=0) rfl (bW rfl) (dc rt) rfl rfl
theorem adT{M:Mem}(L:Lq y x aV):aG (MW y x aV M W) 9 o=MW y x (aG aV 9 o) M W:=
 have e1:=L.y9;have e2:=L.yx;have e3:=L.l
 EV (gS (eA pK bz) cv [(1,eA pK bz,aB),(1,eA iP bz,bb),(1,eA (eA bb l5) bz,cv)] rt e1 e2 e3) (λh_=>eH 0<|dj bz eC [(1,eA pK bz,aB),(1,eA aB bz,pK)] rt e1<|bx h_) (λh_=>eH 0<|dj bz eC [(1,eA pK bz,aB),(1,eA aB g9,pK)] rt e1<|bx h_) (λh_=>eH 0<|cw bz eC [(1,eA pK bz,aB),(1,eA iP bz,bb),(1,eA bb g9,pK)] rt e1 e2<|bx h_) (λh_=>eH 0<|cw bz eC [(1,eA pK bz,aB),(1,eA iP bz,bb),(1,eA bb l5,pK)] rt e1 e2<|bx h_)
theorem Lq.ex(L:Lq y x aV):Lq y x (aG aV 9 o):=⟨by rw[ej];exact L.l,(ay<|m7 L.y9).trans L.m,L.y9,L.yx⟩
theorem aaK{M:Mem}(L:Lm y x aV):aG (MW y x (aG aV 9 o) M W) 9 ae=MW y x aV M W:=by
 refine ah (adT L.q.ex)<|ah dT<|ah (fX L.w.f9) ?_;rfl
noncomputable def qQ (i:Nat):Nat:=[69,79,78,82,84,65,70,65].getD i 0
noncomputable def P.bD:P->Bool->Bool|ei b,_=>b|_,d=>d
noncomputable def P.iD:P->Int->Int|af i,_=>i|_,d=>d
def P.tD(n:Nat):P->Tx->Tx|ab t,_=>qP n t|_,d=>d
def rz(i:Nat)(v:P)(M:Mem):Mem:=[{M with E:=v.bD M.E},{M with O:=v.bD M.O},{M with N:=v.iD M.N},{M with R:=v.iD M.R},{M with T:=v.iD M.T},{M with A:=v.tD 10 M.A},{M with F:=v.tD 3 M.F},{M with A:=v.tD 10 M.A}].getD i M
theorem Bx{M:Mem}(h:i<8):rz i .none M=M:=Il (p:=λi=>rz i .none M=M) rfl rfl rfl rfl rfl rfl rfl rfl i h
theorem EW{M:Mem}{v:P}(ok:nN M)(h:i<8):Q6 i v->nN (rz i v M)/\St ak (qQ i) v M (rz i v M):=
 Il (p:=λi=>Q6 i v->nN (rz i v M)/\St ak (qQ i) v M (rz i v M))
  (λh=>h.elim λb e=>e▸⟨⟨ok.A,ok.F,ok.R⟩,xH (a:=4) (kd:=4) rfl (bM rfl) (dc rt) rfl rfl⟩)
  (λh=>h.elim λb e=>e▸⟨⟨ok.A,ok.F,ok.R⟩,xH (a:=5) (kd:=4) rfl (bM rfl) (dc rt) rfl rfl⟩)
  (λh=>h.elim λb e=>e▸⟨⟨ok.A,ok.F,ok.R⟩,xH (a:=1) (kd:=0) rfl (bW rfl) (dc rt) rfl rfl⟩)
  (λh=>h.elim λb e=>e.1▸⟨⟨ok.A,ok.F,e.2⟩,xH (a:=2) (kd:=0) rfl (bW rfl) (dc rt) rfl rfl⟩)
  (λh=>h.elim λb e=>e▸⟨⟨ok.A,ok.F,ok.R⟩,xH (a:=3) (kd:=0) rfl (bW rfl) (dc rt) rfl rfl⟩)
  (λh=>h.elim λt e=>e.1▸⟨⟨jr,ok.F,ok.R⟩,λy x aV L W d Q E k=>PG L.mem ok e.2<|by rw[adS L<|by exact rfl];exact k⟩)
  (λh=>h.elim λt e=>e.1▸⟨⟨ok.A,jr,ok.R⟩,λy x aV L W d Q E k=>aaJ L.mem ok e.2<|by exact ah (adS L<|by exact rfl)<|k⟩)
  (λh=>h.elim λt e=>e.1▸⟨⟨jr,ok.F,ok.R⟩,λy x aV L W d Q E k=>PG L.mem ok e.2<|by rw[adS L<|by exact rfl];exact k⟩) i h
end
inductive Ar where|js (k:Int) (v:P)|m4 (k:Int) (c:Nat)|bf (n:Int)
def jV:Ar->P
 | .js k v=>aw [ab uZ,af k,v]
 | .m4 k c=>aw [ab yj,af k,ab [c]]
 | .bf n=>af n
abbrev v3:=Tx×Ar
noncomputable def nu (M:Mem):Ar->P
 | .js _ v=>v
 | .m4 _ c=>match dk c 82 with|true=>af M.R|false=>ab M.F
 | .bf n=>af n
def vn:Ar->Prop| .js k v=>k=0/\∃i:Int,v=af i/\i<10| .m4 k c=>k=0/\c=82| .bf _=>False
def gC:Ar->Prop| .js k v=>k=5/\∃t:Tx,v=ab t/\t.length<=100| .m4 k c=>k=5/\c=70| .bf _=>False
structure IB(e:v3):Prop where
 h:cO (ab e.1) [ab bU,ab pL,ab cQ]=ak
 f:cL (ab e.1) (ab EI)=ak
 n:cO (ab e.1) [ab cM,ab fH]=ag->vn e.2
 t:cO (ab e.1) [ab cM,ab fH]=ak->gC e.2
section
variable{W:Wd}{M:Mem}
theorem vn.val{a:Ar}(h:vn a)(ok:nN M):∃i,nu M a=af i/\i<10:=match a,h with
 | .js k v,h=>h.2
 | .m4 k c,h=>by obtain ⟨rfl,rfl⟩:=h;exact (b0 _ rfl ok.R)
theorem gC.val{a:Ar}(h:gC a)(ok:nN M):∃t,nu M a=ab t/\t.length<=100:=match a,h with
 | .js k v,h=>h.2
 | .m4 k c,h=>by obtain ⟨rfl,rfl⟩:=h;exact (b0 _ rfl<|by refine ah ok.F ?_;decide)
def d0(M:Mem)(ps:List v3):List (bV×P):=ps.map λe=>(.s e.1,nu M e.2)
section
variable{b b' l:List (bV×A)}{v:A}
theorem JM:∀{l:List (bV×A)}{b b'},av b kk=av b' kk->av (cn b l) kk=av (cn b' l) kk:=@lr _ _
 (@λ_ _ h=>h)
 (@pr _ _ _ (λj w l ih=>@λb b' h=>ih (by
  by_cases q:kk=j
  ·subst q;refine ah jq<|ah jq ?_;rfl
  ·refine ah (gp q)<|ah (gp q)<|ah h ?_;rfl)))
theorem yp:∀{l b},av (cn b l) kk=aa v->(kk,v)∈l\/av b kk=aa v:=@lr _ _
 (@λ_ h=>bM h)
 (@pr _ _ _ (λj w l ih=>@λb h=>(ih h).elim (λh=>bW<|aS _ h) λh=>by
  by_cases q:kk=j
  ·subst q
   rw[jq]at h;obtain rfl:=fh h;exact bW<|bt _
  ·have h:av (aN b j w) kk=aa v:=h
   rw[gp q]at h;exact bM h))
theorem y3:∀{l b:List (bV×A)},(av b kk).isSome=ag\/(∃v,(kk,v)∈l)->(av (cn b l) kk).isSome=ag:=@lr _ _
 (@λ_ h=>h.elim id λh=>h.elim λv h=>nomatch h)
 (@pr _ _ _ (λj w l ih=>@λb h=>ih (by
  by_cases q:kk=j
  ·subst q;left;refine ah jq ?_;rfl
  ·exact h.imp (λh=>by exact ah (gp q)<|h) λh=>h.imp λv h=>(dU.mp h).resolve_left λe=>q (sE e).1)))
theorem BR:∀{l b:List (bV×A)},(cn b l).length<=b.length+l.length:=@lr _ _
 (@λ_=>gj _)
 (@pr _ _ _ (λj w l ih=>@λb=>bo (ih) (by
  have:=o8 (es:=b) (k:=j) (v:=w);exact gS (eA aB cv) (eA bb Dj) [(1,aB,eA bb bz)] rt this)))
theorem BS{p:bV->Prop}:∀{l b:List (bV×A)},(∀e∈b,p e.1)->(∀e∈l,p e.1)->∀e∈cn b l,p e.1:=@lr _ _
 (@λ_ h _=>h)
 (@pr _ _ _ λj w l ih=>@λb h h'=>ih (λe q=>(Gr q).elim (λq=>q▸h' (j,w) (bt _))<|h e) λe q=>h' e<|aS _ q)
end
theorem afi:∀{es:List (bV×P)},(∀e∈es,∃t:Tx,e.1=.s t)->∃l:List Tx,es.map (·.1)=l.map .s/\l.length=es.length:=@lr _ _
 (@λ_=>(b0 [] rfl rfl))
 (λe es ih=>@λh=>(ih λe q=>h e<|aS _ q).elim λl z=>(h e<|bt _).elim λt y=>(b0 (t::l) (by exact ah oP<|ah oP<|ah y<|ah z.1 rfl)<|congrArg (·+1) z.2))
def akC(es:List<|bV×P):Ow:=⟨(av es<| .s eW).bind P.sV,(av es<| .s fL).bind P.sV,(av es<| .s k6).bind P.sV,(av es<| .s gy).bind P.sV,(av es<| .s dV).bind P.sV,(av es<| .s fH).bind P.ED⟩
structure dB(b:List<|bV×P):Prop where
 s:∀e∈b,∃t:Tx,e.1=.s t
 l:b.length<=100
 n:∀w,cO (ab w) [ab bU,ab cQ]=ak->av b (.s w)=aj
theorem IC{ps:List v3}(hp:∀e∈ps,IB e)(ok:nN M){v:P}(h:av (cn []<|d0 M ps) (.s w)=aa v):(cO (ab w) [ab cM,ab fH]=ag->∃i,v=af i/\i<10)/\(cO (ab w) [ab cM,ab fH]=ak->∃t,v=ab t/\t.length<=100):=by
 refine cE (nQ.mp<|(yp h).resolve_right λq=>nomatch q) λe he q=>?_;cases q;exact ⟨λq=>((hp e he).n q).val ok,λq=>((hp e he).t q).val ok⟩
theorem aaL{ps:List v3}(hp:∀e∈ps,IB e)(ok:nN M)(hw:cO (ab w) [ab cM,ab fH]=ak):av (cn []<|d0 M ps) (.s w)=((av (cn []<|d0 M ps)<| .s w).bind P.sV).map ab/\Iq ((av (cn []<|d0 M ps)<| .s w).bind P.sV):=by
 refine oc (av (cn []<|d0 M ps)<| .s w) (λq=>ah q<|⟨rfl,λt h=>nomatch h⟩) λv q=>?_
 ·refine ah q<|cE ((IC hp ok q).2 hw) λt w1 h=>?_;subst w1;exact ⟨rfl,λt' e=>cP e▸h⟩
theorem aaM{ps:List v3}(hp:∀e∈ps,IB e)(ok:nN M)(hw:cO (ab w) [ab cM,ab fH]=ag):av (cn []<|d0 M ps) (.s w)=((av (cn []<|d0 M ps)<| .s w).bind P.ED).map af/\∀i,((av (cn []<|d0 M ps)<| .s w).bind P.ED)=aa i->i<10:=by
 refine oc (av (cn []<|d0 M ps)<| .s w) (λq=>ah q<|⟨rfl,λt h=>nomatch h⟩) λv q=>?_
 ·refine ah q<|cE ((IC hp ok q).1 hw) λt w1 h=>?_;subst w1;exact ⟨rfl,λt' e=>cP e▸h⟩
theorem aaN{ps:List v3}(F:WF N W)(hN:N<=58)(hp:∀e∈ps,IB e)(hl:ps.length<=20)(ok:nN M)(ha:(∃a,(cM,a)∈ps)\/(aE=bm/\∃a,(dV,a)∈ps)):∃(W':Wd)(r:Except Int P),WF (N+2) W'/\(∀p,r=.ok p->cL (ab aE) (ab bm)=ag->zO p)/\∀b,dB b->∀x aV,qM x aV->∀d Q E,M8 Q E (HW x aV W') r->ba TT NN (d+6) ak (.p<|aI 588) [.ob x,.p<|ab aE,.p<|ju<|cn b<|d0 M ps] (HW x aV W) Q E:=by
 have T:=λw(hw:cO (ab w) [ab cM,ab fH]=ak)=>aaL (w:=w) hp ok hw;have U:=λw(hw:cO (ab w) [ab cM,ab fH]=ag)=>aaM (w:=w) hp ok hw;have mem:∀w,(∃a,(w,a)∈ps)->(av (cn []<|d0 M ps)<| .s w).isSome=ag:=λw h=>y3<|bM<|h.elim λa h=>⟨_,Ld h⟩;have tl:ag4 aE ((av (cn []<|d0 M ps)<| .s cM).bind P.ED) (akC<|cn []<|d0 M ps):={
  ok:=⟨(T _<|by decide+kernel).2,(T _<|by decide+kernel).2,(T _<|by decide+kernel).2,(T _<|by decide+kernel).2,(T _<|by decide+kernel).2,(U _<|by decide+kernel).2⟩
  lo:=(U cM<|by decide+kernel).2
  any:=ha.imp (λh=>by
   have q:=(U cM<|by decide+kernel).1;have z:=mem _ h;rw[q,J7]at z;exact m6.mp z) λh=>⟨h.1,by
   have q:=(T dV<|by decide+kernel).1;have z:=mem _ h.2;rw[q,J7]at z;exact m6.mp z⟩}
 refine eh λcy bk=>oi (aaG F hN tl) λW' r F' hA R=>bk<|(gZ W' r F' hA λb hb x aV L d Q E k=>R _ _ ?_ x aV L d Q E k)
 have jx:∀w,cO (ab w) [ab bU,ab cQ]=ak->av (((cn b<|d0 M ps).map (·.1)).zip<|(cn b<|d0 M ps).map (·.2)) (.s w)=av (cn []<|d0 M ps) (.s w):=λw hw=>ah d7<|JM<|hb.n w hw
 obtain ⟨l,h1,h2⟩:=afi (es:=cn b<|d0 M ps) (BS (p:=λk=>∃t:Tx,k=.s t) hb.s λe q=>by obtain ⟨e',_,rfl⟩:=nQ.mp q;exact ⟨_,rfl⟩)
 exact {
  w:=⟨(jx _<|by decide+kernel).trans (T _<|by decide+kernel).1,(jx _<|by decide+kernel).trans (T _<|by decide+kernel).1,(jx _<|by decide+kernel).trans (T _<|by decide+kernel).1,(jx _<|by decide+kernel).trans (T _<|by decide+kernel).1,(jx _<|by decide+kernel).trans (T _<|by decide+kernel).1,(jx _<|by decide+kernel).trans (U _<|by decide+kernel).1⟩
  un:=(jx _<|by decide+kernel).trans (U _<|by decide+kernel).1
  len:=by rw[cq,cq];exact sw _
  alC:=(b0 l h1 (by
   refine ah h2 ?_;have:=BR (b:=b) (l:=d0 M ps);have:=hb.l;have:(d0 M ps).length=ps.length:=cq _;exact qE bb aA [(1,aB,lZ),(1,bb,eA cv gO),(1,cv,iO),(1,gO,aB)] rt hl (by assumption) (by assumption)<|bx this))}
end
inductive En where|yq|yr (n:Int)|d4 (t:Tx) (a:Ar)|l7 (i:Nat)
noncomputable def H4 (i:Nat):Int:=[4,4,0,0,0,5,5,5].getD i 0
def pW:En->Tx| .yq=>bU| .yr _=>cQ| .d4 t _=>t| .l7 i=>gT i
def ID:En->P| .yq=>jV (.m4 0 83)| .yr n=>af n| .d4 _ a=>jV a| .l7 i=>jV<| .m4 (H4 i)<|qQ i
noncomputable def bG:List En->List v3|[]=>[]|e::es=>match e with| .d4 t a=>(t,a)::bG es|_=>bG es
noncomputable def fO:List En->List Nat|[]=>[]|e::es=>match e with| .l7 i=>i::fO es|_=>fO es
def dE(es:List En):List (bV×P):=es.map λe=>(.s<|pW e,ID e)
def m5(es:List En):P:=ju<|dE es
def cG(es:List En):Bool:=(av (dE es)<| .s bU).isSome
def IE(es:List En)(i:Nat):Bool:=(av (dE es)<| .s<|gT i).isSome
def qR(aE:Tx):En->Prop
 | .d4 t a=>IB (t,a)/\(cL (ab aE) (ab bm)=ag->cO (ab t) [ab cM,ab dV]=ag)
 | .l7 i=>i<8/\cL (ab aE) (ab bm)=ag
 |_=>True
structure jO(aE:Tx)(es:List En):Prop where
 ok:∀e∈es,qR aE e
 co:∀e∈es,av (dE es) (.s<|pW e)=aa (ID e)
 un:(∃a,(cM,a)∈bG es)\/(aE=bm/\∃a,(dV,a)∈bG es)
 len:es.length<=20
 cm:cL (ab aE) (ab bm)=ag->∀(v:Nat->P)M,(fO es).foldl (λM i=>rz i (v i) M) M=[0,1,2,3,4,5,6,7].foldl (λM i=>cond (IE es i) (rz i (v i) M) M) M
section
variable{W:Wd}
theorem afj(h:aW σ n=aa o):iI TT NN (.ob n) i σ=iI TT NN (.ob 0) i [o]:=by
 have z:∀{oo},oo=aa o->(match ng aj (oo.bind O.uV)with
  |some _=>Pq [(NN.append,0),(NN.EG,1),(NN.xq,2)] 0 i
  |none=>match ng ((ng aj<|oo.bind O.Ih).map λ_=>()) ((oo.bind O.yS).map λ_=>())with
   |some _=>Pq [(NN.EG,1),(NN.kM,3)] 1 i
   |none=>match oo.bind O.EE with
    |some cf=>match TT.cls cf.1 with
     |some d=>match d.d5||(av cf.2 i).isSome with
      |true=>aj
      |false=>match av d.tG i with
       |some a=>match (TT.fn a).isSome with|true=>aa (MK.cY a)|false=>aj
       |none=>aj
     |none=>aj
    |none=>aj)=iI TT NN (.ob 0) i [o]:=λe=>by refine ah e ?_;rfl
 exact z h
theorem b8{mk:MK}{f:MK->M α}{Q:α->H->Prop}(h:aW σ n=aa o)(e:iI TT NN (.ob 0) i [o]=aa mk)(k:f mk σ Q E):M.aQ (iI TT NN (.ob n) i σ) f σ Q E:=ax ((afj h).trans e) k
theorem Ya{M:Mem}{a:Ar}(L:Lq y x aV)(ok:nN M)(h:vn a\/gC a)(k:Q (.p<|nu M a)<|MW y x aV M W):ba TT NN (d+5) hd (.p<|aI 1053) [.ob y,.p<|jV a] (MW y x aV M W) Q E:=by
 cases a with
 |js kd v=>exact aZ rfl rfl λhc=>⟨⟨rt,rt⟩,bH _,k⟩
 |m4 kd c=>
  induction h using xl with
  |inl h=>obtain ⟨rfl,rfl⟩:=h;exact aZ rfl rfl λhc=>⟨⟨rt,rt⟩,bH _,b8 L.mem.o (mk:=.cY 665) rfl<|hc<|W9 L.mem k⟩
  |inr h=>obtain ⟨rfl,rfl⟩:=h;exact aZ rfl rfl λhc=>⟨⟨rt,rt⟩,bH _,b8 L.mem.o (mk:=.cY 665) rfl<|hc<|Xa L.mem ok k⟩
 |bf n=>exact h.elim oU oU
def ag5(nm:Nat)(Q:Fl->Env->H->Prop):Fl->Env->H->Prop:=λfl uY oy=>match noRef 9 (cW uY nm)&&zr 9 fl with|true=>Q fl (cW uY nm) (aG oy 9 ae)|false=>False
def M9(cl:V->List V->M V)(cf:Bool->V->List V->M V)(nm:Nat)(hb:S)(Q:Fl->Env->H->Prop)(E:Env->H->Prop):Env->H->Prop:=λm' bP=>match mH TT bP with
 |true=>iR ⟨TT,NN,cf ag,ag,3⟩ cf hb (aN m' nm<| .ob 9) bP (ag5 nm Q) λuY oy=>E (cW uY nm) oy
 |false=>False
theorem Mf{nm:Nat}{body hb:S}{Q:Fl->Env->H->Prop}{E:Env->H->Prop}(f9:aW σ 9=aa ae)(k:ez cl cf body m σ Q<|M9 cl cf nm hb Q E):ez cl cf (.vh body (aa nm) hb) m σ Q E:=(λe=>e▸k:∀{oo},oo=aa ae->(match oo.map O.ig with|some ag=>ez cl cf body m σ Q (M9 cl cf nm hb Q E)|_=>False)) f9
noncomputable abbrev sW (t:Tx) (c:Int):O:=.jm 82 [(6,ab t),(7,af c)]
theorem Gu{nm:Nat}{hb:S}{Q:Fl->Env->H->Prop}{E:Env->H->Prop}{c:Int}(h:aW σ 9=aa (sW t c))(k:iR ⟨TT,NN,cf ag,ag,3⟩ cf hb (aN m nm<| .ob 9) σ (ag5 nm Q) λuY oy=>E (cW uY nm) oy):M9 cl cf nm hb Q E m σ:=by
 have e:mH TT σ=ag:=by
  exact (λe=>by refine ah e ?_;rfl:∀{oo},oo=aa (sW t c)->(match oo.bind O.QA with|some e=>(match TT.cls e.1 with|some k=>k.d5&&k.mro.contains ou|none=>ak)|none=>ak)=ag) h
 delta M9;rw[e];exact k
theorem adU{c:Int}{v:P}(h:aW σ n=aa (sW t c))(hf:qK.fields.contains i=ag)(hv:av [(6,P.str t),(7,af c)] i=aa v)(k:Q (.p v) σ):getAttr TT (.ob n) i σ Q E:=by
 have z:∀{oo},oo=aa (sW t c)->M.aQ oo (λob=>match ob with|bJ c fs=>field TT ak c i (.aQ (av fs i) .ok)| .jm c fs=>field TT ag c i (.aQ (av fs i) λx=>.ok<|V.p x)|_=>.no) σ Q E:=λe=>by
  refine ah e ?_;show field TT ag 82 i (.aQ (av [(6,P.str t),(7,af c)] i) λx=>.ok<|V.p x) σ Q E;exact ax (a:=qK) rfl (qL (by refine ah hf ?_;rfl)<|ax hv k)
 exact z h
end
def zR(aE:Tx)(l:List En):List En:=l.filter λe=>cond (cL (ab aE)<|ab bm) (cO (ab<|pW e) [ab cM,ab dV]) ag
def na(l:List En):List P:=l.map λe=>ab<|pW e
def zw(M:Mem)(ps:List v3):List P:=ps.map λe=>aw [ab e.1,nu M e.2]
section
variable{W:Wd}{al:List P}
theorem yt{y:P}{Q:Bool->H->Prop}(hy:cK 8 y=ag)(hx:dS 8 al=ag)(k1:cO y al=ag->Q ag σ)(k2:cO y al=ak->Q ak σ):hV .jh (.p y) (.p<|aw al) σ (hM fU Q E) E:=⟨⟨hy,hx⟩,pN k1 k2⟩
theorem By{l:List En}{acc:List P}:acc++na (e::l)=(acc++[ab<|pW e])++na l:=by rw[de];rfl
theorem Yb(hm:∀v,av (aN m 37 v) 36=aa (.p<|ab aE)):∀l acc,acc.length+l.length<=1000->Q (.p<|aL<|acc++na (zR aE l)) σ->iQ (λx=>.bind (ni ⟨TT,NN,cl,hd,lv⟩ (aN m 37<| .p x)<| .cons (.aam<| .cons (.BO .ne (bC 36)<|dN<|ab bm)<| .cons (.BO .jh (bC 37)<| .tuple<| .cons (dN<|ab cM)<| .cons (dN<|ab dV) .nil) .nil) .nil) λb=>lw b<| .bind (eP ⟨TT,NN,cl,hd,lv⟩ (aN m 37<| .p x)<|bC 37) λv=>.aQ v.pl .ok) acc (na l) σ Q E:=lr
 (@λacc _ k=>by (delta zR at k;rw[Eb,show acc++na []=acc from fc _]at k);exact k)
 (λe l b5=>@λacc hl k=>by
  have b1:acc.length<=bZ:=bo (bo (gf _ _) hl)<|dc rt;have b2:∀v:P,(acc++[v]).length+l.length<=1000:=λv=>by refine ah cg ?_;exact cw mX aA [(1,eA aB ie,aA)] rt hl
  refine ax (hm _)<|H0 (x:=ab aE) (y:=ab bm) rt rt (λq=>ax bQ<|yt rt rt (λq2=>?_) λq2=>?_) λq=>?_
  ·rw[zR,D5 (by exact ah q<|q2),By]at k
   exact ax bQ ⟨b1,(λacc=>b5 acc) _ (b2 _) k⟩
  ·rw[zR,K7<|by refine ah q ?_;exact q2▸fF]at k
   exact (b5) _ (bo (vd (kZ _) _) hl) k
  ·(rw[zR,D5<|by refine ah q ?_;rfl]at k;replace k:=By▸k)
   exact ax bQ ⟨b1,(λacc=>b5 acc) _ (b2 _) k⟩)
theorem adV{x a b c:P}(h:cO x [a,b,c]=ak):cO x [a,c]=ak:=by
 have h:(cL a x||(cL b x||(cL c x||false)))=ak:=h;show (cL a x||(cL c x||false))=ak;revert h;cases cL a x<;>cases cL b x<;>cases cL c x<;>decide
theorem IB.arg{e:v3}(h:IB e):vn e.2\/gC e.2:=bc (cO (ab e.1) [ab cM,ab fH]) (λq=>bW<|h.n q) λq=>bM<|h.t q
theorem Q9{M:Mem}(L:Lq y x aV)(ok:nN M)(hc:jo cl (d+5) ak)(h1:∀v,av (aN m 37 v) 182=aa (.ob y))(h2:∀v,av (aN m 37 v) 69=aa (.p<|m5 es))(co:∀e∈es,av (dE es) (.s<|pW e)=aa (ID e))(hk:∀e∈es,qR aE e):∀l acc,(∀e∈l,e∈es/\∀i,e≠.l7 i)->acc.length+l.length<=1000->Q (.p<|aL<|acc++zw M (bG l)) (MW y x aV M W)->iQ (λx=>.bind (ni ⟨TT,NN,cl,hd,lv⟩ (aN m 37<| .p x)<| .cons (.BO .vP (bC 37)<| .tuple<| .cons (dN<|ab bU)<| .cons (dN<|ab cQ) .nil) .nil) λb=>lw b<| .bind (eP ⟨TT,NN,cl,hd,lv⟩ (aN m 37<| .p x)<| .tuple<| .cons (bC 37)<| .cons (.call (.fy 232)<| .cons (bC 182)<| .cons (.iz (bC 69)<|bC 37) .nil) .nil) λv=>.aQ v.pl .ok) acc (na l) (MW y x aV M W) Q E:=lr
 (@λacc _ _ k=>by rw[show acc++zw M (bG [])=acc from fc _]at k;exact k)
 (λe l b5=>@λacc hl hn k=>by
  have b3:=bo (vd (kZ l.length) acc.length) hn;cases e with
  |yq=>exact ax bQ<|C6 rt rt (λ_=>(λacc=>b5 acc λe h=>hl e<|aS _ h) acc b3 k) λq=>nomatch (show ag=ak from q)
  |yr n=>exact ax bQ<|C6 rt rt (λ_=>(λacc=>b5 acc λe h=>hl e<|aS _ h) acc b3 k) λq=>nomatch (show ag=ak from q)
  |l7 i=>exact ((hl _<|bt _).2 i rfl).elim
  |d4 t a=>
   have k:Q (.p<|aL<|acc++(aw [ab t,nu M a]::zw M (bG l))) (MW y x aV M W):=k;rw[show acc++(aw [ab t,nu M a]::zw M (bG l))=(acc++[aw [ab t,nu M a]])++zw M (bG l)from (de _ _ _).symm▸rfl]at k;exact ax bQ<|C6 rt rt (λq=>tf q<|adV ((hk _ (hl _<|bt _).1).1).h) λ_=>ax bQ<|ax (h1 _)<|ax (h2 _)<|ax bQ<|ax (d7▸co _ (hl _<|bt _).1)<|hc<|Ya L ok ((hk _ (hl _<|bt _).1).1).arg ⟨(bo (bo (gf _ _) hn)<|dc rt),(λacc=>b5 acc λe h=>hl e<|aS _ h) _ ((λv=>by refine ah cg ?_;exact cw mX aA [(1,eA aB ie,aA)] rt hn:∀v:P,(acc++[v]).length+l.length<=1000) _) k⟩)
end
def ur(i:Nat):P:=aw [ab<|gT i,af<|H4 i,ab [qQ i]]
abbrev lW(C:Cx)(cf:Bool->V->List V->M V)(is:List Nat)(body:S):P->SM:=λx=>λm σ Q E=>AZ ak is (.p x) m σ (λ_ m' bP=>iR C cf body m' bP Q E) λ_ _=>False
def Na(p:P)(i:Nat):P:=((P.ajn p).bind λes=>av es<| .s<|gT i).getD .none
section
variable{W:Wd}
theorem Q6.nn{v:P}(h:i<8):Q6 i v->v.isNone=ak:=Il (p:=λi=>Q6 i v->v.isNone=ak) (λh=>h.elim λ_ e=>e▸rf) (λh=>h.elim λ_ e=>e▸rf) (λh=>h.elim λ_ e=>e▸rf) (λh=>h.elim λ_ e=>e.1▸rf) (λh=>h.elim λ_ e=>e▸rf) (λh=>h.elim λ_ e=>e.1▸rf) (λh=>h.elim λ_ e=>e.1▸rf) (λh=>h.elim λ_ e=>e.1▸rf) i h
theorem acW{v:P}{Q:Bool->H->Prop}(k1:v.isNone=ag->Q ak σ)(k2:v.isNone=ak->Q ag σ):hV .Ie (.p v) (.p .none) σ (hM fU Q E) E:=pN (xA k1 k2).1 (xA k1 k2).2
theorem Xb(h:i<8):av H3 (.s [qQ i])=aa (yZ<|qQ i):=Il (p:=λi=>av H3 (.s [qQ i])=aa (yZ<|qQ i)) rfl rfl rfl rfl rfl rfl rfl rfl i h
theorem Xc{M:Mem}{v:P}(ok:nN M)(hi:i<8)(h:W6 i v):nN (rz i v M):=h.elim (λe=>ah e<|ah (Bx hi)<|ok) λh=>(EW ok hi h).1
abbrev ag6(es:List En)(v:Nat->P)(M:Mem)(i:Nat):Mem:=cond (IE es i) (rz i (v i) M) M
abbrev H5(y x:Nat)(s:V)(aE:Tx)(es:List En)(a b p:P):Env:=[(140,.ob x),(182,.ob y),(51,s),(36,.p<|ab aE),(69,.p<|m5 es),(230,.p a),(75,.p b),(186,.p p)]
theorem JN{Q:Fl->Env->H->Prop}{E:Env->H->Prop}{vs:List P}{v:Nat->P}{s:V}{a b:P}(L:Lq y x aV)(hc:jo cl (d+4) ak)(hw:cL (ab aE) (ab bm)=ag)(hv:∀i,i<8->av (ks.zip vs) (.s<|gT i)=aa (v i)/\W6 i (v i)):∀(il:List Nat)(rs:Env)(M:Mem),nN M->(∀i∈il,i<8)->(∀a b c,aN (aN (aN rs 62 a) 30 b) 33 c=[(62,a),(30,b),(33,c)])->(∀rs,Q bE (H5 y x s aE es a b (cu ks vs)++rs)<|MW y x aV (il.foldl (ag6 es v) M) W)->jf (lW ⟨TT,NN,cl,ak,3⟩ cf [62,30,33] jR) (il.map ur) (H5 y x s aE es a b (cu ks vs)++rs) (MW y x aV M W) Q E:=lr
 (λrs M ok _ _ k=>k _)
 (λi il b5 rs M ok hi hr k=>by
  have h8:=hi i<|bt _;show ez cl cf jR (H5 y x s aE es a b (cu ks vs)++aN (aN (aN rs 62<| .p<|ab<|gT i) 30<| .p<|af<|H4 i) 33 (.p<|ab [qQ i])) (MW y x aV M W) _ _;rw[hr];have nx:∀{M':Mem},nN M'->ag6 es v M i=M'->jf (lW ⟨TT,NN,cl,ak,3⟩ cf [62,30,33] jR) (il.map ur) (H5 y x s aE es a b (cu ks vs)++[(62,.p<|ab<|gT i),(30,.p<|af<|H4 i),(33,.p<|ab [qQ i])]) (MW y x aV M' W) Q E:=λafk e=>(λM' afk k'=>b5 [(62,.p<|ab<|gT i),(30,.p<|af<|H4 i),(33,.p<|ab [qQ i])] M' afk (λj h=>hi j<|aS _ h) (λ_ _ _=>rfl) k') _ afk<|e▸k;refine lz hw rt rt<|nq (λq=>?_) λq=>?_
  ·have q:IE es i=ag:=by delta IE;rw[d7]at q;exact q
   obtain ⟨e1,e2⟩:=hv i h8;have ajB:=λafk=>nx (M':=rz i (v i) M) afk (by show cond (IE es i) _ _=_;refine ah q ?_;rfl);refine ax e1<|acW (λz=>?_) λz=>?_
   ·have e0:=e2.resolve_right λw=>by rw[Q6.nn h8 w]at z;exact dC z
    rw[e0,Bx h8]at ajB;exact ajB ok
   ·have e2:=e2.resolve_left λw=>by rw[w]at z;exact rT z
    exact b8 L.mem.o (mk:=.cY 672) rfl<|ax (Xb h8)<|ax e1<|hc<|(EW ok h8 e2).2 _ _ _ L _ _ _ _<|ajB (EW ok h8 e2).1
  ·have q:IE es i=ak:=by delta IE;rw[d7]at q;exact q
   exact nx ok<|by show cond (IE es i) _ _=_;refine ah q ?_;rfl)
theorem Oa{Q:Fl->Env->H->Prop}{E:Env->H->Prop}{s:V}{a b p:P}(hw:cL (ab aE) (ab bm)=ak):∀(il:List Nat)(rs:Env),(∀a b c,aN (aN (aN rs 62 a) 30 b) 33 c=[(62,a),(30,b),(33,c)])->(∀rs,Q bE (H5 y x s aE es a b p++rs) σ)->jf (lW ⟨TT,NN,cl,ak,3⟩ cf [62,30,33] jR) (il.map ur) (H5 y x s aE es a b p++rs) σ Q E:=lr
 (@λrs _ k=>k _)
 (λi il ih=>@λrs hr k=>by
  show ez cl cf jR (H5 y x s aE es a b p++aN (aN (aN rs 62<| .p<|ab<|gT i) 30<| .p<|af<|H4 i) 33 (.p<|ab [qQ i])) σ _ _;rw[hr];exact cT hw rt rt<|ih _ (λ_ _ _=>rfl) k)
end
noncomputable def yu (b:Bool) (c:Int) (M:Mem):Mem:=cond b {M with S:=c} M
def jK(es:List En)(r:Except Int P)(M:Mem):Mem:=match r with| .ok p=>yu (cG es) 0 ((fO es).foldl (λM i=>rz i (Na p i) M) M)|bK c=>yu (cG es) c M
def ij(es:List En)(r:Except Int P):P:=match r with| .ok _=>af 0|bK _=>match av (dE es) (.s cQ)with|some v=>v|none=>cond (cG es) (af 0) .none
def Bj(aE:Tx)(ps:List v3)(M:Mem)(W W':Wd)(r:Except Int P):Prop:=∀b,dB b->∀x aV,qM x aV->∀d Q E,M8 Q E (HW x aV W') r->ba TT NN (d+6) ak (.p<|aI 588) [.ob x,.p<|ab aE,.p<|ju<|cn b<|d0 M ps] (HW x aV W) Q E
section
variable{W:Wd}{r:Except Int P}
theorem Bz:(V.p<|m5 es).pl.bind hX=aa (na es):=by
 show (match dk (AJ (λe:bV×P=>e.1)<|dE es).length (AJ (λe:bV×P=>e.2)<|dE es).length with|true=>aa (mB<|AJ (λe:bV×P=>e.1)<|dE es)|false=>aj)=_;rw[cq,cq,sw];show aa _=aa _;delta mB;rw[dE,nL,nL];rfl
theorem afl(S:jO aE es):∀e∈zR aE es,e∈es/\∀i,e≠En.l7 i:=λe h=>by
 refine aah (AF.mp h) λh1 h2=>⟨h1,λi q=>?_⟩
 subst q;obtain ⟨h3,h4⟩:=S.ok _ h1;rw[h4]at h2;exact Il (p:=λi=>cO (ab<|pW<| .l7 i) [ab cM,ab dV]=ag->False) (dC ·) (dC ·) (dC ·) (dC ·) (dC ·) (dC ·) (dC ·) (dC ·) i h3 h2
theorem Ra:∀{l:List En},(∀e∈l,qR aE e)->bG (zR aE l)=bG l:=@lr _ _
 (@λ_=>rfl)
 (λe l b5=>@λh=>by
  have ih:=b5 λe q=>h e<|aS _ q;refine bc (cond (cL (ab aE)<|ab bm) (cO (ab<|pW e) [ab cM,ab dV]) ag) (λc=>?_) λc=>?_
  ·
   rw[zR,D5<|by exact c];cases e with
   |d4 t a=>exact congrArg (Vv (t,a)) ih
   |_=>exact ih
  ·
   rw[zR,K7<|by exact c▸fF];cases e with
   |d4 t a=>
    refine bc (cL (ab aE)<|ab bm) (λq=>?_) λq=>?_
    ·rw[q]at c;exact nomatch c.symm.trans ((h _<|bt _).2 q)
    ·rw[q]at c;exact rT c
   |_=>exact ih)
theorem iV:∀{l:List En},(bG l).length<=l.length:=@lr _ _
 (gj 0)
 (λe l ih=>by
  cases e with
  |d4 t a=>exact kY ih
  |_=>exact uJ<|ih)
theorem Rb{M:Mem}:∀{ps},pairsOf (zw M ps)=aa (d0 M ps):=@lr _ _
 (rfl)
 (λe ps ih=>by
  show (pairsOf<|zw M ps).map _=_;exact ah ih rfl)
theorem acX:dB []:=⟨(λe h=>nomatch h),bH _,λ_ _=>rn⟩
theorem Mg(h:cL (ab aE) (ab bm)=ak):∀{l:List En},(∀e∈l,qR aE e)->fO l=[]:=@lr _ _
 (@λ_=>rfl)
 (λe l b5=>@λH=>by
  have ih:=b5 λe q=>H e<|aS _ q;cases e with
  |l7 i=>exact nomatch h.symm.trans (H _<|bt _).2
  |_=>exact ih)
theorem Gv{p:P}(h:zO p):∃ks vs,p=cu ks vs/\∀i,i<8->av (ks.zip vs) (.s<|gT i)=aa (Na p i)/\W6 i (Na p i):=by
 obtain ⟨ks,vs,rfl,h⟩:=h;refine (jY ks vs rfl λi hi=>?_);refine cE (h i hi) λv e z=>?_;have q:Na (cu ks vs) i=v:=by
  show (av (ks.zip vs)<| .s<|gT i).getD .none=v;exact ah e rfl
 exact ⟨q▸e,q▸z⟩
theorem xI{Q:Bool->H->Prop}(k1:cG es=ag->Q ag σ)(k2:cG es=ak->Q ak σ):hV .jh (.p<|ab bU) (.p<|m5 es) σ (hM fU Q E) E:=nq (λq=>k1<|by rw[d7]at q;exact q) λq=>k2 (by rw[d7]at q;exact q)
theorem Yc{M:Mem}(S:jO aE es)(L:Lm 24 31 aV)(ok:nN M)(D:Bj aE (bG es) M W W' r)(hA:∀p,r=.ok p->cL (ab aE) (ab bm)=ag->zO p)(k:Q (.p<|ij es r)<|MW 24 31 aV (jK es r M) W'):ba TT NN (d+8) ak (.p<|aI 1058) [.ob 31,.ob 24,.p<|aw [ab aE,m5 es]] (MW 24 31 aV M W) Q E:=by
 have l1:([]:List P).length+es.length<=1000:=by have:=S.len;exact dj s9 aA [(1,aB,lZ)] rt this
 refine acO rfl rfl λcl cf hc hf=>ax Bz<|Yb (λv=>rfl) es [] l1<|Q9 L.q ok hc (λv=>rfl) (λv=>rfl) S.co S.ok (zR aE es) [] (afl S) (bo (vd (La _ _) _) l1) ?_;refine ah (Ra S.ok)<|hc (ax rfl<|ax Rb ⟨(by delta d0;rw[cq];exact bo iV (bo S.len<|dc rt):(d0 M<|bG es).length<=bZ),?_⟩);refine cj<|Mf (eL L.lo) ?_;induction r using qC with
 |ok p=>
  refine hc<|D [] acX 31 _ L.lo _ _ _ ?_;have k:Q (it 0) (MW 24 31 aV (yu (cG es) 0<|(fO es).foldl (λM i=>rz i (Na p i) M) M) W'):=k;have fin:∀M1,(∀{b},cG es=b->Q (it 0) (MW 24 31 aV (yu b 0 M1) W'))->∀m,av m 69=aa (.p<|m5 es)->av m 182=aa (.ob 24)->ez cl cf (eR 5 BQ.body) m (MW 24 31 aV M1 W') (l3 Q) (sH E):=λM1 k m h1 h2=>
   ax h1 (xI (λq=>ax h2<|b8 L.q.mem.o (mk:=.cY 672) rfl<|hc<|ZZ _ _ _ L.q _ _ _ _<|k q) k)
  refine bc (cL (ab aE)<|ab bm) (λhw=>?_) λhw=>?_
  ·
   refine lK (Gv<|hA _ rfl hw) λks vs w2 hv=>?_;subst w2;exact hc<|aZ rfl rfl λ_=>JN L.q hc hw hv [0,1,2,3,4,5,6,7] [] M ok (dc rt) (λ_ _ _=>rfl) λrs=>fin _ (λq=>q▸(S.cm hw (Na<|cu ks vs) M▸k)) _ rfl rfl
  ·
   rw[Mg hw S.ok]at k;exact hc<|aZ rfl rfl λ_=>Oa hw [0,1,2,3,4,5,6,7] [] (λ_ _ _=>rfl) λrs=>fin _ (λq=>q▸k) _ rfl rfl
 |error c=>
  refine hc<|D [] acX 31 _ L.lo _ _ _ λt=>?_;refine ah (adT L.q) ?_;have f9:aW (MW 24 31 (aG aV 9<|sW t c) M W') 9=aa (sW t c):=by
   exact (adT L.q)▸cz (eL L.lo)
  refine Gu f9 ?_
  have k:Q (.p<|match av (dE es) (.s cQ)with|some v=>v|none=>cond (cG es) (af 0) .none) (MW 24 31 aV (yu (cG es) c M) W'):=k
  have fin:∀{v M1},Q v (MW 24 31 aV M1 W')->Q v (aG (MW 24 31 (aG aV 9<|sW t c) M1 W') 9 ae):=λh=>ah (aaK L)<|h
  have e1:∀{o},av (dE es) (.s cQ)=o->av ((((dE es).map (·.1)).zip<|(dE es).map (·.2))) (.s cQ)=o:=λh=>ah d7<|h
  refine xI (λq=>?_) λq=>?_
  ·refine b8 L.q.ex.mem.o (mk:=.cY 672) rfl<|adU f9 rt rfl<|ajw (congrFun hf ag)<|ZZ _ _ _ L.q.ex _ _ _ _ ?_
   rw[q]at k;cases q2:av (dE es) (.s cQ)with
   |some v=>rw[q2]at k;exact nq (λ_=>ax (e1 q2)<|fin k)<|ir<|e1 q2
   |none=>rw[q2]at k;exact nq (md<|e1 q2) λ_=>xI (λ_=>fin k)<|tf q
  ·rw[q]at k
   cases q2:av (dE es) (.s cQ)with
   |some v=>rw[q2]at k;exact nq (λ_=>ax (e1 q2)<|fin k)<|ir<|e1 q2
   |none=>rw[q2]at k;exact nq (md<|e1 q2) λ_=>xI (λz=>tf z q) λ_=>fin k
end
section
set_option tactic.hygienic true
noncomputable abbrev kR:V:=.p<|cu [] []
noncomputable def ag7:P:=cu [.s [83],.s [78],.s [82],.s [84],.s [69],.s [79],.s [65],.s [70]] [aw [af 0,af 0,af 0,aw []],aw [af 0,af 1,af 0,aw []],aw [af 0,af 2,af 0,aw []],aw [af 0,af 3,af 0,aw []],aw [af 4,af 4,af 0,aw []],aw [af 4,af 5,af 0,aw []],aw [af 5,af 0,af 10,aw []],aw [af 5,af 10,af 3,aw []]]
def adW:List bV:=[.s QC,.s G8,.s G9,.s A8,.s pD,.s [105,111],.s nj]
noncomputable def adX:List P:=[aI 919,aI 926,aI 933,aI 940,aI 947,aI 959,aI 954]
def ajC:List bV:=[.s MR,.s MS,.s vR,.s nZ,.s MQ]
noncomputable def ajD:List P:=[aI 808,aI 815,aI 822,aI 829,aI 801]
def vo(s:Int):O:=bJ 875 [(182,.ob 21),(200,.ob 20),(201,kR),(202,kR),(12,.p<|cu adW adX),(203,kR),(204,.p<|cu ajC ajD),(206,.p<|aI 905),(140,.ob 27),(207,kR),(208,kR),(10,kR),(107,kR),(209,.p<|aL []),(180,.ob 16),(196,.p<|af s)]
def C7:O:=bJ 896 [(7,.ob 19),(210,.p ag7),(13,.ob 18),(166,kR),(211,.p<|aL [])]
def Rc:O:=bJ 854 [(192,it 32),(193,it 7),(194,it 15),(195,it 38),(196,it 1000000),(197,it 19),(198,it 72),(199,it 40)]
def EX(g:Nat->O)(s:Int)(TR R:List P):H:=[g 0,ae,ae,ae,ae,ae,ae,ae,ae,ae,g 10,g 11,g 12,g 13,g 14,vo s,aM TR,C7,aM R,g 19,Rc,zQ 21,ae,ae,ae,ae,ae,sL 27,bJ 411 [(93,.ob 29)],ae,ae,ae,ae,ae,ae,ae]
@[irreducible] def MH(g:Nat->O)(s:Int)(TR R:List P)(M:Mem)(W:Wd):H:=MW 21 27 (EX g s TR R) M W
section
variable{W:Wd}{s:Int}{TR R:List P}{ops:List P}
theorem aaq:Lq 21 27 (EX g s TR R):=⟨(by decide:30<36),rfl,by decide,by decide⟩
theorem lm:Lm 21 27 (EX g s TR R):=⟨⟨rfl,rfl,(by decide:30<36),rfl,rfl,by decide⟩,aaq⟩
theorem fR{M:Mem}(h:(Nat.blt k 36&&!dk 22 k&&!dk 23 k&&!dk 29 k&&!dk 30 k)=ag)(e:aW (EX g s TR R) k=aa o):aW (MH g s TR R M W) k=aa o:=by
 with_unfolding_all refine (Md (y:=21) (x:=27) (Nat.blt_eq.mp<|xC<|xC<|xC<|xC h) ?_ ?_ ?_ ?_).trans e
 ·exact λq=>by subst q;exact dC h
 ·exact λq=>by subst q;exact dC h
 ·exact λq=>by subst q;exact dC h
 ·exact λq=>by subst q;exact dC h
theorem oC{M:Mem}:aW (MH g s TR R M W) 15=aa (vo s):=fR rt rfl
theorem CE{M:Mem}:aW (MH g s TR R M W) 16=aa (aM TR):=fR rt rfl
theorem CF{M:Mem}:aW (MH g s TR R M W) 17=aa C7:=fR rt rfl
theorem H6{M:Mem}:aW (MH g s TR R M W) 18=aa (aM R):=fR rt rfl
theorem akD{M:Mem}:aW (MH g s TR R M W) 19=aa (g 19):=fR rt rfl
theorem akE{M:Mem}:aW (MH g s TR R M W) 20=aa Rc:=fR rt rfl
theorem ah7{M:Mem}{s':Int}:aG (MH g s TR R M W) 15 (vo s')=MH g s' TR R M W:=by with_unfolding_all exact (EV (by decide:15<36) (by decide) (by decide) (by decide)<|by decide).trans rfl
theorem Nb{M:Mem}{T':List P}:aG (MH g s TR R M W) 16 (aM T')=MH g s T' R M W:=by with_unfolding_all exact (EV (by decide:16<36) (by decide) (by decide) (by decide)<|by decide).trans rfl
theorem TP{M:Mem}{R':List P}:aG (MH g s TR R M W) 18 (aM R')=MH g s TR R' M W:=by with_unfolding_all exact (EV (by decide:18<36) (by decide) (by decide) (by decide)<|by decide).trans rfl
theorem ql{M:Mem}:MH g s TR R M W=MW 21 27 (EX g s TR R) M W:=by with_unfolding_all exact rfl
abbrev akF(at':Int)(ops:List P)(rs:Env):Env:=(175,.ob 15)::(212,.ob 17)::(58,it 0)::(42,it at')::(12,.p<|aL ops)::rs
def LP(cl:V->List V->M V)(cf:Bool->V->List V->M V)(ops:List P)(k:Nat)(at':Int)(σ:H)(Q:Fl->Env->H->Prop)(E:Env->H->Prop):Prop:=∀rs,WQ (λm=>rX ⟨TT,NN,cl,ak,3⟩ m<| .BO .lt (bC 42)<| .call (.fy 25)<| .cons (bC 12) .nil) (ez cl cf xu) k (akF at' ops rs) σ Q E
structure amK(cl:V->List V->M V)(cf:Bool->V->List V->M V)(ops:List P)(k:Nat)(at':Int)(Q:Fl->Env->H->Prop)(E:Env->H->Prop)(K:V->H->Prop):Prop where
 none:∀σ,LP cl cf ops k (at'+1) σ Q E->K (.p .none) σ
 int:∀j σ,LP cl cf ops k j σ Q E->K (it j) σ
 ret:∀r σ,(∀m,Q (.ret<| .p r) m σ)->K (.p<|aw [ab nj,r]) σ
theorem Rd{K:cN}{fs:List (Nat×V)}{Q:Unit->H->Prop}(h:aW σ n=aa (bJ c fs))(hK:TT.cls c=aa K)(hc:(K.fields.contains i&&!K.d5&&ae2 v)=ag)(hl:gb fs.length 500=ag)(k:Q ()<|aG σ n<|bJ c<|aN fs i v):setAttr TT (.ob n) i v σ Q E:=by
 have z:∀{oo},oo=aa (bJ c fs)->M.aQ (oo.bind O.EE) (λcf=>.aQ (TT.cls cf.1) λd=>.lS (d.fields.contains i&&!d.d5&&ae2 v)<| .eD (cf.2.length<=500)<|fP n<|bJ cf.1<|aN cf.2 i v) σ Q E:=λe=>e▸ax rfl (ax hK<|qL hc ⟨jA hl,k⟩);exact z h
theorem PH{Q:Fl->Env->H->Prop}{E:Env->H->Prop}{K:cN}{fs:List (Nat×V)}{a:Int}(hm:av m j=aa (.ob n))(h:aW σ n=aa (bJ c fs))(hK:TT.cls c=aa K)(hb:(K.fields.contains i&&(K.d5==ak))=ag)(hv:av fs i=aa (it a))(hl:gb fs.length 500=ag)(hc:(K.fields.contains i&&!K.d5)=ag)(k:Q bE m<|aG σ n<|bJ c<|aN fs i<|it<|a+1):iR ⟨TT,NN,cl,hd,3⟩ cf (.Co (bC j) i .add<|dN<|af 1) m σ Q E:=
 ax hm (cJ h hK hb hv<|Rd h hK (by refine ah hc ?_;rfl) hl k)
theorem gz{xs:List P}{i:Int}{v:P}(hi:pU xs.length i=aa j)(hj:xs[j]?=aa v)(k:Q (.p v) σ):rU (.p<|aL xs) (.p<|af i) σ Q E:=ax hi<|ax hj k
theorem aaO{Q:Fl->Env->H->Prop}{E:Env->H->Prop}{xs:List P}{v:P}(hp:av m p=aa (.p<|aL xs))(hq:av m q=aa (it z))(hi:pU xs.length z=aa j)(hj:xs[j]?=aa v)(k:Q bE (aN m i<| .p v) σ):iR ⟨TT,NN,cl,hd,3⟩ cf (.ug i<| .iz (bC p)<|bC q) m σ Q E:=ax hp<|ax hq<|gz hi hj k
theorem ik{A:SM}{r:S}{Q:Fl->Env->H->Prop}{E E':Env->H->Prop}(k:iR C cf r m σ Q E):CZ (adJ A<|iR C cf .nil) m (HZ (iR C cf r) Q E) E' ak σ:=k
theorem Yd{l:List P}{Q:Fl->Env->H->Prop}{E:Env->H->Prop}(hc:jo cl (d+1) ak)(hz:z=p)(hs:s+1<=1000000)(hn:ops.length<=100000)(h:ops[p]?=aa (aw<|ab w::l))(hw:av (adW.zip adX) (.s w)=aa (aI a))(run:∀K,amK cl cf ops k z Q E K->∀m,ba TT NN (d+1) ak (.p<|aI a) [.ob 15,.ob 17,.p<|aw<|ab w::l] (MH g (s+1) TR R Me W) K<|E m):LP cl cf ops (k+1) z (MH g s TR R Me W) Q E:=λrs=>by
 have hl:z<(ops.length:Int):=by
  have:=(pz.mp h).1;exact LO (.a (.v 0)<| .n 1) (.v 2) [(1,.v 0,.v 1),(1,.a (.v 1)<| .n 1,.v 2)] rt (d8 hz)<|cS.mpr this
 have hi:pU ops.length z=aa p:=by
  delta pU;rw[decide_eq_true<|⟨rQ (.n 0) (.v 0) [(1,.v 1,.v 0),(1,.n 0,.v 1)] rt (d8 hz.symm)<|gG _,rQ (.a (.v 0)<| .n 1) (.n 10000000) [(1,.v 1,.n 100000),(1,.a (.v 0)<| .n 1,.v 1)] rt (cS.mpr hn) hl⟩,hz];rfl
 refine hc ⟨bo hn<|dc rt,mn (λ_=>?_) λq=>(q hl).elim⟩
 refine cj<|PH rfl oC (K:=bT) rfl rt rfl rt rt ?_
 refine ah (show O.iF 875 (aN _ 196 _)=vo (s+1)from rfl)<|ah ah7<|cJ oC (K:=bT) rfl rt rfl<|cJ oC (K:=bT) rfl rt rfl<|cJ akE (K:=jn) rfl rt rfl<|pO (λq=>absurd q<|kq.mpr<|dp (.a (.v 0)<| .n 1) (.n 1000000) [(1,.a (.v 0)<| .n 1,.n 1000000)] rt hs) λ_=>?_
 refine ik<|cj<|aaO (p:=12) (q:=42) rfl rfl hi h<|ax bQ<|cJ oC (K:=bT) rfl rt rfl<|vm (λq=>ik ?_)<|ir hw
 refine cJ oC (K:=bT) rfl rt rfl<|ax bQ<|ax hw<|ax bQ<|hc<|run _ ?_ _
 exact ⟨λbP z=>ax bQ ⟨bH _,z _⟩,λj bP z=>ax bQ ⟨bH _,ax bQ<|hc ⟨bH _,ax bQ<|z _⟩⟩,λr bP z=>ax bQ ⟨bH _,ax bQ<|hc ⟨bH _,ax bQ<|z _⟩⟩⟩
end
end
section
set_option tactic.hygienic true
section
variable{W:Wd}{s:Int}{TR R:List P}{ops:List P}{xs:List P}{v:P}{i j:Int}
theorem gq{i:Int}{l:Nat}(hi:i=p)(hp:p<l)(hl:l<=100000):pU l i=aa p:=by
 rw[pU,decide_eq_true ⟨hi▸gG p,hi▸nS.mpr (wX hp<|bo hl<|dc rt)⟩,hi];rfl
theorem zS{Q:Unit->H->Prop}(h:aW σ n=aa (aM xs))(hi:i=p)(hp:p<xs.length)(hl:xs.length<=100000)(k:Q ()<|aG σ n<|aM<|xs.set p v):iA (.ob n) (.p<|af i) (.p v) σ Q E:=tR h (⟨rQ (.n 0) (.v 0) [(1,.v 1,.v 0),(1,.n 0,.v 1)] rt (d8 hi.symm)<|gG _,⟨LO (.a (.v 0)<| .n 1) (.v 2) [(1,.v 0,.v 1),(1,.a (.v 1)<| .n 1,.v 2)] rt (d8 hi)<|cS.mpr hp,LO (.a (.v 0)<| .n 1) (.n 10000000) [(1,.v 0,.v 1),(1,.a (.v 1)<| .n 1,.v 2),(1,.v 2,.n 100000)] rt (d8 hi) (cS.mpr hp)<|cS.mpr hl⟩⟩) (by refine ah hi ?_;rw[xe];exact k)
theorem jL(h:xs[p]?=aa v):p<xs.length:=(pz.mp h).1
theorem v5(h:aW σ n=aa (aM xs))(hi:i=p)(hl:xs.length<=100000)(hv:xs[p]?=aa v)(k:Q (.p v) σ):rU (.ob n) (.p<|af i) σ Q E:=Ma h (gq hi (jL hv) hl) hv k
theorem ah8{x:P}(hi:i=p)(hp:p<R.length)(hl:R.length<=100000)(k:Q (.p .none)<|MH g s TR (R.set p v) Me W):ba TT NN (d+1) ak (.p<|aI 919) [.ob 15,.ob 17,.p<|aw [ab w,af i,x,v]] (MH g s TR R Me W) Q E:=
 aZ rfl rfl λ_=>cJ CF (K:=jI) rfl rt rfl<|zS H6 hi hp hl<|ah TP<|k
theorem Rf{Q:Fl->Env->H->Prop}{E:Env->H->Prop}{l:List P}{a b:P}(amL:aW σ 17=aa C7)(h1:av m 212=aa (.ob 17))(h2:av m 22=aa (.p<|aw [a,b,ab [c]]))(hc:av H3 (.s [c])=aa (aw l))(k:Q bE (aN m 35<| .p<|aw l) σ):ez cl cf (.ug 35<| .vg (.yf (bC 212) 210) 3<| .cons (.iz (bC 22)<|dN<|af 2) .nil) m σ Q E:=ax h1<|cJ amL (K:=jI) rfl rt rfl<|ax h2<|(λe=>e▸k:∀{o},o=aa (aw l)->Q bE (aN m 35 (qI V.p (.p .none) o).g7) σ) hc
theorem afm{l:List P}(hi:i=p)(hp:p<R.length)(hl:R.length<=100000)(hc:av H3 (.s [c])=aa (aw l))(k:Q (.p .none)<|MH g s TR (R.set p<|aw l) Me W):ba TT NN (d+2) ak (.p<|aI 926) [.ob 15,.ob 17,.p<|aw [ab w,af i,ab [c]]] (MH g s TR R Me W) Q E:=
 aZ rfl rfl λh=>cj<|Rf CF rfl rfl hc<|h ⟨bH _,cJ CF (K:=jI) rfl rt rfl<|zS H6 hi hp hl<|ah TP<|k⟩
theorem afn{x:P}(hi:i=p)(hj:j=q)(hp:p<R.length)(hl:R.length<=100000)(hq:R[q]?=aa x)(ld:∀Q E,Q (.p v) (MH g s TR R Me W)->ba TT NN (d+4) ak (.p<|aI 665) [.ob 21,.p x] (MH g s TR R Me W) Q E)(k:Q (.p .none)<|MH g s TR (R.set p v) Me W):ba TT NN (d+5) ak (.p<|aI 933) [.ob 15,.ob 17,.p<|aw [ab w,af i,af j]] (MH g s TR R Me W) Q E:=
 aZ rfl rfl λh=>cJ oC (K:=bT) rfl rt rfl<|b8 (mk:=.cY 665) (fR rt rfl) rfl<|cJ CF (K:=jI) rfl rt rfl<|v5 H6 hj hl hq<|h<|ld _ _<|cJ CF (K:=jI) rfl rt rfl<|zS H6 hi hp hl<|ah TP<|k
theorem aaP(hi:i=p)(hj:j=q)(hl:R.length<=100000)(hp:R[p]?=aa (yZ c))(hq:R[q]?=aa v)(S:St ak c v Me M')(k:Q (.p .none)<|MH g s TR R M' W):ba TT NN (d+5) ak (.p<|aI 940) [.ob 15,.ob 17,.p<|aw [ab w,af i,af j]] (MH g s TR R Me W) Q E:=
 aZ rfl rfl λh=>cJ oC (K:=bT) rfl rt rfl<|b8 (mk:=.cY 672) (fR rt rfl) rfl<|cJ CF (K:=jI) rfl rt rfl<|v5 H6 hi hl hp<|cJ CF (K:=jI) rfl rt rfl<|v5 H6 hj hl hq<|h<|ah ql<|S _ _ _ aaq _ _ _ _<|ah ql.symm<|k
theorem afo(k:Q (it j)<|MH g s TR R Me W):ba TT NN (d+1) ak (.p<|aI 947) [.ob 15,.ob 17,.p<|aw [ab w,af j]] (MH g s TR R Me W) Q E:=aZ rfl rfl λh=>k
theorem ah9(k:Q (.p<|aw [ab nj,af 0])<|MH g s TR R Me W):ba TT NN (d+1) ak (.p<|aI 954) [.ob 15,.ob 17,.p<|aw [ab w,af<|-1]] (MH g s TR R Me W) Q E:=aZ rfl rfl λh=>⟨bH _,k⟩
end
end
section
variable{tI:H}{W:Wd}{x:P}{Q:Fl->Env->H->Prop}{E:Env->H->Prop}
theorem jt{Q:V->H->Prop}{E:H->Prop}(h:aW σ n=aa ae)(k:Q (.ob n)<|aG σ n o):alloc [n] o σ Q E:=by
 have e:eG σ [n]=aa n:=by
  exact (λe=>by refine ah e ?_;rfl:∀{oo},oo=aa ae->(match oo.map O.ig with|some ag=>aa n|_=>eG σ [])=aa n) h
 show M.aQ (eG σ [n]) (λn=>M.bind (fP n o) λ_=>M.ok<|V.ob n) σ Q E
 exact e▸k
theorem qS{e:X}(k:eP C m e σ (CZ (G7 σ i) m Q E)<|E m):iR C cf (.cY i e) m σ Q E:=k
theorem lB(h:aW tI n=aa ae)(k:Q bE (aN m i<| .tm n) σ):CZ (G7 tI i) m Q E (.ob n) σ:=(λe=>e▸k:∀{oo},oo=aa ae->(match oo.map O.ig with|some ag=>Q bE (aN m i<| .tm n) σ|_=>False)) h
theorem qT(hm:av m i=aa (.tm n))(hn:gb 9 n=ak)(h:aW σ n=aa o)(hf:kO o=aa x)(hr:noRef n (cW m i)=ag)(k:Q bE (aN (cW m i) i<| .p x)<|aG σ n ae):iR C cf (.yR i) m σ Q E:=by
 show letGo i (λo=>(kO o).map λx=>aa<|V.p x) m σ Q E;delta letGo;rw[hm];show (match gb 9 n with|true=>False|false=>match (aW σ n).bind (λo=>(kO o).map λx=>aa<|V.p x)with|some v=>(match noRef n (cW m i)with|true=>Q bE (match v with|some v=>aN (cW m i) i v|none=>cW m i) (aG σ n ae)|false=>False)|none=>False);refine ah hn<|ah h ?_;show (match (kO o).map (λx=>aa<|V.p x)with|some v=>(match noRef n (cW m i)with|true=>Q bE (match v with|some v=>aN (cW m i) i v|none=>cW m i) (aG σ n ae)|false=>False)|none=>False);exact ah hf<|ah hr<|k
theorem tS{Q:Unit->H->Prop}{E:H->Prop}{es:List (bV×P)}(h:aW σ n=aa (du es))(hl:es.length<=1000)(k:Q ()<|aG σ n<|du<|aN es (.s t) x):iA (.ob n) (.p<|ab t) (.p x) σ Q E:=ax (a:=n) rfl<|ax h ⟨bo hl<|dc rt,k⟩
theorem aia{a b:P}{i1 i2:Nat}{xs:List P}(hp:av m p=aa (.p<|aL xs))(hq:av m q=aa (it z))(hi:pU xs.length z=aa j)(hj:xs[j]?=aa (aw [a,b]))(k:Q bE (aN (aN m i1<| .p a) i2<| .p b) σ):ez cl cf (.MJ [i1,i2]<| .iz (bC p)<|bC q) m σ Q E:=ax hp<|ax hq<|gz hi hj k
abbrev n3(e:v3):P:=aw [ab e.1,ab qJ]
def alD(a b c:Nat)(rs:Env):Prop:=rs=[]\/∃x y z:P,rs=[(a,.p x),(b,.p y),(c,.p z)]
theorem Ob{Q:V->H->Prop}{E:H->Prop}{a b c:V}(k:Q (.p x) σ):ba TT NN (d+1) hd (.p<|aI 780) [a,.p<|ab qJ,.p x,b,c] σ Q E:=aZ rfl rfl λ_=>⟨⟨rt,rt⟩,bH _,⟨rt,rt⟩,bH _,k⟩
theorem oa{c:P}{b:List P}:∀{a:List P}{i:Nat},i=a.length->(a++c::b)[i]?=aa c:=@lr _ _
 (@λ_ h=>by subst h;rfl)
 (λx a ih=>@λ_ h=>by subst h;exact ih rfl)
abbrev Nc(hs vs:List P)(fx:P)(rs:Env):Env:=(175,.ob 15)::(178,.p<|aL vs)::(67,.p<|aL hs)::(68,.p fx)::(18,kR)::(176,.p<|ei ak)::(69,.tm 2)::(95,.p .none)::rs
theorem Rg{fx v:P}{hs vs:List P}{zi:Int}{es:List (bV×P)}(hc:jo cl (d+1) ak)(z1:pU hs.length zi=aa j)(y1:hs[j]?=aa (aw [ab t,ab qJ]))(z2:pU vs.length zi=aa j)(y2:vs[j]?=aa v)(dc:aW σ 2=aa (du es))(hl:es.length<=1000)(hr:∀a b c,aN (aN (aN rs 80 a) 36 b) 73 c=[(80,a),(36,b),(73,c)])(k:Q bE (Nc hs vs fx [(80,it zi),(36,.p<|ab t),(73,.p<|ab qJ)])<|aG σ 2<|du<|aN es (.s t) v):ez cl cf gK (Nc hs vs fx<|aN rs 80<|it zi) σ Q E:=by
 refine cj<|aia rfl bQ z1 y1 ?_;show ez cl cf (eR 1 gK) (Nc hs vs fx<|aN (aN (aN rs 80<|it zi) 36<| .p<|ab t) 73<| .p<|ab qJ) σ _ _;rw[hr];exact ⟨⟨rt,rt⟩,bH _,gz z2 y2<|hc<|Ob<|tS dc hl k⟩
theorem Rh{M:Mem}{cl:V->List V->Mine.Lake.M V}{fx:P}(hc:jo cl (d+1) ak)(afp:aW σ 2=aa ae):∀l v7 PI es(rs:Env),v7.length=PI.length->es.length+l.length<=1000->v7.length+l.length<=1000->alD 80 36 73 rs->(∀rs,alD 80 36 73 rs->Q bE (Nc (v7++l.map n3) (PI++l.map λe=>nu M e.2) fx rs) (aG σ 2<|du<|cn es<|d0 M l))->jf (lW ⟨TT,NN,cl,ak,3⟩ cf [80] gK) ((jQ v7.length l.length).map λ(k:Nat)=>P.int<|0+(k:Int)) (Nc (v7++l.map n3) (PI++l.map λe=>nu M e.2) fx rs) (aG σ 2<|du es) Q E:=lr
 (@λv7 PI es rs _ _ _ hr k=>k rs hr)
 (λe l b5=>@λv7 PI es rs hlen h1 h2 hr k=>by
  have x1:v7++(e::l).map n3=(v7++[n3 e])++l.map n3:=by rw[de];rfl
  have x2:PI++(e::l).map (λe=>nu M e.2)=(PI++[nu M e.2])++l.map λe=>nu M e.2:=by rw[de];rfl
  have ih:=b5 (v7++[n3 e]) (PI++[nu M e.2]) (aN es (.s e.1)<|nu M e.2) [(80,.p<|af<|0+(v7.length:Int)),(36,.p<|ab e.1),(73,.p<|ab qJ)] (by refine ah cg<|ah cg<|ah hlen ?_;rfl) (by have:=o8 (es:=es) (k:=.s e.1) (v:=nu M e.2);have:=h1;exact gS (eA aB cv) aA [(1,aB,eA bb bz),(1,eA bb Dj,aA)] rt (by assumption) this) (by refine ah cg ?_;have:=h2;exact cw mX aA [(1,eA aB ie,aA)] rt this) (bM<|Po _ _ _ rfl) λrs hr=>ah x1.symm<|ah x2.symm<|k rs hr;rw[cg,<-x1,<-x2]at ih;have z1:pU (v7++(e::l).map n3).length (0+(v7.length:Int))=aa v7.length:=gq (ko (dp s9 aB [] rt)<|dp aB s9 [] rt) (jL<|oa rfl) (by refine ah cg ?_;rw[cq];exact bo h2<|dc rt);have z2:pU (PI++(e::l).map (λe=>nu M e.2)).length (0+(v7.length:Int))=aa v7.length:=gq (ko (dp s9 aB [] rt)<|dp aB s9 [] rt) (jL<|oa hlen) (by refine ah cg ?_;rw[cq,<-hlen];exact bo h2<|dc rt);have ag8:∀a b c,aN (aN (aN rs 80 a) 36 b) 73 c=[(80,a),(36,b),(73,c)]:=by
   rcases hr with h|⟨_,_,_,h⟩<;>rw[h]<;>exact λ_ _ _=>rfl
  show ez cl cf gK (Nc (v7++(e::l).map n3) (PI++(e::l).map λe=>nu M e.2) fx<|aN rs 80<|it<|0+(v7.length:Int)) (aG σ 2<|du es) (λfl m' bP=>match fl with| .ret v=>Q (.ret v) m' bP|_=>jf (lW ⟨TT,NN,cl,ak,3⟩ cf [80] gK) ((jQ (v7.length+1) l.length).map λ(k:Nat)=>P.int<|0+(k:Int)) m' bP Q E) λ_ _=>False
  generalize jf (lW ⟨TT,NN,cl,ak,3⟩ cf [80] gK) ((jQ (v7.length+1) l.length).map λ(k:Nat)=>P.int<|0+(k:Int))=LL at*
  generalize (0+(v7.length:Int))=zi at*
  exact Rg hc z1 (oa rfl) z2 (oa hlen) (cz afp) (bo (gf _ _) h1) ag8<|dT.symm▸ih)
end
def Nd(Me:Mem)(ps:List v3):List P:=ps.map λe=>nu Me e.2
section
variable{W:Wd}{s:Int}{TR R:List P}{ps:List v3}{fx:List (bV×P)}{r:Except Int P}
theorem Ye(hm:av m j=aa (.p<|ju fx))(hl:fx.length<=100)(h:aW σ n=aa ae)(k:Q (.ob n)<|aG σ n<|du fx):eP C m (.CV [n]<|bC j) σ Q E:=ax hm<|(λl e=>ah e<|⟨bo hl<|dc rt,jt h k⟩:∀l,l=fx->(l.length<=bZ/\alloc [n] (du l) σ Q E)) _ d7
theorem BU(h2:aW σ 2=aa ae)(hp:ps.length<=100)(hf:fx.length<=100)(k:Q (.p<|aw [ju<|cn fx<|d0 Me ps,.none]) σ):ba TT NN (d+2) ak (.p<|aI 787) [.ob 15,.p<|aL<|Nd Me ps,.p<|aL<|ps.map n3,.p<|ju fx,kR,.p<|ei ak] σ Q E:=by
 refine aZ rfl rfl λhc=>cj<|qS ?_;refine Ye rfl hf h2<|lB h2 ?_;refine hc ⟨by refine ah (cq _) ?_;exact bo hp<|dc rt,?_⟩;refine ah (cq _)<|hc (o9 (kQ<|bo hp<|dc rt)<|Rh hc h2 ps [] [] fx [] rfl (cw (eA bb aB) aA [(1,aB,iO),(1,bb,iO)] rt hp hf) (by exact dj s9 aA [(1,aB,iO)] rt hp) (bW rfl) λrs hr=>?_);rcases hr with h|⟨_,_,_,h⟩<;>rw[h]<;>exact cj (qT rfl rfl (cz (o':=du<|cn fx<|d0 Me ps) h2) rfl rt<|by refine ah (by refine ah dT ?_;refine ah (fX h2) ?_;rfl:aG (aG σ 2<|du<|cn fx<|d0 Me ps) 2 ae=σ) ?_;exact k)
theorem aib{c:Int}(h:aW σ n=aa (sW t c)):(aW σ n).bind O.QA=aa (82,[(6,ab t),(7,af c)]):=by refine ah h ?_;rfl
theorem EY{c:Int}(h:aW σ 9=aa (sW t c)):mH TT σ=ag:=(λe=>by refine ah e ?_;rfl:∀{oo},oo=aa (sW t c)->(match oo.bind O.QA with|some e=>(match TT.cls e.1 with|some k=>k.d5&&k.mro.contains ou|none=>ak)|none=>ak)=ag) h
theorem Ri{Q:Fl->Env->H->Prop}{E:Env->H->Prop}(hm:av m i=aa (.ob 9))(h:mH TT σ=ag)(k:E m σ):iR ⟨TT,NN,cl,ag,3⟩ cf (.xo<|bC i) m σ Q E:=by
 refine ax hm ?_;show match dk 9 dD&&ag&&mH TT σ with|true=>E m σ|false=>False
 exact h.symm▸k
theorem Oc{c:Int}{es:List (bV×P)}(h9:aW σ 9=aa (sW t c))(k1:∀v,av es (.s cQ)=aa v->Q (.p v) σ)(k2:av es (.s cQ)=aj->(av es<| .s bU).isSome=ag->Q (it 0) σ)(k3:av es (.s cQ)=aj->(av es<| .s bU).isSome=ak->E σ):ba TT NN (d+2) ag (.p<|aI 768) [.ob 9,.p<|ju es] σ Q E:=by
 refine aZ rfl rfl λhc=>hc<|ax rfl<|ax (aib h9) ⟨bH _,?_⟩;exact od (av es<| .s cQ) (λv q=>nq (λ_=>ax ((λh=>ah d7<|h) q)<|k1 v q)<|ir<|(λh=>ah d7<|h) q) λq=>nq (md<|(λh=>ah d7<|h) q) λ_=>nq (λz=>k2 q<|by rw[d7]at z;exact z) λz=>ik (cj<|Ri rfl (EY h9)<|k3 q<|by rw[d7]at z;exact z)
end
section
variable{W:Wd}{s:Int}{TR R:List P}{ps:List v3}{fx es:List (bV×P)}{r:Except Int P}{c:Int}{mV:List P}
abbrev MX(g:Nat->O)(s:Int)(TR R:List P)(Me:Mem)(W:Wd)(t:Tx)(c:Int):H:=aG (MH g s TR R Me W) 9<|sW t c
theorem Rj:aW (MH g s TR R Me W) 9=aa ae:=fR rt rfl
theorem ag9:aW (MH g s TR R Me W) 2=aa ae:=fR rt rfl
theorem Nf:aW (MX g s TR R Me W t c) 9=aa (sW t c):=cz Rj
theorem aha:aW (MX g s TR R Me W t c) 15=aa (vo s):=(ay<|by decide).trans oC
theorem Z0:aW (MX g s TR R Me W t c) 16=aa (aM TR):=(ay<|by decide).trans CE
theorem acY{T':List P}:aG (MX g s TR R Me W t c) 16 (aM T')=MX g s T' R Me W t c:=(dA<|by decide).trans<|congrArg (λσ=>aG σ 9<|sW t c) Nb
theorem Gw:aG (MX g s TR R Me W t c) 9 ae=MH g s TR R Me W:=dT.trans<|fX Rj
theorem gW{x:P}{xs:List P}(h:aW σ n=aa (aM xs))(hl:xs.length<=1000)(k:Q (.p .none)<|aG σ n<|aM<|xs++[x]):uW 0 0 (.ob n) [.p x] σ Q E:=(λe=>e▸⟨bo hl<|dc rt,k⟩:∀{oo},oo=aa (aM xs)->M.aQ (oo.bind O.uV) (λxs=>.eD (xs.length<=bZ)<| .bind (fP n<|aM<|xs++[x]) λ_=>.ok<|V.p .none) σ Q E) h
theorem Rk{n:Int}:l8 (af n) [af n]=aa 0:=by
 show (match n==n with|true=>aa 0|false=>_)=_;rw[beq_self_eq_true]
theorem PJ{n:Int}{es:List (bV×P)}(hn:n≠0)(k:Q (it 1) σ):iR ⟨TT,NN,cl,ag,3⟩ cf (eR 2 Ii.body) [(175,.ob 15),(173,.ob 9),(69,.p<|ju es),(53,.p<|aL [af n]),(52,it n)] σ (l3 Q) (sH E):=
 ly (x:=af n) (y:=af 0) rt rt (λq=>absurd (eq_of_beq q) hn) λ_=>⟨(k8 rt rt (by decide:1<=1000000)),ax Rk k⟩
theorem Xd(hE:∀v,av es (.s cQ)=aa v->∃n,v=af n/\n≠0/\mV=[af n])(k1:∀v,av es (.s cQ)=aa v->Q (it 1) (MX g s (cond (av es<| .s bU).isSome [af c] []) R Me W t c))(k2:av es (.s cQ)=aj->(av es<| .s bU).isSome=ag->Q (it 0) (MX g s [af c] R Me W t c))(k3:av es (.s cQ)=aj->(av es<| .s bU).isSome=ak->E (MX g s [] R Me W t c)):ba TT NN (d+3) ag (.p<|aI 794) [.ob 15,.ob 9,.p<|ju es,.p<|aL mV] (MX g s [] R Me W t c) Q E:=by
 refine aZ rfl rfl λhc=>hc<|Oc Nf (λv q=>?_) (λq z=>?_) k3
 ·refine vC (hE v q) λn w1 hn w3=>?_;subst w1;subst w3
  have k1:=k1 _ q;refine bc ((av es<| .s bU).isSome) (λb=>?_) λb=>?_
  ·
   rw[b]at k1;exact nq (λ_=>cJ aha (K:=bT) rfl rt rfl<|b8 Z0 (mk:=.bi 0 0) rfl<|hc<|aZ rfl rfl λ_=>adU Nf rt rfl<|gW Z0 (bH _)<|ah acY<|PJ hn k1) λz=>by rw[d7,b]at z;exact rT z
  ·
   rw[b]at k1;exact nq (λz=>by rw[d7,b]at z;exact dC z) λ_=>PJ hn k1
 ·exact nq (λ_=>cJ aha (K:=bT) rfl rt rfl<|b8 Z0 (mk:=.bi 0 0) rfl<|hc<|aZ rfl rfl λ_=>adU Nf rt rfl<|gW Z0 (bH _)<|ah acY<|⟨⟨rt,rt⟩,bH _,k2 q z⟩) λz'=>by rw[d7,z]at z';exact rT z'
theorem PK(D:Bj aE ps Me W W' r)(hb:dB fx)(k:M8 Q E (MH g s TR R Me W') r):ba TT NN (d+6) ak (.p<|aI 588) [.ob 27,.p<|ab aE,.p<|ju<|cn fx<|d0 Me ps] (MH g s TR R Me W) Q E:=by
 refine ah ql<|D fx hb 27 _ lm.lo d Q E ?_;rw[ql]at k;exact k
theorem aaQ(D:Bj aE ps Me W W' r)(hb:dB fx)(hp:ps.length<=100)(hE:∀v,av (cn fx<|d0 Me ps) (.s cQ)=aa v->∃n,v=af n/\n≠0/\mV=[af n])(k0:∀p,r=.ok p->Q (it<|-1) (MH g s [] R Me W'))(k1:∀c v,r=bK c->av (cn fx<|d0 Me ps) (.s cQ)=aa v->Q (it 1) (MH g s (cond (av (cn fx<|d0 Me ps)<| .s bU).isSome [af c] []) R Me W'))(k2:∀c,r=bK c->av (cn fx<|d0 Me ps) (.s cQ)=aj->(av (cn fx<|d0 Me ps)<| .s bU).isSome=ag->Q (it 0) (MH g s [af c] R Me W'))(k3:∀c,r=bK c->av (cn fx<|d0 Me ps) (.s cQ)=aj->(av (cn fx<|d0 Me ps)<| .s bU).isSome=ak->Bh E (MH g s [] R Me W') c):ba TT NN (d+8) ak (.p<|aI 808) [.ob 15,.p<|aL<|Nd Me ps,.p<|aw [ab aE,aL<|ps.map n3,ju fx,aL mV]] (MH g s [] R Me W) Q E:=by
 refine acO rfl rfl λcl cf hc hf=>hc<|BU ag9 hp (bo hb.l<|dc rt)<|cj<|Mf Rj<|cJ oC (K:=bT) rfl rt rfl<|hc<|PK D hb ?_;have fin:∀{v TR c t},Q v (MH g s TR R Me W')->Q v (aG (MX g s TR R Me W' t c) 9 ae):=λh=>ah Gw<|h;induction r using qC with
 |ok p=>exact k0 p rfl
 |error c=>exact λt=>Gu Nf<|ajw (congrFun hf ag)<|Xd hE (λv q=>fin<|k1 c v rfl q) (λq z=>fin<|k2 c rfl q z) λq z=>k3 c rfl q z t
theorem afq(D:Bj bm ps Me W W' r)(hb:dB fx)(hp:ps.length<=100)(hE:∀v,av (cn fx<|d0 Me ps) (.s cQ)=aa v->∃n,v=af n/\n≠0/\mV=[af n])(k0:∀p,r=.ok p->Q (it<|-1) (MH g s [p] R Me W'))(k1:∀c v,r=bK c->av (cn fx<|d0 Me ps) (.s cQ)=aa v->Q (it 1) (MH g s (cond (av (cn fx<|d0 Me ps)<| .s bU).isSome [af c] []) R Me W'))(k2:∀c,r=bK c->av (cn fx<|d0 Me ps) (.s cQ)=aj->(av (cn fx<|d0 Me ps)<| .s bU).isSome=ag->Q (it 0) (MH g s [af c] R Me W'))(k3:∀c,r=bK c->av (cn fx<|d0 Me ps) (.s cQ)=aj->(av (cn fx<|d0 Me ps)<| .s bU).isSome=ak->Bh E (MH g s [] R Me W') c):ba TT NN (d+8) ak (.p<|aI 815) [.ob 15,.p<|aL<|Nd Me ps,.p<|aw [aL<|ps.map n3,ju fx,aL mV]] (MH g s [] R Me W) Q E:=by
 refine acO rfl rfl λcl cf hc hf=>hc<|BU ag9 hp (bo hb.l<|dc rt)<|cj<|Mf Rj<|cJ oC (K:=bT) rfl rt rfl<|hc<|PK D hb ?_;have fin:∀{v TR c t},Q v (MH g s TR R Me W')->Q v (aG (MX g s TR R Me W' t c) 9 ae):=λh=>ah Gw<|h;induction r using qC with
 |ok p=>exact cJ oC (K:=bT) rfl rt rfl<|b8 CE (mk:=.bi 0 0) rfl<|gW CE (bH _)<|ah Nb<|k0 p rfl
 |error c=>exact λt=>Gu Nf<|ajw (congrFun hf ag)<|Xd hE (λv q=>fin<|k1 c v rfl q) (λq z=>fin<|k2 c rfl q z) λq z=>k3 c rfl q z t
end
section
variable{W:Wd}{s:Int}{TR R:List P}{l:List P}{v x:P}
theorem Xe(h:aW σ n=aa (aM [x]))(k:Q (.p x)<|aG σ n<|aM []):uW 0 1 (.ob n) [] σ Q E:=(λe=>e▸⟨(by decide:1<=1000000),k⟩:∀{oo},oo=aa (aM [x])->M.aQ (oo.bind O.uV) (λxs=>.aQ xs.getLast? λx=>.eD (xs.length<=bZ)<| .bind (fP n<|aM xs.dropLast) λ_=>.ok<|V.p x) σ Q E) h
theorem Xf(S:St hd c v Me Ik)(k:Q (.p .none)<|MH g s TR R Ik W):ba TT NN (d+4) hd (.p<|aI 672) [.ob 21,.p<|yZ c,.p v] (MH g s TR R Me W) Q E:=by
 rw[ql]at k⊢;exact S _ _ _ aaq _ _ _ _ k
theorem aaR{i:Int}(k:Q (it<|-1)<|MH g s [] R {Me with S:=i} W):ba TT NN (d+5) ak (.p<|aI 801) [.ob 15,.p<|aL [yZ 83],x'] (MH g s [af i] R Me W) Q E:=
 aZ rfl rfl λhc=>cJ oC (K:=bT) rfl rt rfl<|b8 (fR rt rfl) (mk:=.cY 672) rfl<|cJ oC (K:=bT) rfl rt rfl<|b8 CE (mk:=.bi 0 1) rfl<|Xe CE<|ah Nb<|hc<|Xf ZZ k
theorem aaS{Q:Fl->Env->H->Prop}{E:Env->H->Prop}{vs:List P}{a:Tx}(hm:av m 175=aa (.ob 15))(amM:aW σ 15=aa (vo s))(amN:aW σ 16=aa (aM [cu ks vs]))(hr:av m 65=aa (.p<|ab a))(hv:av (ks.zip vs) (.s a)=aa v)(k:Q bE (aN m 31<| .p v) σ):ez cl cf (.ug 31<| .vg (.iz (.yf (bC 175) 180)<| .neg<|dN<|af 1) 3<| .cons (bC 65) .nil) m σ Q E:=ax hm<|cJ amM (K:=bT) rfl rt rfl<|Ma amN (j:=0) rfl rfl<|ax hr<|(λe=>e▸k:∀{o},o=aa v->Q bE (aN m 31 (qI V.p (.p .none) o).g7) σ) hv
theorem Rm{vs:List P}(hi:i<8)(ok:nN Me)(hv:av (ks.zip vs) (.s<|gT i)=aa v)(ho:W6 i v)(k:Q (it<|-1)<|MH g s [cu ks vs] R (rz i v Me) W):ba TT NN (d+5) ak (.p<|aI 822) [.ob 15,.p<|aL [yZ<|qQ i],.p<|ab<|gT i] (MH g s [cu ks vs] R Me W) Q E:=by
 refine aZ rfl rfl λhc=>cj<|aaS rfl oC CE rfl hv<|acW (λz=>?_) λz=>?_
 ·have e0:=ho.resolve_right λw=>by rw[Q6.nn hi w]at z;exact dC z
  rw[e0,Bx hi]at k;exact k
 ·have e2:=ho.resolve_left λw=>by rw[w]at z;exact rT z
  exact cJ oC (K:=bT) rfl rt rfl<|b8 (fR rt rfl) (mk:=.cY 672) rfl<|hc<|Xf (EW ok hi e2).2 k
theorem JO{x x':V}(k:Q (it<|-1)<|MH g s [] R Me W):ba TT NN (d+1) ak (.p<|aI 829) [.ob 15,x,x'] (MH g s [v] R Me W) Q E:=
 aZ rfl rfl λhc=>cJ oC (K:=bT) rfl rt rfl<|b8 CE (mk:=.bi 0 1) rfl<|Xe CE<|ah Nb<|k
def Rn(R:List P):List P->List P->Prop
 |[],vs=>vs=[]
 |r::rs,vs=>∃(z:Int)(p:Nat)(v:P)(us:List P),r=af z/\z=p/\vs=v::us/\R[p]?=aa v/\Rn R rs us
theorem Yf(hm:∀v,av (aN m 29 v) 212=aa (.ob 17))(hl:R.length<=100000):∀rs vs acc,Rn R rs vs->acc.length+rs.length<=1000->Q (.p<|aL<|acc++vs) (MH g s TR R Me W)->iQ (λx=>.bind (ni ⟨TT,NN,cl,hd,lv⟩ (aN m 29<| .p x) .nil) λb=>lw b<| .bind (eP ⟨TT,NN,cl,hd,lv⟩ (aN m 29<| .p x)<| .iz (.yf (bC 212) 13)<|bC 29) λv=>.aQ v.pl .ok) acc rs (MH g s TR R Me W) Q E:=lr
 (@λvs acc h _ k=>by
  rw[h,fc]at k;exact k)
 (λr rs b5=>@λvs acc h hn k=>by
  refine eh λcy bk=>?_;obtain ⟨z,p,v,us,rfl,hz,rfl,hv,h⟩:=h;exact bk<|ax (hm _)<|cJ CF (K:=jI) rfl rt rfl<|ax bQ<|v5 H6 hz hl hv ⟨(bo (bo (gf _ _) hn)<|dc rt),(b5 us (acc++[v]) h (by refine ah cg ?_;have:=hn;exact cw mX aA [(1,eA aB ie,aA)] rt this)<|by rw[de];exact k)⟩)
theorem akG{rs vs pl:List P}{rest:P}(hw:av (ajC.zip ajD) (.s w)=aa (aI a))(hr:Rn R rs vs)(hl:R.length<=100000)(hn:rs.length<=1000)(run:∀K,(∀σ,Q (.p .none) σ->K (it<|-1) σ)->(∀σ x,pl[0]?=aa x->Q (.p x) σ->K (it 0) σ)->(∀σ x,pl[1]?=aa x->Q (.p x) σ->K (it 1) σ)->∀E',(∀σ,E σ->E' σ)->ba TT NN (d+1) ak (.p<|aI a) [.ob 15,.p<|aL vs,.p rest] (MH g s TR R Me W) K E'):ba TT NN (d+2) ak (.p<|aI 959) [.ob 15,.ob 17,.p<|aw [ab [105,111],ab w,aw [aL rs,aL pl,rest]]] (MH g s TR R Me W) Q E:=by
 refine aZ rfl rfl λhc=>cJ oC (K:=bT) rfl rt rfl<|vm (λ_=>ik ?_)<|ir hw;refine cJ oC (K:=bT) rfl rt rfl (ax hw<|Yf (λ_=>rfl) hl rs vs [] hr (by exact dj s9 aA [(1,aB,aA)] rt hn)<|hc<|run _ (λσ z=>?_) (λσ x e z=>?_) (λσ x e z=>?_) _ λσ z=>z)
 ·exact ⟨bH _,z⟩
 ·exact ⟨bH _,ax e z⟩
 ·exact ⟨bH _,ax e z⟩
end
inductive Op where|set (r:Nat) (k:Int) (v:P)|rD (r c:Nat)|load (r q:Nat)|C8 (q r:Nat)|g8 (m:Nat)|ret|io (w:Tx) (rs ms:List Nat) (rest:P)
noncomputable def nI (n:Nat):P:=af n
def sM(f:Nat->P):Op->P
 | .set r k v=>aw [ab QC,nI r,af k,v]
 | .rD r c=>aw [ab G8,nI r,ab [c]]
 | .load r q=>aw [ab G9,nI r,nI q]
 | .C8 q r=>aw [ab A8,nI q,nI r]
 | .g8 m=>aw [ab pD,f m]
 | .ret=>aw [ab nj,af<|-1]
 | .io w rs ms rest=>aw [ab [105,111],ab w,aw [aL<|rs.map nI,aL<|ms.map f,rest]]
def y0(F:List P)(f:Nat->P):Nat->List Op->Prop
 |_,[]=>True
 |p,o::l=>F[p]?=aa (sM f o)/\y0 F f (p+1) l
theorem xJ{F:List P}{f:Nat->P}:∀{a b:List Op}{p:Nat},y0 F f p (a++b)->y0 F f p a/\y0 F f (p+a.length) b:=@lr _ _
 (@λb p h=>⟨trivial,h⟩)
 (λo a ih=>@λb p h=>by
  obtain ⟨h1,h2⟩:=ih (b:=b) h.2;exact ⟨⟨h.1,h1⟩,(by refine ah (show p+(o::a).length=p+1+a.length from by show p+(a.length+1)=_;exact kn (cw wg mX [] rt)<|cw mX wg [] rt) ?_;exact h2)⟩)
structure MC where
 cl:V->List V->M V
 cf:Bool->V->List V->M V
 F:List P
 f:Nat->P
 g:Nat->O
 Q:Fl->Env->H->Prop
 E:H->Prop
structure rE(c:MC)(d:Nat):Prop where
 cl:jo c.cl (d+10) ak
 F:c.F.length<=100000
def LQ(c:MC)(p s:Nat)(TR R:List P)(Me:Mem)(W:Wd):Prop:=∀z u:Int,z=p->u=s->LP c.cl c.cf c.F (100000 - s) z (MH c.g u TR R Me W) c.Q λ_=>c.E
section
variable{c:MC}{s m:Nat}{TR R:List P}{W:Wd}{v:P}{k:Int}
structure akH(c:MC)(p s:Nat)(u:Int)(K:V->H->Prop):Prop where
 none:∀{TR R Me W},LQ c (p+1) (s+1) TR R Me W->K (.p .none) (MH c.g u TR R Me W)
 g8:∀{z:Int}{j:Nat}{TR R Me W},z=j->LQ c j (s+1) TR R Me W->K (it z) (MH c.g u TR R Me W)
 ret:∀r σ,(∀m,c.Q (.ret<| .p r) m σ)->K (.p<|aw [ab nj,r]) σ
theorem ri{l:List P}(O:rE c d)(hs:s<99999)(h:c.F[p]?=aa (aw<|ab w::l))(hw:av (adW.zip adX) (.s w)=aa (aI a))(run:∀u K,akH c p s u K->ba TT NN (d+10) ak (.p<|aI a) [.ob 15,.ob 17,.p<|aw<|ab w::l] (MH c.g u TR R Me W) K c.E):LQ c p s TR R Me W:=λz u hz hu=>by
 refine ah (Nat.succ_pred_eq_of_pos (Nat.sub_pos_of_lt<|qf hs<|dc rt):Nat.pred (100000 - s)+1=100000 - s).symm<|Yd O.cl hz (by rw[hu];exact cS.mpr<|bo hs (by decide:99999<=1000000)) O.F h hw λK A m=>run (u+1) K ⟨λL=>A.none _<|L _ _ (congrArg (·+1) hz)<|congrArg (·+1) hu,λe L=>A.int _ _<|L _ _ e<|congrArg (·+1) hu,A.ret⟩
theorem acZ(O:rE c d)(hs:s<99999)(h:c.F[p]?=aa (sM c.f<| .set r k v))(hr:r<R.length)(hl:R.length<=1000)(n:LQ c (p+1) (s+1) TR (R.set r v) Me W):LQ c p s TR R Me W:=
 ri O hs h rfl λu K A=>ah8 rfl hr (bo hl<|dc rt)<|A.none n
theorem EZ{l:List P}(O:rE c d)(hs:s<99999)(h:c.F[p]?=aa (sM c.f<| .rD r x))(hx:av H3 (.s [x])=aa (aw l))(hr:r<R.length)(hl:R.length<=1000)(n:LQ c (p+1) (s+1) TR (R.set r<|aw l) Me W):LQ c p s TR R Me W:=
 ri O hs h rfl λu K A=>afm rfl hr (bo hl<|dc rt) hx<|A.none n
theorem afr{x:P}(O:rE c d)(hs:s<99999)(h:c.F[p]?=aa (sM c.f<| .load r q))(hq:R[q]?=aa x)(ld:∀u Q E,Q (.p v) (MH c.g u TR R Me W)->ba TT NN (d+9) ak (.p<|aI 665) [.ob 21,.p x] (MH c.g u TR R Me W) Q E)(hr:r<R.length)(hl:R.length<=1000)(n:LQ c (p+1) (s+1) TR (R.set r v) Me W):LQ c p s TR R Me W:=
 ri O hs h rfl λu K A=>afn rfl rfl hr (bo hl<|dc rt) hq (ld u)<|A.none n
theorem aaT(O:rE c d)(hs:s<99999)(h:c.F[p]?=aa (sM c.f<| .C8 q r))(hq:R[q]?=aa (yZ x))(hr:R[r]?=aa v)(S:St ak x v Me Ik)(hl:R.length<=1000)(n:LQ c (p+1) (s+1) TR R Ik W):LQ c p s TR R Me W:=
 ri O hs h rfl λu K A=>aaP rfl rfl (bo hl<|dc rt) hq hr S<|A.none n
theorem E0(O:rE c d)(hs:s<99999)(h:c.F[p]?=aa (sM c.f<| .g8 m))(hm:c.f m=nI j)(n:LQ c j (s+1) TR R Me W):LQ c p s TR R Me W:=ri O hs (hm▸h:c.F[p]?=aa (aw [ab pD,nI j])) rfl λu K A=>afo<|A.g8 rfl n
theorem aic(O:rE c d)(hs:s<99999)(h:c.F[p]?=aa (sM c.f .ret))(n:∀u m,c.Q (.ret<|it 0) m<|MH c.g u TR R Me W):LQ c p s TR R Me W:=
 ri O hs h rfl λu K A=>ah9<|A.ret _ _<|n u
theorem Ro{rs:List Nat}{rest:P}{vs:List P}(O:rE c d)(hs:s<99999)(h:c.F[p]?=aa (sM c.f<| .io w rs ms rest))(hw:av (ajC.zip ajD) (.s w)=aa (aI a))(hr:Rn R (rs.map nI) vs)(hl:R.length<=1000)(hn:rs.length<=1000)(run:∀u K E,(∀{TR R Me W},LQ c (p+1) (s+1) TR R Me W->K (it<|-1) (MH c.g u TR R Me W))->(∀{m j TR R Me W},ms[0]?=aa m->c.f m=nI j->LQ c j (s+1) TR R Me W->K (it 0) (MH c.g u TR R Me W))->(∀{m j TR R Me W},ms[1]?=aa m->c.f m=nI j->LQ c j (s+1) TR R Me W->K (it 1) (MH c.g u TR R Me W))->(∀σ,c.E σ->E σ)->ba TT NN (d+9) ak (.p<|aI a) [.ob 15,.p<|aL vs,.p rest] (MH c.g u TR R Me W) K E):LQ c p s TR R Me W:=
 have pl:∀{i m j:Nat},ms[i]?=aa m->c.f m=nI j->(ms.map c.f)[i]?=aa (nI j):=λh e=>by refine ah (mz) ?_;refine ah h ?_;exact ah e.symm rfl
 ri O hs h rfl λu K A=>akG hw hr (bo hl<|dc rt) (by rw[cq];exact hn) λK' k1 k2 k3 E' hE=>run u K' E' (λn=>k1 _<|A.none n) (λh e n=>k2 _ _ (pl h e)<|A.g8 rfl n) (λh e n=>k3 _ _ (pl h e)<|A.g8 rfl n) hE
end
noncomputable def kS (r:Nat):Ar->List Op| .js k v=>[.set r k v]| .m4 _ c=>[.rD r c,.load (r+1) r]| .bf _=>[]
noncomputable def E1 (r:Nat):Ar->Nat| .m4 _ _=>r+1|_=>r
noncomputable def sX:Ar->Nat| .js _ _=>1| .m4 _ _=>2| .bf _=>0
noncomputable def eF:Nat->List v3->List Op|_,[]=>[]|r,e::l=>kS r e.2++eF (r+sX e.2) l
noncomputable def nO:Nat->List v3->List Nat|_,[]=>[]|r,e::l=>E1 r e.2::nO (r+sX e.2) l
noncomputable def iT:List v3->Nat|[]=>0|e::l=>sX e.2+iT l
def gX:Nat->List Nat->List Op|_,[]=>[]|r,i::l=>.rD r (qQ i)::.io vR [r] [] (ab<|gT i)::gX (r+1) l
def Gx(b:Bool)(r:Nat):List Op:=cond b [.rD r 83,.io MQ [r] [] .none] []
noncomputable def fw (b:Bool) (r:Nat):List Op:=cond b [.rD r 83,.set (r+1) 0<|af 0,.C8 r<|r+1] []
section
variable{c:MC}{s m:Nat}{TR R:List P}{W:Wd}{v x:P}{k:Int}
theorem rF{xs:List P}(h:q≠r):(xs.set r v)[q]?=xs[q]?:=Lc h.symm
theorem rj{xs:List P}(h:r<xs.length):(xs.set r v)[r]?=aa v:=K8 h
theorem aid(ok:nN Me)(h:vn (.m4 kd a)\/gC (.m4 kd a)){u:Int}(z:Q (.p<|nu Me<| .m4 kd a)<|MH g u TR R Me W):ba TT NN (d+9) ak (.p<|aI 665) [.ob 21,.p<|yZ a] (MH g u TR R Me W) Q E:=by
 rw[ql]at z⊢;induction h using xl with
 |inl h=>obtain ⟨rfl,rfl⟩:=h;exact W9 aaq.mem z
 |inr h=>obtain ⟨rfl,rfl⟩:=h;exact Xa aaq.mem ok z
theorem aaU(h:vn (.m4 kd a)\/gC (.m4 kd a)):∃l,av H3 (.s [a])=aa (aw l)/\yZ a=aw l:=by
 induction h using xl with
 |inl h=>obtain ⟨rfl,rfl⟩:=h;exact (b0 _ rfl rfl)
 |inr h=>obtain ⟨rfl,rfl⟩:=h;exact (b0 _ rfl rfl)
theorem aaV{a:Ar}(O:rE c d)(ok:nN Me)(h:vn a\/gC a)(hA:y0 c.F c.f p<|kS r a)(hr:r+sX a<=R.length)(hl:R.length<=1000)(hs:s+2<99999)(n:∀R',R'.length=R.length->(∀q,q<r->R'[q]?=R[q]?)->R'[E1 r a]?=aa (nu Me a)->LQ c (p+(kS r a).length) (s+(kS r a).length) TR R' Me W):LQ c p s TR R Me W:=by
 cases a with
 |js kd v=>exact acZ O (dj eI eK [(1,eA iP bz,eK)] rt hs) hA.1 hr hl<|n _ (fu ..) (λq h=>rF<|m7 h)<|rj hr
 |m4 kd a=>
  refine cE (aaU h) λl e1 e2=>EZ O (dj eI eK [(1,eA iP bz,eK)] rt hs) hA.1 e1 (cw eI bb [(1,eA aB g9,bb)] rt hr) hl (afr O (dj mh eK [(1,eA iP bz,eK)] rt hs) hA.2.1 (rj<|cw eI bb [(1,eA aB g9,bb)] rt hr) (λu Q E z=>by rw[<-e2]at z⊢;exact aid ok h z) (by rw[fu];exact cw mh bb [(1,eA aB g9,bb)] rt hr) (ah fu<|hl)<|n _ (by refine ah fu<|ah fu ?_;rfl) (λq h=>?_)<|rj<|by rw[fu];exact cw mh bb [(1,eA aB g9,bb)] rt hr);refine ah (rF λh_=>eH 0<|cw bz eC [(1,eA aB bz,bb),(1,eA bb bz,aB)] rt h<|bx h_.symm)<|ah (rF λh_=>eH 0<|cw bz eC [(1,eA aB bz,bb),(1,bb,aB)] rt h<|bx h_.symm) ?_;rfl
 |bf z=>exact h.elim oU oU
theorem aaW{a:Ar}(h:vn a\/gC a):E1 r a<r+sX a:=match a,h with
 | .js _ _,_=>pw _
 | .m4 _ _,_=>pw _
 | .bf _,h=>h.elim oU oU
theorem Rp(O:rE c d)(ok:nN Me):∀ps(r p s:Nat)R,(∀e∈ps,IB e)->y0 c.F c.f p (eF r ps)->r+iT ps<=R.length->R.length<=1000->s+(eF r ps).length+2<99999->(∀R',R'.length=R.length->(∀q,q<r->R'[q]?=R[q]?)->Rn R' ((nO r ps).map nI) (Nd Me ps)->LQ c (p+(eF r ps).length) (s+(eF r ps).length) TR R' Me W)->LQ c p s TR R Me W:=lr
 (@λr p s R _ _ _ _ _ n=>n R rfl (λ_ _=>rfl) rfl)
 (λe ps ih=>@λr p s R hp hA hr hl hs n=>by
  obtain ⟨A1,A2⟩:=xJ hA;have el:(eF r<|e::ps).length=(kS r e.2).length+(eF (r+sX e.2) ps).length:=cg;refine aaV O ok ((hp e<|bt _).arg) A1 (qE (eA aB bb) gO [(1,eA aB<|eA bb cv,gO)] rt hr) hl (jB (zp (gf s _) 2) hs) λR1 l1 g1 v1=>ih (r+sX e.2) _ _ R1 (λe h=>hp e<|aS _ h) A2 (Pn LR rR [(1,eA aB<|eA bb cv,gO),(1,gO,rR)] rt hr<|bx l1.symm) (cw bb aA [(1,aB,aA),(1,bb,aB)] rt hl<|bx l1) (by rw[qe s,<-el];exact hs) λR2 l2 g2 v2=>?_;have:=n R2 (l2.trans l1) (λq h=>(g2 q<|Nat.lt_add_right _ h).trans<|g1 q h) ⟨_,_,_,_,rfl,rfl,rfl,(g2 _<|aaW<|(hp e<|bt _).arg).trans v1,v2⟩;rw[el,<-qe,<-qe]at this;exact this)
theorem aaX{vs:List P}{f:Nat->P}(O:rE c d)(hv:∀i,i<8->av (ks.zip vs) (.s<|gT i)=aa (f i)/\W6 i (f i)):∀l(r p s:Nat)R(Me:Mem),nN Me->(∀i∈l,i<8)->y0 c.F c.f p (gX r l)->r+l.length<=R.length->R.length<=1000->s+2*l.length<99999->(∀R',R'.length=R.length->LQ c (p+(gX r l).length) (s+(gX r l).length) [cu ks vs] R' (l.foldl (λM i=>rz i (f i) M) Me) W)->LQ c p s [cu ks vs] R Me W:=lr
 (@λr p s R Me ok _ _ _ _ _ n=>n R rfl)
 (λi l ih=>@λr p s R Me ok hi hA hr hl hs n=>by
  have h8:=hi i<|bt _;refine aah (hv i h8) λe1 e2=>Exists.elim (Il (p:=λi=>∃t,yZ (qQ i)=aw t) ⟨_,rfl⟩ ⟨_,rfl⟩ ⟨_,rfl⟩ ⟨_,rfl⟩ ⟨_,rfl⟩ ⟨_,rfl⟩ ⟨_,rfl⟩ ⟨_,rfl⟩ i h8) λt et=>EZ O (jB (gf s _) hs) hA.1 ((Xb h8).trans<|congrArg aa et) (gS eI cv [(1,eA aB ie,cv)] rt hr) hl (Ro O (jB (vd (bo (by decide:1<=2)<|U7 2<|2*l.length) s) hs) hA.2.1 rfl ⟨_,_,_,_,rfl,rfl,rfl,rj<|gS eI cv [(1,eA aB ie,cv)] rt hr,rfl⟩ (ah fu<|hl) (by decide:1<=1000) λu K E k1 _ _ _=>?_);refine ah et.symm<|Rm h8 ok e1 e2<|k1<|ih (r+1) _ _ _ _ (Xc ok h8 e2) (λi h=>hi i<|aS _ h) hA.2.2 (fu.symm▸gS mX cv [(1,eA aB ie,cv)] rt hr) (ah fu<|dj aB aA [(1,aB,aA)] rt hl) (jB (cw (eA mh<|eM 2 bb) (eA aB vf) [] rt) hs) λR' h=>?_;have:=n R'<|h.trans<|fu ..;rw[show p+1+1+(gX (r+1) l).length=p+(gX r<|i::l).length by exact kn (gS (eA (eA Dj bz) bb) (eA cv aB) [(1,eA bb g9,aB)] rt<|bx rfl.symm) (gS (eA cv aB) (eA (eA Dj bz) bb) [(1,aB,eA bb g9)] rt<|bx rfl),show s+1+1+(gX (r+1) l).length=s+(gX r<|i::l).length by exact kn (gS (eA (eA Dj bz) bb) (eA cv aB) [(1,eA bb g9,aB)] rt<|bx rfl.symm) (gS (eA cv aB) (eA (eA Dj bz) bb) [(1,aB,eA bb g9)] rt<|bx rfl)];exact this)
theorem Yg(O:rE c d)(hA:y0 c.F c.f p<|fw b r++[.g8 m])(hm:c.f m=nI j)(hr:b=ag->r+2<=R.length)(hl:R.length<=1000)(hs:s+4<99999)(n:∀R' s',R'.length=R.length->s'<=s+4->LQ c j s' [] R' (yu b 0 Me) W):LQ c p s [] R Me W:=by
 induction b using fe with
 |false=>exact E0 O (dj eI eK [(1,eA G1 bz,eK)] rt hs) hA.1 hm<|n R _ rfl<|dj eI G1 [] rt
 |true=>
  refine EZ O (dj eI eK [(1,eA G1 bz,eK)] rt hs) hA.1 rfl (cw eI bb [(1,eA aB g9,bb)] rt<|hr rfl) hl (acZ O (dj mh eK [(1,eA G1 bz,eK)] rt hs) hA.2.1 (by rw[fu];exact cw mh bb [(1,eA aB g9,bb)] rt<|hr rfl) (by rw[fu];exact hl)<|aaT O (dj (eA mh bz) eK [(1,eA G1 bz,eK)] rt hs) hA.2.2.1 (x:=83) ?_ (rj<|by rw[fu];exact cw mh bb [(1,eA aB g9,bb)] rt<|hr rfl) ZZ (by refine ah fu ?_;rw[fu];exact hl)<|E0 O (dj (eA (eA mh bz) bz) eK [(1,eA G1 bz,eK)] rt hs) hA.2.2.2.1 hm<|n _ _ (by exact ah fu<|ah fu rfl)<|dj (eA (eA mh bz) bz) G1 [] rt);refine ah (rF λh_=>eH 0<|dj bz eC [(1,eA aB bz,aB)] rt<|bx h_.symm)<|ah (rj<|cw eI bb [(1,eA aB g9,bb)] rt<|hr rfl) ?_;rfl
theorem IF{e:Int}(O:rE c d)(hA:y0 c.F c.f p<|Gx b r++[.g8 m])(hm:c.f m=nI j)(hr:b=ag->r+1<=R.length)(hl:R.length<=1000)(hs:s+4<99999)(n:∀R' s',R'.length=R.length->s'<=s+4->LQ c j s' [] R' (yu b e Me) W):LQ c p s (cond b [af e] []) R Me W:=by
 induction b using fe with
 |false=>exact E0 O (dj eI eK [(1,eA G1 bz,eK)] rt hs) hA.1 hm<|n R _ rfl<|dj eI G1 [] rt
 |true=>
  exact EZ O (dj eI eK [(1,eA G1 bz,eK)] rt hs) hA.1 rfl (cw eI bb [(1,eA aB bz,bb)] rt<|hr rfl) hl (Ro O (dj mh eK [(1,eA G1 bz,eK)] rt hs) hA.2.1 rfl ⟨_,_,_,_,rfl,rfl,rfl,rj<|cw eI bb [(1,eA aB bz,bb)] rt<|hr rfl,rfl⟩ (fu.symm▸hl) (by decide:1<=1000) λu K E k1 _ _ _=>aaR<|k1<|E0 O (dj (eA mh bz) eK [(1,eA G1 bz,eK)] rt hs) hA.2.2.1 hm<|n _ _ fu<|dj (eA mh bz) G1 [] rt)
end
noncomputable def qm:En->Bool| .yq=>ag| .yr _=>ag|_=>ak
def Hv(es:List En):List (bV×P):=cn []<|dE<|es.filter qm
def lX(es:List En):List P:=match av (dE es) (.s cQ)with|some v=>[v]|none=>[]
def cA(bf:Int->Nat)(es:List En):Option Nat:=(av (dE es)<| .s cQ).map λv=>bf<|v.iD 0
noncomputable def eV (m:Nat) (g:Option Nat):List Nat:=m::match g with|some _=>[m+1]|none=>[]
def kf(r:Nat)(ms:List Nat)(aE:Tx)(es:List En):List Op:=cond (cL (ab aE)<|ab bm)
 (.io MS (nO r<|bG es) ms (aw [aL<|(bG es).map n3,ju<|Hv es,aL<|lX es])::(gX (r+iT (bG es)) (fO es)++[.io nZ [] [] .none]))
 [.io MR (nO r<|bG es) ms<|aw [ab aE,aL<|(bG es).map n3,ju<|Hv es,aL<|lX es]]
def gA(b:Bool)(r:Nat)(j:Nat):List Op:=Gx b r++[.g8 j]
def E2(b:Bool)(r:Nat):Option Nat->List Op|some j=>gA b r j|none=>[]
noncomputable def gN (g:Option Nat):Nat:=match g with|some _=>4|none=>3
noncomputable def bN (b:Bool) (n:Nat):Nat:=cond b n 0
def mo(r:Nat)(aE:Tx)(es:List En):Nat:=r+iT (bG es)+bN (cL (ab aE)<|ab bm) (fO es).length
def gc(r:Nat)(ms:List Nat)(aE:Tx)(es:List En):List Op:=eF r (bG es)++kf r ms aE es
def jZ(b:Bool)(r td:Nat)(g:Option Nat):List Op:=(fw b r++[.g8 td])++(gA b (r+bN b 2) td++E2 b (r+bN b 3) g)
def pP(m:Nat)(g:Option Nat):Nat:=m+(eV m g).length
def qo(r m:Nat)(aE:Tx)(es:List En)(g:Option Nat):List Op:=gc r (eV m g) aE es++jZ (cG es) (mo r aE es) (pP m g) g
def E3(r m:Nat)(aE:Tx)(es:List En)(g:Option Nat):Nat:=(gc r (eV m g) aE es).length+(fw (cG es) (mo r aE es)++[Op.g8<|pP m g]).length
def H7(r m:Nat)(aE:Tx)(es:List En)(g:Option Nat):Nat:=E3 r m aE es g+(gA (cG es) (mo r aE es+bN (cG es) 2)<|pP m g).length
section
variable{c:MC}{s m:Nat}{TR R:List P}{W:Wd}{v x:P}{k:Int}{iw:Except Int P}
theorem Od:∀{l b:List (bV×A)},(∀e∈l,e.1≠kk)->av (cn b l) kk=av b kk:=@lr _ _
 (@λ_ _=>rfl)
 (λe l ih=>@λb h=>(ih λe q=>h e<|aS _ q).trans<|gp (h e<|bt _).symm)
theorem Gy{v:P}(h:(kk,v)∈dE (es.filter qm)):∃e∈es,qm e=ag/\kk=.s (pW e)/\v=ID e:=by
 refine cE (nQ.mp h) λe he q=>?_;obtain ⟨h1,h2⟩:=AF.mp he;cases q;exact (ajj e h1 h2 rfl rfl)
theorem aaY:qm e=ag->cO (ab<|pW e) [ab bU,ab cQ]=ag:=e.rec (λ_=>rt) (λ_ _=>rt) (λ_ _=>dC) λ_=>dC
theorem aaZ:qR aE e->cO (ab<|pW e) [ab bU,ab cQ]=ag->qm e=ag:=e.rec (λ_ _=>rt) (λ_ _ _=>rt) (λt a S h=>dC<|(adV S.1.h).symm.trans h) λi S h=>Il (p:=λi=>cO (ab<|gT i) [ab bU,ab cQ]=ag->False) dC dC dC dC dC dC dC dC i S.1 h|>.elim
theorem PL(S:jO aE es):dB (Hv es) where
 s:=BS (p:=λk=>∃t:Tx,k=.s t) (λe h=>nomatch h) λe h=>aji (Gy h) λe' _ _ q _=>⟨_,q⟩
 l:=by
  have:=BR (b:=[]) (l:=dE<|es.filter qm);have h2:(dE<|es.filter qm).length<=es.length:=by delta dE;rw[cq];exact La _ _
  have:=S.len;delta Hv;exact nn [_,_,_,_] aB iO [(1,aB,eA bb cv),(1,cv,gO),(1,gO,lZ),(1,bb,eC)] rt (by assumption) h2 this (bx rfl)
 n:=λw h=>by
  cases q:av (Hv es) (.s w)with
  |none=>rfl
  |some v=>
   refine aji (Gy<|(yp q).resolve_right λz=>nomatch z) λrfl _ h2 h3 _=>?_;cases h3;exact nomatch h.symm.trans (aaY h2)
theorem Xg(S:jO aE es)(hw:cO (ab w) [ab bU,ab cQ]=ag):av (cn (Hv es)<|d0 Me<|bG es) (.s w)=av (dE es) (.s w):=by
 have np:∀{l:List En},(∀e∈l,qR aE e)->∀e∈d0 Me (bG l),e.1≠.s w:=by
  intro l;induction l with
  |nil=>intro _ e h;exact nomatch h
  |cons a l ih=>
   intro h e he;have ih:=ih λe q=>h e<|aS _ q;cases a with
   |d4 t a=>exact (dU.mp he).elim (λq z=>by rw[q]at z;rw[<-bV.s.inj z]at hw;exact nomatch hw.symm.trans (adV (h _<|bt _).1.h))<|ih e
   |_=>exact ih e he
 refine ah (Od<|np S.ok) ?_
 have e2:∀v,av (Hv es) (.s w)=aa v->av (dE es) (.s w)=aa v:=λv q=>eh λcy bk=>aji (Gy<|(yp q).resolve_right λz=>nomatch z) λe h1 _ h3 h4=>bk<|ah h3<|ah h4<|S.co e h1
 refine oc (av (dE es)<| .s w) (λq=>?_) λv q=>?_
 ·refine ah q ?_
  cases q2:av (Hv es) (.s w)with
  |none=>rfl
  |some v=>exact nomatch q.symm.trans (e2 v q2)
 ·
  refine cE (nQ.mp<|gY q) λe h1 h2=>?_;cases h2;obtain ⟨v',alE⟩:=m6.mp<|y3 (b:=[]) (kk:=.s<|pW e)<|bM ⟨ID e,Ld (f:=λe=>(bV.s<|pW e,ID e))<|AF.mpr ⟨h1,aaZ (S.ok e h1) hw⟩⟩;refine ah (show av (Hv es) (.s<|pW e)=aa v' from alE)<|ah (e2 v' alE).symm<|ah q ?_;rfl
end
section
variable{c:MC}{s m:Nat}{TR R:List P}{W:Wd}{v x:P}{k:Int}{iw:Except Int P}
theorem jM:∀ps(r:Nat),(eF r ps).length<=2*ps.length:=lr
 (@λ_=>bH _)
 (λe ps ih=>@λr=>by
  have:=ih<|r+sX e.2;exact ah cg<|gS (eA cv aB) vf [(1,aB,eM 2 bb),(1,cv,g9)] rt this (match e.2 with| .js _ _=>kZ 1| .m4 _ _=>gj 2| .bf _=>bH 2:(kS r e.2).length<=2))
theorem Oe:∀ps(r:Nat),(nO r ps).length=ps.length:=lr
 (@λ_=>rfl)
 (λe ps ih=>@λr=>congrArg (·+1)<|ih _)
theorem om:∀l(r:Nat),(gX r l).length=2*l.length:=lr
 (@λ_=>rfl)
 (λi l ih=>@λr=>by
  have:=ih<|r+1;exact kn (cw iP vf [(1,aB,eM 2 bb)] rt<|bx this)<|cw vf iP [(1,eM 2 bb,aB)] rt<|bx this.symm)
theorem ti:∀{l:List En},(fO l).length<=l.length:=@lr _ _
 (gj 0)
 (λe l ih=>by
  cases e with
  |l7 i=>exact kY ih
  |_=>exact uJ<|ih)
theorem PM:∀{l:List En},(∀e∈l,qR aE e)->∀i∈fO l,i<8:=@lr _ _
 (@λ_ i h=>nomatch h)
 (λe l b5=>@λH i h=>by
  have ih:=b5 λe q=>H e<|aS _ q;cases e with
  |l7 j=>exact (dU.mp h).elim (λq=>q▸(H _<|bt _).1)<|ih i
  |_=>exact ih i h)
theorem IG:∀{l:List En},(∀e∈l,qR aE e)->∀e∈bG l,IB e:=@lr _ _
 (@λ_ e h=>nomatch h)
 (λa l b5=>@λH e h=>by
  have ih:=b5 λe q=>H e<|aS _ q;cases a with
  |d4 t a=>exact (dU.mp h).elim (λq=>q▸(H _<|bt _).1)<|ih e
  |_=>exact ih e h)
theorem Xh{s t:Nat}(h:t<=s+200)(hs:s+200<99999):t<99999:=jB h hs
theorem aie{pos:Int->Nat}(O:rE c d)(S:jO aE es)(ok:nN Me)(D:Bj aE (bG es) Me W W' iw)(hA:∀p,iw=.ok p->cL (ab aE) (ab bm)=ag->zO p)(hE:∀v,av (dE es) (.s cQ)=aa v->∃n,v=af n/\n≠0)(A:y0 c.F c.f p<|qo r m aE es<|cA bf es)(m0:c.f m=nI (p+E3 r m aE es (cA bf es)))(m1:∀v,av (dE es) (.s cQ)=aa v->c.f (m+1)=nI (p+H7 r m aE es (cA bf es)))(mb:c.f (pP m<|cA bf es)=nI (p+(qo r m aE es<|cA bf es).length))(ml:∀n,av (dE es) (.s cQ)=aa (af n)->c.f (bf n)=nI (pos n))(hr:mo r aE es+bN (cG es) (gN<|cA bf es)<=R.length)(hl:R.length<=1000)(hs:s+200<99999)(kN:ij es iw=af 0->∀R' s',R'.length=R.length->s'<=s+200->LQ c (p+(qo r m aE es<|cA bf es).length) s' [] R' (jK es iw Me) W')(kJ:∀n,n≠0->ij es iw=af n->∀R' s',R'.length=R.length->s'<=s+200->LQ c (pos n) s' [] R' (jK es iw Me) W')(kF:ij es iw=.none->∀u R' t code,R'.length=R.length->c.E (MX c.g u [] R' (jK es iw Me) W' t code)):LQ c p s [] R Me W:=by
 refine aah (xJ A) λA1 A2=>?_;obtain ⟨B1,B2⟩:=xJ A1;obtain ⟨Z,A3⟩:=xJ A2;obtain ⟨W0,W1⟩:=xJ A3;have lp:=jM (bG es) r;have lq:=iV (l:=es);have ll:=S.len;have la:=ti (l:=es);have Q4:r+iT (bG es)+bN (cL (ab aE)<|ab bm) (fO es).length+bN (cG es) (gN<|cA bf es)<=R.length:=hr;have bI:cG es=ag->3<=bN (cG es) (gN<|cA bf es)/\bN (cG es) 3=3/\bN (cG es) 2=2:=λh=>by rw[h];exact (k8 (by cases cA bf es<;>exact jA rt) rfl rfl)
 have W1:y0 c.F c.f (p+H7 r m aE es (cA bf es)) (E2 (cG es) (mo r aE es+bN (cG es) 3)<|cA bf es):=by rw[H7,E3,<-qe,<-qe];exact W1
 have gE:=Xg (Me:=Me) S (w:=cQ) rt;have gI:=Xg (Me:=Me) S (w:=bU) rt;have alF:∀v,av (cn (Hv es)<|d0 Me<|bG es) (.s cQ)=aa v->∃n,v=af n/\n≠0/\lX es=[af n]:=λv q=>by
  rw[gE]at q;exact cE (hE v q) λn h1 h2=>(tc n h1 h2<|by rw[lX,q,h1])
 have pl:(bG es).length<=100:=(cw aB iO [(1,aB,bb),(1,bb,lZ)] rt lq ll)
 have e0:∀{p0},iw=.ok p0->∀R' s' M',R'.length=R.length->s'<=s+150->yu (cG es) 0 M'=jK es iw Me->LQ c (p+(gc r (eV m<|cA bf es) aE es).length) s' [] R' M' W':=λh R' s' M' h1 h2 h3=>
  Yg O Z mb (λz=>by have:=bI z;rw[h1];rw[mo];exact Pn (eA LR g9) rR [(1,eA LR gO,rR),(1,l5,gO)] rt Q4 this.1) (cw bb aA [(1,aB,aA),(1,bb,aB)] rt hl<|bx h1) (Xh (cw (eA bb EA) (eA aB m8) [(1,bb,eA aB pB)] rt h2) hs) λR2 s2 h4 h5=>by rw[h3];exact kN (by rw[h];rfl) R2 s2 (h4.trans h1)<|gS cv (eA bb m8) [(1,aB,eA bb pB),(1,cv,eA aB EA)] rt h2 h5
 have e1:∀{e v},iw=bK e->av (dE es) (.s cQ)=aa v->∀R' s',R'.length=R.length->s'<=s+150->LQ c (p+H7 r m aE es (cA bf es)) s' (cond (cG es) [af e] []) R' Me W':=λ{e v}h q R' s' h1 h2=>by
  refine cE (hE v q) λn h3 h4=>?_;subst h3;have W1:y0 c.F c.f (p+H7 r m aE es (cA bf es)) (gA (cG es) (mo r aE es+bN (cG es) 3)<|bf n):=by
   have:cA bf es=aa (bf n):=by rw[cA,q];rfl
   rw[this]at W1⊢;exact W1
  exact IF O W1 (ml n q) (λz=>by rw[h1,mo];exact aaf (eA (eA LR G0) bz) rR [(1,eA LR gO,rR),(1,G0,l5),(1,EA,gO)] rt Q4 (bx (bI z).2.1)<|bx ((λq h=>by rw[h,cA,q];rfl:∀{v},av (dE es) (.s cQ)=aa v->cG es=ag->bN (cG es) (gN<|cA bf es)=4) q z).symm) (cw bb aA [(1,aB,aA),(1,bb,aB)] rt hl<|bx h1) (Xh (cw (eA bb EA) (eA aB m8) [(1,bb,eA aB pB)] rt h2) hs) λR2 s2 h5 h6=>by
   have:=kJ n h4 (by rw[h];show (match av (dE es) (.s cQ)with|some v=>v|none=>_)=_;rw[q]) R2 s2 (h5.trans h1)<|gS cv (eA bb m8) [(1,aB,eA bb pB),(1,cv,eA aB EA)] rt h2 h6;rw[h]at this;exact this
 have e2:∀{e},iw=bK e->av (dE es) (.s cQ)=aj->cG es=ag->∀R' s',R'.length=R.length->s'<=s+150->LQ c (p+E3 r m aE es (cA bf es)) s' [af e] R' Me W':=λ{e}h q z R' s' h1 h2=>by
  have:=IF (e:=e) (R:=R') (W:=W') (s:=s') O (by rw[E3,<-qe];exact W0:y0 c.F c.f (p+E3 r m aE es (cA bf es))<|gA (cG es) (mo r aE es+bN (cG es) 2)<|pP m<|cA bf es) mb (λz=>by have:=bI z;rw[h1];rw[mo];exact aaf (eA (eA LR G0) bz) rR [(1,eA LR gO,rR),(1,l5,gO),(1,G0,g9)] rt Q4 this.1<|bx this.2.2) (cw bb aA [(1,aB,aA),(1,bb,aB)] rt hl<|bx h1) (Xh (cw (eA bb EA) (eA aB m8) [(1,bb,eA aB pB)] rt h2) hs) λR2 s2 h5 h6=>by
   have:=kN (by rw[h];show (match av (dE es) (.s cQ)with|some v=>v|none=>cond (cG es) (af 0) .none)=_;rw[q,z];rfl) R2 s2 (h5.trans h1)<|gS cv (eA bb m8) [(1,aB,eA bb pB),(1,cv,eA aB EA)] rt h2 h6;rw[h]at this;exact this
  rw[z]at this;exact this
 have e3:∀{e},iw=bK e->av (dE es) (.s cQ)=aj->cG es=ak->∀u R',R'.length=R.length->Bh c.E (MH c.g u [] R' Me W') e:=λ{e}h q z u R' h1 t=>by
  have:=kF (by rw[h];show (match av (dE es) (.s cQ)with|some v=>v|none=>cond (cG es) (af 0) .none)=_;rw[q,z];rfl) u R' t e h1;rw[h]at this;have e:jK es (bK e) Me=Me:=by show yu (cG es) e Me=Me;rw[z];rfl
  rw[e]at this;exact this
 have w1:∀{v},av (dE es) (.s cQ)=aa v->(eV m<|cA bf es)[1]?=aa (m+1):=λh=>by rw[cA,h];rfl
 refine Rp O ok (bG es) r p s R (IG S.ok) B1 (Pn (eA aB bb) rR [(1,eA LR gO,rR)] rt Q4) hl (Xh (qE (eA (eA gO aB) g9) (eA gO m8) [(1,aB,eM 2 bb),(2,bb,cv),(2,cv,lZ)] rt lp lq ll) hs) λR1 l1 g1 v1=>?_
 have rl:(nO r<|bG es).length<=1000:=by rw[Oe];exact dj aB aA [(1,aB,iO)] rt pl
 cases hw:cL (ab aE) (ab bm)with
 |false=>
  have bl:(gc r (eV m<|cA bf es) aE es).length=(eF r<|bG es).length+1:=by rw[gc,cg,kf,hw];rfl
  rw[kf,hw]at B2;refine Ro O (Xh (qE (eA gO aB) (eA gO m8) [(1,aB,eM 2 bb),(2,bb,cv),(2,cv,lZ)] rt lp lq ll) hs) B2.1 rfl v1 (cw bb aA [(1,aB,aA),(1,bb,aB)] rt hl<|bx l1) rl λu K E k1 k2 k3 kE=>aaQ D (PL S) pl alF (λp0 h=>k1 ?_) (λe v h q=>k3 (w1<|gE▸q) (m1 v<|gE▸q) ?_) (λe h q z=>k2 rfl m0<|e2 h (gE▸q) (by rw[cG,<-gI];exact z) R1 _ l1<|qE aag (eA gO pB) [(1,aB,eM 2 bb),(2,bb,cv),(2,cv,lZ)] rt lp lq ll) λe h q z t=>kE _ (e3 h (gE▸q) (by rw[cG,<-gI];exact z) u R1 l1 t)
  ·rw[show p+(eF r<|bG es).length+1=p+(gc r (eV m<|cA bf es) aE es).length by exact kn (gS (eA (eA cv bb) bz) (eA cv aB) [(1,eA bb bz,aB)] rt<|bx bl.symm) (gS (eA cv aB) (eA (eA cv bb) bz) [(1,aB,eA bb bz)] rt<|bx bl)]
   exact e0 h R1 _ Me l1 (qE aag (eA gO pB) [(1,aB,eM 2 bb),(2,bb,cv),(2,cv,lZ)] rt lp lq ll) (by rw[h];show _=yu _ _ ((fO es).foldl _ Me);rw[Mg hw S.ok];rfl)
  ·rw[gI]
   exact e1 h (gE▸q) R1 _ l1<|qE aag (eA gO pB) [(1,aB,eM 2 bb),(2,bb,cv),(2,cv,lZ)] rt lp lq ll
 |true=>
  have ew:=sK hw;subst ew;rw[hw]at Q4;have bl:(gc r (eV m<|cA bf es) bm es).length=(eF r<|bG es).length+(1+(gX (r+iT (bG es))<|fO es).length+1):=by
   rw[gc,cg,kf,hw];show _+((gX (r+iT (bG es)) (fO es)++[_]).length+1)=_;rw[cg];exact kn (cw (eA aB<|eA ie bz) (eA aB<|eA (eA bz bb) bz) [] rt)<|cw (eA aB<|eA (eA bz bb) bz) (eA aB<|eA ie bz) [] rt
  rw[kf,hw]at B2
  obtain ⟨B3,B4⟩:=B2
  obtain ⟨C1,C2⟩:=xJ B4
  refine Ro O (Xh (qE (eA gO aB) (eA gO m8) [(1,aB,eM 2 bb),(2,bb,cv),(2,cv,lZ)] rt lp lq ll) hs) B3 rfl v1 (cw bb aA [(1,aB,aA),(1,bb,aB)] rt hl<|bx l1) rl λu K E k1 k2 k3 kE=>afq D (PL S) pl alF (λp0 h=>k1 ?_) (λe v h q=>k3 (w1<|gE▸q) (m1 v<|gE▸q) ?_) (λe h q z=>k2 rfl m0<|e2 h (gE▸q) (by rw[cG,<-gI];exact z) R1 _ l1<|qE aag (eA gO pB) [(1,aB,eM 2 bb),(2,bb,cv),(2,cv,lZ)] rt lp lq ll) λe h q z t=>kE _ (e3 h (gE▸q) (by rw[cG,<-gI];exact z) u R1 l1 t)
  ·refine lK (Gv<|hA p0 h hw) λks vs w2 hv=>?_;subst w2
   refine aaX O hv (fO es) _ _ _ R1 Me ok (PM S.ok) C1 (aaf (eA (eA cv gO) rR) aB [(1,bb,aB),(1,eA (eA (eA cv gO) rR) G0,bb)] rt (bx l1.symm) Q4) (cw bb aA [(1,aB,aA),(1,bb,aB)] rt hl<|bx l1) (Xh (Pn (eA aag<|eM 2 rR) (eA gO m8) [(1,aB,eM 2 bb),(2,bb,cv),(4,cv,lZ),(2,rR,cv)] rt lp lq ll la) hs) λR2 l2=>Ro O (Xh (aaf (eA aag G0) (eA gO m8) [(1,aB,eM 2 bb),(2,bb,cv),(4,cv,lZ),(2,rR,cv),(1,G0,eM 2 rR)] rt lp lq ll la<|bx<|om (fO es)<|r+iT (bG es)) hs) C2.1 rfl rfl (gS cv aA [(1,aB,aA),(1,bb,aB),(1,cv,bb)] rt hl (bx l1)<|bx l2) (bH _) λu K E k1 _ _ _=>JO<|k1 ?_;rw[show p+(eF r<|bG es).length+1+(gX (r+iT (bG es))<|fO es).length+1=p+(gc r (eV m<|cA bf es) bm es).length by exact kn (qE (eA (eA (eA (eA gO cv) bz) aB) bz) (eA gO bb) [(1,eA cv<|eA (eA bz aB) bz,bb)] rt<|bx bl.symm) (qE (eA gO bb) (eA (eA (eA (eA gO cv) bz) aB) bz) [(1,bb,eA cv<|eA (eA bz aB) bz)] rt<|bx bl)];exact e0 h R2 _ _ (l2.trans l1) (aaf (eA (eA (eA (eA G0 aB) bz) rR) bz) (eA G0 pB) [(1,aB,eM 2 bb),(2,bb,cv),(4,cv,lZ),(2,gO,cv),(1,rR,eM 2 gO)] rt lp lq ll la<|bx<|om (fO es)<|r+iT (bG es)) (by rw[h];rfl)
  ·rw[gI]
   exact e1 h (gE▸q) R1 _ l1<|qE aag (eA gO pB) [(1,aB,eM 2 bb),(2,bb,cv),(2,cv,lZ)] rt lp lq ll
end
structure pV where
 l:Int
 w:Tx
 es:List En
def Ng(a:pV):P:=aw [ab a.w,m5 a.es]
noncomputable def iH (e:Int×P):P:=aw [af e.1,e.2,af 0]
def dQ(rows:List pV):List (Int×P):=rows.map (λa=>(a.l,Ng a))++[(900,aw [ab dw])]
abbrev Nh(z:Int)(fl:List P)(rs:Env):Env:=(140,.ob 31)::(182,.ob 24)::(234,.p<|aL fl)::(42,it z)::rs
def RL(cl:V->List V->M V)(cf:Bool->V->List V->M V)(fl:List P)(k:Nat)(z:Int)(σ:H)(Q:Fl->Env->H->Prop)(E:Env->H->Prop):Prop:=∀rs,WQ (λm=>rX ⟨TT,NN,cl,ak,3⟩ m<| .BO .lt (bC 42)<| .call (.fy 25)<| .cons (bC 234) .nil) (ez cl cf mZ) k (Nh z fl rs) σ Q E
abbrev alG(cl:V->List V->M V)(cf:Bool->V->List V->M V)(k:Nat)(Q:Fl->Env->H->Prop)(E:Env->H->Prop):Fl->Env->H->Prop:=λamO m' bP=>match amO with| .ret v=>Q (.ret v) m' bP|_=>WQ (λm=>rX ⟨TT,NN,cl,ak,3⟩ m<| .BO .lt (bC 42)<| .call (.fy 25)<| .cons (bC 234) .nil) (ez cl cf mZ) k m' bP Q E
section
variable{bP:H}{W:Wd}{Q:Fl->Env->H->Prop}{E:Env->H->Prop}{fl:List P}{x:P}
theorem afs(hc:jo cl (d+1) ak)(hl:fl.length<=1000)(h:¬z<(fl.length:Int))(n:∀m,Q bE m σ):RL cl cf fl (k+1) z σ Q E:=λrs=>hc ⟨bo hl<|dc rt,mn (λq=>(h q).elim) λ_=>n _⟩
theorem PN{v:P}(hc:jo cl (d+1) ak)(hl:fl.length<=1000)(hz:z=p)(h:fl[p]?=aa (aw [af l,x,af 0]))(run:∀rs Q E,Q (.p v) bP->eP ⟨TT,NN,cl,ak,3⟩ (Nh z fl rs) (.ite (.BO .eq (.iz (.iz (.iz (bC 234)<|bC 42)<|dN<|af 1)<|dN<|af 0)<|dN<|ab dw) (dN<|af 0)<| .call (.fy 235)<| .cons (bC 140)<| .cons (bC 182)<| .cons (.iz (.iz (bC 234)<|bC 42)<|dN<|af 1) .nil) σ Q E)(n:∀rs,ez cl cf (eR 1 mZ) (Nh z fl<|aN rs 233<| .p v) bP (alG cl cf k Q E) E):RL cl cf fl (k+1) z σ Q E:=λrs=>by
 have xK:z<(fl.length:Int):=by
  have:=jL h;exact LO eI cv [(1,aB,bb),(1,eA bb bz,cv)] rt (d8 hz)<|cS.mpr this
 refine hc ⟨bo hl<|dc rt,mn (λ_=>?_) λq=>(q xK).elim⟩
 exact cj<|run rs _ _<|n rs
theorem Yh{Q:V->H->Prop}{E:H->Prop}(hm:∀y,av (aN m 236 y) 236=aa y):∀(L:List<|Int×P)acc,acc.length+L.length<=1000->Q (.p<|aL<|acc++L.map λe=>P.int e.1) σ->iQ (λx=>.bind (ni ⟨TT,NN,cl,hd,lv⟩ (aN m 236<| .p x) .nil) λb=>lw b<| .bind (eP ⟨TT,NN,cl,hd,lv⟩ (aN m 236<| .p x)<| .iz (bC 236)<|dN<|af 0) λv=>.aQ v.pl .ok) acc (L.map iH) σ Q E:=lr
 (λacc _ k=>by rw[AH,fc]at k;exact k)
 (λe L b5 acc hn k=>ax (hm _) ⟨(bo (bo (gf _ _) hn)<|dc rt),(b5 (acc++[af e.1]) (by refine ah cg ?_;have:=hn;exact cw mX aA [(1,eA aB ie,aA)] rt this)<|by rw[de];exact k)⟩)
theorem E4{n:Int}:∀{L:List (Int×P)}{j:Nat}{x:P},L[j]?=aa (n,x)->(∀i<j,∀y,L[i]?≠aa (n,y))->l8 (af n) (L.map λe=>P.int e.1)=aa j
 |[],j,x,h,_=>nomatch h
 |e::L,0,x,h,_=>by
  have h:=cP h;show (match e.1==n with|true=>aa 0|false=>_)=_;refine ah h ?_;rw[beq_self_eq_true]
 |e::L,j+1,x,h,hn=>by
  show (match e.1==n with|true=>aa 0|false=>(l8 (af n)<|L.map λ(e:Int×P)=>P.int e.1).map (·+1))=_;refine ah (beq_false_of_ne λq=>hn 0 (U5 j) e.2<|by refine ah q.symm ?_;rfl) ?_;refine ah (E4 (L:=L) (j:=j) h λi hi y=>hn (i+1) (KU hi) y) ?_;rfl
theorem Of:∀{L:List (Int×P)},dS 8 (L.map λe=>P.int e.1)=ag:=@lr _ _
 (rt)
 (λe L ih=>ih)
theorem Xi{v:P}{L:List (Int×P)}(hL:fl=L.map iH)(hl:L.length<=1000)(h0:v=.none->∀m,Q (.ret<|bl ag) m σ)(h1:v=af 0->RL cl cf fl k (z+1) σ Q E)(h2:∀n,n≠0->v=af n->∃j,l8 (af n) (L.map λe=>P.int e.1)=aa j/\RL cl cf fl k j σ Q E)(hv:v=.none\/∃n,v=af n):ez cl cf (eR 1 mZ) (Nh z fl<|aN rs 233<| .p v) σ (alG cl cf k Q E) E:=by
 rcases hv with rfl|⟨n,rfl⟩
 ·exact ax bQ ⟨bH _,h0 rfl _⟩
 ·refine ax bQ ⟨bH _,?_⟩
  by_cases q:n=0
  ·subst q
   exact ax bQ ⟨⟨rt,rt⟩,bH _,h1 rfl _⟩
  ·refine cE (h2 n q rfl) λj e R=>ax bQ<|ly (x:=af n) (y:=af 0) rt rt (λz=>absurd (eq_of_beq z) q) λ_=>?_
   refine ah hL<|Yh (λy=>bQ) L [] (by exact dj s9 aA [(1,aB,aA)] rt hl)<|ax bQ ⟨(k8 rt Of ?_),ax e ?_⟩
   ·show ([]++_).length<=_
    rw[Li,cq];exact bo hl<|dc rt
   ·replace R:=hL▸R
    exact R _
end
noncomputable def fS (iC j:Nat):Int:=if j=iC then 900 else 10*((j:Int)+1)
structure i0(rows:List pV):Prop where
 len:rows.length<=8
 bf:∀i a,rows[i]?=aa a->a.l=fS rows.length i
 st:∀i a,rows[i]?=aa a->jO a.w a.es/\cL (ab a.w) (ab dw)=ak/\∀v,av (dE a.es) (.s cQ)=aa v->∃j,i<j/\j<=rows.length/\v=af (fS rows.length j)
structure Gz(c:MC)(rows:List pV)(mW:Nat)(pos:Nat->Nat)(bf:Int->Nat):Prop where
 lb:∀j,j<=rows.length->bf (fS rows.length j)=j
 alH:∀j,j<=rows.length->c.f j=nI (pos j)
 alI:∀i a,rows[i]?=aa a->∃r m,y0 c.F c.f (pos i) (qo r m a.w a.es<|cA bf a.es)/\c.f m=nI (pos i+E3 r m a.w a.es (cA bf a.es))/\(∀v,av (dE a.es) (.s cQ)=aa v->c.f (m+1)=nI (pos i+H7 r m a.w a.es (cA bf a.es)))/\c.f (pP m<|cA bf a.es)=nI (pos i+(qo r m a.w a.es<|cA bf a.es).length)/\mo r a.w a.es+bN (cG a.es) (gN<|cA bf a.es)<=mW/\pos (i+1)=pos i+(qo r m a.w a.es<|cA bf a.es).length
 ret:c.F[pos rows.length]?=aa (sM c.f .ret)
section
variable{W:Wd}
theorem WF.le{N':Nat}(F:WF N W)(h:N<=N'):WF N' W:=⟨bo F.lf h,bo F.lu h,F.fs,F.us,F.i1,F.i2⟩
theorem ahb(h:i<=8):10*((i:Int)+1)≠900:=λe=>absurd (dp bz eC [(1,nW,eM 10 eI),(10,aB,kC)] rt (d8 e.symm)<|cS.mpr h) (by decide:¬(1:Int)<=0)
theorem zT(h:i<j)(hj:j<=rows.length)(hl:rows.length<=8):fS rows.length i≠fS rows.length j:=by
 rw[fS,fS,if_neg λh_=>eH 0<|gS bz eC [(1,eA aB bz,bb),(1,bb,cv),(1,cv,aB)] rt h hj<|bx h_.symm];by_cases q:j=rows.length
 ·rw[if_pos q];exact ahb<|uK<|wX h<|bo hj hl
 ·rw[if_neg q];exact λe=>absurd (rQ bz eC [(1,eM 10 ie,eM 10 eI),(10,eA aB bz,bb)] rt (d8 e.symm)<|cS.mpr h) (by decide:¬(1:Int)<=0)
theorem E5:fS rows.length j≠0:=by
 rw[fS];by_cases q:j=rows.length
 ·rw[if_pos q];decide
 ·rw[if_neg q];exact λh_=>absurd (dp bz eC [(1,eM 10 eI,eC),(10,eC,aB)] rt (d8 h_)<|gG _) (by decide:¬(1:Int)<=0)
theorem GB(R:i0 rows){a:pV}(h:rows[i]?=aa a):(dQ rows)[i]?=aa (fS rows.length i,Ng a):=by
 rw[dQ,D4 (by rw[cq];exact (pz.mp h).1),mz,h,<-R.bf i a h];rfl
theorem BA:(dQ rows)[rows.length]?=aa (fS rows.length rows.length,aw [ab dw]):=by
 rw[dQ,K5 (by rw[cq];exact gj _),cq,Nat.sub_self,fS,if_pos rfl];rfl
theorem tj(R:i0 rows)(h:i<=rows.length):∃x,(dQ rows)[i]?=aa (fS rows.length i,x):=by
 by_cases q:i=rows.length
 ·subst q;exact ⟨_,BA⟩
 ·obtain ⟨a,ha⟩:=(⟨rows[i]'(tC (cw aB bb [(1,aB,bb)] rt h) q),wZ<|tC (cw aB bb [(1,aB,bb)] rt h) q⟩:∃a,rows[i]?=aa a)
  exact ⟨_,GB R ha⟩
theorem lC:(dQ rows).length=rows.length+1:=by rw[dQ,cg,cq];rfl
theorem Rq(R:i0 rows)(hj:j<=rows.length):l8 (af<|fS rows.length j) ((dQ rows).map λ(e:Int×P)=>P.int e.1)=aa j:=by
 refine ue (tj R hj) λx hx=>E4 hx λi hi y q=>?_;obtain ⟨x',ac0⟩:=tj R<|bo (uK hi) hj;exact zT hi hj R.len (sE<|cP<|ac0.symm.trans q).1
theorem GC{i:Int}(ok:nN Me):nN (yu b i Me):=by induction b using fe with|true=>exact ⟨ok.A,ok.F,ok.R⟩|false=>exact ok
theorem aa0{f:Nat->P}(hf:∀i,i<8->W6 i (f i)):∀{l:List Nat}{Me:Mem},(∀i∈l,i<8)->nN Me->nN (l.foldl (λM i=>rz i (f i) M) Me):=@lr _ _
 (@λ_ _ ok=>ok)
 (λi l ih=>@λ_ h ok=>ih (λj q=>h j<|aS _ q)<|Xc ok (h i<|bt _)<|hf i<|h i<|bt _)
theorem aft{iw:Except Int P}(S:jO aE es)(ok:nN Me)(hA:∀p,iw=.ok p->cL (ab aE) (ab bm)=ag->zO p):nN (jK es iw Me):=by
 induction iw using qC with
 |error e=>exact GC ok
 |ok p=>
  refine bc (cL (ab aE)<|ab bm) (λhw=>?_) λhw=>?_
  ·
   refine lK (Gv<|hA _ rfl hw) λks vs w2 hv=>?_;subst w2;exact GC<|aa0 (λi h=>(hv i h).2) (PM S.ok) ok
  ·
   exact GC<|(Mg hw S.ok)▸ok
theorem PO{iw:Except Int P}(hE:∀v,av (dE es) (.s cQ)=aa v->∃n,v=af n):ij es iw=.none\/∃n,ij es iw=af n:=by
 induction iw using qC with
 |ok p=>exact bM ⟨0,rfl⟩
 |error e=>
  show (match av (dE es) (.s cQ)with|some v=>v|none=>cond (cG es) (af 0) .none)=.none\/∃n,(match av (dE es) (.s cQ)with|some v=>v|none=>cond (cG es) (af 0) .none)=af n;cases q:av (dE es) (.s cQ)with
  |some v=>obtain ⟨n,h⟩:=hE v q;exact bM ⟨n,h⟩
  |none=>cases cG es with
   |true=>exact bM ⟨0,rfl⟩
   |false=>exact bW rfl
theorem BB{iw:Except Int P}{n:Int}(hn:n≠0)(h:ij es iw=af n):av (dE es) (.s cQ)=aa (af n):=by
 induction iw using qC with
 |ok p=>exact (hn (P.int.inj (h:P.int 0=af n)).symm).elim
 |error e=>
  have h:(match av (dE es) (.s cQ)with|some v=>v|none=>cond (cG es) (af 0) .none)=af n:=h;refine od (av (dE es)<| .s cQ) (λv q=>?_) λq=>?_
  ·refine ah q ?_;rw[q]at h;exact congrArg aa h
  ·refine ah q ?_
   rw[q]at h;refine bc (cG es) (λb=>?_) λb=>?_
   ·rw[b]at h;exact (hn (P.int.inj (h:P.int 0=af n)).symm).elim
   ·rw[b]at h;contradiction
structure xL(rows:List pV)(at':Nat)(W:Wd)(Me:Mem)(W':Wd)(Ik:Mem)(mU:Bool):Prop where
 wf:WF 58 W'
 ok:nN Ik
 Ni:∀c d mW pos bf s R,rE c d->Gz c rows mW pos bf->R.length=mW->mW<=1000->s<=300*at'->(mU=ak->∀u m R',c.Q (.ret<|it 0) m<|MH c.g u [] R' Ik W')->(mU=ag->∀u R' t e,c.E<|MX c.g u [] R' Ik W' t e)->LQ c (pos at') s [] R Me W
 ref:∀aV,Lm 24 31 aV->∀d cl cf k(Q:Fl->Env->H->Prop)E,jo cl (d+8) ak->100<=k+at'->(mU=ag->∀m,Q (.ret<|bl ag) m<|MW 24 31 aV Ik W')->(mU=ak->∀m,Q bE m<|MW 24 31 aV Ik W')->RL cl cf ((dQ rows).map iH) k (at':Int) (MW 24 31 aV Me W) Q E
abbrev ahc:X:=.ite (.BO .eq (.iz (.iz (.iz (bC 234)<|bC 42)<|dN<|af 1)<|dN<|af 0)<|dN<|ab dw) (dN<|af 0)<| .call (.fy 235)<| .cons (bC 140)<| .cons (bC 182)<| .cons (.iz (.iz (bC 234)<|bC 42)<|dN<|af 1) .nil
theorem Yi{fl:List P}(hi:pU fl.length z=aa p)(hj:fl[p]?=aa (aw [af l,aw [ab dw],af 0]))(k:Q (it 0) σ):eP ⟨TT,NN,cl,ak,3⟩ (Nh z fl rs) ahc σ Q E:=
 gz hi hj (ly (x:=ab dw) (y:=ab dw) rt rt (λ_=>k) λq=>nomatch q)
theorem aa1{bP:H}{fl:List P}{x v:P}(hc:jo cl (d+8) ak)(hi:pU fl.length z=aa p)(hj:fl[p]?=aa (aw [af l,aw [ab w,x],af 0]))(hw:cL (ab w) (ab dw)=ak)(call:∀Q E,Q (.p v) bP->ba TT NN (d+8) ak (.p<|aI 1058) [.ob 31,.ob 24,.p<|aw [ab w,x]] σ Q E)(k:Q (.p v) bP):eP ⟨TT,NN,cl,ak,3⟩ (Nh z fl rs) ahc σ Q E:=
 gz hi hj (cT hw rt rt<|gz hi hj<|hc<|call _ _ k)
theorem IH(R:i0 rows)(F:WF (2*rows.length) W)(ok:nN Me):xL rows rows.length W Me W Me ak:=by
 have rl:=R.len;have Xj:((dQ rows).map iH).length<=1000:=by rw[cq,lC];exact dj (.a (.v 0)<| .n 1) (.n 1000) [(1,.v 0,.n 8)] rt rl
 refine ⟨F.le<|dj (.m 2<| .v 0) (.n 58) [(2,.v 0,.n 8)] rt rl,ok,λc d mW pos bf s R' O C h3 h4 h5 hq _=>aic O (jB (bo h5<|Nat.mul_le_mul_left 300 rl) (by decide:300*8<99999)) C.ret λu m=>hq rfl u m R',λaV L d cl cf k Q E hc hk _ hn=>?_⟩;obtain ⟨k,rfl⟩:∃k',k=k'+1+1:=⟨k - 2,(KR<|cw (.n 2) (.v 0) [(1,.n 100,.a (.v 0)<| .v 1),(1,.v 1,.n 8)] rt hk rl).symm⟩
 generalize hz:((rows.length:Nat):Int)=z;have hj:((dQ rows).map iH)[rows.length]?=aa (aw [af<|fS rows.length rows.length,aw [ab dw],af 0]):=by rw[mz,BA];rfl
 exact PN (l:=fS rows.length rows.length) hc Xj hz.symm hj (v:=af 0) (λrs Q E k=>Yi (gq hz.symm (jL hj)<|bo Xj<|dc rt) hj k) λrs=>Xi rfl (ah lC<|dj (.a (.v 0)<| .n 1) (.n 1000) [(1,.v 0,.n 8)] rt rl) (λq=>nomatch q) (λ_=>afs hc Xj (by rw[cq,lC];exact kq.mpr<|rQ (.a (.v 0)<| .n 1) (.a (.v 1)<| .n 1) [(1,.v 0,.v 1)] rt<|d8 hz)<|hn rfl) (λn h q=>(h (P.int.inj q).symm).elim)<|bM ⟨0,rfl⟩
theorem akI(R:i0 rows):∀n at' W Me,rows.length<=at'+n->at'<=rows.length->WF (2*at') W->nN Me->∃W' Ik mU,xL rows at' W Me W' Ik mU:=by
 intro n;have rl:=R.len;have Xj:((dQ rows).map iH).length<=1000:=by rw[cq,lC];exact dj (.a (.v 0)<| .n 1) (.n 1000) [(1,.v 0,.n 8)] rt rl
 induction n with
 |zero=>
  intro at' W Me h1 h2 F ok;have e:at'=rows.length:=(kn (cw (.v 1) (.v 0) [(1,.v 1,.v 0)] rt h2)<|cw (.v 0) (.v 1) [(1,.v 0,.a (.v 1)<| .n 0)] rt h1)
  subst e;exact (Po W Me ak<|IH R F ok)
 |succ n ih=>
  intro at' W Me h1 h2 F ok;by_cases q:at'=rows.length
  ·subst q;exact (Po W Me ak<|IH R F ok)
  refine eh λcy bk=>?_;obtain ⟨a,ha⟩:=(⟨rows[at']'(tC (cw (.v 0) (.v 1) [(1,.v 0,.v 1)] rt h2) q),wZ<|tC (cw (.v 0) (.v 1) [(1,.v 0,.v 1)] rt h2) q⟩:∃a,rows[at']?=aa a)
  refine agE (R.st at' a ha) λS hw hE=>oi (aaN (ps:=bG a.es) F (cw (.m 2<| .v 1) (.n 58) [(2,.v 0,.n 8),(2,.v 1,.v 0)] rt rl h2) (IG S.ok) (cw (.v 0) (.n 20) [(1,.v 0,.v 1),(1,.v 1,.n 20)] rt (iV (l:=a.es)) S.len) ok S.un) λW1 iw F1 hA D=>bk ?_;have Mh:=aft S ok hA;have ajE:∀v,av (dE a.es) (.s cQ)=aa v->∃n,v=af n/\n≠0:=λv q=>vC (hE v q) λj _ _ h=>(b0 _ h E5)
  have hj:((dQ rows).map iH)[at']?=aa (aw [af<|fS rows.length at',aw [ab a.w,m5 a.es],af 0]):=by rw[mz,GB R ha];rfl
  have Nj:∀aV,Lm 24 31 aV->∀d cl cf k(Q:Fl->Env->H->Prop)E,jo cl (d+8) ak->(ij a.es iw=.none->∀m,Q (.ret<|bl ag) m<|MW 24 31 aV (jK a.es iw Me) W1)->(ij a.es iw=af 0->RL cl cf ((dQ rows).map iH) k ((at'+1:Nat):Int) (MW 24 31 aV (jK a.es iw Me) W1) Q E)->(∀j,at'<j->j<=rows.length->ij a.es iw=af (fS rows.length j)->RL cl cf ((dQ rows).map iH) k (j:Int) (MW 24 31 aV (jK a.es iw Me) W1) Q E)->RL cl cf ((dQ rows).map iH) (k+1) (at':Int) (MW 24 31 aV Me W) Q E:=λaV L d cl cf k Q E hc k0 k1 k2=>by
   have k1:ij a.es iw=af 0->RL cl cf ((dQ rows).map iH) k ((at':Int)+1) (MW 24 31 aV (jK a.es iw Me) W1) Q E:=k1;generalize hz:((at':Nat):Int)=z at k1⊢;refine PN (l:=fS rows.length at') hc Xj hz.symm hj (v:=ij a.es iw) (λrs Q E k=>aa1 hc (gq hz.symm (jL hj)<|bo Xj<|dc rt) hj hw (λQ E k=>Yc S L ok D hA k) k) λrs=>Xi rfl (by refine ah lC ?_;exact dj (.a (.v 0)<| .n 1) (.n 1000) [(1,.v 0,.n 8)] rt rl) k0 k1 (λn hn q=>?_)<|PO λv q=>(ajE v q).imp λn h=>h.1;refine vC (hE _<|BB hn q) λj h1 h2 h3=>?_;have h3:=P.int.inj h3;subst h3;exact (b0 j (Rq R h2)<|k2 j h1 h2 q)
  have Ni:∀c d mW pos bf s R',rE c d->Gz c rows mW pos bf->R'.length=mW->mW<=1000->s<=300*at'->(ij a.es iw=.none->∀u R' t e,c.E<|MX c.g u [] R' (jK a.es iw Me) W1 t e)->(ij a.es iw=af 0->∀R' s',R'.length=mW->s'<=300*(at'+1)->LQ c (pos<|at'+1) s' [] R' (jK a.es iw Me) W1)->(∀j,at'<j->j<=rows.length->ij a.es iw=af (fS rows.length j)->∀R' s',R'.length=mW->s'<=300*j->LQ c (pos j) s' [] R' (jK a.es iw Me) W1)->LQ c (pos at') s [] R' Me W:=λc d mW pos bf s R' O C h3 h4 h5 k0 k1 k2=>by
   refine eh λcy bk=>amx (C.alI at' a ha) λr m c1 c2 c3 c4 c5 c6=>bk<|aie (pos:=λn=>pos<|bf n) O S ok D hA ajE c1 c2 c3 c4 (λn q=>?_) (h3▸c5) (cw (.v 0) (.n 1000) [(1,.v 0,.v 1),(1,.v 1,.n 1000)] rt (bx h3) h4) (gS (.a (.a (.v 2)<| .n 200)<| .n 1) (.n 99999) [(300,.v 0,.n 8),(300,.v 1,.v 0),(1,.v 2,.m 300<| .v 1)] rt rl h2 h5) (λq R2 s2 e1 e2=>?_) (λn hn q R2 s2 e1 e2=>?_) λq u R2 t e _=>k0 q u R2 t e
   ·refine vC (hE _ q) λj _ h2 h3=>?_
    have h3:=P.int.inj h3;subst h3;exact (C.lb j h2).symm▸C.alH j h2
   ·exact c6▸k1 q R2 s2 (e1.trans h3) (gS (.v 2) (.m 300<| .a (.v 1)<| .n 1) [(1,.v 0,.m 300<| .v 1),(1,.v 2,.a (.v 0)<| .n 200)] rt h5 e2)
   ·refine vC (hE _<|BB hn q) λj h1 h2 ajF=>?_
    have ajF:=P.int.inj ajF;subst ajF;exact (C.lb j h2).symm▸k2 j h1 h2 q R2 s2 (e1.trans h3) (qE (.v 2) (.m 300<| .v 3) [(1,.v 0,.m 300<| .v 1),(1,.v 2,.a (.v 0)<| .n 200),(300,.a (.v 1)<| .n 1,.v 3)] rt h5 e2 h1)
  rcases PO (iw:=iw) λv q=>(ajE v q).imp λn h=>h.1 with g|⟨n',g⟩
  ·refine (Po W1 (jK a.es iw Me) ag ⟨F1.le<|cw (.a (.m 2<| .v 1)<| .n 2) (.n 58) [(2,.v 0,.n 8),(2,.v 1,.v 0)] rt rl h2,Mh,λc d mW pos bf s R' O C h3 h4 h5 _ hf=>Ni c d mW pos bf s R' O C h3 h4 h5 (λ_=>hf rfl) (λq=>?_) λj _ _ q=>?_,λaV L d cl cf k Q E hc hk ht _=>?_⟩)
   ·rw[g]at q;contradiction
   ·rw[g]at q;contradiction
   ·obtain ⟨k,rfl⟩:∃k',k=k'+1:=⟨k - 1,(KR<|gS (.n 1) (.v 0) [(1,.n 100,.a (.v 0)<| .v 1),(1,.v 1,.v 2),(1,.v 2,.n 8)] rt hk h2 R.len).symm⟩
    exact Nj aV L d cl cf k Q E hc (λ_=>ht rfl) (λq=>by rw[g]at q;contradiction) λj _ _ q=>by rw[g]at q;contradiction
  ·obtain ⟨j,ajG,alJ,alK⟩:∃j,at'<j/\j<=rows.length/\((ij a.es iw=af 0/\j=at'+1)\/ij a.es iw=af (fS rows.length j)):=by
    by_cases hn:n'=0
    ·exact (tc (at'+1) (dj (.a (.v 0)<| .n 1) (.a (.v 0)<| .n 1) [] rt) (tC (cw (.v 0) (.v 1) [(1,.v 0,.v 1)] rt h2) q)<|bW ⟨by rw[g,hn],rfl⟩)
    ·exact vC (hE _<|BB hn g) λj h1 h2 h3=>(tc j h1 h2<|bM<|by rw[g,h3])
   refine mY (ih j W1 (jK a.es iw Me) (qE (.v 0) (.a (.v 3)<| .v 2) [(1,.v 0,.a (.v 1)<| .a (.v 2)<| .n 1),(1,.a (.v 1)<| .n 1,.v 3)] rt h1 ajG) alJ (F1.le<|cw (.a (.m 2<| .v 0)<| .n 2) (.m 2<| .v 1) [(2,.a (.v 0)<| .n 1,.v 1)] rt ajG) Mh) λW2 M2 mU B=>?_
   have un:∀{j'},at'<j'->j'<=rows.length->ij a.es iw=af (fS rows.length j')->j'=j:=λ{j'}_ h2 q=>by
    rcases alK with ⟨z,_⟩|z
    ·exact absurd (P.int.inj<|q.symm.trans z) E5
    ·have:=P.int.inj<|q.symm.trans z
     rcases Nat.lt_trichotomy j' j with h|h|h
     ·exact absurd this<|zT h alJ rl
     ·exact h
     ·exact absurd this.symm<|zT h h2 rl
   have nx:ij a.es iw=af 0->j=at'+1:=λq=>by
    rcases alK with ⟨_,z⟩|z
    ·exact z
    ·exact absurd (P.int.inj<|z.symm.trans q) E5
   refine (Po W2 M2 mU ⟨B.wf,B.ok,λc d mW pos bf s R' O C h3 h4 h5 hq hf=>Ni c d mW pos bf s R' O C h3 h4 h5 (λq=>?_) (λq R2 s2 e1 e2=>?_) λj' l1 l2 q R2 s2 e1 e2=>?_,λaV L d cl cf k Q E hc hk ht hn=>?_⟩)
   ·rw[g]at q;contradiction
   ·exact (nx q)▸B.Ni c d mW pos bf s2 R2 O C e1 h4 ((nx q)▸e2) hq hf
   ·rw[un l1 l2 q]at e2⊢;exact B.Ni c d mW pos bf s2 R2 O C e1 h4 e2 hq hf
   ·obtain ⟨k,rfl⟩:∃k',k=k'+1:=⟨k - 1,(KR<|gS (.n 1) (.v 0) [(1,.n 100,.a (.v 0)<| .v 1),(1,.v 1,.v 2),(1,.v 2,.n 8)] rt hk h2 R.len).symm⟩
    have:=B.ref aV L d cl cf k Q E hc (gS (.n 100) (.a (.v 2)<| .v 1) [(1,.a (.v 0)<| .n 1,.v 1),(1,.n 100,.a (.a (.v 2)<| .n 1)<| .v 0)] rt ajG hk) ht hn;exact Nj aV L d cl cf k Q E hc (λq=>by rw[g]at q;contradiction) (λq=>(nx q)▸this) λj' l1 l2 q=>(un l1 l2 q)▸this
end
section
set_option tactic.hygienic true
structure GK where
 st:O
 r:Nat
 ol:List Op
 ms:List P
 ss:List P
 lb:List<|bV×P
def ahd:P:=cu [.s uZ,.s yj] [aI 218,aI 225]
def ahe:P:=cu [.s yj] [aI 211]
def ac1:P:=cu [.s i8,.s iB,.s bm,.s fW,.s ka,.s ke,.s dw] [aI 357,aI 357,aI 362,aI 357,aI 357,aI 357,aI 293]
def C9(z:Int)(ss:List P):List (Nat×V):=[(8,.p ahd),(10,.p ahe),(11,.p ac1),(12,.ob 11),(13,it z),(14,.ob 12),(15,kR),(16,kR),(17,.ob 13),(18,kR),(19,.p<|aL ss),(20,kR)]
def Rr(r:Nat)(ss:List P):O:=bJ 165<|C9 r ss
def zx:O:=bJ 605 [(53,.ob 14),(149,kR),(150,kR),(151,kR),(59,kR)]
def uu(ol:List Op):List P:=ol.map<|sM nI
@[irreducible] def GH(x5 x6 x7:O)(K:GK):H:=[K.st,ae,ae,ae,ae,x5,x6,x7,ae,ae,Rr K.r K.ss,aM<|uu K.ol,aM K.ms,zx,du K.lb,ae,ae,ae,ae,ae,ae,ae,ae,ae,ae,ae,ae,ae,ae,ae,ae,ae,ae,ae,ae,ae]
theorem im:aW (GH x5 x6 x7 K) 10=aa (Rr K.r K.ss):=by with_unfolding_all exact rfl
theorem adY:aW (GH x5 x6 x7 K) 11=aa (aM<|uu K.ol):=by with_unfolding_all exact rfl
theorem Z1:aW (GH x5 x6 x7 K) 12=aa (aM K.ms):=by with_unfolding_all exact rfl
theorem adZ:aW (GH x5 x6 x7 K) 13=aa zx:=by with_unfolding_all exact rfl
theorem ahf:aW (GH x5 x6 x7 K) 14=aa (du K.lb):=by with_unfolding_all exact rfl
theorem E6:aW (GH x5 x6 x7 K) 5=aa x5:=by with_unfolding_all exact rfl
theorem ad0:aW (GH x5 x6 x7 K) 6=aa x6:=by with_unfolding_all exact rfl
theorem Rt:aW (GH x5 x6 x7 K) 7=aa x7:=by with_unfolding_all exact rfl
theorem Nk:aG (GH x5 x6 x7 K) 5 o=GH o x6 x7 K:=by with_unfolding_all exact rfl
theorem TQ:aG (GH x5 x6 x7 K) 6 o=GH x5 o x7 K:=by with_unfolding_all exact rfl
theorem TS:aG (GH x5 x6 x7 K) 7 o=GH x5 x6 o K:=by with_unfolding_all exact rfl
theorem aif{ol:List Op}:aG (GH x5 x6 x7 K) 11 (aM<|uu ol)=GH x5 x6 x7 {K with ol:=ol}:=by with_unfolding_all exact rfl
theorem ac2{mk:List P}:aG (GH x5 x6 x7 K) 12 (aM mk)=GH x5 x6 x7 {K with ms:=mk}:=by with_unfolding_all exact rfl
theorem aig:aG (GH x5 x6 x7 K) 10 (bJ 165<|aN (C9 K.r K.ss) 13<|it<|(K.r:Int)+1)=GH x5 x6 x7 {K with r:=K.r+1}:=by with_unfolding_all exact rfl
theorem aih{ss:List P}:aG (GH x5 x6 x7 K) 10 (bJ 165<|aN (C9 K.r K.ss) 19<| .p<|aL ss)=GH x5 x6 x7 {K with ss:=ss}:=by with_unfolding_all exact rfl
theorem BC(k:Q (.p<|nI K.r)<|GH x5 x6 x7 {K with r:=K.r+1}):ba TT NN (d+1) hd (.p<|aI 155) [.ob 10] (GH x5 x6 x7 K) Q E:=by
 refine aZ rfl rfl λ_=>cj<|PH (j:=9) (i:=13) rfl im (K:=gH) rfl rt rfl rt rt ?_;refine ah (show O.iF 165 (aN (C9 _ _) 13<|it _)=O.iF 165 (aN (C9 K.r K.ss) 13<|it<|(K.r:Int)+1)from rfl)<|ah aig<|cJ im (K:=gH) rfl rt rfl ?_;show Q (it<|((K.r+1:Nat):Int) - 1) _;exact ah ((ko (dp (eS eI bz) aB [] rt)<|dp aB (eS eI bz) [] rt):(((K.r+1:Nat):Int) - 1)=(K.r:Int))<|k
theorem pd{p:Op}(hl:K.ol.length<=1000)(k:Q (.p .none)<|GH x5 x6 x7 {K with ol:=K.ol++[p]}):ba TT NN (d+1) hd (.p<|aI 162) [.ob 10,.p<|sM nI p] (GH x5 x6 x7 K) Q E:=
 aZ rfl rfl λ_=>cJ im (K:=gH) rfl rt rfl (b8 adY (mk:=.bi 0 0) rfl (gW adY (by delta uu;rw[cq];exact hl) (by
  refine ah (show uu K.ol++[sM nI p]=uu (K.ol++[p])from by rw[uu,uu,uM];rfl) ?_;exact ah aif<|k)))
theorem v8(hl:K.ms.length<=900)(k:Q (.p<|nI K.ms.length)<|GH x5 x6 x7 {K with ms:=K.ms++[af<|-1]}):ba TT NN (d+2) hd (.p<|aI 176) [.ob 10] (GH x5 x6 x7 K) Q E:=by
 refine aZ rfl rfl λhc=>cJ im (K:=gH) rfl rt rfl<|b8 Z1 (mk:=.bi 0 0) rfl<|gW Z1 (bo hl<|dc rt) ?_;refine ah ac2<|cJ im (K:=gH) rfl rt rfl (hc<|L9 Z1 (by exact ah cg<|Nat.le_trans (zp hl 1)<|dc rt) ?_);show Q (it<|((K.ms++[P.int<|-1]).length:Int) - 1) _;exact (by refine ah cg ?_;exact ko (dp (eS eI bz) aB [] rt) (dp aB (eS eI bz) [] rt):(((K.ms++[P.int<|-1]).length:Int) - 1)=(K.ms.length:Int))▸k
theorem zU{m:Nat}(hm:m<K.ms.length)(hl:K.ms.length<=1000)(Ru:K.ol.length<=1000)(k:Q (.p .none)<|GH x5 x6 x7 {K with ms:=K.ms.set m (nI K.ol.length)}):ba TT NN (d+2) hd (.p<|aI 183) [.ob 10,.p<|nI m] (GH x5 x6 x7 K) Q E:=by
 refine aZ rfl rfl λhc=>cJ im (K:=gH) rfl rt rfl (hc<|L9 adY (by refine ah (cq _) ?_;exact bo Ru<|dc rt) ?_);refine ah (cq _)<|cJ im (K:=gH) rfl rt rfl<|zS Z1 rfl hm (bo hl<|dc rt) ?_;exact ah ac2<|k
end
noncomputable abbrev GK.add (K:GK) (n:Nat) (ol:List Op):GK:={K with r:=K.r+n,ol:=K.ol++ol}
theorem GD{p:Op}(hl:K.ol.length<=1000)(e:{K with ol:=K.ol++[p]}=K')(k:Q (.p .none)<|GH x5 x6 x7 K'):ba TT NN (d+1) hd (.p<|aI 162) [.ob 10,.p<|sM nI p] (GH x5 x6 x7 K) Q E:=pd hl<|e▸k
theorem PQ{k:Int}{v:P}(hl:K.ol.length<=1000)(h:Q (.p<|nI K.r)<|GH x5 x6 x7<|K.add 1 [.set K.r k v]):ba TT NN (d+2) hd (.p<|aI 204) [.ob 10,.p<|af k,.p v] (GH x5 x6 x7 K) Q E:=
 aZ rfl rfl λhc=>b8 im (mk:=.cY 155) rfl<|hc<|BC<|b8 im (mk:=.cY 162) rfl<|hc<|pd (p:=.set K.r k v) hl h
theorem Rv{k:Int}(hl:K.ol.length<=1000)(h:Q (.p<|nI K.r)<|GH x5 x6 x7<|K.add 1 [.rD K.r c]):ba TT NN (d+2) hd (.p<|aI 211) [.ob 10,.p<|jV<| .m4 k c] (GH x5 x6 x7 K) Q E:=
 aZ rfl rfl λhc=>b8 im (mk:=.cY 155) rfl<|hc<|BC<|b8 im (mk:=.cY 162) rfl<|hc<|pd (p:=.rD K.r c) hl h
theorem wr{k:Int}(hl:K.ol.length<=1000)(h:Q (.p<|nI K.r)<|GH x5 x6 x7<|K.add 1 [.rD K.r c]):ba TT NN (d+3) hd (.p<|aI 197) [.ob 10,.p<|jV<| .m4 k c] (GH x5 x6 x7 K) Q E:=
 aZ rfl rfl λhc=>cJ im (K:=gH) rfl rt rfl<|vm (ks:=[.s yj]) (λ_=>cJ im (K:=gH) rfl rt rfl<|hc<|Rv hl h) λq=>nomatch q
theorem GF{a:Ar}(ha:vn a\/gC a)(hl:K.ol.length+2<=1000)(h:Q (.p<|nI<|E1 K.r a)<|GH x5 x6 x7<|K.add (sX a)<|kS K.r a):ba TT NN (d+5) hd (.p<|aI 190) [.ob 10,.p<|jV a] (GH x5 x6 x7 K) Q E:=by
 cases a with
 |js k v=>exact aZ rfl rfl λhc=>cJ im (K:=gH) rfl rt rfl<|vm (λ_=>cJ im (K:=gH) rfl rt rfl<|hc<|aZ rfl rfl λhc=>hc<|PQ (dj aB aA [(1,eA aB g9,aA)] rt hl) h) λq=>nomatch q
 |m4 k c=>
  have e:({{K.add 1 [.rD K.r c]with r:=K.r+1+1}with ol:=(K.ol++[.rD K.r c])++[.load (K.r+1) K.r]}:GK)=K.add 2 [.rD K.r c,.load (K.r+1) K.r]:=by rw[de];rfl
  refine aZ rfl rfl λhc=>cJ im (K:=gH) rfl rt rfl<|vm (λ_=>cJ im (K:=gH) rfl rt rfl<|hc ?_) λq=>nomatch q;refine aZ rfl rfl λhc=>hc<|wr (dj aB aA [(1,eA aB g9,aA)] rt hl) ?_;exact b8 im (mk:=.cY 155) rfl (hc<|BC<|b8 im (mk:=.cY 162) rfl<|hc<|GD (p:=.load (K.r+1) K.r) (by refine ah cg ?_;exact dj eI aA [(1,eA aB g9,aA)] rt hl:(K.ol++[Op.rD K.r c]).length<=1000) e h)
 |bf n=>exact ha.elim oU oU
theorem GI{e:v3}(he:IB e)(hl:K.ol.length+2<=1000)(h:Q (.p<|aw [ab qJ,nI<|E1 K.r e.2])<|GH x5 x6 x7<|K.add (sX e.2)<|kS K.r e.2):ba TT NN (d+6) ak (.p<|aI 333) [.ob 10,.p<|ab e.1,.p<|jV e.2] (GH x5 x6 x7 K) Q E:=by
 obtain ⟨t,a⟩:=e;refine aZ rfl rfl λhc=>ly (x:=ab t) (y:=ab cM) rt rt (λq=>?_) λq=>?_
 ·have hn:=he.n (by have q:=sK q;subst q;rfl)
  cases a with
  |js k v=>obtain ⟨rfl,i,rfl,_⟩:=hn;exact ⟨⟨rt,rt⟩,bH _,lL rfl<|ik<|cT he.f rt rt<|lL rfl<|ik<|cT he.f rt rt<|lL rfl<|ik<|hc<|GF he.arg hl h⟩
  |m4 k c=>obtain ⟨rfl,rfl⟩:=hn;exact ⟨⟨rt,rt⟩,bH _,lL rfl<|ik<|cT he.f rt rt<|lL rfl<|ik<|cT he.f rt rt<|lL rfl<|ik<|hc<|GF he.arg hl h⟩
  |bf n=>exact he.arg.elim oU oU
 ·exact lL rfl<|ik<|cT he.f rt rt<|lL rfl<|ik<|cT he.f rt rt<|lL rfl<|ik<|hc<|GF he.arg hl h
def Xk(rs:Env):Prop:=rs=[]\/(∃x y:P,rs=[(36,.p x),(27,.p y)])\/∃x y z w:P,rs=[(36,.p x),(27,.p y),(73,.p z),(29,.p w)]
noncomputable abbrev E7 (ct ws:V) (rs:Env):Env:=(24,.ob 10)::(69,ct)::(75,ws)::(13,.tm 5)::(67,.tm 6)::(68,.tm 7)::rs
theorem yv{e:v3}(h:IB e):cK 8 (jV e.2)=ag:=by
 obtain ⟨t,a⟩:=e;cases a with
 |js k v=>
  rcases h.arg with ⟨_,i,rfl,_⟩|⟨_,i,rfl,_⟩
  ·rfl
  ·rfl
 |m4 k c=>rfl
 |bf n=>rfl
theorem BD{a:Ar}:cL (jV a) (ab [42])=ak:=by cases a<;>rfl
theorem IJ{Q:Fl->Env->H->Prop}{E:Env->H->Prop}{v:P}{a7:List (bV×P)}(hr:Xk rs)(hw:cO (ab w) [ab bU,ab pL,ab cQ]=ag)(co:av (((dE es).map (·.1)).zip<|(dE es).map (·.2)) (.s w)=aa v)(h7:a7.length<=1000)(k:∀rs,Xk rs->Q bE (E7 (.p<|m5 es) ws rs) (GH x5 x6 (du<|aN a7 (.s w) v) K)):ez cl cf jv (E7 (.p<|m5 es) ws<|aN rs 36<| .p<|ab w) (GH x5 x6 (du a7) K) Q E:=by
 have fin:∀{rs},Xk rs->Q bE (E7 (.p<|m5 es) ws rs) (aG (GH x5 x6 (du a7) K) 7<|du<|aN a7 (.s w) v):=λh=>ah TS<|k _ h;rcases hr with h|⟨x,y,h⟩|⟨x,y,z,u,h⟩<;>refine ah h ?_
 ·exact ax co<|yt rt rt (λ_=>lL rfl<|tS Rt h7<|fin<|bM<|bW<|yQ _ _ rfl)<|tf hw
 ·exact ax co<|yt rt rt (λ_=>lL rfl<|tS Rt h7<|fin<|bM<|bW<|yQ _ _ rfl)<|tf hw
 ·exact ax co<|yt rt rt (λ_=>lL rfl<|tS Rt h7<|fin<|bM<|bM<|ae1 _ _ _ _ rfl)<|tf hw
theorem Rw{Q:Fl->Env->H->Prop}{E:Env->H->Prop}{e:v3}{a5 a6:List P}(hc:jo cl (d+6) ak)(he:IB e)(hr:Xk rs)(co:av (((dE es).map (·.1)).zip<|(dE es).map (·.2)) (.s e.1)=aa (jV e.2))(hl:K.ol.length+2<=1000)(h5:a5.length<=1000)(h6:a6.length<=1000)(k:∀rs,Xk rs->Q bE (E7 (.p<|m5 es) ws rs) (GH (aM<|a5++[nI<|E1 K.r e.2]) (aM<|a6++[n3 e]) x7<|K.add (sX e.2)<|kS K.r e.2)):ez cl cf jv (E7 (.p<|m5 es) ws<|aN rs 36<| .p<|ab e.1) (GH (aM a5) (aM a6) x7 K) Q E:=by
 have fin:∀{rs},Xk rs->Q bE (E7 (.p<|m5 es) ws rs) (aG (aG (GH (aM a5) (aM a6) x7<|K.add (sX e.2)<|kS K.r e.2) 5<|aM<|a5++[nI<|E1 K.r e.2]) 6<|aM<|a6++[n3 e]):=λh=>ah Nk<|ah TQ<|k _ h;have g6:aW (aG (GH (aM a5) (aM a6) x7<|K.add (sX e.2)<|kS K.r e.2) 5<|aM<|a5++[nI<|E1 K.r e.2]) 6=aa (aM a6):=ah Nk<|ad0;rcases hr with h|⟨x,y,h⟩|⟨x,y,z,u,h⟩<;>refine ah h ?_
 ·exact ax co<|yt rt rt (λq=>tf q he.h) λ_=>cT BD (yv he) rt<|lL rfl<|cT he.f rt rt<|lL rfl<|hc<|GI he hl<|b8 E6 (mk:=.bi 0 0) rfl<|gW E6 h5<|b8 g6 (mk:=.bi 0 0) rfl<|gW g6 h6<|fin<|bM<|bM<|ae1 _ _ _ _ rfl
 ·exact ax co<|yt rt rt (λq=>tf q he.h) λ_=>cT BD (yv he) rt<|lL rfl<|cT he.f rt rt<|lL rfl<|hc<|GI he hl<|b8 E6 (mk:=.bi 0 0) rfl<|gW E6 h5<|b8 g6 (mk:=.bi 0 0) rfl<|gW g6 h6<|fin<|bM<|bM<|ae1 _ _ _ _ rfl
 ·exact ax co<|yt rt rt (λq=>tf q he.h) λ_=>cT BD (yv he) rt<|lL rfl<|cT he.f rt rt<|lL rfl<|hc<|GI he hl<|b8 E6 (mk:=.bi 0 0) rfl<|gW E6 h5<|b8 g6 (mk:=.bi 0 0) rfl<|gW g6 h6<|fin<|bM<|bM<|ae1 _ _ _ _ rfl
theorem GK.GJ{m:Nat}{a b:List Op}:(K.add n a).add m b=K.add (n+m) (a++b):=by
 show GK.mk _ _ _ _ _ _=GK.mk _ _ _ _ _ _;rw[qe,de]
theorem oe{Q:Fl->Env->H->Prop}{E:Env->H->Prop}(h:aW σ n=aa ae)(k:Q bE (aN m i<| .tm n)<|aG σ n<|aM []):iR C cf (.cY i<| .list [n] .nil) m σ Q E:=qS<|jt h<|lB h k
theorem Yj{Q:Fl->Env->H->Prop}{E:Env->H->Prop}(h:aW σ n=aa ae)(k:Q bE (aN m i<| .tm n)<|aG σ n<|du []):iR C cf (.cY i<| .dict [n] .nil) m σ Q E:=qS<|jt h<|lB h k
theorem aa2{Q:Fl->Env->H->Prop}{E:Env->H->Prop}(hc:jo cl (d+6) ak)(S:jO aE es):∀l a5 a6 a7(K:GK)(rs:Env),(∀e∈l,e∈es/\∀i,e≠.l7 i)->Xk rs->K.ol.length+2*l.length+2<=1000->a5.length+l.length<=1000->a6.length+l.length<=1000->a7.length+l.length<=1000->(∀rs,Xk rs->Q bE (E7 (.p<|m5 es) ws rs) (GH (aM<|a5++(nO K.r<|bG l).map nI) (aM<|a6++(bG l).map n3) (du<|cn a7<|dE<|l.filter qm)<|K.add (iT<|bG l)<|eF K.r<|bG l))->jf (lW ⟨TT,NN,cl,ak,3⟩ cf [36] jv) (na l) (E7 (.p<|m5 es) ws rs) (GH (aM a5) (aM a6) (du a7) K) Q E:=lr
 (λa5 a6 a7 K rs _ hr _ _ _ _ k=>by
  have k:=k rs hr;rw[show a5++(nO K.r<|bG []).map nI=a5 from fc _,show a6++(bG []).map n3=a6 from fc _,show K.add (iT<|bG []) (eF K.r<|bG [])=K from by show GK.mk _ _ (_++[]) _ _ _=_;rw[fc];rfl]at k;exact k)
 (λe l b5 a5 a6 a7 K rs hl hr b1 b2 b3 b4 k=>by
  have co:av ((((dE es).map (·.1)).zip<|(dE es).map (·.2))) (.s<|pW e)=aa (ID e):=ah d7<|S.co e (hl e<|bt _).1;have hk:=S.ok e (hl e<|bt _).1;cases e with
  |yq=>exact IJ hr rt co (cw bb aA [(1,eA bb aB,aA)] rt b4) λrs hr=>(λa5 a6 a7 K rs=>b5 a5 a6 a7 K rs λe h=>hl e<|aS _ h) a5 a6 _ K rs hr (cw (eA (eA aB<|eM 2 bb) g9) aA [(1,eA (eA aB vf) g9,aA)] rt<|by assumption) (cw (eA aB bb) aA [(1,eA aB ie,aA)] rt<|by assumption) (cw (eA aB bb) aA [(1,eA aB ie,aA)] rt<|by assumption) (bo (zp o8 _)<|cw mX aA [(1,eA aB ie,aA)] rt<|by assumption) k
  |yr n=>exact IJ hr rt co (cw bb aA [(1,eA bb aB,aA)] rt b4) λrs hr=>(λa5 a6 a7 K rs=>b5 a5 a6 a7 K rs λe h=>hl e<|aS _ h) a5 a6 _ K rs hr (cw (eA (eA aB<|eM 2 bb) g9) aA [(1,eA (eA aB vf) g9,aA)] rt<|by assumption) (cw (eA aB bb) aA [(1,eA aB ie,aA)] rt<|by assumption) (cw (eA aB bb) aA [(1,eA aB ie,aA)] rt<|by assumption) (bo (zp o8 _)<|cw mX aA [(1,eA aB ie,aA)] rt<|by assumption) k
  |l7 i=>exact ((hl _<|bt _).2 i rfl).elim
  |d4 t a=>
   refine Rw hc hk.1 hr co (cw iP aA [(1,eA (eA aB vf) g9,aA)] rt<|by assumption) (cw bb aA [(1,eA bb aB,aA)] rt b2) (cw bb aA [(1,eA bb aB,aA)] rt b3) λrs hr=>(λa5 a6 a7 K rs=>b5 a5 a6 a7 K rs λe h=>hl e<|aS _ h) _ _ a7 (K.add (sX a)<|kS K.r a) rs hr (by exact ah cg<|gS (eA (eA (eA aB cv)<|eM 2 bb) g9) aA [(1,eA (eA aB vf) g9,aA),(1,cv,g9)] rt (by assumption) (match a with| .js _ _=>kZ 1| .m4 _ _=>gj 2| .bf _=>bH 2:(kS K.r a).length<=2)) (ah cg<|cw mX aA [(1,eA aB ie,aA)] rt<|by assumption) (ah cg<|cw mX aA [(1,eA aB ie,aA)] rt<|by assumption) (cw (eA aB bb) aA [(1,eA aB ie,aA)] rt<|by assumption) λrs hr=>?_;refine ah GK.GJ ?_;rw[de,de];exact (k rs hr))
theorem BV{l:List En}(S:jO aE es)(hl:∀e∈l,e∈es/\∀i,e≠.l7 i)(hf:l.filter qm=es.filter qm)(hn:l.length<=20)(b:K.ol.length<=900)(k:Q (.p<|aw [aL<|(nO K.r<|bG l).map nI,aL<|(bG l).map n3,ju<|Hv es])<|GH ae ae ae<|K.add (iT<|bG l)<|eF K.r<|bG l):ba TT NN (d+7) ak (.p<|aI 340) [.ob 10,.p<|m5 es,.p<|aL<|na l] (GH ae ae ae K) Q E:=by
 refine aZ rfl rfl λhc=>cj<|oe E6 ?_;refine ah Nk<|cj<|oe ad0 ?_;refine ah TQ<|cj<|Yj Rt ?_;refine ah TS<|aa2 hc S l [] [] [] K [] hl (bW rfl) (cw (eA (eA bb<|eM 2 aB) g9) aA [(2,aB,lZ),(1,bb,nW)] rt hn b) (by exact dj s9 aA [(1,aB,lZ)] rt hn) (by exact dj s9 aA [(1,aB,lZ)] rt hn) (by exact dj s9 aA [(1,aB,lZ)] rt hn) λrs hr=>?_;refine ah hf ?_;rcases hr with h|⟨x,y,h⟩|⟨x,y,z,u,h⟩<;>rw[h]<;>refine cj (qT rfl rfl E6 rfl rfl ?_)<;>rw[Nk]<;>refine cj (qT rfl rfl ad0 rfl rfl ?_)<;>rw[TQ]<;>refine cj (qT rfl rfl Rt rfl rfl ?_)<;>rw[TS]<;>exact k
section
variable{m:Nat}
theorem Xl(S:jO aE es):av (dE es) (.s pL)=aj:=by
 cases q:av (dE es) (.s pL)with
 |none=>rfl
 |some v=>
  refine cE (nQ.mp<|gY q) λe h1 h2=>?_;have hk:=S.ok e h1;match e,hk,(bV.s.inj (sE h2).1)with
  | .yq,_,h=>exact absurd h<|dc rt
  | .yr _,_,h=>exact absurd h (by show ¬cQ=pL;decide+kernel)
  | .d4 t a,hk,h=>subst h;exact nomatch hk.1.h
  | .l7 i,hk,h=>exact absurd h (by
   have:∀i<8,¬gT i=pL:=dc rt;exact this i hk.1)
theorem PS(S:jO aE es){v:P}(q:av (dE es) (.s bU)=aa v):v=jV (.m4 0 83):=by
 refine cE (nQ.mp<|gY q) λe h1 h2=>?_;have hk:=S.ok e h1;have h3:=(sE h2).2;match e,hk,(bV.s.inj (sE h2).1),h3 with
 | .yq,_,h,h3=>exact h3.symm
 | .yr _,_,h,_=>exact absurd h (by show ¬cQ=bU;decide+kernel)
 | .d4 t a,hk,h,_=>subst h;exact nomatch hk.1.h
 | .l7 i,hk,h,_=>exact absurd h (by
  have:∀i<8,¬gT i=bU:=dc rt;exact this i hk.1)
theorem ux{rs:List Nat}{rest:P}(hm:ms.length<=100)(hl:K.ol.length<=1000)(k:Q (.p .none)<|GH x5 x6 x7<|K.add 0 [.io w rs ms rest]):ba TT NN (d+2) hd (.p<|aI 319) [.ob 10,.p<|ab w,.p<|aL<|rs.map nI,.p<|aL<|ms.map nI,.p rest] (GH x5 x6 x7 K) Q E:=
 aZ rfl rfl λhc=>b8 im (mk:=.cY 162) rfl (hc ⟨by rw[cq];exact bo hm<|dc rt,hc<|pd (p:=.io w rs ms rest) hl k⟩)
theorem PT(S:jO aE es)(hm:K.ms.length<=800)(k:Q (.p<|aw [aL<|lX es,aL<|(eV K.ms.length<|cA bf es).map nI])<|GH x5 x6 x7 {K with ms:=K.ms++(eV K.ms.length<|cA bf es).map λ_=>af (-1)}):ba TT NN (d+3) ak (.p<|aI 345) [.ob 10,.p<|m5 es] (GH x5 x6 x7 K) Q E:=by
 have e1:∀{w o},av (dE es) (.s w)=o->av ((((dE es).map (·.1)).zip<|(dE es).map (·.2))) (.s w)=o:=λh=>ah d7<|h;refine oc (av (dE es)<| .s cQ) (λq=>?_) λv q=>?_
 ·
  rw[lX,cA]at k;replace k:=q▸k;exact aZ rfl rfl λhc=>nq (md<|e1<|Xl S) λ_=>nq (md<|e1 q) λ_=>hc (v8 (dj aB nW [(1,aB,rS)] rt hm) ⟨⟨(by decide:1<=1000000),bH _⟩,k⟩)
 ·
  delta lX at k;rw[cA,q]at k;refine aZ rfl rfl λhc=>nq (md<|e1<|Xl S) λ_=>nq (λ_=>ax (e1 q) ⟨bH _,?_⟩)<|ir<|e1 q;refine hc (v8 (dj aB nW [(1,aB,rS)] rt hm)<|hc<|v8 (by refine ah cg ?_;exact dj eI nW [(1,aB,rS)] rt hm) ⟨bH _,⟨(by decide:1<=1000000),(by decide:1<=1000000)⟩,?_⟩);refine ah cg ?_;rw[de];exact k
end
section
variable{m:Nat}
abbrev Rx(es:List En)(mV mk gl:List P)(td:P)(rs:Env):Env:=(24,.ob 10)::(69,.p<|m5 es)::(53,.p<|aL mV)::(14,.p<|aL mk)::(76,.p td)::(78,.p<|aL gl)::rs
theorem GL{Q:Fl->Env->H->Prop}{E:Env->H->Prop}{mV mk gl:List P}{td:P}{mi gi:Nat}(S:jO aE es)(hc:jo cl (d+3) ak)(h1:pU mk.length z=aa j)(h2:mk[j]?=aa (nI mi))(h3:pU gl.length z=aa j)(h4:gl[j]?=aa (nI gi))(hm:mi<K.ms.length)(hl:K.ms.length<=1000)(Ru:K.ol.length+3<=1000)(k:Q bE (Rx es mV mk gl td [(80,it z)])<|GH x5 x6 x7 {K.add (bN (cG es) 1) (gA (cG es) K.r gi)with ms:=K.ms.set mi (nI K.ol.length)}):ez cl cf lT (Rx es mV mk gl td [(80,it z)]) (GH x5 x6 x7 K) Q E:=by
 refine gz h1 h2<|hc<|zU hm hl (dj aB aA [(1,eA aB l5,aA)] rt Ru)<|xI (λq=>?_) λq=>?_
 ·rw[q]at k
  refine ue (m6.mp q) λv hv=>?_;have ev:=PS S hv;subst ev;refine ax (by refine ah d7 ?_;exact hv:av ((((dE es).map (·.1)).zip<|(dE es).map (·.2))) (.s bU)=aa (jV<| .m4 0 83)) (hc<|wr (by exact dj aB aA [(1,eA aB l5,aA)] rt Ru)<|hc<|ux (rs:=[K.r]) (ms:=[]) (bH _) (by exact ah cg<|dj eI aA [(1,eA aB l5,aA)] rt Ru) ?_);refine b8 im (mk:=.cY 162) rfl (gz h3 h4<|hc<|GD (p:=.g8 gi) (by exact ah cg<|ah cg<|dj mh aA [(1,eA aB l5,aA)] rt Ru) (K':={K.add 1 (gA ag K.r gi)with ms:=K.ms.set mi (nI K.ol.length)}) ?_ k);rw[de,de];rfl
 ·rw[q]at k
  exact b8 im (mk:=.cY 162) rfl (gz h3 h4<|hc<|pd (p:=.g8 gi) (by exact dj aB aA [(1,eA aB l5,aA)] rt Ru) k)
structure CG(K:GK)(bf:Int->Nat)(es:List En):Prop where
 kM:∀v,av (dE es) (.s cQ)=aa v->∃n:Int,v=af n/\av K.lb (.i n)=aa (nI<|bf n)/\K.ss[bf n]?=aa (nI<|bf n)
 l:K.ss.length<=1000
theorem Yk{n:Int}(hz:z=j)(h1:av K.lb (.i n)=aa (af z))(h2:K.ss[j]?=aa (af z))(hl:K.ss.length<=1000)(k:Q (it z)<|GH x5 x6 x7 K):ba TT NN (d+1) hd (.p<|aI 286) [.ob 10,.p<|af n] (GH x5 x6 x7 K) Q E:=by
 have cont:∀{Q}{E},Q (av K.lb<| .i n).isSome (GH x5 x6 x7 K)->nX (.p<|af n) (.ob 14) (GH x5 x6 x7 K) Q E:=λ{Q E}k=>by
  have zz:∀{oo},oo=aa (du K.lb)->(match ng (V.yg<| .ob 14) (ng aj<|oo.bind O.uV)with
   |some xs=>M.aQ (V.pl<| .p<|af n) λx=>.eD (cK 8 x=ag/\dS 8 xs=ag)<| .ok<|cO x xs
   |none=>.aQ (V.lj<| .p<|af n) λk=>match ng aj (oo.bind O.Ih)with
    |some es=>M.ok (av es k).isSome
    |none=>.aQ (oo.bind O.yS) λes=>.ok (av es k).isSome) (GH x5 x6 x7 K) Q E:=λe=>e▸k
  exact zz ahf
 have iz:∀{Q}{E},Q (it z) (GH x5 x6 x7 K)->rU (.ob 14) (.p<|af n) (GH x5 x6 x7 K) Q E:=λ{Q E}k=>by
  have zz:∀{oo},oo=aa (du K.lb)->(match ng (V.yg<| .ob 14) (ng aj<|oo.bind O.uV)with
   |some xs=>M.aQ (V.eX<| .p<|af n) λi=>.aQ (pU xs.length i) λj=>.aQ (xs[j]?) λv=>.ok<|V.p v
   |none=>.aQ (V.lj<| .p<|af n) λk=>match ng aj (oo.bind O.Ih)with
    |some es=>.aQ (av es k) λv=>.ok<|V.p v
    |none=>.aQ (oo.bind O.yS) λes=>.aQ (av es k) λn=>.ok<|V.dy n) (GH x5 x6 x7 K) Q E:=λe=>e▸ax rfl (ax h1 k)
  exact zz ahf
 refine aZ rfl rfl λhc=>cJ im (K:=gH) rfl rt rfl<|cJ adZ (K:=u1) rfl rt rfl<|cont<|pN (λq=>?_) λq=>?_
 ·rw[h1]at q;exact dC q
 ·refine ik<|cJ im (K:=gH) rfl rt rfl<|cJ im (K:=gH) rfl rt rfl<|cJ adZ (K:=u1) rfl rt rfl<|iz ?_
  exact gz (gq hz (jL h2)<|bo hl<|dc rt) h2 k
end
def mN(q:Nat)(b:Bool)(r td:Nat)(g:Option Nat):List P:=nI (q+(fw b r++[Op.g8 td]).length)::((match g with|some _=>[nI<|q+(fw b r++[Op.g8 td]).length+(gA b (r+bN b 2) td).length]|none=>[])++[nI<|q+(jZ b r td g).length])
section
variable{m:Nat}
theorem Yl{Q:Fl->Env->H->Prop}{E:Env->H->Prop}{mV mk:List P}{x:P}(hx:x=nI td)(S:jO aE es)(hc:jo cl (d+3) ak)(hl:K.ol.length+4<=1000)(k:ez cl cf (eR 3 vG.body) [(24,.ob 10),(69,.p<|m5 es),(53,.p<|aL mV),(14,.p<|aL mk),(76,.p x)] (GH x5 x6 x7<|K.add (bN (cG es) 2)<|fw (cG es) K.r++[.g8 td]) Q E):ez cl cf (eR 1 vG.body) [(24,.ob 10),(69,.p<|m5 es),(53,.p<|aL mV),(14,.p<|aL mk),(76,.p x)] (GH x5 x6 x7 K) Q E:=by
 have l1:∀{v:Op}{a:List Op},(a++[v]).length=a.length+1:=cg;subst hx;refine xI (λq=>?_) λq=>?_
 ·rw[q]at k
  obtain ⟨v,hv⟩:=m6.mp q;have ev:=PS S hv;subst ev;refine b8 im (mk:=.cY 162) rfl (ax (by refine ah d7 ?_;exact hv:av ((((dE es).map (·.1)).zip<|(dE es).map (·.2))) (.s bU)=aa (jV<| .m4 0 83))<|hc<|wr (dj aB aA [(1,eA aB EA,aA)] rt hl)<|hc<|PQ (by exact ah l1<|dj eI aA [(1,eA aB EA,aA)] rt hl)<|hc<|pd (p:=.C8 K.r<|K.r+1) (by exact ah l1<|ah l1<|dj mh aA [(1,eA aB EA,aA)] rt hl) ?_);refine b8 im (mk:=.cY 162) rfl (hc<|GD (p:=.g8 td) (by exact ah l1<|ah l1<|ah l1<|dj (eA mh bz) aA [(1,eA aB EA,aA)] rt hl) (K':=K.add 2<|fw ag K.r++[Op.g8 td]) ?_ k);rw[de,de,de];rfl
 ·rw[q]at k
  exact b8 im (mk:=.cY 162) rfl<|hc<|pd (p:=.g8 td) (dj aB aA [(1,eA aB EA,aA)] rt hl) k
theorem Bk{v x:α}{b:List α}:∀{a:List α}{i:Nat},i=a.length->(a++x::b).set i v=a++v::b:=@lr _ _
 (@λ_ h=>by subst h;rfl)
 (λy a ih=>@λ_ h=>by subst h;exact congrArg (y::·)<|ih rfl)
theorem aa3{a:List α}{x y u v:α}:((a++[x,y]).set a.length u).set (a.length+1) v=a++[u,v]:=by
 rw[Bk rfl,show a++u::[y]=(a++[u])++y::[] by rw[de];rfl,Bk (by refine ah cg ?_;rfl),de];rfl
theorem Ry{a:List α}{x y z u v w:α}:(((a++[x,y,z]).set a.length u).set (a.length+1) v).set (a.length+2) w=a++[u,v,w]:=by
 rw[Bk rfl,show a++u::[y,z]=(a++[u])++y::[z] by rw[de];rfl,Bk (by refine ah cg ?_;rfl),show (a++[u])++v::[z]=(a++[u,v])++z::[] by rw[de,de];rfl,Bk (by refine ah cg ?_;rfl),de];rfl
abbrev kz(K:GK)(b:Bool)(td:Nat):GK:=({K with ms:=K.ms++[af<|-1]}:GK).add (bN b 2)<|fw b K.r++[Op.g8 td]
abbrev kw(K:GK)(b:Bool)(mi gi:Nat):GK:={K.add (bN b 1) (gA b K.r gi)with ms:=K.ms.set mi (nI K.ol.length)}
abbrev kb(K:GK)(td:Nat):GK:={K with ms:=K.ms.set td (nI K.ol.length)}
theorem Rz{dH:List P}(hm:K.ms=dH++[af<|-1]):kb (kw (kz K b<|dH.length+1) b dH.length<|dH.length+1) (dH.length+1)={K with r:=K.r+bN b 3,ol:=K.ol++jZ b K.r (dH.length+1) aj,ms:=dH++mN K.ol.length b K.r (dH.length+1) aj}:=by
 show GK.mk _ _ _ (((K.ms++[P.int<|-1]).set dH.length _).set (dH.length+1) _) _ _=GK.mk _ _ _ _ _ _;refine ah hm ?_;rw[de];refine ah aa3 ?_;show GK.mk _ (K.r+bN b 2+bN b 1) ((K.ol++(fw b K.r++[Op.g8<|dH.length+1]))++gA b (K.r+bN b 2) (dH.length+1)) (dH++[nI (K.ol++(fw b K.r++[Op.g8<|dH.length+1])).length,nI ((K.ol++(fw b K.r++[Op.g8<|dH.length+1]))++gA b (K.r+bN b 2) (dH.length+1)).length]) _ _=GK.mk _ _ _ (dH++(nI _::([]++[nI _]))) _ _;refine ah (by rw[de,jZ,E2,fc]:(K.ol++(fw b K.r++[Op.g8<|dH.length+1]))++gA b (K.r+bN b 2) (dH.length+1)=K.ol++jZ b K.r (dH.length+1) aj)<|ah (cg:(K.ol++jZ b K.r (dH.length+1) aj).length=K.ol.length+(jZ b K.r (dH.length+1) aj).length)<|ah cg<|ah (show K.r+bN b 2+bN b 1=K.r+bN b 3 by induction b using fe<;>rfl) ?_;rfl
theorem RA{dH:List P}(hm:K.ms=dH++[af<|-1,af<|-1]):kb (kw (kw (kz K b<|dH.length+2) b dH.length<|dH.length+2) b (dH.length+1) j) (dH.length+2)={K with r:=K.r+bN b 4,ol:=K.ol++jZ b K.r (dH.length+2) (aa j),ms:=dH++mN K.ol.length b K.r (dH.length+2) (aa j)}:=by
 show GK.mk _ _ _ ((((K.ms++[P.int<|-1]).set dH.length _).set (dH.length+1) _).set (dH.length+2) _) _ _=GK.mk _ _ _ _ _ _;refine ah hm ?_;rw[de];refine ah Ry ?_;show GK.mk _ (K.r+bN b 2+bN b 1+bN b 1) (((K.ol++(fw b K.r++[Op.g8<|dH.length+2]))++gA b (K.r+bN b 2) (dH.length+2))++gA b (K.r+bN b 2+bN b 1) j) (dH++[nI (K.ol++(fw b K.r++[Op.g8<|dH.length+2])).length,nI ((K.ol++(fw b K.r++[Op.g8<|dH.length+2]))++gA b (K.r+bN b 2) (dH.length+2)).length,nI (((K.ol++(fw b K.r++[Op.g8<|dH.length+2]))++gA b (K.r+bN b 2) (dH.length+2))++gA b (K.r+bN b 2+bN b 1) j).length]) _ _=GK.mk _ _ _ (dH++(nI _::([nI _]++[nI _]))) _ _;have e:((K.ol++(fw b K.r++[Op.g8<|dH.length+2]))++gA b (K.r+bN b 2) (dH.length+2))++gA b (K.r+bN b 2+bN b 1) j=K.ol++jZ b K.r (dH.length+2) (aa j):=by
  rw[de,de,jZ,E2];refine ah (show K.r+bN b 2+bN b 1=K.r+bN b 3 by induction b using fe<;>rfl) ?_;rfl
 refine ah e<|ah (cg:(K.ol++jZ b K.r (dH.length+2) (aa j)).length=K.ol.length+(jZ b K.r (dH.length+2)<|aa j).length)<|ah (cg:((K.ol++(fw b K.r++[Op.g8<|dH.length+2]))++gA b (K.r+bN b 2) (dH.length+2)).length=(K.ol++(fw b K.r++[Op.g8<|dH.length+2])).length+(gA b (K.r+bN b 2)<|dH.length+2).length)<|ah cg<|ah (show K.r+bN b 2+bN b 1+bN b 1=K.r+bN b 4 by induction b using fe<;>rfl) ?_;rfl
theorem aa4{dH:List P}(S:jO aE es)(L:CG K bf es)(hm:K.ms=dH++(eV dH.length<|cA bf es).map λ_=>af<|-1)(E8:dH.length<=700)(hl:K.ol.length+12<=1000)(k:Q (.p .none)<|GH x5 x6 x7 {K with r:=K.r+bN (cG es) (gN<|cA bf es),ol:=K.ol++jZ (cG es) K.r (pP dH.length<|cA bf es) (cA bf es),ms:=dH++mN K.ol.length (cG es) K.r (pP dH.length<|cA bf es) (cA bf es)}):ba TT NN (d+4) ak (.p<|aI 350) [.ob 10,.p<|m5 es,.p<|aL<|lX es,.p<|aL<|(eV dH.length<|cA bf es).map nI] (GH x5 x6 x7 K) Q E:=by
 have zl:(fw (cG es) K.r++[Op.g8<|pP dH.length<|cA bf es]).length<=4:=by cases cG es<;>exact jA rt
 have wl:∀r j,(gA (cG es) r j).length<=3:=λr j=>by cases cG es<;>exact jA rt
 have ml:K.ms.length<=800:=by refine ah hm ?_;rw[cg,cq];have:(eV dH.length<|cA bf es).length<=2:=(by cases cA bf es<;>exact jA rt);exact cw (.a (.v 0)<| .v 1) (.n 800) [(1,.v 0,.n 700),(1,.v 1,.n 2)] rt E8 this
 have mb:K.ms.length=pP dH.length (cA bf es):=by refine ah hm ?_;rw[cg,cq];rfl
 refine aZ rfl rfl @λcl cf hc=>hc<|v8 (dj aB nW [(1,aB,rS)] rt ml) ?_;refine ah mb ?_;generalize hx:nI (pP dH.length<|cA bf es)=x;generalize hk:(eV dH.length<|cA bf es).map nI=mk;refine Yl hx.symm S hc (by exact dj (.a (.v 0)<| .n 4) (.n 1000) [(1,.a (.v 0)<| .n 12,.n 1000)] rt hl) ?_;refine oc (av (dE es)<| .s cQ) (λq=>?_) λv q=>?_
 ·
  have eg:cA bf es=aj:=by delta cA;rw[q];rfl
  have el:lX es=[]:=by delta lX;rw[q]
  rw[eg]at hm mb k zl hx hk⊢;refine ah el ?_;have m1:mk.length=1:=by refine ah hk.symm ?_;rfl
  have g0:mk[0]?=aa (nI dH.length):=by refine ah hk.symm ?_;rfl
  have hm:=hm;have kl:K.ms.length=dH.length+1:=by refine ah hm<|ah cg ?_;rfl
  have x1:(kz K (cG es)<|dH.length+1).ms.length=dH.length+2:=by refine ah cg<|ah kl ?_;rfl
  have x2:(kz K (cG es)<|dH.length+1).ol.length<=K.ol.length+4:=by
   show (K.ol++_).length<=_;exact ah cg<|Nat.add_le_add_left zl _
  have k:Q (.p .none) (GH x5 x6 x7<|kb (kw (kz K (cG es)<|dH.length+1) (cG es) dH.length<|dH.length+1)<|dH.length+1):=ah (Rz hm)<|k
  have x3:(kw (kz K (cG es)<|dH.length+1) (cG es) dH.length<|dH.length+1).ol.length<=K.ol.length+7:=by
   refine ah cg ?_;have:=wl (kz K (cG es)<|dH.length+1).r<|dH.length+1;exact gS (.a (.v 0)<| .v 2) (.a (.v 1)<| .n 7) [(1,.v 0,.a (.v 1)<| .n 4),(1,.v 2,.n 3)] rt x2 this
  have x4:(kw (kz K (cG es)<|dH.length+1) (cG es) dH.length<|dH.length+1).ms.length=dH.length+2:=ah fu<|x1
  refine ⟨⟨(by decide:1<=1000000),bH _⟩,hc ⟨by refine ah m1 ?_;decide,?_⟩⟩
  refine ah m1<|hc ?_
  show ez cl cf lT (Rx es [] mk [x] x [(80,it 0)]) (GH x5 x6 x7<|kz K (cG es)<|dH.length+1) _ _
  refine GL (j:=0) S hc (by refine ah m1 ?_;rfl) g0 rfl (by refine ah hx.symm ?_;rfl) (ah x1<|dj (.a (.v 0)<| .n 1) (.a (.v 0)<| .n 2) [] rt) (ah x1<|dj (.a (.v 0)<| .n 2) (.n 1000) [(1,.v 0,.n 700)] rt E8) (cw (.a (.v 1)<| .n 3) (.n 1000) [(1,.a (.v 0)<| .n 12,.n 1000),(1,.v 1,.a (.v 0)<| .n 4)] rt hl x2)<|hc ?_
  exact ah hx.symm<|zU (ah x4<|dj (.a (.a (.v 0)<| .n 1)<| .n 1) (.a (.v 0)<| .n 2) [] rt) (ah x4<|dj (.a (.v 0)<| .n 2) (.n 1000) [(1,.v 0,.n 700)] rt E8) (cw (.v 1) (.n 1000) [(1,.a (.v 0)<| .n 12,.n 1000),(1,.v 1,.a (.v 0)<| .n 7)] rt hl x3) k
 ·
  refine eh λcy bk=>?_;obtain ⟨n,rfl,h1,h2⟩:=L.kM v q;refine bk ?_;have eg:cA bf es=aa (bf n):=by delta cA;rw[q];rfl
  have el:lX es=[af n]:=by delta lX;rw[q]
  rw[eg]at hm mb k zl hx hk⊢;refine ah el ?_;have x1:(kz K (cG es)<|dH.length+2).ms.length=dH.length+3:=by refine ah cg<|ah (by refine ah hm<|ah cg ?_;rfl:K.ms.length=dH.length+2) ?_;rfl
  have x2:(kz K (cG es)<|dH.length+2).ol.length<=K.ol.length+4:=by
   exact ah cg<|Nat.add_le_add_left zl _
  have x3:(kw (kz K (cG es)<|dH.length+2) (cG es) dH.length<|dH.length+2).ol.length<=K.ol.length+7:=by
   refine ah cg ?_;have:=wl (kz K (cG es)<|dH.length+2).r<|dH.length+2;exact gS (.a (.v 0)<| .v 2) (.a (.v 1)<| .n 7) [(1,.v 0,.a (.v 1)<| .n 4),(1,.v 2,.n 3)] rt x2 this
  have x4:(kw (kz K (cG es)<|dH.length+2) (cG es) dH.length<|dH.length+2).ms.length=dH.length+3:=ah fu<|x1
  have amP:(kw (kw (kz K (cG es)<|dH.length+2) (cG es) dH.length<|dH.length+2) (cG es) (dH.length+1)<|bf n).ol.length<=K.ol.length+10:=by
   refine ah cg ?_;have:=wl (kw (kz K (cG es)<|dH.length+2) (cG es) dH.length<|dH.length+2).r<|bf n;exact gS (.a (.v 0)<| .v 2) (.a (.v 1)<| .n 10) [(1,.v 0,.a (.v 1)<| .n 7),(1,.v 2,.n 3)] rt x3 this
  have alL:(kw (kw (kz K (cG es)<|dH.length+2) (cG es) dH.length<|dH.length+2) (cG es) (dH.length+1)<|bf n).ms.length=dH.length+3:=ah fu<|x4
  refine hc<|Yk (z:=(bf n:Int)) rfl h1 h2 L.l ?_
  generalize hy:it (bf n:Int)=y
  obtain ⟨y,rfl⟩:∃p,y=.p p:=⟨_,hy.symm⟩
  refine ⟨bH _,⟨(by decide:1<=1000000),(by decide:1<=1000000)⟩,hc ⟨by refine ah (by refine ah hk.symm ?_;rfl:mk.length=2) ?_;decide,?_⟩⟩
  refine ah (by refine ah hk.symm ?_;rfl:mk.length=2) ?_
  refine hc ?_
  show ez cl cf lT (Rx es [af n] mk [x,y] x [(80,it 0)]) (GH x5 x6 x7<|kz K (cG es)<|dH.length+2) _ _
  refine GL (j:=0) S hc (by refine ah (by refine ah hk.symm ?_;rfl:mk.length=2) ?_;rfl) (by refine ah hk.symm ?_;rfl:mk[0]?=aa (nI dH.length)) rfl (by refine ah hx.symm ?_;rfl) (ah x1<|dj (.a (.v 0)<| .n 1) (.a (.v 0)<| .n 3) [] rt) (ah x1<|dj (.a (.v 0)<| .n 3) (.n 1000) [(1,.v 0,.n 700)] rt E8) (cw (.a (.v 1)<| .n 3) (.n 1000) [(1,.a (.v 0)<| .n 12,.n 1000),(1,.v 1,.a (.v 0)<| .n 4)] rt hl x2) ?_
  show ez cl cf lT (Rx es [af n] mk [x,y] x [(80,it 1)]) (GH x5 x6 x7<|kw (kz K (cG es)<|dH.length+2) (cG es) dH.length<|dH.length+2) _ _
  refine GL (j:=1) S hc (by refine ah (by refine ah hk.symm ?_;rfl:mk.length=2) ?_;rfl) (by refine ah hk.symm ?_;rfl:mk[1]?=aa (nI<|dH.length+1)) rfl (by refine ah ((V.p.inj hy).symm) ?_;rfl) (ah x4<|dj (.a (.a (.v 0)<| .n 1)<| .n 1) (.a (.v 0)<| .n 3) [] rt) (ah x4<|dj (.a (.v 0)<| .n 3) (.n 1000) [(1,.v 0,.n 700)] rt E8) (cw (.a (.v 1)<| .n 3) (.n 1000) [(1,.a (.v 0)<| .n 12,.n 1000),(1,.v 1,.a (.v 0)<| .n 7)] rt hl x3)<|hc ?_
  exact ah hx.symm<|zU (m:=dH.length+2) (ah alL<|dj (.a (.a (.v 0)<| .n 2)<| .n 1) (.a (.v 0)<| .n 3) [] rt) (ah alL<|dj (.a (.v 0)<| .n 3) (.n 1000) [(1,.v 0,.n 700)] rt E8) (cw (.v 1) (.n 1000) [(1,.a (.v 0)<| .n 12,.n 1000),(1,.v 1,.a (.v 0)<| .n 10)] rt hl amP) (ah (RA (j:=bf n) hm)<|k:Q (.p .none)<|GH x5 x6 x7<|kb (kw (kw (kz K (cG es)<|dH.length+2) (cG es) dH.length<|dH.length+2) (cG es) (dH.length+1)<|bf n)<|dH.length+2)
end
def BW(bf:Int->Nat)(K:GK)(aE:Tx)(es:List En):GK:={K with r:=mo K.r aE es+bN (cG es) (gN<|cA bf es),ol:=K.ol++qo K.r K.ms.length aE es (cA bf es),ms:=K.ms++mN (K.ol.length+(gc K.r (eV K.ms.length<|cA bf es) aE es).length) (cG es) (mo K.r aE es) (pP K.ms.length<|cA bf es) (cA bf es)}
abbrev CH(bf:Int->Nat)(K:GK)(aE:Tx)(es:List En):GK:={K with r:=mo K.r aE es,ol:=K.ol++gc K.r (eV K.ms.length<|cA bf es) aE es,ms:=K.ms++(eV K.ms.length<|cA bf es).map λ_=>af (-1)}
section
variable{m:Nat}
theorem E9{rs:List Nat}{rest:P}(hm:ms.length<=100)(hl:K.ol.length<=1000)(e:K.add 0 [.io w rs ms rest]=K')(k:Q (.p .none)<|GH x5 x6 x7 K'):ba TT NN (d+2) hd (.p<|aI 319) [.ob 10,.p<|ab w,.p<|aL<|rs.map nI,.p<|aL<|ms.map nI,.p rest] (GH x5 x6 x7 K) Q E:=ux hm hl<|e▸k
theorem Ym(hl:es.length<=20)(k:Q (.p<|aL<|na es) σ):ba TT NN (d+1) ak (.p<| .ty 0) [.p<|m5 es] σ Q E:=by
 have z:∀l,l=dE es->(l.length<=bZ/\Q (.p<|aL<|mB<|l.map (·.1)) σ):=λl e=>by
  refine ah e<|⟨by delta dE;rw[cq];exact bo hl<|dc rt,?_⟩
  have:mB ((dE es).map (·.1))=na es:=by delta mB;rw[dE,nL,nL];rfl
  exact this▸k
 exact z _ d7
theorem ajH{b c:P}(h:CG K bf es)(h1:K'.lb=K.lb)(h2:K'.ss=K.ss):CG K' bf es:=⟨λv q=>ah h1<|ah h2<|h.kM v q,by exact h2▸h.l⟩
theorem Xm{mV:List P}(S:jO aE es)(L:CG K bf es)(hm:K.ms.length<=700)(hl:K.ol.length+(gc K.r (eV K.ms.length<|cA bf es) aE es).length+12<=1000)(k:Q (.p .none)<|GH x5 x6 x7<|BW bf K aE es):ba TT NN (d+4) ak (.p<|aI 350) [.ob 10,.p<|m5 es,.p<|aL<|lX es,.p<|aL<|(eV K.ms.length<|cA bf es).map nI] (GH x5 x6 x7<|CH bf K aE es) Q E:=by
 refine aa4 S (ajH (b:=.none) (c:=.none) L rfl rfl) rfl hm (by exact cg▸hl) ?_;have e:({CH bf K aE es with r:=(CH bf K aE es).r+bN (cG es) (gN<|cA bf es),ol:=(CH bf K aE es).ol++jZ (cG es) (CH bf K aE es).r (pP K.ms.length<|cA bf es) (cA bf es),ms:=K.ms++mN (CH bf K aE es).ol.length (cG es) (CH bf K aE es).r (pP K.ms.length<|cA bf es) (cA bf es)}:GK)=BW bf K aE es:=by
  rw[de];refine ah cg ?_;rfl
 exact e▸k
theorem aa5(h:cL (ab aE) (ab bm)=ak):∀{l:List En},(∀e∈l,qR aE e)->∀e∈l,∀i,e≠.l7 i:=λH e he i q=>by
 subst q;exact nomatch h.symm.trans (H _ he).2
theorem Yn(S:jO aE es)(hw:cL (ab aE) (ab bm)=ak)(L:CG K bf es)(hm:K.ms.length<=700)(hl:K.ol.length+100<=1000)(k:Q (.p .none)<|GH ae ae ae<|BW bf K aE es):ba TT NN (d+8) ak (.p<|aI 357) [.ob 10,at',.p<|aw [ab aE,m5 es]] (GH ae ae ae K) Q E:=by
 refine aZ rfl rfl λhc=>hc (PT S (dj aB rS [(1,aB,eN 700)] rt hm)<|hc<|Ym S.len<|hc<|BV S (λe h=>⟨h,aa5 hw S.ok e h⟩) rfl S.len (by exact dj (.v 0) (.n 900) [(1,.a (.v 0)<| .n 100,.n 1000)] rt hl)<|hc<|E9 (K':=CH bf K aE es) (dj (.v 0) (.n 100) [(1,.v 0,.n 2)] rt (by cases cA bf es<;>exact jA rt:(eV K.ms.length<|cA bf es).length<=2)) (by exact ah cg<|qE (.a (.v 0)<| .v 1) (.n 1000) [(1,.a (.v 0)<| .n 100,.n 1000),(1,.v 1,.m 2<| .v 2),(2,.v 2,.v 3),(2,.v 3,.n 20)] rt hl (jM (bG es) K.r) (iV (l:=es)) S.len) ?_<|hc<|Xm (mV:=lX es) S L hm (cw (.a (.a (.v 0)<| .v 1)<| .n 12) (.n 1000) [(1,.a (.v 0)<| .n 100,.n 1000),(1,.v 1,.n 41)] rt hl (by delta gc;rw[kf,hw,cg];exact gS (.a (.v 0)<| .n 1) (.n 41) [(1,.v 0,.m 2<| .v 1),(2,.v 1,.v 2),(2,.v 2,.n 20)] rt (jM (bG es) K.r) (iV (l:=es)) S.len:(gc K.r (eV K.ms.length<|cA bf es) aE es).length<=41)) k);show GK.mk _ (K.r+iT (bG es)+0) ((K.ol++eF K.r (bG es))++[_]) _ _ _=GK.mk _ (mo K.r aE es) (K.ol++(eF K.r (bG es)++kf K.r (eV K.ms.length<|cA bf es) aE es)) _ _ _;rw[de,kf,mo];refine ah hw ?_;rfl
end
noncomputable def u4:En->Bool| .l7 _=>ak|_=>ag
section
variable{m:Nat}
abbrev ahg:List P:=[ab cM,ab dV,ab bU,ab cQ,ab pL]
theorem zV(h:qR aE e)(hw:cL (ab aE) (ab bm)=ag):cO (ab<|pW e) ahg=u4 e:=match e,h with
 | .yq,_=>rfl
 | .yr _,_=>rfl
 | .d4 t a,h=>by
  have q:(cL (ab cM) (ab t)||(cL (ab dV) (ab t)||false))=ag:=h.2 hw;show (cL (ab cM) (ab t)||(cL (ab dV) (ab t)||_))=ag;refine bc (cL (ab cM)<|ab t) (λq1=>?_) λq1=>?_
  ·refine ah q1 ?_;rfl
  ·rw[q1]at q⊢
   refine bc (cL (ab dV)<|ab t) (λq2=>?_) λq2=>?_
   ·refine ah q2 ?_;rfl
   ·rw[q2]at q;exact dC q
 | .l7 i,h=>Il (p:=λi=>cO (ab<|gT i) ahg=ak) rf rf rf rf rf rf rf rf i h.1
theorem RB{m:Env}(hw:cL (ab aE) (ab bm)=ag):∀(l:List En)(acc:List P),(∀e∈l,qR aE e)->acc.length+l.length<=1000->Q (.p<|aL<|acc++na (l.filter u4)) σ->iQ (λx=>.bind (ni ⟨TT,NN,cl,hd,lv⟩ (aN m 36<| .p x)<| .cons (.BO .jh (bC 36)<| .fy 85) .nil) λb=>lw b<| .bind (eP ⟨TT,NN,cl,hd,lv⟩ (aN m 36<| .p x)<|bC 36) λv=>.aQ v.pl .ok) acc (na l) σ Q E:=lr
 (λacc _ _ k=>by rw[Eb,show acc++na []=acc from fc _]at k;exact k)
 (λe l b5 acc H hl k=>by
  refine ax bQ<|yt rt rt (λq=>?_) λq=>?_
  ·rw[D5 (by rw[<-(zV (H e<|bt _) hw)];exact q),By]at k
   exact ax bQ ⟨(bo (bo (gf _ _) hl)<|dc rt),(λacc=>b5 acc λe q=>H e<|aS _ q) _ ((λv=>by refine ah cg ?_;exact cw mX aA [(1,eA aB ie,aA)] rt hl:∀v:P,(acc++[v]).length+l.length<=1000) _) k⟩
  ·rw[K7<|by rw[<-(zV (H e<|bt _) hw)];exact λz=>tf z q]at k
   exact (λacc=>b5 acc λe q=>H e<|aS _ q) _ (bo (vd (kZ _) _) hl) k)
abbrev ahh(at':V)(es:List En)(s:V)(mV mk:P)(a b c:P)(rs:Env):Env:=(24,.ob 10)::(42,at')::(51,s)::(69,.p<|m5 es)::(53,.p mV)::(14,.p mk)::(13,.p a)::(67,.p b)::(68,.p c)::rs
theorem afu(q:u4 e=ak):∃i,e=.l7 i:=by rcases e with _|_|_|i<;>first|exact ⟨_,rfl⟩|exact dC q.symm
theorem RC{Q:Fl->Env->H->Prop}{E:Env->H->Prop}{s:V}{mV mk pa pb pc:P}(hc:jo cl (d+3) ak)(S:jO aE es)(hw:cL (ab aE) (ab bm)=ag):∀(l:List En)(K:GK)(rs:Env),(∀e∈l,e∈es)->K.ol.length+2*l.length<=1000->(∀rs,Q bE (ahh at' es s mV mk pa pb pc rs)<|GH x5 x6 x7<|K.add (fO l).length<|gX K.r<|fO l)->jf (lW ⟨TT,NN,cl,ak,3⟩ cf [36] rp) (na l) (ahh at' es s mV mk pa pb pc rs) (GH x5 x6 x7 K) Q E:=lr
 (@λK rs _ _ k=>by
  have k:=k rs;rw[show K.add (fO []).length (gX K.r<|fO [])=K from by show GK.mk _ _ (_++[]) _ _ _=_;rw[fc];rfl]at k;exact k)
 (λe l b5=>@λK rs hl b1 k=>by
  have co:av ((((dE es).map (·.1)).zip<|(dE es).map (·.2))) (.s<|pW e)=aa (ID e):=d7▸S.co e (hl e<|bt _);have ih:=λK k=>b5 K (aN rs 36<| .p<|ab<|pW e) (λe h=>hl e<|aS _ h) k;refine ax bQ<|C6 rt rt (λq=>?_) λq=>?_
  ·rw[(e.rec (λ_=>rfl) (λ_ _=>rfl) (λ_ _ _=>rfl) λ_=>dC:u4 e=ag->fO (e::l)=fO l)<|(zV (S.ok e<|hl e<|bt _) hw)▸q]at k
   exact ih K (cw (eA aB<|eM 2 bb) aA [(1,eA aB vf,aA)] rt b1) k
  ·obtain ⟨i,rfl⟩:=afu<|(zV (S.ok e<|hl e<|bt _) hw)▸q
   refine ax bQ (ax co<|hc<|wr (cw aB aA [(1,eA aB vf,aA)] rt<|by assumption) ?_);refine ax bQ (hc<|ux (rs:=[K.r]) (ms:=[]) (bH _) (by rw[cg];exact cw eI aA [(1,eA aB vf,aA)] rt<|by assumption) ?_);refine ih ((K.add 1 [.rD K.r<|qQ i]).add 0 [.io vR [K.r] []<|ab<|gT i]) (by rw[cg,cg];exact cw (eA mh<|eM 2 bb) aA [(1,eA aB vf,aA)] rt<|by assumption) λrs=>?_;rw[GK.GJ,GK.GJ];rw[show 1+(0+(fO l).length)=(fO<| .l7 i::l).length from by show 1+(0+(fO l).length)=(fO l).length+1;exact kn (dj (eA bz s9) eI [] rt)<|dj eI (eA bz s9) [] rt];exact (k rs))
theorem RE(h:u4 e=ag):∀i,e≠.l7 i:=λi q=>by subst q;exact nomatch h
theorem RF:∀{l:List En},bG (l.filter u4)=bG l:=@lr _ _
 (rfl)
 (λe l b5=>by
  cases e with
  |yq=>exact b5
  |yr n=>exact b5
  |l7 i=>exact b5
  |d4 t a=>exact congrArg (Vv (t,a)) b5)
theorem aa6(S:jO aE es)(hw:cL (ab aE) (ab bm)=ag)(L:CG K bf es)(hm:K.ms.length<=700)(hl:K.ol.length+150<=1000)(k:Q (.p .none)<|GH ae ae ae<|BW bf K aE es):ba TT NN (d+8) ak (.p<|aI 362) [.ob 10,at',.p<|aw [ab aE,m5 es]] (GH ae ae ae K) Q E:=by
 have ll:=S.len;have ff:(es.filter u4).filter qm=es.filter qm:=by
  refine ah List.filter_filter ?_;congr 1;funext e;cases e<;>rfl
 have l1:(K.ol++eF K.r (bG es)).length<=K.ol.length+40:=ah cg<|qE (.a (.v 3)<| .v 0) (.a (.v 3)<| .n 40) [(1,.v 0,.m 2<| .v 1),(2,.v 1,.v 2),(2,.v 2,.n 20)] rt (jM (bG es) K.r) (iV (l:=es)) ll
 refine aZ rfl rfl λhc=>hc (PT (bf:=bf) S (dj aB rS [(1,aB,eN 700)] rt hm)<|ax Bz<|RB hw es [] S.ok (by exact dj (.a (.n 0)<| .v 0) (.n 1000) [(1,.v 0,.n 20)] rt ll)<|hc<|BV S (λe h=>⟨(AF.mp h).1,RE (AF.mp h).2⟩) ff (cw (.v 1) (.n 20) [(1,.v 0,.n 20),(1,.v 1,.v 0)] rt ll<|La _ _) (by exact dj (.v 0) (.n 900) [(1,.a (.v 0)<| .n 150,.n 1000)] rt hl) ?_)
 refine ah (RF (l:=es))<|hc (ux (dj (.v 0) (.n 100) [(1,.v 0,.n 2)] rt (by cases cA bf es<;>exact jA rt:(eV K.ms.length<|cA bf es).length<=2)) (by exact cw (.v 1) (.n 1000) [(1,.a (.v 0)<| .n 150,.n 1000),(1,.v 1,.a (.v 0)<| .n 40)] rt hl l1) ?_)
 have l2:∀o:Op,((K.ol++eF K.r (bG es))++[o]).length<=K.ol.length+41:=by intro o;refine ah cg ?_;exact cw (.a (.v 0)<| .n 1) (.a (.v 1)<| .n 41) [(1,.v 0,.a (.v 1)<| .n 40)] rt l1
 refine o9 Bz<|RC hc S hw es _ [] (λe h=>h) (bo (zp (l2 _) _)<|cw (.a (.a (.v 0)<| .n 41)<| .m 2<| .v 1) (.n 1000) [(1,.a (.v 0)<| .n 150,.n 1000),(2,.v 1,.n 20)] rt hl ll) λrs=>?_
 refine hc (E9 (K':=CH bf K aE es) (rs:=[]) (ms:=[]) (bH _) ?_ ?_<|hc<|Xm (mV:=lX es) S L hm (cw (.a (.a (.v 0)<| .v 1)<| .n 12) (.n 1000) [(1,.a (.v 0)<| .n 150,.n 1000),(1,.v 1,.n 100)] rt hl (by refine ah (by delta gc;delta kf;rw[hw];rfl:gc K.r (eV K.ms.length<|cA bf es) aE es=eF K.r (bG es)++(.io MS (nO K.r<|bG es) (eV K.ms.length<|cA bf es) (aw [aL<|(bG es).map n3,ju<|Hv es,aL<|lX es])::(gX (K.r+iT (bG es)) (fO es)++[.io nZ [] [] .none]))) ?_;refine ah cg<|ah rO<|ah cg ?_;exact Pn (.a (.v 0)<| .a (.a (.v 4)<| .n 1)<| .n 1) (.n 100) [(1,.v 0,.m 2<| .v 1),(2,.v 1,.v 2),(4,.v 2,.n 20),(2,.v 3,.v 2),(1,.v 4,.m 2<| .v 3)] rt (jM (bG es) K.r) (iV (l:=es)) ll (ti (l:=es)) (bx<|om (fO es)<|K.r+iT (bG es)):(gc K.r (eV K.ms.length<|cA bf es) aE es).length<=100)) k)
 ·show (((K.ol++eF K.r (bG es))++[_])++gX (K.r+iT (bG es)) (fO es)).length<=_
  exact ah cg<|Nat.le_trans (zp (l2 _) _)<|qE (.a (.a (.v 0)<| .n 41)<| .v 3) (.n 1000) [(1,.a (.v 0)<| .n 150,.n 1000),(2,.v 1,.n 20),(2,.v 2,.v 1),(1,.v 3,.m 2<| .v 2)] rt hl ll (ti (l:=es))<|bx<|om (fO es)<|K.r+iT (bG es)
 ·show GK.mk _ (K.r+iT (bG es)+(fO es).length) ((((K.ol++eF K.r (bG es))++[_])++gX (K.r+iT (bG es)) (fO es))++[_]) _ _ _=GK.mk _ (mo K.r aE es) (K.ol++gc K.r (eV K.ms.length<|cA bf es) aE es) _ _ _
  refine ah (by delta gc;delta kf;rw[hw];rfl:gc K.r (eV K.ms.length<|cA bf es) aE es=eF K.r (bG es)++(.io MS (nO K.r<|bG es) (eV K.ms.length<|cA bf es) (aw [aL<|(bG es).map n3,ju<|Hv es,aL<|lX es])::(gX (K.r+iT (bG es)) (fO es)++[.io nZ [] [] .none]))) ?_;delta mo;rw[hw,de,de,de];rfl
end
def ahi:List bV:=[.s i8,.s iB,.s bm,.s fW,.s ka,.s ke,.s dw]
noncomputable def ahj:List P:=[aI 357,aI 357,aI 362,aI 357,aI 357,aI 357,aI 293]
structure sN(w:Tx):Prop where
 h:av (ahi.zip ahj) (.s w)=aa (aI<|cond (cL (ab w)<|ab bm) 362 357)
 e:cO (ab w) [ab l9,ab tJ]=ak
 f1:cL (ab w) (ab [105,102])=ak
 f2:cO (ab w) [ab l9,ab tJ,ab A9]=ak
 f3:cL (ab w) (ab [100,111])=ak
section
variable{m:Nat}
theorem Yo(hw:sN aE)(S:jO aE es)(L:CG K bf es)(hm:K.ms.length<=700)(hl:K.ol.length+150<=1000)(k:Q (.p .none)<|GH ae ae ae<|BW bf K aE es):ba TT NN (d+9) ak (.p<|aI 279) [.ob 10,at',.p<|aw [ab aE,m5 es]] (GH ae ae ae K) Q E:=by
 refine aZ rfl rfl λhc=>cJ im (K:=gH) rfl rt rfl<|vm (λ_=>ik<|cJ im (K:=gH) rfl rt rfl<|ax hw.h ?_)<|ir hw.h;exact bc (cL (ab aE)<|ab bm) (λq=>ah q<|hc<|aa6 S q L hm hl k) λq=>ah q<|hc<|Yn S q L hm (dj (eA aB iO) aA [(1,eA aB pB,aA)] rt hl) k
theorem Yp(k:Q (.p .none)<|GH x5 x6 x7 K):ba TT NN (d+2) ak (.p<|aI 279) [.ob 10,at',.p<|aw [ab dw]] (GH x5 x6 x7 K) Q E:=
 aZ rfl rfl λhc=>cJ im (K:=gH) rfl rt rfl<|vm (ks:=ahi) (vs:=ahj) (λ_=>ik<|cJ im (K:=gH) rfl rt rfl<|hc<|aZ rfl rfl λ_=>k) λq=>nomatch q
def Fb(i n:Nat):List P:=(jQ i n).map nI
theorem JP{m:Env}(hc:jo cl (d+2) ak)(hm:∀v,av (aN m 55 v) 24=aa (.ob 10)):∀l acc(K:GK),acc.length+l.length<=1000->K.ms.length+l.length<=800->Q (.p<|aL<|acc++Fb K.ms.length l.length) (GH x5 x6 x7 {K with ms:=K.ms++iu l.length (af<|-1)})->iQ (λx=>.bind (ni ⟨TT,NN,cl,hd,lv⟩ (aN m 55<| .p x) .nil) λb=>lw b<| .bind (eP ⟨TT,NN,cl,hd,lv⟩ (aN m 55<| .p x)<| .call (.fy 54)<| .cons (bC 24) .nil) λv=>.aQ v.pl .ok) acc l (GH x5 x6 x7 K) Q E:=lr
 (λacc K _ _ k=>by
  rw[show acc++Fb K.ms.length ([]:List P).length=acc from fc _,show ({K with ms:=K.ms++iu ([]:List P).length (af<|-1)}:GK)=K from by show GK.mk _ _ _ (_++[]) _ _=_;rw[fc]]at k;exact k)
 (λx l b5 acc K h1 h2 k=>by
  have ih:=b5 (acc++[nI K.ms.length]) {K with ms:=K.ms++[af<|-1]} (ah cg<|cw mX aA [(1,eA aB ie,aA)] rt h1) (by exact ah cg<|cw mX rS [(1,eA aB ie,rS)] rt h2) (by
   rw[de,de,cg];exact k)
  exact ax (hm _)<|hc<|v8 (cw bb nW [(1,eA bb aB,rS)] rt<|by assumption) ⟨(bo (bo (gf _ _) h1)<|dc rt),ih⟩)
def oq(i:Nat)(K:GK):GK:={K with ms:=K.ms.set i (nI K.ol.length)}
def gJ(bf:Int->Nat):Nat->List pV->GK->GK
 |_,[],K=>K
 |i,a::l,K=>gJ bf (i+1) l<|BW bf (oq i K) a.w a.es
theorem Og{g:Option Nat}:(jZ b r td g).length<=10:=by induction b using fe<;>induction g using fA<;>exact jA rt
theorem Oh(S:jO aE es):(gc r ms aE es).length<=90:=by
 delta gc;delta kf;cases cL (ab aE) (ab bm)with
 |true=>refine ah cg<|ah rO<|ah cg ?_;exact Pn (.a (.v 0)<| .a (.a (.v 4)<| .n 1)<| .n 1) (.n 90) [(1,.v 0,.m 2<| .v 1),(2,.v 1,.v 2),(4,.v 2,.n 20),(2,.v 3,.v 2),(1,.v 4,.m 2<| .v 3)] rt (jM (bG es) r) (iV (l:=es)) S.len (ti (l:=es))<|bx<|om (fO es)<|r+iT (bG es)
 |false=>refine ah cg ?_;exact gS (.a (.v 0)<| .n 1) (.n 90) [(1,.v 0,.m 2<| .v 1),(2,.v 1,.v 2),(2,.v 2,.n 20)] rt (jM (bG es) r) (iV (l:=es)) S.len
theorem RG(S:jO aE es){m:Nat}{g:Option Nat}:(qo r m aE es g).length<=100:=by
 delta qo;rw[cg];exact DY (Oh S) Og
theorem Hw{g:Option Nat}:(mN q b r td g).length<=3:=by induction g using fA<;>exact jA rt
end
def Fc(z:Int)(ss:List P):List (Nat×V):=[(8,.p ahd),(10,.p ahe),(11,.p ac1),(12,.ob 11),(13,it z),(14,.ob 12),(15,kR),(16,kR),(17,.p .none),(18,kR),(19,.p<|aL ss),(20,kR)]
@[irreducible] def y4(K:GK):H:=[K.st,ae,ae,ae,ae,ae,ae,ae,ae,ae,bJ 165<|Fc K.r K.ss,aM<|uu K.ol,aM K.ms,zx,du K.lb,ae,ae,ae,ae,ae,ae,ae,ae,ae,ae,ae,ae,ae,ae,ae,ae,ae,ae,ae,ae,ae]
section
variable{m:Nat}
theorem aii:aW (y4 K) 10=aa (bJ 165<|Fc K.r K.ss):=by with_unfolding_all rfl
theorem ac3:aW (y4 K) 13=aa zx:=by with_unfolding_all rfl
theorem ac4:aW (y4 K) 14=aa (du K.lb):=by with_unfolding_all rfl
theorem afv{lb:List (bV×P)}:aG (y4 K) 14 (du lb)=y4 {K with lb:=lb}:=by with_unfolding_all rfl
theorem afw:aG (y4 K) 10 (bJ 165<|aN (Fc K.r K.ss) 17<| .ob 13)=GH ae ae ae K:=by with_unfolding_all rfl
noncomputable abbrev Fe (fl:List P) (rs:Env):Env:=(24,.ob 10)::(11,.p<|aL fl)::(17,.ob 13)::rs
theorem Ff:K.ms.length<=(BW bf K aE es).ms.length/\(BW bf K aE es).ms.length<=K.ms.length+3:=ah cg<|⟨gf _ _,vd Hw _⟩
theorem Xn(S:jO aE es):(BW bf K aE es).ol.length<=K.ol.length+100:=ah cg<|Nat.add_le_add_left (RG S) _
theorem aa7{Q:Fl->Env->H->Prop}{E:Env->H->Prop}{fl:List P}{a c:P}{l:List P}(hi:pU fl.length z=aa j)(hj:fl[j]?=aa (aw [a,aw<|ab w::l,c]))(hw:cO (ab w) [ab l9,ab tJ]=ak)(k:Q bE (Fe fl<|aN rs 42<|it z) σ):iR ⟨TT,NN,cl,ak,3⟩ cf mR (Fe fl<|aN rs 42<|it z) σ Q E:=
 ax bQ (gz hi hj<|yt (y:=ab w) rt rt (λq=>tf q hw) λ_=>k)
theorem Yq{Q:Fl->Env->H->Prop}{E:Env->H->Prop}{fl:List P}(hl:fl.length<=1000)(hw:∀j,j<fl.length->∃a w l c,fl[j]?=aa (aw [a,aw<|ab w::l,c])/\cO (ab w) [ab l9,ab tJ]=ak):∀(n i:Nat)(rs:Env),i+n<=fl.length->(∀rs,Q bE (Fe fl rs) σ)->jf (lW ⟨TT,NN,cl,ak,3⟩ cf [42] mR) ((jQ i n).map λ(k:Nat)=>P.int<|0+(k:Int)) (Fe fl rs) σ Q E:=@nr _
 (λi rs _ k=>k rs)
 (λn b5 i rs h k=>eh λcy bk=>agF (hw i<|nn [_,_,_] eI cv [(1,eA aB ie,cv)] rt h) λa w l c h1 h2=>bk<|aa7 (z:=0+(i:Int)) (gq (ko (zz [_] s9 aB [] rt)<|zz [_] aB s9 [] rt) (jL h1)<|bo hl<|dc rt) h1 h2<|(λrs=>b5 (i+1) rs (nn [_,_,_] mX cv [(1,eA aB ie,cv)] rt h) k) _)
theorem PU{Q:Fl->Env->H->Prop}{E:Env->H->Prop}{fl:List P}{a x c:P}{K2:GK}(hc:jo cl (d+9) ak)(hi:pU fl.length z=aa i)(hj:fl[i]?=aa (aw [a,x,c]))(si:pU K.ss.length z=aa i)(sj:K.ss[i]?=aa (nI i))(hm:i<K.ms.length)(E8:K.ms.length<=1000)(hl:K.ol.length<=1000)(ajI:∀Q E,Q (.p .none) (GH ae ae ae K2)->ba TT NN (d+9) ak (.p<|aI 279) [.ob 10,it z,.p x] (GH ae ae ae<|oq i K) Q E)(k:Q bE (Fe fl<|aN rs 42<|it z)<|GH ae ae ae K2):iR ⟨TT,NN,cl,ak,3⟩ cf mS (Fe fl<|aN rs 42<|it z) (GH ae ae ae K) Q E:=by
 refine cJ im (K:=gH) rfl rt rfl<|ax bQ<|gz si sj<|hc<|zU hm E8 hl ?_;refine ax bQ<|ax bQ<|gz hi hj<|hc<|ajI _ _ ?_;exact cJ adZ (K:=u1) rfl rt rfl<|ax bQ k
theorem Yr{Q:Fl->Env->H->Prop}{E:Env->H->Prop}{fl:List P}{t:Nat}(hc:jo cl (d+9) ak)(hl:fl.length<=9)(hf:fl.length=t+1)(he:fl[t]?=aa (aw [af 900,aw [ab dw],af 0])):∀(l:List pV)(i:Nat)(K:GK)(rs:Env),i+l.length=t->(∀j a,l[j]?=aa a->(∃n,fl[i+j]?=aa (aw [af n,Ng a,af 0]))/\sN a.w/\jO a.w a.es/\CG K bf a.es)->K.ss=Fb 0 (t+1)->t<K.ms.length->K.ms.length<=20+3*i->K.ol.length<=100*i->(∀rs,Q bE (Fe fl rs)<|GH ae ae ae<|oq t<|gJ bf i l K)->jf (lW ⟨TT,NN,cl,ak,3⟩ cf [42] mS) ((jQ i<|l.length+1).map λ(k:Nat)=>P.int<|0+(k:Int)) (Fe fl rs) (GH ae ae ae K) Q E:=@lr _ _
 (λi K rs hi _ hs hm E8 afx k=>by
  subst hi;have sj:K.ss[i]?=aa (nI i):=by rw[hs,Fb,mz,D7<|by exact nn [_] (.a (.v 0)<| .n 1) (.a (.v 0)<| .n 1) [] rt];show aa (nI<|0+1*i)=_;rw[AA,lN]
  exact PU (z:=0+(i:Int)) hc (gq (ko (zz [_] (.a (.n 0)<| .v 0) (.v 0) [] rt)<|zz [_] (.v 0) (.a (.n 0)<| .v 0) [] rt) (jL he)<|nn [_] (.v 0) (.n 100000) [(1,.v 0,.n 9)] rt hl) he (gq (ko (zz [_] (.a (.n 0)<| .v 0) (.v 0) [] rt)<|zz [_] (.v 0) (.a (.n 0)<| .v 0) [] rt) (jL sj)<|by rw[hs,Fb,cq,w5];exact bo (bx hf.symm)<|bo hl<|dc rt) sj (nn [_,_] (.a (.v 0)<| .n 1) (.v 1) [(1,.a (.v 0)<| .n 1,.v 1)] rt hm) (nn [_,_,_] (.v 1) (.n 1000) [(3,.v 0,.n 9),(1,.v 1,.a (.n 20)<| .m 3<| .v 2),(3,.a (.v 2)<| .n 1,.v 0)] rt hl E8<|bx hf.symm) (nn [_,_,_] (.v 1) (.n 1000) [(100,.v 0,.n 9),(1,.v 1,.m 100<| .v 2),(100,.a (.v 2)<| .n 1,.v 0)] rt hl afx<|bx hf.symm) (λQ E k=>Yp k)<|k _)
 (λa l b5 i K rs hi H hs hm E8 afx k=>by
  refine eh λcy bk=>?_;obtain ⟨⟨n,h0⟩,h1,h2,h3⟩:=H 0 a rfl;refine bk ?_;have sj:K.ss[i]?=aa (nI i):=by rw[hs,Fb,mz,D7<|by exact nn [_,_,_] (.a (.v 0)<| .n 1) (.a (.v 1)<| .n 1) [(1,.a (.v 0)<| .a (.v 2)<| .n 1,.v 1)] rt<|bx hi];show aa (nI<|0+1*i)=_;rw[AA,lN]
  have ih:=λrs=>b5 (i+1) (BW bf (oq i K) a.w a.es) rs (kn (nn [_,_,_] (.a (.a (.v 0)<| .n 1)<| .v 2) (.v 1) [(1,.a (.v 0)<| .a (.v 2)<| .n 1,.v 1)] rt<|bx hi)<|nn [_,_,_] (.v 1) (.a (.a (.v 0)<| .n 1)<| .v 2) [(1,.v 1,.a (.v 0)<| .a (.v 2)<| .n 1)] rt<|bx hi.symm) (λj b q=>by
   refine eh λcy bk=>?_;obtain ⟨⟨n,g0⟩,g1,g2,g3⟩:=H (j+1) b q;exact bk<|(acH ⟨n,by rw[qe,wY 1 j];exact g0⟩ g1 g2<|ajH (b:=.none) (c:=.none) g3 rfl rfl)) hs (by have:=(Ff (bf:=bf) (K:=oq i K) (aE:=a.w) (es:=a.es)).1;exact nn [_,_,_,_] (.a (.v 0)<| .n 1) (.v 3) [(1,.a (.v 0)<| .n 1,.v 1),(1,.v 1,.v 2),(1,.v 2,.v 3)] rt hm (bx (fu ..).symm) this) (by have:=(Ff (bf:=bf) (K:=oq i K) (aE:=a.w) (es:=a.es)).2;exact nn [_,_,_,_] (.v 3) (.a (.n 20)<| .m 3<| .a (.v 1)<| .n 1) [(1,.v 0,.a (.n 20)<| .m 3<| .v 1),(1,.v 2,.v 0),(1,.v 3,.a (.v 2)<| .n 3)] rt E8 (bx<|fu ..) this) (by have:=Xn (bf:=bf) (K:=oq i K) h2;have:(oq i K).ol.length=K.ol.length:=rfl;exact nn [_,_,_] (.v 2) (.m 100<| .a (.v 1)<| .n 1) [(1,.v 0,.m 100<| .v 1),(1,.v 2,.a (.v 0)<| .n 100)] rt afx<|by assumption) k
  refine PU (z:=0+(i:Int)) hc (gq (ko (zz [_] (.a (.n 0)<| .v 0) (.a (.v 0)<| .n 0) [] rt)<|zz [_] (.a (.v 0)<| .n 0) (.a (.n 0)<| .v 0) [] rt) (jL h0)<|nn [_] (.v 0) (.n 100000) [(1,.v 0,.n 9)] rt hl) h0 (gq (ko (zz [_] (.a (.n 0)<| .v 0) (.a (.v 0)<| .n 0) [] rt)<|zz [_] (.a (.v 0)<| .n 0) (.a (.n 0)<| .v 0) [] rt) (jL sj)<|by rw[hs,Fb,cq,w5];exact bo (bx hf.symm)<|bo hl<|dc rt) sj (nn [_,_,_,_] (.a (.a (.v 0)<| .n 0)<| .n 1) (.v 2) [(1,.a (.v 1)<| .n 1,.v 2),(1,.a (.v 0)<| .a (.v 3)<| .n 1,.v 1)] rt hm<|bx hi) (nn [_,_,_,_,_] (.v 3) (.n 1000) [(3,.v 0,.n 9),(3,.a (.v 1)<| .n 1,.v 0),(1,.v 3,.a (.n 20)<| .m 3<| .v 2),(3,.a (.v 2)<| .a (.v 4)<| .n 1,.v 1)] rt hl (bx hf.symm) E8<|bx hi) (nn [_,_,_,_,_] (.v 3) (.n 1000) [(100,.v 0,.n 9),(100,.a (.v 1)<| .n 1,.v 0),(1,.v 3,.m 100<| .v 2),(100,.a (.v 2)<| .a (.v 4)<| .n 1,.v 1)] rt hl (bx hf.symm) afx<|bx hi) (λQ E k=>Yo (K:=oq i K) h1 h2 (ajH (b:=.none) (c:=.none) h3 rfl rfl) (by exact ah (fu ..)<|nn [_,_,_,_,_] (.v 3) (.n 700) [(3,.v 0,.n 9),(3,.a (.v 1)<| .n 1,.v 0),(1,.v 3,.a (.n 20)<| .m 3<| .v 2),(3,.a (.v 2)<| .a (.v 4)<| .n 1,.v 1)] rt hl (bx hf.symm) E8<|bx hi) (by show K.ol.length+150<=1000;exact nn [_,_,_,_,_] (.a (.v 3)<| .n 150) (.n 1000) [(100,.v 0,.n 9),(100,.a (.v 1)<| .n 1,.v 0),(1,.v 3,.m 100<| .v 2),(100,.a (.v 2)<| .a (.v 4)<| .n 1,.v 1)] rt hl (bx hf.symm) afx<|bx hi) k)<|ih _)
end
section
set_option tactic.hygienic true
def lE(t:Nat)(K:GK):GK:={K with ss:=Fb 0<|t+1,ms:=iu (t+1) (af<|-1)}
def vp(bf:Int->Nat)(rows:List pV)(K:GK):GK:={oq rows.length (gJ bf 0 rows<|lE rows.length K)with ol:=(gJ bf 0 rows<|lE rows.length K).ol++[.ret]}
structure TU(rows:List pV)(bf:Int->Nat)(lb:List<|bV×P):Prop where
 w:∀(i:Nat)(a:pV),rows[i]?=aa a->sN a.w
 bf:∀j,j<=rows.length->bf (fS rows.length j)=j
 lb:∀j,j<=rows.length->av lb (.i<|fS rows.length j)=aa (nI j)
section
variable{m:Nat}
theorem IK:∀l(i:Nat)(K:GK),(∀a∈l,jO a.w a.es)->(gJ bf i l K).ol.length<=K.ol.length+100*l.length:=lr
 (@λi K _=>gj _)
 (λa l ih=>@λi K h=>by
  have:=ih (i+1) (BW bf (oq i K) a.w a.es) λb q=>h b<|aS _ q;have:(oq i K).ol.length=K.ol.length:=rfl;exact qE aB (eA gO<|eM 100 Dj) [(1,aB,eA bb<|eM 100 cv),(1,bb,eA gO iO)] rt (by assumption)<|Xn (K:=oq i K)<|h a<|bt _)
theorem aa8(h:i<n):(Fb 0 n)[i]?=aa (nI i):=by
 delta Fb;refine ah (mz) ?_;refine ah (D7 h) ?_;show aa (nI<|0+1*i)=_;rw[AA,lN]
theorem aa9:(Fb 0 n).length=n:=by delta Fb;rw[cq,w5]
theorem RH(R:i0 rows)(C:TU rows bf K.lb)(hs:K.ss=Fb 0 (rows.length+1)){a:pV}(h:rows[i]?=aa a):CG K bf a.es where
 kM:=λv q=>vC ((R.st i a h).2.2 v q) λj h1 h2 h3=>(tc _ h3 (ah (C.bf j h2)<|C.lb j h2)<|ah (C.bf j h2)<|ah hs<|aa8<|cw eI ie [(1,aB,bb)] rt h2)
 l:=by refine ah hs<|ah aa9 ?_;have:=R.len;exact dj eI aA [(1,aB,kC)] rt this
theorem afy{Q:Unit->H->Prop}(k:Q ()<|GH ae ae ae K):setAttr TT (.ob 10) 17 (.ob 13) (y4 K) Q E:=Rd aii (K:=gH) rfl rt rt<|afw▸k
theorem afz{Q:Unit->H->Prop}{ss:List P}(k:Q ()<|GH x5 x6 x7 {K with ss:=ss}):setAttr TT (.ob 10) 19 (.p<|aL ss) (GH x5 x6 x7 K) Q E:=Rd im (K:=gH) rfl rt rt<|ah (show O.iF 165 (aN (C9 K.r K.ss) 19<| .p<|aL ss)=_ from rfl)<|ah aih<|k
theorem RI(R:i0 rows)(C:TU rows bf K.lb)(hm:K.ms=[])(ho:K.ol=[])(k:Q (.p .none)<|GH ae ae ae<|vp bf rows K):ba TT NN (d+10) ak (.p<|aI 305) [.ob 10,.p<|aL<|(dQ rows).map iH,.ob 13] (y4 K) Q E:=by
 have rl:=R.len;have fl:((dQ rows).map iH).length=rows.length+1:=by rw[cq,lC]
 have he:((dQ rows).map iH)[rows.length]?=aa (P.jH [af 900,aw [ab dw],af 0]):=by
  rw[mz,BA,fS,if_pos rfl];rfl
 have hr:∀i a,rows[i]?=aa a->((dQ rows).map iH)[i]?=aa (P.jH [af<|fS rows.length i,Ng a,af 0]):=λi a h=>by
  rw[mz,GB R h];rfl
 obtain ⟨t1,hb⟩:∃t1,t1=rows.length+1:=⟨_,rfl⟩
 have f1:=fl.trans hb.symm
 have b1:t1<=1000000:=bo (bx hb)<|bo (kY rl)<|dc rt
 have e0:({K with ms:=iu t1 (af<|-1)}:GK)={lE rows.length K with ss:=K.ss}:=by refine ah hb ?_;rfl
 refine aZ rfl rfl λhc=>afy (JP (hc) (λ_=>rfl) ((dQ rows).map iH) [] K (by exact cw (eA eC bb) aA [(1,aB,kC),(1,bb,eA aB bz)] rt rl<|bx fl) (by refine ah hm ?_;exact cw (eA eC bb) rS [(1,aB,kC),(1,bb,eA aB bz)] rt rl<|bx fl) ?_)
 rw[hm,f1]
 refine ah e0 ?_
 have e1:({{lE rows.length K with ss:=K.ss}with ss:=Fb 0 t1}:GK)=lE rows.length K:=by refine ah hb ?_;rfl
 refine afz<|ah e1<|hc ⟨by exact ah f1<|b1,?_⟩
 refine ah f1<|hc (o9 (kQ<|cw bb aA [(1,aB,kC),(1,bb,eA aB bz)] rt rl<|bx hb)<|Yq (cw bb aA [(1,aB,kC),(1,bb,eA aB bz)] rt rl<|bx fl) (λj hj=>?_) t1 0 [] (gS (eA eC cv) aB [(1,eA bb bz,aB),(1,cv,eA bb bz)] rt (bx fl.symm)<|bx hb) λrs=>hc ⟨by exact ah f1<|b1,?_⟩)
 ·by_cases q:j=rows.length
  ·subst q;exact (ajl _ _ _ _ he<|dc rt)
  ·obtain ⟨a,ha⟩:=(⟨rows[j]'(tC (gS cv bb [(1,aB,eA bb bz),(1,eA cv bz,aB)] rt (bx fl) hj) q),wZ<|tC (gS cv bb [(1,aB,eA bb bz),(1,eA cv bz,aB)] rt (bx fl) hj) q⟩:∃a,rows[j]?=aa a)
   exact (ajl _ a.w _ _ (hr j a ha) (C.w j a ha).e)
 refine ah f1<|hc<|o9 (kQ<|cw bb aA [(1,aB,kC),(1,bb,eA aB bz)] rt rl<|bx hb) ?_
 refine ah hb<|Yr hc (cw bb pK [(1,aB,kC),(1,bb,eA aB bz)] rt rl<|bx fl) fl he rows 0 (lE rows.length K) rs (lN _) (λj a q=>(acH ⟨_,by rw[lN];exact hr j a q⟩ (C.w j a q) (R.st j a q).1<|RH (K:=lE rows.length K) R C rfl q)) rfl (by exact ah w0<|dj eI eI [] rt) (by exact ah w0<|dj eI (eA lZ<|eM 3 eC) [(1,aB,kC)] rt rl) (by exact ah ho<|Nat.zero_le _) λrs=>?_
 have ol:=IK (bf:=bf) rows 0 (lE rows.length K) λa h=>by
  obtain ⟨i,hi⟩:=Lb.mp h;exact (R.st i a hi).1
 exact b8 im (mk:=.cY 162) rfl (hc<|pd (p:=.ret) (by exact gS bb aA [(100,aB,kC),(1,bb,eA cv<|eM 100 aB),(1,cv,eC)] rt rl ol<|bx (by refine ah ho ?_;rfl:(lE rows.length K).ol.length=0)) k)
end
end
theorem afA{F:List P}{f:Nat->P}:∀{seg A B:List Op},F=(A++(seg++B)).map (sM f)->y0 F f A.length seg:=@lr _ _
 (@λ_ _ _=>trivial)
 (λo seg b5=>@λA B h=>by
  have ih:=b5 (B:=B) (h.trans<|congrArg _ (by rw[de];rfl:A++((o::seg)++B)=(A++[o])++(seg++B)));rw[cg]at ih;refine ⟨?_,ih⟩;refine ah h<|ah uM ?_;have:A.length=(A.map<|sM f).length:=(cq _).symm;exact this▸oa rfl)
theorem Fg{l2:List pV}:∀{l1}{i:Nat}{K:GK},gJ bf i (l1++l2) K=gJ bf (i+l1.length) l2 (gJ bf i l1 K):=@lr _ _
 (@λi K=>rfl)
 (λa l1 ih=>@λi K=>by
  exact ah ih<|ah (show i+1+l1.length=i+(l1.length+1) by exact kn (cw mX wg [] rt) (cw wg mX [] rt)) rfl)
theorem ot:∀l(i:Nat)(K:GK),(∃more,(gJ bf i l K).ol=K.ol++more)/\K.r<=(gJ bf i l K).r/\K.ms.length<=(gJ bf i l K).ms.length/\(gJ bf i l K).ss=K.ss/\(gJ bf i l K).lb=K.lb/\(gJ bf i l K).st=K.st/\∀q,q<K.ms.length->q<i\/i+l.length<=q->(gJ bf i l K).ms[q]?=K.ms[q]?:=lr
 (@λi K=>(alz ⟨[],(fc _).symm⟩ (gj _) (gj _) rfl rfl rfl λ_ _ _=>rfl))
 (λa l ih=>@λi K=>by
  refine eh λcy bk=>?_;obtain ⟨⟨more,h1⟩,h2,h3,h4,h5,h6,h7⟩:=ih (i+1)<|BW bf (oq i K) a.w a.es;refine bk ?_;have kl:=(Ff (bf:=bf) (K:=oq i K) (aE:=a.w) (es:=a.es)).1;refine (alz ⟨qo (oq i K).r (oq i K).ms.length a.w a.es (cA bf a.es)++more,h1.trans<|de _ _ _⟩ (bo ?_ h2) (bo (gS bb cv [(1,bb,aB),(1,aB,cv)] rt (bx (fu ..).symm) kl) h3) h4 h5 h6 λq hq hi=>?_)
  ·show K.r<=mo K.r a.w a.es+_
   rw[mo];exact qE aB (eA LR gO) [] rt
  ·have hi:=hi
   refine (h7 q (qE (eA gO bz) cv [(1,bb,aB),(1,aB,cv),(1,eA gO bz,bb)] rt (bx (fu ..).symm) kl hq)<|hi.imp Aw λh=>bo (bx<|Nat.add_right_comm i 1 l.length) h).trans ?_;show ((K.ms.set i _)++_)[q]?=_;rw[D4<|ah fu<|hq,Lc λe=>hi.elim (λh=>absurd e<|sx h) λh=>absurd h<|U8.mpr<|e▸U0 (KZ _)])
def sO(bf:Int->Nat)(rows:List pV)(K:GK)(j:Nat):GK:=gJ bf 0 (rows.take j)<|lE rows.length K
def tT(bf:Int->Nat)(rows:List pV)(K:GK)(j:Nat):Nat:=(sO bf rows K j).ol.length
theorem IL(h:i<=rows.length):(rows.take i).length=i:=D9.trans<|DX h
def xM(bf:Int->Nat)(rows:List pV)(K:GK)(m:Nat):P:=((vp bf rows K).ms[m]?).getD .none
theorem GN:rows.length+1<=(sO bf rows K j).ms.length:=by
 have:=(ot (bf:=bf) (rows.take j) 0<|lE rows.length K).2.2.1;have e:(lE rows.length K).ms.length=rows.length+1:=w0;rw[e]at this;exact this
theorem BE(h:i<=rows.length):gJ bf 0 rows (lE rows.length K)=gJ bf i (rows.drop i) (sO bf rows K i):=by
 have:=Fg (bf:=bf) (l1:=rows.take i) (l2:=rows.drop i) (i:=0) (K:=lE rows.length K);rw[List.take_append_drop,IL h,lN]at this;exact this
theorem wu{a:pV}(h:rows[i]?=aa a):sO bf rows K (i+1)=BW bf (oq i<|sO bf rows K i) a.w a.es:=by
 obtain ⟨h2,h3⟩:=((pz.mp h))
 delta sO;refine ah (by refine ah List.take_add_one ?_;refine ah h ?_;rfl:rows.take (i+1)=rows.take i++[a]) ?_;rw[Fg,IL<|uK h2,lN];rfl
theorem PV(h:q≠rows.length):(vp bf rows K).ms[q]?=(gJ bf 0 rows<|lE rows.length K).ms[q]?:=Lc h.symm
theorem aij(h:j<=rows.length):xM bf rows K j=nI (tT bf rows K j):=by
 by_cases q:j=rows.length
 ·subst q
  delta xM;refine ah (by delta tT;delta sO;rw[Ea]:tT bf rows K rows.length=(gJ bf 0 rows<|lE rows.length K).ol.length) ?_;refine ah (K8<|gS Dj bb [(1,aB,bb),(1,eA cv bz,aB)] rt ((ot rows 0<|lE rows.length K).2.2.1)<|bx w0.symm) ?_;rfl
 ·obtain ⟨a,ha⟩:=(⟨rows[j]'(tC (cw aB bb [(1,aB,bb)] rt h) q),wZ<|tC (cw aB bb [(1,aB,bb)] rt h) q⟩:∃a,rows[j]?=aa a)
  have hl:=GN (bf:=bf) (rows:=rows) (K:=K) (j:=j);have h7:=(ot (bf:=bf) (rows.drop<|j+1) (j+1)<|sO bf rows K<|j+1).2.2.2.2.2.2 j (by have:=GN (bf:=bf) (rows:=rows) (K:=K) (j:=j+1);exact gS eI cv [(1,aB,bb),(1,eA bb bz,cv)] rt h this)<|bW<|dj eI eI [] rt;delta xM;refine ah (PV q)<|ah (BE (i:=j+1)<|tC (cw aB bb [(1,aB,bb)] rt h) q)<|ah h7<|ah (wu ha) ?_;refine ah (D4<|by refine ah fu ?_;exact gS eI cv [(1,aB,bb),(1,eA bb bz,cv)] rt h hl) ?_;refine ah (K8<|gS eI cv [(1,aB,bb),(1,eA bb bz,cv)] rt h hl) ?_;rfl
def ahk(bf:Int->Nat)(K:GK)(a:pV):List P:=mN (K.ol.length+(gc K.r (eV K.ms.length<|cA bf a.es) a.w a.es).length) (cG a.es) (mo K.r a.w a.es) (pP K.ms.length<|cA bf a.es)<|cA bf a.es
theorem GO{a:pV}{v:P}(h:rows[i]?=aa a)(hv:(ahk bf (oq i<|sO bf rows K i) a)[q]?=aa v):xM bf rows K ((oq i<|sO bf rows K i).ms.length+q)=v:=by
 have hi:=(pz.mp h).1;have hl:=GN (bf:=bf) (rows:=rows) (K:=K) (j:=i);have e:(sO bf rows K<|i+1).ms=(oq i<|sO bf rows K i).ms++ahk bf (oq i<|sO bf rows K i) a:=by refine ah (wu h) ?_;rfl
 rw[xM,PV (by exact λh_=>eH 0<|qE bz eC [(1,eA aB bz,bb),(1,bb,cv),(1,eA cv gO,aB)] rt hl (bx (fu ..).symm)<|bx h_),BE (i:=i+1) (by exact cw eI bb [(1,eA aB bz,bb)] rt hi),((ot (rows.drop<|i+1) (i+1)<|sO bf rows K<|i+1).2.2.2.2.2.2 ((oq i<|sO bf rows K i).ms.length+q) (by rw[e,cg];exact gS (eA (eA cv aB) bz) (eA cv bb) [(1,eA aB bz,bb)] rt<|(pz.mp hv).1)<|bM<|bo (bx<|(congrArg (i+1+·) Lg).trans<|U3 hi)<|bo (kZ _)<|bo hl<|bo (bx (fu ..).symm)<|gf _ _),e,K5<|gf _ _,Nat.add_sub_cancel_left,hv];rfl
theorem Ys{c:MC}{mW:Nat}(hl:∀j,j<=rows.length->bf (fS rows.length j)=j)(hF:c.F=(vp bf rows K).ol.map (sM c.f))(hf:c.f=xM bf rows K)(hn:mW=(vp bf rows K).r):Gz c rows mW (tT bf rows K) bf where
 lb:=hl
 alH:=λj h=>hf▸aij h
 alI:=λi a h=>by
  refine eh λcy bk=>?_;obtain ⟨⟨more,m1⟩,m2,_⟩:=ot (rows.drop<|i+1) (i+1)<|sO bf rows K<|i+1;refine bk ?_;have ea:=BE (bf:=bf) (K:=K) (i:=i+1)<|cw eI bb [(1,eA aB bz,bb)] rt<|(pz.mp h).1;have so:(sO bf rows K<|i+1).ol=(sO bf rows K i).ol++qo (oq i<|sO bf rows K i).r (oq i<|sO bf rows K i).ms.length a.w a.es (cA bf a.es):=by refine ah (wu (K:=K) h) ?_;rfl
  refine (amA (oq i<|sO bf rows K i).r (oq i<|sO bf rows K i).ms.length ?_ ?_ (λv q=>?_) ?_ ?_ ?_)
  ·refine afA (B:=more++[.ret])<|hF.trans ?_
   have:(vp bf rows K).ol=(gJ bf 0 rows<|lE rows.length K).ol++[.ret]:=rfl;refine ah this<|ah ea ?_;rw[m1,so,de,de]
  ·refine ah hf<|(GO (q:=0) h rfl).trans ?_
   rw[qe];rfl
  ·have eg:cA bf a.es=aa (bf<|v.iD 0):=by delta cA;refine ah q ?_;rfl
   refine ah hf<|(GO (q:=1) h ?_)
   delta ahk;delta H7;rw[E3,eg];refine congrArg (λn=>aa<|nI n) ?_;exact kn (qE (eA LR gO) (eA aB<|eA (eA bb cv) gO) [] rt)<|qE (eA aB<|eA (eA bb cv) gO) (eA LR gO) [] rt
  ·refine ah hf ?_;delta pP
   refine GO h<|ah cg ?_;rw[<-qe,ahk];cases cA bf a.es<;>rfl
  ·refine ah hn ?_
   show _<=(gJ bf 0 rows<|lE rows.length K).r;refine ah ea<|Nat.le_trans ?_ m2;exact ah (wu (K:=K) h)<|Nat.le_refl _
  ·show (sO bf rows K<|i+1).ol.length=(sO bf rows K i).ol.length+_
   refine ah so<|ah cg ?_;rfl
 ret:=by
  refine ah hF<|ah (by delta tT;delta sO;rw[Ea,cq]:tT bf rows K rows.length=((gJ bf 0 rows<|lE rows.length K).ol.map<|sM c.f).length) ?_;exact ah uM<|oa rfl
noncomputable abbrev anB:List P:=[ab [106],ab [74],ab [80],ab [68]]
structure aar(c:Nat):Prop where
 j:cL (ab [c]) (ab [106])=ak
 J:cL (ab [c]) (ab [74])=ak
 P:cL (ab [c]) (ab [80])=ak
 D:cL (ab [c]) (ab [68])=ak
def Xo(rs:Env):Prop:=rs=[]\/∃x y:P,rs=[(42,.p x),(41,.p y)]
theorem pe{xs:List P}{i:Int}{v:P}(hi:pU xs.length i=aa j)(hj:xs[j]?=aa v)(k:Q (.p v) σ):rU (.p<|aw xs) (.p<|af i) σ Q E:=ax hi<|ax hj k
noncomputable abbrev wv (l:List P) (sh:Tx) (rs:Env):Env:=(22,.p<|aw l)::(35,.tm 3)::(39,.p<|ab sh)::rs
structure zy(l:List P)(sh:Tx)(z:Int)(c:Nat)(x:P):Prop where
 b:0<=z/\z<10000000
 s:sh[z.toNat]?=aa c
 o:∃j,pU l.length (z+1)=aa j/\l[j]?=aa x
theorem IM{Q:Fl->Env->H->Prop}{E:Env->H->Prop}{l:List P}{sh:Tx}{x:P}(h:zy l sh z c x)(pc:aar c)(hr:Xo rs)(k:Q bE (wv l sh [(42,it z),(41,.p x)]) σ):ez cl cf gV (wv l sh<|aN rs 42<|it z) σ Q E:=by
 refine cE h.o λj o1 o2=>?_;rcases hr with h1|⟨u,v,h1⟩<;>refine ah h1 ?_
 ·exact pe o1 o2 ⟨h.b,ax h.s<|cT pc.j rt rt<|⟨h.b,ax h.s<|cT pc.J rt rt<|⟨h.b,ax h.s<|cT pc.P rt rt<|⟨h.b,ax h.s<|cT pc.D rt rt<|k⟩⟩⟩⟩
 ·exact pe o1 o2 ⟨h.b,ax h.s<|cT pc.j rt rt<|⟨h.b,ax h.s<|cT pc.J rt rt<|⟨h.b,ax h.s<|cT pc.P rt rt<|⟨h.b,ax h.s<|cT pc.D rt rt<|k⟩⟩⟩⟩
theorem Xp{w:P}{lV:List P}{x:P}{post:List P}{done cs:Tx}(h:lV.length=done.length)(hl:done.length<=100)(Ru:post.length<=100):zy (w::(lV++x::post)) (done++c::cs) (0+(done.length:Int)) c x where
 b:=(⟨dp (.n 0) (.a (.n 0)<| .v 0) [(1,.n 0,.v 0)] rt<|gG _,dp (.a (.a (.n 0)<| .v 0)<| .n 1) (.n 10000000) [(1,.v 0,.n 100)] rt<|cS.mpr hl⟩)
 s:=PF ((congrArg VK<|AN _).trans<|xe _)
 o:=(b0 (lV.length+1) (gq (ko (rQ (.a (.a (.n 0)<| .v 0)<| .n 1) (.a (.v 1)<| .n 1) [(1,.v 0,.v 1)] rt<|cS.mpr<|bx h.symm)<|rQ (.a (.v 1)<| .n 1) (.a (.a (.n 0)<| .v 0)<| .n 1) [(1,.v 1,.v 0)] rt<|cS.mpr<|bx h) (by rw[rO,cg,rO];exact cw (.a (.a (.v 1)<| .n 1)<| .n 1) (.a (.a (.v 1)<| .a (.v 0)<| .n 1)<| .n 1) [] rt)<|by rw[rO,cg,rO];exact bo (gS (.a (.a (.v 0)<| .a (.v 1)<| .n 1)<| .n 1) (.n 1000) [(1,.v 0,.v 2),(1,.v 2,.n 100),(1,.v 1,.n 100)] rt (bx h) hl Ru) (by decide:1000<=100000))<|by exact oa rfl)
theorem aba{Q:Fl->Env->H->Prop}{E:Env->H->Prop}{w:P}:∀(cs done:Tx)lV post(rs:Env),lV.length=done.length->post.length=cs.length->done.length+cs.length<=100->(∀c∈cs,aar c)->Xo rs->(∀rs,Xo rs->Q bE (wv (w::(lV++post)) (done++cs) rs) σ)->jf (lW ⟨TT,NN,cl,ak,3⟩ cf [42] gV) ((jQ done.length cs.length).map λ(k:Nat)=>P.int<|0+(k:Int)) (wv (w::(lV++post)) (done++cs) rs) σ Q E:=lr
 (λdone lV post rs _ _ _ _ hr k=>k rs hr)
 (λc cs b5 done lV post rs h1 h2 h3 h4 hr k=>by
  rcases post with _|⟨x,post⟩
  ·exact (DW _ h2.symm).elim
  have e1:lV++x::post=(lV++[x])++post:=by rw[de];rfl
  have e2:done++c::cs=(done++[c])++cs:=by rw[de];rfl
  have ih:=λrs hr=>b5 (done++[c]) (lV++[x]) post rs (by refine ah cg<|ah cg<|ah h1 ?_;rfl) (pA h2) (by refine ah cg ?_;exact cw (.a (.a (.v 0)<| .n 1)<| .v 1) (.n 100) [(1,.a (.v 0)<| .a (.v 1)<| .n 1,.n 100)] rt h3) (λc h=>h4 c<|aS _ h) hr<|ah e1.symm<|ah e2.symm<|k;have L:=Xp (w:=w) (x:=x) (cs:=cs) (c:=c) h1 (cw (.v 1) (.n 100) [(1,.a (.v 1)<| .v 0,.n 100)] rt<|by assumption)<|gS (.v 2) (.n 100) [(1,.a (.v 0)<| .a (.v 1)<| .n 1,.n 100),(1,.v 2,.v 1)] rt h3<|bx<|pA h2;rw[cg,<-e1,<-e2]at ih;exact IM L (h4 c<|bt _) hr<|ih _<|bM<|yQ _ _ rfl)
theorem ad1{Q:Fl->Env->H->Prop}{E:Env->H->Prop}{l ys:List P}{sh:Tx}(h3:aW σ 3=aa ae)(hr:Xo rs)(k:∀m,av m 35=aa (.p<|aL ys)->Q bE m σ):ez cl cf (.yR 35) (wv l sh rs) (aG σ 3<|aM ys) Q E:=by
 have fin:aG (aG σ 3<|aM ys) 3 ae=σ:=by refine ah dT<|ah (fX h3) ?_;rfl
 rcases hr with h|⟨_,_,h⟩<;>rw[h]<;>exact qT rfl rfl (cz h3) rfl rfl (ah fin<|k _ rfl)
theorem tn{sh:Tx}{l:List P}(hs:∀ks vs,TT.fy 40=aa (cu ks vs)->av (ks.zip vs) (.s w)=aa (ab sh))(hl:l.length=sh.length)(hn:sh.length<=100)(hp:∀c∈sh,aar c)(h3:aW σ 3=aa ae)(k:Q (.p<|aL []) σ):ba TT NN (d+2) ak (.p<|aI 260) [.p<|aw<|ab w::l] σ Q E:=by
 refine aZ rfl rfl λhc=>cj (oe h3<|ax (hs _ _ rfl)<|hc ⟨bo hn<|dc rt,hc<|o9 (kQ<|bo hn<|dc rt)<|aba sh [] [] l [] rfl hl (by exact dj s9 iO [(1,aB,iO)] rt hn) hp (bW rfl) λrs hr=>cj<|ad1 h3 hr λm hm=>ax hm k⟩)
theorem ahl{xs:List P}(h:aW σ n=aa (aM xs)):(aW σ n).bind O.uV=aa xs:=by refine ah h ?_;rfl
theorem akJ{Q:Fl->Env->H->Prop}{E:Env->H->Prop}{l ys:List P}{sh:Tx}{x:P}(h:zy l sh z 106 x)(h3:aW σ 3=aa (aM ys))(hy:ys.length<=1000)(k:Q bE (wv l sh [(42,it z),(41,.p x)])<|aG σ 3<|aM<|ys++[x]):ez cl cf gV (wv l sh [(42,it z)]) σ Q E:=cE h.o λj o1 o2=>pe o1 o2 ⟨h.b,ax h.s<|ly (x:=ab [106]) (y:=ab [106]) rt rt (λ_=>b8 h3 (mk:=.bi 0 0) rfl<|gW h3 hy k) λq=>nomatch q⟩
theorem akK{Q:Fl->Env->H->Prop}{E:Env->H->Prop}{l ys ms:List P}{sh:Tx}{u v a c:P}(h:zy l sh z 68<|aw [a,aL ms,c])(h3:aW σ 3=aa (aM ys))(hy:ys.length+ms.length<=1000)(k:Q bE (wv l sh [(42,it z),(41,.p<|aw [a,aL ms,c])])<|aG σ 3<|aM<|ys++ms):ez cl cf gV (wv l sh [(42,it z),(41,.p v)]) σ Q E:=cE h.o λj o1 o2=>pe o1 o2 ⟨h.b,ax h.s<|ly (x:=ab [68]) (y:=ab [106]) rt rt (λq=>nomatch q) λ_=>⟨h.b,ax h.s<|ly (x:=ab [68]) (y:=ab [74]) rt rt (λq=>nomatch q) λ_=>⟨h.b,ax h.s<|ly (x:=ab [68]) (y:=ab [80]) rt rt (λq=>nomatch q) λ_=>⟨h.b,ax h.s<|ly (x:=ab [68]) (y:=ab [68]) rt rt (λ_=>ax (ahl h3) ⟨bo hy<|dc rt,k⟩) λq=>nomatch q⟩⟩⟩⟩
theorem abb{x:P}(h3:aW σ 3=aa ae)(k:Q (.p<|aL [x]) σ):ba TT NN (d+2) ak (.p<|aI 260) [.p<|aw [ab pD,x]] σ Q E:=by
 refine aZ rfl rfl @λcl cf hc=>cj (oe h3<|hc ⟨(by decide:1<=1000000),hc ?_⟩);show ez cl cf gV (wv [ab pD,x] [106] [(42,it 0)]) (aG σ 3<|aM []) _ _;exact akJ (x:=x) ⟨by decide,rfl,1,rfl,rfl⟩ (cz h3) (bH _)<|dT.symm▸cj (ad1 h3 (bM<|yQ _ _ rfl) λm hm=>ax hm k)
theorem aik{w a c:P}{ms:List P}(hm:ms.length<=1000)(h3:aW σ 3=aa ae)(k:Q (.p<|aL ms) σ):ba TT NN (d+2) ak (.p<|aI 260) [.p<|aw [ab [105,111],w,aw [a,aL ms,c]]] σ Q E:=by
 refine aZ rfl rfl @λcl cf hc=>cj (oe h3<|hc ⟨(by decide:2<=1000000),hc ?_⟩);show ez cl cf gV (wv [ab [105,111],w,aw [a,aL ms,c]] [45,68]<|aN [] 42<|it 0) (aG σ 3<|aM []) _ _;refine IM (x:=w) (c:=45) ⟨by decide,rfl,1,rfl,rfl⟩ ⟨rf,rf,rf,rf⟩ (bW rfl) ?_;show ez cl cf gV (wv [ab [105,111],w,aw [a,aL ms,c]] [45,68] [(42,it 1),(41,.p w)]) (aG σ 3<|aM []) _ _;refine akK (u:=w) (v:=w) ⟨by decide,rfl,2,rfl,rfl⟩ (cz h3) (by exact dj s9 aA [(1,aB,aA)] rt hm) ?_;exact dT.symm▸cj (ad1 h3 (bM<|yQ _ _ rfl) λm hm=>ax hm k)
noncomputable abbrev ww (l:List P) (at':List P) (sh:Tx) (us:V) (rs:Env):Env:=(22,.p<|aw l)::(46,.p<|aL at')::(39,.p<|ab sh)::(44,.tm 4)::(45,us)::rs
theorem IP{Q:Fl->Env->H->Prop}{E:Env->H->Prop}{l at' ys:List P}{us:V}{sh:Tx}{x:P}(h:zy l sh z c x)(pc:aar c)(hr:Xo rs)(h4:aW σ 4=aa (aM ys))(hy:ys.length<=1000)(k:Q bE (ww l at' sh us [(42,it z),(41,.p x)])<|aG σ 4<|aM<|ys++[x]):ez cl cf fQ (ww l at' sh us<|aN rs 42<|it z) σ Q E:=by
 refine cE h.o λj o1 o2=>?_;rcases hr with h1|⟨u,v,h1⟩<;>refine ah h1 ?_
 ·exact pe o1 o2 ⟨h.b,ax h.s<|cT pc.j rt rt<|⟨h.b,ax h.s<|cT pc.J rt rt<|⟨h.b,ax h.s<|cT pc.P rt rt<|⟨h.b,ax h.s<|cT pc.D rt rt<|b8 h4 (mk:=.bi 0 0) rfl<|gW h4 hy k⟩⟩⟩⟩
 ·exact pe o1 o2 ⟨h.b,ax h.s<|cT pc.j rt rt<|⟨h.b,ax h.s<|cT pc.J rt rt<|⟨h.b,ax h.s<|cT pc.P rt rt<|⟨h.b,ax h.s<|cT pc.D rt rt<|b8 h4 (mk:=.bi 0 0) rfl<|gW h4 hy k⟩⟩⟩⟩
theorem abc{Q:Fl->Env->H->Prop}{E:Env->H->Prop}{w:P}{at':List P}{us:V}(h4:aW σ 4=aa ae):∀(cs done:Tx)lV post ys(rs:Env),lV.length=done.length->post.length=cs.length->done.length+cs.length<=100->(∀c∈cs,aar c)->Xo rs->ys.length+cs.length<=1000->(∀rs,Xo rs->Q bE (ww (w::(lV++post)) at' (done++cs) us rs) (aG σ 4<|aM<|ys++post))->jf (lW ⟨TT,NN,cl,ak,3⟩ cf [42] fQ) ((jQ done.length cs.length).map λ(k:Nat)=>P.int<|0+(k:Int)) (ww (w::(lV++post)) at' (done++cs) us rs) (aG σ 4<|aM ys) Q E:=lr
 (λdone lV post ys rs _ h2 _ _ hr _ k=>by
  obtain rfl:=K4 h2;exact by have k:=k rs hr;rw[show ys++([]:List P)=ys from fc _]at k;exact k)
 (λc cs b5 done lV post ys rs h1 h2 h3 alM hr h5 k=>by
  rcases post with _|⟨x,post⟩
  ·exact (DW _ h2.symm).elim
  have e1:lV++x::post=(lV++[x])++post:=by rw[de];rfl
  have e2:done++c::cs=(done++[c])++cs:=by rw[de];rfl
  have ih:=λrs hr=>b5 (done++[c]) (lV++[x]) post (ys++[x]) rs (by refine ah cg<|ah cg<|ah h1 ?_;rfl) (pA h2) (by refine ah cg ?_;exact cw mX iO [(1,eA aB ie,iO)] rt h3) (λc h=>alM c<|aS _ h) hr (by refine ah cg ?_;exact cw mX aA [(1,eA aB ie,aA)] rt h5) (by refine ah e1.symm<|ah e2.symm<|ah (by rw[de];rfl:ys++x::post=(ys++[x])++post).symm ?_;exact k);have L:=Xp (w:=w) (x:=x) (cs:=cs) (c:=c) h1 (cw bb iO [(1,eA bb aB,iO)] rt<|by assumption)<|gS cv iO [(1,eA aB ie,iO),(1,cv,bb)] rt h3<|bx<|pA h2;rw[cg,<-e1,<-e2]at ih;exact IP L (alM c<|bt _) hr (cz h4) (cw bb aA [(1,eA bb aB,aA)] rt<|by assumption)<|dT.symm▸ih _ (bM<|yQ _ _ rfl))
theorem ad2{Q:Fl->Env->H->Prop}{E:Env->H->Prop}{l at' ys:List P}{us:P}{sh:Tx}(h4:aW σ 4=aa ae)(hr:Xo rs)(k:∀m,av m 44=aa (.p<|aL ys)->Q bE m σ):ez cl cf (.yR 44) (ww l at' sh (.p us) rs) (aG σ 4<|aM ys) Q E:=by
 have fin:aG (aG σ 4<|aM ys) 4 ae=σ:=by refine ah dT<|ah (fX h4) ?_;rfl
 rcases hr with h|⟨_,_,h⟩<;>rw[h]<;>exact qT rfl rfl (cz h4) rfl rfl (ah fin<|k _ rfl)
theorem tq{sh:Tx}{l:List P}(hs:∀ks vs,TT.fy 40=aa (cu ks vs)->av (ks.zip vs) (.s w)=aa (ab sh))(hl:l.length=sh.length)(hn:sh.length<=100)(hp:∀c∈sh,aar c)(h4:aW σ 4=aa ae)(k:Q (.p<|aw<|ab w::l) σ):ba TT NN (d+2) ak (.p<|aI 265) [.p<|aw<|ab w::l,.p<|aL []] σ Q E:=by
 refine aZ rfl rfl λhc=>ax (hs _ _ rfl)<|cj<|qS<|jt h4<|lB h4 ?_;exact hc ⟨bo hn<|dc rt,hc<|o9 (kQ<|bo hn<|dc rt)<|abc h4 sh [] [] l [ab w] [] rfl hl (by exact dj (.a (.n 0)<| .v 0) (.n 100) [(1,.v 0,.n 100)] rt hn) hp (bW rfl) (by exact dj (.a (.n 1)<| .v 0) (.n 1000) [(1,.v 0,.n 100)] rt hn) λrs hr=>cj<|ad2 h4 hr λm hm=>ax hm<|hc ⟨(ah rO<|ah hl<|dj (.a (.v 0)<| .n 1) (.n 1000000) [(1,.v 0,.n 100)] rt hn),k⟩⟩
theorem akL{Q:Fl->Env->H->Prop}{E:Env->H->Prop}{l ys:List P}{sh:Tx}{x y:P}(h:zy l sh z 106 x)(h4:aW σ 4=aa (aM ys))(hy:ys.length<=1000)(k:Q bE (ww l [y] sh (it 1) [(42,it z),(41,.p y)])<|aG σ 4<|aM<|ys++[y]):ez cl cf fQ (ww l [y] sh (it 0) [(42,it z)]) σ Q E:=cE h.o λj o1 o2=>pe o1 o2 ⟨h.b,ax h.s<|ly (x:=ab [106]) (y:=ab [106]) rt rt (λ_=>b8 h4 (mk:=.bi 0 0) rfl<|gW h4 hy k) λq=>nomatch q⟩
theorem abd{zs:List P}{hi:Int}(h:hi=zs.length)(hl:zs.length<=1000)(k:Q (.p<|aL zs) σ):CY (.p<|aL zs) 0 hi σ Q E:=by
 subst h;refine ⟨⟨AO 0,gG _⟩,bo hl<|dc rt,?_⟩;rw[xe,Ea];exact ah Ec<|k
theorem akM{Q:Fl->Env->H->Prop}{E:Env->H->Prop}{l ys ms zs:List P}{sh:Tx}{v a c:P}(hc:jo cl (d+1) ak)(h:zy l sh z 68<|aw [a,aL ms,c])(h4:aW σ 4=aa (aM ys))(hy:ys.length<=1000)(hz:zs.length=ms.length)(hm:ms.length<=1000)(k:∀us:Int,Q bE (ww l zs sh (it us) [(42,it z),(41,.p<|aw [a,aL zs,c])])<|aG σ 4<|aM<|ys++[aw [a,aL zs,c]]):ez cl cf fQ (ww l zs sh (it 0) [(42,it z),(41,.p v)]) σ Q E:=by
 refine cE h.o λj o1 o2=>pe o1 o2 ⟨h.b,ax h.s<|ly (x:=ab [68]) (y:=ab [106]) rt rt (λq=>nomatch q) λ_=>⟨h.b,ax h.s<|ly (x:=ab [68]) (y:=ab [74]) rt rt (λq=>nomatch q) λ_=>⟨h.b,ax h.s<|ly (x:=ab [68]) (y:=ab [80]) rt rt (λq=>nomatch q) λ_=>⟨h.b,ax h.s<|ly (x:=ab [68]) (y:=ab [68]) rt rt (λ_=>?_) λq=>nomatch q⟩⟩⟩⟩;refine hc ⟨(bo hm<|dc rt),?_⟩;generalize hu:(ms.length:Int)=u;refine abd (ko (LO (eA eC bb) cv [(1,aB,cv),(1,bb,aB)] rt (cS.mpr<|bx hz.symm)<|d8 hu.symm)<|LO cv (eA eC bb) [(1,cv,aB),(1,aB,bb)] rt (cS.mpr<|bx hz)<|d8 hu) (cw aB aA [(1,aB,bb),(1,bb,aA)] rt (bx hz) hm) (hc ⟨by exact hz▸(bo hm<|dc rt),?_⟩);exact b8 h4 (mk:=.bi 0 0) rfl<|gW h4 hy<|k _
noncomputable def mO:Op->List Nat| .g8 m=>[m]| .io _ _ ms _=>ms|_=>[]
theorem abe{x y:P}(h4:aW σ 4=aa ae)(k:Q (.p<|aw [ab pD,y]) σ):ba TT NN (d+2) ak (.p<|aI 265) [.p<|aw [ab pD,x],.p<|aL [y]] σ Q E:=by
 refine aZ rfl rfl @λcl cf hc=>cj (qS (cf:=cf)<|jt h4<|lB h4<|hc ⟨(by decide:1<=1000000),hc ?_⟩);show ez cl cf fQ (ww [ab pD,x] [y] [106] (it 0) [(42,it 0)]) (aG σ 4<|aM [ab pD]) _ _;exact akL (x:=x) ⟨by decide,rfl,1,rfl,rfl⟩ (cz h4) (by decide:1<=1000)<|dT.symm▸cj (ad2 h4 (bM<|yQ _ _ rfl) λm hm=>ax hm<|hc ⟨(by decide:2<=1000000),k⟩)
theorem ail{w a c:P}{ms zs:List P}(hz:zs.length=ms.length)(hm:ms.length<=1000)(h4:aW σ 4=aa ae)(k:Q (.p<|aw [ab [105,111],w,aw [a,aL zs,c]]) σ):ba TT NN (d+2) ak (.p<|aI 265) [.p<|aw [ab [105,111],w,aw [a,aL ms,c]],.p<|aL zs] σ Q E:=by
 refine aZ rfl rfl @λcl cf hc=>cj (qS (cf:=cf)<|jt h4<|lB h4<|hc ⟨(by decide:2<=1000000),hc ?_⟩);show ez cl cf fQ (ww [ab [105,111],w,aw [a,aL ms,c]] zs [45,68] (it 0)<|aN [] 42<|it 0) (aG σ 4<|aM [ab [105,111]]) _ _;refine IP (x:=w) (c:=45) ⟨by decide,rfl,1,rfl,rfl⟩ ⟨rf,rf,rf,rf⟩ (bW rfl) (cz h4) (by decide:1<=1000)<|ah dT ?_;show ez cl cf fQ (ww [ab [105,111],w,aw [a,aL ms,c]] zs [45,68] (it 0) [(42,it 1),(41,.p w)]) (aG σ 4<|aM [ab [105,111],w]) _ _;exact akM (v:=w) hc ⟨by decide,rfl,2,rfl,rfl⟩ (cz h4) (by decide:2<=1000) hz hm λus=>dT.symm▸cj (ad2 h4 (bM<|yQ _ _ rfl) λm hm=>ax hm<|hc ⟨(by decide:3<=1000000),k⟩)
theorem pf{cs:Tx}(h:∀c∈cs,c=119\/c=45\/c=114\/c=111):∀c∈cs,aar c:=λc hc=>by
 rcases h c hc with rfl|rfl|rfl|rfl<;>exact ⟨rfl,rfl,rfl,rfl⟩
theorem aim(o:Op)(hm:(mO o).length<=1000)(h3:aW σ 3=aa ae)(k:Q (.p<|aL<|(mO o).map nI) σ):ba TT NN (d+2) ak (.p<|aI 260) [.p<|sM nI o] σ Q E:=by
 cases o with
 |set r kk v=>exact tn (sh:=[119,45,45]) (λks vs h=>by injection h with h;injection h with h1 h2;subst h1 h2;rfl) rfl (dc rt) (pf<|dc rt) h3 k
 |rD r c=>exact tn (sh:=[119,45]) (λks vs h=>by injection h with h;injection h with h1 h2;subst h1 h2;rfl) rfl (dc rt) (pf<|dc rt) h3 k
 |load r q=>exact tn (sh:=[119,114]) (λks vs h=>by injection h with h;injection h with h1 h2;subst h1 h2;rfl) rfl (dc rt) (pf<|dc rt) h3 k
 |C8 r q=>exact tn (sh:=[114,114]) (λks vs h=>by injection h with h;injection h with h1 h2;subst h1 h2;rfl) rfl (dc rt) (pf<|dc rt) h3 k
 |g8 m=>exact abb h3 k
 |ret=>exact tn (sh:=[111]) (λks vs h=>by injection h with h;injection h with h1 h2;subst h1 h2;rfl) rfl (dc rt) (pf<|dc rt) h3 k
 |io w rs ms rest=>exact aik (by rw[cq];exact hm) h3 k
theorem ain{f:Nat->P}(o:Op)(hm:(mO o).length<=1000)(h4:aW σ 4=aa ae)(k:Q (.p<|sM f o) σ):ba TT NN (d+2) ak (.p<|aI 265) [.p<|sM nI o,.p<|aL<|(mO o).map f] σ Q E:=by
 cases o with
 |set r kk v=>exact tq (sh:=[119,45,45]) (λks vs h=>by injection h with h;injection h with h1 h2;subst h1 h2;rfl) rfl (dc rt) (pf<|dc rt) h4 k
 |rD r c=>exact tq (sh:=[119,45]) (λks vs h=>by injection h with h;injection h with h1 h2;subst h1 h2;rfl) rfl (dc rt) (pf<|dc rt) h4 k
 |load r q=>exact tq (sh:=[119,114]) (λks vs h=>by injection h with h;injection h with h1 h2;subst h1 h2;rfl) rfl (dc rt) (pf<|dc rt) h4 k
 |C8 r q=>exact tq (sh:=[114,114]) (λks vs h=>by injection h with h;injection h with h1 h2;subst h1 h2;rfl) rfl (dc rt) (pf<|dc rt) h4 k
 |g8 m=>exact abe h4 k
 |ret=>exact tq (sh:=[111]) (λks vs h=>by injection h with h;injection h with h1 h2;subst h1 h2;rfl) rfl (dc rt) (pf<|dc rt) h4 k
 |io w rs ms rest=>exact ail (by rw[cq,cq];rfl) (by rw[cq];exact hm) h4 k
structure SA(σ:H)(K:GK):Prop where
 g:aW σ 10=aa (Rr K.r K.ss)
 k:aW σ 12=aa (aM K.ms)
 f3:aW σ 3=aa ae
 f4:aW σ 4=aa ae
 ajJ:aW σ 19=aa ae
noncomputable def xN (ms:List P) (m:Nat):P:=(ms[m]?).getD .none
theorem aio{t:Nat}{elt:X}{acc xs:List P}{x v:P}(h:∀K E',K (.p v) σ->eP C (aN m0 t<| .p x) elt σ K E')(hb:acc.length<=bZ)(k:iQ (λx=>.bind (ni C (aN m0 t<| .p x) .nil) λb=>lw b<| .bind (eP C (aN m0 t<| .p x) elt) λv=>.aQ v.pl .ok) (acc++[v]) xs σ Q E):iQ (λx=>.bind (ni C (aN m0 t<| .p x) .nil) λb=>lw b<| .bind (eP C (aN m0 t<| .p x) elt) λv=>.aQ v.pl .ok) acc (x::xs) σ Q E:=h _ _ ⟨hb,k⟩
theorem RJ(A:SA σ K){v:P}(hm:∀v,av (aN m0 26 v) 24=aa (.ob 10))(hk:K.ms.length<=1000)(hz:z=j)(hv:K.ms[j]?=aa v)(k:Q (.p v) σ):eP ⟨TT,NN,cl,hd,lv⟩ (aN m0 26<|it z) (.iz (.yf (bC 24) 14)<|bC 26) σ Q E:=ax (hm _)<|cJ A.g (K:=gH) rfl rt rfl<|ax bQ<|v5 A.k hz (bo hk<|dc rt) hv k
theorem RK(A:SA σ K)(hm:∀v,av (aN m0 26 v) 24=aa (.ob 10))(hk:K.ms.length<=1000):∀(l:List Nat)acc,(∀m∈l,m<K.ms.length)->acc.length+l.length<=1000->Q (.p<|aL<|acc++l.map (xN K.ms)) σ->iQ (λx=>.bind (ni ⟨TT,NN,cl,hd,lv⟩ (aN m0 26<| .p x) .nil) λb=>lw b<| .bind (eP ⟨TT,NN,cl,hd,lv⟩ (aN m0 26<| .p x)<| .iz (.yf (bC 24) 14)<|bC 26) λv=>.aQ v.pl .ok) acc (l.map nI) σ Q E:=lr
 (λacc _ _ k=>by rw[AH,fc]at k;exact k)
 (λm l b5 acc h hn k=>by
  have hv:K.ms[m]?=aa (xN K.ms m):=by delta xN;refine ah (wZ<|h m<|bt _) ?_;rfl
  exact aio (λK E' k=>RJ A hm hk rfl hv k) (bo (bo (gf _ _) hn)<|dc rt)<|b5 (acc++[xN K.ms m]) (λm q=>h m<|aS _ q) (by refine ah cg ?_;exact cw mX aA [(1,eA aB ie,aA)] rt hn)<|by rw[de];exact k)
theorem Yt(A:SA σ K)(hc:jo cl (d+2) ak)(hm:∀v w,av (aN (aN m0 22 v) 26 w) 24=aa (.ob 10))(hk:K.ms.length<=1000):∀(ol:List Op)acc,(∀o∈ol,(mO o).length<=100/\∀m∈mO o,m<K.ms.length)->acc.length+ol.length<=5000->Q (.p<|aL<|acc++ol.map (sM<|xN K.ms)) σ->iQ (λx=>.bind (ni ⟨TT,NN,cl,ak,lv⟩ (aN m0 22<| .p x) .nil) λb=>lw b<| .bind (eP ⟨TT,NN,cl,ak,lv⟩ (aN m0 22<| .p x)<| .call (.fy 60)<| .cons (bC 22)<| .cons (.kr (.iz (.yf (bC 24) 14)<|bC 26) 26 (.call (.fy 61)<| .cons (bC 22) .nil)<| .nil) .nil) λv=>.aQ v.pl .ok) acc (uu ol) σ Q E:=lr
 (λacc _ _ k=>by rw[AH,fc]at k;exact k)
 (λo ol b5 acc h hn k=>by
  obtain ⟨h1,h2⟩:=h o<|bt _;exact ax bQ<|ax bQ<|hc<|aim o (dj (.v 0) (.n 1000) [(1,.v 0,.n 100)] rt h1) A.f3<|RK A (hm _) hk (mO o) [] h2 (by exact dj (.a (.n 0)<| .v 0) (.n 1000) [(1,.v 0,.n 100)] rt h1)<|hc<|ain o (dj (.v 0) (.n 1000) [(1,.v 0,.n 100)] rt h1) A.f4 ⟨(bo (bo (gf _ _) hn)<|dc rt),(b5 (acc++[sM (xN K.ms) o]) (λm q=>h m<|aS _ q) (by refine ah cg ?_;exact cw (.a (.a (.v 0)<| .n 1)<| .v 1) (.n 5000) [(1,.a (.v 0)<| .a (.v 1)<| .n 1,.n 5000)] rt hn)<|by rw[de];exact k)⟩)
theorem xO{K:cN}{F:aT}{z:Nat}{zs:List Nat}(hK:TT.cls c=aa K)(he:(!K.d5)=ag)(ha:K.al=z::zs)(hf:eG σ K.al=aa n)(hF:TT.fn K.init=aa F)(hm:ow [] F.params (oZ F<| .ob n::args)=aa m)(k:∀cl cf,jo cl d hd->iR ⟨TT,NN,cl,hd,3⟩ cf F.body m (aG σ n<|bJ c []) (l3<|hM (λr=>M.lS (j0 r)<|M.ok<|V.ob n) Q E) (sH E)):ba TT NN (d+2) hd (.p<| .cls c) args σ Q E:=
 ax rfl (ax hK (qL he (by
  rw[ha]at hf⊢;show M.aQ (eG σ<|z::zs) (λn=>M.bind (fP n<|bJ c []) λ_=>M.ok<|V.ob n) σ (hM (λo=>.bind (ba TT NN (d+1) hd (.p<|aI K.init)<|o::args) λr=>.lS (j0 r)<| .ok o) Q E) E;exact ah hf<|aZ hF hm @λcl cf hc=>k cl cf hc)))
theorem dF{K:cN}{fs:List (Nat×V)}{Q:Unit->H->Prop}(h:aW σ n=aa o)(hK:TT.cls c=aa K)(hc:(K.fields.contains i&&!K.d5&&ae2 v)=ag)(hl:gb fs.length 500=ag)(k:Q ()<|aG σ n<|bJ c<|aN fs i v):setAttr TT (.ob n) i v (aG σ n<|bJ c fs) Q E:=
 Rd (cz h) hK hc hl (ah dT<|k)
theorem C'(h:aW σ n=aa ae):eG σ [n]=aa n:=(λe=>by refine ah e ?_;rfl:∀{oo},oo=aa ae->(match oo.map O.ig with|some ag=>aa n|_=>eG σ [])=aa n) h
def xQ(F:List P)(r:Nat):O:=bJ 251 [(12,.p<|aL F),(13,.p<|nI r),(15,kR),(18,kR)]
theorem Yu{F:List P}(h:aW σ 19=aa ae)(k:Q (.ob 19)<|aG σ 19<|xQ F r):ba TT NN (d+2) ak (.p<| .cls 251) [.p<|aL F,.p<|nI r,kR,kR] σ Q E:=
 xO (K:=sI) (F:=yT) (n:=19) rfl rt rfl (C' h) rfl rfl λcl cf _=>dF h (K:=sI) rfl rt rt<|dF h (K:=sI) rfl rt rt<|dF h (K:=sI) rfl rt rt<|dF h (K:=sI) rfl rt rt k
theorem Oi(A:SA σ K)(amQ:aW σ 11=aa (aM<|uu K.ol))(hk:K.ms.length<=1000)(ho:K.ol.length<=1000)(hm:∀o∈K.ol,(mO o).length<=100/\∀m∈mO o,m<K.ms.length)(k:Q (.ob 19)<|aG (aG σ 11 .nh) 19<|xQ (K.ol.map<|sM<|xN K.ms) K.r):ba TT NN (d+3) ak (.p<|aI 310) [.ob 10,kR] σ Q E:=by
 have A2:SA (aG σ 11 .nh) K:=⟨(ay<|by decide).trans A.g,(ay<|by decide).trans A.k,(ay<|by decide).trans A.f3,(ay<|by decide).trans A.f4,(ay<|by decide).trans A.ajJ⟩
 refine aZ rfl rfl λhc=>cJ A.g (K:=gH) rfl rt rfl<|ax (ahl amQ) ?_;refine Yt A2 hc (λ_ _=>rfl) hk K.ol [] hm (by exact dj s9 (eN 5000) [(1,aB,aA)] rt ho) ?_;exact cJ A2.g (K:=gH) rfl rt rfl<|cJ A2.g (K:=gH) rfl rt rfl<|hc<|Yu A2.ajJ k
def MO(n:Nat)(o:Op):Prop:=(mO o).length<=100/\∀m∈mO o,m<n
def vD(n:Nat)(l:List Op):Prop:=∀o∈l,MO n o
section
variable{m:Nat}{g:Option Nat}
theorem vD.Mi{a b:List Op}(h1:vD n a)(h2:vD n b):vD n (a++b):=λo h=>(w8.mp h).elim (h1 o)<|h2 o
theorem mP{o:Op}(h:mO o=[]):MO n o:=⟨by exact h▸bH _,λm q=>by rw[h]at q;exact nomatch q⟩
theorem i3{o:Op}{a b:List Op}(h1:MO n o)(h2:vD n b):vD n (o::b):=λx h=>(dU.mp h).elim (λq=>q▸h1)<|h2 x
theorem GP(h:m<n):MO n (.g8 m):=⟨(by decide:1<=100),λx q=>(fq.mp q)▸h⟩
theorem qU:vD n []:=λ_ h=>nomatch h
theorem afB{a:Ar}:vD n (kS r a):=match a with
 | .js _ _=>i3 (a:=[]) (mP rfl) qU
 | .m4 _ _=>i3 (a:=[]) (mP rfl)<|i3 (a:=[]) (mP rfl) qU
 | .bf _=>qU
theorem Yv:∀{ps}{r:Nat},vD n (eF r ps):=@lr _ _
 (@λ_=>qU)
 (λe ps ih=>@λr=>vD.Mi afB ih)
theorem afC:∀{l}{r:Nat},vD n (gX r l):=@lr _ _
 (@λ_=>qU)
 (λi l ih=>@λr=>i3 (a:=[]) (mP rfl)<|i3 (a:=[]) (mP rfl) ih)
theorem PW:(eV m g).length<=2/\∀x∈eV m g,x<m+(eV m g).length:=by
 induction g using fA with
 |none=>exact ⟨kZ 1,λx h=>(fq.mp h)▸pw _⟩
 |some j=>
  refine ⟨gj 2,λx h=>?_⟩;rcases dU.mp h with q|q
  ·rw[q];exact U0 (by decide:0<2)
  ·rw[fq.mp q];exact pw _
theorem aip(hb:pP m g<n)(hg:∀j,g=aa j->j<n):vD n (qo r m aE es g):=by
 have hw:∀{w rs rest},MO n (.io w rs (eV m g) rest):=λ{w rs rest}=>⟨bo PW.1<|dc rt,λx h=>qf (PW.2 x h) hb⟩
 have hs:∀{b r},vD n (Gx b r):=λ{b r}=>match b with
  |true=>i3 (a:=[]) (mP rfl)<|i3 (a:=[]) (mP rfl) qU
  |false=>qU
 have hz:∀{b r},vD n (fw b r):=λ{b r}=>match b with
  |true=>i3 (a:=[]) (mP rfl)<|i3 (a:=[]) (mP rfl)<|i3 (a:=[]) (mP rfl) qU
  |false=>qU
 refine .Mi (.Mi Yv ?_)<| .Mi (.Mi hz<|i3 (a:=[]) (GP hb) qU)<| .Mi (.Mi hs<|i3 (a:=[]) (GP hb) qU) ?_
 ·delta kf
  cases cL (ab aE) (ab bm)with
  |true=>exact i3 (a:=[]) hw<| .Mi afC<|i3 (a:=[]) (mP rfl) qU
  |false=>exact i3 (a:=[]) hw qU
 ·induction g using fA with
  |none=>exact qU
  |some j=>exact .Mi hs<|i3 (a:=[]) (GP<|hg j rfl) qU
theorem vD.bL{n':Nat}{l:List Op}(h:vD n l)(hn:n<=n'):vD n' l:=λo q=>⟨(h o q).1,λm z=>wX ((h o q).2 m z) hn⟩
theorem JQ:(mN q b r td g).length=(eV m g).length+1:=by induction g using fA<;>rfl
theorem Yw:∀{ps:List v3},iT ps<=2*ps.length:=@lr _ _
 (gj 0)
 (λe ps ih=>by
  have:=ih;exact gS (eA cv aB) vf [(1,aB,eM 2 bb),(1,cv,g9)] rt this (match e.2 with| .js _ _=>kZ 1| .m4 _ _=>gj 2| .bf _=>bH 2:sX e.2<=2))
theorem aiq(S:jO aE es):(BW bf K aE es).r<=K.r+70:=by
 show mo K.r aE es+bN (cG es) (gN<|cA bf es)<=_;delta mo;have:=(λb=>by induction b using fe with|true=>exact bo (ti (l:=es)) S.len|false=>exact bH _:∀b,bN b (fO es).length<=20)<|cL (ab aE)<|ab bm
 exact aaf (eA (eA (eA G0 aB) rR) gO) (eA G0<|eN 70) [(1,aB,eM 2 bb),(2,bb,cv),(2,cv,lZ),(1,gO,EA),(1,rR,lZ)] rt (Yw) (iV (l:=es)) S.len (by cases cG es<;>cases cA bf es<;>exact jA rt:bN (cG es) (gN<|cA bf es)<=4) this
theorem Yx(hl:∀a∈rows,jO a.w a.es/\∀j,cA bf a.es=aa j->j<n):∀l(i:Nat)(K:GK),(∀a∈l,a∈rows)->n<=K.ms.length->vD K.ms.length K.ol->vD (gJ bf i l K).ms.length (gJ bf i l K).ol/\(gJ bf i l K).r<=K.r+70*l.length/\(gJ bf i l K).ms.length<=K.ms.length+3*l.length:=lr
 (@λi K _ _ h=>(k8 h (gj _)<|gj _))
 (λa l ih=>@λi K hs hn h=>by
  refine eh λcy bk=>?_;obtain ⟨S,hj⟩:=hl a<|hs a<|bt _;have km:(oq i K).ms.length=K.ms.length:=fu ..;have e:(BW bf (oq i K) a.w a.es).ms.length=K.ms.length+((eV (oq i K).ms.length<|cA bf a.es).length+1):=by
   exact ah cg<|ah JQ<|ah km rfl
  obtain ⟨h1,h2,h3⟩:=ih (i+1) (BW bf (oq i K) a.w a.es) (λa q=>hs a<|aS _ q) (qE (.v 0) (.v 2) [(1,.v 0,.v 1),(1,.a (.v 1)<| .a (.v 3)<| .n 1,.v 2)] rt hn<|bx e.symm) (vD.Mi (h.bL<|gS (.v 0) (.v 1) [(1,.a (.v 0)<| .a (.v 2)<| .n 1,.v 1)] rt<|bx e.symm) (aip (by rw[e,pP];exact ah km<|cw (.a (.a (.v 0)<| .v 1)<| .n 1) (.a (.v 0)<| .a (.v 1)<| .n 1) [] rt) λj q=>by have:=hj j q;exact Pn (.a (.v 4)<| .n 1) (.v 2) [(1,.v 0,.v 1),(1,.a (.v 1)<| .a (.v 3)<| .n 1,.v 2),(1,.a (.v 4)<| .n 1,.v 0)] rt hn (bx e.symm) this))
  refine bk ?_
  have:(oq i K).r=K.r:=rfl
  refine (k8 h1 ?_ ?_)
  ·exact qE (.v 2) (.a (.v 1)<| .m 70<| .a (.v 3)<| .n 1) [(1,.v 0,.a (.v 1)<| .n 70),(1,.v 2,.a (.v 0)<| .m 70<| .v 3)] rt (aiq (K:=oq i K) S) h2
  ·exact Pn (.v 3) (.a (.v 1)<| .m 3<| .a (.v 4)<| .n 1) [(1,.v 0,.v 1),(1,.v 2,.a (.v 0)<| .n 3),(1,.v 3,.a (.v 2)<| .m 3<| .v 4)] rt (bx km) ((Ff).2) h3)
theorem Xq(R:i0 rows)(akN:∀j,j<=rows.length->bf (fS rows.length j)=j)(ho:K.ol=[])(hr:K.r=0):vD (vp bf rows K).ms.length (vp bf rows K).ol/\(vp bf rows K).r<=1000/\(vp bf rows K).ms.length<=1000/\(vp bf rows K).ol.length<=1000:=by
 have S:∀a∈rows,jO a.w a.es/\∀j,cA bf a.es=aa j->j<rows.length+1:=λa h=>by
  refine eh λcy bk=>?_;obtain ⟨i,hi⟩:=Lb.mp h;refine agE (R.st i a hi) λh1 _ h3=>bk<|⟨h1,λj q=>?_⟩
  rw[cA]at q;refine oc (av (dE a.es)<| .s cQ) (λz=>?_) λv z=>?_
  ·rw[z]at q;exact cV q
  ·
   refine vC (h3 v z) λj' _ h4 h5=>?_;rw[z,h5]at q;have q:bf (fS rows.length j')=j:=cP q;rw[akN j' h4]at q;exact gS Dj ie [(1,aB,bb),(1,cv,aB)] rt h4<|bx q.symm
 have m0:(lE rows.length K).ms.length=rows.length+1:=w0
 obtain ⟨h1,h2,h3⟩:=Yx S rows 0 (lE rows.length K) (λa h=>h) (cw ie aB [(1,eA bb bz,aB)] rt<|bx m0.symm)<|ah ho<|qU
 refine (acH (ah (fu ..)<|vD.Mi h1<|i3 (a:=[]) (mP rfl) qU) ?_ (qE gO aA [(4,aB,kC),(1,bb,eA aB bz),(1,cv,eA bb<|eM 3 aB),(1,gO,cv)] rt R.len (bx m0) h3<|bx<|fu ..) ?_)
 ·exact gS bb aA [(70,aB,kC),(1,bb,eA cv<|eM 70 aB),(1,cv,eC)] rt R.len h2<|bx hr
 ·have e3:(vp bf rows K).ol.length=(gJ bf 0 rows<|lE rows.length K).ol.length+1:=cg
  exact qE gO aA [(100,aB,kC),(1,bb,eA cv<|eM 100 aB),(1,gO,eA bb bz),(1,cv,eC)] rt R.len (IK rows 0 (lE rows.length K) λa h=>(S a h).1) (bx e3) (bx (by refine ah ho ?_;rfl:(lE rows.length K).ol.length=0))
end
def GA(K:GK):H:=[K.st,ae,ae,ae,ae,ae,ae,ae,ae,ae,bJ 165<|Fc K.r K.ss,aM<|uu K.ol,aM K.ms,ae,ae,ae,ae,ae,ae,ae,ae,ae,ae,ae,ae,ae,ae,ae,ae,ae,ae,ae,ae,ae,ae,ae]
def IQ:Nat->List (Int×P)->List (bV×P)->List (bV×P)
 |_,[],b=>b
 |i,e::l,b=>IQ (i+1) l<|aN b (.i e.1)<|nI i
def ajK(rs:Env):Prop:=rs=[]\/∃x y z:P,rs=[(42,.p x),(52,.p y),(51,.p z)]
theorem abf{es:List (bV×P)}{Q:Bool->H->Prop}(h:aW σ n=aa (du es))(k:Q (av es kk).isSome σ):nX (.p kk.val) (.ob n) σ Q E:=by
 have z:∀{oo:Option O},oo=aa (du es)->(match ng (V.yg<| .ob n) (ng aj<|oo.bind O.uV)with
  |some xs=>M.aQ (V.pl<| .p kk.val) λx=>.eD (cK 8 x=ag/\dS 8 xs=ag)<| .ok<|cO x xs
  |none=>.aQ (V.lj<| .p kk.val) λk=>match ng aj (oo.bind O.Ih)with
   |some es=>M.ok (av es k).isSome
   |none=>.aQ (oo.bind O.yS) λes=>.ok (av es k).isSome) σ Q E:=λe=>by
  rw[e]
  cases kk<;>exact k
 exact z h
theorem abg{Q:Unit->H->Prop}{es:List (bV×P)}{i:Int}{x:P}(h:aW σ n=aa (du es))(hl:es.length<=1000)(k:Q ()<|aG σ n<|du<|aN es (.i i) x):iA (.ob n) (.p<|af i) (.p x) σ Q E:=ax (a:=n) rfl<|ax (a:=O.dc es) h ⟨bo hl<|dc rt,k⟩
theorem Yy(k:Q (.ob 13)<|y4 {K with lb:=[]}):ba TT NN (d+2) ak (.p<| .cls 605) [] (GA K) Q E:=by
 have e:aG (aG (GA K) 14<|du []) 13 zx=y4 {K with lb:=[]}:=by unfold y4;rfl
 rw[<-e]at k;exact xO (K:=u1) (F:=yW) (n:=13) rfl rt rfl (C' rfl) rfl rfl λcl cf _=>⟨bH _,(by decide:1<=500),(by decide:2<=500),(by decide:3<=500),(by decide:4<=500),k⟩
theorem PX(h0:l≠0)(hn:av K.lb (.i l)=aj)(hl:K.lb.length<=1000)(k:Q (.p .none)<|y4 {K with lb:=aN K.lb (.i l) (af z)}):ba TT NN (d+1) ak (.p<|aI 616) [.ob 13,.p<|af l,.p<|af z] (y4 K) Q E:=
 aZ rfl rfl λhc=>ly (x:=af l) (y:=af 0) rt rt (λq=>absurd (eq_of_beq q) h0) λ_=>ik (cJ ac3 (K:=u1) rfl rt rfl<|abf (kk:=.i l) ac4<|pN (λq=>by rw[hn]at q;nomatch q) λ_=>ik<|cJ ac3 (K:=u1) rfl rt rfl<|abg ac4 hl<|by rw[afv];exact k)
theorem TV{Q:Fl->Env->H->Prop}{E:Env->H->Prop}{c:X}{b r:S}(k:WQ (λm=>rX C m c) (iR C cf b) C0 m σ (HZ (iR C cf r) Q E) E):iR C cf (.cons (.sG c b) r) m σ Q E:=k
theorem Fh{a b c:V}(k:Q (.p .none) σ):ba TT NN (d+1) ak (.p<|aI 637) [a,.p<|aL [],.p<|aL [],b,c] σ Q E:=by
 exact aZ rfl rfl λhc=>TV<|ah (show C0=99999+1 from rfl)<|⟨bH _,k⟩
noncomputable abbrev Z2 (fl:List P) (rs:Env):Env:=(11,.p<|aL fl)::(17,.ob 13)::(152,.p<|aL [])::(16,.p<|aL [])::rs
theorem RM{Q:Fl->Env->H->Prop}{E:Env->H->Prop}{fl:List P}{xs:List P}{y:P}(hc:jo cl (d+1) ak)(hi:pU fl.length z=aa j)(hj:fl[j]?=aa (aw [af l,aw<|ab w::xs,y]))(f1:cL (ab w) (ab [105,102])=ak)(f2:cO (ab w) [ab l9,ab tJ,ab A9]=ak)(f3:cL (ab w) (ab [100,111])=ak)(h0:l≠0)(hn:av K.lb (.i l)=aj)(hl:K.lb.length<=1000)(hr:ajK rs)(k:Q bE (Z2 fl [(42,it z),(52,it l),(51,.p<|aw<|ab w::xs)])<|y4 {K with lb:=aN K.lb (.i l) (af z)}):ez cl cf t7 (Z2 fl<|aN rs 42<|it z) (y4 K) Q E:=by
 rcases hr with h|⟨a,b,c,h⟩<;>rw[h]
 ·exact gz hi hj<|gz hi hj<|hc<|PX h0 hn hl<|cT f1 rt rt<|yt (y:=ab w) rt rt (λq=>tf q f2) λ_=>cT f3 rt rt<|hc<|Fh k
 ·exact gz hi hj<|gz hi hj<|hc<|PX h0 hn hl<|cT f1 rt rt<|yt (y:=ab w) rt rt (λq=>tf q f2) λ_=>cT f3 rt rt<|hc<|Fh k
structure amR(e:Int×P):Prop where
 n:e.1≠0
 w:∃w xs,e.2=aw (ab w::xs)/\cL (ab w) (ab [105,102])=ak/\cO (ab w) [ab l9,ab tJ,ab A9]=ak/\cL (ab w) (ab [100,111])=ak
abbrev ad3(l:List<|Int×P):Prop:=l.Pairwise λa b=>a.1≠b.1
theorem abh{x:Int}:∀{l}{i:Nat}{b},(∀e∈l,e.1≠x)->av (IQ i l b) (.i x)=av b (.i x):=@lr _ _
 (@λ_ _ _=>rfl)
 (λe l ih=>@λi b h=>(ih λe q=>h e<|aS _ q).trans<|gp λq=>h e (bt _) (bV.i.inj q).symm)
theorem Xr:∀{l}{i j:Nat}{b:List (bV×P)}{e:Int×P},ad3 l->l[j]?=aa e->av (IQ i l b) (.i e.1)=aa (nI<|i+j)
 |[],_,_,_,_,_,h=>nomatch h
 |a::l,i,0,b,e,D,h=>by
  have h:a=e:=cP h;subst h;refine ah (abh λe q=>(U9 D q).symm)<|ah jq ?_;rfl
 |a::l,i,j+1,b,e,D,h=>by
  have:=Xr (l:=l) (i:=i+1) (j:=j) (b:=aN b (.i a.1)<|nI i) D.of_cons h;exact ah (show i+(j+1)=i+1+j by exact kn (cw wg mX [] rt) (cw mX wg [] rt))<|this
theorem RN{Q:Fl->Env->H->Prop}{E:Env->H->Prop}{fl:List P}(hc:jo cl (d+1) ak)(Xj:fl.length<=1000):∀l(i:Nat)(K:GK)(rs:Env),(∀j e,l[j]?=aa e->fl[i+j]?=aa (iH e))->(∀e∈l,amR e/\av K.lb (.i e.1)=aj)->ad3 l->K.lb.length+l.length<=1000->ajK rs->(∀rs,ajK rs->Q bE (Z2 fl rs) (y4 {K with lb:=IQ i l K.lb}))->jf (lW ⟨TT,NN,cl,ak,3⟩ cf [42] t7) ((jQ i l.length).map λ(k:Nat)=>P.int<|0+(k:Int)) (Z2 fl rs) (y4 K) Q E:=lr
 (λi K rs _ _ _ _ hr k=>k rs hr)
 (λe l b5 i K rs h1 h2 D h3 hr k=>by
  have hj:=h1 0 e rfl;refine eh λcy bk=>?_;obtain ⟨⟨h0,w,xs,hx,f1,f2,f3⟩,hn⟩:=h2 e<|bt _;refine bk ?_;rw[(by delta iH;rw[hx]:iH e=aw [af e.1,aw<|ab w::xs,af 0])]at hj;have ih:=λrs hr=>b5 (i+1) {K with lb:=aN K.lb (.i e.1) (nI i)} rs (λj a q=>ah (show i+1+j=i+(j+1) by exact kn (cw mX wg [] rt) (cw wg mX [] rt))<|h1 (j+1) a q) (λa q=>⟨(h2 a<|aS _ q).1,by
   exact ah (gp λz=>(U9 D q) (bV.i.inj z).symm)<|(h2 a<|aS _ q).2⟩) D.of_cons (by exact gS (eA cv bb) aA [(1,eA aB ie,aA),(1,cv,eA aB bz)] rt h3<|o8) hr k
  have en:nI i=af (0+(i:Int)):=by delta nI;rw[AN]
  rw[en]at ih
  exact RM hc (gq (ko (dp s9 (eA aB eC) [] rt)<|dp (eA aB eC) s9 [] rt) (jL hj)<|bo Xj<|dc rt) hj f1 f2 f3 h0 hn (cw aB aA [(1,eA aB ie,aA)] rt h3) hr<|ih _<|bM<|Po _ _ _ rfl)
theorem Fi(R:i0 rows):ad3 (dQ rows):=List.pairwise_iff_getElem.mpr λi j hi hj amS=>by
 rw[lC]at hi hj;refine ue (tj R (i:=i)<|cw aB bb [(1,eA aB bz,eA bb bz)] rt hi) λx hx=>?_;obtain ⟨y,hy⟩:=tj R (i:=j)<|cw aB bb [(1,eA aB bz,eA bb bz)] rt hj;refine ah ((pz.mp hx).2) ?_;refine ah ((pz.mp hy).2) ?_;exact zT amS (cw aB bb [(1,eA aB bz,eA bb bz)] rt hj) R.len
theorem Yz(R:i0 rows){e:Int×P}(h:e∈dQ rows):e.1≠0/\(e.2=aw [ab dw]\/∃(i:Nat)(a:pV),rows[i]?=aa a/\e.2=Ng a):=by
 rcases w8.mp h with q|q
 ·refine cE (nQ.mp q) λa ha w2=>?_;subst w2
  obtain ⟨i,hi⟩:=Lb.mp ha;exact ⟨by exact (R.bf i a hi)▸E5,bM<|jY i a hi rfl⟩
 ·exact (fq.mp q)▸⟨by decide,bW rfl⟩
theorem abi(R:i0 rows)(hw:∀(i:Nat) a,rows[i]?=aa a->sN a.w)(k:Q (.ob 13)<|y4 {K with lb:=IQ 0 (dQ rows) []}):ba TT NN (d+3) ak (.p<|aI 644) [.p<|aL<|(dQ rows).map iH] (GA K) Q E:=by
 obtain ⟨t1,hb⟩:∃t1,t1=rows.length+1:=⟨_,rfl⟩
 have f1:((dQ rows).map iH).length=t1:=by rw[cq,lC,hb]
 have f2:(dQ rows).length=t1:=by rw[lC,hb]
 refine aZ rfl rfl λhc=>hc (Yy<|hc ⟨by refine ah f1 ?_;exact bo (bx hb)<|bo (kY R.len)<|dc rt,?_⟩);refine ah f1<|hc<|o9 (kQ<|cw bb aA [(1,aB,kC),(1,bb,eA aB bz)] rt R.len<|bx hb) ?_;refine ah f2.symm<|RN hc (gS cv aA [(1,aB,kC),(1,bb,eA aB bz),(1,cv,bb)] rt R.len (bx hb)<|bx f1) (dQ rows) 0 {K with lb:=[]} [] (λj e q=>by rw[lN,mz,q];rfl) (λe q=>⟨?_,rfl⟩) (Fi R) (by exact gS (eA eC cv) aA [(1,aB,kC),(1,bb,eA aB bz),(1,cv,bb)] rt R.len (bx hb)<|bx f2) (bW rfl) λrs hr=>?_
 ·obtain ⟨h1,h2⟩:=Yz R q
  refine ⟨h1,?_⟩;rcases h2 with h|⟨i,a,hi,h⟩
  ·exact (Dk _ _ h (dc rt) (dc rt)<|dc rt)
  ·exact (Dk a.w _ h (hw i a hi).f1 (hw i a hi).f2 (hw i a hi).f3)
 ·rcases hr with h|⟨_,_,_,h⟩<;>rw[h]<;>exact ⟨bH _,bH _,k⟩
theorem afD(R:i0 rows)(hw:∀(i:Nat) (a:pV),rows[i]?=aa a->sN a.w)(hl:∀j,j<=rows.length->bf (fS rows.length j)=j):TU rows bf (IQ 0 (dQ rows) []) where
 w:=hw
 bf:=hl
 lb:=λj h=>by
  obtain ⟨x,hx⟩:=tj R h;have:=Xr (i:=0) (b:=[]) (Fi R) hx;rw[lN]at this;exact this
structure ip(σ:H)(a b y:Nat):Prop where
 h:(y=a/\aW σ a=aa ae)\/(y=b/\(∃o,aW σ a=aa o/\o.ig=ak)/\aW σ b=aa ae)
section
variable{b:Nat}
theorem ip.f(p:ip σ a b y):aW σ y=aa ae:=p.h.elim (λh=>h.1▸h.2) λh=>h.1▸h.2.2
theorem ip.ff(p:ip σ a b y):eG σ [a,b]=aa y:=by
 rcases p.h with ⟨rfl,h⟩|⟨rfl,⟨o,h,h1⟩,h2⟩
 ·have z:∀{oo},oo=aa ae->(match oo.map O.ig with|some ag=>aa y|_=>eG σ [b])=aa y:=λe=>by refine ah e ?_;rfl
  exact z h
 ·have z:∀{oo},oo=aa o->(match oo.map O.ig with|some ag=>aa a|_=>eG σ [y])=aa y:=λe=>by
   refine ah e ?_;show (match aa o.ig with|some ag=>aa a|_=>eG σ [y])=aa y;exact h1▸C' h2
  exact z h
theorem ip.set(p:ip σ a b y)(h1:c≠a)(h2:c≠b):ip (aG σ c o) a b y:=⟨p.h.imp (λh=>⟨h.1,(ay h1).trans h.2⟩) λh=>(k8 h.1 (h.2.1.imp λo z=>⟨(ay h1).trans z.1,z.2⟩)<|(ay h2).trans h.2.2)⟩
theorem pg(p:ip σ a b y)(k:Q (.ob y)<|aG σ y o):alloc [a,b] o σ Q E:=by
 show M.aQ (eG σ [a,b]) (λn=>M.bind (fP n o) λ_=>M.ok<|V.ob n) σ Q E;exact p.ff▸k
theorem Oj(h:aW σ 20=aa ae)(k:Q (.ob 20)<|aG σ 20 Rc):ba TT NN (d+2) ak (.p<| .cls 854) [] σ Q E:=
 xO (K:=jn) (F:=mT) (n:=20) rfl rt rfl (C' h) rfl rfl λcl cf _=>dF h (K:=jn) rfl rt rt<|dF h (K:=jn) rfl rt rt<|dF h (K:=jn) rfl rt rt<|dF h (K:=jn) rfl rt rt<|dF h (K:=jn) rfl rt rt<|dF h (K:=jn) rfl rt rt<|dF h (K:=jn) rfl rt rt<|dF h (K:=jn) rfl rt rt k
def Nl(w io ops:V):List (Nat×V):=[(182,.ob 21),(200,.ob 20),(201,kR),(202,kR),(12,ops),(203,kR),(204,io),(206,.p<|aI 905),(140,w),(207,kR),(208,kR),(10,kR),(107,kR),(209,.p<|aL []),(180,.ob 16),(196,it 0)]
theorem YA(h:aW σ 15=aa ae)(h2:aW σ 16=aa ae)(k:Q (.ob 15)<|aG (aG σ 16<|aM []) 15<|bJ 875<|Nl (.p .none) kR kR):ba TT NN (d+2) ak (.p<| .cls 875) [.ob 21,.ob 20,kR,kR] σ Q E:=by
 refine xO (K:=bT) (F:=ui) (n:=15) rfl rt rfl (C' h) rfl rfl λcl cf _=>dF h (K:=bT) rfl rt rt<|dF h (K:=bT) rfl rt rt<|dF h (K:=bT) rfl rt rt<|dF h (K:=bT) rfl rt rt<|dF h (K:=bT) rfl rt rt<|dF h (K:=bT) rfl rt rt<|dF h (K:=bT) rfl rt rt<|dF h (K:=bT) rfl rt rt<|dF h (K:=bT) rfl rt rt<|dF h (K:=bT) rfl rt rt<|dF h (K:=bT) rfl rt rt<|dF h (K:=bT) rfl rt rt<|dF h (K:=bT) rfl rt rt<|dF h (K:=bT) rfl rt rt ?_;exact jt (n:=16) ((ay<|by decide).trans h2)<|ah (dA (n:=15) (k:=16)<|by decide)<|dF ((ay<|by decide).trans h) (K:=bT) rfl rt rt (dF ((ay<|by decide).trans h) (K:=bT) rfl rt rt k)
theorem YB{F:List P}(hr:r<=1000)(h:aW σ 17=aa ae)(h2:aW σ 18=aa ae)(amT:aW σ 19=aa (xQ F r))(k:Q (.ob 17)<|aG (aG σ 18<|aM<|iu r .none) 17 C7):ba TT NN (d+2) ak (.p<| .cls 896) [.ob 19,.p ag7] σ Q E:=by
 refine xO (K:=jI) (F:=yX) (n:=17) rfl rt rfl (C' h) rfl rfl λcl cf _=>dF h (K:=jI) rfl rt rt<|dF h (K:=jI) rfl rt rt ?_;refine cJ ((ay<|by decide).trans amT) (K:=sI) rfl rt rfl<|⟨(⟨dp eC aB [(1,eC,aB)] rt<|gG _,dp aB aA [(1,aB,aA)] rt<|cS.mpr hr⟩),?_⟩
 rw[xe];exact jt (n:=18) ((ay<|by decide).trans h2)<|ah (dA (n:=17) (k:=18)<|by decide)<|dF ((ay<|by decide).trans h) (K:=jI) rfl rt rt (dF ((ay<|by decide).trans h) (K:=jI) rfl rt rt<|dF ((ay<|by decide).trans h) (K:=jI) rfl rt rt k)
end
section
variable{b:Nat}
theorem Dc{K:cN}{F:aT}(hK:TT.cls c=aa K)(he:(!K.d5)=ag)(ha:K.al=[a,b])(p:ip σ a b y)(hF:TT.fn K.init=aa F)(hm:ow [] F.params (oZ F<| .ob y::args)=aa m)(k:∀(cl:V->List V->M V) (cf:Bool->V->List V->M V),jo cl d hd->iR ⟨TT,NN,cl,hd,3⟩ cf F.body m (aG σ y<|bJ c []) (l3<|hM (λr=>M.lS (j0 r)<|M.ok<|V.ob y) Q E) (sH E)):ba TT NN (d+2) hd (.p<| .cls c) args σ Q E:=xO hK he ha (ha▸p.ff) hF hm k
theorem Fj(hy:y=28\/y=32)(p:ip σ 28 32 y)(p2:ip σ 29 33<|y+1)(k:Q (.ob y)<|aG (aG σ (y+1)<|cH []) y<|bJ 411 [(93,.ob<|y+1)]):ba TT NN (d+2) ak (.p<| .cls 411) [] σ Q E:=by
 rcases hy with rfl|rfl
 ·exact Dc (K:=o0) (F:=rY) rfl rt rfl p rfl rfl λcl cf _=>pg (p2.set (by decide)<|by decide)<|ah (dA<|by decide)<|dF (n:=28) ((ay<|by decide).trans p.f) (K:=o0) rfl rt rt k
 ·exact Dc (K:=o0) (F:=rY) rfl rt rfl p rfl rfl λcl cf _=>pg (p2.set (by decide)<|by decide)<|ah (dA<|by decide)<|dF (n:=32) ((ay<|by decide).trans p.f) (K:=o0) rfl rt rt k
theorem Fm(hx:x=27\/x=31)(p:ip σ 27 31 x)(p2:ip σ 30 34<|x+3)(k:Q (.ob x)<|aG (aG σ (x+3)<|cH []) x<|sL x):ba TT NN (d+2) ak (.p<| .cls 976) [.p<|aL [],.ob<|x+1] σ Q E:=by
 have h:=p.f;rcases hx with rfl|rfl
 ·refine Dc (K:=dX) (F:=r8) rfl rt rfl p rfl rfl λcl cf _=>dF h (K:=dX) rfl rt rt (dF h (K:=dX) rfl rt rt<|dF h (K:=dX) rfl rt rt<|dF h (K:=dX) rfl rt rt<|pg (p2.set (by decide)<|by decide) ?_)
  exact ah (dA<|by decide)<|dF (n:=27) ((ay<|by decide).trans h) (K:=dX) rfl rt rt (dF ((ay<|by decide).trans h) (K:=dX) rfl rt rt k)
 ·refine Dc (K:=dX) (F:=r8) rfl rt rfl p rfl rfl λcl cf _=>dF h (K:=dX) rfl rt rt (dF h (K:=dX) rfl rt rt<|dF h (K:=dX) rfl rt rt<|dF h (K:=dX) rfl rt rt<|pg (p2.set (by decide)<|by decide) ?_)
  exact ah (dA<|by decide)<|dF (n:=31) ((ay<|by decide).trans h) (K:=dX) rfl rt rt (dF ((ay<|by decide).trans h) (K:=dX) rfl rt rt k)
abbrev PY(x:Nat)(σ:H):H:=aG (aG (aG (aG σ (x+2)<|cH []) (x+1)<|bJ 411 [(93,.ob<|x+2)]) (x+3)<|cH []) x<|sL x
noncomputable abbrev nc (n:Nat):List P:=iu n .none
theorem abj(hy:y=21\/y=24)(p:ip σ 21 24 y)(p2:ip σ 22 25<|y+1)(p3:ip σ 23 26<|y+2)(k:Q (.ob y)<|aG (aG (aG σ (y+1)<|aM<|nc 6) (y+2)<|aM<|nc 13) y<|zQ y):ba TT NN (d+2) ak (.p<| .cls 682) [it 6,it 13] σ Q E:=by
 rcases hy with rfl|rfl
 ·refine Dc (K:=eQ) (F:=pZ) rfl rt rfl p rfl rfl λcl cf _=>⟨by decide,pg (p2.set (by decide)<|by decide) ?_⟩
  refine ah (dA<|by decide)<|dF (n:=21) ((ay<|by decide).trans p.f) (K:=eQ) rfl rt rt ⟨by decide,pg ((p3.set (by decide)<|by decide).set (by decide)<|by decide) ?_⟩;exact ah (dA (n:=21)<|by decide)<|dF (n:=21) ((ay<|by decide).trans<|(ay<|by decide).trans p.f) (K:=eQ) rfl rt rt k
 ·refine Dc (K:=eQ) (F:=pZ) rfl rt rfl p rfl rfl λcl cf _=>⟨by decide,pg (p2.set (by decide)<|by decide) ?_⟩
  refine ah (dA<|by decide)<|dF (n:=24) ((ay<|by decide).trans p.f) (K:=eQ) rfl rt rt ⟨by decide,pg ((p3.set (by decide)<|by decide).set (by decide)<|by decide) ?_⟩;exact ah (dA (n:=24)<|by decide)<|dF (n:=24) ((ay<|by decide).trans<|(ay<|by decide).trans p.f) (K:=eQ) rfl rt rt k
end
@[irreducible] def M3(y:Nat)(σ:H)(ns cs:List P):H:=aG (aG (aG σ (y+1)<|aM ns) (y+2)<|aM cs) y<|zQ y
def M0:Mem:=⟨0,1,2,3,ak,ak,qP 10 [80],qP 3 [80]⟩
structure xR(y:Nat)(σ:H):Prop where
 a:aW σ y=aa ae
 b:aW σ (y+1)=aa ae
 c:aW σ (y+2)=aa ae
section
variable{ns cs:List P}
theorem zA:M3 y σ ns cs=aG (aG (aG σ (y+1)<|aM ns) (y+2)<|aM cs) y (zQ y):=by with_unfolding_all rfl
theorem wx(t:xR y σ):aW (M3 y σ ns cs) y=aa (zQ y):=by rw[zA];exact cz<|(ay λh_=>eH 0<|dj bz eC [(1,eA aB g9,aB)] rt<|bx h_).trans<|(ay λh_=>eH 0<|dj bz eC [(1,eA aB bz,aB)] rt<|bx h_).trans t.a
theorem RO(t:xR y σ):aW (M3 y σ ns cs) (y+1)=aa (aM ns):=by rw[zA];exact (ay λh_=>eH 0<|dj bz eC [(1,eA aB bz,aB)] rt<|bx h_.symm).trans<|(ay λh_=>eH 0<|dj bz eC [(1,eA aB g9,eA aB bz)] rt<|bx h_).trans<|cz t.b
theorem ahm(t:xR y σ):aW (M3 y σ ns cs) (y+2)=aa (aM cs):=by rw[zA];exact (ay λh_=>eH 0<|dj bz eC [(1,eA aB g9,aB)] rt<|bx h_.symm).trans<|cz<|(ay λh_=>eH 0<|dj bz eC [(1,eA aB g9,eA aB bz)] rt<|bx h_.symm).trans t.c
theorem air{aas:List P}:aG (M3 y σ ns cs) (y+1) (aM aas)=M3 y σ aas cs:=by
 rw[zA,dA (n:=y) (k:=y+1) λh_=>eH 0<|dj bz eC [(1,eA aB bz,aB)] rt<|bx h_.symm,dA (n:=y+2) (k:=y+1) λh_=>eH 0<|dj bz eC [(1,eA aB g9,eA aB bz)] rt<|bx h_];refine ah dT ?_;exact zA.symm
theorem ais{alN:List P}:aG (M3 y σ ns cs) (y+2) (aM alN)=M3 y σ ns alN:=by
 rw[zA,dA (n:=y) (k:=y+2) λh_=>eH 0<|dj bz eC [(1,eA aB g9,aB)] rt<|bx h_.symm];refine ah dT ?_;exact zA.symm
theorem Dd{Q:V->H->Prop}{E:H->Prop}{kd:Int}{a:Nat}{v:P}(t:xR y σ)(hl:ns.length=6)(hk:kd=0\/kd=4)(ha:a<6)(k:Q (.p .none)<|M3 y σ (ns.set a<|aw [af kd,v]) cs):ba TT NN (d+4) hd (.p<|aI 672) [.ob y,.p<|aw [af kd,af a,af 0,aw []],.p v] (M3 y σ ns cs) Q E:=by
 have h0:=kq.mpr<|gG a;have h1:¬(ns.length:Int)<a+1:=(kq.mpr<|rQ (.a (.v 1)<| .n 1) (.v 0) [(1,.n 6,.v 0),(1,.a (.v 1)<| .n 1,.n 6)] rt (cS.mpr<|bx hl.symm)<|cS.mpr ha)
 have h2:0<=(a:Int)/\(a:Int)<ns.length/\(a:Int)<10000000:=(⟨dp (.n 0) (.v 0) [(1,.n 0,.v 0)] rt<|gG _,⟨rQ (.a (.v 0)<| .n 1) (.v 1) [(1,.n 6,.v 1),(1,.a (.v 0)<| .n 1,.n 6)] rt (cS.mpr<|bx hl.symm)<|cS.mpr ha,dp (.a (.v 0)<| .n 1) (.n 10000000) [(1,.a (.v 0)<| .n 1,.n 6)] rt<|cS.mpr ha⟩⟩)
 have hl:ns.length<=1000:=(dj (.v 0) (.n 1000) [(1,.v 0,.n 6)] rt<|bx hl)
 rw[<-air]at k;induction hk using xl with
 |inl h=>subst h;exact aZ rfl rfl λhc=>⟨⟨rt,rt⟩,bH _,cJ (wx t) (K:=eQ) rfl rt rfl<|hc<|aZ rfl rfl λhc=>hc<|Bi (bW rfl)<|hc<|kG (RO t) hl h0 h1 ⟨⟨rt,rt⟩,bH _,tR (RO t) h2 ⟨⟨rt,rt⟩,bH _,k⟩⟩⟩
 |inr h=>subst h;exact aZ rfl rfl λhc=>⟨⟨rt,rt⟩,bH _,cJ (wx t) (K:=eQ) rfl rt rfl<|hc<|aZ rfl rfl λhc=>hc<|Bi (bM rfl)<|hc<|kG (RO t) hl h0 h1 ⟨⟨rt,rt⟩,bH _,tR (RO t) h2 ⟨⟨rt,rt⟩,bH _,k⟩⟩⟩
theorem ac5{m:Nat}{x:Tx}{L jN post:List P}(t:xR y σ)(hc:cs=L++(jN++post))(hL:L.length=a)(ho:jN.length=m)(ha:a<=100)(hm:m<=100)(hx:x.length<=100)(hp:cs.length<=1000)(k:Q (.p .none)<|M3 y σ ns<|L++(vX (qP m x)++post)):ba TT NN (d+4) ak (.p<|aI 672) [.ob y,.p<|aw [af 5,af a,af m,aw []],.p<|ab x] (M3 y σ ns cs) Q E:=by
 subst hc;rw[<-ais]at k;exact aZ rfl rfl λahn=>⟨⟨rt,rt⟩,bH _,cJ (wx t) (K:=eQ) rfl rt rfl<|ahn<|Mb hm hx<|ahn<|vH (a:=a) (L:=L) (ahm t) hL (by refine ah jr<|ah ho ?_;rfl) ha (ah jr<|hm) hp k⟩
theorem PZ(hy:y=21\/y=24)(t:xR y σ)(p:ip σ 21 24 y)(p2:ip σ 22 25<|y+1)(p3:ip σ 23 26<|y+2)(k:Q (.ob y)<|M3 y σ (rC M0)<|iS M0):ba TT NN (d+5) ak (.p<|aI 1077) [] σ Q E:=by
 have ec:iS M0=vX (qP 10 [80])++(vX (qP 3 [80])++[]):=vY.trans (by rw[fc];rfl);have alO:(vX<|qP 10 [80]).length=10:=rfl;rw[ec]at k;refine aZ rfl rfl @λcl cf hc=>hc<|abj hy p p2 p3 ?_;refine ah (show aG (aG (aG σ (y+1)<|aM<|nc 6) (y+2)<|aM<|nc 13) y (zQ y)=M3 y σ (nc 6) (nc 13)from by unfold M3;rfl) ?_;show ez cl cf oz [(182,.ob y),(62,.p<|ab [83])] (M3 y σ _ _) _ _;refine b8 (wx t) (mk:=.cY 672) rfl<|hc<|Dd (a:=0) t rfl (bW rfl) (dc rt) ?_;refine b8 (wx t) (mk:=.cY 672) rfl<|hc<|Dd (a:=1) t rfl (bW rfl) (dc rt) ?_;show ez cl cf oz [(182,.ob y),(62,.p<|ab [82]),(33,.p<|yZ 78)] (M3 y σ _ _) _ _;refine b8 (wx t) (mk:=.cY 672) rfl<|hc<|Dd (a:=2) t rfl (bW rfl) (dc rt) ?_;refine b8 (wx t) (mk:=.cY 672) rfl<|hc<|Dd (a:=3) t rfl (bW rfl) (dc rt) ?_;refine b8 (wx t) (mk:=.cY 672) rfl<|hc<|Dd (a:=4) t rfl (bM rfl) (dc rt) ?_;refine b8 (wx t) (mk:=.cY 672) rfl<|hc<|Dd (a:=5) t rfl (bM rfl) (dc rt) ?_;refine b8 (wx t) (mk:=.cY 672) rfl<|hc<|ac5 (a:=0) (m:=10) (L:=[]) (jN:=nc 10) (post:=nc 3) t rfl rfl rfl (dc rt) (dc rt) (dc rt) (dc rt) ?_;refine b8 (wx t) (mk:=.cY 672) rfl<|hc<|ac5 (a:=10) (m:=3) (jN:=nc 3) t rfl alO rfl (dc rt) (dc rt) (dc rt) ?_ ?_
 ·show (vX (qP 10 [80])++nc 3).length<=1000
  refine ah cg<|ah alO ?_;decide
 ·exact k
end
section
set_option tactic.hygienic true
noncomputable def L0 (st:O):H:=[st,ae,ae,ae,ae,ae,ae,ae,ae,ae,ae,ae,ae,ae,ae,ae,ae,ae,ae,ae,ae,ae,ae,ae,ae,ae,ae,ae,ae,ae,ae,ae,ae,ae,ae,ae]
noncomputable def K0 (st:O):GK:=⟨st,0,[],[],[],[]⟩
section
variable{st:O}{F:List P}
theorem aat(h:gb n 1000000=ag):n<=bZ:=jA h
theorem YC(k:Q (.p ac1)<|L0 st):ba TT NN (d+1) ak (.p<|aI 232) [.p<|aL [cu [.s i8,.s iB,.s bm,.s fW,.s ka,.s ke] [aI 357,aI 357,aI 362,aI 357,aI 357,aI 357],cu [.s dw] [aI 293]]] (L0 st) Q E:=(by kernel_rfl:(0<=bZ/\1<=bZ/\2<=bZ/\3<=bZ/\4<=bZ/\5<=bZ/\6<=bZ/\Q (.p ac1) (L0 st))=ba TT NN (d+1) ak (.p<|aI 232) [.p<|aL [cu [.s i8,.s iB,.s bm,.s fW,.s ka,.s ke] [aI 357,aI 357,aI 362,aI 357,aI 357,aI 357],cu [.s dw] [aI 293]]] (L0 st) Q E)▸(amz (aat rt) (aat rt) (aat rt) (aat rt) (aat rt) (aat rt) (aat rt) k)
theorem abk(k:Q (.ob 10)<|GA<|K0 st):ba TT NN (d+2) ak (.p<| .cls 165) [.p ahd,.p ahe,.p ac1] (L0 st) Q E:=ah (by kernel_rfl:(0<=500/\1<=500/\2<=500/\3<=500/\4<=500/\5<=500/\6<=500/\7<=500/\8<=500/\9<=500/\10<=500/\11<=500/\Q (.ob 10) (GA<|K0 st))=ba TT NN (d+2) ak (.p<| .cls 165) [.p ahd,.p ahe,.p ac1] (L0 st) Q E).symm<|⟨by decide,by decide,by decide,by decide,by decide,by decide,by decide,by decide,by decide,by decide,by decide,by decide,k⟩
@[irreducible] def hA(K:GK):H:=M3 21 (GH ae ae ae K) (rC M0)<|iS M0
@[irreducible] def hB(K:GK):H:=aG (hA K) 20 Rc
@[irreducible] def hC(K:GK):H:=aG (aG (hB K) 16<|aM []) 15<|bJ 875<|Nl (.p .none) kR kR
@[irreducible] def hD(K:GK):H:=PY 27<|hC K
@[irreducible] def hE(K:GK):H:=aG (hD K) 15<|vo 0
@[irreducible] def hF(K:GK)(F:List P)(r:Nat):H:=aG (aG (hE K) 11 .nh) 19<|xQ F r
@[irreducible] def hG(K:GK)(F:List P)(r:Nat):H:=aG (aG (hF K F r) 18<|aM<|nc r) 17 C7
def ac6(K:GK)(F:List P)(r:Nat)(k:Nat):O:=(aW [K.st,ae,ae,ae,ae,ae,ae,ae,ae,ae,Rr K.r K.ss,.nh,aM K.ms,zx,du K.lb,ae,ae,ae,ae,xQ F r] k).getD ae
noncomputable def W0:Wd:=⟨[],[],[]⟩
theorem ait:hG K F r=MH (ac6 K F r) 0 [] (nc r) M0 W0:=by kernel_rfl
theorem rG(h:aW (aG (aG (aG [K.st,ae,ae,ae,ae,ae,ae,ae,ae,ae,Rr K.r K.ss,aM<|uu K.ol,aM K.ms,zx,du K.lb,ae,ae,ae,ae,ae,ae,ae,ae,ae,ae,ae,ae,ae,ae,ae,ae,ae,ae,ae,ae,ae] 22<|aM<|rC M0) 23<|aM<|iS M0) 21<|zQ 21) k=aa o):aW (hA K) k=aa o:=by
 delta hA M3 GH;exact h
theorem abl:xR 21 (GH ae ae ae K):=by unfold GH;exact ⟨rfl,rfl,rfl⟩
theorem Mj:ip (GH ae ae ae K) 21 24 21/\ip (GH ae ae ae K) 22 25 22/\ip (GH ae ae ae K) 23 26 23:=by unfold GH;exact (k8 ⟨bW ⟨rfl,rfl⟩⟩ ⟨bW ⟨rfl,rfl⟩⟩ ⟨bW ⟨rfl,rfl⟩⟩)
theorem aiu:aW (hA K) 20=aa ae:=rG rfl
theorem TX:aW (hB K) 15=aa ae/\aW (hB K) 16=aa ae:=by delta hB;exact ⟨(ay<|by decide).trans<|rG rfl,(ay<|by decide).trans<|rG rfl⟩
theorem RP(h:aW (hA K) k=aa o)(h1:20≠k)(h2:16≠k)(h3:15≠k):aW (hC K) k=aa o:=by delta hC;delta hB;exact (ay h3).trans<|(ay h2).trans<|(ay h1).trans h
theorem Xs:ip (hC K) 28 32 28/\ip (hC K) 29 33 29:=⟨⟨bW ⟨rfl,RP (rG rfl) (dc rt) (dc rt)<|dc rt⟩⟩,⟨bW ⟨rfl,RP (rG rfl) (dc rt) (dc rt)<|dc rt⟩⟩⟩
theorem Xt:ip (aG (aG (hC K) 29<|cH []) 28<|bJ 411 [(93,.ob 29)]) 27 31 27/\ip (aG (aG (hC K) 29<|cH []) 28<|bJ 411 [(93,.ob 29)]) 30 34 30:=
 ⟨⟨bW ⟨rfl,(ay<|by decide).trans<|(ay<|by decide).trans<|RP (rG rfl) (dc rt) (dc rt)<|dc rt⟩⟩,⟨bW ⟨rfl,(ay<|by decide).trans<|(ay<|by decide).trans<|RP (rG rfl) (dc rt) (dc rt)<|dc rt⟩⟩⟩
theorem TY:aW (hD K) 15=aa (bJ 875<|Nl (.p .none) kR kR):=by delta hD;delta hC;exact (ay<|by decide).trans ((ay<|by decide).trans<|(ay<|by decide).trans<|(ay<|by decide).trans<|cz<|(ay<|by decide).trans TX.1)
theorem CJ(h:aW (hA K) k=aa o)(h1:20≠k)(h2:16≠k)(h3:15≠k)(h4:27≠k)(h5:28≠k)(h6:29≠k)(h7:30≠k):aW (hE K) k=aa o:=by delta hE;delta hD;exact (ay h3).trans<|(ay h4).trans<|(ay h7).trans<|(ay h5).trans<|(ay h6).trans<|RP h h1 h2 h3
theorem ac7:SA (hE K) K:=⟨CJ (rG rfl) (dc rt) (dc rt) (dc rt) (dc rt) (dc rt) (dc rt)<|dc rt,CJ (rG rfl) (dc rt) (dc rt) (dc rt) (dc rt) (dc rt) (dc rt)<|dc rt,CJ (rG rfl) (dc rt) (dc rt) (dc rt) (dc rt) (dc rt) (dc rt)<|dc rt,CJ (rG rfl) (dc rt) (dc rt) (dc rt) (dc rt) (dc rt) (dc rt)<|dc rt,CJ (rG rfl) (dc rt) (dc rt) (dc rt) (dc rt) (dc rt) (dc rt)<|dc rt⟩
theorem aiv:aW (hE K) 11=aa (aM<|uu K.ol):=CJ (rG rfl) (dc rt) (dc rt) (dc rt) (dc rt) (dc rt) (dc rt)<|dc rt
theorem TZ:aW (hF K F r) 17=aa ae/\aW (hF K F r) 18=aa ae/\aW (hF K F r) 19=aa (xQ F r):=by
 delta hF;exact (k8 ((ay<|by decide).trans<|(ay<|by decide).trans<|CJ (rG rfl) (dc rt) (dc rt) (dc rt) (dc rt) (dc rt) (dc rt)<|dc rt) ((ay<|by decide).trans<|(ay<|by decide).trans<|CJ (rG rfl) (dc rt) (dc rt) (dc rt) (dc rt) (dc rt) (dc rt)<|dc rt)<|cz<|(ay<|by decide).trans ac7.ajJ)
theorem aiw:M3 21 (GH ae ae ae K) (rC M0) (iS M0)=hA K:=by delta hA;rfl
theorem aix:aG (hA K) 20 Rc=hB K:=by delta hB;rfl
theorem aiy:aG (aG (hB K) 16<|aM []) 15 (bJ 875<|Nl (.p .none) kR kR)=hC K:=by delta hC;rfl
theorem aiz:PY 27 (hC K)=hD K:=by delta hD;rfl
theorem aiA:aG (hD K) 15 (vo 0)=hE K:=by delta hE;rfl
theorem aiB:aG (aG (hE K) 11 .nh) 19 (xQ F r)=hF K F r:=by delta hF;rfl
theorem afE:aG (aG (hF K F r) 18<|aM<|nc r) 17 C7=hG K F r:=by delta hG;rfl
end
end
section
set_option tactic.hygienic true
abbrev KF(bf:Int->Nat)(rows:List pV)(st:O):GK:=vp bf rows {K0 st with lb:=IQ 0 (dQ rows) []}
noncomputable abbrev Fn (p1 p2 p3 p4 fl:P) (rs:Env):Env:=(218,.p p1)::(217,.tm 0)::(165,.p p2)::(80,.p p3)::(53,.p p4)::(234,.p fl)::rs
section
variable{st:O}{p1 p2 p3 p4:P}{Q:Fl->Env->H->Prop}{E:Env->H->Prop}
theorem aiC(hc:jo cl (d+10) ak)(R:i0 rows)(hw:∀(i:Nat) (a:pV),rows[i]?=aa a->sN a.w)(hl:∀j,j<=rows.length->bf (fS rows.length j)=j)(k:ez cl cf (eR 8 tN.body) (Fn p1 p2 p3 p4 (aL<|(dQ rows).map iH) [(24,.ob 10)]) (GH ae ae ae<|KF bf rows st) Q E):ez cl cf (eR 6 tN.body) (Fn p1 p2 p3 p4 (aL<|(dQ rows).map iH) []) (L0 st) Q E:=by
 refine hc<|aZ rfl rfl λ_=>hc<|YC<|hc<|abk ?_;exact hc<|abi R hw<|hc<|RI R (afD R hw hl) rfl rfl k
theorem aiD(hc:jo cl (d+10) ak)(k:ez cl cf (eR 12 tN.body) (Fn p1 p2 p3 p4 (aL<|(dQ rows).map iH) [(24,.ob 10),(175,.ob 15)]) (hE K) Q E):ez cl cf (eR 8 tN.body) (Fn p1 p2 p3 p4 (aL<|(dQ rows).map iH) [(24,.ob 10)]) (GH ae ae ae K) Q E:=by
 refine hc<|PZ (y:=21) (bW rfl) abl Mj.1 Mj.2.1 Mj.2.2 ?_;refine ah aiw<|hc<|Oj aiu ?_;refine ah aix<|hc<|YA TX.1 TX.2 ?_;refine ah aiy<|hc<|Fj (y:=28) (bW rfl) Xs.1 Xs.2<|hc<|Fm (x:=27) (bW rfl) Xt.1 Xt.2 ?_;refine ah (show aG (aG (aG (aG (hC K) (28+1)<|cH []) 28<|bJ 411 [(93,.ob<|28+1)]) (27+3)<|cH []) 27 (sL 27)=hD K from aiz)<|Rd TY (K:=bT) rfl rt rt<|hc<|aZ rfl rfl λ_=>dF TY (K:=bT) rfl rt rt<|dF TY (K:=bT) rfl rt rt ?_;exact ah (show aG (hD K) 15 (O.iF 875<|aN _ 12 _)=hE K from aiA)<|k
end
end
def RQ(Q:Fl->Env->H->Prop):Fl->Env->H->Prop:=λfl uY oy=>match noRef 9 uY&&zr 9 fl with|true=>Q fl uY (aG oy 9 ae)|false=>False
def Nm(cf:Bool->V->List V->M V)(hb:S)(Q:Fl->Env->H->Prop)(E:Env->H->Prop):Env->H->Prop:=λm' bP=>match mH TT bP with
 |true=>iR ⟨TT,NN,cf ag,ag,3⟩ cf hb m' bP (RQ Q) λuY oy=>E uY oy
 |false=>False
abbrev FF(bf:Int->Nat)(rows:List pV)(st:O):List P:=(KF bf rows st).ol.map<|sM<|xM bf rows {K0 st with lb:=IQ 0 (dQ rows) []}
section
variable{st:O}{p1 p2 p3 p4:P}{Q:Fl->Env->H->Prop}{E:Env->H->Prop}
theorem abm{body hb:S}(f9:aW σ 9=aa ae)(k:ez cl cf body m σ Q<|Nm cf hb Q E):ez cl cf (.vh body aj hb) m σ Q E:=(λe=>e▸k:∀{oo},oo=aa ae->(match oo.map O.ig with|some ag=>ez cl cf body m σ Q (Nm cf hb Q E)|_=>False)) f9
theorem YD{hb:S}{c:Int}(h:aW σ 9=aa (sW t c))(k:iR ⟨TT,NN,cf ag,ag,3⟩ cf hb m σ (RQ Q) λuY oy=>E uY oy):Nm cf hb Q E m σ:=by
 delta Nm;exact ah (EY h)<|k
theorem abn(hr:noRef 9 m=ag)(k:Q bE m<|aG σ 9 ae):RQ Q bE m σ:=by
 show (match noRef 9 m&&ag with|true=>Q bE m (aG σ 9 ae)|false=>False);exact hr.symm▸k
theorem abo{c:V->List V->M V}{v:P}(k:RQ Q bE (aN m i<| .p v) σ):iR ⟨TT,NN,c,ag,3⟩ cf (.cons (.ug i<|dN v) .nil) m σ (RQ Q) E:=k
theorem akO:tT bf rows K 0=K.ol.length:=by delta tT;rw[sO,List.take_zero];rfl
theorem YE{Q:V->H->Prop}{E:H->Prop}(R:i0 rows)(hl:∀j,j<=rows.length->bf (fS rows.length j)=j)(B:xL rows 0 W0 M0 W' M' mU)(k0:mU=ak->∀u R',Q (it 0)<|MH (ac6 (KF bf rows st) (FF bf rows st) (KF bf rows st).r) u [] R' M' W')(k1:mU=ag->∀u R' t e,E<|MX (ac6 (KF bf rows st) (FF bf rows st) (KF bf rows st).r) u [] R' M' W' t e):ba TT NN (d+11) ak (.p<|aI 912) [.ob 15,.ob 17,it 0] (MH (ac6 (KF bf rows st) (FF bf rows st) (KF bf rows st).r) 0 [] (nc (KF bf rows st).r) M0 W0) Q E:=by
 refine eh λcy bk=>alv (Xq (K:={K0 st with lb:=IQ 0 (dQ rows) []}) R hl rfl rfl) λo1 o2 o3 o4=>bk<|acO rfl rfl λcl cf hc hf=>cJ CF (K:=jI) rfl rt rfl<|cJ akD (K:=sI) rfl rt rfl ?_;have e0:(0:Int)=((tT bf rows {K0 st with lb:=IQ 0 (dQ rows) []} 0:Nat):Int):=by exact ah akO rfl
 exact TV<|ah (show C0=100000 - 0 from rfl)<|((B.Ni ⟨cl,cf,FF bf rows st,xM bf rows {K0 st with lb:=IQ 0 (dQ rows) []},ac6 (KF bf rows st) (FF bf rows st) (KF bf rows st).r,HZ (ez cl cf<| .cons .dm .nil) (l3 Q)<|sH E,E⟩ d (KF bf rows st).r (tT bf rows {K0 st with lb:=IQ 0 (dQ rows) []}) bf 0 (nc (KF bf rows st).r) ⟨hc,by show (AJ (sM _) (KF bf rows st).ol).length<=100000;rw[cq];exact bo o4<|dc rt⟩ (Ys hl rfl rfl rfl) w0 o2 (bH _) (λh u m R'=>k0 h u R') λh u R' t e=>k1 h u R' t e) 0 0 e0 rfl [])
theorem aiE(hc:jo cl (d+11) ak)(hf:cf=ba TT NN (d+11))(R:i0 rows)(hl:∀j,j<=rows.length->bf (fS rows.length j)=j)(B:xL rows 0 W0 M0 W' M' mU)(k:∀u R',ez cl cf (eR 13 tN.body) (Fn p1 p2 p3 p4 (aL<|(dQ rows).map iH) [(24,.ob 10),(175,.ob 15),(265,bl mU)]) (MH (ac6 (KF bf rows st) (FF bf rows st) (KF bf rows st).r) u [] R' M' W') Q E):ez cl cf (eR 12 tN.body) (Fn p1 p2 p3 p4 (aL<|(dQ rows).map iH) [(24,.ob 10),(175,.ob 15)]) (hE<|KF bf rows st) Q E:=by
 refine eh λcy bk=>alv (Xq R hl rfl rfl) λo1 o2 o3 o4=>bk<|cj<|abm (CJ (rG rfl) (dc rt) (dc rt) (dc rt) (dc rt) (dc rt) (dc rt)<|dc rt)<|hc<|Oi ac7 aiv o3 o4 o1 ?_;refine ah (show aG (aG (hE<|KF bf rows st) 11 .nh) 19 (xQ ((KF bf rows st).ol.map<|sM<|xN (KF bf rows st).ms) (KF bf rows st).r)=hF (KF bf rows st) (FF bf rows st) (KF bf rows st).r from aiB)<|hc<|YB o2 TZ.1 TZ.2.1 TZ.2.2 ?_;refine ah afE<|ah ait<|hc<|YE R hl B (λh u R'=>?_) λh u R' t e=>?_
 ·replace k:=h▸k;exact k u R'
 ·replace k:=h▸k
  refine YD Nf<|abo<|abn rt ?_;exact ah Gw<|k u R'
end
def hR(g:Nat->O)(u:Int)(R':List P)(M':Mem)(W':Wd):H:=M3 24 (PY 31<|MH g u [] R' M' W') (rC M0)<|iS M0
section
variable{u:Int}{R':List P}{Mr:Mem}{Wr:Wd}
theorem Mk:(MH g u [] R' M' W').length=36+W'.tl.length:=by
 rw[ql,MW,EN];refine ah lA ?_;rfl
theorem Ml:(hR g u R' M' W').length=36+W'.tl.length:=by
 delta hR;unfold M3;rw[ej,ej,ej,ej,ej,ej,ej,Mk]
theorem ac8{ns cs:List P}(h1:y≠k)(h2:y+1≠k)(h3:y+2≠k):aW (M3 y σ ns cs) k=aW σ k:=by
 unfold M3;exact (ay h1).trans<|(ay h3).trans<|ay h2
theorem u5(h1:x≠k)(h2:x+1≠k)(h3:x+2≠k)(h4:x+3≠k):aW (PY x σ) k=aW σ k:=(ay h1).trans<|(ay h4).trans<|(ay h2).trans<|ay h3
theorem Mm(h:(dk k 24||Nat.beq k 25||Nat.beq k 26||Nat.beq k 31||Nat.beq k 32||Nat.beq k 33||Nat.beq k 34)=ak):aW (hR g u R' M' W') k=aW (MH g u [] R' M' W') k:=by
 have f:∀j,dk k j=ak->j≠k:=λj h q=>by subst q;rw[sw]at h;exact rT h
 simp only[xb]at h;refine eh λcy bk=>?_;obtain ⟨⟨⟨⟨⟨⟨h1,h2⟩,h3⟩,h4⟩,h5⟩,h6⟩,h7⟩:=h;exact bk<|(ac8 (f _ h1) (f _ h2)<|f _ h3).trans<|u5 (f _ h4) (f _ h5) (f _ h6)<|f _ h7
theorem IS:ip (MH g u [] R' M' W') 28 32 32/\ip (MH g u [] R' M' W') 29 33 33:=
 ⟨⟨bM<|k8 rfl (b0 _ (fR rt rfl) rf)<|fR rt rfl⟩,⟨bM<|k8 rfl (b0 (cH<|sh (wo 21 (EX g u [] R') M').length W'.fs) (ah ql<|mD lm.lo) rf)<|fR rt rfl⟩⟩
theorem Fo:ip (aG (aG (MH g u [] R' M' W') 33<|cH []) 32<|bJ 411 [(93,.ob 33)]) 27 31 31/\ip (aG (aG (MH g u [] R' M' W') 33<|cH []) 32<|bJ 411 [(93,.ob 33)]) 30 34 34:=⟨((⟨bM<|k8 rfl (b0 _ (fR rt rfl) rf)<|fR rt rfl⟩:ip (MH g u [] R' M' W') 27 31 31).set (by decide)<|by decide).set (by decide) (by decide),((⟨bM<|k8 rfl (b0 (cH<|sh (wo 21 (EX g u [] R') M').length W'.us) (ah ql<|fN lm.lo) rf)<|fR rt rfl⟩:ip (MH g u [] R' M' W') 30 34 34).set (by decide)<|by decide).set (by decide)<|by decide⟩
theorem mq:xR 24 (PY 31<|MH g u [] R' M' W'):=⟨(u5 (by decide) (by decide) (by decide)<|by decide).trans<|fR rt rfl,(u5 (by decide) (by decide) (by decide)<|by decide).trans<|fR rt rfl,(u5 (by decide) (by decide) (by decide)<|by decide).trans<|fR rt rfl⟩
theorem yw:ip (PY 31<|MH g u [] R' M' W') 21 24 24/\ip (PY 31<|MH g u [] R' M' W') 22 25 25/\ip (PY 31<|MH g u [] R' M' W') 23 26 26:=by
 have A:CD (MH g u [] R' M' W') 21 M':=ah ql<|aaq.mem;exact (k8 ⟨bM<|k8 rfl (b0 _ (((λh1 h2 h3 h4=>u5 h1 h2 h3 h4) (by decide) (by decide) (by decide)<|by decide).trans A.o) rf) mq.a⟩ ⟨bM<|k8 rfl (b0 _ (((λh1 h2 h3 h4=>u5 h1 h2 h3 h4) (by decide) (by decide) (by decide)<|by decide).trans A.n) rf) mq.b⟩ ⟨bM<|k8 rfl (b0 _ (((λh1 h2 h3 h4=>u5 h1 h2 h3 h4) (by decide) (by decide) (by decide)<|by decide).trans A.c) rf) mq.c⟩)
theorem Nn(h1:24≠k)(h2:25≠k)(h3:26≠k)(h:aW (PY 31<|MH g u [] R' M' W') k=aa o):aW (hR g u R' M' W') k=aa o:=(ac8 h1 h2 h3).trans h
theorem qV:Lm 24 31 (hR g u R' M' W'):=by
 have l:31+3<(hR g u R' M' W').length:=ah Ml<|dj (.a (.a (.n 31)<| .n 3)<| .n 1) (.a (.n 36)<| .v 0) [] rt;have lt:∀{k},k<36->k<(MH g u [] R' M' W').length:=λh=>ah Mk<|cw (.a (.v 0)<| .n 1) (.a (.n 36)<| .v 1) [(1,.a (.v 0)<| .n 1,.n 36)] rt h;refine ⟨⟨Nn (by decide) (by decide) (by decide)<|iG<|by rw[ej,ej,ej];exact lt<|by decide,Nn (by decide) (by decide) (by decide)<|(ay<|by decide).trans<|(ay<|by decide).trans<|iG<|by rw[ej];exact lt<|by decide,l,?_,?_,by decide⟩,l,wx mq,by decide,by decide⟩
 ·exact ah (Mm rfl)<|fR rfl rfl
 ·exact ah (Mm rfl)<|Rj
theorem aiF:hR g u R' M' W'=MW 24 31 (hR g u R' M' W') M0 W0:=by
 have l:∀{k},k<36->k<(MH g u [] R' M' W').length:=λh=>ah Mk<|cw (.a (.v 0)<| .n 1) (.a (.n 36)<| .v 1) [(1,.a (.v 0)<| .n 1,.n 36)] rt h;have e1:wo 24 (hR g u R' M' W') M0=hR g u R' M' W':=by
  delta wo;refine ah (fX<|RO mq)<|ah (fX<|ahm mq) ?_;rfl
 delta MW;rw[e1,HW]
 show _=aG (aG (hR g u R' M' W') 33<|cH []) 34 (cH [])++[]
 rw[fc,fX<|Nn (by decide) (by decide) (by decide)<|(ay<|by decide).trans<|(ay<|by decide).trans<|(ay<|by decide).trans<|iG<|l<|by decide,fX<|Nn (by decide) (by decide) (by decide)<|(ay<|by decide).trans<|iG<|by rw[ej,ej];exact l<|by decide]
end
structure RW(σ:H)(x b:Nat)(W:Wd):Prop where
 w:aW σ x=aa (sL x)
 s:aW σ (x+1)=aa (bJ 411 [(93,.ob<|x+2)])
 fs:aW σ (x+2)=aa (cH<|sh b W.fs)
 us:aW σ (x+3)=aa (cH<|sh b W.us)
 tl:∀n o,aW W.tl n=aa o->aW σ (b+n)=aa (L4 b o)
 f3:aW σ 3=aa ae
 x9:9<x
 b9:9<b
def alP(rs:Env):Prop:=rs=[]\/∃(y:P)(n f:Nat),rs=[(94,.p y),(116,.dy n),(95,.dy f)]
noncomputable abbrev Np (x:Nat) (rs:Env):Env:=(140,.ob x)::(107,.tm 3)::rs
section
variable{b:Nat}{W:Wd}
theorem RW.x3(A:RW σ x b W):aW (aG σ 3 o) x=aa (sL x)/\aW (aG σ 3 o) (x+1)=aa (bJ 411 [(93,.ob<|x+2)])/\aW (aG σ 3 o) (x+2)=aa (cH<|sh b W.fs)/\aW (aG σ 3 o) (x+3)=aa (cH<|sh b W.us)/\∀n o',aW W.tl n=aa o'->aW (aG σ 3 o) (b+n)=aa (L4 b o'):=
 have:=A.x9;have:=A.b9
 (amy ((ay λh_=>eH 0<|dj bz eC [(1,eA pK bz,aB),(1,aB,l5)] rt (by assumption)<|bx h_.symm).trans A.w) ((ay λh_=>eH 0<|dj bz eC [(1,eA pK bz,aB),(1,eA aB bz,l5)] rt (by assumption)<|bx h_.symm).trans A.s) ((ay λh_=>eH 0<|dj bz eC [(1,eA pK bz,aB),(1,eA aB g9,l5)] rt (by assumption)<|bx h_.symm).trans A.fs) ((ay λh_=>eH 0<|dj bz eC [(1,eA pK bz,aB),(1,eA aB l5,l5)] rt (by assumption)<|bx h_.symm).trans A.us) λn o' h=>(ay λh_=>eH 0<|cw bz eC [(1,eA pK bz,aB),(1,eA aB bb,l5)] rt this<|bx h_.symm).trans<|A.tl n o' h)
theorem RR(F:WF N W):∀l:List Int,(∀j∈l,∃n,av W.us (.i j)=aa n)->∃ts:List P,dS 6 ts=ag/\∀σ x b,RW σ x b W->∀d cl cf acc rs(Q:Fl->Env->H->Prop)E,jo cl (d+1) ak->acc.length+l.length<=1000->alP rs->(∀rs,alP rs->Q bE (Np x rs) (aG σ 3<|aM<|acc++ts))->jf (lW ⟨TT,NN,cl,ak,3⟩ cf [94] r9) (l.map af) (Np x rs) (aG σ 3<|aM acc) Q E:=@lr _ _
 (@λ_=>(b0 [] rt (λσ x b A d cl cf acc rs Q E hc _ hr k=>by have k:=k rs hr;rw[fc]at k;exact k)))
 (λj l b5=>@λh=>by
  refine eh λcy bk=>?_;obtain ⟨n,hn⟩:=h j<|bt _;obtain ⟨u,f,hu,hU,a,ha,hA⟩:=(F.us _<|gY hn).2;refine cE (b5 λj hj=>h j<|aS _ hj) λts hp T=>bk<|(b0 (aw [af j,ab a.nm,ab a.ac,ab a.fo,af a.le,af u.pl,ab u.bl,af 0]::ts) hp λσ x b A d cl cf acc rs Q E hc hl hr k=>?_)
  refine eh λcy bk=>ajh (A.x3 (o:=aM acc)) λg1 g2 g3 g4 g5=>bk ?_;have fin:jf (lW ⟨TT,NN,cl,ak,3⟩ cf [94] r9) (l.map af) (Np x [(94,.p<|af j),(116,.dy<|b+n),(95,.dy<|b+f)]) (aG (aG σ 3<|aM acc) 3<|aM<|acc++[aw [af j,ab a.nm,ab a.ac,ab a.fo,af a.le,af u.pl,ab u.bl,af 0]]) Q E:=ah dT<|(λrs hr=>T σ x b A d cl cf (acc++[aw [af j,ab a.nm,ab a.ac,ab a.fo,af a.le,af u.pl,ab u.bl,af 0]]) rs Q E hc (by refine ah cg ?_;exact cw mX aA [(1,eA aB ie,aA)] rt hl) hr<|by rw[de];exact k) _<|bM<|Po _ _ _ rfl;have u0:=g5 n _ hU;have f0:=g5 f _ hA;rcases hr with hr|⟨_,_,_,hr⟩<;>refine ah hr ?_
  ·exact cJ g1 (K:=dX) rfl rt rfl (jJ g4 (dn hn)<|qO u0 (K:=o5) rfl rt rfl<|b8 (cz A.f3) (mk:=.bi 0 0) rfl<|qO f0 (K:=lU) rfl rt rfl<|qO f0 (K:=lU) rfl rt rfl<|qO f0 (K:=lU) rfl rt rfl<|qO f0 (K:=lU) rfl rt rfl<|qO u0 (K:=o5) rfl rt rfl<|qO u0 (K:=o5) rfl rt rfl<|qO f0 (K:=lU) rfl rt rfl<|hc ⟨bH _,gW (cz A.f3) (cw aB aA [(1,eA aB bb,aA)] rt<|by assumption) fin⟩)
  ·exact cJ g1 (K:=dX) rfl rt rfl<|jJ g4 (dn hn)<|qO u0 (K:=o5) rfl rt rfl<|b8 (cz A.f3) (mk:=.bi 0 0) rfl<|qO f0 (K:=lU) rfl rt rfl<|qO f0 (K:=lU) rfl rt rfl<|qO f0 (K:=lU) rfl rt rfl<|qO f0 (K:=lU) rfl rt rfl<|qO u0 (K:=o5) rfl rt rfl<|qO u0 (K:=o5) rfl rt rfl<|qO f0 (K:=lU) rfl rt rfl<|hc ⟨bH _,gW (cz A.f3) (cw aB aA [(1,eA aB bb,aA)] rt<|by assumption) fin⟩)
theorem YF:∀{es:List (bV×Nat)},(∀e∈es,∃t:Tx,e.1=.s t)->∃l:List Tx,G5 (es.map (·.1))=aa l:=@lr _ _
 (@λ_=>⟨[],rfl⟩)
 (@pr _ _ _ (λkk n es ih=>@λh=>by
  obtain ⟨t,rfl⟩:=h _<|bt _;obtain ⟨l,e⟩:=ih λe he=>h e<|aS _ he;exact ⟨t::l,by show (G5<|es.map (·.1)).map (t::·)=_;exact ah e rfl⟩))
theorem Ol:∀{l:List Tx},dS (k+1) (l.map ab)=ag:=@lr _ _
 (rt)
 (λt l ih=>ih)
theorem Hx(F:WF N W):∃l:List P,rV (W.fs.map (·.1))=aa l/\dS 6 l=ag:=by
 refine ue (YF λe he=>(F.fs e he).elim λa z=>⟨_,z.2.2⟩) λl e=>?_;cases q:W.fs with
 |nil=>exact (b0 [] rfl rt)
 |cons e' es=>
  obtain ⟨a,_,_,z⟩:=F.fs e'<|ah q<|bt _;rw[q]at e;refine (b0 ((nY WM l).map ab) ?_ Ol);have:vj ((e'::es).map (·.1))=aj:=by refine ah oP<|ah z ?_;rfl
  delta rV;rw[this,e];rfl
theorem YG{le:α->α->Bool}{x:α}:∀{l:List α},(wh le x l).length=l.length+1:=@lr _ _
 (rfl)
 (λy l ih=>by
  show (match le x y with|true=>x::y::l|false=>y::wh le x l).length=_;cases le x y with
  |true=>rfl
  |false=>exact congrArg (·+1) ih)
theorem RS{le:α->α->Bool}:∀{l:List α},(nY le l).length=l.length:=@lr _ _
 (rfl)
 (λx l ih=>YG.trans<|congrArg (·+1) ih)
theorem Fp:∀{ks}{l},vj ks=aa l->l.length=ks.length
 |[],l,h=>by obtain rfl:=fh h;rfl
 | .i n::ks,l,h=>by
  have h:(vj ks).map (n::·)=aa l:=h;refine oc (vj ks) (λq=>?_) λl' q=>?_
  ·rw[q]at h;exact cV h
  ·rw[q]at h;obtain rfl:=fh h;exact congrArg (·+1)<|Fp q
 | .s t::ks,l,h=>nomatch h
theorem RT(F:WF N W){l:List Int}(h:rV (W.us.map (·.1))=aa (l.map af)):l.length<=N:=by
 refine cE (Iu λe he=>(F.us e he).1) λl0 e _=>?_;have z:=congrArg xa (cP<|h.symm.trans (by delta rV;rw[e];rfl:rV (W.us.map (·.1))=aa ((nY ae3 l0).map af)));rw[cq,cq,RS,Fp e,cq]at z;exact ah z<|F.lu
theorem P0:∀k x,cK k x=ag->cL x x=ag:=@nr _
 (@λx h=>by
  induction x using P.casesOn with
  |none=>rfl
  |bool b=>exact beq_self_eq_true b
  |int i=>exact beq_self_eq_true i
  |str s=>exact beq_self_eq_true s
  |_=>exact xc<|show ak=ag from h)
 (λk b5=>@λx h=>by
  have l:∀{l:List P},dS k l=ag->EF l l=ag:=by
   intro l;induction l with
   |nil=>intro _;rfl
   |cons x l ih=>
    intro q;show (cL x x&&EF l l)=ag;refine ah (b5 x<|xC q)<|ah (ih<|W5 q) ?_;rfl
  induction x using P.casesOn with
  |none=>rfl
  |bool b=>exact beq_self_eq_true b
  |int i=>exact beq_self_eq_true i
  |str s=>exact beq_self_eq_true s
  |jH vs=>exact l h
  |fl vs=>exact l h
  |_=>exact xc<|show ak=ag from h)
theorem akP(F:WF N W)(hN:N<=60):∃t:P,cK 8 t=ag/\∀σ x b,RW σ x b W->∀d Q E,Q (.p t) σ->ba TT NN (d+2) ak (.p<|aI 1070) [.ob x] σ Q E:=by
 refine eh λcy bk=>cE (xD F) λl hs hl=>cE (RR F l hl.1) λts hp T=>cE (Hx F) λfs hf hq=>bk<|(b0 (aw [aL ts,aL fs]) ?_ λσ x b A d Q E k=>?_)
 ·show (cK 7 (aL ts)&&(cK 7 (aL fs)&&ag))=ag
  rw[show cK 7 (aL ts)=ag from hp,show cK 7 (aL fs)=ag from hq];rfl
 ·refine eh λcy bk=>ajh (A.x3) λg1 g2 g3 g4 g5=>bk<|aZ rfl rfl @λcl cf hc=>cj (oe A.f3<|cJ g1 (K:=dX) rfl rt rfl<|hc<|ym g4 (by rw[sh,cq];exact jB F.lu (dj (.a (.v 0)<| .n 1) (.n 64) [(1,.v 0,.n 60)] rt hN):(sh b W.us).length<64) (PD▸hs)<|T σ x b A d cl cf [] [] _ _ hc (by exact dj (.a (.n 0)<| .v 0) (.n 1000) [(1,.v 0,.n 60)] rt (bo (RT F hs) hN:l.length<=60)) (bW rfl) λrs hr=>?_)
  have fin:aG (aG σ 3<|aM<|[]++ts) 3 ae=σ:=by rw[dT,fX A.f3]
  have fz:∀{Q' E'},(∀m,av m 140=aa (.ob x)->av m 107=aa (.p<|aL ts)->Q' bE m σ)->ez cl cf (.yR 107) (Np x rs) (aG σ 3<|aM<|[]++ts) Q' E':=λ{Q' E'}k=>by
   have rn:=λ{m}h=>by show (match dk x 3 with|true=>ak|false=>noRef 3 m)=ag;exact (Bool.eq_false_iff.mpr λq=>absurd (rN q) (sx<|qf (by decide) A.x9):dk x 3=ak).symm▸h
   rcases hr with hr|⟨_,_,_,hr⟩<;>rw[hr]<;>exact qT rfl rfl (cz A.f3) rfl (rn rfl) (ah fin<|k _ rfl rfl)
  refine cj<|fz λm m1 m2=>?_
  exact ax m2 (ax m1<|cJ A.w (K:=dX) rfl rt rfl<|cJ A.s (K:=o0) rfl rt rfl<|hc<|ym A.fs (by rw[sh,cq];exact jB F.lf (dj (.a (.v 0)<| .n 1) (.n 64) [(1,.v 0,.n 60)] rt hN):(sh b W.fs).length<64) (X'▸hf) k)
end
section
variable{u:Int}{R':List P}
abbrev hZ(g:Nat->O)(u:Int)(R':List P)(M':Mem)(W':Wd):H:=MW 24 31 (hR g u R' M' W') M' W'
theorem sP(h:(dk k 24||Nat.beq k 25||Nat.beq k 26||Nat.beq k 31||Nat.beq k 32||Nat.beq k 33||Nat.beq k 34)=ak)(hk:k<36+W'.tl.length):aW (hZ g u R' M' W') k=aW (MH g u [] R' M' W') k:=by
 have f:∀j,dk k j=ak->j≠k:=λj h q=>by subst q;rw[sw]at h;exact rT h
 have h':=h;simp only[xb]at h;refine eh λcy bk=>?_;obtain ⟨⟨⟨⟨⟨⟨h1,h2⟩,h3⟩,h4⟩,h5⟩,h6⟩,h7⟩:=h;exact bk<|(Md (ah Ml<|hk) (f _ h2) (f _ h3) (f _ h6)<|f _ h7).trans<|Mm h'
theorem akQ:RW (hZ g u R' M' W') 31 (wo 24 (hR g u R' M' W') M').length W' where
 w:=wj qV.lo
 s:=uq qV.lo
 fs:=mD qV.lo
 us:=fN qV.lo
 tl:=λn o h=>xy.trans (by refine ah h ?_;rfl)
 f3:=ah (sP rfl<|dj (.a (.n 3)<| .n 1) (.a (.n 36)<| .v 0) [] rt)<|fR rfl rfl
 x9:=dc rt
 b9:=ah lA<|ah Ml<|dj (.a (.n 9)<| .n 1) (.a (.n 36)<| .v 0) [] rt
theorem Xu:∀{a:H}{n:Nat}{o:O},aW a n=aa o->n<a.length
 |[],_,_,h=>cV h
 |_::_,0,_,_=>U5 _
 |_::a,n+1,_,h=>KU<|Xu (a:=a) (n:=n) h
theorem amU(n:Nat):(dk (36+n) 24||Nat.beq (36+n) 25||Nat.beq (36+n) 26||Nat.beq (36+n) 31||Nat.beq (36+n) 32||Nat.beq (36+n) 33||Nat.beq (36+n) 34)=ak:=wY n 36▸rf
theorem Hz(h:(dk k 24||Nat.beq k 25||Nat.beq k 26||Nat.beq k 31||Nat.beq k 32||Nat.beq k 33||Nat.beq k 34)=ak)(hk:k<36+W'.tl.length):aW (hZ g u R' M' W') k=aW (MW 21 27 (EX g u [] R') M' W') k:=(sP h hk).trans<|congrArg (λs=>aW s k) ql
theorem akR:RW (hZ g u R' M' W') 27 36 W' where
 w:=(Hz rfl<|dj (.a (.n 27)<| .n 1) (.a (.n 36)<| .v 0) [] rt).trans (wj lm.lo)
 s:=(Hz rfl<|dj (.a (.a (.n 27)<| .n 1)<| .n 1) (.a (.n 36)<| .v 0) [] rt).trans (uq lm.lo)
 fs:=(Hz rfl<|dj (.a (.a (.n 27)<| .n 2)<| .n 1) (.a (.n 36)<| .v 0) [] rt).trans (mD lm.lo)
 us:=(Hz rfl<|dj (.a (.a (.n 27)<| .n 3)<| .n 1) (.a (.n 36)<| .v 0) [] rt).trans (fN lm.lo)
 tl:=λn o h=>((Hz (amU n)<|cw (.a (.a (.n 36)<| .v 0)<| .n 1) (.a (.n 36)<| .v 1) [(1,.a (.v 0)<| .n 1,.v 1)] rt<|Xu h).trans<|xy (x:=27) (W:=W') (n:=n)).trans (congrArg (Ac _) h)
 f3:=(sP rfl<|dj (.a (.n 3)<| .n 1) (.a (.n 36)<| .v 0) [] rt).trans (fR rfl rfl)
 x9:=dc rt
 b9:=dc rt
theorem GQ{xs:List P}(h:aW σ n=aa (aM xs)):Cp σ (.ob n)=aa (aL xs):=by
 delta Cp;refine ah (TO h) ?_;rfl
theorem ac9{b:Nat}{xs:List P}{Q:Bool->H->Prop}(h1:aW σ a=aa (aM xs))(h2:aW σ b=aa (aM xs))(hp:cK 8 (aL xs)=ag)(k:Q ak σ):hV .ne (.ob a) (.ob b) σ (hM fU Q E) E:=by
 refine ax (GQ h1)<|ax (GQ h2) ⟨⟨hp,hp⟩,?_⟩;refine pN (λq=>?_) λ_=>k;rw[P0 8 _ hp]at q;exact nomatch q
theorem Om:cK 8 (aL<|rC M')=ag:=rt
theorem YH:∀{t:Tx},dS (k+1) (vX t)=ag:=@lr _ _
 (rt)
 (λc t ih=>ih)
theorem abp(L:Lm 24 31 aV)(B:xL rows 0 W0 M0 W' M' mU)(k:Q (bl mU)<|MW 24 31 aV M' W'):ba TT NN (d+11) ak (.p<|aI 1063) [.ob 31,.ob 24,.p<|aL<|(dQ rows).map iH] (MW 24 31 aV M0 W0) Q E:=by
 refine aZ rfl rfl @λcl cf hc=>cj<|TV ?_;refine B.ref aV L (d+2) cl cf C0 _ _ hc (dc rt) (λh m=>?_) (λh m=>?_) []
 ·rw[h]at k;exact k
 ·rw[h]at k;exact k
theorem aiG{p1 p2 p3 p4:P}(hc:jo cl (d+11) ak)(B:xL rows 0 W0 M0 W' M' mU)(k:∀σ,Q (bl ag) σ):ez cl cf (eR 13 tN.body) (Fn p1 p2 p3 p4 (aL<|(dQ rows).map iH) [(24,.ob 10),(175,.ob 15),(265,bl mU)]) (MH g u [] R' M' W') (l3 Q) (sH E):=by
 refine eh λcy bk=>cE (akP B.wf<|dc rt) λt tp T=>bk ?_;have aho:aW (hZ g u R' M' W') 15=aa (vo u):=ah (sP rfl<|dj (.a (.n 15)<| .n 1) (.a (.n 36)<| .v 0) [] rt)<|oC;have zM:CD (MH g u [] R' M' W') 21 M':=ah ql<|aaq.mem;have alQ:aW (hZ g u R' M' W') 21=aa (zQ 21):=ah (sP rfl<|dj (.a (.n 21)<| .n 1) (.a (.n 36)<| .v 0) [] rt)<|zM.o;refine hc<|Fj (y:=32) (bM rfl) IS.1 IS.2<|hc<|Fm (x:=31) (bM rfl) Fo.1 Fo.2<|hc<|PZ (y:=24) (bM rfl) mq yw.1 yw.2.1 yw.2.2 ?_;refine ah (show M3 24 (PY 31<|MH g u [] R' M' W') (rC M0) (iS M0)=MW 24 31 (hR g u R' M' W') M0 W0 from aiF)<|hc<|abp qV B<|H0 (x:=ei mU) (y:=ei mU) rfl rfl (λ_=>?_) λq=>nomatch q.symm.trans (beq_self_eq_true mU);refine hc<|T _ 31 _ akQ (d+9) _ _<|cJ aho (K:=bT) rfl rfl rfl<|hc<|T _ 27 36 akR (d+9) _ _<|H0 (x:=t) (y:=t) tp tp (λ_=>?_) λq=>nomatch q.symm.trans (P0 8 t tp);refine cJ qV.q.mem.o (K:=eQ) rfl rfl rfl (cJ aho (K:=bT) rfl rfl rfl<|cJ alQ (K:=eQ) rfl rfl rfl<|ac9 qV.q.mem.n (by refine ah (sP rfl<|dj (.a (.n 22)<| .n 1) (.a (.n 36)<| .v 0) [] rt) ?_;exact zM.n:aW (hZ g u R' M' W') 22=aa (aM<|rC M')) Om ?_);refine cJ qV.q.mem.o (K:=eQ) rfl rfl rfl (cJ aho (K:=bT) rfl rfl rfl<|cJ alQ (K:=eQ) rfl rfl rfl<|ac9 qV.q.mem.c (by refine ah (sP rfl<|dj (.a (.n 23)<| .n 1) (.a (.n 36)<| .v 0) [] rt) ?_;exact zM.c:aW (hZ g u R' M' W') 23=aa (aM<|iS M')) YH ?_);refine pN (λq=>?_) λ_=>cJ aho (K:=bT) rfl rfl rfl (ax (GQ (by refine ah (sP rfl<|dj (.a (.n 16)<| .n 1) (.a (.n 36)<| .v 0) [] rt) ?_;exact CE:aW (hZ g u R' M' W') 16=aa (aM []))) ⟨⟨rfl,rfl⟩,k _⟩);exact q.symm▸k _
end
def pX(sc:List Int)(a:Int):O:=du [(.s vS,aL<|sc.map af),(.s [97,116],af a)]
noncomputable def Xv:List P:=[af 2,af 0,af 0,af 0,af 1,af 0,af 0,af 0,af 1,af 0,af 0,af 0,af 5,af 0,af 0,af 0,af 0,af 4,af 0,af 0,af 0,af 1,af 2]
section
variable{a:Int}
theorem Xw{es:List (bV×P)}{v:P}(h:aW σ n=aa (du es))(hk:av es kk=aa v)(k:Q (.p v) σ):rU (.ob n) (.p kk.val) σ Q E:=by
 have z:∀{oo},oo=aa (du es)->(match ng (V.yg<| .ob n) (ng aj<|oo.bind O.uV)with
  |some xs=>M.aQ (V.eX<| .p kk.val) λi=>.aQ (pU xs.length i) λj=>.aQ (xs[j]?) λv=>.ok<|V.p v
  |none=>.aQ (V.lj<| .p kk.val) λk=>match ng aj (oo.bind O.Ih)with
   |some es=>.aQ (av es k) λv=>.ok<|V.p v
   |none=>.aQ (oo.bind O.yS) λes=>.aQ (av es k) λn=>.ok<|V.dy n) σ Q E:=λe=>by
  refine ah e ?_
  cases kk<;>exact ax rfl (ax hk k)
 exact z h
theorem RU(hs:sc.length<=63)(h0:0<=a)(h1:a<=1000)(size:Int)(hp:0<size):∃r:Int,(0<=r/\r<size)/\∀σ o,aW σ 0=aa o->∀d Q E,Q (it r) (aG σ 0<|pX sc<|a+1)->ba TT NN (d+2) ak (.p<|aI 1018) [.ob 0,it size] (aG σ 0<|pX sc a) Q E:=by
 have bd:∀x:Int,0<=x.fmod size/\x.fmod size<size:=λx=>⟨Int.fmod_nonneg_of_pos x hp,Int.fmod_lt_of_pos x hp⟩
 have Mn:size≠0:=(λh_=>absurd (dp (.n 1) (.n 0) [(1,.a (.n 0)<| .n 1,.v 0),(1,.v 0,.n 0)] rt hp<|d8 h_) (by decide:¬(1:Int)<=0))
 have ls:(sc.map P.int).length<=1000000:=by rw[cq];exact dj (.v 0) (.n 1000000) [(1,.v 0,.n 63)] rt hs
 have lV:∀r,(∀σ o,aW σ 0=aa o->∀(d:Nat)cl cf Q E,jo cl (d+1) ak->Q (it r) (aG σ 0<|pX sc<|a+1)->ez cl cf (eR 3 BP.body) [(217,.ob 0),(219,it size),(42,it a),(218,.p<|aL<|sc.map af)] (aG σ 0<|pX sc<|a+1) (l3 Q) (sH E))->∀σ o,aW σ 0=aa o->∀d Q E,Q (it r) (aG σ 0<|pX sc<|a+1)->ba TT NN (d+2) ak (.p<|aI 1018) [.ob 0,it size] (aG σ 0<|pX sc a) Q E:=λr H σ o ho d Q E k=>by
  refine aZ rfl rfl @λcl cf hc=>Xw (kk:=.s [97,116]) (cz ho) rfl (tS (cz ho) (by decide:2<=1000) ?_);rw[dT,show O.dc (aN _ (.s [97,116]) _)=pX sc (a+1)from rfl];exact Xw (kk:=.s vS) (cz ho) rfl<|H σ o ho d cl cf Q E hc k
 by_cases c1:a<sc.length
 ·obtain ⟨j,hj⟩:∃j:Nat,a=j:=⟨a.toNat,(xd h0).symm⟩
  have hv:(sc.map P.int)[j]?=aa (af<|sc[j]'(cS.mp<|zz [a,↑sc.length,↑j] Dj bb [(1,eA aB bz,bb),(1,cv,aB)] rt c1<|d8 hj.symm)):=by rw[mz,wZ];rfl
  have hi:=gq hj (jL hv) (by rw[cq];exact dj (.v 0) (.n 100000) [(1,.v 0,.n 63)] rt hs);refine (b0 _ (bd<|sc[j]'(cS.mp<|zz [a,↑sc.length,↑j] Dj bb [(1,eA aB bz,bb),(1,cv,aB)] rt c1<|d8 hj.symm))<|lV _ λσ o ho d cl cf Q E hc k=>hc ⟨ls,mn (λ_=>gz hi hv ⟨Mn,k⟩) λq=>?_⟩);rw[cq]at q;exact (q c1).elim
 ·have no:¬a<((sc.map P.int).length:Int):=by rw[cq];exact c1
  by_cases c2:a<23
  ·obtain ⟨j,hj⟩:∃j:Nat,a=j:=⟨a.toNat,(xd h0).symm⟩
   obtain ⟨v,hv⟩:∃v:Int,Xv[j]?=aa (af v):=by
    have:∀j,j<23->∃v:Int,Xv[j]?=aa (af v):=λj hj=>by
     rcases j with _|_|_|_|_|_|_|_|_|_|_|_|_|_|_|_|_|_|_|_|_|_|_|j<;>first|exact ⟨_,rfl⟩|exact absurd hj (qy.mpr<|U7 23 j)
    exact this j<|cS.mp<|zz [a,↑j] ie (eN 23) [(1,eA aB bz,eN 23),(1,bb,aB)] rt c2<|d8 hj.symm
   exact (b0 _ (bd v)<|lV _ λσ o ho d cl cf Q E hc k=>hc ⟨ls,mn (λq=>(no q).elim) λ_=>hc<|aZ rfl rfl λ_=>hc ⟨(by decide:23<=1000000),mn (λ_=>hc<|aZ rfl rfl λ_=>gz (gq hj (jL hv)<|dc rt) hv ⟨Mn,k⟩) λq=>(q c2).elim⟩⟩)
  ·have m1:(3:Int).natAbs<2147483648/\a.natAbs<2147483648:=⟨by decide,nS.mp<|qg (d8<|Vz h0)<|qg h1<|dc rt⟩
   have m2:0<=a/\a<1000000/\(0:Int)<5/\(5:Int)<1000000:=(⟨dp (.n 0) (.v 0) [(1,.n 23,.v 0)] rt<|kq.mp c2,⟨dp (.a (.v 0)<| .n 1) (.n 1000000) [(1,.v 0,.n 1000)] rt h1,⟨zz [] (eA eC bz) Ic [] rt,zz [] (eA Ic bz) (eN 1000000) [] rt⟩⟩⟩)
   exact (b0 _ (bd<|3*a+a.fdiv 5+1)<|lV _ λσ o ho d cl cf Q E hc k=>hc ⟨ls,mn (λq=>(no q).elim) λ_=>hc<|aZ rfl rfl λ_=>hc ⟨(by decide:23<=1000000),mn (λq=>(c2 q).elim) λ_=>⟨m1,m2,Mn,k⟩⟩⟩)
end
structure DS(aE:Tx)(L:Int->Prop)(S:List Tx)(es:List En):Prop where
 ok:∀e∈es,qR aE e
 ks:∀e∈es,pW e∈S
 co:∀e∈es,av (dE es) (.s<|pW e)=aa (ID e)
 ln:es.length<=S.length
 er:∀n,.yr n∈es->L n
def HC(sc:List Int)(σ:H)(a:Int)(es:List En):H:=aG (aG σ 2<|du<|dE es) 0<|pX sc a
structure HB(σ:H):Prop where
 h0:∃o,aW σ 0=aa o
 h2:aW σ 2=aa ae
section
variable{a:Int}{S:List Tx}
theorem y5{k:bV}:∀{l m:List (bV×A)},(∀e∈l,e.1≠k)->av (l++m) k=av m k:=@lr _ _
 (@λ_ _=>rfl)
 (λx l ih=>@λm h=>(if_neg<|h x<|bt _).trans<|ih λe q=>h e<|aS _ q)
theorem Du{k:bV}{v:A}:∀{l m},av l k=aa v->av (l++m) k=aa v:=@lr _ _
 (@λ_ h=>nomatch h)
 (@pr _ _ _ (λj w l ih=>@λm h=>by
  have h:(if j=k then aa w else av l k)=aa v:=h;show (if j=k then aa w else av (l++m) k)=aa v;by_cases q:j=k
  ·rw[if_pos q]at h⊢;exact h
  ·rw[if_neg q]at h⊢;exact ih h))
theorem YI{k:bV}{v:A}:∀{l},(∀e∈l,e.1≠k)->aN l k v=l++[(k,v)]:=@lr _ _
 (@λ_=>rfl)
 (λx l ih=>@λh=>(if_neg<|h x<|bt _).trans<|congrArg (x::·)<|ih λe q=>h e<|aS _ q)
theorem Fq{l m:List En}:dE (l++m)=dE l++dE m:=uM
theorem DS.bL(D:DS aE L S es)(h:∀t∈S,t∈S')(hl:S.length<=S'.length):DS aE L S' es:=⟨D.ok,λe q=>h _<|D.ks e q,D.co,bo D.ln hl,D.er⟩
theorem DS.new(D:DS aE L S es)(hn:pW e∉S):∀x∈dE es,x.1≠.s (pW e):=λx h q=>by
 refine cE (nQ.mp h) λy hy w2=>?_;subst w2;exact hn<|bV.s.inj q▸D.ks y hy
theorem DS.add(D:DS aE L S es)(he:qR aE e)(hn:pW e∉S)(hL:∀n,e=.yr n->L n):DS aE L (pW e::S) (es++[e]) where
 ok:=λx h=>(w8.mp h).elim (D.ok x) λq=>fq.mp q▸he
 ks:=λx h=>(w8.mp h).elim (λq=>aS _<|D.ks x q) λq=>fq.mp q▸bt _
 co:=λx h=>(w8.mp h).elim (λq=>ah Fq<|Du<|D.co x q) λq=>ah (fq.mp q)<|ah Fq<|ah (y5<|D.new hn)<|if_pos rfl
 ln:=cg▸kY D.ln
 er:=λn h=>(w8.mp h).elim (D.er n) λq=>hL n (fq.mp q).symm
theorem ad4(h:HB σ):aW (HC sc σ a es) 2=aa (du<|dE es):=(ay<|by decide).trans<|cz h.h2
theorem akS(h:HB σ):∃o,aW (aG σ 2<|du<|dE es) 0=aa o:=h.h0.imp λo z=>(ay<|by decide).trans z
theorem akT{v9:List En}:aG (HC sc σ a es) 2 (du<|dE v9)=HC sc σ a v9:=by rw[HC,dA<|by decide];refine ah dT ?_;rfl
theorem ph{Q:Unit->H->Prop}(B:HB σ)(D:DS aE L S es)(hn:pW e∉S)(hl:S.length<=100)(k:Q ()<|HC sc σ a<|es++[e]):iA (.ob 2) (.p<|ab<|pW e) (.p<|ID e) (HC sc σ a es) Q E:=
 tS (ad4 B) (by delta dE;rw[cq];exact bo D.ln<|bo hl<|dc rt) (ah (YI<|D.new hn)<|ah (show dE es++[(.s<|pW e,ID e)]=dE (es++[e])from (Fq (l:=es) (m:=[e])).symm)<|ah akT<|k)
theorem pF(hs:sc.length<=63)(h0:0<=a)(h1:a<=1000)(size:Int)(hp:0<size):∃r:Int,(0<=r/\r<size)/\∀σ es,HB σ->∀d Q E,Q (it r) (HC sc σ (a+1) es)->ba TT NN (d+2) ak (.p<|aI 1018) [.ob 0,it size] (HC sc σ a es) Q E:=cE (RU hs h0 h1 size hp) λr hr T=>(b0 r hr λσ es B d Q E k=>(akS B).elim λo z=>T _ o z d Q E k)
theorem dY(k:Q (.p<|jV<| .js 5<|ab t) σ):ba TT NN (d+1) ak (.p<|aI 1025) [.p<|ab t] σ Q E:=aZ rfl rfl λ_=>k
theorem abq(hs:sc.length<=63)(h0:0<=a)(h1:a<=1000):∃x:Ar,vn x/\∀σ o,aW σ 0=aa o->∀d Q E,Q (.p<|jV x) (aG σ 0<|pX sc<|a+1)->ba TT NN (d+3) ak (.p<|aI 1032) [.ob 0] (aG σ 0<|pX sc a) Q E:=by
 refine eh λcy bk=>?_;obtain ⟨r,⟨r1,r2⟩,T⟩:=RU hs h0 h1 6<|dc rt;refine bk ?_;have:=amt r1 r2;rcases this with rfl|rfl|rfl|rfl|rfl|rfl
 ·exact (b0 (.js 0<|af 1) ⟨rfl,_,rfl,by decide⟩ λσ o ho d Q E k=>aZ rfl rfl λhc=>hc<|T σ o ho d _ _ ⟨⟨rt,rt⟩,bH _,k⟩)
 ·exact (b0 (.js 0<|af 2) ⟨rfl,_,rfl,by decide⟩ λσ o ho d Q E k=>aZ rfl rfl λhc=>hc<|T σ o ho d _ _ ⟨⟨rt,rt⟩,bH _,k⟩)
 ·exact (b0 (.js 0<|af 3) ⟨rfl,_,rfl,by decide⟩ λσ o ho d Q E k=>aZ rfl rfl λhc=>hc<|T σ o ho d _ _ ⟨⟨rt,rt⟩,bH _,k⟩)
 ·exact (b0 (.js 0<|af 1) ⟨rfl,_,rfl,by decide⟩ λσ o ho d Q E k=>aZ rfl rfl λhc=>hc<|T σ o ho d _ _ ⟨⟨rt,rt⟩,bH _,k⟩)
 ·exact (b0 (.js 0<|af<|-1) ⟨rfl,_,rfl,by decide⟩ λσ o ho d Q E k=>aZ rfl rfl λhc=>hc<|T σ o ho d _ _ ⟨⟨rt,rt⟩,bH _,k⟩)
 ·exact (b0 (.m4 0 82) ⟨rfl,rfl⟩ λσ o ho d Q E k=>aZ rfl rfl λhc=>hc<|T σ o ho d _ _ ⟨⟨rt,rt⟩,bH _,k⟩)
end
noncomputable def En.ctorIdx (x:En):Nat:=En.casesOn (motive:=λ_=>Nat) x 0 (λ_=>1) (λ_ _=>2) λ_=>3
abbrev S3:List Tx:=[cQ,bU,cM]
abbrev S5:List Tx:=eW::dV::S3
abbrev S9:List Tx:=gy::k6::fH::fL::S5
section
variable{a:Int}{S:List Tx}
theorem tU{x:Ar}(hw:cL (ab aE) (ab bm)=ak)(h1:cO (ab t) [ab bU,ab pL,ab cQ]=ak)(h2:cL (ab t) (ab EI)=ak)(h3:cO (ab t) [ab cM,ab fH]=ak)(hx:gC x):qR aE (.d4 t x):=⟨⟨h1,h2,(λq=>tf q h3),λ_=>hx⟩,λq=>tf q hw⟩
theorem afF{x:Ar}(hw:cL (ab aE) (ab bm)=ak)(hx:vn x):qR aE (.d4 fH x):=⟨⟨(show cO (ab fH) [ab bU,ab pL,ab cQ]=ak by decide+kernel),(show cL (ab fH) (ab EI)=ak by decide+kernel),λ_=>hx,λq=>nomatch (show ag=ak from q)⟩,λq=>tf q hw⟩
noncomputable abbrev RV (rs:Env):Env:=(217,.ob 0)::(69,.ob 2)::rs
theorem amV(hw:cL (ab aE) (ab bm)=ak)(D:DS aE L S3 es)(hs:sc.length<=63)(h0:0<=a)(h1:a<=900):∃(ext:List En)(a':Int),DS aE L (dV::S3) (es++ext)/\(a<=a'/\a'<=a+2)/\∀σ,HB σ->∀d cl cf Q E,jo cl (d+2) ak->ez cl cf (eR 1 i9.body) (RV []) (HC sc σ a'<|es++ext) Q E->ez cl cf i9.body (RV []) (HC sc σ a es) Q E:=by
 refine eh λcy bk=>?_;obtain ⟨r,⟨r1,r2⟩,T⟩:=pF hs h0 (dp aB aA [(1,aB,nW)] rt h1) 3<|dc rt;refine bk ?_;by_cases q:0<r
 ·refine eh λcy bk=>?_
  obtain ⟨s,⟨s1,s2⟩,U⟩:=pF hs (a:=a+1) (dp eC eI [(1,eC,aB)] rt h0) (dp eI aA [(1,aB,nW)] rt h1) 4<|dc rt;refine bk ?_;have F:=λx hx=>D.add (e:=.d4 dV x) (tU hw (dc rt) (dc rt) (dc rt) hx) (show dV∉S3 by decide+kernel) λn q=>nomatch q;have G:∀x,gC x->∀σ,HB σ->∀{Q E},Q () (HC sc σ (a+1+1)<|es++[.d4 dV x])->iA (.ob 2) (.p<|ab dV) (.p<|jV x) (HC sc σ (a+1+1) es) Q E:=λx hx σ B Q E k=>ph (e:=.d4 dV x) B D (show dV∉S3 by decide+kernel) (dc rt) k;have:=ajg s1 s2;rcases this with rfl|rfl|rfl|rfl
  ·have hx:gC (.js 5<|ab [80]):=⟨rfl,_,rfl,by decide⟩
   exact (gZ _ (a+1+1) (F _ hx) ⟨(dp aB mh [] rt),(dp mh iP [] rt)⟩ λσ B d cl cf Q E hc k=>hc<|T σ es B d _ _<|pO (λ_=>hc<|dY<|hc<|dY<|hc<|dY<|hc<|U σ es B d _ _<|G _ hx σ B k) λz=>(z q).elim)
  ·have hx:gC (.js 5<|ab [81,32]):=⟨rfl,_,rfl,by decide⟩
   exact (gZ _ (a+1+1) (F _ hx) ⟨(dp aB mh [] rt),(dp mh iP [] rt)⟩ λσ B d cl cf Q E hc k=>hc<|T σ es B d _ _<|pO (λ_=>hc<|dY<|hc<|dY<|hc<|dY<|hc<|U σ es B d _ _<|G _ hx σ B k) λz=>(z q).elim)
  ·have hx:gC (.m4 5 70):=⟨rfl,rfl⟩
   exact (gZ _ (a+1+1) (F _ hx) ⟨(dp aB mh [] rt),(dp mh iP [] rt)⟩ λσ B d cl cf Q E hc k=>hc<|T σ es B d _ _<|pO (λ_=>hc<|dY<|hc<|dY<|hc<|dY<|hc<|U σ es B d _ _<|G _ hx σ B k) λz=>(z q).elim)
  ·have hx:gC (.js 5<|ab [32]):=⟨rfl,_,rfl,by decide⟩
   exact (gZ _ (a+1+1) (F _ hx) ⟨(dp aB mh [] rt),(dp mh iP [] rt)⟩ λσ B d cl cf Q E hc k=>hc<|T σ es B d _ _<|pO (λ_=>hc<|dY<|hc<|dY<|hc<|dY<|hc<|U σ es B d _ _<|G _ hx σ B k) λz=>(z q).elim)
 ·exact (gZ [] (a+1) ((fc es).symm▸D.bL (λt h=>aS _ h) (kZ _)) ⟨(dp aB eI [] rt),(dp eI iP [] rt)⟩ λσ B d cl cf Q E hc k=>hc<|T σ es B d _ _<|pO (λz=>(q z).elim) λ_=>by rw[fc]at k;exact k)
theorem amW(hw:cL (ab aE) (ab bm)=ak)(D:DS aE L (dV::S3) es)(hs:sc.length<=63)(h0:0<=a)(h1:a<=900):∃(ext:List En)(a':Int)(w:P),DS aE L S5 (es++ext)/\(a<=a'/\a'<=a+2)/\∀σ,HB σ->∀d cl cf Q E,jo cl (d+2) ak->ez cl cf (eR 3 i9.body) (RV [(221,.p w)]) (HC sc σ a'<|es++ext) Q E->ez cl cf (eR 1 i9.body) (RV []) (HC sc σ a es) Q E:=by
 refine eh λcy bk=>?_;obtain ⟨r,⟨r1,r2⟩,T⟩:=pF hs h0 (dp aB aA [(1,aB,nW)] rt h1) 8<|dc rt;refine bk ?_;have F:=λx hx=>D.add (e:=.d4 eW x) (tU hw (dc rt) (dc rt) (dc rt) hx) (show eW∉dV::S3 by decide+kernel) λn q=>nomatch q;have G:∀x,gC x->∀σ,HB σ->∀{Q E},Q () (HC sc σ (a+1)<|es++[.d4 eW x])->iA (.ob 2) (.p<|ab eW) (.p<|jV x) (HC sc σ (a+1) es) Q E:=λx hx σ B Q E k=>ph (e:=.d4 eW x) B D (show eW∉dV::S3 by decide+kernel) (dc rt) k;have:=amu r1 r2;rcases this with rfl|rfl|rfl|rfl|rfl|rfl|rfl|rfl
 ·exact (LS [] (a+1) _ ((fc es).symm▸D.bL (λt h=>aS _ h) (kZ _)) ⟨(dp aB eI [] rt),(dp eI iP [] rt)⟩ λσ B d cl cf Q E hc k=>hc<|T σ es B d _ _<|pO (λz=>absurd z<|dc rt) λ_=>by rw[fc]at k;exact k)
 ·have hx:gC (.js 5<|ab MT):=⟨rfl,_,rfl,by decide⟩
  exact (LS _ (a+1) _ (F _ hx) ⟨(dp aB eI [] rt),(dp eI iP [] rt)⟩ λσ B d cl cf Q E hc k=>hc<|T σ es B d _ _<|pO (λ_=>hc<|dY<|G _ hx σ B k) λz=>absurd (by decide) z)
 ·have hx:gC (.js 5<|ab EJ):=⟨rfl,_,rfl,by decide⟩
  exact (LS _ (a+1) _ (F _ hx) ⟨(dp aB eI [] rt),(dp eI iP [] rt)⟩ λσ B d cl cf Q E hc k=>hc<|T σ es B d _ _<|pO (λ_=>hc<|dY<|G _ hx σ B k) λz=>absurd (by decide) z)
 ·have hx:gC (.js 5<|ab fK):=⟨rfl,_,rfl,by decide⟩
  exact (LS _ (a+1) _ (F _ hx) ⟨(dp aB eI [] rt),(dp eI iP [] rt)⟩ λσ B d cl cf Q E hc k=>hc<|T σ es B d _ _<|pO (λ_=>hc<|dY<|G _ hx σ B k) λz=>absurd (by decide) z)
 ·have hx:gC (.js 5<|ab iJ):=⟨rfl,_,rfl,by decide⟩
  exact (LS _ (a+1) _ (F _ hx) ⟨(dp aB eI [] rt),(dp eI iP [] rt)⟩ λσ B d cl cf Q E hc k=>hc<|T σ es B d _ _<|pO (λ_=>hc<|dY<|G _ hx σ B k) λz=>absurd (by decide) z)
 ·have hx:gC (.js 5<|ab MU):=⟨rfl,_,rfl,by decide⟩
  exact (LS _ (a+1) _ (F _ hx) ⟨(dp aB eI [] rt),(dp eI iP [] rt)⟩ λσ B d cl cf Q E hc k=>hc<|T σ es B d _ _<|pO (λ_=>hc<|dY<|G _ hx σ B k) λz=>absurd (by decide) z)
 ·have hx:gC (.js 5<|ab agL):=⟨rfl,_,rfl,by decide⟩
  exact (LS _ (a+1) _ (F _ hx) ⟨(dp aB eI [] rt),(dp eI iP [] rt)⟩ λσ B d cl cf Q E hc k=>hc<|T σ es B d _ _<|pO (λ_=>hc<|dY<|G _ hx σ B k) λz=>absurd (by decide) z)
 ·have hx:gC (.js 5<|ab iJ):=⟨rfl,_,rfl,by decide⟩
  exact (LS _ (a+1) _ (F _ hx) ⟨(dp aB eI [] rt),(dp eI iP [] rt)⟩ λσ B d cl cf Q E hc k=>hc<|T σ es B d _ _<|pO (λ_=>hc<|dY<|G _ hx σ B k) λz=>absurd (by decide) z)
end
section
variable{a:Int}{S:List Tx}
theorem amX(hw:cL (ab aE) (ab bm)=ak)(D:DS aE L S5 es)(hs:sc.length<=63)(h0:0<=a)(h1:a<=900):∃(ext:List En)(a':Int),DS aE L S9 (es++ext)/\(a<=a'/\a'<=a+2)/\∀σ,HB σ->∀d cl cf w Q E,jo cl (d+2) ak->Q (.p .none) (HC sc σ a'<|es++ext)->ez cl cf (eR 3 i9.body) (RV [(221,.p w)]) (HC sc σ a es) (l3 Q) (sH E):=by
 refine eh λcy bk=>?_;obtain ⟨r,⟨r1,r2⟩,T⟩:=pF hs h0 (dp aB aA [(1,aB,nW)] rt h1) 4<|dc rt;refine bk ?_;have up:∀{S es},DS aE L S es->(∀t∈S,t∈S9)->S.length<=9->DS aE L S9 es:=λD h l=>D.bL h l;have:=ajg r1 r2;rcases this with rfl|rfl|rfl|rfl
 ·exact (gZ [] (a+1) ((fc es).symm▸up D (λt h=>aS _<|aS _<|aS _<|aS _ h) (dc rt)) ⟨(dp aB eI [] rt),(dp eI iP [] rt)⟩ λσ B d cl cf w Q E hc k=>hc<|T σ es B d _ _ ⟨⟨rt,rt⟩,bH _,⟨⟨rt,rt⟩,bH _,⟨⟨rt,rt⟩,bH _,by rw[fc]at k;exact k⟩⟩⟩)
 ·have hx:gC (.js 5<|ab fY):=⟨rfl,_,rfl,by decide⟩
  have D1:=D.add (e:=.d4 fL _) (tU hw (dc rt) (dc rt) (dc rt) hx) (show fL∉S5 by decide+kernel) λn q=>nomatch q;have D2:DS aE L (fH::fL::S5) ((es++[.d4 fL<| .js 5<|ab fY])++[.d4 fH<| .js 0<|af 8]):=D1.add (e:=.d4 fH _) (afF hw ⟨rfl,_,rfl,by decide⟩) (show fH∉fL::S5 by decide+kernel) λn q=>nomatch q;refine (gZ [.d4 fL<| .js 5<|ab fY,.d4 fH<| .js 0<|af 8] (a+1) ?_ ⟨(dp aB eI [] rt),(dp eI iP [] rt)⟩ λσ B d cl cf w Q E hc k=>hc<|T σ es B d _ _ ⟨⟨rt,rt⟩,bH _,hc<|dY<|ph (e:=.d4 fL<| .js 5<|ab fY) B D (show fL∉S5 by decide+kernel) (dc rt)<|ph (e:=.d4 fH<| .js 0<|af 8) B D1 (show fH∉fL::S5 by decide+kernel) (dc rt) ⟨⟨rt,rt⟩,bH _,⟨⟨rt,rt⟩,bH _,by rw[de];exact k⟩⟩⟩);rw[de]at D2;exact up D2 (λt h=>aS _<|aS _ h)<|dc rt
 ·obtain ⟨s,⟨s1,s2⟩,U⟩:=pF hs (a:=a+1) (dp eC eI [(1,eC,aB)] rt h0) (dp eI aA [(1,aB,nW)] rt h1) 2<|dc rt
  have F:∀x,gC x->DS aE L (k6::S5) (es++[.d4 k6 x]):=λx hx=>D.add (e:=.d4 k6 x) (tU hw (dc rt) (dc rt) (dc rt) hx) (show k6∉S5 by decide+kernel) λn q=>nomatch q;have G:∀x,gC x->∀σ,HB σ->∀{Q E},Q () (HC sc σ (a+1+1)<|es++[.d4 k6 x])->iA (.ob 2) (.p<|ab k6) (.p<|jV x) (HC sc σ (a+1+1) es) Q E:=λx hx σ B Q E k=>ph (e:=.d4 k6 x) B D (show k6∉S5 by decide+kernel) (dc rt) k;have iz:∀t∈k6::S5,t∈S9:=λt h=>aS _<|(dU.mp h).elim (λq=>q▸bt _) λq=>aS _<|aS _<|aS _ q;have:=ajf s1 s2;rcases this with rfl|rfl
  ·have hx:gC (.js 5<|ab d6):=⟨rfl,_,rfl,by decide⟩
   exact (gZ _ (a+1+1) (up (F _ hx) iz<|dc rt) ⟨(dp aB mh [] rt),(dp mh iP [] rt)⟩ λσ B d cl cf w Q E hc k=>hc<|T σ es B d _ _ ⟨⟨rt,rt⟩,bH _,⟨⟨rt,rt⟩,bH _,hc<|U σ es B d _ _<|hc<|dY<|G _ hx σ B ⟨⟨rt,rt⟩,bH _,k⟩⟩⟩)
  ·have hx:gC (.js 5<|ab fG):=⟨rfl,_,rfl,by decide⟩
   exact (gZ _ (a+1+1) (up (F _ hx) iz<|dc rt) ⟨(dp aB mh [] rt),(dp mh iP [] rt)⟩ λσ B d cl cf w Q E hc k=>hc<|T σ es B d _ _ ⟨⟨rt,rt⟩,bH _,⟨⟨rt,rt⟩,bH _,hc<|U σ es B d _ _<|hc<|dY<|G _ hx σ B ⟨⟨rt,rt⟩,bH _,k⟩⟩⟩)
 ·obtain ⟨s,⟨s1,s2⟩,U⟩:=pF hs (a:=a+1) (dp eC eI [(1,eC,aB)] rt h0) (dp eI aA [(1,aB,nW)] rt h1) 3<|dc rt
  have F:∀x,gC x->DS aE L (gy::S5) (es++[.d4 gy x]):=λx hx=>D.add (e:=.d4 gy x) (tU hw (dc rt) (dc rt) (dc rt) hx) (show gy∉S5 by decide+kernel) λn q=>nomatch q;have G:∀x,gC x->∀σ,HB σ->∀{Q E},Q () (HC sc σ (a+1+1)<|es++[.d4 gy x])->iA (.ob 2) (.p<|ab gy) (.p<|jV x) (HC sc σ (a+1+1) es) Q E:=λx hx σ B Q E k=>ph (e:=.d4 gy x) B D (show gy∉S5 by decide+kernel) (dc rt) k;have iz:∀t∈gy::S5,t∈S9:=λt h=>(dU.mp h).elim (λq=>q▸bt _) λq=>aS _<|aS _<|aS _<|aS _ q;have:=alu s1 s2;rcases this with rfl|rfl|rfl
  ·have hx:gC (.js 5<|ab G'):=⟨rfl,_,rfl,by decide⟩
   exact (gZ _ (a+1+1) (up (F _ hx) iz<|dc rt) ⟨(dp aB mh [] rt),(dp mh iP [] rt)⟩ λσ B d cl cf w Q E hc k=>hc<|T σ es B d _ _ ⟨⟨rt,rt⟩,bH _,⟨⟨rt,rt⟩,bH _,⟨⟨rt,rt⟩,bH _,hc<|U σ es B d _ _<|hc<|dY<|G _ hx σ B k⟩⟩⟩)
  ·have hx:gC (.js 5<|ab vk):=⟨rfl,_,rfl,by decide⟩
   exact (gZ _ (a+1+1) (up (F _ hx) iz<|dc rt) ⟨(dp aB mh [] rt),(dp mh iP [] rt)⟩ λσ B d cl cf w Q E hc k=>hc<|T σ es B d _ _ ⟨⟨rt,rt⟩,bH _,⟨⟨rt,rt⟩,bH _,⟨⟨rt,rt⟩,bH _,hc<|U σ es B d _ _<|hc<|dY<|G _ hx σ B k⟩⟩⟩)
  ·have hx:gC (.js 5<|ab MU):=⟨rfl,_,rfl,by decide⟩
   exact (gZ _ (a+1+1) (up (F _ hx) iz<|dc rt) ⟨(dp aB mh [] rt),(dp mh iP [] rt)⟩ λσ B d cl cf w Q E hc k=>hc<|T σ es B d _ _ ⟨⟨rt,rt⟩,bH _,⟨⟨rt,rt⟩,bH _,⟨⟨rt,rt⟩,bH _,hc<|U σ es B d _ _<|hc<|dY<|G _ hx σ B k⟩⟩⟩)
theorem Oo(hw:cL (ab aE) (ab bm)=ak)(D:DS aE L S3 es)(hs:sc.length<=63)(h0:0<=a)(h1:a<=890):∃(ext:List En)(a':Int),DS aE L S9 (es++ext)/\(a<=a'/\a'<=a+6)/\∀σ,HB σ->∀d Q E,Q (.p .none) (HC sc σ a'<|es++ext)->ba TT NN (d+3) ak (.p<|aI 1039) [.ob 0,.ob 2] (HC sc σ a es) Q E:=by
 refine eh λcy bk=>?_;obtain ⟨e1,a1,D1,⟨b1,c1⟩,T1⟩:=amV hw D hs h0<|dp (.v 0) (.n 900) [(1,.v 0,.n 890)] rt h1;obtain ⟨e2,a2,w,D2,⟨b2,c2⟩,T2⟩:=amW hw D1 hs (a:=a1) (rQ (.n 0) (.v 1) [(1,.n 0,.v 0),(1,.v 0,.v 1)] rt h0 b1)<|rQ (.v 1) (.n 900) [(1,.v 0,.n 890),(1,.v 1,.a (.v 0)<| .n 2)] rt h1 c1;obtain ⟨e3,a3,D3,⟨b3,c3⟩,T3⟩:=amX hw D2 hs (a:=a2) (LO (.n 0) (.v 2) [(1,.n 0,.v 0),(1,.v 0,.v 1),(1,.v 1,.v 2)] rt h0 b1 b2)<|LO (.v 2) (.n 900) [(1,.v 0,.n 890),(1,.v 1,.a (.v 0)<| .n 2),(1,.v 2,.a (.v 1)<| .n 2)] rt h1 c1 c2;refine bk ?_;have e:((es++e1)++e2)++e3=es++((e1++e2)++e3):=by rw[de,de,de]
 rw[e]at D3;exact (gZ ((e1++e2)++e3) a3 D3 ⟨(als (.v 0) (.v 3) [(1,.v 0,.v 1),(1,.v 1,.v 2),(1,.v 2,.v 3)] rt b1 b2 b3),(als (.v 3) (.a (.v 0)<| .n 6) [(1,.v 1,.a (.v 0)<| .n 2),(1,.v 2,.a (.v 1)<| .n 2),(1,.v 3,.a (.v 2)<| .n 2)] rt c1 c2 c3)⟩ λσ B d Q E k=>aZ rfl rfl @λcl cf hc=>T1 σ B d cl cf _ _ hc<|T2 σ B d cl cf _ _ hc<|T3 σ B d cl cf w _ _ hc<|ah e<|k)
end
structure Nq(L:Int->Prop)(ls:List P):Prop where
 v:∀(j:Nat)v,ls[j]?=aa v->∃n,v=af n/\L n
 l0:0<ls.length
 l1:ls.length<=100
noncomputable abbrev Nr (ls:List P) (aE:Tx) (w:P):Env:=[(217,.ob 0),(53,.p<|aL ls),(36,.p<|ab aE),(69,.tm 2),(225,.p w)]
section
variable{a:Int}{S:List Tx}{ls:List P}
theorem abr{x:Ar}(hx:vn x):qR aE (.d4 cM x):=⟨⟨(show cO (ab cM) [ab bU,ab pL,ab cQ]=ak by decide+kernel),(show cL (ab cM) (ab EI)=ak by decide+kernel),λ_=>hx,λq=>nomatch (show ag=ak from q)⟩,λ_=>rt⟩
theorem Xx(he:qR aE e)(hL:∀n,e=.yr n->L n):DS aE L [pW e] [e]:=⟨λx h=>fq.mp h▸he,λx h=>fq.mp h▸bt _,λx h=>(fq.mp h)▸if_pos rfl,gj 1,λn h=>hL n (fq.mp h).symm⟩
theorem Xy(h:HB σ):aG (aG σ 0<|pX sc a) 2 (du [(.s<|pW e,ID e)])=HC sc σ a [e]:=by delta HC;refine ah (dA<|by decide) ?_;rfl
theorem Xz(hs:sc.length<=63)(h0:0<=a)(h1:a<=900)(LD:Nq L ls)(D:DS aE L [bU,cM] es):∃n,L n/\DS aE L S3 (es++[.yr n])/\∀σ,HB σ->∀d cl cf m r Q E,jo cl (d+2) ak->av m 217=aa (.ob 0)->av m 53=aa (.p<|aL ls)->av m 69=aa (.tm 2)->ez cl cf r m (HC sc σ (a+1)<|es++[.yr n]) Q E->ez cl cf (.cons (.MI (bC 69) (dN<|ab cQ)<| .iz (bC 53)<| .call (.fy 222)<| .cons (bC 217)<| .cons (.call (.fy 25)<| .cons (bC 53) .nil) .nil) r) m (HC sc σ a es) Q E:=by
 refine eh λcy bk=>?_;obtain ⟨r,⟨r1,r2⟩,T⟩:=pF hs h0 (dp aB aA [(1,aB,nW)] rt h1) ls.length<|dp (eA eC bz) aB [(1,eA eC bz,aB)] rt<|cS.mpr LD.l0;obtain ⟨j,hj⟩:∃j:Nat,r=j:=⟨r.toNat,(xd r1).symm⟩
 have jl:=(cS.mp<|zz [r,↑ls.length,↑j] Dj bb [(1,eA aB bz,bb),(1,cv,aB)] rt r2<|d8 hj.symm)
 have hv:=wZ jl;refine cE (LD.v j _ hv) λn hn Ln=>bk ?_;rw[hn]at hv;refine (tc n Ln (D.add (e:=.yr n) trivial (show cQ∉[bU,cM] by decide+kernel) λm q=>by cases q;exact Ln) λσ B d cl cf m rr Q E hc m1 m2 m3 k=>?_);refine ax m2<|ax m1<|ax m2<|hc ⟨bo LD.l1<|dc rt,hc<|T σ es B d _ _ ?_⟩;exact gz (gq hj jl<|bo LD.l1<|dc rt) hv (ax m3<|ph (e:=.yr n) B D (show cQ∉[bU,cM] by decide+kernel) (dc rt) k)
theorem abt(hs:sc.length<=63)(h0:0<=a)(h1:a<=880)(LD:Nq L ls):∃(es:List En)(a':Int)(w:P),DS aE L S3 es/\(∃x r,es=.d4 cM x::r/\∀e∈r,∀i,e≠.l7 i)/\(a<=a'/\a'<=a+3)/\∀σ,HB σ->∀d cl cf Q E,jo cl (d+3) ak->ez cl cf (eR 5 dP.body) (Nr ls aE w) (HC sc σ a' es) Q E->ez cl cf (eR 1 dP.body) [(217,.ob 0),(53,.p<|aL ls),(36,.p<|ab aE)] (aG σ 0<|pX sc a) Q E:=by
 refine eh λcy bk=>cE (abq hs h0<|dp (.v 0) (.n 1000) [(1,.v 0,.n 880)] rt h1) λx hx U=>?_;obtain ⟨r,⟨r1,r2⟩,T⟩:=pF hs (a:=a+1) (dp (.n 0) (.a (.v 0)<| .n 1) [(1,.n 0,.v 0)] rt h0) (dp (.a (.v 0)<| .n 1) (.n 1000) [(1,.v 0,.n 880)] rt h1) 4<|dc rt;refine bk ?_;have D1:DS aE L [cM] [.d4 cM x]:=Xx (abr hx) λn q=>nomatch q;have D2:DS aE L [bU,cM] ([.d4 cM x]++[.yq]):=D1.add (e:=.yq) trivial (show bU∉[cM] by decide+kernel) λn q=>nomatch q;have st:∀σ,HB σ->∀d cl cf Q E,jo cl (d+3) ak->ez cl cf (eR 3 dP.body) (Nr ls aE<|af r) (HC sc σ (a+1+1) [.d4 cM x]) Q E->ez cl cf (eR 1 dP.body) [(217,.ob 0),(53,.p<|aL ls),(36,.p<|ab aE)] (aG σ 0<|pX sc a) Q E:=λσ B d cl cf Q E hc k=>by
  refine ue B.h0 λo ho=>?_;have f2:∀{b},aW (aG σ 0<|pX sc b) 2=aa ae:=(ay<|by decide).trans B.h2;refine cj<|qS<|hc<|U σ o ho d _ _<|jt f2<|lB f2 ?_;exact ah (show aG (aG σ 0<|pX sc<|a+1) 2 (du<|cn [] [(.s cM,jV x)])=HC sc σ (a+1) [.d4 cM x]from Xy (e:=.d4 cM x) B)<|hc<|T σ _ B (d+1) _ _ k
 have yq:∀σ,HB σ->∀{Q E},Q () (HC sc σ (a+1+1)<|[.d4 cM x]++[.yq])->iA (.ob 2) (.p<|ab bU) (.p<|jV<| .m4 0 83) (HC sc σ (a+1+1) [.d4 cM x]) Q E:=λσ B Q E k=>ph (e:=.yq) B D1 (show bU∉[cM] by decide+kernel) (dc rt) k
 have:=ajg r1 r2
 rcases this with rfl|rfl|rfl|rfl
 ·exact (aaj _ (a+1+1) (af 0) ((λD=>D.bL (λt h=>aS _ h)<|by decide) D2) (jY x [.yq] rfl λe h i q=>by rw[fq.mp h]at q;contradiction) ⟨(dp (.v 0) (.a (.a (.v 0)<| .n 1)<| .n 1) [] rt),(dp (.a (.a (.v 0)<| .n 1)<| .n 1) (.a (.v 0)<| .n 3) [] rt)⟩ λσ B d cl cf Q E hc k=>st σ B d cl cf Q E hc ⟨by decide,⟨rt,rt⟩,bH _,yq σ B ⟨bH _,k⟩⟩)
 ·exact (aaj _ (a+1+1) (af 1) ((λD=>D.bL (λt h=>aS _ h)<|by decide)<|D1.bL (λt h=>aS _ h)<|by decide) (jY x [] rfl λe h=>nomatch h) ⟨(dp (.v 0) (.a (.a (.v 0)<| .n 1)<| .n 1) [] rt),(dp (.a (.a (.v 0)<| .n 1)<| .n 1) (.a (.v 0)<| .n 3) [] rt)⟩ λσ B d cl cf Q E hc k=>st σ B d cl cf Q E hc ⟨by decide,⟨rt,rt⟩,bH _,⟨bH _,k⟩⟩)
 ·obtain ⟨n,Ln,D3,G⟩:=Xz hs (a:=a+1+1) (dp (.n 0) (.a (.a (.v 0)<| .n 1)<| .n 1) [(1,.n 0,.v 0)] rt h0) (dp (.a (.a (.v 0)<| .n 1)<| .n 1) (.n 900) [(1,.v 0,.n 880)] rt h1) LD D2
  refine (aaj _ (a+1+1+1) (af 2) D3 (jY x [.yq,.yr n] rfl λe h i q=>?_) ⟨(dp (.v 0) (.a (.a (.a (.v 0)<| .n 1)<| .n 1)<| .n 1) [] rt),(dp (.a (.a (.a (.v 0)<| .n 1)<| .n 1)<| .n 1) (.a (.v 0)<| .n 3) [] rt)⟩ λσ B d cl cf Q E hc k=>st σ B d cl cf Q E hc ⟨by decide,⟨rt,rt⟩,bH _,yq σ B ⟨bH _,G σ B (d+1) cl cf _ _ _ _ hc rfl rfl rfl k⟩⟩);rcases dU.mp h with h|h
  ·rw[h]at q;contradiction
  ·rw[fq.mp h]at q;contradiction
 ·obtain ⟨n,Ln,D3,G⟩:=Xz hs (a:=a+1+1) (dp (.n 0) (.a (.a (.v 0)<| .n 1)<| .n 1) [(1,.n 0,.v 0)] rt h0) (dp (.a (.a (.v 0)<| .n 1)<| .n 1) (.n 900) [(1,.v 0,.n 880)] rt h1) LD (D1.bL (λt h=>aS _ h)<|by decide)
  exact (aaj _ (a+1+1+1) (af 3) D3 (jY x [.yr n] rfl λe h i q=>by rw[fq.mp h]at q;contradiction) ⟨(dp (.v 0) (.a (.a (.a (.v 0)<| .n 1)<| .n 1)<| .n 1) [] rt),(dp (.a (.a (.a (.v 0)<| .n 1)<| .n 1)<| .n 1) (.a (.v 0)<| .n 3) [] rt)⟩ λσ B d cl cf Q E hc k=>st σ B d cl cf Q E hc ⟨by decide,⟨rt,rt⟩,bH _,⟨bH _,G σ B (d+1) cl cf _ _ _ _ hc rfl rfl rfl k⟩⟩)
end
noncomputable def sY (f k n:Nat):List Nat:=(jQ k n).map λj=>(f+j) % 8
noncomputable def vq (l:List Nat):List En:=l.map .l7
theorem afG:∀f,f<8->∀n,0<n->n<6->∀(v:Nat->P)M,(sY f 0 n).foldl (λM i=>rz i (v i) M) M=[0,1,2,3,4,5,6,7].foldl (λM i=>cond ((sY f 0 n).contains i) (rz i (v i) M) M) M:=by
 intro f hf n h0 h1 v M;rcases (amw n h1 h0)with rfl|rfl|rfl|rfl|rfl<;>rcases (amv f hf)with rfl|rfl|rfl|rfl|rfl|rfl|rfl|rfl<;>rfl
section
variable{a:Int}{S:List Tx}{ls:List P}
theorem IT:∀i,i<8->∀j,j<8->gT i=gT j->i=j:=dc rt
theorem YJ{l m:List En}:fO (l++m)=fO l++fO m:=by
 induction l with
 |nil=>rfl
 |cons e l ih=>cases e with
  |l7 i=>exact congrArg (i::·) ih
  |_=>exact ih
theorem afH:∀{l},fO (vq l)=l:=@lr _ _
 (rfl)
 (λi l ih=>congrArg (i::·) ih)
theorem abu:∀{l:List En},(∀e∈l,∀i,e≠.l7 i)->fO l=[]:=@lr _ _
 (@λ_=>rfl)
 (λe l b5=>@λh=>by
  have ih:=b5 λe q=>h e<|aS _ q;cases e with
  |l7 i=>exact (h _ (bt _) i rfl).elim
  |_=>exact ih)
theorem abv(hi:i<8):∀{l},(∀j∈l,j<8)->(av (dE<|vq l)<| .s<|gT i).isSome=l.contains i:=@lr _ _
 (@λ_=>rfl)
 (λj l b5=>@λh=>by
  refine ah Le ?_;show (if bV.s (gT j)=.s (gT i)then aa _ else av (dE<|vq l) (.s<|gT i)).isSome=_;by_cases q:j=i
  ·subst q;refine ah (if_pos rfl) ?_;rw[beq_self_eq_true];rfl
  ·refine ah (if_neg λz=>q<|IT j (h j<|bt _) i hi<|bV.s.inj z)<|ah (b5 λj q=>h j<|aS _ q)<|ah (beq_false_of_ne λz=>q z.symm) ?_;rfl)
theorem afI{f:Nat}:∀j∈sY f k n,j<8:=λj h=>by
 refine cE (nQ.mp h) λx _ w2=>?_;subst w2;exact uL _<|dc rt
theorem afJ{f:Nat}(hf:f<8)(h0:0<n)(h1:n<6)(hp:∀e∈lV,∀i,e≠.l7 i)(hk:∀e∈lV,∀i,i<8->pW e≠gT i)(v:Nat->P)(M:Mem):(fO<|lV++vq (sY f 0 n)).foldl (λM i=>rz i (v i) M) M=[0,1,2,3,4,5,6,7].foldl (λM i=>cond (IE (lV++vq (sY f 0 n)) i) (rz i (v i) M) M) M:=by
 have e2:∀i,i<8->IE (lV++vq (sY f 0 n)) i=(sY f 0 n).contains i:=λi hi=>by
  delta IE;rw[Fq,y5 λx hx q=>?_,abv hi afI];refine cE (nQ.mp hx) λy hy w2=>?_;subst w2;exact hk y hy i hi<|bV.s.inj q
 refine ah (by refine ah YJ ?_;refine ah (abu hp) ?_;refine ah afH ?_;rfl:fO (lV++vq (sY f 0 n))=sY f 0 n) ?_;rw[afG f hf n h0 h1]
 simp only[Vo,List.foldl_nil,e2 0<|dc rt,e2 1<|dc rt,e2 2<|dc rt,e2 3<|dc rt,e2 4<|dc rt,e2 5<|dc rt,e2 6<|dc rt,e2 7<|dc rt]
def afK(rs:Env):Prop:=rs=[]\/∃x y z u:P,rs=[(80,.p x),(62,.p y),(30,.p z),(33,.p u)]
abbrev zW(b:Bool)(ls:List P)(aE:Tx)(w:P)(F:Int)(rs:Env):Env:=match b with
 |true=>(217,.ob 0)::(53,.p<|aL ls)::(36,.p<|ab aE)::(69,.tm 2)::(225,.p w)::(227,it F)::rs
 |false=>(217,.ob 0)::(53,.p<|aL ls)::(36,.p<|ab aE)::(225,.p w)::(69,.tm 2)::(227,it F)::rs
def Nt:List P:=[ur 0,ur 1,ur 2,ur 3,ur 4,ur 5,ur 6,ur 7]
theorem YK{Q:Fl->Env->H->Prop}{E:Env->H->Prop}{w:P}{F:Int}(hc:jo cl (d+1) ak)(B:HB σ)(D:DS aE L S es)(hn:gT i∉S)(hl:S.length<=100)(hi:pU Nt.length ((F+z).fmod 8)=aa i)(hv:Nt[i]?=aa (ur i))(hr:afK rs)(k:∀rs,afK rs->Q bE (zW b ls aE w F rs) (HC sc σ a<|es++[.l7 i])):ez cl cf jw (zW b ls aE w F<|aN rs 80<|it z) (HC sc σ a es) Q E:=by
 have G:∀{Q E},Q () (HC sc σ a<|es++[.l7 i])->iA (.ob 2) (.p<|ab<|gT i) (.p<|jV<| .m4 (H4 i)<|qQ i) (HC sc σ a es) Q E:=λk=>ph (e:=.l7 i) B D hn hl k;induction b using fe<;>rcases hr with h|⟨x,y,u,v,h⟩<;>rw[h]<;>exact hc (aZ rfl rfl λ_=>⟨(by decide:(8:Int)≠0),gz hi hv<|G<|k _<|bM ⟨_,_,_,_,rfl⟩⟩)
end
section
variable{a:Int}{S:List Tx}{ls:List P}
def tV(f k:Nat)(S:List Tx):Prop:=∀i,i<8->gT i∈S->∃k',k'<k/\i=(f+k') % 8
theorem yy{f:Nat}(h:tV f k S)(hk:k<8):gT ((f+k) % 8)∉S:=λq=>by
 refine cE (h _ (uL _<|dc rt) q) λk' h1 h2=>?_;omega
theorem Fs{f:Nat}(h:tV f k S):tV f (k+1) (gT ((f+k) % 8)::S):=λi hi q=>by
 rcases dU.mp q with q|q
 ·exact (b0 k (pw _)<|IT i hi _ (uL _<|dc rt) q)
 ·exact cE (h i hi q) λk' h1 h2=>(b0 k' (Aw h1) h2)
theorem P1{f:Nat}:es++vq (sY f k<|n+1)=(es++[.l7<|(f+k) % 8])++vq (sY f (k+1) n):=by rw[de];rfl
theorem XA{f:Nat}(hw:cL (ab aE) (ab bm)=ag):∀(n k:Nat)S es,k+n<=8->DS aE L S es->tV f k S->∃S',DS aE L S' (es++vq (sY f k n))/\S'.length=S.length+n
 |0,k,S,es,_,D,_=>(b0 S (ah (fc _)<|D) rfl)
 |n+1,k,S,es,h,D,N=>by
  refine cE (XA (f:=f) hw n (k+1) (gT ((f+k) % 8)::S) (es++[.l7<|(f+k) % 8]) (cw mX kC [(1,eA aB ie,kC)] rt h) (D.add (e:=.l7<|(f+k) % 8) ⟨uL _<|dc rt,hw⟩ (yy N<|cw eI kC [(1,eA aB ie,kC)] rt h) λn q=>nomatch q)<|Fs N) λS' D' l=>(b0 S' (ah P1<|D')<|ah l<|ah rO<|Nat.le_antisymm (cw mX wg [] rt)<|cw wg mX [] rt)
theorem RX(h:i<8):Nt[i]?=aa (ur i):=Il (p:=λi=>Nt[i]?=aa (ur i)) rfl rfl rfl rfl rfl rfl rfl rfl i h
theorem YL{Q:Fl->Env->H->Prop}{E:Env->H->Prop}{w:P}{F:Int}{f:Nat}(hF:F=f)(hc:jo cl (d+1) ak)(B:HB σ)(hw:cL (ab aE) (ab bm)=ag):∀(n k:Nat)S es(rs:Env),k+n<=8->S.length+n<=100->DS aE L S es->tV f k S->afK rs->(∀rs,afK rs->Q bE (zW b ls aE w F rs) (HC sc σ a<|es++vq (sY f k n)))->jf (lW ⟨TT,NN,cl,ak,3⟩ cf [80] jw) ((jQ k n).map λ(k:Nat)=>P.int<|0+(k:Int)) (zW b ls aE w F rs) (HC sc σ a es) Q E:=@nr _
 (λk S es rs _ _ _ _ hr q=>by
  have q:=q rs hr;rw[show es++vq (sY f k 0)=es from fc _]at q;exact q)
 (λn b5 k S es rs h hl D N hr q=>by
  have hz:(F+(0+(k:Int))).fmod 8=((f+k) % 8:Nat):=by rw[Int.fmod_eq_emod_of_nonneg _ (by decide),hF,AN];rfl
  show ez cl cf jw (aN (zW b ls aE w F rs) 80<|it<|0+(k:Int)) _ _ _;refine ah (show aN (zW b ls aE w F rs) 80 (it<|0+(k:Int))=zW b ls aE w F (aN rs 80<|it<|0+(k:Int)) by cases b<;>rfl) ?_;exact YK hc B D (yy N<|cw eI kC [(1,eA aB ie,kC)] rt h) (cw bb iO [(1,eA bb eI,iO)] rt hl) (gq hz (show (f+k) % 8<8 from (uL _<|by decide))<|dc rt) (RX<|uL _<|by decide) hr λrs hr=>b5 (k+1) (gT ((f+k) % 8)::S) (es++[.l7<|(f+k) % 8]) rs (cw mX kC [(1,eA aB ie,kC)] rt h) (rO▸cw mX iO [(1,eA aB ie,iO)] rt hl) (D.add (e:=.l7<|(f+k) % 8) ⟨(uL _<|by decide),hw⟩ (yy N<|cw eI kC [(1,eA aB ie,kC)] rt h) λn q=>nomatch q) (Fs N) hr<|P1▸q)
theorem afL(D:DS aE L S es){v:P}(h:av (dE es) (.s cQ)=aa v):∃n,v=af n/\L n:=by
 refine cE (nQ.mp<|gY h) λe h1 h2=>?_;have hk:=D.ok e h1;have h3:=(sE h2).2;match e,hk,(bV.s.inj (sE h2).1),h3,h1 with
 | .yr n,_,_,h3,h1=>exact (b0 n h3.symm<|D.er n h1)
 | .yq,_,h,_,_=>exact absurd h<|dc rt
 | .d4 t a,hk,h,_,_=>subst h;exact nomatch hk.1.h
 | .l7 i,hk,h,_,_=>exact absurd h (by
  have:∀i<8,¬gT i=cQ:=dc rt;exact this i hk.1)
structure afM(L:Int->Prop)(aE:Tx)(es:List En):Prop where
 st:jO aE es
 er:∀v,av (dE es) (.s cQ)=aa v->∃n,v=af n/\L n
theorem DS.st(D:DS aE L S es)(hl:S.length<=20)(un:(∃a,(cM,a)∈bG es)\/(aE=bm/\∃a,(dV,a)∈bG es))(cm:cL (ab aE) (ab bm)=ag->∀(v:Nat->P) M,(fO es).foldl (λM i=>rz i (v i) M) M=[0,1,2,3,4,5,6,7].foldl (λM i=>cond (IE es i) (rz i (v i) M) M) M):afM L aE es:=⟨⟨D.ok,D.co,un,bo D.ln hl,cm⟩,λv h=>afL D h⟩
theorem u6(B:HB σ)(hm:av m 69=aa (.tm 2))(hr:noRef 2 (cW m 69)=ag)(amY:av (aN (cW m 69) 69<| .p<|m5 es) 36=aa (.p<|ab aE))(amZ:av (aN (cW m 69) 69<| .p<|m5 es) 69=aa (.p<|m5 es))(k:Q (.p<|aw [ab aE,m5 es])<|aG σ 0<|pX sc a):ez cl cf (eR 8 dP.body) m (HC sc σ a es) (l3 Q) (sH E):=cj (qT (x:=m5 es) hm rf (ad4 B) rfl hr<|by refine ah (by delta HC;rw[dA (by decide),dT,fX B.h2]:aG (HC sc σ a es) 2 ae=aG σ 0 (pX sc a)) ?_;exact ax amY<|ax amZ k)
end
section
variable{a:Int}{S:List Tx}{ls:List P}
theorem Fu{x:Ar}{r m:List En}:(∃a,(cM,a)∈bG ((.d4 cM x::r)++m))\/(aE=bm/\∃a,(dV,a)∈bG ((.d4 cM x::r)++m)):=bW ⟨x,bt _⟩
def Nu(L:Int->Prop)(sc:List Int)(aE:Tx)(ls:List P)(es:List En)(a:Int):Prop:=∃(v9:List En)(a':Int),afM L aE v9/\(a<=a'/\a'<=a+12)/\∀σ,HB σ->∀d cl cf w Q E,jo cl (d+4) ak->Q (.p<|aw [ab aE,m5 v9]) (aG σ 0<|pX sc a')->ez cl cf (eR 5 dP.body) (Nr ls aE w) (HC sc σ a es) (l3 Q) (sH E)
theorem RY(hw:cL (ab aE) (ab bm)=ak)(c1:cL (ab aE) (ab i8)=ag)(c2:cL (ab aE) (ab iB)=ak)(hs:sc.length<=63)(h0:0<=a)(h1:a<=880)(D:DS aE L S3 es){x:Ar}{r:List En}(he:es=.d4 cM x::r):Nu L sc aE ls es a:=oi (Oo hw D hs h0<|dp (.v 0) (.n 890) [(1,.v 0,.n 880)] rt h1) λext a' D' b T=>⟨es++ext,a',D'.st (dc rt) (he▸Fu) λq=>tf q hw,⟨b.1,(rQ (.v 1) (.a (.v 0)<| .n 12) [(1,.v 1,.a (.v 0)<| .n 6)] rt b.2)⟩,λσ B d cl cf w Q E hc k=>lz c1 rt rt<|hc<|T σ B (d+1) _ _<|cT c2 rt rt<|lL rfl<|ik<|cT hw rt rt<|ik<|u6 B rfl rt rfl rfl k⟩
theorem RZ(hw:cL (ab aE) (ab bm)=ak)(c1:cL (ab aE) (ab i8)=ak)(c2:cL (ab aE) (ab iB)=ak)(D:DS aE L S3 es){x:Ar}{r:List En}(he:es=.d4 cM x::r):Nu L sc aE ls es a:=
 ⟨es,a,D.st (dc rt) (he▸bW ⟨x,bt _⟩) λq=>tf q hw,⟨(dp (.v 0) (.v 0) [] rt),(dp (.v 0) (.a (.v 0)<| .n 12) [] rt)⟩,λσ B d cl cf w Q E hc k=>cT c1 rt rt<|ik<|cT c2 rt rt<|lL rfl<|ik<|cT hw rt rt<|ik<|u6 B rfl rt rfl rfl k⟩
theorem Oq(hw:cL (ab aE) (ab bm)=ak)(c1:cL (ab aE) (ab i8)=ak)(c2:cL (ab aE) (ab iB)=ag)(hs:sc.length<=63)(h0:0<=a)(h1:a<=880)(D:DS aE L S3 es){x:Ar}{r:List En}(he:es=.d4 cM x::r):Nu L sc aE ls es a:=by
 obtain ⟨r1,⟨p1,p2⟩,T⟩:=pF hs h0 (dp (.v 0) (.n 1000) [(1,.v 0,.n 880)] rt h1) 2<|dc rt;have:=ajf p1 p2;rcases this with rfl|rfl
 ·exact ⟨es,a+1,D.st (dc rt) (he▸bW ⟨x,bt _⟩) λq=>tf q hw,⟨(dp (.v 0) (.a (.v 0)<| .n 1) [] rt),(dp (.a (.v 0)<| .n 1) (.a (.v 0)<| .n 12) [] rt)⟩,λσ B d cl cf w Q E hc k=>cT c1 rt rt<|ik<|lz c2 rt rt<|hc<|T σ es B (d+2) _ _ ⟨⟨rt,rt⟩,bH _,lL rfl<|ik<|cT hw rt rt<|ik<|u6 B rfl rt rfl rfl k⟩⟩
 ·obtain ⟨s,⟨s1,s2⟩,U⟩:=pF hs (a:=a+1) (dp (.n 0) (.a (.v 0)<| .n 1) [(1,.n 0,.v 0)] rt h0) (dp (.a (.v 0)<| .n 1) (.n 1000) [(1,.v 0,.n 880)] rt h1) 3<|dc rt
  have F:∀y,gC y->DS aE L (eW::S3) (es++[.d4 eW y]):=λy hy=>D.add (e:=.d4 eW y) (tU hw (dc rt) (dc rt) (dc rt) hy) (show eW∉S3 by decide+kernel) λn q=>nomatch q;have G:∀y,gC y->∀σ,HB σ->∀{Q E},Q () (HC sc σ (a+1+1)<|es++[.d4 eW y])->iA (.ob 2) (.p<|ab eW) (.p<|jV y) (HC sc σ (a+1+1) es) Q E:=λy hy σ B Q E k=>ph (e:=.d4 eW y) B D (show eW∉S3 by decide+kernel) (dc rt) k;have:=alu s1 s2;rcases this with rfl|rfl|rfl
  ·have hx:gC (.js 5<|ab C3):=⟨rfl,_,rfl,by decide⟩
   exact ⟨_,a+1+1,(F _ hx).st (dc rt) (he▸Fu) λq=>tf q hw,⟨(dp (.v 0) (.a (.a (.v 0)<| .n 1)<| .n 1) [] rt),(dp (.a (.a (.v 0)<| .n 1)<| .n 1) (.a (.v 0)<| .n 12) [] rt)⟩,λσ B d cl cf w Q E hc k=>cT c1 rt rt<|ik<|lz c2 rt rt<|hc<|T σ es B (d+2) _ _ ⟨⟨rt,rt⟩,bH _,lL rfl<|hc<|U σ es B (d+2) _ _<|hc<|dY<|G _ hx σ B<|cT hw rt rt<|ik<|u6 B rfl rt rfl rfl k⟩⟩
  ·have hx:gC (.js 5<|ab tK):=⟨rfl,_,rfl,by decide⟩
   exact ⟨_,a+1+1,(F _ hx).st (dc rt) (he▸Fu) λq=>tf q hw,⟨(dp (.v 0) (.a (.a (.v 0)<| .n 1)<| .n 1) [] rt),(dp (.a (.a (.v 0)<| .n 1)<| .n 1) (.a (.v 0)<| .n 12) [] rt)⟩,λσ B d cl cf w Q E hc k=>cT c1 rt rt<|ik<|lz c2 rt rt<|hc<|T σ es B (d+2) _ _ ⟨⟨rt,rt⟩,bH _,lL rfl<|hc<|U σ es B (d+2) _ _<|hc<|dY<|G _ hx σ B<|cT hw rt rt<|ik<|u6 B rfl rt rfl rfl k⟩⟩
  ·have hx:gC (.js 5<|ab MU):=⟨rfl,_,rfl,by decide⟩
   exact ⟨_,a+1+1,(F _ hx).st (dc rt) (he▸Fu) λq=>tf q hw,⟨(dp (.v 0) (.a (.a (.v 0)<| .n 1)<| .n 1) [] rt),(dp (.a (.a (.v 0)<| .n 1)<| .n 1) (.a (.v 0)<| .n 12) [] rt)⟩,λσ B d cl cf w Q E hc k=>cT c1 rt rt<|ik<|lz c2 rt rt<|hc<|T σ es B (d+2) _ _ ⟨⟨rt,rt⟩,bH _,lL rfl<|hc<|U σ es B (d+2) _ _<|hc<|dY<|G _ hx σ B<|cT hw rt rt<|ik<|u6 B rfl rt rfl rfl k⟩⟩
end
noncomputable def aiH:S->S| .cons s _=>s|_=>.nil
noncomputable def aiI:S->S| .aan _ a _=>a|_=>.nil
def ad5:S:=aiI<|aiH<|eR 7 dP.body
section
variable{a:Int}{ls:List P}
theorem Fv{b:Nat}(hz:z=b)(h:b<=1000):hX (.BN 0 z)=aa ((jQ 0 b).map λ(k:Nat)=>P.int<|0+(k:Int)):=by subst hz;exact kQ h
theorem abw{Q:Fl->Env->H->Prop}{E:Env->H->Prop}{x:P}(hm:av m i=aa (.tm n))(hn:gb 9 n=ak)(h:aW σ n=aa o)(hf:kO o=aa x)(hr:noRef n (cW m i)=ag)(k:Q bE (cW m i)<|aG σ n ae):iR C cf (.drop i) m σ Q E:=by
 show letGo i (λo=>(kO o).map λ_=>aj) m σ Q E;delta letGo;rw[hm];show (match gb 9 n with|true=>False|false=>match (aW σ n).bind (λo=>(kO o).map λ_=>aj)with|some v=>(match noRef n (cW m i)with|true=>Q bE (match v with|some v=>aN (cW m i) i v|none=>cW m i) (aG σ n ae)|false=>False)|none=>False);refine ah hn<|ah h ?_;show (match (kO o).map (λ_=>aj)with|some v=>(match noRef n (cW m i)with|true=>Q bE (match v with|some v=>aN (cW m i) i v|none=>cW m i) (aG σ n ae)|false=>False)|none=>False);exact ah hf<|ah hr<|k
theorem IU(hw:cL (ab aE) (ab bm)=ag)(hs:sc.length<=63)(h0:0<=a)(h1:a<=880)(D:DS aE L Sx es)(hS:∀i,i<8->gT i∉Sx)(hl:Sx.length<=10)(hp:∀e∈es,∀i,e≠.l7 i)(un:∀m,(∃a,(cM,a)∈bG (es++m))\/(aE=bm/\∃a,(dV,a)∈bG (es++m))):∃(v9:List En)(a':Int),afM L aE v9/\(a<=a'/\a'<=a+2)/\∀σ,HB σ->∀d cl cf w b m Q E,jo cl (d+4) ak->(∀f:Int,aN m 227 (it f)=zW b ls aE w f [])->av m 217=aa (.ob 0)->Q (.p<|aw [ab aE,m5 v9]) (aG σ 0<|pX sc a')->ez cl cf (eR 1 ad5) m (HC sc σ a es) (HZ (ez cl cf<|eR 8 dP.body) (l3 Q)<|sH E) (sH E):=by
 refine eh λcy bk=>?_;obtain ⟨F,⟨f1,f2⟩,T⟩:=pF hs h0 (dp (.v 0) (.n 1000) [(1,.v 0,.n 880)] rt h1) 8<|dc rt;obtain ⟨c,⟨c1,c2⟩,U⟩:=pF hs (a:=a+1) (dp (.n 0) (.a (.v 0)<| .n 1) [(1,.n 0,.v 0)] rt h0) (dp (.a (.v 0)<| .n 1) (.n 1000) [(1,.v 0,.n 880)] rt h1) 5<|dc rt;obtain ⟨f,hf⟩:∃f:Nat,F=f:=⟨F.toNat,(xd f1).symm⟩
 obtain ⟨n,hn⟩:∃n:Nat,1+c=n:=⟨(1+c).toNat,(xd<|dp (.n 0) (.a (.n 1)<| .v 0) [(1,.n 0,.v 0)] rt c1).symm⟩
 have N0:tV f 0 Sx:=λi hi q=>(hS i hi q).elim;refine cE (XA (f:=f) hw n 0 Sx es (cS.mp<|zz [c,↑n] (eA eC bb) kC [(1,eA aB bz,Ic),(1,bb,eA bz aB)] rt c2<|d8 hn.symm) D N0) λS' D' am0=>bk<|(gZ _ (a+1+1) (D'.st (cS.mp<|zz [c,↑n,↑Sx.length,↑S'.length] gO lZ [(1,cv,HX),(1,eA aB bz,Ic),(1,bb,eA bz aB),(1,gO,eA cv bb)] rt (cS.mpr hl) c2 (d8 hn.symm)<|cS.mpr<|bx am0) (un _) λ_ v M=>afJ (cS.mp<|zz [F,↑f] ie kC [(1,eA aB bz,kC),(1,bb,aB)] rt f2<|d8 hf.symm) (cS.mp<|zz [c,↑n] (eA eC bz) bb [(1,eC,aB),(1,eA bz aB,bb)] rt c1<|d8 hn) (cS.mp<|zz [c,↑n] ie (eN 6) [(1,eA aB bz,Ic),(1,bb,eA bz aB)] rt c2<|d8 hn.symm) hp (λe he i hi q=>hS i hi<|q▸D.ks e he) v M) ⟨(dp (.v 0) (.a (.a (.v 0)<| .n 1)<| .n 1) [] rt),(dp (.a (.a (.v 0)<| .n 1)<| .n 1) (.a (.v 0)<| .n 2) [] rt)⟩ λσ B d cl cf w b m Q E hc hm akU k=>?_)
 refine ax akU<|hc<|T σ es B (d+2) _ _ ?_;show ez cl cf (eR 2 ad5) (aN m 227<|it F) (HC sc σ (a+1) es) _ _;rw[hm];have fg:∀rs,afK rs->ez cl cf (eR 8 dP.body) (zW b ls aE w F rs) (HC sc σ (a+1+1)<|es++vq (sY f 0 n)) (l3 Q) (sH E):=λrs hr=>by
  induction b using fe<;>rcases hr with h|⟨x,y,u,v,h⟩<;>rw[h]<;>exact u6 B rfl rfl rfl rfl k
 refine ax (by induction b using fe<;>rfl:av (zW b ls aE w F []) 217=aa (.ob 0))<|hc<|U σ es B (d+2) _ _<|hc<|o9 (Fv hn<|cS.mp<|zz [c,↑n] bb aA [(1,eA aB bz,Ic),(1,bb,eA bz aB)] rt c2<|d8 hn.symm)<|YL hf hc B hw n 0 Sx es [] (cS.mp<|zz [c,↑n] (eA eC bb) kC [(1,eA aB bz,Ic),(1,bb,eA bz aB)] rt c2<|d8 hn.symm) (cS.mp<|zz [c,↑n,↑Sx.length] (eA cv bb) iO [(1,cv,HX),(1,eA aB bz,Ic),(1,bb,eA bz aB)] rt (cS.mpr hl) c2<|d8 hn.symm) D N0 (bW rfl) λrs hr=>fg rs hr
theorem YM(hw:cL (ab aE) (ab bm)=ag)(hs:sc.length<=63)(h0:0<=a)(h1:a<=870)(D:DS aE L S3 es){x:Ar}{r:List En}(he:es=.d4 cM x::r)(hr:∀e∈r,∀i,e≠.l7 i):Nu L sc aE ls es a:=by
 obtain ⟨p,⟨p1,p2⟩,T⟩:=pF hs h0 (dp (.v 0) (.n 1000) [(1,.v 0,.n 870)] rt h1) 3<|dc rt;have ada:∀σ,HB σ->∀d cl cf w Q E,jo cl (d+4) ak->ez cl cf ad5 (Nr ls aE w) (HC sc σ a es) (HZ (ez cl cf<|eR 8 dP.body) (l3 Q)<|sH E) (sH E)->ez cl cf (eR 5 dP.body) (Nr ls aE w) (HC sc σ a es) (l3 Q) (sH E):=λσ B d cl cf w Q E hc k=>cT (by refine ah (sK hw) ?_;decide+kernel:cL (ab aE) (ab i8)=ak) rt rt<|ik (cT (by refine ah (sK hw) ?_;decide+kernel:cL (ab aE) (ab iB)=ak) rt rt<|lL rfl<|ik<|lz hw rt rt<|k);by_cases q:p=2
 ·obtain ⟨s,⟨s1,s2⟩,U⟩:=RU hs (a:=a+1) (dp (.n 0) (.a (.v 0)<| .n 1) [(1,.n 0,.v 0)] rt h0) (dp (.a (.v 0)<| .n 1) (.n 1000) [(1,.v 0,.n 870)] rt h1) 2<|dc rt
  have go:∀y:Ar,gC y->(∀{C:Cx}{Q}{E}{σ:H},Q (.p<|jV y) σ->rU (.p<|aL [jV<| .js 5<|ab [80],jV<| .m4 5 70]) (it s) σ Q E)->Nu L sc aE ls es a:=λy hy iz=>by
   have Dy:DS aE L [dV] [.d4 dV y]:=Xx (e:=.d4 dV y) ⟨⟨(show cO (ab dV) [ab bU,ab pL,ab cQ]=ak by decide+kernel),(show cL (ab dV) (ab EI)=ak by decide+kernel),(λq=>tf q<|show cO (ab dV) [ab cM,ab fH]=ak by decide+kernel),λ_=>hy⟩,λ_=>rt⟩ λn q=>nomatch q;obtain ⟨v9,a',S,b,R⟩:=IU hw hs (a:=a+1+1) (dp (.n 0) (.a (.a (.v 0)<| .n 1)<| .n 1) [(1,.n 0,.v 0)] rt h0) (dp (.a (.a (.v 0)<| .n 1)<| .n 1) (.n 880) [(1,.v 0,.n 870)] rt h1) Dy (dc rt) (dc rt) (λe h i q=>by rw[fq.mp h]at q;contradiction) λm=>bM ⟨(sK hw),y,bt _⟩;refine ⟨v9,a',S,⟨(rQ (.v 0) (.v 1) [(1,.a (.a (.v 0)<| .n 1)<| .n 1,.v 1)] rt b.1),(rQ (.v 1) (.a (.v 0)<| .n 12) [(1,.v 1,.a (.a (.a (.v 0)<| .n 1)<| .n 1)<| .n 2)] rt b.2)⟩,λσ B d cl cf w Q E hc k=>ada σ B d cl cf w Q E hc<|hc<|T σ es B (d+2) _ _<|ly (x:=af p) (y:=af 2) rt rt (λ_=>?_) λz=>absurd q<|ne_of_beq_false z⟩;refine cj<|abw (C:=⟨TT,NN,cl,ak,3⟩) (cf:=cf) rfl rf (ad4 B) rfl rt ?_;refine ah (by delta HC;rw[dA (by decide),dT,fX B.h2]:aG (HC sc σ (a+1) es) 2 ae=aG σ 0 (pX sc<|a+1)) ?_;refine ue B.h0 λo ho=>cj (qS (cf:=cf)<|hc<|dY<|hc<|U σ o ho (d+2) _ _<|iz (C:=⟨TT,NN,cl,ak,3⟩)<|jt ((ay<|by decide).trans B.h2)<|lB ((ay<|by decide).trans B.h2) ?_);exact ah (show aG (aG σ 0<|pX sc<|a+1+1) 2 (du<|cn [] [(.s dV,jV y)])=HC sc σ (a+1+1) [.d4 dV y]from Xy (e:=.d4 dV y) B)<|R σ B d cl cf w ak [(217,.ob 0),(53,.p<|aL ls),(36,.p<|ab aE),(225,.p w),(69,.tm 2)] Q E hc (λ_=>rfl) rfl k
  have:=ajf s1 s2
  rcases this with rfl|rfl
  ·exact go (.js 5<|ab [80]) ⟨rfl,_,rfl,by decide⟩ λk=>k
  ·exact go (.m4 5 70) ⟨rfl,rfl⟩ λk=>k
 ·obtain ⟨v9,a',S,b,R⟩:=IU hw hs (a:=a+1) (dp (.n 0) (.a (.v 0)<| .n 1) [(1,.n 0,.v 0)] rt h0) (dp (.a (.v 0)<| .n 1) (.n 880) [(1,.v 0,.n 870)] rt h1) D (dc rt) (dc rt) (λe h i q=>by
   rw[he]at h;rcases dU.mp h with h|h
   ·rw[h]at q;contradiction
   ·exact hr e h i q) λm=>he▸bW ⟨x,bt _⟩
  exact ⟨v9,a',S,⟨(rQ (.v 0) (.v 1) [(1,.a (.v 0)<| .n 1,.v 1)] rt b.1),(rQ (.v 1) (.a (.v 0)<| .n 12) [(1,.v 1,.a (.a (.v 0)<| .n 1)<| .n 2)] rt b.2)⟩,λσ B d cl cf w Q E hc k=>ada σ B d cl cf w Q E hc<|hc<|T σ es B (d+2) _ _<|ly (x:=af p) (y:=af 2) rt rt (λz=>absurd (eq_of_beq z) q) λ_=>ik<|R σ B d cl cf w ag (Nr ls aE w) Q E hc (λ_=>rfl) rfl k⟩
end
def afN:List P:=[ab i8,ab i8,ab iB,ab bm,ab i8,ab bm,ab ka,ab fW,ab ke]
section
variable{a:Int}{ls:List P}
structure T4(w:Tx):Prop where
 k:sN w
 c:cL (ab w) (ab dw)=ak
theorem abx(w:Tx)(h:w∈[i8,iB,bm,ka,fW,ke]):T4 w:=by
 refine ajh ((by decide+kernel:∀w∈[i8,iB,bm,ka,fW,ke],cO (ab w) [ab l9,ab tJ]=ak/\cL (ab w) (ab [105,102])=ak/\cO (ab w) [ab l9,ab tJ,ab A9]=ak/\cL (ab w) (ab [100,111])=ak/\cL (ab w) (ab dw)=ak) w h) λk1 k2 k3 k4 k5=>⟨⟨?_,k1,k2,k3,k4⟩,k5⟩
 rcases dU.mp h with rfl|h
 ·kernel_rfl
 rcases dU.mp h with rfl|h
 ·kernel_rfl
 rcases dU.mp h with rfl|h
 ·kernel_rfl
 rcases dU.mp h with rfl|h
 ·kernel_rfl
 rcases dU.mp h with rfl|h
 ·kernel_rfl
 refine ah (fq.mp h) ?_;kernel_rfl
theorem R0:∀j,j<9->∃w,afN[j]?=aa (ab w)/\w∈[i8,iB,bm,ka,fW,ke]:=CC (Il (b0 _ rfl<|bt _) (b0 _ rfl<|bt _) (b0 _ rfl<|aS _<|bt _) (b0 _ rfl<|aS _<|aS _<|bt _) (b0 _ rfl<|bt _) (b0 _ rfl<|aS _<|aS _<|bt _) (b0 _ rfl<|aS _<|aS _<|aS _<|bt _)<|b0 _ rfl<|aS _<|aS _<|aS _<|aS _<|bt _)<|b0 _ rfl<|aS _<|aS _<|aS _<|aS _<|aS _<|bt _
theorem aby(hs:sc.length<=63)(h0:0<=a)(h1:a<=800)(LD:Nq L ls):∃(aE:Tx)(es:List En)(a':Int),T4 aE/\afM L aE es/\(a<=a'/\a'<=a+20)/\∀σ,HB σ->∀d Q E,Q (.p<|aw [ab aE,m5 es]) (aG σ 0<|pX sc a')->ba TT NN (d+5) ak (.p<|aI 1046) [.ob 0,.p<|aL ls] (aG σ 0<|pX sc a) Q E:=by
 refine eh λcy bk=>?_;obtain ⟨r,⟨r1,r2⟩,T⟩:=RU hs h0 (dp (.v 0) (.n 1000) [(1,.v 0,.n 800)] rt h1) 9<|dc rt;obtain ⟨j,hj⟩:∃j:Nat,r=j:=⟨r.toNat,(xd r1).symm⟩
 refine cE (R0 j<|cS.mp<|zz [r,↑j] ie pK [(1,eA aB bz,pK),(1,bb,aB)] rt r2<|d8 hj.symm) λaE hv hw=>?_;obtain ⟨es,a1,w,D,⟨x,rr,he,hr⟩,b,H⟩:=abt hs (a:=a+1) (dp (.n 0) (.a (.v 0)<| .n 1) [(1,.n 0,.v 0)] rt h0) (dp (.a (.v 0)<| .n 1) (.n 880) [(1,.v 0,.n 800)] rt h1) LD;have tl:Nu L sc aE ls es a1:=by
  refine bc (cL (ab aE)<|ab bm) (λc3=>YM c3 hs (rQ (.n 0) (.v 1) [(1,.n 0,.v 0),(1,.a (.v 0)<| .n 1,.v 1)] rt h0 b.1) (rQ (.v 1) (.n 870) [(1,.v 0,.n 800),(1,.v 1,.a (.a (.v 0)<| .n 1)<| .n 3)] rt h1 b.2) D he hr) λc3=>?_
  ·
   refine bc (cL (ab aE)<|ab i8) (λc1=>RY c3 c1 (by refine ah (sK c1) ?_;decide+kernel) hs (rQ (.n 0) (.v 1) [(1,.n 0,.v 0),(1,.a (.v 0)<| .n 1,.v 1)] rt h0 b.1) (rQ (.v 1) (.n 880) [(1,.v 0,.n 800),(1,.v 1,.a (.a (.v 0)<| .n 1)<| .n 3)] rt h1 b.2) D he) λc1=>?_
   ·
    exact bc (cL (ab aE)<|ab iB) (λc2=>Oq c3 c1 c2 hs (rQ (.n 0) (.v 1) [(1,.n 0,.v 0),(1,.a (.v 0)<| .n 1,.v 1)] rt h0 b.1) (rQ (.v 1) (.n 880) [(1,.v 0,.n 800),(1,.v 1,.a (.a (.v 0)<| .n 1)<| .n 3)] rt h1 b.2) D he) λc2=>RZ c3 c1 c2 D he
 refine oi tl λv9 a2 S b2 R=>bk<|(aaj aE v9 a2 (abx aE hw) S ⟨(LO (.v 0) (.v 2) [(1,.a (.v 0)<| .n 1,.v 1),(1,.v 1,.v 2)] rt b.1 b2.1),(LO (.v 2) (.a (.v 0)<| .n 20) [(1,.v 1,.a (.a (.v 0)<| .n 1)<| .n 3),(1,.v 2,.a (.v 1)<| .n 12)] rt b.2 b2.2)⟩ λσ B d Q E k=>?_)
 exact ue B.h0 λo ho=>aZ rfl rfl @λcl cf hc=>hc<|T σ o ho (d+2) _ _<|gz (gq hj (jL hv)<|dc rt) hv<|H σ B (d+1) cl cf _ _ hc<|R σ B d cl cf w Q E hc k
end
def Lk(iC k:Nat)(n:Int):Prop:=∃j,k<j/\j<=iC/\n=fS iC j
structure ahp(iC i:Nat)(r:pV):Prop where
 l:r.l=fS iC i
 w:T4 r.w
 s:afM (Lk iC i) r.w r.es
noncomputable def zB (iC k:Nat):List P:=((jQ (k+1)<|iC - (k+1)).map λ(j:Nat)=>P.int<|10*((j:Int)+1))++[af 900]
def R3(r:pV):P:=aw [af r.l,Ng r,af 0]
def ajL(rs:Env):Prop:=rs=[]\/∃x y:P,rs=[(80,.p x),(53,.p y)]
abbrev Z3(p1:P)(iC:Int)(rs:Env):Env:=(218,.p p1)::(217,.tm 0)::(165,it iC)::(234,.tm 1)::rs
section
variable{a:Int}
theorem abz(hk:k<iC)(hc:iC<=8):Nq (Lk iC k) (zB iC k) where
 v:=λj v h=>by
  rw[zB]at h;by_cases q:j<iC - (k+1)
  ·rw[D4 (by rw[cq,w5];exact q),mz,D7 q]at h
   refine (b0 _ (cP h).symm ⟨k+1+j,(cw eI mX [] rt),(uK<|wY j (k+1)▸U2 q),?_⟩);rw[fS,if_neg<|m7<|wY j (k+1)▸U2 q,AA]
  ·rw[K5<|by rw[cq,w5];exact cw bb aB [(1,bb,aB)] rt<|qy.mp q]at h
   exact (b0 900 (fq.mp<|w7 h) ⟨iC,hk,gj _,by rw[fS,if_pos rfl]⟩)
 l0:=by rw[zB,cg];exact KZ _
 l1:=by rw[zB,cg,cq,w5];exact bo (kY<|bo (DZ _ _) hc)<|dc rt
theorem YN(hm:∀v,av (aN m 238 v) 238=aa v):∀(l:List Nat)acc,acc.length+l.length<=1000->(∀j∈l,j<=1000)->Q (.p<|aL<|acc++l.map λ(j:Nat)=>P.int<|10*((j:Int)+1)) σ->iQ (λx=>.bind (ni ⟨TT,NN,cl,hd,lv⟩ (aN m 238<| .p x) .nil) λb=>lw b<| .bind (eP ⟨TT,NN,cl,hd,lv⟩ (aN m 238<| .p x)<| .aal .mul (dN<|af 10)<| .aal .add (bC 238)<|dN<|af 1) λv=>.aQ v.pl .ok) acc (l.map λ(j:Nat)=>P.int j) σ Q E:=@lr _ _
 (λacc _ _ k=>by rw[AH,fc]at k;exact k)
 (λj l b5 acc hn hj k=>ax (hm _) ⟨(⟨by decide,jB (kY<|hj j<|bt _)<|dc rt⟩),(bo (bo (gf _ _) hn)<|dc rt),(b5 (acc++[af<|10*((j:Int)+1)]) (by refine ah cg ?_;exact cw mX aA [(1,eA aB ie,aA)] rt hn) (λi q=>hj i<|aS _ q)<|by rw[de];exact k)⟩)
theorem abA{a b:Int}(ha:a=p)(hb:b=q)(hp:p<=1000)(hq:q<=1000):hX (.BN a b)=aa ((jQ p<|q - p).map λ(j:Nat)=>P.int j):=by
 subst ha hb;show (match decide (-1000000<=(p:Int)/\(p:Int)<=1000000/\-1000000<=(q:Int)/\(q:Int)<=1000000)with|true=>aa ((AI ((q:Int) - p).toNat).map λ(k:Nat)=>P.int<|(p:Int)+(k:Int))|false=>aj)=_;rw[decide_eq_true ⟨i7 (by decide)<|gG p,cS.mpr<|bo hp<|by decide,i7 (by decide)<|gG q,cS.mpr<|bo hq<|by decide⟩,Lj q p,List.range'_eq_map_range,nL];rfl
theorem YO{a b:Int}(k:Q (.p<| .BN a b) σ):ba TT NN (d+1) hd (.p<| .ty 5) [it a,it b] σ Q E:=k
theorem YP{p1:P}{acc:List P}{Q:Fl->Env->H->Prop}{E:Env->H->Prop}{zc:Int}{a1:Int}(hc:jo cl (d+5) ak)(hz:z=i)(ahq:zc=iC)(ajM:i<iC)(P2:iC<=8)(hl:l=10*(z+1))(hr:ajL rs)(h1:aW σ 1=aa ae)(ha:acc.length<=1000)(T:∀Q E,Q (.p<|aw [ab aE,m5 es]) (aG (aG σ 1<|aM acc) 0<|pX sc a1)->ba TT NN (d+5) ak (.p<|aI 1046) [.ob 0,.p<|aL<|zB iC i] (aG (aG σ 1<|aM acc) 0<|pX sc a) Q E)(k:Q bE (Z3 p1 zc [(80,it z),(53,.p<|aL<|zB iC i)])<|aG (aG σ 1<|aM<|acc++[R3 ⟨l,aE,es⟩]) 0<|pX sc a1):ez cl cf Gm (Z3 p1 zc<|aN rs 80<|it z) (aG (aG σ 1<|aM acc) 0<|pX sc a) Q E:=by
 subst hl;have g1:∀{x},aW (aG (aG σ 1<|aM acc) 0 x) 1=aa (aM acc):=(ay<|by decide).trans<|cz h1;have ap:∀{x y},aG (aG (aG σ 1<|aM acc) 0 x) 1 (aM y)=aG (aG σ 1<|aM y) 0 x:=by intro x y;rw[dA (by decide),dT]
 have am1:=abA (b:=zc) (ko (rQ eI ie [(1,aB,bb)] rt<|d8 hz)<|rQ ie eI [(1,bb,aB)] rt<|d8 hz.symm) ahq (cw eI aA [(1,eA aB bz,bb),(1,bb,kC)] rt ajM P2)<|dj aB aA [(1,aB,kC)] rt P2;have m1:(10:Int).natAbs<2147483648/\(z+1).natAbs<2147483648:=⟨by decide,by rw[hz];exact jB (bo ajM P2)<|dc rt⟩
 have l1:(([]:List P)++((jQ (i+1)<|iC - (i+1)).map λ(j:Nat)=>P.int<|10*((j:Int)+1))).length<=1000000:=by rw[Li,cq,w5];exact bo (DZ _ _)<|bo P2<|dc rt
 have hn:([]:List P).length+(jQ (i+1)<|iC - (i+1)).length<=1000:=ah w5<|Nat.le_trans (bx<|lN _) (bo (DZ _ _)<|bo P2<|by decide);have hm:∀j∈jQ (i+1) (iC - (i+1)),j<=1000:=λj h=>uK (wX (List.mem_range'_1.mp h).2<|bo (bx<|U3 ajM)<|bo P2<|by decide);rcases hr with h|⟨x,y,h⟩<;>rw[h]<;>
 exact hc (YO<|ax am1<|YN (λ_=>bQ) _ [] hn hm ⟨⟨l1,(by decide:1<=1000000)⟩,b8 g1 (mk:=.bi 0 0) rfl ⟨m1,hc<|T _ _<|gW g1 ha<|ah ap<|k⟩⟩)
theorem Ot(hs:sc.length<=63)(P2:iC<=8):∀(n i:Nat)(a:Int),i+n=iC->0<=a->a<=10+20*i->∃(rows:List pV)(a':Int),rows.length=n/\(∀j r,rows[j]?=aa r->ahp iC (i+j) r)/\∀σ,HB σ->aW σ 1=aa ae->∀d cl cf p1 zc acc rs(Q:Fl->Env->H->Prop)E,zc=(iC:Int)->jo cl (d+5) ak->acc.length+n<=1000->ajL rs->(∀XB,ajL XB->(n=0->XB=rs)->(n≠0->XB≠[])->Q bE (Z3 p1 zc XB) (aG (aG σ 1<|aM<|acc++rows.map R3) 0<|pX sc a'))->jf (lW ⟨TT,NN,cl,ak,3⟩ cf [80] Gm) ((jQ i n).map λ(k:Nat)=>P.int<|0+(k:Int)) (Z3 p1 zc rs) (aG (aG σ 1<|aM acc) 0<|pX sc a) Q E:=@nr _
 (@λi a _ _ _=>(gZ [] a rfl (λj r h=>nomatch h) (λσ B h1 d cl cf p1 zc acc rs Q E _ hc hl hr k=>by
  have k:=k rs hr (λ_=>rfl) λq=>(q rfl).elim;rw[AH,fc]at k;exact k)))
 (λn b5=>@λi a hi h0 h1=>by
  refine eh λcy bk=>G2 (aby hs h0 (i7 h1<|dp (eA HX<|eM 20 aB) rS [(20,aB,kC)] rt<|cS.mpr<|bo (gf i _)<|bo (bx hi) P2)<|abz (iC:=iC) (k:=i) (gS eI cv [(1,eA aB ie,cv)] rt<|bx hi) P2) λaE es a1 hw S b T=>oi (b5 (i+1) a1 (kn (gS mX cv [(1,eA aB ie,cv)] rt<|bx hi)<|gS cv mX [(1,cv,eA aB ie)] rt<|bx hi.symm) (rQ eC bb [(1,eC,aB),(1,aB,bb)] rt h0 b.1)<|LO cv (eA HX<|eM 20 ie) [(1,aB,eA HX<|eM 20 bb),(1,cv,eA aB lZ)] rt h1 b.2) λrows a' l R F=>bk<|(gZ (⟨fS iC i,aE,es⟩::rows) a' (by rw[rO,l]) (λj r h=>?_) λσ B alR d cl cf p1 zc acc rs Q E ahq hc hl hr k=>?_)
  ·cases j with
   |zero=>exact (cP<|show aa (pV.mk (fS iC i) aE es)=aa r from h)▸⟨rfl,hw,S⟩
   |succ j=>have:=R j r h;rw[show i+(j+1)=i+1+j by exact kn (cw wg mX [] rt) (cw mX wg [] rt)];exact this
  have ih:=F σ B alR d cl cf p1 zc (acc++[R3 ⟨fS iC i,aE,es⟩]) [(80,it<|0+(i:Int)),(53,.p<|aL<|zB iC i)] Q E ahq hc (by refine ah cg ?_;exact cw (eA ie aB) aA [(1,eA bb eI,aA)] rt<|by assumption) (bM<|yQ _ _ rfl) λXB h' h0 hn=>by
   rw[de];refine k XB h' (λq=>nomatch q) λ_=>?_;cases n with
   |zero=>exact ah (h0 rfl)<|λq=>nomatch q
   |succ n=>exact hn<|DW n
  exact YP hc (ko (dp s9 aB [] rt)<|dp aB s9 [] rt) ahq (gS eI cv [(1,eA aB ie,cv)] rt<|bx hi) P2 (by rw[fS,if_neg λh_=>eH 0<|gS bz eC [(1,eA aB ie,cv),(1,cv,aB)] rt (bx hi)<|bx h_.symm];exact ko (dp (eM 10 eI) (eM 10<|eA s9 bz) [] rt) (dp (eM 10<|eA s9 bz) (eM 10 eI) [] rt):fS iC i=10*((0+(i:Int))+1)) hr alR (cw bb aA [(1,eA bb eI,aA)] rt<|by assumption) (λQ E k=>T _ (⟨B.h0.imp λo z=>(ay<|by decide).trans z,(ay<|by decide).trans B.h2⟩) d Q E k) ih)
end
noncomputable def adb (iC:Nat) (n:Int):Nat:=if n=900 then iC else (n / 10 - 1).toNat
theorem IV(hc:iC<=8)(h:j<=iC):adb iC (fS iC j)=j:=by
 rw[adb,fS];by_cases q:j=iC
 ·rw[if_pos q,if_pos rfl,q]
 ·rw[if_neg q,if_neg<|ahb<|bo h hc,Int.mul_ediv_cancel_left _ (by decide),Int.add_sub_cancel];rfl
theorem am2:WF 0 W0:=⟨gj 0,gj 0,(λe h=>nomatch h),(λe h=>nomatch h),(λi n h=>nomatch h),λi n h=>nomatch h⟩
theorem aiJ:nN M0:=⟨jr,jr,(by decide:(2:Int)<10)⟩
theorem abB(hl:rows.length=iC)(hc:iC<=8)(h:∀j r,rows[j]?=aa r->ahp iC (0+j) r):i0 rows where
 len:=(cw aB kC [(1,aB,bb),(1,bb,kC)] rt (bx hl) hc)
 bf:=λi a q=>by have:=(h i a q).l;rw[lN]at this;rw[this,hl]
 st:=λi a q=>by
  have R:=h i a q;rw[lN]at R;refine (k8 R.s.st R.w.c λv z=>?_);refine eh λcy bk=>?_;obtain ⟨n,h1,j,h2,h3,h4⟩:=R.s.er v z;exact bk<|(tc j h2 (by rw[hl];exact h3)<|by rw[h1,h4,hl])
theorem abC{p1 p2 p3 p4:P}{st:O}(hc:jo cl 11 ak)(hf:cf=ba TT NN 11)(R:i0 rows)(hw:∀(i:Nat) (a:pV),rows[i]?=aa a->sN a.w)(k:∀σ,Q (bl ag) σ):ez cl cf (eR 6 tN.body) (Fn p1 p2 p3 p4 (aL<|(dQ rows).map iH) []) (L0 st) (l3 Q) (sH E):=mY (akI R rows.length 0 W0 M0 (dj aB s9 [] rt) (bH _) am2 aiJ) λW' M' mU B=>aiC (d:=1) hc R hw (λj h=>IV R.len h)<|aiD (d:=1) hc<|aiE (d:=0) hc hf R (λj h=>IV R.len h) B λu R'=>aiG (d:=0) hc B k
theorem abD{xs:List Int}(hx:xs.length<=63)(B:HB σ)(h0:aW σ 0=aa ae)(h1:aW σ 1=aa ae)(hL:∀st,aG σ 0 st=L0 st)(k:∀σ,Q (bl ag) σ):ba TT NN 12 ak (.p<|aI 1082) [.p<|aL<|xs.map af] σ Q E:=by
 refine eh λcy bk=>?_;obtain ⟨r,⟨r1,r2⟩,T⟩:=RU hx (a:=0) (dc rt) (dc rt) 5<|dc rt;obtain ⟨iC,H8⟩:∃iC:Nat,3+r=iC:=⟨(3+r).toNat,(xd<|dp (.n 0) (.a (.n 3)<| .v 0) [(1,.n 0,.v 0)] rt r1).symm⟩
 have c8:iC<=8:=(cS.mp<|zz [r,↑iC] bb kC [(1,eA aB bz,Ic),(1,bb,eA l5 aB)] rt r2<|d8 H8.symm)
 refine oi (Ot hx c8 iC 0 (0+1) (kn (dj (.a (.n 0)<| .v 0) (.v 0) [] rt)<|dj (.v 0) (.a (.n 0)<| .v 0) [] rt) (by decide)<|zz [] (eA eC bz) (eA HX<|eM 20 eC) [] rt) λrows a' rl RD F=>bk ?_;have es:(aG σ 0<|du<|cn [] [(.s vS,aL<|((xs.map P.int).take 100).drop 0),(.s [97,116],af 0)])=aG σ 0 (pX xs 0):=by
  rw[List.take_of_length_le (by rw[cq];exact dj (.v 0) (.n 100) [(1,.v 0,.n 63)] rt hx),Ec];rfl
 refine acO (d:=11) rfl rfl λcl cf hc hf=>cj (qS ⟨by decide,(by rw[cq];exact dj (.v 0) (.n 1000000) [(1,.v 0,.n 63)] rt hx:(xs.map P.int).length<=1000000),jt (n:=0) h0<|lB h0 ?_⟩)
 refine ah es<|hc<|T σ _ h0 9 _ _ ?_
 refine cj (oe ((ay<|by decide).trans h1) ?_)
 refine ah (dA (n:=0) (k:=1)<|by decide)<|hc (o9 (Fv H8<|cS.mp<|zz [r,↑iC] bb aA [(1,eA aB bz,Ic),(1,bb,eA l5 aB)] rt r2<|d8 H8.symm)<|F σ B h1 6 cl cf (aL<|xs.map af) (3+r) [] [] _ _ H8 hc (by exact cS.mp<|zz [r,↑iC] (eA eC bb) aA [(1,eA aB bz,Ic),(1,bb,eA l5 aB)] rt r2<|d8 H8.symm) (bW rfl) λrs hr _ hn=>?_)
 have Mn:=hn (λh_=>absurd (rQ (.n 1) (.n 0) [(1,.n 0,.v 0),(1,.a (.n 3)<| .v 0,.v 1),(1,.v 1,.n 0)] rt r1 (d8 H8)<|cS.mpr<|bx h_) (by decide:¬(1:Int)<=0))
 have g1:∀{x y},aW (aG (aG σ 1<|aM y) 0 x) 1=aa (aM y):=(ay<|by decide).trans<|cz h1
 rcases hr with h|⟨x,y,h⟩
 ·exact (Mn h).elim
 rw[h,Li]
 refine b8 g1 (mk:=.bi 0 0) rfl (gW g1 (by rw[cq];exact cS.mp<|zz [r,↑iC,↑rows.length] cv aA [(1,eA aB bz,Ic),(1,bb,eA l5 aB),(1,cv,bb)] rt r2 (d8 H8.symm)<|cS.mpr<|bx rl) ?_)
 rw[dA (n:=0) (k:=1) (by decide),dT,show rows.map R3++[P.jH [af 900,aw [ab dw],af 0]]=(dQ rows).map iH from (by rw[dQ,uM,nL];rfl:rows.map R3++[iH (900,aw [ab dw])]=(dQ rows).map iH)]
 refine cj<|qT rfl rf g1 rfl rt ?_
 rw[dA (n:=0) (k:=1) (by decide),dT,fX h1,hL]
 exact abC hc hf (abB rl c8 RD) (λi a q=>(RD i a q).w.k) k
theorem alS(xs:List Int)(hx:xs.length<=63):ba TT NN 12 ak (.p<|aI 1082) [.p<|aL<|xs.map af] (iu 36 ae) (λv _=>v=.p (ei ag)) λ_=>False:=
 abD hx ⟨⟨_,rfl⟩,rfl⟩ rfl rfl (λ_=>rfl) λ_=>rfl
end
end
end Mine.Lake
open PySem PySem.W PyProof.Rows PySem.Calls
theorem Mine.Lake.plainX:Mine.Lake.ah4:=λxs h=>Mine.Lake.alS xs h
namespace Mine.main
local macro_rules | `(lay_quick $_:ident)=>do
 let n:=(List.range 1224).map (fun i=>s!"o_1_{i+44}")++[52,85,103,121,146,171,189,214,275,322,330,373,451,484,510,536,597,686,745,785,846,931,992,1019,1045,1104,1156,1229].map (fun i:Nat=>s!"sts_1_{i}")++["heap_1_39","env_1_42","view_1_40"]
 return Lean.mkNullNode (←(n.map (fun s=>(Lean.Name.str `Mine.main s).hash)++[(`PySem.Challenge.rw_no0294_01).hash,(`PySem.Challenge.pw_no0294_01).hash]).toArray.mapM fun h=>do let i:=Lean.mkIdent (.mkSimple s!"tw{h}");`(def $i:ident := True))
lay_quick P
end Mine.main
set_option Elab.async true
set_option maxHeartbeats 8000000
set_option pp.deepTerms false
set_option pp.maxSteps 20000
theorem Mine.main:PySem.Challenge.rw_no0294_01.Holds:=by
 w_on
 o_law
 k_head
 (case hw=>w_witness2)
 w_strict (
  k_fill
  let rec z2 (w:World):Mine.Lake.akr (Mine.main.heap_1_39 w.params)=true:=by kernel_rfl
  intro w s₀ s₁ mg mb G Y fa o pm cd doc dV kV ho hd hcd hD hmg hg args vals as hpre hlay hrd hwl hlo
  have KX:=kIn_of Y
  have X:=(Ground.X G).1
  have V:=(Ground.X G).2
  try w_nolog (first|(have GL:=glob_more (Ground.glob G (by first|k_qdec|decide+kernel) (by first|k_qdec|decide+kernel)) V)|(have GL:=glob_more (Ground.glob G (by decide+kernel)) V))
  refine Ground.open G ?_
  intro T B D TE TW
  have hfa:=hmg
  have hmm:=(Glob.seer GL).mods
  clear hmg
  wrow_args hpre hlay hrd hwl hlo
  obtain ⟨mm,hmm,_⟩:=hmm
  refine wpAny_mono (Mine.Lake.aje Mine.Lake.plainX _ _ _ _ _ _ _ _ _ _ _ _ ?zzC KX T.g T.b T.nolimit hmm T.builtins hfa (by assumption) ?zzn) ?zzq (λ_ _ z=>z)
  case zzC=>first|exact ⟨by kernel_rfl,z2 _,by kernel_rfl,by kernel_rfl,by kernel_rfl,by kernel_rfl,by kernel_rfl,by kernel_rfl,by kernel_rfl,by kernel_rfl,by kernel_rfl,λM v=>by kernel_rfl,λS=>by kernel_rfl,λS=>by kernel_rfl,λS rest=>by kernel_rfl⟩
  case zzn=>first|omega|(simp at*;omega)
  case zzq=>
   intro v s' z
   obtain ⟨rfl,hk,ho',hg2⟩:=z
   refine ⟨.inl ⟨.bool true,.bool true,[],rfl,?zzr,.bool _,?zzp,λ_=>⟨List.nodup_nil,λa h=>by cases h⟩⟩,.of_keep hk,ho',.of_eq (hg2.trans hg)⟩
   case zzr=>first|(intro cls;rfl)
   case zzp=>first|rfl|kernel_rfl)
theorem PySem.Challenge.cw_no0294_01_holds : PySem.Challenge.rw_no0294_01.Holds := by
  exact Mine.main
