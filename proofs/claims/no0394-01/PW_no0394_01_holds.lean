import PyProof.Rows.All
import Wide.All
import OpenK.AllK
import Wide.FinOn
import PyProof.ZipIter
import PyProof.Draws
import PyProof.ExcArgs
import KE.KPar
import KE.BitLaws
import Lean
import PySem.Challenge.RW_no0394_01
set_option Elab.async false
set_option linter.all false
set_option maxRecDepth 100000
set_option genSizeOf false
set_option bootstrap.genMatcherCode false
set_option tactic.hygienic false
noncomputable section
namespace Mine.Internal
open PySem.W renaming Frag->iI,findIn->kB,typeIs_bytes->kD,Looks->mW,instObj->oj,emptyDict->pH,mroIn->qI,isStarred->tR,clsIn->tS,hasDictIn->vH,boot_heap->vZ,looks_findIn->Ba,behindTheImports->Br,nsIn->Fc,typeIn->Fi,looks_mroIn->Fw,kp_binds->FX,topFrame->F_,looks_nsIn->Kt,handedIn->Kx,looks_clsIn->K5,topStub->LW,topRun->LY,namesMeet->L8,notCls->UK,codeIn->U0,takerIn->Vg,boot_drawn->V6,boot_toks->V7,staticsOk->V9,namesBound->V_,gensDone->Wa,laidKept->Wb,topFrom->Wd,layAllW->We,ownOf->ahX
open And renaming intro->rW
open Array renaming length_toList->jx,getElem?_eq_none_iff->vM,getElem?_toList->yo,getElem?_setIfInBounds_self_of_lt->Fj,getElem?_setIfInBounds_ne->Kz,getElem?_eq_getElem->Lc,size_setIfInBounds->UR,eq_empty_of_size_eq_zero->Vi,any_eq_false'->ah2,toList_push->ail,size_push->aiX,size_append->ai1,append_empty->aja,ext'->ajb,toList_setIfInBounds->ajo
open Bool renaming true->ai,false->au,and_eq_true->d9,casesOn->ez,false_ne_true->jJ,not_eq_true'->lC,eq_iff_iff->pM,or_eq_true->A5,or_eq_false_iff->Fh,false_eq_true->Fu,and_false->KA,not_eq_true->Vu
open Classical renaming em->vF
open Decidable renaming em->ajD
open Exists renaming intro->dM
open False renaming elim->Kv
open ForInStep renaming yield->KV
open Int renaming le_trans->dH,le_refl->ig,le_of_lt->mZ,toNat_natCast->vL,mul_one->Ft,natCast_nonneg->FD,fdiv_eq_ediv_of_nonneg->F0,ne_of_lt->F6,toNat_of_nonneg->KU,toNat_sub->Ll,lt_trans->LH,fmod_eq_emod_of_nonneg->LM,le_of_lt_add_one->LP,mul_le_mul_of_nonneg_left->LR,zero_add->U9,add_zero->VY,toNat_lt->V0,sub_le_sub_right->V1,add_le_add_left->V2,lt_add_of_pos_right->V4,lt_add_one_of_le->V5,emod_nonneg->ajH,emod_lt_of_pos->ajI,add_assoc->ajJ,ofNat_sub->ajL,le_add_of_nonneg_right->ajM,ne_of_gt->ajW,eq_natAbs_of_nonneg->ajX,natAbs_of_nonneg->ajY,lt_or_eq_of_le->ajZ,lt_of_lt_of_le->aj4
open Int.ofNat renaming inj->ajx
open List renaming length_map->bp,length_append->cb,length_cons->cY,map_map->cZ,casesOn->c6,map_append->dz,map_cons->dX,append_nil->fW,append_assoc->gh,mem_append_right->iy,range->jj,length_nil->jL,length_filter_le->lI,getElem?_map->mi,length->mj,mem_append_left->mm,all_eq_true->oq,nodup_cons->oA,filter_sublist->oB,getElem?_eq_getElem->qH,map_congr_left->r_,append_of_mem->tU,getElem?_eq_none_iff->tV,nodup_append->tZ,drop_eq_nil_of_le->vN,filter_cons->vO,lookup_cons->yj,mem_map_of_mem->yk,mem_cons->yq,foldl_cons->yB,forIn_cons->A6,map->Bc,toArray->Bd,take_length->Bl,filterMap_cons->Bn,map_id->Bo,flatten_cons->Bq,not_mem_nil->EU,size_toArray->Fd,all_cons->Ff,drop_eq_getElem_cons->Fq,mem_of_getElem?->Fx,length_drop->Fy,length_take->FA,map_nil->FJ,any_eq_true->FO,rel_of_pairwise_cons->F5,dropWhile_cons_of_pos->F9,find?_cons->Kw,lookup->KC,take_of_length_le->Lf,filterMap_map->Lm,drop_zero->Ln,pairwise_singleton->Lo,getElem_mem->Lu,zip_cons_cons->LA,drop->LB,filter_map->LJ,takeWhile_cons_of_pos->LQ,cons_ne_nil->Ut,any_cons->UL,any_eq_false->UO,replicate->UQ,getElem?_eq_none->U8,mem_map->Vb,getD_eq_getElem?_getD->Vp,mem_singleton->VG,getD->VH,filter->VJ,find?_cons_of_pos->VN,find?_cons_of_neg->VO,find?_isSome->VP,length_filterMap_le->VQ,find?_some->VT,flatten_append->VU,take_zero->VV,pairwise_append->VX,flatten_nil->VZ,any_nil->ahK,contains_cons->ahW,lookup_cons_self->ah5,map_fst_zip->ah6,map_snd_zip->ah7,suffix_refl->ah9,suffix_cons->aia,findIdx?_cons->aii,mem_range->aiE,drop_take->aiH,drop_of_length_le->aiI,pairwise_cons->aiN,any_map->aiQ,contains_iff_mem->aiS,nil_append->ajt,filter_eq_nil_iff->aju,isEmpty_iff->ajv,find?_eq_none->ajC,mem_append->ajE,mem_of_find?_eq_some->ajF,drop_left->ajK,eq_nil_of_length_eq_zero->ajN,cons_append->ajO,take_left->ajR,perm_middle->ajT,perm_append_comm->ajV,length_range->aj0
open List.Pairwise renaming of_cons->LK,nil->aku
open List.Perm renaming of_eq->VW,trans->ajU,append_left->akY
open List.cons renaming inj->tN,injEq->VI
open Nat renaming le_trans->aK,le_add_left->dY,le_add_right->eC,le_refl->eY,ble->ie,lt_of_le_of_lt->iw,add_assoc->ix,add_le_add_left->iJ,le_of_lt->iK,le_of_eq->iL,zero_le->i0,le_succ->kX,add_comm->lB,lt_of_lt_of_le->r5,add_le_add_right->tO,add_le_add->tP,add_right_comm->yi,casesOn->AZ,lt_irrefl->A7,le_antisymm->Bg,beq->Bm,mul_le_mul_left->Bp,ne_of_lt->Fe,ble_eq->FY,lt_trans->FZ,succ_pos->F8,strongRecOn->Kj,lt_or_ge->KS,min_le_right->Lb,min_eq_left->Le,sub_le->Lg,zero_add->Lz,le_of_lt_succ->LF,div_lt_self->LL,lt_succ_self->U2,min_le_left->Vj,min_eq_right->Vm,sub_eq_zero_of_le->Vt,lt_of_le_of_ne->VM,not_lt_zero->ahY,ne_of_gt->ah1,exists_eq_add_of_le'->aix,min_self->aiM,div_lt_iff_lt_mul->ajy,mul_two->ajz,add_lt_add_right->ajA,sub_lt_sub_left->ajB,add_sub_of_le->ajP,add_sub_cancel_left->ajQ
open Nat.succ renaming inj->aji
open Ne renaming symm->bI
open Option renaming some->ae,casesOn->eL,some_ne_none->oo,bind_some->ou,map_eq_some_iff->Fs,isSome_map->Ly,map->LD,getD_none->Vq,getD_some->Vr,noConfusion->ahI,any_some->aik,isSome->ajS
open Option.some renaming inj->bZ
open Prod renaming ext->VS,fst->aj1,snd->aj2
open Prod.mk renaming inj->Fo,injEq->Wc
open PyProof renaming noPylong_of_log2->LI
open PyProof.Rows renaming wpAny_release'->Ux,StrsAre->Vk,IntsAre->Vl,markedEach_of_false->ahL,subscriptTail->ahM,slice_from_eq->aj3,add_int->aky,sub_int->akz,mul_int->akA,floordiv_int->akB
open PySem renaming Str->ak,Addr->aF,Value->aI,wpAny_bind->aJ,Shared->aU,wpAny->a_,wpAny_pure->bg,Scope->bA,model->bB,Heap->bF,World->bQ,Expr->bR,eval->bX,sizeLine->bY,Sem->cC,Env->eJ,Obj->eU,Around->eX,Stmt->fc,sizeLine_eq->fH,Pos->fU,call->gN,backTo->iG,starEach->iH,binaryOp->iY,execs->j5,wpAny_field->ku,DictEntry->kz,spliced->kU,Params->kV,wpAny_of_eq->kW,wpAny_specialOf->kY,noteFrame->lA,rawInt->lD,wpAny_mono->lF,typeLookup_type->lG,builtinLookup_eq_fast->lH,standAt->me,wpAny_rule->mf,exec->mX,wpAny_holding->mY,wpAny_loadPart_at->m7,holding->oh,swapsWith->oi,IsZip->oy,isTrue->pD,pyIter->pE,table->pF,OsState->pG,mainGlobals->pI,code->pL,Model->qC,truthy->qD,checkBuiltinCall->qF,codeAny->qG,treeTable->qK,Program->rU,wpAny_load->rV,entryFor->rX,IsPair->r9,field->tJ,evalEach->tK,typeLookup->tL,typeOf->tM,builtinsNs->tQ,Tok->tW,Result->vo,setFlight->vq,evalArgs->vt,wpAny_newObj_type->vw,foldedSetIterable->vz,pyNext->vC,NameKind->vG,wpAny_setField->vJ,excClassObj->vQ,IsPart->vU,wpAny_ite_split->vW,storeName->xZ,compareOp->x_,callWith->yc,assign->yd,swappedStores->yg,wpAny_callSpecial?_slot->ym,wpAny_call_entry->yn,strIterType->yp,plainId_quiet->yt,bm_if_false->yz,Code->AM,bindName->AN,theTreesLotGoes->AO,behindInMarks->AP,allTrue->AQ,lastMarks->AR,swapsWithSole->AS,getAttr->AU,wpAny_call->AY,wpAny_loadPart->A4,wpAny_attempt->A9,wpAny_typeOf->Bf,isSubtype_type->Bh,argsOk->Bj,wants->Bk,importedModules->Bs,callerA->Bt,wpAny_standAt->EW,unaryOp->EX,wpAny_point->EY,compareChain->EZ,testChain->E0,evalPart->E3,assignInOrder->E4,handleBy->E5,newFunctionEnv->E6,relabel->E7,seqItems?->E8,wpAny_seqItems->E9,cLine->E_,isTrue->Fb,BindsTo->Fp,assignEach->Fv,typeIs_str->FC,valueAt->FH,without->FK,entryFor_of_tree->FL,bm_if_true->FN,Comprehension->FV,boolOp->FW,setItem->Kk,wpAny_askSetting->Km,again->Kn,CmpOp->Ks,BoolOp->Ku,cellsFrom->KG,newEnv->KH,wpAny_alloc->KI,pushCells->KJ,codeAny_builtin->KO,wpAny_isInstance->KQ,wpAny_pyIter_list->KR,wpAny_isSubtype_exc->KX,codeAny_of_tree->KZ,reduceHash->K0,codeAny_call_builtin->K6,wpAny_onRaise->K7,wpAny_letGo->K8,isSubtype->K_,wpAny_getItem_str_slice->Lh,post_val_or_str->Li,wpAny_updateSeq->Ls,wpAny_setField_rec->Lv,mainNs->LV,outcomeOf->L7,byPass->Uu,unsupported->Uv,newList->Uw,evalPairs->Uy,setAttr->Uz,unbindBehindTheSuite->UA,interactive->UB,leaving->UC,recursionLimit->UD,letOwnedTupleGo->UE,handleWith->UG,comprehension->UH,wpAny_comp_letGo->UI,isInstance->UJ,getMethod->UM,attributeBase->UN,wpAny_ite->US,wpAny_mkText->UT,wpAny_updatePart->UU,wpAny_update->UY,pushCells_keeps->UZ,wpAny_throw->U1,firstArgMember->U4,isSubtype_stop->U7,cellOf->Va,compEnvC->Vc,opaqueClassAbove->Ve,GenState->Vf,wpAny_execs_cons->Vh,clipAt->Vn,ItemOn->Vo,stored->VC,getMethod_builtin->VD,callType_codes->VE,denote->V8,call->Wf,classAt->Wg,markedBehindIn_of_false->ahJ,wpAny_assignInOrder_none->ahN,letTemporaryGo->ahO,theWindowsPlace->ahP,entry_typeCall->ahQ,wpAny_loadName_local->ahS,wpAny_loadName_cell->ahT,wpAny_loadName_free->ahU,methodCallForm->ahV,frameOf->ah0,aRefKeyMayBeTheName_at->ah3,storeName_local->ah4,wpAny_handled->aib,slot_listiter_next->aic,wpAny_pyIter_listiter->aid,wpAny_pyNext_list_item->aie,wpAny_pyIter_tuple->aif,wpAny_pyIter_strU->aih,arm_assign_Tuple->aij,wpAny_assignInOrder_more->aim,wpAny_madeBy_exc->aip,wpAt_bind->aiq,wpAt_of_wpAny->air,wpAny_lookBehind->ais,plainObj_wpAny_Assign_Attribute->aiv,noFill_tuple_add->aiz,seq_tuple_add->aiA,wpAny_truthy_bool->aiF,list_getitem_lookup->aiJ,getItem_meets->aiK,checkTypeCall->ai2,wpAny_mkBytes->ai8,object_init_meets->ai9,wpAny_typeNameOfWhole_keyiter->ajg,wpAny_typeNameOf_keyiter->ajh,slot_list_setitem->ajl,leftWithCleanup->aj6,importedNames->aj8
open PySem.Around renaming under_plainId->aiW
open PySem.Builtin renaming bitAnd->vR,divisionGoesByPylong->La
open PySem.Builtin.Bytes renaming write->Lq,buffer?->Lr,exported->aiT,checkResize->aiU,slotIsOwn->aiY,ownRelease->aiZ,takeBufferQuiet?->ai0,joinItems->ajd,decodersThatHold->aks,sameRef->akK,byteValue->akL,bindOptional->akM,exportsOf->akN,joinLetGo->akO,joined->akP
open PySem.Builtin.Bytes.exported renaming match_1->akJ
open PySem.Builtin.Dict_items renaming ownsTuple->akR
open PySem.Builtin.Int renaming intBits->Be
open PySem.Builtin.List renaming listSameRef->ajj,listLengthHint->akS,listExtendWith->akT,listSubscript?->akU
open PySem.Builtin.ObjectAttr renaming storeInDict->ait,storeInOwnDict->akw,storeTaker?->akx
open PySem.Builtin.Range renaming rangeSize->U_
open PySem.Builtin.Slice renaming slicePlaces->Lk,sliceAdjust->aiL,slicePartIndex->akF,sliceApplied->akG
open PySem.Builtin.SmallTypes renaming nextOf->yA,ownedTupleIsFree->akV
open PySem.Builtin.Str renaming occurrences->tX,partsBetween->FG,strKind->aiO
open PySem.Builtin.Tuple renaming tupleItemsOf->akH
open PySem.Calls renaming spliced_cons->aiu,call_len_list->akI
open PySem.Challenge renaming pw_no0394_01->akW
open PySem.Code renaming quiet_builtin->AW
open PySem.Data renaming casesOn->Kr,fields->aj5
open PySem.Data.fields renaming inj->akv
open PySem.DictEntry renaming refKey->UP
open PySem.EntryCells renaming newEntry->akt
open PySem.Env renaming kindOf->qE
open PySem.Expr renaming casesOn->kA
open PySem.F renaming excBase_Exception->KW,slot_zip_next->Lw,slot_tuple_iterator_next->Lx,slot_str_split->Vw,entry_str_split->Vx,args_str_split_2->Vy,slot_tuple_add->aiB,entry_tuple_add->aiC,args_tuple_add_2->aiD,slot_dict_pop->aiR,bm_newCall->ai3,bm_plain->ai4,bm_entry->ai5,bm_sub->ai6,bm_bind->ai7,slot_dict_keyiterator_next->ajf,plain_extend_loop->ajk,entry_zip_next->ajp,args_zip_next_1->ajq,entry_tuple_iterator_next->ajr,args_tuple_iterator_next_1->ajs
open PySem.Fin renaming done->Kl
open PySem.Flow renaming casesOn->vy
open PySem.Heap renaming get?_push_size->fG,get?_push_of_some->fV,get?_update_other->gP,SameBut->iZ,get?_update_self->jK,lt_size->pJ,size_push->vK,get?_none_of_le->yh,ExtBut->A8,SlotsOnly->ahZ
open PySem.Heap.IsSliceOf renaming new->akE
open PySem.Heap.SameBut renaming update->Fm
open PySem.Manifest renaming isStub->ain
open PySem.NameKind renaming free->A_,cell->KD
open PySem.Obj renaming mapSeq->jM,mapFields->mh,data_mapFields->tT,isFreed_of_fields->A3,putName->Fl,dropName->FP,dropName_eq->FQ,dropNameByArray->FT,cls_mapFields->Ky,mk->LU,putName_eq->UW,putNameByArray->UX,mapBytearray->aiV,data_mapSeq->ajm,isFreed_of_seq->ajn
open PySem.PyData renaming keyHash->Ko
open PySem.Sem renaming wp_mono->EV
open PySem.SeqAt renaming notIn_tupleAt->aiG,str_beq->akD
open PySem.Shared renaming mk->aiw
open PySem.Str renaming length->aiy
open PySem.StrLaws renaming subAt_one->V3,found_one->ajw
open PySem.Txt renaming slice->qJ,lower->tY,find->vX,split->yr,slice_le->Lj,startswith->Lp,join->Vv
open PySem.Value renaming ref->dp,none->kC,type->lE,str->r7,int->r8,casesOn->A0,builtin->FU,bool->U6,isStrOf_shape->VA,isInt_shape->aiP,bytes->ajc
open PySem.Value.ref renaming inj->ah8
open PySem.W.KBy renaming add_bytes->akC
open PySem.W.Looks renaming ld->ahR,of_pure->aio
open PySem.W.WShape renaming hasItems->aj7
open Std.Legacy renaming Range->VF
open Std.Legacy.Range renaming forIn_eq_forIn_range'->aje,size->akQ
open WellFounded renaming fix_eq->ajG,fix->akX
open _root_ renaming List->ah,Int->aq,Nat->ar,Bool->aN,Option->aR,if_neg->bo,congrArg->bD,if_pos->bN,UInt8->b_,absurd->cy,True->cL,Array->dm,False->dV,String->eT,cond->fh,of_decide_eq_true->fi,Unit->gv,DecidableEq->ji,beq_self_eq_true->kZ,decide_eq_true->lJ,of_decide_eq_false->ml,decide_eq_false->ow,ForInStep->rY,if_false->rZ,Decidable->vp,decide_eq_true_eq->vY,bne_self_eq_false->Bb,or_false->K9,LawfulBEq->Ld,if_true->Vd,ne_true_of_eq_false->Vz
set_option autoImplicit true
section
variable {P Q R S T U V W X Y Z N G:Prop}
theorem aM (h:P/\Q) (k:P->Q->G):G:=k h.1 h.2
theorem fP (h:P/\Q/\R) (k:P->Q->R->G):G:=aM h.2 (k h.1)
theorem m_ (h:P/\Q/\R/\S) (k:P->Q->R->S->G):G:=fP h.2 (k h.1)
theorem jr (h:P/\Q/\R/\S/\T) (k:P->Q->R->S->T->G):G:=m_ h.2 (k h.1)
theorem xq (h:P/\Q/\R/\S/\T/\U) (k:P->Q->R->S->T->U->G):G:=jr h.2 (k h.1)
theorem u9 (h:P/\Q/\R/\S/\T/\U/\V) (k:P->Q->R->S->T->U->V->G):G:=xq h.2 (k h.1)
theorem xp (h:P/\Q/\R/\S/\T/\U/\V/\W) (k:P->Q->R->S->T->U->V->W->G):G:=u9 h.2 (k h.1)
theorem O6 (h:P/\Q/\R/\S/\T/\U/\V/\W/\X) (k:P->Q->R->S->T->U->V->W->X->G):G:=xp h.2 (k h.1)
theorem Dw (h:P/\Q/\R/\S/\T/\U/\V/\W/\X/\Y) (k:P->Q->R->S->T->U->V->W->X->Y->G):G:=O6 h.2 (k h.1)
theorem MV (h:P/\Q/\R/\S/\T/\U/\V/\W/\X/\Y/\Z) (k:P->Q->R->S->T->U->V->W->X->Y->Z->G):G:=Dw h.2 (k h.1)
theorem GL (p:P) (q:Q):P/\Q:=⟨p,q⟩
theorem aP (p:P) (q:Q) (r:R):P/\Q/\R:=⟨p,q,r⟩
theorem iT (p:P) (q:Q) (r:R) (s:S):P/\Q/\R/\S:=⟨p,q,r,s⟩
theorem f9 (p:P) (q:Q) (r:R) (s:S) (t:T):P/\Q/\R/\S/\T:=⟨p,q,r,s,t⟩
theorem lW (p:P) (q:Q) (r:R) (s:S) (t:T) (u:U):P/\Q/\R/\S/\T/\U:=⟨p,q,r,s,t,u⟩
theorem sg (p:P) (q:Q) (r:R) (s:S) (t:T) (u:U) (v:V):P/\Q/\R/\S/\T/\U/\V:=⟨p,q,r,s,t,u,v⟩
theorem z0 (p:P) (q:Q) (r:R) (s:S) (t:T) (u:U) (v:V) (w:W):P/\Q/\R/\S/\T/\U/\V/\W:=⟨p,q,r,s,t,u,v,w⟩
theorem Eo (p:P) (q:Q) (r:R) (s:S) (t:T) (u:U) (v:V) (w:W) (x:X):P/\Q/\R/\S/\T/\U/\V/\W/\X:=⟨p,q,r,s,t,u,v,w,x⟩
theorem TQ (p:P) (q:Q) (r:R) (s:S) (t:T) (u:U) (v:V) (w:W) (x:X) (y:Y):P/\Q/\R/\S/\T/\U/\V/\W/\X/\Y:=⟨p,q,r,s,t,u,v,w,x,y⟩
theorem S9 (p:P) (q:Q) (r:R) (s:S) (t:T) (u:U) (v:V) (w:W) (x:X) (y:Y) (z:Z):P/\Q/\R/\S/\T/\U/\V/\W/\X/\Y/\Z:=⟨p,q,r,s,t,u,v,w,x,y,z⟩
end
section
variable {α:Sort _} {P Q R S T U V W X Y Z N:α->Prop} {G:Prop}
theorem sJ (h:∃a,P a) (k:∀a,P a->G):G:=h.elim k
theorem uk (a) (h:P a):∃a,P a:=⟨a,h⟩
theorem bj (h:∃a,P a) (k:∀a,P a->G):G:=sJ h k
theorem Rj (h:∃a,P a/\Q a/\R a/\S a/\T a/\U a/\V a/\W a/\X a/\Y a) (k:∀a,P a->Q a->R a->S a->T a->U a->V a->W a->X a->Y a->G):G:=sJ h λa h=>Dw h (k a)
theorem aA (h:∃a,P a/\Q a) (k:∀a,P a->Q a->G):G:=sJ h λa h=>aM h (k a)
theorem cR (h:∃a,P a/\Q a/\R a) (k:∀a,P a->Q a->R a->G):G:=sJ h λa h=>fP h (k a)
theorem eO (h:∃a,P a/\Q a/\R a/\S a) (k:∀a,P a->Q a->R a->S a->G):G:=sJ h λa h=>m_ h (k a)
theorem BX (h:∃a,P a/\Q a/\R a/\S a/\T a) (k:∀a,P a->Q a->R a->S a->T a->G):G:=sJ h λa h=>jr h (k a)
theorem SO (h:∃a,P a/\Q a/\R a/\S a/\T a/\U a) (k:∀a,P a->Q a->R a->S a->T a->U a->G):G:=sJ h λa h=>xq h (k a)
theorem B8 (a) (p:P a) (q:Q a) (r:R a) (s:S a) (t:T a) (u:U a) (v:V a) (w:W a) (x:X a) (y:Y a):∃a,P a/\Q a/\R a/\S a/\T a/\U a/\V a/\W a/\X a/\Y a:=uk a (TQ p q r s t u v w x y)
theorem ao (a) (p:P a) (q:Q a):∃a,P a/\Q a:=uk a (GL p q)
theorem bV (a) (p:P a) (q:Q a) (r:R a):∃a,P a/\Q a/\R a:=uk a (aP p q r)
theorem i_ (a) (p:P a) (q:Q a) (r:R a) (s:S a):∃a,P a/\Q a/\R a/\S a:=uk a (iT p q r s)
theorem wu (a) (p:P a) (q:Q a) (r:R a) (s:S a) (t:T a):∃a,P a/\Q a/\R a/\S a/\T a:=uk a (f9 p q r s t)
theorem abG (a) (p:P a) (q:Q a) (r:R a) (s:S a) (t:T a) (u:U a):∃a,P a/\Q a/\R a/\S a/\T a/\U a:=uk a (lW p q r s t u)
end
section
variable {α β:Sort _} {P Q R S T U V W X Y Z N:α->β->Prop} {G:Prop}
theorem sG (h:∃a b,P a b) (k:∀a b,P a b->G):G:=h.elim λa h=>sJ h (k a)
theorem tx (a b) (h:P a b):∃a b,P a b:=⟨a,uk b h⟩
theorem dP (h:∃a b,P a b) (k:∀a b,P a b->G):G:=sG h k
theorem d8 (h:∃a b,P a b/\Q a b) (k:∀a b,P a b->Q a b->G):G:=sG h λa b h=>aM h (k a b)
theorem cQ (h:∃a b,P a b/\Q a b/\R a b) (k:∀a b,P a b->Q a b->R a b->G):G:=sG h λa b h=>fP h (k a b)
theorem vd (h:∃a b,P a b/\Q a b/\R a b/\S a b) (k:∀a b,P a b->Q a b->R a b->S a b->G):G:=sG h λa b h=>m_ h (k a b)
theorem CA (h:∃a b,P a b/\Q a b/\R a b/\S a b/\T a b) (k:∀a b,P a b->Q a b->R a b->S a b->T a b->G):G:=sG h λa b h=>jr h (k a b)
theorem agk (h:∃a b,P a b/\Q a b/\R a b/\S a b/\T a b/\U a b) (k:∀a b,P a b->Q a b->R a b->S a b->T a b->U a b->G):G:=sG h λa b h=>xq h (k a b)
theorem ŷ (h:∃a b,P a b/\Q a b/\R a b/\S a b/\T a b/\U a b/\V a b) (k:∀a b,P a b->Q a b->R a b->S a b->T a b->U a b->V a b->G):G:=sG h λa b h=>u9 h (k a b)
theorem jF (a b) (p:P a b):∃a b,P a b:=tx a b p
theorem ew (a b) (p:P a b) (q:Q a b):∃a b,P a b/\Q a b:=tx a b (GL p q)
theorem cI (a b) (p:P a b) (q:Q a b) (r:R a b):∃a b,P a b/\Q a b/\R a b:=tx a b (aP p q r)
theorem s8 (a b) (p:P a b) (q:Q a b) (r:R a b) (s:S a b):∃a b,P a b/\Q a b/\R a b/\S a b:=tx a b (iT p q r s)
theorem N7 (a b) (p:P a b) (q:Q a b) (r:R a b) (s:S a b) (t:T a b):∃a b,P a b/\Q a b/\R a b/\S a b/\T a b:=tx a b (f9 p q r s t)
theorem XX (a b) (p:P a b) (q:Q a b) (r:R a b) (s:S a b) (t:T a b) (u:U a b):∃a b,P a b/\Q a b/\R a b/\S a b/\T a b/\U a b:=tx a b (lW p q r s t u)
theorem Xq (a b) (p:P a b) (q:Q a b) (r:R a b) (s:S a b) (t:T a b) (u:U a b) (v:V a b):∃a b,P a b/\Q a b/\R a b/\S a b/\T a b/\U a b/\V a b:=tx a b (sg p q r s t u v)
end
section
variable {α β γ:Sort _} {P Q R S T U V W X Y Z N:α->β->γ->Prop} {G:Prop}
theorem oY (h:∃a b c,P a b c) (k:∀a b c,P a b c->G):G:=h.elim λa h=>sG h (k a)
theorem pY (a b c) (h:P a b c):∃a b c,P a b c:=⟨a,tx b c h⟩
theorem rl (h:∃a b c,P a b c) (k:∀a b c,P a b c->G):G:=oY h k
theorem ŗ (h:∃a b c,P a b c/\Q a b c/\R a b c/\S a b c/\T a b c/\U a b c/\V a b c/\W a b c/\X a b c/\Y a b c) (k:∀a b c,P a b c->Q a b c->R a b c->S a b c->T a b c->U a b c->V a b c->W a b c->X a b c->Y a b c->G):G:=oY h λa b c h=>Dw h (k a b c)
theorem eV (h:∃a b c,P a b c/\Q a b c) (k:∀a b c,P a b c->Q a b c->G):G:=oY h λa b c h=>aM h (k a b c)
theorem fM (h:∃a b c,P a b c/\Q a b c/\R a b c) (k:∀a b c,P a b c->Q a b c->R a b c->G):G:=oY h λa b c h=>fP h (k a b c)
theorem gU (h:∃a b c,P a b c/\Q a b c/\R a b c/\S a b c) (k:∀a b c,P a b c->Q a b c->R a b c->S a b c->G):G:=oY h λa b c h=>m_ h (k a b c)
theorem j3 (h:∃a b c,P a b c/\Q a b c/\R a b c/\S a b c/\T a b c) (k:∀a b c,P a b c->Q a b c->R a b c->S a b c->T a b c->G):G:=oY h λa b c h=>jr h (k a b c)
theorem AA (h:∃a b c,P a b c/\Q a b c/\R a b c/\S a b c/\T a b c/\U a b c) (k:∀a b c,P a b c->Q a b c->R a b c->S a b c->T a b c->U a b c->G):G:=oY h λa b c h=>xq h (k a b c)
theorem TV (h:∃a b c,P a b c/\Q a b c/\R a b c/\S a b c/\T a b c/\U a b c/\V a b c) (k:∀a b c,P a b c->Q a b c->R a b c->S a b c->T a b c->U a b c->V a b c->G):G:=oY h λa b c h=>u9 h (k a b c)
theorem Ak (h:∃a b c,P a b c/\Q a b c/\R a b c/\S a b c/\T a b c/\U a b c/\V a b c/\W a b c) (k:∀a b c,P a b c->Q a b c->R a b c->S a b c->T a b c->U a b c->V a b c->W a b c->G):G:=oY h λa b c h=>xp h (k a b c)
theorem agG (h:∃a b c,P a b c/\Q a b c/\R a b c/\S a b c/\T a b c/\U a b c/\V a b c/\W a b c/\X a b c) (k:∀a b c,P a b c->Q a b c->R a b c->S a b c->T a b c->U a b c->V a b c->W a b c->X a b c->G):G:=oY h λa b c h=>O6 h (k a b c)
theorem wy (a b c) (p:P a b c):∃a b c,P a b c:=pY a b c p
theorem GF (a b c) (p:P a b c) (q:Q a b c) (r:R a b c) (s:S a b c) (t:T a b c) (u:U a b c) (v:V a b c) (w:W a b c) (x:X a b c) (y:Y a b c):∃a b c,P a b c/\Q a b c/\R a b c/\S a b c/\T a b c/\U a b c/\V a b c/\W a b c/\X a b c/\Y a b c:=pY a b c (TQ p q r s t u v w x y)
theorem wX (a b c) (p:P a b c) (q:Q a b c):∃a b c,P a b c/\Q a b c:=pY a b c (GL p q)
theorem yT (a b c) (p:P a b c) (q:Q a b c) (r:R a b c):∃a b c,P a b c/\Q a b c/\R a b c:=pY a b c (aP p q r)
theorem i5 (a b c) (p:P a b c) (q:Q a b c) (r:R a b c) (s:S a b c):∃a b c,P a b c/\Q a b c/\R a b c/\S a b c:=pY a b c (iT p q r s)
theorem Cv (a b c) (p:P a b c) (q:Q a b c) (r:R a b c) (s:S a b c) (t:T a b c):∃a b c,P a b c/\Q a b c/\R a b c/\S a b c/\T a b c:=pY a b c (f9 p q r s t)
theorem xo (a b c) (p:P a b c) (q:Q a b c) (r:R a b c) (s:S a b c) (t:T a b c) (u:U a b c):∃a b c,P a b c/\Q a b c/\R a b c/\S a b c/\T a b c/\U a b c:=pY a b c (lW p q r s t u)
theorem Jh (a b c) (p:P a b c) (q:Q a b c) (r:R a b c) (s:S a b c) (t:T a b c) (u:U a b c) (v:V a b c) (w:W a b c):∃a b c,P a b c/\Q a b c/\R a b c/\S a b c/\T a b c/\U a b c/\V a b c/\W a b c:=pY a b c (z0 p q r s t u v w)
theorem TL (a b c) (p:P a b c) (q:Q a b c) (r:R a b c) (s:S a b c) (t:T a b c) (u:U a b c) (v:V a b c) (w:W a b c) (x:X a b c):∃a b c,P a b c/\Q a b c/\R a b c/\S a b c/\T a b c/\U a b c/\V a b c/\W a b c/\X a b c:=pY a b c (Eo p q r s t u v w x)
end
section
variable {α β γ δ:Sort _} {P Q R S T U V W X Y Z N:α->β->γ->δ->Prop} {G:Prop}
theorem s_ (h:∃a b c d,P a b c d) (k:∀a b c d,P a b c d->G):G:=h.elim λa h=>oY h (k a)
theorem uR (a b c d) (h:P a b c d):∃a b c d,P a b c d:=⟨a,pY b c d h⟩
theorem Cq (h:∃a b c d,P a b c d) (k:∀a b c d,P a b c d->G):G:=s_ h k
theorem Qk (h:∃a b c d,P a b c d/\Q a b c d) (k:∀a b c d,P a b c d->Q a b c d->G):G:=s_ h λa b c d h=>aM h (k a b c d)
theorem adR (h:∃a b c d,P a b c d/\Q a b c d/\R a b c d) (k:∀a b c d,P a b c d->Q a b c d->R a b c d->G):G:=s_ h λa b c d h=>fP h (k a b c d)
theorem Ad (h:∃a b c d,P a b c d/\Q a b c d/\R a b c d/\S a b c d) (k:∀a b c d,P a b c d->Q a b c d->R a b c d->S a b c d->G):G:=s_ h λa b c d h=>m_ h (k a b c d)
theorem BY (h:∃a b c d,P a b c d/\Q a b c d/\R a b c d/\S a b c d/\T a b c d) (k:∀a b c d,P a b c d->Q a b c d->R a b c d->S a b c d->T a b c d->G):G:=s_ h λa b c d h=>jr h (k a b c d)
theorem AB (h:∃a b c d,P a b c d/\Q a b c d/\R a b c d/\S a b c d/\T a b c d/\U a b c d) (k:∀a b c d,P a b c d->Q a b c d->R a b c d->S a b c d->T a b c d->U a b c d->G):G:=s_ h λa b c d h=>xq h (k a b c d)
theorem ä (h:∃a b c d,P a b c d/\Q a b c d/\R a b c d/\S a b c d/\T a b c d/\U a b c d/\V a b c d/\W a b c d) (k:∀a b c d,P a b c d->Q a b c d->R a b c d->S a b c d->T a b c d->U a b c d->V a b c d->W a b c d->G):G:=s_ h λa b c d h=>xp h (k a b c d)
theorem mK (a b c d) (p:P a b c d):∃a b c d,P a b c d:=uR a b c d p
theorem Yn (a b c d) (p:P a b c d) (q:Q a b c d) (r:R a b c d):∃a b c d,P a b c d/\Q a b c d/\R a b c d:=uR a b c d (aP p q r)
theorem J7 (a b c d) (p:P a b c d) (q:Q a b c d) (r:R a b c d) (s:S a b c d):∃a b c d,P a b c d/\Q a b c d/\R a b c d/\S a b c d:=uR a b c d (iT p q r s)
theorem zY (a b c d) (p:P a b c d) (q:Q a b c d) (r:R a b c d) (s:S a b c d) (t:T a b c d):∃a b c d,P a b c d/\Q a b c d/\R a b c d/\S a b c d/\T a b c d:=uR a b c d (f9 p q r s t)
theorem TZ (a b c d) (p:P a b c d) (q:Q a b c d) (r:R a b c d) (s:S a b c d) (t:T a b c d) (u:U a b c d):∃a b c d,P a b c d/\Q a b c d/\R a b c d/\S a b c d/\T a b c d/\U a b c d:=uR a b c d (lW p q r s t u)
theorem xm (a b c d) (p:P a b c d) (q:Q a b c d) (r:R a b c d) (s:S a b c d) (t:T a b c d) (u:U a b c d) (v:V a b c d) (w:W a b c d):∃a b c d,P a b c d/\Q a b c d/\R a b c d/\S a b c d/\T a b c d/\U a b c d/\V a b c d/\W a b c d:=uR a b c d (z0 p q r s t u v w)
end
section
variable {α β γ δ ε:Sort _} {P Q R S T U V W X Y Z N:α->β->γ->δ->ε->Prop} {G:Prop}
theorem yR (h:∃a b c d e,P a b c d e) (k:∀a b c d e,P a b c d e->G):G:=h.elim λa h=>s_ h (k a)
theorem Ge (a b c d e) (h:P a b c d e):∃a b c d e,P a b c d e:=⟨a,uR b c d e h⟩
theorem Ċ (h:∃a b c d e,P a b c d e) (k:∀a b c d e,P a b c d e->G):G:=yR h k
theorem Nz (h:∃a b c d e,P a b c d e/\Q a b c d e/\R a b c d e/\S a b c d e/\T a b c d e/\U a b c d e/\V a b c d e/\W a b c d e/\X a b c d e/\Y a b c d e/\Z a b c d e) (k:∀a b c d e,P a b c d e->Q a b c d e->R a b c d e->S a b c d e->T a b c d e->U a b c d e->V a b c d e->W a b c d e->X a b c d e->Y a b c d e->Z a b c d e->G):G:=yR h λa b c d e h=>MV h (k a b c d e)
theorem ZY (h:∃a b c d e,P a b c d e/\Q a b c d e) (k:∀a b c d e,P a b c d e->Q a b c d e->G):G:=yR h λa b c d e h=>aM h (k a b c d e)
theorem Iy (h:∃a b c d e,P a b c d e/\Q a b c d e/\R a b c d e/\S a b c d e/\T a b c d e) (k:∀a b c d e,P a b c d e->Q a b c d e->R a b c d e->S a b c d e->T a b c d e->G):G:=yR h λa b c d e h=>jr h (k a b c d e)
theorem Sz (a b c d e) (p:P a b c d e) (q:Q a b c d e) (r:R a b c d e) (s:S a b c d e) (t:T a b c d e) (u:U a b c d e) (v:V a b c d e) (w:W a b c d e) (x:X a b c d e) (y:Y a b c d e) (z:Z a b c d e):∃a b c d e,P a b c d e/\Q a b c d e/\R a b c d e/\S a b c d e/\T a b c d e/\U a b c d e/\V a b c d e/\W a b c d e/\X a b c d e/\Y a b c d e/\Z a b c d e:=Ge a b c d e (S9 p q r s t u v w x y z)
theorem C_ (a b c d e) (p:P a b c d e) (q:Q a b c d e) (r:R a b c d e) (s:S a b c d e) (t:T a b c d e):∃a b c d e,P a b c d e/\Q a b c d e/\R a b c d e/\S a b c d e/\T a b c d e:=Ge a b c d e (f9 p q r s t)
end
section
variable {α β γ δ ε ζ:Sort _} {P Q R S T U V W X Y Z N:α->β->γ->δ->ε->ζ->Prop} {G:Prop}
theorem Dn (h:∃a b c d e f,P a b c d e f) (k:∀a b c d e f,P a b c d e f->G):G:=h.elim λa h=>yR h (k a)
theorem Ta (a b c d e f) (h:P a b c d e f):∃a b c d e f,P a b c d e f:=⟨a,Ge b c d e f h⟩
theorem WK (h:∃a b c d e f,P a b c d e f/\Q a b c d e f/\R a b c d e f/\S a b c d e f/\T a b c d e f/\U a b c d e f/\V a b c d e f/\W a b c d e f/\X a b c d e f/\Y a b c d e f) (k:∀a b c d e f,P a b c d e f->Q a b c d e f->R a b c d e f->S a b c d e f->T a b c d e f->U a b c d e f->V a b c d e f->W a b c d e f->X a b c d e f->Y a b c d e f->G):G:=Dn h λa b c d e f h=>Dw h (k a b c d e f)
theorem aeK (h:∃a b c d e f,P a b c d e f/\Q a b c d e f/\R a b c d e f/\S a b c d e f/\T a b c d e f/\U a b c d e f/\V a b c d e f/\W a b c d e f/\X a b c d e f/\Y a b c d e f/\Z a b c d e f) (k:∀a b c d e f,P a b c d e f->Q a b c d e f->R a b c d e f->S a b c d e f->T a b c d e f->U a b c d e f->V a b c d e f->W a b c d e f->X a b c d e f->Y a b c d e f->Z a b c d e f->G):G:=Dn h λa b c d e f h=>MV h (k a b c d e f)
theorem X_ (h:∃a b c d e f,P a b c d e f/\Q a b c d e f/\R a b c d e f/\S a b c d e f/\T a b c d e f/\U a b c d e f/\V a b c d e f) (k:∀a b c d e f,P a b c d e f->Q a b c d e f->R a b c d e f->S a b c d e f->T a b c d e f->U a b c d e f->V a b c d e f->G):G:=Dn h λa b c d e f h=>u9 h (k a b c d e f)
theorem uK (a b c d e f) (p:P a b c d e f) (q:Q a b c d e f) (r:R a b c d e f) (s:S a b c d e f) (t:T a b c d e f) (u:U a b c d e f) (v:V a b c d e f) (w:W a b c d e f) (x:X a b c d e f) (y:Y a b c d e f) (z:Z a b c d e f):∃a b c d e f,P a b c d e f/\Q a b c d e f/\R a b c d e f/\S a b c d e f/\T a b c d e f/\U a b c d e f/\V a b c d e f/\W a b c d e f/\X a b c d e f/\Y a b c d e f/\Z a b c d e f:=Ta a b c d e f (S9 p q r s t u v w x y z)
end
section
variable {α β γ δ ε ζ η:Sort _} {P Q R S T U V W X Y Z N:α->β->γ->δ->ε->ζ->η->Prop} {G:Prop}
theorem ex7 (h:∃a b c d e f g,P a b c d e f g) (k:∀a b c d e f g,P a b c d e f g->G):G:=h.elim λa h=>Dn h (k a)
theorem R7 (a b c d e f g) (h:P a b c d e f g):∃a b c d e f g,P a b c d e f g:=⟨a,Ta b c d e f g h⟩
theorem aac (a b c d e f g) (p:P a b c d e f g) (q:Q a b c d e f g) (r:R a b c d e f g) (s:S a b c d e f g) (t:T a b c d e f g):∃a b c d e f g,P a b c d e f g/\Q a b c d e f g/\R a b c d e f g/\S a b c d e f g/\T a b c d e f g:=R7 a b c d e f g (f9 p q r s t)
end
section
variable {α β γ δ ε ζ η θ:Sort _} {P Q R S T U V W X Y Z N:α->β->γ->δ->ε->ζ->η->θ->Prop} {G:Prop}
theorem R8 (h:∃a b c d e f g i,P a b c d e f g i) (k:∀a b c d e f g i,P a b c d e f g i->G):G:=h.elim λa h=>ex7 h (k a)
theorem xk8 (a b c d e f g i) (h:P a b c d e f g i):∃a b c d e f g i,P a b c d e f g i:=⟨a,R7 b c d e f g i h⟩
theorem afh (h:∃a b c d e f g i,P a b c d e f g i) (k:∀a b c d e f g i,P a b c d e f g i->G):G:=R8 h k
theorem aad (h:∃a b c d e f g i,P a b c d e f g i/\Q a b c d e f g i/\R a b c d e f g i/\S a b c d e f g i/\T a b c d e f g i/\U a b c d e f g i) (k:∀a b c d e f g i,P a b c d e f g i->Q a b c d e f g i->R a b c d e f g i->S a b c d e f g i->T a b c d e f g i->U a b c d e f g i->G):G:=R8 h λa b c d e f g i h=>xq h (k a b c d e f g i)
end
@[elab_as_elim] theorem aa {α:Sort _} {a b:α} {motive:α->Prop} (e:a=b) (h:motive b):motive a:=e▸h
theorem f5 {α:Type _} {a:α} {G:Prop} (h:none=ae a):G:=ahI rfl (heq_of_eq h)
theorem Gs {α:Type _} {a:α} {G:Prop} (h:ae a=none):G:=ahI rfl (heq_of_eq h)
theorem mA {G:Prop} (h:ai=au):G:=cy h.symm jJ
theorem lU {G:Prop} (h:au=ai):G:=cy h jJ
theorem jl {α:Type _} {a:α} {G:Prop} (h:a∈([]:ah α)):G:=cy h EU
theorem PM {α:Type _} {a:α} {l:ah α} {G:Prop} (h:[]=a::l):G:=cy h.symm (Ut a l)
theorem CB {α:Type _} {a:α} {l:ah α} {G:Prop} (h:a::l=[]):G:=cy h (Ut a l)
set_option autoImplicit true
local macro_rules | `(tactic| show $e) => `(tactic| refine $e)
local macro_rules | `(tactic| exists $e) => `(tactic| refine aa $e ?_)
local macro_rules | `(tactic| ext) => `(tactic| kernel_rfl)
local macro_rules | `(⋯) => `(by decide)
open PySem PySem.W PyProof.Rows PySem.Calls
section
noncomputable def uV:ah eT:=["bytearray.__contains__","bytearray.__mod__","bytearray.__rmod__","_struct.pack_into.held","bytearray.find.held"]++aks
noncomputable def vn:AM->aN
 | .builtin id _=>uV.contains id
 |_=>au
def wR (l:ah (AM×fU)):Prop:=∀x∈l,vn x.1=au
def aE {α:Type} (M:qC) (A:eX) (t:cC α) (Q:α->aU->Prop) (E:aI->aU->Prop) (s:aU):Prop:=
 ∀Γ p,Γ.In A->vn Γ.code=au->wR Γ.below->Sem.wp M Γ t (λa J s'=>Q a s') (λe J s'=>E e s') p s
def dQ (M:qC) (A:eX) (c:AM) (R:vo->aU->Prop) (s:aU):Prop:=
 ∀Γ p,Γ.code=c->Γ.Below A->wR Γ.below->wpCode M Γ R p s
section
variable {α β:Type} {M:qC} {A:eX} {E:aI->aU->Prop} {s:aU} {env:eJ}
theorem up (h:a_ M A t Q E s):aE M A t Q E s:=λΓ p gf J J=>h Γ p gf
theorem bw (h:Q a s):aE M A (pure a) Q E s:=λJ J J J J=>h
theorem JJ (h:E e s):aE M A (throw e:cC α) Q E s:=λJ J J J J=>h
theorem cq (h:aE M A t Q E s) (hQ:∀a s,Q a s->Q' a s) (hE:∀e s,E e s->E' e s):aE M A t Q' E' s:=
 λΓ p gf d b=>EV M Γ t (λa J s=>hQ a s) (λe J s=>hE e s) p s (h Γ p gf d b)
theorem aS (h:aE M A m (λa s'=>aE M A (f a) Q E s') E s):aE M A (m >>=f) Q E s:=λΓ p gf d b=>by
 rewrite [Sem.wp_bind']
 show EV M Γ m (λa p' s' h'=>h' Γ p' gf d b) (λJ J J h'=>h') p s (h Γ p gf d b)
theorem bP (h:aE M A m P E s) (k:∀a s',P a s'->aE M A (f a) Q E s'):aE M A (m >>=f) Q E s:=
 aS (cq h k λJ J x=>x)
theorem wZ (h:aE M A m Q (λe s'=>aE M A (k e) (λJ gw=>E e gw) E s') s):aE M A (m.onRaise k) Q E s:=λΓ p gf d b=>by
 rewrite [Sem.wp_onRaise]
 show EV M Γ m (λJ J J h'=>h') (λe p' s' h'=>h' Γ p' gf d b) p s (h Γ p gf d b)
theorem Ho {Q:Except aI α->aU->Prop} (h:aE M A m (λa=>Q (.ok a)) (λe=>Q (.error e)) s):aE M A m.attempt Q E s:=λΓ p gf d b=>by
 rewrite [Sem.wp_attempt];show h Γ p gf d b
theorem cE (h:aE M A m Q E s):aE M A (oh vs m) Q E s:=λΓ p gf d b=>by rewrite [Sem.wp_holding];show h Γ p gf d b
theorem wD (h:aE M A m Q E s):aE M A (operate vs m) Q E s:=λΓ p gf d b=>by rewrite [Sem.wp_operate];show h Γ p gf d b
theorem dF (h:aE M A (k ()) Q E s):aE M A (me pos >>=k) Q E s:=aS (up (EW h))
theorem xB (e:t=t') (h:aE M A t' Q E s):aE M A t Q E s:=e▸h
theorem ri [vp c] (ha:c->aE M A a Q E s) (hb:¬c->aE M A b Q E s):aE M A (if c then a else b) Q E s:=by
 by_cases h:c
 ·show aa (bN h)<|ha h
 ·show aa (bo h)<|hb h
theorem AI (h:aE M A (xZ env x v) Q E s):aE M A (AN env x v) Q E s:=λΓ p gf d b=>by
 rewrite [Sem.wp_bindName];show h Γ p gf d b
theorem wR.cons (h:vn c=au) (k:wR l):wR ((c,p)::l):=λx hx=>by
 rcases List.mem_cons.mp hx with rfl|hx
 ·show h
 ·show k x hx
theorem zG (h:dQ M A c R s) (hR:∀r s,R r s->R' r s):dQ M A c R' s:=λΓ p hc gf b=>wpCode_mono hR (h Γ p hc gf b)
theorem PH (hc:dQ M (A.mark h) c (λr s'=>match r with| .ok f=>Q f s'| .error e=>E e s') s) (zV:h≠ae Uu):
  aE M A (run c h) Q E s:=λΓ p gf d b=>by rewrite [Sem.wp_run];show hc _ p rfl (gf.enter c h p zV) (b.cons d)
theorem wM
  (hc:dQ M A (.call f ⟨pos,kw⟩) (λr s'=>match r with| .ok (.ret v)=>Q v s'| .ok _=>dV| .error e=>E e s') s):aE M A (gN f pos kw) Q E s:=λΓ p gf d b=>by
 show (?_:Sem.wp M Γ (runValue _) _ _ p s)
 rewrite [Sem.wp_runValue];show hc _ p rfl (gf.enter _ none p (by intro x;injection x)) (b.cons d)
theorem lR (hd:vn c=au) (h:aE M (A.under c) (M.den c) (λfin s'=>match fin with| .done f=>R (.ok f) s'| .again c'=>c'.quiet=ai/\dQ M A c' R s')
   (λe s'=>R (.error e) s') s):dQ M A c R s:=λΓ p hc gf b=>by
 rewrite [wpCode_iff_wp];exists hc
 show EV M Γ _ (λfin p' s' h'=>?_) (λJ J J h'=>h') p s (h Γ p (hc▸gf.in) (aa hc hd) b);cases fin with
 |done f=>show h'
 |again c'=>show ⟨h'.1,h'.2 (Γ.goto c') p' rfl (gf.goto c') b⟩
theorem HQ (hq:c.quiet=ai) (hd:vn c=au) (I:ar->aU->Prop)
  (turn:∀n s,I n s->aE M (A.under c) (M.den c) (λfin s'=>match fin with| .done f=>R (.ok f) s'| .again c'=>c'=c/\∃m,m < n/\I m s') (λe s'=>R (.error e) s') s)
  (n:ar) (h:I n s):dQ M A c R s:=by
 induction n using Kj generalizing s with
 |ind n ih=>
  show lR hd (cq (turn n s h) (λfin s' hf=>?_) λJ J h'=>h');cases fin with
  |done f=>show hf
  |again c'=>rcases hf with ⟨rfl,m,hm,hI⟩;show ⟨hq,ih m hm hI⟩
def sA (M:qC) (A:eX) (env:eJ) (E:aI->aU->Prop):aI->aU->Prop:=
 λx s'=>aE M A (do
  if (<-tJ x 1)== .none then Uv "frame.own-activation:exception-without-traceback"
  vq x env.frame) (λJ gw=>E x gw) E s'
theorem EE (hc:dQ M (A.mark h) c (λr s'=>match r with| .ok f=>Q f s'| .error e=>sA M A env E e s') s) (zV:h≠ae Uu):
  aE M A (runOwn c env h) Q E s:=wZ (PH hc zV)
def fF (M:qC) (A:eX) (env:eJ) (E:aI->aU->Prop):aI->aU->Prop:=λx s'=>aE M A (lA x env) (λJ gw=>E x gw) E s'
theorem sO (h:aE M A m Q (fF M A env E) s):aE M A (m.onRaise λx=>do lA x env;AO x) Q E s:=
 wZ (cq h (λJ J q=>q) λJ J hx=>bP hx λJ J e=>up (wpAny_theTreesLotGoes e))
theorem S_ (h:aE M A m Q (fF M A env E) s):aE M A (m.onRaise λx=>do lA x env;me w) Q E s:=
 wZ (cq h (λJ J q=>q) λJ J hx=>bP hx λJ J e=>up (EW e))
theorem ahs {l op r pos} (h:aE M A (bX l env) (λa aC=>aE M A (bX r env) (λb aL=>aE M A (iY op a b) Q E aL) E aC) E s):aE M A (bX (.BinOp l op r pos) env) Q E s:=by
 rewrite [eval_BinOp]
 show bP h λa aC bf=>bP (cE bf) λb aL cn=>dF (wD cn)
theorem agW {l op r pos} (h:aE M A (bX l env) (λa aC=>aE M A (bX r env) (λb aL=>aE M A (x_ op a b) Q E aL) E aC) E s) (hm:AP op r=au):
  aE M A (bX (.Compare l [op] [r] pos) env) Q E s:=by
 rewrite [eval_Compare1];exists ahJ hm
 show bP h λa aC bf=>bP (cE bf) λb aL cn=>dF (wD cn)
theorem ag1 {l op r pos whole} (h:aE M A (bX l env) (λa aC=>aE M A (bX r env) (λb aL=>aE M A (x_ op a b) (λc bz=>aE M A (qD c) Q E bz) E aL) E aC) E s)
  (hm:AP op r=au):aE M A (pD (.Compare l [op] [r] pos) env whole) Q E s:=by
 rewrite [isTrue_Compare1];exists ahJ hm
 show bP h λa aC bf=>bP (cE bf) λb aL cn=>dF (bP (wD cn) λc bz d_=>cE d_)
theorem ZP (h:aE M A (bX x env) (λv aC=>aE M A (EX op v) Q E aC) E s):aE M A (bX (.UnaryOp op x pos) env) Q E s:=by
 rewrite [arm_eval_UnaryOp]
 show bP h λv aC bf=>dF (cE bf)
theorem È (h:aE M A (pD x env (bX x env)) (λb aC=>Q (!b) aC) E s):aE M A (pD (.UnaryOp .Not x pos) env whole) Q E s:=by
 rewrite [arm_isTrue_UnaryOp]
 show bP h λb aC bf=>bw bf
theorem Ŷ (h:aE M A (AQ op values env) Q E s):aE M A (pD (.BoolOp op values pos) env whole) Q E s:=by
 rewrite [arm_isTrue_BoolOp];show h
theorem Ŏ (h:aE M A (pD x env (bX x env)) (λb aC=>if b then aE M A (AQ .And rest env) Q E aC else Q au aC) E s):aE M A (AQ .And (x::rest) env) Q E s:=by
 show bP h λb aC bf=>?_;induction b using ez
 ·show bw bf
 ·show bf
theorem ŕ (h:aE M A (pD x env (bX x env)) (λb aC=>if b then Q ai aC else aE M A (AQ .Or rest env) Q E aC) E s):aE M A (AQ .Or (x::rest) env) Q E s:=by
 show bP h λb aC bf=>?_;induction b using ez
 ·show bf
 ·show bw bf
theorem Ŭ (h:aE M A whole (λv aC=>aE M A (qD v) Q E aC) E s)
  (he:pD e env whole=(do let v <-whole;me e.pos;oh [v] (qD v))):aE M A (pD e env whole) Q E s:=aa he<|bP h λv aC bf=>dF (cE bf)
theorem aaP (h:aE M A (pD test env (bX test env)) (λb aC=>if b then aE M A (bX body env) Q E aC else aE M A (bX orelse env) Q E aC) E s):
  aE M A (bX (.IfExp test body orelse pos) env) Q E s:=by
 rewrite [arm_eval_IfExp]
 show bP h λb aC bf=>?_;induction b using ez <;> show bf
theorem N0 (h:Q [] s):aE M A (kU []) Q E s:=up (spliced_nil h)
theorem af6 (h:aE M A x (λv aC=>aE M A (kU rest) (λvs aL=>Q (v::vs) aL) E aC) E s):aE M A (kU ((au,x)::rest)) Q E s:=by
 rewrite [kU]
 show bP h λv aC bf=>aa (bo jJ)<|bP (P:=λa s'=>a=[v]/\s'=aC) (bw ⟨rfl,rfl⟩) λa s' x'=>aM x' λe1 e2=>aa e1<|aa e2<|bP (cE bf) λvs aL cn=>bw cn
theorem Ŗ (h:aE M A (kU (iG pos (iH elts env))) (λvs aC=>aE M A (newTuple vs) Q E aC) E s):aE M A (bX (.Tuple elts k pos) env) Q E s:=by
 show dF (aS h)
theorem MK (h:aE M A (kU (iG pos (iH elts env))) (λvs aC=>aE M A (Uw vs) Q E aC) E s):aE M A (bX (.List elts pos) env) Q E s:=by
 show dF (aS h)
theorem zB {id:ak} (h:aE M A (bX (.Name id p) env) (λf aC=>aE M A (yc pos f [] (iG pos (iH args env)) []) Q E aC) E s):aE M A (bX (.Call (.Name id p) args [] pos) env) Q E s:=aS h
theorem SX (h:aE M A (kU ((au,x)::rest)) (λvs s'=>Q ⟨vs,[]⟩ s') E s):aE M A (vt f ai ((au,x)::rest) []) Q E s:=bP h λvs s' h'=>cE<|aS (bw (aS (bw (bw h'))))
theorem Az (ht:aE M A t Q E s):aE M A (t >>=λr=>oh [r] point >>=λJ=>pure r) Q E s:=
 bP ht λr aL hr=>aS (cE (up (EY (bw hr))))
theorem MA (zj:args.any (λx=>x.1)=au)
  (h:aE M A (vt (.type T) ai args []) (λa aC=>aE M A (gN (.type T) (first++a.pos) a.kw) Q E aC) E s):aE M A (yc pos (.type T) first args []) Q E s:=by
 show bP (cE h) λa aC bf=>dF ?_;rw [zj,ahK];show aS (bw (Az bf))
theorem ø {id:eT} (zj:args.any (λx=>x.1)=au)
  (h:aE M A (vt (.builtin id) ai args []) (λa aC=>aE M A (gN (.builtin id) (first++a.pos) a.kw) Q E aC) E s):aE M A (yc pos (.builtin id) first args []) Q E s:=by
 show bP (cE h) λa aC bf=>dF ?_;rw [zj,ahK];show aS (bw (Az bf))
theorem Y6 (h:aE M A m Q E s):aE M A (m.keep vs) Q E s:=λΓ p gf d b=>by rewrite [Sem.wp_keep];show h Γ p gf d b
theorem ZE {P:bF->Prop} (zj:(args.any (λx=>x.1)||keywords.any (λx=>x.1.isNone))=au)
  (hk:∀h,P h->∃k,(k=Keeper.frame\/k=Keeper.machine\/k=Keeper.boundFrame)/\mW M h (keeperOf f) k)
  (h:aE M A (vt f ai args keywords) (λa aC=>P aC.heap/\aE M A (gN f (first++a.pos) a.kw) Q E aC) E s):aE M A (yc pos f first args keywords) Q E s:=by
 show bP (cE h) λa aC bf=>dF<|aA (hk _ bf.1) λk Jf L=>(zj).symm▸?_
 show aS (up (L.here ?_));have marked (mk:aI):aE M A (callMarked mk f (first++a.pos) a.kw) Q E aC:=Y6 bf.2;rcases Jf with rfl|rfl|rfl <;> dsimp only <;> first|show Az bf.2|(split <;> first|show Az bf.2|show Az (marked _))
theorem ĭ {l gJ gK ops g9 hW rs pos} (h:aE M A (bX l env) (λa aC=>aE M A (EZ pos a (gJ::gK::ops) (bX g9 env::bX hW env::tK rs env)) Q E aC) E s)
  (hm:AR (gJ::gK::ops) (g9::hW::rs)=au):aE M A (bX (.Compare l (gJ::gK::ops) (g9::hW::rs) pos) env) Q E s:=by
 show (?_:aE M A (do EZ pos (<-bX l env) (gJ::gK::ops) (markedEach (gJ::gK::ops) (g9::hW::rs) (tK (g9::hW::rs) env))) Q E s);show aa (ahL _ _ _ hm)<|aS h
theorem afE
  (h:aE M A r (λb aC=>aE M A (x_ op a b) (λc aL=>aE M A (qD c) (λt bz=>if t then aE M A (EZ pos b (HN::ops) (r'::rs)) Q E bz else Q c bz) E aL) E aC) E s):aE M A (EZ pos a (op::HN::ops) (r::r'::rs)) Q E s:=by
 show bP (cE h) λb aC bf=>dF (bP (cE bf) λc aL cn=>aS (up (Ux (bP (cE cn) λt bz d_=>?_))));induction t using ez with
 |false=>show bw d_
 |true=>show d_
theorem aeD (h:aE M A r (λb aC=>aE M A (x_ op a b) Q E aC) E s):aE M A (EZ pos a [op] [r]) Q E s:=by
 show bP (cE h) λb aC bf=>dF (wD bf)
theorem YI {l gJ gK ops g9 hW rs pos whole} (h:aE M A (bX l env) (λa aC=>aE M A (E0 pos a (gJ::gK::ops) (bX g9 env::bX hW env::tK rs env)) Q E aC) E s)
  (hm:AR (gJ::gK::ops) (g9::hW::rs)=au):aE M A (pD (.Compare l (gJ::gK::ops) (g9::hW::rs) pos) env whole) Q E s:=by
 show (?_:aE M A (do E0 pos (<-bX l env) (gJ::gK::ops) (markedEach (gJ::gK::ops) (g9::hW::rs) (tK (g9::hW::rs) env))) Q E s);show aa (ahL _ _ _ hm)<|aS h
theorem aeu
  (h:aE M A r (λb aC=>aE M A (x_ op a b) (λc aL=>aE M A (qD c) (λt bz=>if t then aE M A (E0 pos b (HN::ops) (r'::rs)) Q E bz else Q au bz) E aL) E aC) E s):aE M A (E0 pos a (op::HN::ops) (r::r'::rs)) Q E s:=by
 show bP (cE h) λb aC bf=>dF (bP (cE bf) λc aL cn=>aS (up (Ux (bP (cE cn) λt bz d_=>?_))));induction t using ez with
 |false=>show bw d_
 |true=>show d_
theorem af3 (h:aE M A r (λb aC=>aE M A (x_ op a b) (λc aL=>aE M A (qD c) Q E aL) E aC) E s):aE M A (E0 pos a [op] [r]) Q E s:=by
 show bP (cE h) λb aC bf=>dF (bP (wD bf) λc aL cn=>cE cn)
theorem Om {value slice pos} (h:aE M A (bX value env) (λo aC=>aE M A (bX slice env) (λi aL=>aE M A (ahM value slice o i) Q E aL) E aC) E s):aE M A (bX (.Subscript value slice pos) env) Q E s:=by
 rewrite [eval_Subscript]
 show bP h λo aC bf=>bP (cE bf) λi aL cn=>dF cn
theorem É {lower upper step:aR bR}
  (h:aE M A (E3 lower env) (λl aC=>aE M A (E3 upper env) (λu aL=>aE M A (E3 step env) (λst bz=>Q (.ref bz.heap.objs.size) {bz with heap:=bz.heap.push {cls:= .type "slice",data:= .fields #[l,u,st]}}) E aL) E aC) E s):
  aE M A (bX (.Slice lower upper step p) env) Q E s:=by
 rewrite [arm_eval_Slice]
 show bP h λl aC bf=>bP (cE bf) λu aL cn=>bP (cE cn) λst bz d_=>up (vw d_)
theorem ě (h:aE M A (bX e env) Q E s):aE M A (E3 (ae e) env) Q E s:=h
theorem adQ
  (h:aE M A k (λkv aC=>aE M A v (λvv aL=>aE M A (Uy rest) (λvs bz=>Q ((kv,vv)::vs) bz) E aL) E aC) E s):aE M A (Uy ((k,v)::rest)) Q E s:=by
 rewrite [Uy]
 show bP h λkv aC bf=>bP (cE bf) λvv aL cn=>bP (cE cn) λvs bz d_=>bw d_
theorem xQ (h:Q .next s):aE M A (j5 [] env) Q E s:=λJ J J J J=>h
theorem Rf {st rest} (h:aE M A (mX st env) (λf s'=>match f with| .next=>aE M A (j5 rest env) Q E s'|f=>Q f s') E s):aE M A (j5 (st::rest) env) Q E s:=by
 rewrite [execs_cons]
 show bP h λf s' h'=>?_;induction f using vy <;> first|show h'|show bw h'
theorem Wn {test body orelse pos} (h:aE M A (pD test env (bX test env)) (λb aL=>if b then aE M A (j5 body env) Q E aL else aE M A (j5 orelse env) Q E aL) E s):aE M A (mX (.If test body orelse pos) env) Q E s:=by
 rewrite [exec_If]
 show dF (bP h λb aL cn=>?_);induction b using ez <;> show cn
theorem abQ {e pos} (h:aE M A (bX e env) (λv=>Q (.ret v)) E s):aE M A (mX (.Return (ae e) pos) env) Q E s:=by
 rewrite [exec_Return_some]
 show dF (bP h λv aC bf=>bw bf)
theorem Ny {x pos' value pos} (h:aE M A (bX value env) (λv aC=>aE M A (xZ env x v) (λJ=>Q .next) E aC) E s) (hs:oi value (ae (.Name x pos')) pos.line env=pure au):
  aE M A (mX (.Assign [.Name x pos'] value pos) env) Q E s:=aa (exec_Assign_Name env x pos' value pos hs)<|dF (bP h λv aC bf=>dF (bP (AI bf) λJ aL cn=>bw cn))
theorem I1 (h:Q () s):aE M A (release vs keep) Q E s:=up (Ux h)
theorem WN {o i pos' value pos}
  (h:aE M A (bX value env) (λv aC=>aE M A (bX o env) (λov aL=>aE M A (bX i env) (λiv bz=>aE M A (Kk ov iv v) (λJ=>Q .next) E bz) E aL) E aC) E s)
  (hs:oi value (ae (.Subscript o i pos')) pos.line env=pure au):aE M A (mX (.Assign [.Subscript o i pos'] value pos) env) Q E s:=by
 show aa (exec_Assign_Subscript o i pos' value pos hs)<|dF (bP h λv aC bf=>?_)
 rewrite [assign_Subscript]
 show aS (bP (cE bf) λov aL cn=>bP (cE cn) λiv bz d_=>dF (bP (cE d_) λJ e_ i8=>I1 (bw i8)))
theorem ZF {o attr pos' value pos} (h:aE M A (bX value env) (λv aC=>aE M A (bX o env) (λov aL=>aE M A (Uz ov attr v) (λJ=>Q .next) E aL) E aC) E s)
  (hs:oi value (ae (.Attribute o attr pos')) pos.line env=pure au):aE M A (mX (.Assign [.Attribute o attr pos'] value pos) env) Q E s:=by
 show aa (plainObj_exec_Assign_Attribute o attr pos' value pos hs)<|dF (bP h λv aC bf=>?_)
 rewrite [assign_Attribute]
 show aS (bP (cE bf) λov aL cn=>dF (bP (cE cn) λJ e_ i8=>I1 (bw i8)))
theorem aaO {test body orelse pos} (h:dQ M A (.whileLoop test body orelse env) (λr s'=>match r with| .ok f=>Q f s'| .error e=>sA M A env E e s') s):aE M A (mX (.While test body orelse pos) env) Q E s:=by
 rewrite [exec_While];show dF (EE h (by intro x;injection x))
theorem Py {target iter body orelse pos}
  (h:aE M A (bX iter env) (λx aC=>aE M A (pE x) (λit aL=>dQ M A (.forLoop target it body orelse env) (λr s'=>match r with| .ok f=>Q f s'| .error e=>sA M A env E e s') aL) E aC) E s)
  (hs:∀x,vz iter env x=pure x):aE M A (mX (.For target iter body orelse pos) env) Q E s:=by
 rewrite [exec_For]
 show dF (bP h λx aC bf=>?_);show aa (hs x)<|aS (bw (dF (bP (cE bf) λit aL cn=>EE cn (by intro x;injection x))))
theorem Qg (h:aE M A (xZ env x v) Q E s):aE M A (yd (.Name x pos) env v) Q E s:=by
 show dF (AI h)
theorem Ti (h:Q () s):aE M A (E4 [] xs) Q E s:=up (ahN h)
theorem IK (h:aE M A (t x) (λJ aC=>aE M A (E4 ts xs) Q E aC) E s):aE M A (E4 (t::ts) (x::xs)) Q E s:=
 aS (cE h)
theorem agU {elts k gF value pos} (h:aE M A (bX value env) (λv aC=>aE M A (yd (.Tuple elts k gF) env v) (λJ=>Q .next) E aC) E s)
  (hs:AS [.Tuple elts k gF] value pos.line env=pure au) (hw:yg [.Tuple elts k gF] value env=pure none):aE M A (mX (.Assign [.Tuple elts k gF] value pos) env) Q E s:=by
 rewrite [exec_Assign]
 show dF<|aa hs<|aS (bw ?_)
 exists bo ⋯;show bP h λv aC bf=>aa hw<|aS (bw ?_)
 show bP bf λJ J x=>bw x
theorem Yx {elts k gF value pos}
  (h:aE M A (bX value env) (λv aC=>aE M A (unpackItems v names.length none) (λitems aL=>aE M A (E4 (names.reverse.map λn=>AN env n) items.reverse) (λJ=>Q .next) E aL) E aC) E s)
  (hs:AS [.Tuple elts k gF] value pos.line env=pure au) (hw:yg [.Tuple elts k gF] value env=pure (ae names)):aE M A (mX (.Assign [.Tuple elts k gF] value pos) env) Q E s:=by
 rewrite [exec_Assign]
 show dF<|aa hs<|aS (bw ?_)
 exists bo ⋯;show bP h λv aC bf=>aa hw<|aS (bw ?_)
 show aS (up (mf (bP bf λitems aL cn=>bP cn λJ J x=>bw x)))
theorem XI (h:aE M A (passOn "try.no-clause-matches" e env) Q E s):aE M A (E5 e env []) Q E s:=h
theorem Mf
  (h:dQ M (A.mark (ae e)) (.handlers e [.ExceptHandler (ae t) none [] pos] env) (λr aC=>match r with
   | .ok .brk=>dQ M (A.mark (ae e)) (.handlers e [.ExceptHandler none name body pos] env) (λr aL=>match r with
     | .ok f=>(match name with
      |none=>Q f aL
      |some n=>aE M A (do AN env n .none;UA env n pos) (λJ bz=>Q f bz) E aL)
     | .error x=>sA M A env E x aL) aC
   | .ok _=>aE M A (E5 e env rest) Q E aC
   | .error x=>sA M A env E x aC) s) (zV:e≠Uu):aE M A (E5 e env (.ExceptHandler (ae t) name body pos::rest)) Q E s:=by
 rewrite [E5]
 have O4:=λx=>zV (bZ x);show aS (cE (EE (zG h λr aC bf=>?_) O4));cases r with
 |error x=>show bf
 |ok f=>
  induction f using vy with
  |brk=>
   show aS (bw ?_);show aS (cE (EE (zG bf λr aL cn=>?_) O4));cases r with
   |error x=>show cn
   |ok f=>
    induction name using eL with
    |none=>show bw cn
    |some n=>show aS (cE (cq cn (λJ bz d_=>bw d_) λJ J x=>x))
  |_=>
   show aS (bw ?_);show bf
end
section
variable {α β:Type} {prog:rU} {w:bQ} {A:eX} {E:aI->aU->Prop} {R:vo->aU->Prop} {s:aU} {env:eJ}
theorem aeL {e pos} (h:aE (bB prog w) A (bX e env) (λJ=>Q .next) E s) (hi:UB env=au) (hs:oi e none pos.line env=pure au):
  aE (bB prog w) A (mX (.Expr e pos) env) Q E s:=aa (exec_Expr env e pos hi hs)<|dF (bP h λv s' h'=>up (wpAny_dropValue h'))
theorem MI (h:aE (bB prog w) A (bX value env) (λo aC=>aE (bB prog w) A (AU o attr ai) Q E aC) E s)
  (he:bX (.Attribute value attr pos) env=(do
   let o <-bX value env
   me pos.atName
   let r <-oh [o] (AU o attr ai)
   ahO value o r
   pure r)):aE (bB prog w) A (bX (.Attribute value attr pos) env) Q E s:=aa he<|bP h λo aC bf=>dF (bP (cE bf) λr aL cn=>aS (up (wpAny_letTemporaryGo (bw cn))))
theorem Ç {body env} (h:aE (bB prog w) (A.deeper env) (j5 body env) (λf s'=>R (.ok (.ret (match f with| .ret v=>v|_=> .none))) s')
   (λe s'=>aE (bB prog w) (A.deeper env) (UC env e) (λJ gw=>R (.error e) gw) (λe' gw=>R (.error e') gw) s') s):dQ (bB prog w) A (.func body env) R s:=by
 show lR rfl<|(?_:aE _ (A.deeper env) (do point;match <-(j5 body env).onRaise (UC env) with| .ret v=>ret v|_=>ret .none) _ _ s)
 show aS (up (EY (bP (wZ h) λf s' h'=>?_)));induction f using vy <;> show bw h'
theorem agf (AL:A.depth < UD) (ho:s.heap.get? a=ae o)
  (lq:o.data= .func fd) (Ar:fd.scope.isCoroutine=au) (zo:fd.scope.isGenerator=au) (rD:fd.body= .stmts body) (xP:s.heap.CodeRec fd.code fd.qualname)
  (h:aE (bB prog w) A.in1 (bindArgs fd args) (λbinds aC=>aE (bB prog w) A.in1 (E6 fd.scope fd.globals fd.closure binds (fd.qualname++".<locals>.") (ae a) fd.code none fd.builtins)
    (λenv aL=>aL.heap.NoLimit/\dQ (bB prog w) A (.func body env) R aL) (λe s'=>R (.error e) s') aC) (λe s'=>R (.error e) s') s):dQ (bB prog w) A (.call (.ref a) args) R s:=by
 show lR rfl<|(?_:aE _ A.in1 (callAny (.ref a) args) _ _ s)
 show aS (up (rV ho ?_));show Ad xP λc oc vs tq hc hoc NR hq=>?_;simp only [lq,callFunction,Ar,zo,rD,hc];rw [hc] at h;show aS (up (ku hoc NR hq (aS (bw ?_))));show bP h λbinds aC bf=>bP bf λenv aL cn=>aS (up (wpAny_enterFrame cn.1 AL (bw (rW rfl cn.2))))
theorem agX (h:aE (bB prog w) A (j5 stmts env) (λf s'=>R (.ok f) s') (fF (bB prog w) A env λe s'=>R (.error e) s') s):dQ (bB prog w) A (.block stmts env) R s:=by
 show lR rfl<|(?_:aE _ _ (do return Kl (<-(j5 stmts env).onRaise (λx=>do lA x env;AO x))) _ _ s)
 show bP (sO h) λf s' h'=>bw h'
theorem č {test body orelse env} (I:ar->aU->Prop)
  (turn:∀n s,I n s->aE (bB prog w) A (pD test env (bX test env)) (λb aL=>
    if b then aE (bB prog w) A (j5 body env) (λf bz=>match f with
      | .next| .cont=>∃m,m < n/\I m bz
      | .brk=>R (.ok .next) bz
      | .ret v=>R (.ok (.ret v)) bz) (fF (bB prog w) A env λe s'=>R (.error e) s') aL
    else aE (bB prog w) A (j5 orelse env) (λf bz=>R (.ok f) bz) (fF (bB prog w) A env λe s'=>R (.error e) s') aL)
    (fF (bB prog w) A env λe s'=>R (.error e) s') s)
  (n:ar) (h:I n s):dQ (bB prog w) A (.whileLoop test body orelse env) R s:=by
 show HQ rfl rfl I (λn s hI=>?_) n h;show sO<|bP (turn n s hI) λb aL cn=>?_
 induction b using ez with
 |false=>
  show bP cn λf bz d_=>bw d_
 |true=>
  show bP cn λf bz d_=>?_;induction f using vy with
  |next=>show bw ⟨rfl,d_⟩
  |cont=>show bw ⟨rfl,d_⟩
  |brk=>show bw d_
  |ret v=>show bw d_
theorem agq (hq:c.quiet=ai) (hd:vn c=au) (I:ar->aU->Prop)
  (turn:∀n s,I n s->aE M (A.under c) (M.den c) (λfin s'=>match fin with| .done f=>R (.ok f) s'| .again c'=>(c'=c/\∃m,m < n/\I m s')\/(c'.quiet=ai/\dQ M A c' R s')) (λe s'=>R (.error e) s') s)
  (n:ar) (h:I n s):dQ M A c R s:=by
 induction n using Kj generalizing s with
 |ind n ih=>
  show lR hd (cq (turn n s h) (λfin s' hf=>?_) λJ J h'=>h');cases fin with
  |done f=>show hf
  |again c'=>
   rcases hf with ⟨rfl,m,hm,hI⟩|hf
   ·show ⟨hq,ih m hm hI⟩
   ·show hf
theorem OQ {target it body orelse env} (I:ar->aU->Prop)
  (turn:∀n s,I n s->aE (bB prog w) A (vC it) (λr aC=>match r with
   |none=>aE (bB prog w) A (j5 orelse env) (λf bz=>R (.ok f) bz) (fF (bB prog w) A env λe s'=>R (.error e) s') aC
   |some v=>aE (bB prog w) A (UE target it v) (λJ T6=>
     aE (bB prog w) A (yd target env v) (λJ aL=>aE (bB prog w) A (j5 body env) (λf bz=>match f with
      | .next| .cont=>∃m,m < n/\I m bz
      | .brk=>R (.ok .next) bz
      | .ret v=>R (.ok (.ret v)) bz) (fF (bB prog w) A env λe s'=>R (.error e) s') aL) (fF (bB prog w) A env λe s'=>R (.error e) s') T6) (fF (bB prog w) A env λe s'=>R (.error e) s') aC) (fF (bB prog w) A env λe s'=>R (.error e) s') s)
  (n:ar) (h:I n s):dQ (bB prog w) A (.forLoop target it body orelse env) R s:=by
 show agq rfl rfl I (λn s hI=>?_) n h;show sO<|dF (aS (wZ (cq (turn n s hI) (λr aC bf=>?_) λJ J h'=>up (EW h'))))
 induction r using eL with
 |none=>show bw (.inr ⟨rfl,agX bf⟩)
 |some v=>
  show bP bf λJ T6 aaT=>bP aaT λJ aL cn=>bP cn λf bz d_=>?_;induction f using vy with
  |next=>show bw (.inl ⟨rfl,d_⟩)
  |cont=>show bw (.inl ⟨rfl,d_⟩)
  |brk=>show bw d_
  |ret v=>show bw d_
theorem QD
  (h:aE (bB prog w) A (j5 body env) (λf aC=>match f with| .next=>aE (bB prog w) A (j5 orelse env) Q E aC|f=>Q f aC)
   (λe aC=>aE (bB prog w) A (lA e env) (λJ aL=>aE (bB prog w) A (vq e none) (λJ bz=>aE (bB prog w) A (E5 e env (h₀::hs)) Q E bz) E aL) E aC) s):aE (bB prog w) A (mX (.Try body (h₀::hs) orelse [] pos) env) Q E s:=by
 rewrite [arm_exec_Try]
 show dF<|aS (Ho (cq h (λf aC bf=>?_) λe aC bf=>?_))
 ·induction f using vy <;> first|show bf|show bw bf
 ·show bP bf λJ J cn=>aS cn
theorem TC
  (h:aE (bB prog w) A (bX t env) (λc aC=>aE (bB prog w) A (excMatches e c) (λb aL=>R (.ok (if b then .brk else .next)) aL) (fF (bB prog w) A env λx aL=>R (.error x) aL) aC)
   (fF (bB prog w) A env λx aC=>R (.error x) aC) s):dQ (bB prog w) A (.handlers e [.ExceptHandler (ae t) none [] pos] env) R s:=by
 show lR rfl<|(?_:aE _ A (do return Kl (<-(UG e env [.ExceptHandler (ae t) none [] pos]).onRaise (λx=>do lA x env;AO x))) _ _ s)
 show aS (sO ?_);show dF (bP h λc aC bf=>dF (bP bf λb aL cn=>bw (bw cn)))
theorem ahc
  (h:aE (bB prog w) A (vq e none) (λJ aC=>aE (bB prog w) A (j5 (ql::body) env) (λf aL=>R (.ok f) aL) (fF (bB prog w) A env λx aL=>R (.error x) aL) aC) (fF (bB prog w) A env λx aC=>R (.error x) aC) s):
  dQ (bB prog w) A (.handlers e [.ExceptHandler none none (ql::body) pos] env) R s:=by
 show lR rfl<|(?_:aE _ A (do return Kl (<-(UG e env [.ExceptHandler none none (ql::body) pos]).onRaise (λx=>do lA x env;AO x))) _ _ s)
 show aS (sO ?_);show dF (bP h λJ aC bf=>cq bf (λf aL cn=>bw cn) λJ J x=>x)
theorem acL
  (h:aE (bB prog w) A (vq e none) (λJ aC=>aE (bB prog w) A (AN env n e) (λJ aL=>aE (bB prog w) A (j5 body env) (λf bz=>R (.ok f) bz)
   (λx bz=>aE (bB prog w) A (lA x env) (λJ e_=>aE (bB prog w) A (oh [x] ((do AN env n .none;UA env n pos:cC gv).onRaise λJ=>vq x none)) (λJ kh=>aE (bB prog w) A (passOn "try.except-as" x env:cC Flow) (λf tc=>R (.ok f) tc) (fF (bB prog w) A env λx aL=>R (.error x) aL) kh) (fF (bB prog w) A env λx aL=>R (.error x) aL) e_) (fF (bB prog w) A env λx aL=>R (.error x) aL) bz) aL)
   (fF (bB prog w) A env λx aL=>R (.error x) aL) aC) (fF (bB prog w) A env λx aC=>R (.error x) aC) s):
  dQ (bB prog w) A (.handlers e [.ExceptHandler none (ae n) body pos] env) R s:=by
 show lR rfl<|(?_:aE _ A (do return Kl (<-(UG e env [.ExceptHandler none (ae n) body pos]).onRaise (λx=>do lA x env;AO x))) _ _ s)
 show aS (sO ?_);show dF (bP h λJ aC bf=>bP bf λJ aL cn=>aS (Ho (cq cn (λf bz d_=>bw (bw d_)) λx bz d_=>?_)));show bP d_ λJ e_ i8=>bP i8 λJ kh js=>cq js (λf tc Xh=>bw Xh) λJ J z=>z
end
end
section
section
variable {M:qC} {A:eX} {E:aI->aU->Prop} {s:aU} {env:eJ}
def J6 (M:qC) (A:eX) (E:aI->aU->Prop) (use:aR (aI->cC gv)) (Q:aI->aU->Prop) (acc:aI) (C:aF) (r:vo) (s':aU):Prop:=
 match r,use with
 | .ok _,none=>∃m,s'.heap.Ns C m/\∀h',iZ C s'.heap h'->Q acc {s' with heap:=h'}
 | .ok _,ae u=>aE M A (u acc) (λJ gw=>∃m,gw.heap.Ns C m/\∀h',iZ C gw.heap h'->Q .none {gw with heap:=h'}) E s'
 | .error x,_=>∃m,s'.heap.Ns C m/\∀h',iZ C s'.heap h'->∀cenv:eJ,cenv.locals=C->aE M A (passOn "comprehension.variables-let-go" x cenv:cC aI) (λJ J=>dV) E {s' with heap:=h'}
theorem Zh [vp c] (h:aE M A (k ()) Q E s):aE M A (if c then (me pos >>=k) else k ()) Q E s:=by
 split
 ·show dF h
 ·show h
theorem ade
  (pV:clausesOf e=g::gs) (hs:∀x,vz g.iter env x=pure x) (XZ:closureFor scope env=pure cl)
  (Kd:scope.kind= .function) (GO:∀x∈scope.names,x.2= .local->scope.names.lookup x.1=ae .local)
  (h:aE M A first (λx aC=>aE M A (pE x) (λit aL=>aE M A Ka (λacc bz=>
   aE M A (E6 scope env.globals cl [] env.qual none .none (ae env)) (λcenv e_=>
    dQ M A (.compStart e 0 it acc {cenv with scope:=E7 scope env}) (J6 M A E use Q acc cenv.locals) e_) E bz) E aL) E aC) E s):aE M A (UH e scope env pos Ka au first use) Q E s:=by
 unfold UH;show aa XZ<|aa pV<|bP h λx aC bf=>dF<|aS (xB (hs x) (bw (bP (cE bf) λit aL cn=>Zh (bP cn λacc bz d_=>aS (bw (bP d_ λcenv e_ i8=>?_))))))
 dsimp only
 have hv:∀x∈(scope.names.filter λx=>(x.2== .local||x.2== .cell) && x.1 !=(".0":ak)).reverse,x.2= .local->
   qE {cenv with scope:=E7 scope env} x.1=ae .local:=λx hx hl=>lookup_relabel_local (GO x (List.mem_filter.mp (List.mem_reverse.mp hx)).1 hl)
 have Ñ:∀x∈(scope.names.filter λx=>(x.2== .local||x.2== .cell) && x.1 !=(".0":ak)).reverse.drop 1++(scope.names.filter λx=>(x.2== .local||x.2== .cell) && x.1 !=(".0":ak)).reverse.take 1,
   x.2= .local->qE {cenv with scope:=E7 scope env} x.1=ae .local:=λx hx hl=>by
  show (List.mem_append.mp hx).elim (λh1=>?_) λh1=>?_
  ·show hv x (List.mem_of_mem_drop h1) hl
  ·show hv x (List.mem_of_mem_take h1) hl
 show cE (aS (Ho (cE (PH (zG i8 λr s' hr=>?_) (by intro x;injection x)))));cases r with
 |ok f=>
  induction use using eL with
  |none=>
   show aA hr<|λm hn hr=>aS (cE (up (UI Kd _ s' m hv hn λh' m' J l8=>bw (hr h' l8))))
  |some u=>
   show aS (up (mf (bP (cE hr) λJ gw u5=>?_)));show aA u5<|λm hn u5=>aS (up (UI Kd _ gw m Ñ hn λh' m' J l8=>bw (u5 h' l8)))
 |error x=>
  have u5:∃m,s'.heap.Ns cenv.locals m/\∀h',iZ cenv.locals s'.heap h'->∀TH:eJ,TH.locals=cenv.locals->aE M A (passOn "comprehension.variables-let-go" x TH:cC aI) (λJ J=>dV) E {s' with heap:=h'}:=by induction use using eL <;> show hr
  show aA u5 λm hn hr=>aS (cE (up (UI Kd _ s' m hv hn λh' m' J l8=>cq (hr h' l8 _ rfl) (λJ J f=>f.elim) λJ J y=>y)))
theorem xw (L:mW M s.heap m r) (h:aE M A (f r) Q E s):aE M A (m >>=f) Q E s:=aS (up (L.here h))
end
section
variable {prog:rU} {w:bQ} {A:eX} {R:vo->aU->Prop}
theorem Qt
  (h0:dQ (bB prog w) A (.compLoop (.ListComp elt (⟨target,iter,ifs,0⟩::rest) scope pos) 0 it acc env) R s)
  (h:aE (bB prog w) A (pE it) (λrI s'=>dQ (bB prog w) A (.compLoop (.ListComp elt (⟨target,iter,ifs,0⟩::rest) scope pos) 0 rI acc env) R s') (fF (bB prog w) A env λx s'=>R (.error x) s') s):
  dQ (bB prog w) A (.compStart (.ListComp elt (⟨target,iter,ifs,0⟩::rest) scope pos) 0 it acc env) R s:=by
 show lR rfl<|(?_:aE _ _ ((compStart (.ListComp elt (⟨target,iter,ifs,0⟩::rest) scope pos) 0 it acc env).onRaise (λx=>do lA x env;me ahP)) _ _ s)
 show S_<|aS (up (Km (ri (λJ=>?_) λJ=>?_)))
 ·first
   |show aS (bw (bw (rW rfl h0)))
   |show bw (rW rfl h0)
 ·show aS (up (mf ?_));show dF (bP h λrI s' h'=>bw (rW rfl h'))
theorem aan
  (h0:dQ (bB prog w) A (.compLoop (.DictComp k v (⟨target,iter,ifs,0⟩::rest) scope pos) 0 it acc env) R s)
  (h:aE (bB prog w) A (pE it) (λrI s'=>dQ (bB prog w) A (.compLoop (.DictComp k v (⟨target,iter,ifs,0⟩::rest) scope pos) 0 rI acc env) R s') (fF (bB prog w) A env λx s'=>R (.error x) s') s):
  dQ (bB prog w) A (.compStart (.DictComp k v (⟨target,iter,ifs,0⟩::rest) scope pos) 0 it acc env) R s:=by
 show lR rfl<|(?_:aE _ _ ((compStart (.DictComp k v (⟨target,iter,ifs,0⟩::rest) scope pos) 0 it acc env).onRaise (λx=>do lA x env;me ahP)) _ _ s)
 show S_<|aS (up (Km (ri (λJ=>?_) λJ=>?_)))
 ·first
   |show aS (bw (bw (rW rfl h0)))
   |show bw (rW rfl h0)
 ·show aS (up (mf ?_));show dF (bP h λrI s' h'=>bw (rW rfl h'))
theorem BG {id:eT} (hd:uV.contains id=au) (hb:rX pF id=ae b)
  (h:aE (bB prog w) (A.under (.builtin id args)) (b args) (λfin s'=>match fin with| .done f=>R (.ok f) s'| .again c'=>c'.quiet=ai/\dQ (bB prog w) A c' R s') (λe s'=>R (.error e) s') s):
  dQ (bB prog w) A (.builtin id args) R s:=by
 show lR hd<|(?_:aE _ _ (match rX pF id with|some b=>b args|none=>Uv ((withoutEnding? id "#data").getD id)) _ _ s)
 show aa hb<|h
theorem Iz {id:eT} (hq:(Code.builtin id args).quiet=ai)
  (h:aE (bB prog w) A.in1 (qF id args) (λJ aC=>dQ (bB prog w) A (.builtin id args) R aC) (λe s'=>R (.error e) s') s):dQ (bB prog w) A (.call (.builtin id) args) R s:=by
 show lR rfl<|(?_:aE _ A.in1 (do qF id args;Kn (.builtin id args)) _ _ s)
 show bP h λJ aC bf=>bw (rW hq bf)
theorem agC {os:pG} (Y:Makes (bB prog w) h C) (hi:mW (bB prog w) h (tL (.ref C) "__init__") (ae (.ref fI)))
  (hb:∀self,mW (bB prog w) h (bindSpecial (.ref fI) self) (.ref fI,[self]))
  (hq:dQ (bB prog w) (A.under (.builtin "type.__call__" ⟨.ref C::rest,[]⟩)) (.call (.ref fI) ⟨.ref (h.objs.size+1)::rest,[]⟩) (InitBack (h.objs.size+1) R) ⟨(h.push pH).push (oj C h.objs.size),g,d,t,os⟩):
  dQ (bB prog w) A (.call (.ref C) ⟨rest,[]⟩) R ⟨h,g,d,t,os⟩:=by
 have Y':=Y;rcases Y with ⟨⟨oc,od,cd,sl,hC,e1,e2,e4⟩,made,base,self,top,gN,typ⟩
 show lR rfl<|aS (up (rV hC ?_))
 show xw gN ?_;dsimp only
 rewrite [tc_bind]
 show aS (bw (aS (bw ?_)));show bw (rW rfl ?_);show Iz (AW _ (by decide+kernel)) (up (check_slot tc_kind tc_split typ (tc_args _ _ _) ?_));show BG (by decide+kernel) ahQ ?_;have hm:mW (bB prog w) h (mroOf (.ref C)) cd.mro:=((ahR hC).andThen .now).andThen .now;show xw hm<|aa e4<|xw made<|aS (bw ?_)
 show aS (cE (up (AY (new_K Y' hi (.inl rfl) ?_))));have k:∀b o,h.get? b=ae o->((h.push pH).push (oj C h.objs.size)).get? b=ae o:=λb o e=>fV _ (fV _ e);have hx:((h.push pH).push (oj C h.objs.size)).get? (h.objs.size+1)=ae (oj C h.objs.size):=by heap_get
 have t1:mW (bB prog w) ((h.push pH).push (oj C h.objs.size)) (tM (.ref (h.objs.size+1))) (.ref C):=(ahR hx).andThen .now;have s1:=self.keeps k;have i1:=hi.keeps k;have b1:=(hb (.ref (h.objs.size+1))).keeps k;have Ze:mW (bB prog w) ((h.push pH).push (oj C h.objs.size)) (UJ (.ref (h.objs.size+1)) (.ref C)) ai:=t1.andThen s1;show xw Ze<|aa (bo ⋯) ?_
 show bP (P:=λr s'=>r=ae .none/\R (.ok (.ret (.ref (h.objs.size+1)))) s') (cE ?_) λr s' x'=>aM x' λe z=>?_
 ·unfold callSpecial?;have sp:mW (bB prog w) ((h.push pH).push (oj C h.objs.size)) (specialOf (.ref (h.objs.size+1)) "__init__") (ae (.ref fI)):=t1.andThen i1;show xw sp<|cE (xw b1 ?_)
  show aS (wM (zG hq λr s' z=>?_));rcases r with e|(v|_|_|_) <;> first|show z|show z.elim|skip
  show aM z ?_;clear z;intro bC z;subst bC;show bw ⟨rfl,z⟩
 ·subst e;show bw z
end
end
section
theorem wF (ho:s.heap.get? a=ae o) (hd:o.data= .seq items n) (h:a_ M A (f (ae items)) Q E s):a_ M A (E8 (.ref a) >>=f) Q E s:=aJ (E9 ho hd h)
theorem Ek (ho:s.heap.get? a=ae o) (hd:o.data= .fields vs) (hi:vs[i]?=ae x) (h:a_ M A (f x) Q E s):a_ M A (tJ (.ref a) i >>=f) Q E s:=aJ (ku ho hd hi h)
theorem Zs (h:a_ M A (f ()) Q E s):a_ M A (rule r >>=f) Q E s:=aJ (mf h)
theorem Kf [vp c] (hc:¬c) (h:a_ M A y Q E s):a_ M A (if c then x else y) Q E s:=aa (bo hc)<|h
inductive AV where
 |none
 |bool (b:aN)
 |int (i:aq)
 |str (s:ak)
 |bytes (b:ah b_)
 |tup (l:ah AV)
 |lst (l:ah AV)
 |obj (C:aF) (ks:ah ak) (vs:ah AV)
 |ref (a:aF)
 |ty (n:eT)
 |bi (n:eT)
inductive DK where
 |s (x:ak)
 |i (n:aq)
 deriving ji
inductive cW where
 |list (l:ah AV)
 |dict (es:ah (DK×AV))
 |inst (C dx:aF) (ks:ah ak) (vs:ah AV)
 |barr (b:ah b_)
 |priv
 |otup (l:ah AV)
abbrev aj:=aF->aR cW
noncomputable def dT (o:eU):aN:=match o.data with| .cell _=>ai|_=>au
noncomputable def c_ (o:eU):aN:=match o.data with| .fields _=>ai| .cell _=>ai|_=>au
def kj:ah ak->ah kz->Prop
 |[],[]=>cL
 |k::ks,e::es=>(∃t,e.key= .str k t)/\kj ks es
 |_,_=>dV
mutual
def VR (P:aF->Prop) (h:bF):AV->aI->Prop
 | .none,v=>v= .none
 | .bool b,v=>v= .bool b
 | .int i,v=>∃t,v= .int i t
 | .str x,v=>∃t,v= .str x t
 | .bytes b,v=>∃t,v= .bytes b.toArray t
 | .tup l,v=>∃a n xs,v= .ref a/\P a/\h.get? a=ae ⟨.type "tuple",none,.seq xs n,#[]⟩/\aZ P h l xs.toList
 | .lst l,v=>∃a n xs,v= .ref a/\P a/\h.get? a=ae ⟨.type "list",none,.seq xs n,#[]⟩/\aZ P h l xs.toList
 | .obj C ks vs,v=>∃a dx o es n,v= .ref a/\P a/\P dx/\h.get? a=ae o/\o.cls= .ref C/\o.dict=ae dx/\UK o=ai/\c_ o=au/\
   h.get? dx=ae ⟨.type "dict",none,.dict es n,#[]⟩/\kj ks es.toList/\aZ P h vs (es.toList.map (λx=>x.val))
 | .ref a,v=>v= .ref a
 | .ty n,v=>v= .type n
 | .bi n,v=>v= .builtin n
def aZ (P:aF->Prop) (h:bF):ah AV->ah aI->Prop
 |[],vs=>vs=[]
 |a::l,vs=>∃v r,vs=v::r/\VR P h a v/\aZ P h l r
end
noncomputable def cO (o:eU):aN:=o.cls== .type "frame"
noncomputable def yL:ar:=762
noncomputable def kJ (b:aF) (o:eU):aN:=cO o && ie yL b
theorem BV (h:cO o=au):kJ b o=au:=by unfold kJ;exists h;rfl
theorem ab6 (h:cO o=ai) (k:yL<=b):kJ b o=ai:=Bool.and_eq_true_iff.mpr ⟨h,Nat.ble_eq.mpr k⟩
@[elab_as_elim] theorem V.dW {C:aI->Prop} (x:VR P h (.int i) v) (k:∀t,C (.int i t)):C v:=bj x λt e=>aa e (k t)
@[elab_as_elim] theorem V.gq {C:aI->Prop} (x:VR P h (.str i) v) (k:∀t,C (.str i t)):C v:=bj x λt e=>aa e (k t)
@[elab_as_elim] theorem V.oW {C:aI->Prop} (x:VR P h (.bytes i) v) (k:∀t,C (.bytes i.toArray t)):C v:=bj x λt e=>aa e (k t)
@[elab_as_elim] theorem V.lX {C:aI->Prop} (x:VR P h (.tup l) v) (k:∀a n xs,P a->h.get? a=ae ⟨.type "tuple",none,.seq xs n,#[]⟩->aZ P h l xs.toList->C (.ref a)):C v:=gU x λa n xs e p g r=>aa e (k a n xs p g r)
@[elab_as_elim] theorem V.Ed {C:aI->Prop} (x:VR P h (.lst l) v) (k:∀a n xs,P a->h.get? a=ae ⟨.type "list",none,.seq xs n,#[]⟩->aZ P h l xs.toList->C (.ref a)):C v:=gU x λa n xs e p g r=>aa e (k a n xs p g r)
@[elab_as_elim] theorem aZ.BI {C:ah aI->Prop} (x:aZ P h [] vs) (k:C []):C vs:=aa x k
@[elab_as_elim] theorem aZ.ui {C:ah aI->Prop} (x:aZ P h (a::l) vs) (k:∀v r,VR P h a v->aZ P h l r->C (v::r)):C vs:=cQ x λv r e y z=>aa e (k v r y z)
theorem aZ.nil:aZ P h [] []:=rfl
theorem aZ.cons (x:VR P h a v) (y:aZ P h l vs):aZ P h (a::l) (v::vs):=cI v vs rfl x y
theorem aZ.ro (x:aZ P h (a::l) (v::vs)):VR P h a v/\aZ P h l vs:=cQ x λu r e y z=>⟨(tN e).1▸y,(tN e).2▸z⟩
@[elab_as_elim] theorem aZ.ind {C:ah AV->ah aI->Prop} (x:aZ P h l vs) (n:C [] []) (k:∀a l v r,VR P h a v->aZ P h l r->C l r->C (a::l) (v::r)):C l vs:=by
 induction l generalizing vs with
 |nil=>show aZ.BI x n
 |cons a l ih=>show aZ.ui x λv r y z=>k a l v r y z (ih z)
def Kp (P:aF->Prop) (h:bF) (P':aF->Prop) (h':bF):Prop:=∀b o,P b->h.get? b=ae o->cO o=au->c_ o=au->P' b/\h'.get? b=ae o
theorem VR.mono (k:Kp P h P' h') (a:AV):∀v,VR P h a v->VR P' h' a v:=by
 show AV.rec (motive_2:=λl=>∀vs,aZ P h l vs->aZ P' h' l vs) (λ_ x=>x) (λ_ _ x=>x) (λ_ _ x=>x) (λ_ _ x=>x) (λ_ _ x=>x) (λl ih v x=>?_) (λl ih v x=>?_) (λC ks vs ih v x=>?_) (λ_ _ x=>x) (λ_ _ x=>x) (λ_ _ x=>x) (λ_ x=>x) (λa l ih ih2 vs x=>aZ.ui x λv r y z=> .cons (ih v y) (ih2 r z)) a
 ·show V.lX x λa n xs p g r=>i5 a n xs rfl (k a _ p g rfl rfl).1 (k a _ p g rfl rfl).2 (ih _ r)
 ·show V.Ed x λa n xs p g r=>i5 a n xs rfl (k a _ p g rfl rfl).1 (k a _ p g rfl rfl).2 (ih _ r)
 ·show Nz x λa dx o es n e p q g c d nc nf gd kr r=>?_;have fo:=bD (λx=>x== .type "frame") c;show (Sz a dx o es n e ((k a _ p g fo nf).1) ((k dx _ q gd rfl rfl).1) ((k a _ p g fo nf).2) c d nc nf ((k dx _ q gd rfl rfl).2) kr (ih _ r))
theorem aZ.mono (k:Kp P h P' h') (l:ah AV) (vs:ah aI) (x:aZ P h l vs):aZ P' h' l vs:=aZ.ind x .nil λa _ v _ y _ ih=> .cons (VR.mono k a v y) ih
theorem aZ.length (x:aZ P h l vs):vs.length=l.length:=aZ.ind x rfl λ_ _ _ _ _ _ ih=>bD Nat.succ ih
theorem aZ.get' (x:aZ P h l vs):∀i:ar,l[i]?=ae a->∃v,vs[i]?=ae v/\VR P h a v:=by
 show aZ.ind x (λJ e=>f5 e) λb l v r y z ih i e=>?_;induction i using AZ with
 |zero=>show ao v rfl (bZ e▸y)
 |succ i=>show ih i e
theorem aZ.get {i:ar} (x:aZ P h l vs) (e:l[i]?=ae a):∃v,vs[i]?=ae v/\VR P h a v:=x.get' i e
theorem aZ.append (x:aZ P h l vs) (y:aZ P h m us):aZ P h (l++m) (vs++us):=aZ.ind x y λ_ _ _ _ a _ ih=> .cons a ih
theorem aZ.take (n:ar) (x:aZ P h l vs):aZ P h (l.take n) (vs.take n):=by
 induction n generalizing l vs with
 |zero=>show .nil
 |succ n ih=>show aZ.ind x .nil λ_ _ _ _ a z _=> .cons a (ih z)
theorem aZ.drop (n:ar) (x:aZ P h l vs):aZ P h (l.drop n) (vs.drop n):=by
 induction n generalizing l vs with
 |zero=>show x
 |succ n ih=>show aZ.ind x .nil λ_ _ _ _ a z _=>ih z
noncomputable def isNone:AV->aN
 | .none=>ai
 |_=>au
@[elab_as_elim] theorem V.cs {C:AV->aI->Prop} (y:VR P h a v) (h1:C .none .none) (h2:∀b,C (.bool b) (.bool b)) (h3:∀i t,C (.int i) (.int i t)) (h4:∀x t,C (.str x) (.str x t)) (h5:∀b t,C (.bytes b) (.bytes b.toArray t))
  (h6:∀a x,isNone a=au->C a (.ref x)) (h7:∀n,C (.ty n) (.type n)) (h8:∀n,C (.bi n) (.builtin n)):C a v:=by
 induction a using AV.casesOn with
 |none=>show aa y h1
 |bool b=>show aa y (h2 b)
 |int i=>show V.dW y (h3 i)
 |str i=>show V.gq y (h4 i)
 |bytes i=>show V.oW y (h5 i)
 |tup l=>show V.lX y λa J J J J J=>h6 _ a rfl
 |lst l=>show V.Ed y λa J J J J J=>h6 _ a rfl
 |obj=>show ZY y λa J J J J e J=>aa e (h6 _ a rfl)
 |ref x=>show aa y (h6 _ x rfl)
 |ty n=>show aa y (h7 n)
 |bi n=>show aa y (h8 n)
def mc (H:aj) (b:aF):Prop:=H b≠none\/∃a C ks vs,H a=ae (.inst C b ks vs)
abbrev Fz (H:aj) (b:aF):Prop:=¬mc H b
abbrev V (H:aj) (h:bF):AV->aI->Prop:=VR (Fz H) h
abbrev Vs (H:aj) (h:bF):ah AV->ah aI->Prop:=aZ (Fz H) h
def ME (P:kV):DK->kz->Prop
 | .s x,e=>(∃t,e.key= .str x t)/\e.hash=Ko P x
 | .i n,e=>(∃t,e.key= .int n t)/\e.hash=hashInt n
def BZ (P:kV):ah DK->ah kz->Prop
 |[],[]=>cL
 |k::ks,e::es=>ME P k e/\BZ P ks es
 |_,_=>dV
def OR (P:kV) (H:aj) (h:bF) (a:aF):cW->Prop
 | .list l=>∃xs n,h.get? a=ae ⟨.type "list",none,.seq xs n,#[]⟩/\Vs H h l xs.toList
 | .dict es=>∃ds n,h.get? a=ae ⟨.type "dict",none,.dict ds n,#[]⟩/\BZ P (es.map (λx=>x.1)) ds.toList/\Vs H h (es.map (λx=>x.2)) (ds.toList.map (λx=>x.val))
 | .inst C dx ks vs=>∃o es n,h.get? a=ae o/\o.cls= .ref C/\o.dict=ae dx/\UK o=ai/\c_ o=au/\h.get? dx=ae ⟨.type "dict",none,.dict es n,#[]⟩/\kj ks es.toList/\Vs H h vs (es.toList.map (λx=>x.val))
 | .barr b=>h.get? a=ae ⟨.type "bytearray",none,.bytearray b.toArray 0,#[]⟩
 | .priv=>∃o,h.get? a=ae o/\cO o=au/\c_ o=au
 | .otup l=>∃xs n,h.get? a=ae ⟨.type "tuple",none,.seq xs n,#[]⟩/\Vs H h l xs.toList
inductive xY (K:iI) (P:kV) (H:aj) (h:bF):Prop
 |mk (st:K.In h) (kl:∀a o,K.lookup a=ae o->cO o=au/\dT o=au) (low:∀a o,H a=ae o->K.lookup a=none) (akn:∀a C dx ks vs,H a=ae (.inst C dx ks vs)->K.lookup dx=none/\H dx=none) (dx1:∀a C dx ks vs b C' jZ dO,H a=ae (.inst C dx ks vs)->H b=ae (.inst C' dx jZ dO)->a=b) (at_:∀a o,H a=ae o->OR P H h a o)
end
section
set_option genInjectivity false in
structure Cx where
 prog:rU
 w:bQ
 K:iI
 lim:∀h,K.In h->h.NoLimit
 big:∀h,K.In h->yL<=h.objs.size
 qt:aN
noncomputable abbrev Cx.M (c:Cx):qC:=bB c.prog c.w
abbrev cN (c:Cx) (H:aj) (h:bF):Prop:=xY c.K c.w.params H h
def jq (d:Data):Prop:=∃es n,d= .dict es n
def St (H:aj) (b:aF):Prop:=Fz H b\/H b=ae .priv
def fR (Ex:aF->Prop) (b:aF) (o:eU) (h':bF):Prop:=∃o',h'.get? b=ae o'/\o'.cls=o.cls/\(jq o.data->jq o'.data)/\(¬Ex b->o'.data=o.data/\(kJ b o=au->o'=o))
theorem fR.el {G:Prop} (x:fR Ex b o h') (k:∀o',h'.get? b=ae o'->o'.cls=o.cls->(jq o.data->jq o'.data)->(¬Ex b->o'.data=o.data/\(kJ b o=au->o'=o))->G):G:=eO x k
theorem fR.mk (o':eU) (g:h'.get? b=ae o') (c:o'.cls=o.cls) (d:jq o.data->jq o'.data) (k:¬Ex b->o'.data=o.data/\(kJ b o=au->o'=o)):fR Ex b o h':=i_ o' g c d k
theorem fR.more (x:fR Ex b o h') (k:Ex b->Ex' b):fR Ex' b o h':=x.el λo1 e1 c1 d1 k1=> .mk o1 e1 c1 d1 λn=>k1 λq=>n (k q)
theorem fR.same (e:h'.get? b=ae o):fR Ex b o h':= .mk o e rfl id λJ=>⟨rfl,λJ=>rfl⟩
def KP (Ex:aF->Prop) (H:aj) (h:bF) (H':aj) (h':bF):Prop:=
 ∀b o,h.get? b=ae o->(Fz H b->Fz H' b)/\(H b=ae .priv->H' b=ae .priv)/\(St H b->fR Ex b o h')
abbrev bL:aF->Prop:=λJ=>dV
theorem KP.st (x:KP Ex H h H' h') (e:h.get? b=ae o) (f:St H b):St H' b:=f.imp (x b o e).1 (x b o e).2.1
theorem KP.refl:KP Ex H h H h:=λb o e=>(aP id id (λf=>(fR.same e)))
theorem qM (e:o'.cls=o.cls):cO o'=cO o:=by unfold cO;exists e;rfl
theorem BH (e:o'.cls=o.cls):kJ b o'=kJ b o:=by unfold kJ;exists qM e;rfl
theorem fR.trans (x:fR Ex b o bf) (k:∀o1,bf.get? b=ae o1->fR Ex b o1 cn):fR Ex b o cn:=x.el λo1 e1 c1 d1 k1=>(k o1 e1).el λo2 e2 c2 d2 k2=> .mk o2 e2 (c2.trans c1) (λq=>d2 (d1 q)) λn=>aM (k1 n) λa1 a2=>aM (k2 n) λb1 b2=>⟨b1.trans a1,λq=>(b2 ((BH c1).trans q)).trans (a2 q)⟩
theorem KP.trans (x:KP Ex H h aw bf) (y:KP Ex aw bf aG cn):KP Ex H h aG cn:=λb o e=>aP (λf=>((x b o e).2.2 (.inl f)).el λo1 e1 J J J=>(y b _ e1).1 ((x b o e).1 f)) (λf=>((x b o e).2.2 (.inr f)).el λo1 e1 J J J=>(y b _ e1).2.1 ((x b o e).2.1 f)) λf=>((x b o e).2.2 f).trans λo1 e1=>(y b o1 e1).2.2 (x.st e f)
theorem KP.fresh (x:KP Ex H h H' h') (k:∀b o,h.get? b=ae o->Ex b->Ex' b):KP Ex' H h H' h':=λb o e=>aP (x b o e).1 (x b o e).2.1 λf=>((x b o e).2.2 f).more (k b o e)
theorem KP.more (x:KP Ex H h H' h') (k:∀b,Ex b->Ex' b):KP Ex' H h H' h':=x.fresh λb J J=>k b
theorem KP.get (x:KP Ex H h H' h') (e:h.get? b=ae o) (f:Fz H b) (n:¬Ex b) (q:cO o=au):Fz H' b/\h'.get? b=ae o:=((x b o e).2.2 (.inl f)).el λo1 e1 c1 d1 k1=>⟨(x b o e).1 f,(k1 n).2 (BV q)▸e1⟩
theorem V.keep (x:V H h a v) (k:KP bL H h H' h'):V H' h' a v:=
 VR.mono (λb o f e q J=>k.get e f id q) a v x
theorem Vs.keep (x:Vs H h l vs) (k:KP bL H h H' h'):Vs H' h' l vs:=
 aZ.mono (λb o f e q J=>k.get e f id q) l vs x
theorem OR.ex (x:OR P H h a o):∃ob,h.get? a=ae ob/\cO ob=au:=by
 induction o using cW.casesOn with
 |list l=>show d8 x λxs n e J=>ao _ e rfl
 |dict es=>show cQ x λxs n e J J=>ao _ e rfl
 |barr l=>show ao _ x rfl
 |priv=>show cR x λo g f J=>ao o g f
 |otup l=>show d8 x λxs n e J=>ao _ e rfl
 |inst C dx ks vs=>show fM x λo es n e c1 J=>ao o e (bD (λx=>x== .type "frame") c1)
theorem xY.WY (R:cN c H h) (o:mc H b):∃ob,h.get? b=ae ob/\cO ob=au:=by
 show o.elim (λo=>?_) λo=>Cq o λa C ks vs e=>TV (R.6 a _ e) λo es n J J J J J e J=>ao _ e rfl;cases q:H b with
 |none=>show cy q o
 |some x=>show (R.6 b x q).ex
theorem xY.jR (R:cN c H h) (e:h.get? b=none):Fz H b:=λq=>by show aA (R.WY q) λo g J=>?_;injection (e).symm.trans g
theorem xY.nq (R:cN c H h) (e:h.get? b=none):H b=none:=by
 cases q:H b with
 |none=>rfl
 |some x=>show cy (Or.inl (by exists q;simp)) (R.jR e)
theorem n_ {K:iI} (X:K.In h) (e:h.get? b=none):K.lookup b=none:=by
 cases q:K.lookup b with
 |none=>rfl
 |some o=>injection (X b o q).symm.trans e
theorem mP {h:bF} (e:h.get? b=ae o) (n:h.get? a=none):b≠a:=λq=>by rw [q,n] at e;injection e
theorem fv (h:bF):h.get? h.objs.size=none:=yh (eY _)
theorem OR.mono (x:OR P H h a o) (k:∀b ob,h.get? b=ae ob->cO ob=au->c_ ob=au->(Fz H b->Fz H' b)/\((Fz H b\/b=a\/∃C ks vs,o= .inst C b ks vs)->h'.get? b=ae ob)):OR P H' h' a o:=by
 have kv:∀b ob,Fz H b->h.get? b=ae ob->cO ob=au->c_ ob=au->Fz H' b/\h'.get? b=ae ob:=λb ob f e q z=>⟨(k b ob e q z).1 f,(k b ob e q z).2 (.inl f)⟩;induction o using cW.casesOn with
 |list l=>show d8 x λxs n e r=>?_;show (ew xs n ((k a _ e rfl rfl).2 (.inr (.inl rfl))) (aZ.mono kv _ _ r))
 |dict es=>show cQ x λxs n e d r=>?_;show (cI xs n ((k a _ e rfl rfl).2 (.inr (.inl rfl))) d (aZ.mono kv _ _ r))
 |barr b=>show (k a _ x rfl rfl).2 (.inr (.inl rfl))
 |priv=>show cR x λo g f fl=>?_;show (bV o ((k a _ g f fl).2 (.inr (.inl rfl))) f fl)
 |otup l=>show d8 x λxs n e r=>?_;show (ew xs n ((k a _ e rfl rfl).2 (.inr (.inl rfl))) (aZ.mono kv _ _ r))
 |inst C dx ks vs=>
  show Ak x λo es n e c d nc nf ed kr r=>?_;have fo:cO o=au:=by unfold cO;exists c;rfl
  show (Jh o es n ((k a _ e fo nf).2 (.inr (.inl rfl))) c d nc nf ((k dx _ ed rfl rfl).2 (.inr (.inr (wy C ks vs rfl)))) kr (aZ.mono kv _ _ r))
theorem xY.keep (R:cN c H h) (k:∀b o,h.get? b=ae o->cO o=au->(c_ o=au\/(c.K.lookup b).isSome=ai)->h'.get? b=ae o):cN c H h':=
 ⟨λa o e=>k a o (R.1 a o e) (R.2 a o e).1 (.inr (by exists e;rfl)),R.2,R.3,R.4,R.5,λa o e=>(R.6 a o e).mono λb ob g q z=>⟨id,λJ=>k b ob g q (.inl z)⟩⟩
inductive Sub (H' H:aj):Prop
 |mk (g:∀a o,H' a=ae o->H a=ae o) (pr:∀a,H a=ae .priv->H' a=ae .priv)
theorem Sub.own (x:Sub H' H) (o:mc H' b):mc H b:=by
 rcases o with o|⟨a,C,ks,vs,e⟩
 ·cases q:H' b with
  |none=>show cy q o
  |some y=>show .inl (by exists x.1 b y q;simp)
 ·show .inr (mK a C ks vs (x.1 _ _ e))
theorem Sub.fz (x:Sub H' H) (o:Fz H b):Fz H' b:=λq=>o (x.own q)
theorem Sub.refl (H:aj):Sub H H:=⟨λJ J e=>e,λJ e=>e⟩
theorem Sub.trans (x:Sub H'' H') (y:Sub H' H):Sub H'' H:=⟨λa o e=>y.1 a o (x.1 a o e),λa e=>x.2 a (y.2 a e)⟩
theorem xY.forget (R:cN c H h) (x:Sub H' H):cN c H' h:=
 ⟨R.1,R.2,λa o e=>R.3 a o (x.1 a o e),λa C dx ks vs e=>⟨(R.4 a C dx ks vs (x.1 _ _ e)).1,by
   cases q:H' dx with
   |none=>rfl
   |some y=>have:=(R.4 a C dx ks vs (x.1 _ _ e)).2;injection (x.1 _ _ q).symm.trans this⟩,
  λa C dx ks vs b C' jZ dO e1 e2=>R.5 a C dx ks vs b C' jZ dO (x.1 _ _ e1) (x.1 _ _ e2),
  λa o e=>(R.6 a o (x.1 a o e)).mono λb ob g q J=>⟨x.fz,λJ=>g⟩⟩
theorem V.forget (y:V H h a v) (x:Sub H' H):V H' h a v:=VR.mono (λb o f e q J=>⟨x.fz f,e⟩) a v y
theorem Vs.forget (y:Vs H h a v) (x:Sub H' H):Vs H' h a v:=aZ.mono (λb o f e q J=>⟨x.fz f,e⟩) a v y
theorem KP.forget (k:KP Ex H h H' h') (x:Sub H'' H'):KP Ex H h H'' h':=λb o e=>(aP (λf=>x.fz ((k b o e).1 f)) (λf=>x.2 b ((k b o e).2.1 f)) ((k b o e).2.2))
noncomputable def aj.set (H:aj) (a:aF) (o:cW):aj:=λb=>if b=a then ae o else H b
@[simp] theorem aj.aW (H:aj) (a:aF) (o:cW):H.set a o a=ae o:=by simp [aj.set]
theorem aj.eQ (H:aj) (o:cW) (n:b≠a):H.set a o b=H b:=by simp [aj.set,n]
noncomputable def aj.del (H:aj) (a:aF):aj:=λb=>if b=a then none else H b
theorem aj.Hk (H:aj) (n:H a≠ae .priv):Sub (H.del a) H:=⟨λb o e=>by
 unfold aj.del at e;split at e
 ·injection e
 ·show e,λb e=>by
 unfold aj.del;split
 ·rename_i q;rw [q] at e;show cy e n
 ·show e⟩
inductive SR (c:Cx) (Ex:aF->Prop) (H:aj) (s:aU) (H':aj) (s':aU):Prop
 |mk (gens:s'.gens=s.gens) (drawn:s'.drawn=s.drawn) (os:s'.os=s.os) (rep:cN c H' s'.heap) (kp:KP Ex H s.heap H' s'.heap) (ex:∀b o,s.heap.get? b=ae o->∃o',s'.heap.get? b=ae o')
section
variable {c:Cx} {Ex:aF->Prop} {H H' aw:aj} {s s' aC:aU}
theorem SR.refl (R:cN c H s.heap):SR c Ex H s H s:=⟨rfl,rfl,rfl,R,.refl,λb o e=>⟨o,e⟩⟩
theorem SR.trans (x:SR c Ex H s aw aC) (y:SR c Ex aw aC H' s'):SR c Ex H s H' s':=⟨y.1.trans x.1,y.2.trans x.2,y.3.trans x.3,y.4,x.5.trans y.5,λb o e=>let ⟨o1,e1⟩:=x.6 b o e;y.6 b o1 e1⟩
theorem SR.more (x:SR c Ex H s H' s') (k:∀b,Ex b->Ex' b):SR c Ex' H s H' s':=⟨x.1,x.2,x.3,x.4,x.5.more k,x.6⟩
theorem SR.lift (x:SR c bL H s H' s'):SR c Ex H s H' s':=x.more λJ q=>q.elim
theorem SR.forget (x:SR c Ex H s H' s') (y:Sub H'' H'):SR c Ex H s H'' s':=⟨x.1,x.2,x.3,x.4.forget y,x.5.forget y,x.6⟩
theorem SR.tok (R:cN c H s.heap) (t:ar):SR c Ex H s H {s with toks:=t}:=⟨rfl,rfl,rfl,R,.refl,λb o e=>⟨o,e⟩⟩
theorem SR.grow (R:cN c H s.heap) (k:∀b o,s.heap.get? b=ae o->h'.get? b=ae o):SR c Ex H s H {s with heap:=h',toks:=t}:=
 ⟨rfl,rfl,rfl,R.keep λb o e J J=>k b o e,λb o e=>(aP id id (λf=>(fR.same (k b o e)))),λb o e=>⟨o,k b o e⟩⟩
theorem aj.ur {C:Prop} (e:H.set a o x=ae y) (h1:x=a->o=y->C) (h2:x≠a->H x=ae y->C):C:=
 (vF (x=a)).elim (λn=>h1 n (bZ ((bN n).symm.trans e))) λn=>h2 n ((bo n).symm.trans e)
theorem QJ (q:mc (H.set a o) b):b=a\/mc H b\/∃C ks vs,o= .inst C b ks vs:=q.elim (λq=>(vF (b=a)).imp id λn=> .inl (.inl λe=>q ((bo n).trans e))) λq=>Cq q λx C ks vs e=>aj.ur e (λn e=> .inr (.inr (wy C ks vs e))) λn e=> .inr (.inl (.inr (mK x C ks vs e)))
theorem SR.put {T:aF->Prop} (R:cN c H s.heap) (la:c.K.lookup a=none) (kT:∀b,T b->c.K.lookup b=none) (aT:Fz H a->T a)
  (k:∀b x,¬T b->s.heap.get? b=ae x->h'.get? b=ae x) (exx:∀b x,s.heap.get? b=ae x->∃o',h'.get? b=ae o')
  (nT:∀b x,s.heap.get? b=ae x->(St H b\/∃z y,z≠a/\H z=ae y/\(b=z\/∃C ks vs,y= .inst C b ks vs))->¬T b)
  (di:∀C d ks vs,o= .inst C d ks vs->T d/\d≠a/\H d=none/\∀x C' jZ dO,H x=ae (.inst C' d jZ dO)->x=a)
  (na:∀x C ks vs,H x=ae (.inst C a ks vs)->dV) (pa:H a≠ae .priv)
  (ho:(∀b,Fz H b->¬T b->Fz (H.set a o) b)->OR c.w.params (H.set a o) h' a o):SR c Ex H s (H.set a o) {s with heap:=h',toks:=t}:=by
 have fz:∀b,Fz H b->¬T b->Fz (H.set a o) b:=λb f n q=>(QJ q).elim (λq=>n (q▸aT (q▸f))) λq=>q.elim f λq=>rl q λC ks vs q=>n (di C b ks vs q).1
 show ⟨rfl,rfl,rfl,⟨λx y e=>k x y (λq=>oo _ (e.symm.trans (kT x q))) (R.1 x y e),R.2,λx y e=>aj.ur e (λn J=>aa n la) λJ e=>R.3 x y e,λx C d ks vs e=>?_,λx C d ks vs b C' jZ dO e1 e2=>?_,λx y e=>?_⟩,
  λb x e=>aP (λf=>fz b f (nT b x e (.inl (.inl f)))) (λf=>(aj.eQ H o λq:b=a=>pa (q▸f)).trans f) λf=>fR.same (k b x (nT b x e (.inl f)) e),exx⟩
 ·show aj.ur e (λn e=>m_ (di _ _ _ _ e) λd1 d2 d3 J=>⟨kT d d1,(aj.eQ H o d2).trans d3⟩) λn e=>aM (R.4 x C d ks vs e) λl m=>⟨l,(aj.eQ H o λq:d=a=>na x C ks vs (q▸e)).trans m⟩
 ·show aj.ur e1 (λn e=>aj.ur e2 (λn' J=>n.trans n'.symm) λn' e2=>(n' ((di _ _ _ _ e).2.2.2 _ _ _ _ e2)).elim) λn e1=>aj.ur e2 (λn' e=>(n ((di _ _ _ _ e).2.2.2 _ _ _ _ e1)).elim) λn' e2=>R.5 _ _ _ _ _ _ _ _ _ e1 e2
 ·show aj.ur e (λn e=>(aa n<|aa e.symm<|ho fz)) λn e=>(R.6 x y e).mono λb ob g J J=>⟨λf=>fz b f (nT b ob g (.inl (.inl f))),λz=>k b ob (nT b ob g (z.imp .inl λz=>cI x y n e z)) g⟩
theorem SR.alloc (R:cN c H s.heap) (ha:s.heap.get? a=none) (k:∀b x,s.heap.get? b=ae x->h'.get? b=ae x)
  (hi:∀C dx ks vs,o≠.inst C dx ks vs) (ho:(∀b,Fz H b->b≠a->Fz (H.set a o) b)->OR c.w.params (H.set a o) h' a o):SR c Ex H s (H.set a o) {s with heap:=h',toks:=t}:=
 .put (T:=(λx=>x=a)) R (n_ R.1 ha) (λb e=>aa e (n_ R.1 ha)) (λJ=>rfl) (λb x J=>k b x) (λb x e=>⟨x,k b x e⟩) (λb x e J=>mP e ha) (λC d ks vs e=>(hi _ _ _ _ e).elim)
  (λx C ks vs e=>R.jR ha (.inr (mK x C ks vs e))) (λe=>oo _ (e.symm.trans (R.nq ha))) ho
theorem SR.upd (R:cN c H s.heap) (ha:H a=ae o) (k:∀b,b≠a->h'.get? b=s.heap.get? b)
  (hi:∀C dx ks vs,o≠.inst C dx ks vs) (hp:o≠.priv) (Gb:∀C dx ks vs,o'≠.inst C dx ks vs) (ho:OR c.w.params H h' a o'):SR c Ex H s (H.set a o') {s with heap:=h',toks:=t}:=by
 have oa:mc H a:= .inl λe=>oo _ (ha.symm.trans e);have na:=λx C ks vs e=>oo _ (ha.symm.trans (R.4 x C a ks vs e).2)
 show .put (T:=(λx=>x=a)) R (R.3 a o ha) (λb e=>aa e (R.3 a o ha)) (λJ=>rfl) (λb x n e=>(k b n).trans e) (λb x e=>(vF (b=a)).elim (λq=>q▸aA ho.ex λo g J=>⟨o,g⟩) λq=>⟨x,(k b q).trans e⟩) (λb x e f q=>?_) (λC d ks vs e=>(Gb _ _ _ _ e).elim) na (λe=>hp (bZ (ha.symm.trans e)))
  λfz=>ho.mono λb ob g J J=>⟨λf=>fz b f λq=>f (aa q oa),λJ=>g⟩
 show f.elim (λf=>f.elim (λf=>f (aa q oa)) λf=>hp (bZ (ha.symm.trans (q▸f)))) λf=>cQ f λz y n e w=>w.elim (λw=>n (w.symm.trans q)) λw=>rl w λC ks vs w=>na z C ks vs (q▸w▸e)
theorem SR.ae4 (R:cN c H s.heap) (ha:H a=ae (.inst C dx ks vs)) (k:∀b,b≠dx->h'.get? b=s.heap.get? b)
  (ho:OR c.w.params H h' a (.inst C dx jZ dO)):SR c Ex H s (H.set a (.inst C dx jZ dO)) {s with heap:=h',toks:=t}:=by
 have od:mc H dx:= .inr (mK a C ks vs ha);show aM (R.4 a C dx ks vs ha) λdl dn=>?_;have no:∀{y},H dx≠ae y:=λe=>oo _ (e.symm.trans dn);have oa:mc H a:= .inl λe=>oo _ (ha.symm.trans e)
 show .put (T:=(λx=>x=dx)) R (R.3 a _ ha) (λb e=>aa e dl) (λf=>(f oa).elim) (λb x n e=>(k b n).trans e) (λb x e=>(vF (b=dx)).elim (λq=>q▸TV ho λJ J J J J J J J g J=>⟨_,g⟩) λq=>⟨x,(k b q).trans e⟩) (λb x e f q=>?_) (λC' d ks vs e=>?_)
  (λx C' ks vs e=>oo _ (ha.symm.trans (R.4 x C' a ks vs e).2)) (λe=>nomatch ha.symm.trans e) λfz=>ho.mono λb ob g J J=>⟨λf=>fz b f λq=>f (aa q od),λJ=>g⟩
 ·show f.elim (λf=>f.elim (λf=>f (aa q od)) λf=>no (q▸f)) λf=>cQ f λz y n e w=>w.elim (λw=>no (q▸w▸e)) λw=>rl w λC' jZ dO w=>n (R.5 _ _ _ _ _ _ _ _ _ (q▸w▸e) ha)
 ·injection e with J e J J;show iT e.symm (λq=>no ((e.trans q).symm▸ha)) (e▸dn) λx C' jZ dO e'=>R.5 _ _ _ _ _ _ _ _ _ (e▸e') ha
theorem SR.aeO (R:cN c H s.heap) (ha:s.heap.get? a=none) (hd:s.heap.get? dx=none) (ZM:a≠dx)
  (k:∀b x,s.heap.get? b=ae x->h'.get? b=ae x) (ho:(∀b,Fz H b->b≠a->b≠dx->Fz (H.set a (.inst C dx ks vs)) b)->OR c.w.params (H.set a (.inst C dx ks vs)) h' a (.inst C dx ks vs)):
  SR c Ex H s (H.set a (.inst C dx ks vs)) {s with heap:=h',toks:=t}:=by
 show .put (T:=λb=>b=a\/b=dx) R (n_ R.1 ha) (λb e=>e.elim (λe=>e▸n_ R.1 ha) λe=>e▸n_ R.1 hd) (λJ=> .inl rfl) (λb x J=>k b x) (λb x e=>⟨x,k b x e⟩) (λb x e J q=>q.elim (mP e ha) (mP e hd)) (λC' d ks vs e=>?_)
  (λx C ks vs e=>R.jR ha (.inr (mK x C ks vs e))) (λe=>oo _ (e.symm.trans (R.nq ha))) λfz=>ho λb f n1 n2=>fz b f λq=>q.elim n1 n2
 injection e with J e J J;show iT (.inr e.symm) (λq=>ZM (q.symm.trans e.symm)) (e▸R.nq hd) λx C' jZ dO e'=>(R.jR hd (.inr (mK x C' jZ dO (aa e e')))).elim
end
end
section
set_option genInjectivity false in
structure AX where
 C:aF
 jt:AV
 at_:AV
def mE (lo:bF) (H:aj) (h:bF) (ea:aF) (vs:dm aI):Prop:=
 ∃T oT ts f,vs[1]?=ae (.ref T)/\lo.get? T=none/\T≠ea/\Fz H T/\h.get? T=ae oT/\cO oT=au/\oT.data= .fields ts/\ts[3]?=ae f
theorem mE.el {lo:bF} {G:Prop} (x:mE lo H h ea vs) (k:∀T oT ts f,vs[1]?=ae (.ref T)->lo.get? T=none->T≠ea->Fz H T->h.get? T=ae oT->cO oT=au->oT.data= .fields ts->ts[3]?=ae f->G):G:=ä x k
def Kq (H:aj) (h:bF) (H':aj) (h':bF):Prop:=∀b o,Fz H b->h.get? b=ae o->cO o=au->Fz H' b/\h'.get? b=ae o
theorem KP.kq (k:KP bL H h H' h'):Kq H h H' h':=λb o f g q=>k.get g f id q
theorem Sub.kq (k:Sub H' H):Kq H h H' h:=λb o f g q=>⟨k.fz f,g⟩
theorem mE.map {lo nF:bF} (y:mE lo H h ea vs) (k1:∀b,lo.get? b=none->nF.get? b=none) (k:Kq H h H' h'):mE nF H' h' ea vs:=y.el λT oT ts f b1 b0 b2 b3 b4 b5 b6 b7=>aM (k T _ b3 b4 b5) λc3 c4=>xm T oT ts f b1 (k1 _ b0) b2 c3 c4 b5 b6 b7
def dC (H:aj) (h:bF):ah aF->aI->Prop
 |[],v=>v= .none
 |a::l,v=>v= .ref a/\∃o vs u,Fz H a/\h.get? a=ae o/\cO o=au/\o.data= .fields vs/\vs[2]?=ae u/\dC H h l u
theorem dC.el {G:Prop} (x:dC H h (a::l) v) (k:v= .ref a->∀o vs u,Fz H a->h.get? a=ae o->cO o=au->o.data= .fields vs->vs[2]?=ae u->dC H h l u->G):G:=AA x.2 (k x.1)
theorem dC.cons (e:v= .ref a) (f:Fz H a) (g:h.get? a=ae o) (q:cO o=au) (d:o.data= .fields vs) (c:vs[2]?=ae u) (r:dC H h l u):dC H h (a::l) v:=⟨e,xo o vs u f g q d c r⟩
theorem dC.mono (k:∀b o,b∈l->Fz H b->h.get? b=ae o->cO o=au->(∃vs,o.data= .fields vs)->Fz H' b/\h'.get? b=ae o) (x:dC H h l v):dC H' h' l v:=by
 induction l generalizing v with
 |nil=>show x
 |cons a l ih=>show x.el λe o vs u f g q d c r=>aM (k a o (.head _) f g q ⟨vs,d⟩) λk1 k2=> .cons e k1 k2 q d c (ih (λb o hb=>k b o (.tail _ hb)) r)
theorem dC.map (x:dC H h l v) (k:Kq H h H' h'):dC H' h' l v:=x.mono λb o J f g q J=>k b o f g q
theorem dC.keep (x:dC H h l v) (k:KP bL H h H' h'):dC H' h' l v:=x.map k.kq
theorem dC.ex (x:dC H h l v):∀b∈l,∃o,h.get? b=ae o:=by
 induction l generalizing v with
 |nil=>show λJ hb=>jl hb
 |cons a l ih=>show x.el λe o vs u f g q d c r b hb=>(List.mem_cons.mp hb).elim (λe=>aa e (⟨_,g⟩)) (ih r b)
def wL (H:aj) (h:bF) (ea:aF) (vs:dm aI):Prop:=∃u l,vs[2]?=ae u/\dC H h l u/\ea∉l/\∀T,vs[1]?=ae (.ref T)->T∉l
def cB (t:aN) (lo:bF) (H:aj) (h:bF) (x:AX) (e:aI):Prop:=
 ∃ea d es n vs sl,e= .ref ea/\lo.get? ea=none/\Fz H ea/\Fz H d/\h.get? ea=ae ⟨.ref x.C,ae d,.fields vs,sl⟩/\vs.size=6/\
  h.get? d=ae ⟨.type "dict",none,.dict es n,#[]⟩/\kj ["what","at"] es.toList/\Vs H h [x.jt,x.at_] (es.toList.map (λx=>x.val))/\
  wL H h ea vs/\(mE lo H h ea vs\/(t=au/\vs[1]?=ae .none))
theorem cB.el {lo:bF} {G:Prop} (q:cB t lo H h x e) (k:∀ea d es n vs sl,e= .ref ea->lo.get? ea=none->Fz H ea->Fz H d->h.get? ea=ae ⟨.ref x.C,ae d,.fields vs,sl⟩->vs.size=6->
  h.get? d=ae ⟨.type "dict",none,.dict es n,#[]⟩->kj ["what","at"] es.toList->Vs H h [x.jt,x.at_] (es.toList.map (λx=>x.val))->
  wL H h ea vs->(mE lo H h ea vs\/(t=au/\vs[1]?=ae .none))->G):G:=aeK q k
abbrev XR:=cB au
abbrev DV:=cB ai
theorem wL.map (x:wL H h ea vs) (k:Kq H h H' h'):wL H' h' ea vs:=cQ x λu l a b r=>cI u l a (b.map k) r
theorem cB.map {lo nF:bF} (q:cB t lo H h x e) (k1:∀b,lo.get? b=none->nF.get? b=none) (k:Kq H h H' h') (ht:t=au->t'=au):cB t' nF H' h' x e:=q.el λea d es n vs sl a1 a0 a2 a3 a4 a5 a6 a7 a8 ac a9=>
 aM (k ea _ a2 a4 rfl) λb2 b4=>aM (k d _ a3 a6 rfl) λb3 b6=>uK ea d es n vs sl a1 (k1 _ a0) b2 b3 b4 a5 b6 a7 (aZ.mono (λb o f g q J=>k b o f g q) _ _ a8) (ac.map k) (a9.imp (λy=>y.map k1 k) λy=>⟨ht y.1,y.2⟩)
theorem cB.weak {lo:bF} (q:cB t lo H h x e):XR lo H h x e:=q.map (λJ z=>z) (λJ J f g J=>⟨f,g⟩) λJ=>rfl
theorem adm {lo nF:bF} (l:∀b o,nF.get? b=ae o->∃o',lo.get? b=ae o') (b:aF) (q:lo.get? b=none):nF.get? b=none:=by
 cases z:nF.get? b with
 |none=>rfl
 |some o=>show bj (l b o z) λo' g=>nomatch q.symm.trans g
theorem cB.lo {lo nF:bF} (q:cB t lo H h x e) (l:∀b o,nF.get? b=ae o->∃o',lo.get? b=ae o'):cB t nF H h x e:=q.map (adm l) (λJ J f g J=>⟨f,g⟩) id
theorem cB.forget {lo:bF} (q:cB t lo H h x e) (y:Sub H' H):cB t lo H' h x e:=q.map (λJ z=>z) y.kq id
theorem cB.pN {lo:bF} (q:cB t lo H h x e):∃a l,dC H h (a::l) e:=
 q.el λea d es n vs sl a1 a0 a2 a3 a4 a5 a6 a7 a8 z J=>cQ z λu l c1 c2 c3=>jF ea l (.cons a1 a2 a4 rfl rfl c1 c2)
def vf (H:aj) (h:bF) (env:eJ):Prop:=∃L o,env.frame=ae L/\h.get? L=ae o/\kJ L o=ai/\jq o.data/\Fz H L
inductive lj (A:eX) (H:aj) (h:bF):Prop
 |mk (fr:∃l,A.frames=ae l/\∀env∈l,env.scope.kind= .function/\vf H h env)
theorem vf.map (x:vf H h env) (k:∀L o,h.get? L=ae o->kJ L o=ai->jq o.data->Fz H L->∃o',h'.get? L=ae o'/\kJ L o'=ai/\jq o'.data/\Fz H' L):vf H' h' env:=CA x λL o b g1 f1 d1 z1=>eO (k L o g1 f1 d1 z1) λo2 g2 f2 d2 z2=>N7 L o2 b g2 f2 d2 z2
theorem lj.map (x:lj A H h) (k:∀env,vf H h env->vf H' h' env):lj A H' h':=aA x.1 λl e g=>⟨l,e,λenv he=>aM (g env he) λa b=>⟨a,k env b⟩⟩
theorem lj.keep (x:lj A H h) (k:KP Ex H h H' h'):lj A H' h':=x.map λenv y=>y.map λL o g1 f1 d1 z1=>((k L o g1).2.2 (.inl z1)).el λo2 g2 c2 d2 J=>i_ o2 g2 ((BH c2).trans f1) (d2 d1) ((k L o g1).1 z1)
inductive pZ (A:eX) (n:ar):Prop
 |mk (depth:A.depth+n < UD) (units:A.units+8*n+8 < E_)
theorem pZ.step (b:pZ A (n+1)) (hd:A'.depth=A.depth+1) (hu:A'.units=A.units+k) (hk:k<=8):pZ A' n:=
 ⟨by exists hd;rewrite [yi];show b.1,iw (by exists hu;rewrite [ix A.units];show tO (iJ (by rewrite [Nat.mul_succ,lB];show iJ hk _) _) 8) b.2⟩
theorem pZ.lt (b:pZ A n):A.depth < UD:=iw (eC ..) b.1
theorem pZ.u (b:pZ A n) (h:d<=8):A.units+d < E_:=iw (tP (eC ..) h) b.2
noncomputable def aaC:aR vG->aN
 |some .local=>ai
 |some .cell=>ai
 |some .free=>ai
 |_=>au
inductive cF (H:aj) (h:bF) (env:eJ) (ρ:ah (ak×AV)):Prop
 |mk (kind:env.scope.kind= .function) (gl:env.globals=pI) (bu:env.builtins=tQ) (fr:∃L,env.frame=ae L) (nso:∃o,h.get? env.locals=ae o/\jq o.data) (ns:∃m,h.Ns env.locals m/\∀x av,ρ.lookup x=ae av->env.kindOf x=ae .local->∃v,m x=ae v/\V H h av v) (cells:∀x c,env.cells.lookup x=ae c->(∃v,h.IsCell c v)/\Fz H c/\c≠env.locals) (cv:∀x av,ρ.lookup x=ae av->(env.kindOf x=ae .cell\/env.kindOf x=ae .free)->∃c v,env.cells.lookup x=ae c/\h.IsCell c (ae v)/\V H h av v) (ck:∀x,env.kindOf x=ae .cell->∃c,env.cells.lookup x=ae c) (ap:∀x y c,env.cells.lookup x=ae c->env.cells.lookup y=ae c->x=y) (own:H env.locals=ae .priv\/(Fz H env.locals/\∃o,h.get? env.locals=ae o/\cO o=ai))
theorem Ns.wK {h h':bF} (n:h.Ns a m) (k:∀o,h.get? a=ae o->∃o',h'.get? a=ae o'/\o'.data=o.data):h'.Ns a m:=fM n λo es ep g d r=>aA (k o g) λo' g' d'=>(yT o' es ep g' (d'.trans d) r)
theorem IsCell.wK {h h':bF} (n:h.IsCell a v) (k:∀o,h.get? a=ae o->∃o',h'.get? a=ae o'/\o'.data=o.data):h'.IsCell a v:=aA n λo g d=>aA (k o g) λo' g' d'=>(ao o' g' (d'.trans d))
theorem KP.data (k:KP bL H h H' h') (f:St H a):∀o,h.get? a=ae o->∃o',h'.get? a=ae o'/\o'.data=o.data:=λo g=>((k a o g).2.2 f).el λo' g' J J z=>(ao o' g' ((z id).1))
theorem cF.keep (x:cF H h env ρ) (k:KP bL H h H' h'):cF H' h' env ρ:=by
 show aA x.5 λo g d=>aA x.6 λm hn hm=>?_;have st:St H env.locals:=x.11.elim .inr λy=> .inl y.1
 show ((k _ o g).2.2 st).el λo2 g2 c2 d2 J=>⟨x.1,x.2,x.3,x.4,(ao o2 g2 (d2 d)),(ao m (Ns.wK hn (k.data st)) (λy av e q=>?_)),λy c e=>?_,λy av e q=>?_,x.9,x.10,
  x.11.imp (k _ o g).2.1 λx'=>aM x' λy1 y'=>aA y' λo' y2 y3=>⟨(k _ o g).1 y1,o2,g2,by rw [g] at y2;injection y2 with ct;subst ct;show (qM c2).trans y3⟩⟩
 ·show aA (hm y av e q) λv a b=>(ao v a (b.keep k))
 ·show fP (x.7 y c e) λeM b b'=>bj eM λv a=>aA a λoc gc dc=>(aP ⟨v,IsCell.wK (ao oc gc dc) (k.data (.inl b))⟩ ((k c oc gc).1 b) b')
 ·show cQ (x.8 y av e q) λc v a b d=>(cI c v a (IsCell.wK b (k.data (.inl (x.7 y c a).2.1))) (d.keep k))
theorem cF.weak (x:cF H h env ρ) (k:∀y a,aO.lookup y=ae a->ρ.lookup y=ae a):cF H h env aO:=
 ⟨x.1,x.2,x.3,x.4,x.5,aA x.6 λm a b=>ao m a λy av e=>b y av (k y av e),x.7,λy av e=>x.8 y av (k y av e),x.9,x.10,x.11⟩
theorem cF.forget (x:cF H h env ρ) (y:Sub H' H):cF H' h env ρ:=
 ⟨x.1,x.2,x.3,x.4,x.5,aA x.6 λm a b=>ao m a λz av e q=>aA (b z av e q) λv p r=>⟨v,p,r.forget y⟩,λz c e=>fP (x.7 z c e) λp q r=>⟨p,y.fz q,r⟩,
  λz av e q=>cQ (x.8 z av e q) λc v p r t=>cI c v p r (t.forget y),x.9,x.10,x.11.imp (y.2 _) λz=>⟨y.fz z.1,z.2⟩⟩
def fw (env:eJ) (b:aF):Prop:=b=env.locals\/∃x,env.cells.lookup x=ae b/\env.kindOf x=ae .cell
def zO (A:eX) (env:eJ):Prop:=∃e0 l,A.frames=ae (e0::l)/\e0.frame=env.frame
theorem Je (h:c_ o=au):dT o=au:=by
 unfold c_ at h;unfold dT;generalize o.data=d at h;induction d using Kr <;> first|rfl|show mA h
def nE (Ex:aF->Prop) (H:aj) (h:bF):Prop:=∀b o,h.get? b=ae o->Fz H b->cO o=au->dT o=au->¬Ex b
theorem cF.jB (er:cF H h env ρ):nE (fw env) H h:=λb o e f q1 q2 w=>by
 show w.elim (λw=>er.11.elim (λz=>f (.inl λq=>nomatch (w▸q).symm.trans z)) λz=>aA z.2 λo2 z2 z3=>?_) λw=>aA w λx w J=>aM (er.7 x b w) λz J=>d8 z λv oc gc dc=>?_
 ·show jJ (q1.symm.trans ((bD cO (bZ (e.symm.trans (aa w z2)))).trans z3))
 ·rw [<-bZ (e.symm.trans gc)] at dc;unfold dT at q2;rw [dc] at q2;show mA q2
theorem KP.g7 (k:KP Ex H h H' h') (x:nE Ex H h) (e:h.get? b=ae o) (f:Fz H b) (q1:cO o=au) (q2:dT o=au):Fz H' b/\h'.get? b=ae o:=k.get e f (x b o e f q1 q2) q1
theorem Vs.lb (y:Vs H h a v) (k:KP Ex H h H' h') (x:nE Ex H h):Vs H' h' a v:=
 aZ.mono (λb o fz e q1 q2=>k.g7 x e fz q1 (Je q2)) a v y
theorem V.lb (y:V H h a v) (k:KP Ex H h H' h') (x:nE Ex H h):V H' h' a v:=
 VR.mono (λb o fz e q1 q2=>k.g7 x e fz q1 (Je q2)) a v y
section
variable {c:Cx} {A:eX} {α β:Type}
def XP (c:Cx) {α:Type} (Ex:aF->Prop) (H:aj) (s:aU) (R:α->aj->aU->Prop) (a:α) (s':aU):Prop:=∃H',SR c Ex H s H' s'/\R a H' s'
def EP (c:Cx) (Ex:aF->Prop) (H:aj) (s:aU) (X:AX->aj->Prop) (e:aI) (s':aU):Prop:=∃H' x,SR c Ex H s H' s'/\XR s.heap H' s'.heap x e/\X x H'
theorem EP.el {G:Prop} (q:EP c Ex H s X e s') (k:∀H' x,SR c Ex H s H' s'->XR s.heap H' s'.heap x e->X x H'->G):G:=cQ q k
theorem EP.mk (H':aj) (x:AX) (S:SR c Ex H s H' s') (y:XR s.heap H' s'.heap x e) (z:X x H'):EP c Ex H s X e s':=cI H' x S y z
theorem EP.from (q:EP c Ex aw aC X e s') (S:SR c Ex H s aw aC):EP c Ex H s X e s':=q.el λH' x S' y z=> .mk H' x (S.trans S') (y.lo S.6) z
theorem EP.mono (q:EP c Ex H s X e s') (h:∀x H',X x H'->X' x H'):EP c Ex H s X' e s':=q.el λH' x S y z=> .mk H' x S y (h x H' z)
def RV (Q:AV->aj->Prop) (v:aI) (H':aj) (s':aU):Prop:=∃av,V H' s'.heap av v/\Q av H'
def XW (c:Cx) (A:eX) {α:Type} (t:cC α) (s:aU) (Ex:aF->Prop) (H:aj) (R:α->aj->aU->Prop) (X:AX->aj->Prop):Prop:=
 aE c.M A t (XP c Ex H s R) (EP c Ex H s X) s
variable {t:cC α} {f:α->cC β} {s:aU} {Ex:aF->Prop} {H:aj} {X X':AX->aj->Prop}
theorem XW.bind (h:XW c A t s Ex H (λa aw aC=>XW c A (f a) aC Ex aw R X) X):XW c A (t >>=f) s Ex H R X:=by
 show aS (cq h (λa aC x'=>aA x' λaw S k=>?_) λJ J z=>z);show cq k (λb aL x'=>aA x' λaG S2 r=>(ao aG (S.trans S2) r)) λe aL x'=>x'.from S
theorem XW.mono (h:XW c A t s Ex H R X) (hR:∀a H' s',SR c Ex H s H' s'->R a H' s'->R' a H' s') (hX:∀x H',X x H'->X' x H'):XW c A t s Ex H R' X':=
 cq h (λa s' x'=>aA x' λH' S r=>(ao H' S (hR a H' s' S r))) λe s' x'=>x'.mono hX
theorem XW.pure (R0:cN c H s.heap) (h:R a H s):XW c A (pure a) s Ex H R X:=bw (ao H (.refl R0) h)
end
def HK (hd:aR aI) (H:aj) (h:bF):Prop:=∀v,hd=ae v->∃a l,dC H h (a::l) v
theorem HK.keep (x:HK hd H h) (k:KP bL H h H' h'):HK hd H' h':=λv e=>dP (x v e) λa l y=>jF a l (y.keep k)
theorem HK.none:HK none H h:=λv e=>by injection e
inductive CT (c:Cx) (n:ar) (A:eX) (H:aj) (h:bF):Prop
 |mk (rep:cN c H h) (fr:lj A H h) (bud:pZ A n) (hk:HK A.handled H h) (qh:c.qt=ai->A.handled=none)
theorem CT.keep (x:CT c n A H s.heap) (S:SR c bL H s H' s'):CT c n A H' s'.heap:=⟨S.4,x.2.keep S.5,x.3,x.4.keep S.5,x.5⟩
inductive CE (c:Cx) (n:ar) (sc:bA) (A:eX) (env:eJ) (ρ:ah (ak×AV)) (H:aj) (h:bF):Prop
 |mk (akp:CT c n A H h) (er:cF H h env ρ) (sc:env.scope=sc) (hd:zO A env)
theorem CE.keep (x:CE c n sc A env ρ H s.heap) (S:SR c bL H s H' s'):CE c n sc A env ρ H' s'.heap:=
 ⟨x.1.keep S,x.2.keep S.5,x.3,x.4⟩
def WE (c:Cx) (n:ar) (sc:bA) (e:bR) (ρ:ah (ak×AV)) (H:aj) (Q:AV->aj->Prop) (X:AX->aj->Prop):Prop:=
 ∀A env s,CE c n sc A env ρ H s.heap->XW c A (bX e env) s bL H (RV Q) X
def lT (c:Cx) (n:ar) (sc:bA) (es:ah bR) (pos:fU) (ρ:ah (ak×AV)) (H:aj) (Q:ah AV->aj->Prop) (X:AX->aj->Prop):Prop:=
 ∀A env s,CE c n sc A env ρ H s.heap->XW c A (kU (iG pos (iH es env))) s bL H (λvs H' s'=>∃l,Vs H' s'.heap l vs/\Q l H') X
def WT (c:Cx) (n:ar) (sc:bA) (e:bR) (ρ:ah (ak×AV)) (H:aj) (Q:aN->aj->Prop) (X:AX->aj->Prop):Prop:=
 ∀A env s,CE c n sc A env ρ H s.heap->XW c A (Fb e env (bX e env)) s bL H (λb H' J=>Q b H') X
inductive AF where
 |next
 |ret (a:AV)
def FR (H:aj) (h:bF):AF->Flow->Prop
 | .next,f=>f= .next
 | .ret a,f=>∃v,f= .ret v/\V H h a v
abbrev Ŝ (sc:bA) (env:eJ) (Q:AF->ah (ak×AV)->aj->Prop):Flow->aj->aU->Prop:=λf H' s'=>∃af aO,FR H' s'.heap af f/\cF H' s'.heap env aO/\Q af aO H'
abbrev XS:=AX->ah (ak×AV)->aj->Prop
abbrev QS (c:Cx) (sc:bA) (env:eJ) (H:aj) (s:aU) (Q:AF->ah (ak×AV)->aj->Prop):Flow->aU->Prop:=λf s'=>∃H',SR c (fw env) H s H' s'/\Ŝ sc env Q f H' s'
abbrev ES (c:Cx) (env:eJ) (H:aj) (s:aU) (X:XS):aI->aU->Prop:=λe s'=>∃H' x aO,SR c (fw env) H s H' s'/\XR s.heap H' s'.heap x e/\cF H' s'.heap env aO/\X x aO H'
theorem ES.el {G:Prop} (q:ES c env H s X e s') (k:∀H' x aO,SR c (fw env) H s H' s'->XR s.heap H' s'.heap x e->cF H' s'.heap env aO->X x aO H'->G):G:=gU q k
theorem ES.mk (H':aj) (x:AX) (aO:ah (ak×AV)) (S:SR c (fw env) H s H' s') (y:XR s.heap H' s'.heap x e) (z:cF H' s'.heap env aO) (w:X x aO H'):ES c env H s X e s':=i5 H' x aO S y z w
theorem QS.el {G:Prop} (q:QS c sc env H s Q f s') (k:∀H' af aO,SR c (fw env) H s H' s'->FR H' s'.heap af f->cF H' s'.heap env aO->Q af aO H'->G):G:=aA q λH' S q=>cQ q λaf aO=>k H' af aO S
theorem QS.mk (H':aj) (af:AF) (aO:ah (ak×AV)) (S:SR c (fw env) H s H' s') (y:FR H' s'.heap af f) (z:cF H' s'.heap env aO) (w:Q af aO H'):QS c sc env H s Q f s':=ao H' S (cI af aO y z w)
theorem ES.from (q:ES c env aw aC X e s') (S:SR c (fw env) H s aw aC):ES c env H s X e s':=ES.el q λH' x aO S' y z w=>ES.mk H' x aO (S.trans S') (y.lo S.6) z w
theorem ES.mono (q:ES c env H s X e s') (h:∀x aO H',X x aO H'->X' x aO H'):ES c env H s X' e s':=ES.el q λH' x aO S y z w=>ES.mk H' x aO S y z (h _ _ _ w)
theorem QS.mono (q:QS c sc env H s Q f s') (h:∀a aO H',Q a aO H'->Q' a aO H'):QS c sc env H s Q' f s':=QS.el q λH' af aO S y z w=>QS.mk H' af aO S y z (h _ _ _ w)
def WS (c:Cx) (n:ar) (sc:bA) (ss:ah fc) (ρ:ah (ak×AV)) (H:aj) (Q:AF->ah (ak×AV)->aj->Prop) (X:XS):Prop:=
 ∀A env s,CE c n sc A env ρ H s.heap->aE c.M A (j5 ss env) (QS c sc env H s Q) (ES c env H s X) s
def cP (c:Cx) (n:ar) (sc:bA) (st:fc) (ρ:ah (ak×AV)) (H:aj) (Q:AF->ah (ak×AV)->aj->Prop) (X:XS):Prop:=
 ∀A env s,CE c n sc A env ρ H s.heap->aE c.M A (mX st env) (QS c sc env H s Q) (ES c env H s X) s
theorem HJ (S:SR c (fw env) H s aw aC)
  (h:aE c.M A t (QS c sc env aw aC Q) (ES c env aw aC X) aC):aE c.M A t (QS c sc env H s Q) (ES c env H s X) aC:=
 cq h (λf aL x'=>aA x' λaG bh r=>(ao aG (S.trans bh) r)) λe aL x'=>ES.from x' S
theorem XW.oJ (er:cF H s.heap env ρ)
  (S:SR c (fw env) dR bE H s) (h:XW c A t s bL H R (λx H'=>X x ρ H')) (k:∀a aw aC,SR c bL H s aw aC->SR c (fw env) dR bE aw aC->R a aw aC->Q a aC):aE c.M A t Q (ES c env dR bE X) s:=
 cq h (λa aC x'=>aA x' λaw aX r=>k a aw aC aX (S.trans aX.lift) r) λe s' x'=>EP.el x' λH' x S' y z=>ES.mk H' x ρ (S.trans S'.lift) (y.lo S.6) (er.keep S'.5) z
def bq (c:Cx) (n:ar) (f:aI) (args:ah AV) (H:aj) (Q:AV->aj->Prop) (X:AX->aj->Prop):Prop:=
 ∀A s vs,CT c n A H s.heap->Vs H s.heap args vs->XW c A (gN f vs) s bL H (RV Q) X
theorem cF.Am (E:cF H h env ρ) (g:h.get? b=ae o) (f:∃vs,o.data= .fields vs):¬fw env b:=λq=>bj f λvs f=>by
 show q.elim (λq=>aA E.5 λoL gL dL=>dP dL λJ J dL=>?_) λq=>aA q λy q J=>aM (E.7 y b q) λz J=>d8 z λv oc gc dc=>?_
 ·rw [<-q,g] at gL;rw [<-bZ gL,f] at dL;injection dL
 ·rw [bZ (g.symm.trans gc),dc] at f;injection f
theorem HK.Dm (x:HK hd H s.heap) (E:cF H s.heap env ρ) (S:SR c (fw env) H s H' s'):HK hd H' s'.heap:=λv e=>
 dP (x v e) λa l y=>(jF a l (y.mono λb o J f g q fl=>S.5.get g f (E.Am g fl) q))
theorem CE.Dm (x:CE c n sc A env ρ H s.heap) (S:SR c (fw env) H s H' s') (E:cF H' s'.heap env aO):CE c n sc A env aO H' s'.heap:=
 ⟨⟨S.4,x.1.2.keep S.5,x.1.3,x.1.4.Dm x.2 S,x.1.5⟩,E,x.3,x.4⟩
def Fg (c:Cx) (H:aj) (a:AV) (H':aj) (a':AV):Prop:=Sub H' H/\∀h v,cN c H h->V H h a v->V H' h a' v
theorem Fg.refl (H:aj) (a:AV):Fg c H a H a:=⟨.refl H,λJ J J x=>x⟩
theorem Fg.del (R:cN c H h) (e:H a=ae o) (n:o≠.priv):Sub (H.del a) H/\Fz (H.del a) a/\∀dx,(∃C ks vs,o= .inst C dx ks vs)->Fz (H.del a) dx:=by
 have sb:=H.Hk λq=>n (bZ (e.symm.trans q));show ⟨sb,λq=>q.elim (λq=>q (bN rfl)) λq=>Cq q λy C ks vs z=>?_,λdx x=>rl x λC ks vs x=>?_⟩
 ·show oo _ (e.symm.trans (R.4 y C a ks vs (sb.1 _ _ z)).2)
 ·have e':=x▸e;show λq=>q.elim (λq=>q ?_) λq=>Cq q λy C ks vs z=>?_
  ·unfold aj.del;split
   ·rfl
   ·show (R.4 a C dx ks vs e').2
  ·have z':=z;rw [R.5 _ _ _ _ _ _ _ _ _ (sb.1 _ _ z) e'] at z';show oo _ (z'.symm.trans (bN rfl))
theorem Fg.list (e:H a=ae (.list l)):Fg c H (.ref a) (H.del a) (.lst l):=by
 have sb:=H.Hk λq=>nomatch e.symm.trans q;show ⟨sb,λh v R x=>aa x (d8 (R.6 a _ e) λxs n g r=>i5 a n xs rfl (Fg.del R e nofun).2.1 g (r.forget sb))⟩
theorem Fg.inst (e:H a=ae (.inst C dx ks vs)):Fg c H (.ref a) (H.del a) (.obj C ks vs):=by
 have sb:=H.Hk λq=>nomatch e.symm.trans q;show ⟨sb,λh v R x=>aa x (Ak (R.6 a _ e) λo es n g c1 d1 nc nf gd kr r=>fP (Fg.del R e nofun) λJ f1 f2=>Sz a dx o es n rfl f1 (f2 dx (wy _ _ _ rfl)) g c1 d1 nc nf gd kr (r.forget sb))⟩
section
variable {c:Cx} {n:ar} {sc:bA} {ρ aO:ah (ak×AV)} {H H':aj} {X X':AX->aj->Prop}
theorem WE.mono (h:WE c n sc e ρ H Q X) (hQ:∀a H',Q a H'->∃a' H'',Fg c H' a H'' a'/\Q' a' H'') (hX:∀x H',X x H'->X' x H'):WE c n sc e ρ H Q' X':=λA env s C=>
 cq (h A env s C) (λv s' x'=>aA x' λH' S y'=>aA y' λav y q=>d8 (hQ av H' q) λa' H'' jH q'=>aM jH λf1 f2=>(ao H'' (S.forget f1) (ao a' (f2 _ _ S.4 y) q'))) λe s' x'=>EP.mono x' hX
theorem WE.post (h:WE c n sc e ρ H Q X) (hQ:∀a H',Q a H'->Q' a H'):WE c n sc e ρ H Q' X:=
 h.mono (λa H' q=>(ew a H' (.refl _ _) (hQ a H' q))) λJ J z=>z
theorem bq.mono (h:bq c n f args H Q X) (hQ:∀a H',Q a H'->∃a' H'',Fg c H' a H'' a'/\Q' a' H'') (hX:∀x H',X x H'->X' x H'):bq c n f args H Q' X':=λA s vs C V=>
 cq (h A s vs C V) (λv s' x'=>aA x' λH' S y'=>aA y' λav y q=>d8 (hQ av H' q) λa' H'' mI q'=>aM mI λf1 f2=>(ao H'' (S.forget f1) (ao a' (f2 _ _ S.4 y) q'))) λe s' x'=>EP.mono x' hX
theorem WS.mono {X X':XS} (h:WS c n sc ss ρ H Q X) (hQ:∀a aO H',Q a aO H'->Q' a aO H') (hX:∀x aO H',X x aO H'->X' x aO H'):WS c n sc ss ρ H Q' X':=λA env s C=>
 cq (h A env s C) (λv s' x'=>QS.mono x' hQ) λe s' x'=>ES.mono x' hX
theorem cP.mono {st:fc} {X X':XS} (h:cP c n sc st ρ H Q X) (hQ:∀a aO H',Q a aO H'->Q' a aO H') (hX:∀x aO H',X x aO H'->X' x aO H'):cP c n sc st ρ H Q' X':=λA env s C=>
 cq (h A env s C) (λv s' x'=>QS.mono x' hQ) λe s' x'=>ES.mono x' hX
theorem CE.weak (x:CE c n sc A env ρ H h) (k:∀y a,aO.lookup y=ae a->ρ.lookup y=ae a):CE c n sc A env aO H h:=⟨x.1,x.2.weak k,x.3,x.4⟩
theorem WS.aax {X:XS} (k:∀y a,aO.lookup y=ae a->ρ.lookup y=ae a) (h:WS c n sc ss aO H Q X):WS c n sc ss ρ H Q X:=λA env s C=>h A env s (C.weak k)
theorem WS.nil {X:XS} (h:Q .next ρ H):WS c n sc [] ρ H Q X:=λA env s C=>xQ (QS.mk H .next ρ (.refl C.1.1) rfl C.2 h)
theorem WS.cons {st:fc} {X:XS}
  (h:cP c n sc st ρ H (λf aO H'=>match f with| .next=>WS c n sc rest aO H' Q X| .ret a=>Q (.ret a) aO H') X):WS c n sc (st::rest) ρ H Q X:=λA env s C=>by
 show Rf (cq (h A env s C) (λf s' x'=>QS.el x' λH' af aO S a b q=>?_) λJ J z=>z);induction af using AF.casesOn with
 |next=>show aa a (HJ S (q A env s' (C.Dm S b)))
 |ret v=>show aA a λu e a=>aa e (QS.mk H' (.ret v) aO S (ao u rfl a) b q)
end
end
section
def iP (c:Cx) (n:ar) (t:aI->aI->cC aI) (a b:AV) (H:aj) (Q:AV->aj->Prop) (X:AX->aj->Prop):Prop:=
 ∀A s v u,CT c n A H s.heap->V H s.heap a v->V H s.heap b u->XW c A (t v u) s bL H (λr H' s'=>∃av,V H' s'.heap av r/\Q av H') X
def I4 (c:Cx) (n:ar) (t:aI->cC aI) (a:AV) (H:aj) (Q:AV->aj->Prop) (X:AX->aj->Prop):Prop:=
 ∀A s v,CT c n A H s.heap->V H s.heap a v->XW c A (t v) s bL H (λr H' s'=>∃av,V H' s'.heap av r/\Q av H') X
def dG (c:Cx) (n:ar) (op:Ks) (a b:AV) (H:aj) (Q:aN->aj->Prop) (X:AX->aj->Prop):Prop:=
 ∀A s v u,CT c n A H s.heap->V H s.heap a v->V H s.heap b u->XW c A (x_ op v u) s bL H (λr H' s'=>∃q,r= .bool q/\Q q H') X
def qz (c:Cx) (n:ar) (a:AV) (H:aj) (Q:aN->aj->Prop) (X:AX->aj->Prop):Prop:=
 ∀A s v,CT c n A H s.heap->V H s.heap a v->XW c A (qD v) s bL H (λb H' J=>Q b H') X
theorem XW.step
  (S:SR c Ex dR bE H s) (h:XW c A t s Ex H R X) (k:∀a aw aC,SR c Ex H s aw aC->SR c Ex dR bE aw aC->R a aw aC->Q a aC):aE c.M A t Q (EP c Ex dR bE X) s:=
 cq h (λa aC x'=>aA x' λaw aX r=>k a aw aC aX (S.trans aX) r) λe s' x'=>EP.el x' λH' x S' y z=>(EP.mk H' x (S.trans S') (y.lo S.6) z)
section
variable {c:Cx} {n:ar} {sc:bA} {ρ:ah (ak×AV)} {H:aj} {X:AX->aj->Prop}
theorem ü (h:Q (.int i) H):WE c n sc (.Constant (.int i) k pos) ρ H Q X:=λA env s C=>
 up<|wpAny_Constant_int (ao H (.tok C.1.1 _) (ao (.int i) ⟨_,rfl⟩ h))
theorem aez (h:Q (.str x) H):WE c n sc (.Constant (.str x) k pos) ρ H Q X:=λA env s C=>
 up<|wpAny_Constant_str (ao H (.tok C.1.1 _) (ao (.str x) ⟨_,rfl⟩ h))
theorem ahy (h:Q (.bytes x) H):WE c n sc (.Constant (.bytes x) k pos) ρ H Q X:=λA env s C=>by
 show up<|wpAny_mkTextBytes (ao H (.tok C.1.1 _) (ao (.bytes x) ⟨_,rfl⟩ h))
theorem aco (h:Q .none H):WE c n sc (.Constant .none k pos) ρ H Q X:=λA env s C=>
 up<|wpAny_Constant_none (ao H (.refl C.1.1) (ao .none rfl h))
theorem OA (h:Q (.bool b) H):WE c n sc (.Constant (.bool b) k pos) ρ H Q X:=λA env s C=>
 up<|wpAny_Constant_bool (ao H (.refl C.1.1) (ao (.bool b) rfl h))
noncomputable def wx (x:ak):aN:= !(x==("__debug__":ak)) && !(x==("__classdict__":ak))
noncomputable def ni (sc:bA) (x:ak):aN:=wx x && aaC (sc.names.lookup x)
theorem zy (h:wx x=ai):(x==("__debug__":ak))=au:=by simp only [wx,d9,lC] at h;show h.1
theorem Sj (h:wx x=ai):(x==("__classdict__":ak))=au:=by simp only [wx,d9,lC] at h;show h.2
theorem ady (C:CE c n sc A env ρ H s.heap) (hk:ni sc x=ai) (hr:ρ.lookup x=ae av)
  (h:∀v,V H s.heap av v->Q v s):a_ c.M A (loadName env x) Q E s:=by
 show aM (Bool.and_eq_true_iff.mp hk) λqu f6=>?_;have er:=C.2;have ek:env.kindOf x=sc.names.lookup x:=by unfold qE;exists C.3;rfl
 cases q:sc.names.lookup x with
 |none=>rw [q] at f6;show lU f6
 |some kd=>
  rw [q] at f6 ek;cases kd <;> try ((first|(injection f6;done)|show mA f6))
  ·show aA er.6 λm hn hm=>aA (hm x av hr ek) λv hv y=>ahS er.1 ek hn hv (h v y)
  ·show cQ (er.8 x av hr (.inl ek)) λa v h1 h2 y=>ahT er.1 ek h1 h2 (h v y)
  ·show cQ (er.8 x av hr (.inr ek)) λa v h1 h2 y=>ahU er.1 ek h1 h2 (h v y) (Sj qu)
theorem ahf (hk:ni sc x=ai) (hr:ρ.lookup x=ae av) (h:Q av H):WE c n sc (.Name x pos) ρ H Q X:=λA env s C=>
 up<|wpAny_Name (ady C hk hr λv y=>(ao H (.refl C.1.1) (ao av y h))) (zy (Bool.and_eq_true_iff.mp hk).1)
noncomputable def sB (a:aN) (v:aI):aN:=match v with
 | .bool b=>a==b
 |_=>au
noncomputable def sI (a:aq) (v:aI):aN:=match v with
 | .int b _=>a==b
 |_=>au
noncomputable def sS (a:ak) (v:aI):aN:=match v with
 | .str b _=>a==b
 |_=>au
noncomputable def sY (a:ah b_) (v:aI):aN:=match v with
 | .bytes b _=>a==b.toList
 |_=>au
noncomputable def sR (a:aF) (v:aI):aN:=match v with
 | .ref b=>a==b
 |_=>au
noncomputable def sT (a:eT) (v:aI):aN:=match v with
 | .type b=>a==b
 |_=>au
noncomputable def sX (a:eT) (v:aI):aN:=match v with
 | .builtin b=>a==b
 |_=>au
noncomputable def sN (v:aI):aN:=match v with
 | .none=>ai
 |_=>au
noncomputable def HZ (a:AV) (v:aI):aN:=match a with
 | .none=>sN v
 | .bool a=>sB a v
 | .int a=>sI a v
 | .str a=>sS a v
 | .bytes a=>sY a v
 | .ref a=>sR a v
 | .ty a=>sT a v
 | .bi a=>sX a v
 |_=>au
theorem N3 (e:HZ a v=ai):V H h a v:=by
 induction a using AV.casesOn <;> first|(injection e;done)|(induction v using A0 <;> first|(injection e;done)|show (beq_iff_eq.mp e).symm|show rfl|(have e:=beq_iff_eq.mp e;exists e;first|show rfl|show ⟨_,rfl⟩))
noncomputable def hV (K:iI) (x:ak) (av:AV):aN:=match Fc K pI x with
 |some (ae v)=>HZ av v
 |some none=>(match Fc K tQ x with
  |some (ae v)=>HZ av v
  |_=>au)
 |none=>au
noncomputable def jc (sc:bA) (x:ak):aN:=wx x && sc.names.lookup x==ae .globalImplicit
@[elab_as_elim] theorem So {P:aR (aR aI)->Prop} (r:aR (aR aI)) (h0:P none) (h1:P (ae none)) (h2:∀v,P (ae (ae v))):P r:=by
 induction r using eL with
 |none=>show h0
 |some r=>induction r using eL with
  |none=>show h1
  |some v=>show h2 v
theorem Hi (C:CE c n sc A env ρ H s.heap) (hg:hV c.K x av=ai)
  (h:∀v,V H s.heap av v->Q v s):a_ c.M A (loadGlobal env x) Q E s:=by
 have X:=C.1.1.1;unfold hV at hg;unfold loadGlobal;show aa C.2.2<|aa C.2.3 ?_
 generalize e:Fc c.K pI x=r at hg;revert e hg;show So r (λJ hg=>lU hg) (λe=>?_) λv e hg=>aJ ((Kt X e).here (bg (h v (N3 hg))));generalize e':Fc c.K tQ x=r';revert e';show So r' (λJ hg=>lU hg) (λJ hg=>lU hg) λv e' hg=>aJ ((Kt X e).here (aJ ((Kt X e').here (bg (h v (N3 hg))))))
theorem wd (C:CE c n sc A env ρ H s.heap) (hk:jc sc x=ai) (hg:hV c.K x av=ai) (hu:∀v,V H s.heap av v->v=u) (k:Q u s):aE c.M A (bX (.Name x pos) env) Q E s:=by
 show aM (Bool.and_eq_true_iff.mp hk) λqu f6=>?_;have ek:env.kindOf x=ae .globalImplicit:=by unfold qE;show aa C.3<|beq_iff_eq.mp f6
 show up<|Name_function_global C.2.1 ek (Hi C hg λv y=>hu v y▸k) (zy qu)
theorem PA (hk:jc sc x=ai) (hg:hV c.K x av=ai) (h:Q av H):WE c n sc (.Name x pos) ρ H Q X:=λA env s C=>by
 show aM (Bool.and_eq_true_iff.mp hk) λqu f6=>?_;have ek:env.kindOf x=ae .globalImplicit:=by unfold qE;show aa C.3<|beq_iff_eq.mp f6
 show up<|Name_function_global C.2.1 ek (Hi C hg λv y=>(ao H (.refl C.1.1) (ao av y h))) (zy qu)
theorem ag9 (h:WE c n sc l ρ H (λa aw=>WE c n sc r ρ aw (λb aG=>iP c n (iY op) a b aG Q X) X) X):WE c n sc (.BinOp l op r pos) ρ H Q X:=λA env s C=>
 ahs (XW.step (.refl C.1.1) (h A env s C) λv aw aC aX cU x'=>aA x' λa y q=>XW.step cU (q A env aC (C.keep aX)) λu aG aL bh da x'=>aA x' λb y2 q2=>
  XW.step da (q2 A aL v u ((C.keep aX).keep bh).1 (y.keep bh.5) y2) λr aV bz cJ c9 z=>(ao aV c9 z))
theorem Ol (h:WE c n sc x ρ H (λa aw=>I4 c n (EX op) a aw Q X) X):WE c n sc (.UnaryOp op x pos) ρ H Q X:=λA env s C=>
 ZP (XW.step (.refl C.1.1) (h A env s C) λv aw aC aX cU x'=>aA x' λa y q=>XW.step cU (q A aC v (C.keep aX).1 y) λr aV bz cJ c9 z=>(ao aV c9 z))
theorem ag0 (hm:AP op r=au) (h:WE c n sc l ρ H (λa aw=>WE c n sc r ρ aw (λb aG=>dG c n op a b aG (λq=>Q (.bool q)) X) X) X):WE c n sc (.Compare l [op] [r] pos) ρ H Q X:=λA env s C=>
 agW (XW.step (.refl C.1.1) (h A env s C) λv aw aC aX cU x'=>aA x' λa y q=>XW.step cU (q A env aC (C.keep aX)) λu aG aL bh da x'=>aA x' λb y2 q2=>
  XW.step da (q2 A aL v u ((C.keep aX).keep bh).1 (y.keep bh.5) y2) λr aV bz cJ c9 x'=>aA x' λz e q3=>(ao aV c9 (ao (.bool z) e q3))) hm
theorem ad9 (hm:AP op r=au) (h:WE c n sc l ρ H (λa aw=>WE c n sc r ρ aw (λb aG=>dG c n op a b aG Q X) X) X):WT c n sc (.Compare l [op] [r] pos) ρ H Q X:=λA env s C=>
 ag1 (XW.step (.refl C.1.1) (h A env s C) λv aw aC aX cU x'=>aA x' λa y q=>XW.step cU (q A env aC (C.keep aX)) λu aG aL bh da x'=>aA x' λb y2 q2=>
  XW.step da (q2 A aL v u ((C.keep aX).keep bh).1 (y.keep bh.5) y2) λr aV bz cJ c9 x'=>aA x' λz e q3=>by exists e;show up<|wpAny_truthy_bool (ao aV c9 q3)) hm
theorem aaq (h:WT c n sc x ρ H (λb=>Q (!b)) X):WT c n sc (.UnaryOp .Not x pos) ρ H Q X:=λA env s C=>
 È (XW.step (.refl C.1.1) (h A env s C) λb aw aC aX cU q=>(ao aw cU q))
def WA (c:Cx) (n:ar) (sc:bA) (op:Ku) (es:ah bR) (ρ:ah (ak×AV)) (H:aj) (Q:aN->aj->Prop) (X:AX->aj->Prop):Prop:=
 ∀A env s,CE c n sc A env ρ H s.heap->XW c A (AQ op es env) s bL H (λb H' J=>Q b H') X
theorem Z8 (h:WA c n sc op es ρ H Q X):WT c n sc (.BoolOp op es pos) ρ H Q X:=λA env s C=>Ŷ (h A env s C)
theorem NB (h:WT c n sc x ρ H (λb aw=>if b=ai then WA c n sc .And rest ρ aw Q X else Q au aw) X):WA c n sc .And (x::rest) ρ H Q X:=λA env s C=>
 Ŏ (XW.step (.refl C.1.1) (h A env s C) λb aw aC aX cU q=>by
  induction b using ez
  ·exists bo ⋯;show (ao aw cU q)
  ·show aa (bN rfl)<|XW.step cU (q A env aC (C.keep aX)) λb aG aL bh da q=>(ao aG da q))
theorem MS (h:WT c n sc x ρ H (λb aw=>if b=ai then Q ai aw else WA c n sc .Or rest ρ aw Q X) X):WA c n sc .Or (x::rest) ρ H Q X:=λA env s C=>
 ŕ (XW.step (.refl C.1.1) (h A env s C) λb aw aC aX cU q=>by
  induction b using ez
  ·exists bo ⋯;show XW.step cU (q A env aC (C.keep aX)) λb aG aL bh da q=>(ao aG da q)
  ·show aa (bN rfl)<|(ao aw cU q))
theorem đ (h:Q ai H):WA c n sc .And [] ρ H Q X:=λA env s C=>up<|wpAny_allTrue_And_nil (ao H (.refl C.1.1) h)
theorem ĉ (h:Q au H):WA c n sc .Or [] ρ H Q X:=λA env s C=>up<|wpAny_allTrue_Or_nil (ao H (.refl C.1.1) h)
theorem ad1 (h:WE c n sc e ρ H (λa aw=>qz c n a aw Q X) X) (he:∀env whole,Fb e env whole=(do let v <-whole;me e.pos;oh [v] (qD v))):WT c n sc e ρ H Q X:=λA env s C=>
 Ŭ (XW.step (.refl C.1.1) (h A env s C) λv aw aC aX cU x'=>aA x' λa y q=>XW.step cU (q A aC v (C.keep aX).1 y) λr aV bz cJ c9 z=>(ao aV c9 z)) (he _ _)
theorem Î (h:WT c n sc t ρ H (λq aw=>if q=ai then WE c n sc b ρ aw Q X else WE c n sc o ρ aw Q X) X):WE c n sc (.IfExp t b o pos) ρ H Q X:=λA env s C=>
 aaP (XW.step (.refl C.1.1) (h A env s C) λq aw aC aX cU z=>by
  induction q using ez
  ·show XW.step cU (z A env aC (C.keep aX)) λr aV bz cJ c9 z=>(ao aV c9 z)
  ·show XW.step cU (z A env aC (C.keep aX)) λr aV bz cJ c9 z=>(ao aV c9 z))
theorem OT (h:Q [] H):lT c n sc [] pos ρ H Q X:=λA env s C=>N0 (ao H (.refl C.1.1) (ao [] .nil h))
theorem rM (hs:tR e=au):iG pos (iH (e::rest) env)=(au,bX e env)::iG pos (iH rest env):=by
 induction e using kA <;> first|rfl|show mA hs
theorem Q4 (h:WE c n sc e ρ H (λa aw=>lT c n sc rest pos ρ aw (λl=>Q (a::l)) X) X) (hs:tR e=au):lT c n sc (e::rest) pos ρ H Q X:=λA env s C=>by
 show aa (rM hs)<|XW.bind (XW.mono (h A env s C) (λv aw aC aX x'=>aA x' λa y q=>?_) λJ J z=>z)
 show XW.bind (XW.pure aX.4 ?_);show XW.bind (cE (XW.mono (q A env aC (C.keep aX)) (λvs aG aL bh x'=>aA x' λl yl q2=>?_) λJ J z=>z));show XW.pure bh.4 (ao (a::l) (.cons (y.keep bh.5) yl) q2)
end
end
section
section
variable {c:Cx} {n:ar} {sc:bA} {ρ:ah (ak×AV)} {H:aj} {X:AX->aj->Prop}
theorem eE {h:bF}:∀b x,h.get? b=ae x->(h.push o).get? b=ae x:=λb x e=>fV o e
theorem xU (k:∀b o,h.get? b=ae o->h'.get? b=ae o):KP Ex H h H h':=λb o e=>(aP id id (λf=>(fR.same (k b o e))))
theorem DZ (R:cN c H h) (y:Vs H h l vs):V H (h.push ⟨.type "tuple",none,.seq vs.toArray 0,#[]⟩) (.tup l) (.ref h.objs.size):=
 (i5 _ 0 vs.toArray rfl (R.jR (fv _)) (fG _ rfl) (Vs.keep y (xU eE)))
theorem Eh (R:cN c H h) (y:Vs H h l vs):V H (h.push ⟨.type "list",none,.seq vs.toArray 0,#[]⟩) (.lst l) (.ref h.objs.size):=
 (i5 _ 0 vs.toArray rfl (R.jR (fv _)) (fG _ rfl) (Vs.keep y (xU eE)))
theorem aeI {Q:AV->aj->Prop} (R:cN c H s.heap) (y:Vs H s.heap l vs) (hz:l.length<=bY) (h:Q (.tup l) H):
  XW c A (newTuple vs) s bL H (λv H' s'=>∃av,V H' s'.heap av v/\Q av H') X:=
 up<|wpAny_newObj_type (ao H (.grow R eE) (ao (.tup l) (DZ R y) h)) (by show (?_:vs.toArray.size<=bY);show aa Fd<|aa y.length<|hz)
theorem acw {Q:AV->aj->Prop} (R:cN c H s.heap) (y:Vs H s.heap l vs) (hz:l.length<=bY) (h:Q (.lst l) H):
  XW c A (Uw vs) s bL H (λv H' s'=>∃av,V H' s'.heap av v/\Q av H') X:=
 up<|wpAny_newObj_type (ao H (.grow R eE) (ao (.lst l) (Eh R y) h)) (by show (?_:vs.toArray.size<=bY);show aa Fd<|aa y.length<|hz)
theorem Ż (R:cN c H s.heap) (y:Vs H s.heap l vs):
  SR c Ex H s (H.set s.heap.objs.size (.list l)) {s with heap:=s.heap.push ⟨.type "list",none,.seq vs.toArray 0,#[]⟩,toks:=t}:=
 .alloc R (fv _) eE (λJ J J J q=>by injection q) λfz=>(ew vs.toArray 0 (fG _ rfl) (by
  simpa using aZ.mono (λb o f e q J=>⟨fz b f (Fe (pJ e)),eE b o e⟩) _ _ y))
theorem Yh {Q:AV->aj->Prop} (R:cN c H s.heap) (y:Vs H s.heap l vs) (hz:l.length<=bY) (h:∀a,H a=none->Q (.ref a) (H.set a (.list l))):
  XW c A (Uw vs) s bL H (λv H' s'=>∃av,V H' s'.heap av v/\Q av H') X:=
 up<|wpAny_newObj_type (ao _ (Ż R y) (ao (.ref _) rfl (h _ (R.nq (fv _))))) (by show (?_:vs.toArray.size<=bY);show aa Fd<|aa y.length<|hz)
theorem ae7 (h:lT c n sc es pos ρ H (λl aw=>l.length<=bY/\Q (.tup l) aw) X):WE c n sc (.Tuple es k pos) ρ H Q X:=λA env s C=>
 Ŗ (XW.step (.refl C.1.1) (h A env s C) λvs aw aC aX cU x'=>cR x' λl y hz q=>XW.step cU (aeI aX.4 y hz q) λr aG aL bh da z=>(ao aG da z))
theorem Xs (h:lT c n sc es pos ρ H (λl aw=>l.length<=bY/\Q (.lst l) aw) X):WE c n sc (.List es pos) ρ H Q X:=λA env s C=>
 MK (XW.step (.refl C.1.1) (h A env s C) λvs aw aC aX cU x'=>cR x' λl y hz q=>XW.step cU (acw aX.4 y hz q) λr aG aL bh da z=>(ao aG da z))
theorem abx (h:lT c n sc es pos ρ H (λl aw=>l.length<=bY/\∀a,aw a=none->Q (.ref a) (aw.set a (.list l))) X):WE c n sc (.List es pos) ρ H Q X:=λA env s C=>
 MK (XW.step (.refl C.1.1) (h A env s C) λvs aw aC aX cU x'=>cR x' λl y hz q=>XW.step cU (Yh aX.4 y hz q) λr aG aL bh da z=>(ao aG da z))
noncomputable def y8:AV->aR aI
 | .ref a=>ae (.ref a)
 | .bi i=>ae (.builtin i)
 | .ty t=>ae (.type t)
 |_=>none
theorem agr (e:y8 a=ae f) (y:V H h a v):v=f:=by
 induction a using AV.casesOn <;> first|(cases e;done)|(exists (bZ e).symm;show y)
noncomputable def jW (K:iI):aI->aN
 | .ref a=>keepIn K (.ref a)
 | .builtin _=>ai
 | .type _=>ai
 |_=>au
noncomputable def gy (es:ah bR):aN:=es.all λe=> !tR e
theorem HS (h:gy es=ai):(iG pos (iH es env)).any (λx=>x.1)=au:=by
 induction es with
 |nil=>rfl
 |cons e r ih=>
  simp only [gy,Ff,d9,lC] at h;show aa (rM h.1)<|aa UL<|aa (ih h.2) ?_;rfl
theorem H7 (hs:gy es=ai)
  (h:aE c.M A (kU (iG pos (iH es env))) (λvs s'=>Q ⟨vs,[]⟩ s') E s):aE c.M A (vt f ai (iG pos (iH es env)) []) Q E s:=by
 induction es using c6 with
 |nil=>
  have e:vt f ai (iG pos (iH [] env)) []=((kU (iG pos (iH [] env)):cC (ah aI)) >>=λvs=>pure ⟨vs,[]⟩):=by with_unfolding_all rfl
  show aa e<|aS (cq h (λvs s' q=>bw q) λJ J z=>z)
 |cons e r=>
  simp only [gy,Ff,d9,lC] at hs;rw [rM hs.1] at h ⊢;show SX h
theorem zZ (hs:gy es=ai) (hf:jW c.K f=ai)
  (h:aE c.M A (kU (iG pos (iH es env))) (λvs s'=>c.K.In s'.heap/\aE c.M A (gN f (first++vs)) Q E s') E s):aE c.M A (yc pos f first (iG pos (iH es env)) []) Q E s:=by
 have ns:=HS (pos:=pos) (env:=env) hs;induction f using A0 <;> try ((first|(injection hf;done)|cases hf))
 ·show MA ns (H7 hs (cq h (λJ J z=>z.2) λJ J z=>z))
 ·show ø ns (H7 hs (cq h (λJ J z=>z.2) λJ J z=>z))
 ·show ZE (by exists ns;rfl) (keeps_K hf) (H7 hs h)
theorem υ (h:WE c n sc (.Name x p) ρ H (λa aw=>∃f,y8 a=ae f/\jW c.K f=ai/\lT c n sc es pos ρ aw (λl aG=>bq c n f l aG Q X) X) X)
  (hs:gy es=ai):WE c n sc (.Call (.Name x p) es [] pos) ρ H Q X:=λA env s C=>
 zB (XW.step (.refl C.1.1) (h A env s C) λv aw aC aX cU x'=>aA x' λa y y'=>cR y' λf e ok q=>aa (agr e y)<|zZ hs ok (XW.step cU (q A env aC (C.keep aX)) λvs aG aL bh da x'=>aA x' λl yl q2=>⟨bh.4.1,XW.step da (q2 A aL vs ((C.keep aX).keep bh).1 yl) λr aV bz cJ c9 z=>(ao aV c9 z)⟩))
def lp (c:Cx) (n:ar) (name:ak) (a:AV) (H:aj) (f:aI) (first:ah AV):Prop:=
 ∀A s v (pl:cC aN) (Q:aI×ah aI->aU->Prop) (E:aI->aU->Prop),CT c n A H s.heap->V H s.heap a v->
  (∀us t,Vs H s.heap first us->Q (f,us) {s with toks:=t})->a_ c.M A (UM v name pl) Q E s
noncomputable def xg (o:bR):aN:=match o with
 | .Call (.Name id _) [] [] _=>id !=("super":ak)
 |_=>ai
theorem Td (h:xg o=ai):UN o attr env whole=whole:=by
 induction o using kA with
 |Call f as ks pos=>
  induction f using kA with
  |Name id p=>
   induction as using c6 <;> try rfl
   induction ks using c6 <;> try rfl
   have h:(id !=("super":ak))=ai:=h;show bN (by simp only [h,Bool.true_or])
  |_=>rfl
 |_=>rfl
theorem Q2 (hb:xg o=ai) (HX:es.length < 30) (hp:(apos.endLine==pos.line)=ai) (hs:gy es=ai)
  (HO:pl=(do return (<-importBound o env).getD ai)):
  bX (.Call (.Attribute o name apos) es [] pos) env=(do
   let ov <-bX o env
   me apos.atName
   let (f,first) <-oh [ov] (UM ov name pl)
   yc pos f first (iG pos (iH es env)) []):=by
 have e1:bX (.Call (.Attribute o name apos) es [] pos) env=(do
   let ov <-UN o name env (bX o env)
   me apos.atName
   methodCall o name apos pos env ov (es.length+([]:ah Keyword).length) (iG pos (iH es env)) (backToKw pos (keywordEach [] env))):=rfl
 show aa e1<|aa (Td hb) ?_
 have gV:ahV (es.length+([]:ah Keyword).length) (iG pos (iH es env)) (backToKw pos (keywordEach [] env))=ai:=by
  have:=HS (pos:=pos) (env:=env) hs;unfold ahV
  rw [show (iG pos (iH es env)).all (λx=> !x.1)=ai from by
   rewrite [oq]
   intro x hx;rw [UO] at this;simpa using this x hx]
  show (?_:(ai && ai && decide (es.length+0+0 < 30))=ai);simpa using HX
 exists HO;unfold methodCall calleeOf methodCallPos;show aa gV<|aa hp ?_
 rfl
theorem W4 (h:WE c n sc o ρ H (λa aw=>∃f first,lp c n name a aw f first/\jW c.K f=ai/\lT c n sc es pos ρ aw (λl aG=>bq c n f (first++l) aG Q X) X) X)
  (hb:xg o=ai) (HX:es.length < 30) (hp:(apos.endLine==pos.line)=ai) (hs:gy es=ai):WE c n sc (.Call (.Attribute o name apos) es [] pos) ρ H Q X:=λA env s C=>by
 show aa (Q2 hb HX hp hs rfl)<|aS (XW.step (.refl C.1.1) (h A env s C) λv aw aC aX cU x'=>aA x' λa y y'=>cQ y' λf first m ok q=>aS (up<|wpAny_standAt (aS (cE ?_))))
 show up (m A aC v _ _ _ (C.keep aX).1 y λus t yu=>?_);have T:SR c bL aw aC aw {aC with toks:=t}:= .tok aX.4 t
 show zZ hs ok (XW.step (cU.trans T) (q A env {aC with toks:=t} ((C.keep aX).keep T)) λvs aG aL bh da x'=>aA x' λl yl q2=>
  ⟨bh.4.1,XW.step da (q2 A aL (us++vs) (((C.keep aX).keep T).keep bh).1 (aZ.append (Vs.keep yu (T.5.trans bh.5)) yl)) λr aV bz cJ c9 z=>(ao aV c9 z)⟩)
noncomputable def pX:ah ak->ah AV->ak->aR AV
 |k::ks,v::vs,x=>if k==x then ae v else pX ks vs x
 |_,_,_=>none
theorem zp {M:ah ak->ah kz->Prop} (h0:M [] []) (h1:∀k ks e es t,e.key= .str k t->kj ks es->M ks es->M (k::ks) (e::es)):∀{ks:ah ak} {es:ah kz},kj ks es->M ks es:=by
 intro ks;induction ks with
 |nil=>intro es h;induction es using c6 with
  |nil=>show h0
  |cons e es=>show Kv h
 |cons k ks ih=>intro es h;induction es using c6 with
  |nil=>show Kv h
  |cons e es=>show h1 k ks e es _ h.1.choose_spec h.2 (ih h.2)
theorem PI (kr:kj ks es):aZ P h vs (es.map (λx=>x.val))->pX ks vs x=ae a->∃e,es.find? (λy=>y.key.isStr x)=ae e/\VR P h a e.val:=
 zp (M:=λks es=>∀vs,aZ P h vs (es.map (λx=>x.val))->pX ks vs x=ae a->∃e,es.find? (λy=>y.key.isStr x)=ae e/\VR P h a e.val) (λvs J e=>by induction vs using c6 <;> injection e) (λk ks d es t ek J ih vs y e=>by
  induction vs using c6 with
  |nil=>injection e
  |cons v vs=>
   have q:d.key.isStr x=(k==x):=by exists ek;rfl
   show cQ y λu r z y1 y2=>?_;injection z with z1 z2
   exists Kw;exists q;cases hk:k==x with
   |true=>show ⟨d,rfl,(show d.val=u from z1)▸bZ ((bN hk).symm.trans e)▸y1⟩
   |false=>show ih vs (aa z2 y2) ((bo (by exists hk;decide)).symm.trans e)) kr vs
theorem OJ (h:kj ks es):es.any (λx=>x.refKey)=au:=
 zp (M:=λJ es=>es.any (λx=>x.refKey)=au) rfl (λk ks e es t ek J ih=>by show aa UL<|aa ih ?_;unfold UP;exists ek;rfl) h
theorem acE (h:kj ks es):ks.contains x=au->es.find? (λy=>y.key.isStr x)=none:=
 zp (M:=λks es=>ks.contains x=au->es.find? (λy=>y.key.isStr x)=none) (λJ=>rfl) (λk ks e es t ek J ih h=>by
  have q:e.key.isStr x=(k==x):=by exists ek;rfl
  rw [ahW,Fh] at h;rw [Kw,q,show (k==x)=au by show aa h.1.symm<|BEq.comm];show ih h.2) h
def xD (H:aj) (a:AV) (C:aF) (ks:ah ak) (vs:ah AV):Prop:=a= .obj C ks vs\/∃x dx,a= .ref x/\H x=ae (.inst C dx ks vs)
theorem xD.at (R:cN c H h) (i:xD H a C ks vs) (y:V H h a v):
  ∃x o dx es m,v= .ref x/\o.dict=ae dx/\InstAt h x o C (ae ⟨.type "dict",none,.dict es m,#[]⟩)/\kj ks es.toList/\Vs H h vs (es.toList.map (λx=>x.val)):=by
 rcases i with rfl|⟨x,dx,rfl,e⟩
 ·show Nz y λx dx o es m e p q g c1 d nc nf gd kr r=>C_ x o dx es m e d ⟨g,c1,nc,by show aa d<|gd⟩ kr r
 ·show Ak (R.6 x _ e) λo es m g c1 d nc nf gd kr r=>C_ x o dx es m y d ⟨g,c1,nc,by show aa d<|gd⟩ kr r
noncomputable def qN (K:iI) (C:aF) (name:ak):aN:=kB K (.ref C) "__getattribute__"==ae (ae (.builtin "object.__getattribute__")) && kB K (.ref C) name==ae none && vH K C
noncomputable def vc (K:iI) (C:aF) (name:ak) (f:aF):aN:=kB K (.ref C) "__getattribute__"==ae (ae (.builtin "object.__getattribute__")) && kB K (.ref C) "__getattr__"==ae none &&
 kB K (.ref C) name==ae (ae (.ref f)) && Fi K (.ref f)==ae (.type "function")
theorem Nf (y:V H h a v) (hb:∀i,a≠.bi i):Kx v=ai:=by
 revert hb;show V.cs y (λJ=>rfl) (λJ J=>rfl) (λJ J J=>rfl) (λJ J J=>rfl) (λJ J J=>rfl) (λJ J J J=>rfl) (λJ J=>rfl) λn h=>(h n rfl).elim
theorem RZ {K:iI} (o3:vH K C=ai) (o2:kB K (.ref C) name=ae none) (fe:es.toList.find? (λx=>x.key.isStr name)=ae e):
  findObj K C (ae ⟨.type "dict",none,.dict es m,#[]⟩) name=ae (.value e.val):=by
 unfold vH at o3;cases hc:tS K C with
 |none=>rw [hc] at o3;injection o3
 |some cd=>
  rw [hc] at o3;show (?_:(tS K C).bind _=_);show aa hc<|aa o2<|(?_:(ahX cd _ name).bind _=_)
  rw [show ahX cd (ae ⟨.type "dict",none,.dict es m,#[]⟩) name=ae (ae e.val) from (bN o3).trans (by
   show (?_:(match es.toList.find? (λx=>x.key.isStr name) with|some e=>ae (ae e.val)|none=>if es.toList.any (λx=>x.refKey) then none else ae none)=_);exists fe;rfl)]
  rfl
theorem afe (R:cN c H s.heap) (y:V H s.heap a v)
  (i:xD H a C ks vs) (ok:qN c.K C name=ai) (g:pX ks vs name=ae av) (hb:∀i,av≠.bi i) (h:∀u,V H s.heap av u->Q u {s with toks:=s.toks+1}):a_ c.M A (AU v name ex) Q E s:=by
 show Iy (i.at R y) λx o dx es m mI hd I kr r=>aa mI ?_;simp only [qN,d9,beq_iff_eq] at ok;show aM ok λo9 o3=>aM o9 λo1 o2=>aA (PI kr r g) λe fe ye=>get_value R.1 I o1 (RZ o3 o2 fe) (Nf ye hb) (h _ ye)
theorem aa8 (h:WE c n sc value ρ H (λa aw=>∃C ks vs av,xD aw a C ks vs/\qN c.K C attr=ai/\pX ks vs attr=ae av/\(∀i,av≠.bi i)/\Q av aw) X)
  (hb:xg value=ai):WE c n sc (.Attribute value attr pos) ρ H Q X:=λA env s C=>by
 show MI (XW.step (.refl C.1.1) (h A env s C) λv aw aC aX cU x'=>aA x' λa y y'=>BY y' λC' ks vs av i ok g nb q=>?_) (by
  show (?_:(do
   let o <-UN value attr env (bX value env)
   me pos.atName
   let r <-oh [o] (AU o attr ai)
   ahO value o r
   pure r)=_)
  exists Td hb;rfl)
 show up<|afe aX.4 y i ok g nb λu yu=>(ao aw (cU.trans (.tok aX.4 _)) (ao av yu q))
theorem R4 (i:xD H a C ks vs) (ok:vc c.K C name f=ai) (hk:ks.contains name=au):lp c n name a H (.ref f) [a]:=λA s v pl Q E Md y h=>by
 show Iy (i.at Md.1 y) λx o dx es m ze hd I kr r=>?_;subst ze;simp only [vc,d9,beq_iff_eq] at ok;show aM ok λJD o4=>aM JD λJG o3=>aM JG λo1 o2=>method_fn Md.1.1 I o1 o2 o3 o4 ?_ (h _ s.toks (.cons y .nil));unfold shadowIn lookIn;simp only [acE kr hk,OJ kr];rfl
end
end
section
inductive cG (P:aF->Prop) (h h':bF):Prop
 |mk (k:∀b o,h.get? b=ae o->fR P b o h')
theorem cG.refl:cG P h h:=⟨λb o e=>(fR.same e)⟩
theorem cG.trans (x:cG P h bf) (y:cG P bf cn):cG P h cn:=⟨λb o e=>(x.1 b o e).trans (y.1 b)⟩
theorem cG.more (x:cG P h h') (k:∀b,P b->P' b):cG P' h h':=⟨λb o e=>(x.1 b o e).more (k b)⟩
theorem cG.get (x:cG P h h') (e:h.get? b=ae o) (n:¬P b) (q:cO o=au):h'.get? b=ae o:=(x.1 b o e).el λo1 e1 c1 d1 k1=>(k1 n).2 (BV q)▸e1
theorem cG.push:cG P h (h.push o):=⟨λb x e=>(fR.same (eE b x e))⟩
theorem cG.field (f:dm aI->dm aI) (e:h.get? a=ae o) (d:o.data= .fields vs) (p:P a):cG P h (h.update a (mh f)):=by
 show ⟨λb x g=>?_⟩;by_cases q:b=a
 ·subst q;rw [e] at g;injection g with ct;subst ct
  show (fR.mk _ (jK _ e (A3 (tT d _))) (Ky _ _) (λq=>by show dP q λes n z=>?_;rw [d] at z;injection z) (λn=>cy p n))
 ·show (fR.same ((gP _ _ (bI q)).trans g))
noncomputable def Dj:bF:={}
theorem Ģ (b:aF):Dj.get? b=none:=by
 cases q:Dj.get? b with
 |none=>rfl
 |some o=>show cy (pJ q) (ahY _)
theorem aaD {o:eU} (d:jq o.data):∀vs,o.data≠.fields vs:=λvs e=>by show dP d λes n z=>?_;injection (z).symm.trans e
theorem W7 {h:bF} {H:aj} {l:ah eJ} (k:∀env∈l,env.scope.kind= .function/\vf H h env):h.FunFrames Dj l:=by
 induction l with
 |nil=>trivial
 |cons env l ih=>show aM (k env (.head _)) λa w=>CA w λL o b g f d z=>aP (aa a ⋯) (s8 L o b (Ģ L) g (aaD d)) (ih λe he=>k e (.tail _ he))
theorem cG.slots {P:aF->Prop} {h h':bF} {H:aj} {l:ah eJ} (k:∀env∈l,env.scope.kind= .function/\∃L o,env.frame=ae L/\h.get? L=ae o/\kJ L o=ai/\jq o.data/\Fz H L)
  (x:ahZ (l.filterMap (λx=>x.frame)) h h'):cG P h h':=by
 show ⟨λb o e=>?_⟩;show bj (x.2.2 b o e) λsl e'=>(fR.mk _ e' rfl id (λJ=>⟨rfl,λq=>?_⟩))
 have:b∉l.filterMap (λx=>x.frame):=λhm=>by
  show aA (List.mem_filterMap.mp hm) λenv he hb=>aM (k env he) λJ u_=>vd u_ λL oL f g fr J=>?_;rw [f] at hb;injection hb with et;subst et
  rw [g] at e;injection e with eR;subst eR
  injection (fr).symm.trans q
 have e2:=(x.2.1 b this).trans e;rw [e'] at e2;show bZ e2
section
variable {c:Cx} {n:ar} {sc:bA} {ρ:ah (ak×AV)} {H:aj} {X:AX->aj->Prop}
theorem cG.rep (R:cN c H h) (x:cG P h h') (hP:∀b o,P b->h.get? b=ae o->c_ o=ai/\c.K.lookup b=none):cN c H h':=
 R.keep λb o e q z=>x.get e (λp=>by
  show aM (hP b o p e) λa1 a2=>?_;rcases z with z|z
  ·injection (a1).symm.trans z
  ·rw [a2] at z;injection z) q
theorem cG.sr {P:aF->Prop} {lo:bF} {s:aU} {h':bF} (R:cN c H s.heap) (hn:c.K.In lo) (x:cG P s.heap h') (hP:∀b o,P b->s.heap.get? b=ae o->c_ o=ai/\lo.get? b=none):SR c (λx=>lo.get? x=none) H s H {s with heap:=h'}:=
 ⟨rfl,rfl,rfl,x.rep R λb o p e=>⟨(hP b o p e).1,n_ hn (hP b o p e).2⟩,λb o e=>⟨id,id,λf=>(x.1 b o e).more λp=>(hP b o p e).2⟩,λb o e=>(x.1 b o e).el λo1 e1 J J J=>⟨o1,e1⟩⟩
theorem cG.vs {P:aF->Prop} {h h':bF} {l:ah AV} {vs:ah aI} (x:cG P h h') (hP:∀b o,P b->h.get? b=ae o->c_ o=ai) (y:Vs H h l vs):Vs H h' l vs:=
 aZ.mono (λb o f e q z=>⟨f,x.get e (λp=>by injection (hP b o p e).symm.trans z) q⟩) l vs y
def iQ (h:bF) (ea:aF) (b:aF):Prop:=b=ea\/∃o vs,h.get? ea=ae o/\o.data= .fields vs/\vs[1]?=ae (.ref b)
theorem cB.Ca {t:aN} {lo:bF} {h:bF} {x:AX} {e:aI} (q:cB t lo H h x e):∃ea,e= .ref ea/\∀b o,iQ h ea b->h.get? b=ae o->c_ o=ai/\lo.get? b=none:=by
 show cB.el q λea d es n vs sl a1 a0 a2 a3 a4 a5 a6 a7 a8 ac a9=>(ao ea a1 (λb o p g=>?_));rcases p with rfl|⟨o',dO,g1,g2,g3⟩
 ·rw [a4] at g;injection g with fD;subst fD;show ⟨rfl,a0⟩
 ·rw [a4] at g1;injection g1 with jb;subst jb;injection g2 with j9;subst j9
  show a9.elim (λy=>mE.el y λT oT ts f b1 b0 b2 b3 b4 b5 b6 b7=>?_) λy=>aM y λJ z=>?_
  ·rw [b1] at g3;injection g3 with jC;injection jC with mH;subst mH
   rw [b4] at g;injection g with qV;subst qV
   show ⟨by unfold c_;exists b6;rfl,b0⟩
  ·injection (z).symm.trans g3 with mU;injection mU
theorem cG.aaw (F:lj A H h) (x:cG P h h'):lj A H h':=by
 show aA F.1 λl e g=>⟨l,e,λenv he=>?_⟩;show aM (g env he) λa Im=>CA Im λL o b g1 f1 d1 z1=>(x.1 L o g1).el λo2 g2 c2 d2 J=>⟨a,L,o2,b,g2,(BH c2).trans f1,d2 d1,z1⟩
theorem ð {H:aj} {h:bF} {T:aF}:∀{l:ah aF} {v:aI},h.get? T=none->T∈l->dC H h l v->dV:=by
 intro l;induction l with
 |nil=>intro v q hm;cases hm
 |cons a l ih=>
  intro v q hm x;show dC.el x λJ o J J J g J J J r=>?_;rcases List.mem_cons.mp hm with rfl|hm
  ·injection (q).symm.trans g
  ·show ih q hm r
theorem cB.soft {t':aN} {lo:bF} {h h':bF} {x:AX} {e:aI} {ea:aF} {d:aF} {es:dm kz} {n:ar} {vs dO:dm aI} {sl:dm (aR aI)}
  (S:cG (iQ h ea) h h') (hP:∀b o,iQ h ea b->h.get? b=ae o->c_ o=ai)
  (a1:e= .ref ea) (a0:lo.get? ea=none) (a2:Fz H ea) (a3:Fz H d) (a4:h.get? ea=ae ⟨.ref x.C,ae d,.fields vs,sl⟩) (a5:dO.size=6)
  (a6:h.get? d=ae ⟨.type "dict",none,.dict es n,#[]⟩) (a7:kj ["what","at"] es.toList) (a8:Vs H h [x.jt,x.at_] (es.toList.map (λx=>x.val))) (ac:wL H h ea vs)
  (g:h'.get? ea=ae ⟨.ref x.C,ae d,.fields dO,sl⟩) (h2:dO[2]?=vs[2]?) (h1:∀T,dO[1]?=ae (.ref T)->vs[1]?=ae (.ref T)\/h.get? T=none)
  (a9:mE lo H h' ea dO\/(t'=au/\dO[1]?=ae .none)):cB t' lo H h' x e:=by
 have nd:¬iQ h ea d:=λp=>by have:=hP d _ p a6;injection this
 show (uK ea d es n dO sl a1 a0 a2 a3 g a5 (S.get a6 nd rfl) a7 (S.vs hP a8) ?_ a9);show vd ac λu l c1 c2 c3 c4=>(s8 u l (h2.trans c1) (c2.mono λb o hb f gb q fl=>⟨f,S.get gb (λp=>?_) q⟩) c3 (λT hT hl=>?_))
 ·rcases p with rfl|⟨o',aka,g1,g2,g3⟩
  ·show c3 hb
  ·rw [a4] at g1;injection g1 with rj;subst rj;injection g2 with qZ;subst qZ
   show c4 b g3 hb
 ·rcases h1 T hT with q|q
  ·show c4 T q hl
  ·show dP (tU hl) λl₁ akb eM=>?_;subst eM;clear h1 c4 c3 a9;induction l₁ generalizing u vs with
   |nil=>show aM c2 λJ Ij=>?_;show fM Ij λo J J J gT J=>?_;injection (q).symm.trans gT
   |cons z r ih=>show ð q ‹_› c2
theorem Gl {A:eX} {t:aN} {lo:bF} {s:aU} {x:AX} {e:aI} {fr:aR aF} {Q:gv->aU->Prop} {E:aI->aU->Prop} (q:cB t lo H s.heap x e)
  (h:∀ea h',e= .ref ea->cG (iQ s.heap ea) s.heap h'->(∀b o,iQ s.heap ea b->s.heap.get? b=ae o->c_ o=ai/\lo.get? b=none)->cB t lo H h' x e->Q () {s with heap:=h'}):a_ c.M A (vq e fr) Q E s:=by
 show aA q.Ca λgj e1 hP=>?_;have q0:=q;show cB.el q λea d es n vs sl a1 a0 a2 a3 a4 a5 a6 a7 a8 ac a9=>?_;obtain rfl:gj=ea:=by injection (a1).symm.trans e1 with uS;exists uS;rfl
 subst a1;show a9.elim (λy=>mE.el y λT oT ts f b1 b0 b2 b3 b4 b5 b6 b7=>?_) λy=>aM y λz1 z=>?_
 ·show aJ (ku a4 rfl b1 ?_);exists bN (show (dp T !=kC)=ai from by simp);show vJ b4 b6 (Array.getElem?_eq_some_iff.mp b7).1 ?_;have S:cG (iQ s.heap gj) s.heap (s.heap.update T (mh (λx=>x.setIfInBounds 3 (fr.elim .none λf=>lD f)))):= .field _ b4 b6 (.inr (cI _ _ a4 rfl b1));show h gj _ rfl S hP (cB.soft S (λb o p g=>(hP b o p g).1) rfl a0 a2 a3 a4 a5 a6 a7 a8 ac ((gP _ _ b2).trans a4) rfl (λT h=> .inl h) (.inl ?_));show (xm T _ _ (fr.elim .none λf=>lD f) b1 b0 b2 b3 (jK _ b4 (A3 (tT b6 _))) ((qM (Ky _ _)).trans b5) (tT b6 _) ?_)
  ·exists Fj (Array.getElem?_eq_some_iff.mp b7).1;rfl
 ·show aJ (ku a4 rfl z ?_);show bg (h gj _ rfl .refl hP q0)
theorem Yy (oX:A.frames=ae (e0::outer)) (hl:s.heap.FunFrames Dj (e0::outer))
  (Qe:e0.frame=env.frame) (hf:env.frame=ae L) (h:∀h',ahZ ((e0::outer).filterMap (λx=>x.frame)) s.heap h'->Q (.ref L) {s with heap:=h'}):a_ c.M A (ah0 env) Q E s:=by
 show aJ (wpAny_frameEnvs oX ?_);have Zm:((e0::outer).dropWhile λx=>x.frame !=env.frame)=e0::outer:=by exists Qe.symm;simp [List.dropWhile]
 show aa Zm<|wpAny_bind (aJ (wpAny_readyFrames_fun hl λbf qQ=>bg ?_))
 show aa Qe<|aa hf<|wpAny_pure (h bf qQ)
theorem cG.Y5 (x:cG P h bf):cG P h (bf.push o):=x.trans .push
theorem Tb {A:eX} {env:eJ} {L:aF} {t:aN} {lo:bF} {s:aU} {x:AX} {e head:aI} {ahp:aN} {Q:gv->aU->Prop} {E:aI->aU->Prop} (hn:∀b,s.heap.get? b=none->lo.get? b=none) (R:cN c H s.heap) (q:cB t lo H s.heap x e) (F:lj A H s.heap) (hd:zO A env) (hf:env.frame=ae L)
  (h:∀ea h',e= .ref ea->cG (iQ s.heap ea) s.heap h'->cB ai lo H h' x e->Q () {s with heap:=h'}):
  a_ c.M A (do let a <-ah0 env;let pl <-entryPlaceOf L ahp;let b <-akt head a .none (lD L) .none pl;setField e 1 b) Q E s:=by
 show aA q.Ca λgj e1 hP=>cB.el q λea d es n vs sl a1 a0 a2 a3 a4 a5 a6 a7 a8 ac a9=>?_;obtain rfl:gj=ea:=by injection (a1).symm.trans e1 with uH;exists uH;rfl
 subst a1;show d8 hd λe0 outer oX h0=>aA F.1 λl e2 g=>?_;rw [oX] at e2;injection e2 with u4;subst u4
 show aJ (Yy oX (W7 g) h0 hf λbf qQ=>?_);have aX:cG (iQ s.heap gj) s.heap bf:= .slots g qQ
 have MP:bf.get? gj=ae ⟨.ref x.C,ae d,.fields vs,sl⟩:=by
  have:gj∉(e0::outer).filterMap (λx=>x.frame):=λhm=>by
   show aA (List.mem_filterMap.mp hm) λenv he hb=>aM (g env he) λJ ù=>vd ù λL oL f g fr J=>?_;rw [f] at hb;injection hb with Ke;subst Ke
   rw [a4] at g;injection g with Gp;subst Gp;injection fr
  show (qQ.2.1 _ this).trans a4
 show aJ (wpAny_entryPlaceOf λpl HO=>?_);show aJ (vw ?_ (HO.sizeOk5 _ _ _ _ _));have Gw:=fV (h:=bf) {cls:= .type "traceback",dict:=none,data:= .fields ([head,.ref L,.none,lD L,.none]++(if pl.isEmpty then UQ 6 kC else pl)).toArray} MP;show vJ Gw rfl (by exists a5;lia) ?_;have Pe:bf.objs.size≠gj:=ah1 (pJ MP);have ael:=jK (mh (λx=>x.setIfInBounds 1 (dp bf.objs.size))) Gw (A3 (tT rfl _))
 have é:=(gP (bf.push {cls:= .type "traceback",dict:=none,data:= .fields ([head,.ref L,.none,lD L,.none]++(if pl.isEmpty then UQ 6 kC else pl)).toArray})
  (mh (λx=>x.setIfInBounds 1 (dp bf.objs.size))) (bI Pe)).trans (fG bf rfl)
 have bh:cG (iQ s.heap gj) s.heap _:=(aX.Y5 (o:={cls:= .type "traceback",dict:=none,data:= .fields ([head,.ref L,.none,lD L,.none]++(if pl.isEmpty then UQ 6 kC else pl)).toArray})).trans
  (.field (λvs=>vs.setIfInBounds 1 (dp bf.objs.size)) Gw rfl (.inl rfl))
 have fresh:s.heap.get? bf.objs.size=none:=by
  cases q:s.heap.get? bf.objs.size with
  |none=>rfl
  |some o=>show aA (aX.1 _ o q) λo' e' J=>?_;rw [fv] at e';injection e'
 show h gj _ rfl bh (cB.soft bh (λb o p g=>(hP b o p g).1) rfl a0 a2 a3 a4 (aa UR a5) a6 a7 a8 ac ael (by exists Kz ⋯;rfl) (λT hT=>?_) (.inl ?_))
 ·rw [Fj (by exists a5;lia)] at hT;injection hT with IU;injection IU with Ip;subst Ip;show .inr fresh
 ·show (xm bf.objs.size _ _ (lD L) (by rw [Fj (by exists a5;lia)]) (hn _ fresh) Pe ?_ é rfl rfl ?_)
  ·show R.jR fresh
  ·rfl
theorem aec {ea T:aF} (g:h.get? ea=ae o) (d:o.data= .fields vs) (g':h'.get? ea=ae o') (d':o'.data= .fields dO) (e:dO[1]?=vs[1]?) (p:iQ h' ea b):iQ h ea b:=by
 rcases p with p|⟨o2,D6,g2,d2,e2⟩
 ·show .inl p
 ·rw [g'] at g2;injection g2 with IT;subst IT;rw [d'] at d2;injection d2 with Ji;subst Ji
  show .inr (cI o vs g d (e▸e2))
theorem Pl {A:eX} {env:eJ} {t:aN} {lo:bF} {s:aU} {x:AX} {e:aI} {Q:gv->aU->Prop} {E:aI->aU->Prop} (nh:c.K.In lo) (hn:∀b,s.heap.get? b=none->lo.get? b=none) (R:cN c H s.heap) (q:cB t lo H s.heap x e) (F:lj A H s.heap) (hd:zO A env) (hf:∃L,env.frame=ae L)
  (h:∀ea h',e= .ref ea->cG (iQ s.heap ea) s.heap h'->(∀b o,iQ s.heap ea b->s.heap.get? b=ae o->c_ o=ai/\lo.get? b=none)->cB ai lo H h' x e->Q () {s with heap:=h'}):a_ c.M A (lA e env) Q E s:=by
 show bj hf ?_;intro L hf;show aA q.Ca λgj e1 hP=>?_;have q0:=q;show cB.el q λea d es n vs sl a1 a0 a2 a3 a4 a5 a6 a7 a8 ac a9=>?_;obtain rfl:gj=ea:=by injection (a1).symm.trans e1 with aej;exists aej;rfl
 subst a1;unfold lA;rw [hf];show a9.elim (λy=>mE.el y λT oT ts f b1 b0 b2 b3 b4 b5 b6 b7=>?_) λy=>aM y λz1 z=>?_
 ·show aJ (ku a4 rfl b1 ?_);exists bN (show (dp T !=kC)=ai from by simp);show aJ (ku b4 b6 b7 ?_);show US ?_;split
  ·show bg (h gj _ rfl .refl hP (uK gj d es n vs sl rfl a0 a2 a3 a4 a5 a6 a7 a8 ac (.inl (xm T oT ts f b1 b0 b2 b3 b4 b5 b6 b7))))
  ·show aJ (vJ b4 b6 (Array.getElem?_eq_some_iff.mp b7).1 ?_);have S:cG (iQ s.heap gj) s.heap (s.heap.update T (mh (λx=>x.setIfInBounds 3 .none))):= .field _ b4 b6 (.inr (cI _ _ a4 rfl b1));have g':(s.heap.update T (mh (λx=>x.setIfInBounds 3 .none))).get? gj=ae ⟨.ref x.C,ae d,.fields vs,sl⟩:=(gP _ _ b2).trans a4
   have q1:cB ai lo H (s.heap.update T (mh (λx=>x.setIfInBounds 3 .none))) x (.ref gj):=cB.soft S (λb o p g=>(hP b o p g).1) rfl a0 a2 a3 a4 a5 a6 a7 a8 ac g' rfl (λT h=> .inl h) (.inl
    (xm T _ _ .none b1 b0 b2 b3 (jK _ b4 (A3 (tT b6 _))) ((qM (Ky _ _)).trans b5) (tT b6 _) (by
     exists Fj (Array.getElem?_eq_some_iff.mp b7).1;rfl)))
   have R1:cN c H (s.heap.update T (mh (λx=>x.setIfInBounds 3 .none))):=S.rep R λb o p g=>⟨(hP b o p g).1,n_ nh (hP b o p g).2⟩
   show Tb (t:=ai) (lo:=lo) (x:=x) (λb q=>hn b (by
    cases z:s.heap.get? b with
    |none=>rfl
    |some o=>show aA (S.1 b o z) λo' e' J=>?_;injection (q).symm.trans e')) R1 q1 (S.aaw F) hd hf λea h' e2 S2 q2=>?_
   injection e2 with abd;subst abd
   show h gj _ rfl (S.trans (S2.more λb p=>aec (h:=s.heap) (T:=T) a4 rfl g' rfl rfl p)) hP q2
 ·show aJ (ku a4 rfl z ?_);show Tb (t:=t) hn R q0 F hd hf λea h' e2 S2 q2=>by injection e2 with adO;subst adO;show h gj _ rfl S2 hP q2
end
end
section
theorem Mg (hn:s.heap.Ns a m)
  (h:∀h',h'.Ns a (λx=>if x=name then ae v else m x)->iZ a s.heap h'->(∀o,s.heap.get? a=ae o->∃o',h'.get? a=ae o'/\o'.cls=o.cls)->Q () {s with heap:=h',toks:=s.toks+1}):
  a_ M A (nsSet a name v) Q E s:=by
 show gU hn λo es ep ho hd hk hm=>?_;rcases o with ⟨c,d,dt,sl⟩
 obtain rfl:dt= .dict es ep:=hd
 have Mj:es.any (λx=>x.refKey)=au:=by
  rewrite [ah2];show λe he=>dP (hk e he) λn t h=>by unfold UP;rewrite [h];show jJ
 unfold nsSet;show aJ (aJ (Km (bg (aJ (UT (aJ (A4 ho ?_)))))));dsimp only
 rewrite [ah3,Mj,KA]
 generalize (if name.cps.isEmpty=ai then (0:aq) else _)=hh;show UU ho ?_
 have go:∀o',Fl name hh (.str name s.toks) v ⟨c,d,.dict es ep,sl⟩=o'->o'.isFreed=au->o'.cls=c->(∃es' Hz,o'.data= .dict es' Hz/\StrKeys es'/\∀x,nsFind es' x=if x=name then ae v else m x)->Q () {s with heap:=s.heap.update a (Fl name hh (.str name s.toks) v),toks:=s.toks+1}:=λo' e nf hc hn=>by
  have hg:=jK (Fl name hh (.str name s.toks) v) ho (aa e nf);rw [e] at hg;show cQ hn λes' Hz d' k' f'=>h _ (i5 o' es' Hz hg d' k' f') (Fm ..) λo2 e2=>ao o' hg (hc.trans (bD Obj.cls (bZ (ho.symm.trans e2))))
 cases hi:es.findIdx? (λx=>x.key.isStr name) with
 |some i=>
  show go ⟨c,d,.dict (es.modify i λe=>{e with val:=v}) ep,sl⟩ (by rewrite [UW];unfold UX;dsimp only;rewrite [hi];rfl) rfl rfl (cI _ _ rfl (hk.modify _ _) λx=>?_)
  rewrite [<-hm];show findBy_modify (λn v=>v.isStr n) Value.isStr_inj es name x v i hi
 |none=>
  show go ⟨c,d,.dict (es.push ⟨hh,.str name s.toks,v⟩) (ep+1),sl⟩ (by rewrite [UW];unfold UX;dsimp only;rewrite [hi];rfl) rfl rfl (cI _ _ rfl (hk.push _ _ _ _) λx=>?_)
  rewrite [<-hm];show findBy_push (λn v=>v.isStr n) es name x _ _ v (λy=>decide_eq_decide.mpr eq_comm) hi
theorem WD (hc:s.heap.IsCell a v₀)
  (h:∀h',h'.IsCell a v->iZ a s.heap h'->(∀o,s.heap.get? a=ae o->∃o',h'.get? a=ae o'/\o'.cls=o.cls)->Q () {s with heap:=h'}):a_ M A (cellSet a v) Q E s:=by
 show aA hc λo ho hd=>aJ (rV ho ?_);exists hd;have g:=jK (λo=>{o with data:= .cell v}) ho rfl;show UY ho (h _ (ao _ g rfl) (Fm ..) λo2 e2=>by rw [ho] at e2;exists (bZ e2).symm;show (ao _ g rfl))
section
variable {c:Cx} {n:ar} {sc:bA} {ρ:ah (ak×AV)} {H:aj} {X:AX->aj->Prop}
theorem SR.one (R:cN c H s.heap) (ha:s.heap.get? a=ae o) (sa:(H a=ae .priv/\c_ o=au)\/(Fz H a/\(cO o=ai\/dT o=ai))) (ex:Ex a)
  (sb:iZ a s.heap h') (g:∃o',h'.get? a=ae o'/\o'.cls=o.cls/\(jq o.data->jq o'.data)/\c_ o'=c_ o):SR c Ex H s H {s with heap:=h',toks:=tk}:=by
 show eO g λo' g1 g2 g3 g4=>?_
 have nk:∀x,c.K.lookup a=ae x->dV:=λx e=>sa.elim (λq=>oo _ (e.symm.trans (R.3 a _ q.1))) λq=>by
  have k:=R.2 a x e;have k:=bZ ((R.1 a x e).symm.trans ha)▸k;show q.2.elim (λz=>nomatch k.1.symm.trans z) λz=>nomatch k.2.symm.trans z
 have nz:Fz H a->cO o=au->c_ o=au->dV:=λf q1 q2=>sa.elim (λq=>f (.inl λz=>nomatch q.1.symm.trans z)) λq=>q.2.elim (λz=>nomatch q1.symm.trans z) λz=>nomatch z.symm.trans (Je q2);have nd:=λx C ks vs e=>sa.elim (λq=>nomatch q.1.symm.trans (R.4 x C a ks vs e).2) λq=>q.1 (.inr (mK x C ks vs e))
 show ⟨rfl,rfl,rfl,⟨λx y e=>(sb.2 x λq=>nk y (q▸e)).trans (R.1 x y e),R.2,R.3,R.4,R.5,λx y e=>(vF (x=a)).elim (λq=>?_) λq=>(R.6 x y e).mono λb ob gb q1 q2=>⟨id,λz=>(sb.2 b λw=>?_).trans gb⟩⟩,
  λb x e=>aP id id λf=>(vF (b=a)).elim (λq=>?_) λq=> .same ((sb.2 b q).trans e),λb x e=>(vF (b=a)).elim (λq=>⟨o',q▸g1⟩) λq=>⟨x,(sb.2 b q).trans e⟩⟩
 ·have e':=q▸e;show sa.elim (λk=>?_) λk=>(k.1 (.inl λz=>nomatch e'.symm.trans z)).elim;rw [q,<-bZ (k.1.symm.trans e')];show cR (R.6 a _ k.1) λo2 h1 h2 h3=>bV o' g1 ((qM g2).trans (bZ (h1.symm.trans ha)▸h2)) (g4.trans (bZ (h1.symm.trans ha)▸h3))
 ·have eo:=bZ (gb.symm.trans (aa w ha));show z.elim (λz=>nz (w▸z) (eo▸q1) (eo▸q2)) λz=>z.elim (λz=>q (z.symm.trans w)) λz=>rl z λC ks vs z=>nd x C ks vs (w▸z▸e)
 ·rw [bZ (e.symm.trans (aa q ha))];show .mk o' (aa q g1) g2 g3 λn=>(n (aa q ex)).elim
theorem V.one (y:V H h av v) (ha:h.get? a=ae o) (sa:H a=ae .priv\/(Fz H a/\(cO o=ai\/dT o=ai))) (sb:iZ a h h'):V H h' av v:=by
 have fl:dT o=ai->c_ o=ai:=λq=>by unfold dT at q;unfold c_;split at q <;> simp_all
 show VR.mono (λb ob f e q1 q2=>⟨f,(sb.2 b λw=>?_).trans e⟩) av v y;subst w;rw [ha] at e;injection e with mH;subst mH
 rcases sa with q|⟨_,q|q⟩
 ·show f (.inl (by exists q;simp))
 ·rw [q] at q1;injection q1
 ·rw [fl q] at q2;injection q2
noncomputable def j_ (k:aR vG):aN:=k==ae .local||k==ae .cell
theorem lookup_cons_self:((x,a)::ρ).lookup x=ae a:=by simp [KC]
theorem k_ (h:y≠x):((x,a)::ρ).lookup y=ρ.lookup y:=by
 exists yj;simp [beq_eq_false_iff_ne.mpr h]
theorem rh (R:cN c H s.heap) (er:cF H s.heap env ρ) (hk:j_ (env.kindOf x)=ai) (y:V H s.heap av v)
  (h:∀s',SR c (fw env) H s H s'->cF H s'.heap env ((x,av)::ρ)->Q () s'):a_ c.M A (xZ env x v) Q E s:=by
 unfold j_ at hk;simp -iota only [A5,beq_iff_eq] at hk;show aA er.6 λm hn hm=>aA er.5 λoL gL dL=>?_;have pv:H env.locals=ae .priv\/(Fz H env.locals/\(cO oL=ai\/dT oL=ai)):=er.11.imp id λx'=>aM x' λz1 y'=>aA y' λo z2 z3=>⟨z1,.inl (by rw [gL] at z2;exists bZ z2;show z3)⟩;rcases hk with hk|hk
 ·have hp:(env.scope.kind== .class||(env.scope.kind== .module && env.locals !=env.globals))=au:=by exists er.1;rfl
  rewrite [ah4 hk hp]
  show Mg hn λh' dU sb hc=>aA (hc oL gL) λlV lL tE=>?_;have oE:jq lV.data:=by show fM dU λo es ep q1 q2 J=>?_;injection (lL).symm.trans q1 with mU;show aa mU<|(jF es ep q2)
  have fl:∀o:eU,jq o.data->c_ o=au:=λo x'=>dP x' λes n q=>by unfold c_;exists q;rfl
  have S:SR c (fw env) H s H {s with heap:=h',toks:=s.toks+1}:= .one R gL (pv.imp (λq=>⟨q,fl _ dL⟩) id) (.inl rfl) sb (i_ lV lL tE (λJ=>oE) ((fl _ oE).trans (fl _ dL).symm));show h _ S ⟨er.1,er.2,er.3,er.4,(ao lV lL oE),(ao _ dU (λz az e q=>?_)),λz cz e=>?_,λz az e q=>?_,er.9,er.10,er.11.imp id λx'=>aM x' λz1 y'=>aA y' λo z2 z3=>⟨z1,lV,lL,by rw [gL] at z2;injection z2 with rj;subst rj;show (qM tE).trans z3⟩⟩
  ·by_cases hz:z=x
   ·subst hz;rw [lookup_cons_self] at e;exists (bZ e).symm;show (ao v (by simp -iota) (y.one gL pv sb))
   ·rw [k_ hz] at e;show aA (hm z az e q) λu a1 a2=>(ao u (by simp -iota [hz,a1]) (a2.one gL pv sb))
  ·show fP (er.7 z cz e) λbC b d=>bj bC λu a=>(aP ⟨u,a.sameBut sb d⟩ b d)
  ·have hz:z≠x:=λw=>by rw [w,hk] at q;rcases q with q|q <;> (injection q with uS;injection uS)
   rw [k_ hz] at e;show cQ (er.8 z az e q) λcz u a1 a2 a3=>(cI cz u a1 (a2.sameBut sb (er.7 z cz a1).2.2) (a3.one gL pv sb))
 ·show bj (er.9 x hk) λcx zK=>fP (er.7 x cx zK) λbW fz ne=>bj bW λu hu=>?_;unfold xZ;rw [hk,er.1];show aJ (wpAny_cellOf zK (WD hu λh' hc' sb pV=>?_));show aA hu λoc gc dc=>aA hc' λCe Cf Gd=>aA (pV oc gc) λoc2 MN YL=>?_;rw [Cf] at MN;injection MN with uH;subst uH
  have ic:dT oc=ai:=by unfold dT;exists dc;rfl
  have Jb:H cx=ae .priv\/(Fz H cx/\(cO oc=ai\/dT oc=ai)):= .inr ⟨fz,.inr ic⟩;have S:SR c (fw env) H s H {s with heap:=h'}:= .one R gc (.inr ⟨fz,.inr ic⟩) (.inr ⟨x,zK,hk⟩) sb ⟨Ce,Cf,YL,(λx'=>dP x' λes n q=>by injection (dc).symm.trans q),by unfold c_;show aa dc<|aa Gd ?_;rfl⟩;show h _ S ⟨er.1,er.2,er.3,er.4,(ao oL ((sb.2 _ ne.symm).trans gL) dL),(ao m (hn.sameBut sb ne.symm) (λz az e q=>?_)),λz cz e=>?_,λz az e q=>?_,er.9,er.10,er.11.imp id λx'=>aM x' λz1 y'=>aA y' λo z2 z3=>⟨z1,o,(sb.2 _ ne.symm).trans z2,z3⟩⟩
  ·have hz:z≠x:=λw=>by rw [w,hk] at q;injection q with u4;injection u4
   rw [k_ hz] at e;show aA (hm z az e q) λu a1 a2=>(ao u a1 (a2.one gc Jb sb))
  ·show fP (er.7 z cz e) λdD b d=>bj dD λu a=>?_;by_cases w:cz=cx
   ·subst w;show (aP (ew _ Ce Cf Gd) b d)
   ·show (aP ⟨u,a.sameBut sb w⟩ b d)
  ·by_cases hz:z=x
   ·subst hz;rw [lookup_cons_self] at e;exists (bZ e).symm;show (cI cx v zK (ao Ce Cf Gd) (y.one gc Jb sb))
   ·rw [k_ hz] at e;show cQ (er.8 z az e q) λcz u a1 a2 a3=>?_;have w:cz≠cx:=λw=>hz (er.10 z x cz a1 (aa w zK));show (cI cz u a1 (a2.sameBut sb w) (a3.one gc Jb sb))
end
end
section
section
variable {c:Cx} {n:ar} {sc:bA} {ρ:ah (ak×AV)} {H H':aj} {X:AX->aj->Prop}
theorem SR.fresh (x:SR c Ex H s H' s') (k:∀b o,s.heap.get? b=ae o->Ex b->Ex' b):SR c Ex' H s H' s':=⟨x.1,x.2,x.3,x.4,x.5.fresh k,x.6⟩
theorem SR.old (x:SR c Ex H s H' s'):∀b,s'.heap.get? b=none->s.heap.get? b=none:=λb q=>by
 cases z:s.heap.get? b with
 |none=>rfl
 |some o=>show bj (x.6 b o z) λo' e'=>?_;injection (q).symm.trans e'
theorem cellsFrom_some (names:ah (ak×vG)) (k:ar) (acc:ah (ak×aF)) (h:(x,KD)∈names\/(acc.lookup x).isSome=ai):((KG k names acc).lookup x).isSome=ai:=by
 induction names generalizing k acc with
 |nil=>show h.elim (λh=>nomatch h) id
 |cons a r ih=>
  rcases a with ⟨y,kd⟩
  unfold KG;by_cases q:(kd==KD)=ai
  ·show aa (bN q)<|ih _ _ ?_
   by_cases e:x=y
   ·right;show aa e<|aa ah5 ?_;rfl
   ·show h.imp (λh=>(List.mem_cons.mp h).resolve_left λh=>e (Fo h).1) λh=>aa (Ö e)<|h
  ·show aa (bo q)<|ih _ _ (h.imp_left λh=>(List.mem_cons.mp h).resolve_left λh=>q (beq_iff_eq.mpr (Fo h).2.symm))
where
 Ö {x y:ak} {b:aF} {l:ah (ak×aF)} (h:x≠y):((y,b)::l).lookup x=l.lookup x:=by
  exists yj;simp [beq_eq_false_iff_ne.mpr h]
theorem Á (f:ak×aI->PUnit->cC (rY PUnit)) (hf:∀n v u,f (n,v) u=(do xZ env n v;pure (.yield ⟨⟩))) {binds:ah (ak×aI)} (S:SR c (fw env) H bE H s) (er:cF H s.heap env ρ)
  (hk:∀x∈binds,j_ (env.kindOf x.1)=ai) (y:Vs H s.heap avs (binds.map (λx=>x.2))) (h:∀s',SR c (fw env) H bE H s'->cF H s'.heap env (((binds.map (λx=>x.1)).zip avs).reverse++ρ)->Q ⟨⟩ s'):a_ c.M A (forIn binds ⟨⟩ f) Q E s:=by
 induction binds generalizing avs ρ s with
 |nil=>show bg (h s S er)
 |cons x r ih=>
  rcases x with ⟨x,v⟩
  rewrite [A6,hf]
  induction avs using c6 with
  |nil=>show CB y
  |cons a l=>
   show aM y.ro λy1 y2=>aJ (aJ (rh S.4 er (hk (x,v) (.head _)) y1 λaC aX IP=>bg (ih (S.trans aX) IP (λz hz=>hk z (.tail _ hz)) (Vs.lb y2 aX.5 er.jB) λaL bh afG=>h aL bh ?_)));exists List.reverse_cons;rewrite [gh];show afG
theorem MM {pL:aI}
  (R:cN c H s.heap) (hk:scope.kind= .function) (hb:∀x∈binds,j_ (scope.names.lookup x.1)=ai) (y:Vs H s.heap avs (binds.map (λx=>x.2)))
  (h:∀env s',env=KH scope s.heap.objs.size pI (KG (s.heap.objs.size+1) scope.names []) qual func pL none tQ->SR c bL H s H s'->
   cF H s'.heap env (((binds.map (λx=>x.1)).zip avs).reverse)->(∀b,fw env b->s.heap.get? b=none)->Q env s'):
  a_ c.M A (E6 scope pI [] binds qual func pL none tQ) Q E s:=by
 show aJ (KI ?_);show aJ (wpAny_layCells _ (λname kind cells=>by cases hkc:kind==KD <;> simp [hkc]) _ _ _ _ ?_);have ok:=cellsFrom_ok scope.names (s.heap.push {cls:= .type "frame",data:= .dict #[]}) (s.heap.objs.size+1) [] ⟨λJ J hm=>(jl hm),aku⟩ (by rewrite [vK];show eY _);rw [vK] at ok;exists (show ({s with heap:=s.heap.push {cls:= .type "frame",data:= .dict #[]}}:aU).heap.objs.size=s.heap.objs.size+1 from vK ..);have gL:(KJ (s.heap.push {cls:= .type "frame",data:= .dict #[]}) scope.names).get? s.heap.objs.size=ae {cls:= .type "frame",data:= .dict #[]}:=UZ _ _ _ _ (fG _ rfl);have kp:∀b o,s.heap.get? b=ae o->(KJ (s.heap.push {cls:= .type "frame",data:= .dict #[]}) scope.names).get? b=ae o:=λb o e=>UZ _ _ b o (fV _ e);have Q9:∀b,s.heap.objs.size<=b->Fz H b:=λb l=>R.jR (yh l);have GH:SR c bL H s H {s with heap:=KJ (s.heap.push {cls:= .type "frame",data:= .dict #[]}) scope.names}:= .grow R kp;generalize lN:KH scope s.heap.objs.size pI (KG (s.heap.objs.size+1) scope.names []) qual func pL none tQ=env at h
 have ex:∀b,fw env b->s.heap.get? b=none:=λb q=>yh (by
  subst lN;rcases q with q|⟨x,q,_⟩
  ·show aa q<|eY _
  ·have:=(ok.empty x b (mem_of_lookup q)).2;lia)
 have er:cF H (KJ (s.heap.push {cls:= .type "frame",data:= .dict #[]}) scope.names) env []:=by
  show aa lN.symm<|⟨hk,rfl,rfl,⟨_,rfl⟩,(ao _ gL (jF _ _ rfl)),(ao _ ((Heap.Ns.new s.heap (.type "frame")).keeps (UZ _ _)) (λx av e=>by simp at e)),λx cx e=>?_,(λx av e=>by simp at e),λx e=>?_,λx z cx e1 e2=>name_of_addr ok.apart (mem_of_lookup e1) (mem_of_lookup e2),.inr ⟨Q9 _ (eY _),_,gL,rfl⟩⟩
  ·show aM (ok.empty x cx (mem_of_lookup e)) λa b=>(aP ⟨_,a⟩ (Q9 _ (iK ‹_›)) (ah1 b))
  ·show Option.isSome_iff_exists.mp (cellsFrom_some scope.names _ [] (.inl (mem_of_lookup e)))
 show aJ (Á _ (λJ J J=>by exists lN.symm;rfl) (.refl GH.4) er (λx hx=>by exists lN.symm;show hb x hx) (y.keep GH.5) λs' S' ry=>bg ?_)
 have:=h env s' rfl ((GH.lift.trans S').fresh λb o e q=>by
  injection (ex b q).symm.trans e) (by rw [fW] at ry;show ry) ex
 subst lN;show this
noncomputable def kS (K:iI) (a:aF):aR FuncData:=match K.lookup a with
 |some o=>(match o.data with
  | .func fd=>ae fd
  |_=>none)
 |none=>none
theorem Sn {K:iI} (X:K.In h) (e:kS K a=ae fd):∃o,h.get? a=ae o/\o.data= .func fd:=by
 unfold kS at e;generalize q:K.lookup a=r at e;induction r using eL with
 |none=>show (oo _ e.symm).elim
 |some o=>
  show ⟨o,X a o q,?_⟩;dsimp only at e;generalize o.data=d at e ⊢;induction d using Kr with
  |func f=>show bD _ (bZ e)
  |_=>show (oo _ e.symm).elim
def B0 (K:iI) (a:aF) (sc:bA) (body:ah fc):Prop:=∃fd,kS K a=ae fd/\fd.scope=sc/\fd.body= .stmts body/\fd.globals=pI/\fd.builtins=tQ/\fd.closure=[]/\U0 K fd.code fd.qualname=ai/\
 sc.isCoroutine=au/\sc.isGenerator=au/\sc.kind= .function
noncomputable def AF.val:AF->AV
 | .next=> .none
 | .ret a=>a
def rH (c:Cx) (n:ar) (f:aI) (args:ah AV) (H:aj) (Q:AV->aj->Prop) (X:AX->aj->Prop):Prop:=
 ∀A s vs,CT c n A H s.heap->Vs H s.heap args vs->dQ c.M A (.call f ⟨vs,[]⟩) (λr s'=>match r with
  | .ok (.ret v)=>∃H',SR c bL H s H' s'/\∃av,V H' s'.heap av v/\Q av H'
  | .ok _=>dV
  | .error e=>EP c bL H s X e s') s
theorem rH.call (h:rH c n f args H Q X):bq c n f args H Q X:=λA s vs C y=>wM (h A s vs C y)
theorem Of {pL:aI} (C:CT c (n+1) A H s.heap) (aX:SR c bL H s H aC) (er:cF H aC.heap env ρ) (ex:∀b,fw env b->s.heap.get? b=none)
  (lN:env=KH sc s.heap.objs.size pI cells qual func pL none tQ) (hl:A.frames=ae l):CE c n sc (A.deeper env) env ρ H aC.heap:=by
 have oX:(A.deeper env).frames=ae (env::l):=by show (?_:A.frames.map (λx=>env::x)=_);exists hl;rfl
 have F:lj (A.deeper env) H aC.heap:=⟨env::l,oX,λe he=>(List.mem_cons.mp he).elim (λq=>by
   show aa q<|aA er.5 λo g d=>er.11.elim (λq=>?_) λq=>aM q λq1 q=>aA q λo2 q2 q3=>?_
   ·injection (C.1.nq (ex _ (.inl rfl))).symm.trans q
   ·rw [g] at q2;injection q2 with ct;subst ct
    show ⟨er.1,_,o,by exists lN;rfl,g,ab6 q3 (aa lN (c.big _ C.1.1)),d,q1⟩) λhe=>
   aA ((C.2.keep aX.5).1) λl' e2 k=>k e (bZ (hl.symm.trans e2)▸he)⟩
 show ⟨⟨aX.4,F,C.3.step rfl rfl ⋯,C.4.keep aX.5,C.5⟩,er,by exists lN;rfl,(ew env l oX rfl)⟩
theorem DW {names:ah ak} (hf:B0 c.K a sc body) (hlen:names.length=args.length+ds.length)
  (AG:∀fd,kS c.K a=ae fd->∀s vs,c.K.In s.heap->vs.length=args.length->Fp s fd ⟨vs,[]⟩ (names.zip (vs++dv))) (qX:∀H h,Vs H h ds dv)
  (hk:∀x∈names,j_ (sc.names.lookup x)=ai)
  (h:WS c n sc body ((names.zip (args++ds)).reverse) H (λaf J H'=>Q af.val H') (λx J H'=>X x H')):rH c (n+1) (.ref a) args H Q X:=λA s vs C y=>by
 show Rj hf ?_;clear hf;intro fd iR eM hb hg J2 JT xP Ar zo J9;subst eM;show aA (Sn C.1.1 iR) λo ho hd=>?_;have AL:=C.3.lt;have hz:(names.zip (vs++dv)).map (λx=>x.1)=names:=ah6 (aa cb<|aa y.length<|aa ((qX H s.heap).length)<|aa hlen<|eY _);have zu:(names.zip (vs++dv)).map (λx=>x.2)=vs++dv:=ah7 (aa cb<|aa y.length<|aa ((qX H s.heap).length)<|aa hlen<|eY _);show agf AL ho hd Ar zo hb (codeRec_of C.1.1 xP) (up<|AG fd iR s vs C.1.1 y.length _ _ _ _ ?_);show aa hg<|aa JT<|aa J2<|up<|MM C.1 J9 (λx hx=>hk x.1 (aa hz.symm (yk hx))) (aa zu (aZ.append y (qX H s.heap))) λenv aC lN aX er ex=>?_
 rw [hz] at er;show ⟨c.lim _ aX.4.1,Ç ?_⟩;have hA:∃l,A.frames=ae l:=let ⟨l,e,_⟩:=C.2.1;⟨l,e⟩;show bj hA λl hl=>?_;have Dy:=Of C aX er ex lN hl;have oX:(A.deeper env).frames=ae (env::l):=by show (?_:A.frames.map (λx=>env::x)=_);exists hl;rfl
 have old:∀b o,s.heap.get? b=ae o->¬s.heap.get? b=none:=λb o e q=>by injection (e).symm.trans q
 show cq (h (A.deeper env) env aC Dy) (λf aL x'=>QS.el x' λaG af aO bh fr Bu q=>?_) λe aL x'=>ES.el x' λaG x aO bh xr J q=>?_
 ·have S:=(aX.lift.trans bh).fresh λb o e q=>old b o e (ex b q);show (ao aG S (ao af.val ?_ q));induction af using AF.casesOn with
  |next=>have fr:=fr;exists fr;rfl
  |ret v=>show aA fr ?_;show λu i9 yu=>aa i9<|yu
 ·have nh:=C.1.1;have xr:=xr.lo aX.6;have CD:=(aX.lift.trans bh).more ex;show aS (up<|Pl nh CD.old bh.4 xr (Dy.1.2.keep bh.5) (ew env l oX rfl) ⟨_,by exists lN;rfl⟩ λea h' e1 S3 Y4 Xy=>?_);have T3:=S3.sr bh.4 nh Y4;show up<|Gl Xy λgj Ψ e2 S4 hP4 Ķ=>?_
  have T4:=S4.sr T3.4 nh hP4;show (EP.mk aG x (((CD.trans T3).trans T4).fresh λb o e q=>old b o e q) Ķ.weak q)
end
end
section
section
variable {c:Cx} {n:ar} {sc:bA} {ρ:ah (ak×AV)} {H H':aj} {X:XS} {Q:AF->ah (ak×AV)->aj->Prop}
theorem WE.ex {Q:AV->aj->Prop} (h:WE c n sc e ρ H Q (λx H'=>X x ρ H')) (C:CE c n sc A env ρ H s.heap)
  (k:∀v aw aC a,SR c bL H s aw aC->SR c (fw env) H s aw aC->V aw aC.heap a v->Q a aw->Q' v aC):aE c.M A (bX e env) Q' (ES c env H s X) s:=
 XW.oJ C.2 (.refl C.1.1) (h A env s C) λv aw aC aX cU x'=>aA x' λa y q=>k v aw aC a aX cU y q
theorem Ox (h:WE c n sc e ρ H (λa aw=>Q (.ret a) ρ aw) (λx H'=>X x ρ H')):cP c n sc (.Return (ae e) pos) ρ H Q X:=λA env s C=>
 abQ (h.ex C λv aw aC a S T y q=>(QS.mk aw (.ret a) ρ T (ao v rfl y) (C.2.keep S.5) q))
theorem Ť (h:Q (.ret .none) ρ H):cP c n sc (.Return none pos) ρ H Q X:=λA env s C=>
 up<|wpAny_Return_none (QS.mk H (.ret .none) ρ (.refl C.1.1) (ao _ rfl rfl) C.2 h)
theorem Sx (h:WE c n sc e ρ H (λa aw=>Q .next ρ aw) (λx H'=>X x ρ H')) (oH:∀env,oi e none pos.line env=pure au):cP c n sc (.Expr e pos) ρ H Q X:=λA env s C=>
 aeL (h.ex C λv aw aC a S T y q=>⟨aw,T,.next,ρ,rfl,C.2.keep S.5,q⟩) (by unfold UB;exists C.2.1;rfl) (oH env)
theorem ads (h:WT c n sc test ρ H (λb aw=>if b=ai then WS c n sc body ρ aw Q X else WS c n sc orelse ρ aw Q X) (λx H'=>X x ρ H')):cP c n sc (.If test body orelse pos) ρ H Q X:=λA env s C=>
 Wn (XW.oJ C.2 (.refl C.1.1) (h A env s C) λb aw aC S T q=>by
  induction b using ez
  ·rw [bo ⋯] at q ⊢;show HJ T (q A env aC (C.keep S))
  ·rw [bN rfl] at q ⊢;show HJ T (q A env aC (C.keep S)))
theorem aef (h:Q .next ρ H):cP c n sc (.Pass pos) ρ H Q X:=λA env s C=>up<|wpAny_Pass (QS.mk H .next ρ (.refl C.1.1) rfl C.2 h)
noncomputable def lr (sc:bA) (x:ak):aN:=j_ (sc.names.lookup x)
theorem xK (C:CE c n sc A env ρ H h) (k:lr sc x=ai):j_ (env.kindOf x)=ai:=by unfold qE;show aa C.3<|k
theorem af9 (hk:lr sc x=ai) (h:WE c n sc e ρ H (λa aw=>Q .next ((x,a)::ρ) aw) (λx H'=>X x ρ H')) (oH:∀env,oi e (ae (.Name x pos')) pos.line env=pure au):
  cP c n sc (.Assign [.Name x pos'] e pos) ρ H Q X:=λA env s C=>
 Ny (h.ex C λv aw aC a S T y q=>up<|rh S.4 (C.2.keep S.5) (xK C hk) y λaL bh nW=>(QS.mk aw .next _ (T.trans bh) rfl nW q)) (oH env)
def uF (c:Cx) (n:ar) (attr:ak) (o a:AV) (H:aj) (Q:aj->Prop) (X:AX->aj->Prop):Prop:=
 ∀A s v u,CT c n A H s.heap->V H s.heap o v->V H s.heap a u->XW c A (Uz v attr u) s bL H (λJ H' J=>Q H') X
theorem Sg (h:WE c n sc e ρ H (λa aw=>WE c n sc o ρ aw (λb aG=>uF c n attr b a aG (λaV=>Q .next ρ aV) (λx H'=>X x ρ H')) (λx H'=>X x ρ H')) (λx H'=>X x ρ H'))
  (oH:∀env,oi e (ae (.Attribute o attr pos')) pos.line env=pure au):cP c n sc (.Assign [.Attribute o attr pos'] e pos) ρ H Q X:=λA env s C=>
 ZF (h.ex C λv aw aC a S T y q=>XW.oJ (C.keep S).2 T (q A env aC (C.keep S)) λu aG aL bh da x'=>aA x' λb y2 q2=>
  XW.oJ ((C.keep S).keep bh).2 da (q2 A aL u v ((C.keep S).keep bh).1 y2 (y.keep bh.5)) λJ aV bz cJ c9 q3=>(QS.mk aV .next ρ c9 rfl (((C.2.keep S.5).keep bh.5).keep cJ.5) q3)) (oH env)
def C4 (c:Cx) (n:ar) (o i a:AV) (H:aj) (Q:aj->Prop) (X:AX->aj->Prop):Prop:=
 ∀A s v w u,CT c n A H s.heap->V H s.heap o v->V H s.heap i w->V H s.heap a u->XW c A (Kk v w u) s bL H (λJ H' J=>Q H') X
theorem adK (h:WE c n sc e ρ H (λa aw=>WE c n sc o ρ aw (λb aG=>WE c n sc i ρ aG (λd aV=>C4 c n b d a aV (λfE=>Q .next ρ fE) (λx H'=>X x ρ H')) (λx H'=>X x ρ H')) (λx H'=>X x ρ H')) (λx H'=>X x ρ H'))
  (oH:∀env,oi e (ae (.Subscript o i pos')) pos.line env=pure au):cP c n sc (.Assign [.Subscript o i pos'] e pos) ρ H Q X:=λA env s C=>
 WN (h.ex C λv aw aC a S T y q=>XW.oJ (C.keep S).2 T (q A env aC (C.keep S)) λu aG aL bh da x'=>aA x' λb y2 q2=>
  XW.oJ ((C.keep S).keep bh).2 da (q2 A env aL ((C.keep S).keep bh)) λw aV bz cJ c9 x'=>aA x' λd y3 q3=>
   XW.oJ (((C.keep S).keep bh).keep cJ).2 c9 (q3 A bz u w v (((C.keep S).keep bh).keep cJ).1 (y2.keep cJ.5) y3 ((y.keep bh.5).keep cJ.5)) λJ fE e_ il mT q4=>(QS.mk fE .next ρ mT rfl ((((C.2.keep S.5).keep bh.5).keep cJ.5).keep il.5) q4)) (oH env)
end
end
section
theorem O8:rX pF "proto.unchain"=ae Builtin.«proto.unchain»:=entryFor_of_fast (by ext)
theorem dC.field (x:dC H s.heap (a::l) v) (h:∀u,dC H s.heap l u->Q u s):a_ M A (tJ v 2) Q E s:=by
 rcases x with ⟨rfl,o,vs,u,_,g,_,d,e,r⟩
 show ku g d e (h u r)
theorem Û {c:Cx} (hR:R (.ok (.ret .none)) s):
  ∀(l:ah aF) (a:aF) (o yN:aI) (ls:ah aF) (tg:aN),dC H s.heap (a::l) o->dC H s.heap ls yN->(a::l) <:+ls->ea∉a::l->
   qG c.M A (.builtin "proto.unchain" ⟨[.ref ea,o,yN,.bool tg],[]⟩) R s:=by
  intro l;induction l with
  |nil=>
   show λa o yN ls tg x y hs ne=>KO O8 (aJ (x.field λu xu=>?_));show aa (show u= .none from xu) (bg hR)
  |cons b r ih=>
   show λa o yN ls tg x y hs ne=>KO O8 (aJ (x.field λu xu=>?_));exists xu.1;rw [xu.1] at xu;show US<|aa (bo (by simp)) ?_
   show US ?_;have nb:¬((dp b==dp ea)=ai):=λq=>ne (ah8 (eq_of_beq q)▸.tail _ (.head _));show aa (bo nb)<|wpAny_ite ?_
   split
   ·show aJ (mf (bg hR))
   ·induction ls using c6 with
    |nil=>show nomatch List.suffix_nil.mp hs
    |cons z t=>
     have l8:(b::r) <:+t:=by
      rcases List.suffix_cons_iff.mp hs with q|q
      ·injection q with et sj;show aa sj<|ah9 _
      ·show (aia a (b::r)).trans q
     induction tg using ez
     ·exists bo ⋯;show aJ (bg (bg ⟨AW _ (by decide+kernel),ih b _ yN (z::t) _ xu y (l8.trans (aia z t)) λq=>ne (.tail _ q)⟩))
     ·show aa (bN rfl)<|wpAny_bind (y.field λu' yu=>bg ⟨AW _ (by decide+kernel),ih b _ u' t _ xu yu l8 λq=>ne (.tail _ q)⟩)
theorem QV {c:Cx} (hk:HK A.handled H s.heap) (g:s.heap.get? ea=ae o) (d:o.data= .fields vs) (hz:2 < vs.size)
  (hn:∀l v,A.handled=ae v->dC H s.heap l v->ea∉l)
  (h0:A.handled=none->E (.ref ea) s) (h1:∀l v,A.handled=ae v->dC H s.heap l v->E (.ref ea) {s with heap:=s.heap.update ea (mh (λx=>x.setIfInBounds 2 v))}):a_ c.M A (raiseNew (.ref ea):cC α) Q E s:=by
 show aJ (aib ?_);cases hh:A.handled with
 |none=>show aJ (bg (U1 (h0 hh)))
 |some v=>
  show dP (hk v hh) λb r x=>?_;have ne:=hn _ v hh x;dsimp only;show aM (id x) λbW J=>?_;subst bW;have hb:b≠ea:=λq=>ne (by simp [q]);exists bN (show (dp b !=dp ea)=ai by simpa using hb);show aJ (mY ?_);show aJ (wpAny_run ?_);show Û ?_ r b _ _ (b::r) au x x (ah9 _) ne;show bg<|wpAny_bind<|wpAny_setField g d hz (U1 (h1 _ _ hh x))
end
section
theorem Mm (h:i+k=N) (l:i < N):∃j,k=j+1/\i+1+j=N:=by
 cases k with
 |zero=>show cy l (h▸A7 i)
 |succ j=>show ⟨j,rfl,(yi i 1 j).trans h⟩
theorem ED (h:i+k=N) (l:i < N):k - 1 < k:=by
 obtain ⟨j,e,_⟩:=Mm h l;show aa e<|U2 j
theorem EC (h:i+k=N) (l:i < N):i+1+(k - 1)=N:=by
 obtain ⟨j,e,q⟩:=Mm h l;show aa e<|q
theorem Ef {l:ah α} (hi:l[i]?=ae a):i < l.length/\l.drop i=a::l.drop (i+1):=by
 show bj (List.getElem?_eq_some_iff.mp hi) λh e=>?_;show ⟨h,e▸Fq h⟩
section
variable {c:Cx} {n:ar} {sc:bA} {ρ aO:ah (ak×AV)} {H H':aj} {X:XS} {Q:AF->ah (ak×AV)->aj->Prop}
theorem cG.kp (x:cG P h h'):KP P H h H h':=λb o e=>(aP id id (λJ=>x.1 b o e))
def EJ (Ex:aF->Prop) (h:bF):Prop:=∀b o,h.get? b=ae o->Ex b->c_ o=ai/\dT o=au
def KN (H:aj) (h:bF) (H':aj) (h':bF):Prop:=∀b o,h.get? b=ae o->(c_ o=au\/dT o=ai)->
 (Fz H b->Fz H' b)/\(H b=ae .priv->H' b=ae .priv)/\(St H b->∃o',h'.get? b=ae o'/\o'.cls=o.cls/\o'.data=o.data/\(kJ b o=au->o'=o))
theorem KP.kn (k:KP Ex H h H' h') (f:EJ Ex h):KN H h H' h':=λb o e z=>by
 show (aP ((k b o e).1) ((k b o e).2.1) (λst=>?_));show fR.el ((k b o e).2.2 st) λo' e' c' J k'=>?_
 have n:¬Ex b:=λq=>by
  have:=f b o e q;rcases z with z|z
  ·rw [this.1] at z;injection z
  ·rw [this.2] at z;injection z
 show (i_ o' e' c' ((k' n).1) ((k' n).2))
theorem KN.ext (g:h.get? it=ae o) (f:c_ o=ai/\dT o=au) (k:∀b o,b≠it->h.get? b=ae o->h'.get? b=ae o):KN H h H h':=λb ob e z=>by
 have n:b≠it:=λq=>by
  rw [q,g] at e;injection e with ct;subst ct
  rcases z with z|z
  ·rw [f.1] at z;injection z
  ·rw [f.2] at z;injection z
 show (aP id id (λJ=>(i_ ob (k b ob n e) rfl rfl (λJ=>rfl))))
theorem V.mO (y:V H h a v) (k:KN H h H' h'):V H' h' a v:=
 VR.mono (λb o fz e q1 q2=>⟨(k b o e (.inl q2)).1 fz,by show eO ((k b o e (.inl q2)).2.2 (.inl fz)) λo' e' J J k'=>k' (BV q1)▸e'⟩) a v y
theorem Vs.mO (y:Vs H h a v) (k:KN H h H' h'):Vs H' h' a v:=
 aZ.mono (λb o fz e q1 q2=>⟨(k b o e (.inl q2)).1 fz,by show eO ((k b o e (.inl q2)).2.2 (.inl fz)) λo' e' J J k'=>k' (BV q1)▸e'⟩) a v y
theorem cF.mO (x:cF H h env ρ) (k:KN H h H' h'):cF H' h' env ρ:=by
 show aA x.5 λo g d=>aA x.6 λm hn hm=>?_;have st:St H env.locals:=x.11.elim .inr λy=> .inl y.1;have nL:c_ o=au:=by show dP d λes n z=>?_;unfold c_;exists z;rfl
 have Ib:∀{b v},h.IsCell b v->Fz H b->h'.IsCell b v/\Fz H' b:=λ{b v} x' fz=>aA x' λoc gc dc=>by
  have kk:=k b oc gc (.inr (by unfold dT;exists dc;rfl));show eO (kk.2.2 (.inl fz)) λo' e' J z J=>⟨(ao o' e' (z.trans dc)),kk.1 fz⟩
 have kL:=k _ o g (.inl nL)
 show eO (kL.2.2 st) λo2 g2 c2 d2 k2=>⟨x.1,x.2,x.3,x.4,(ao o2 g2 (aa d2 d)),(ao m (Ns.wK hn (λo3 g3=>by rw [g] at g3;exists (bZ g3).symm;show (ao o2 g2 d2))) (λy av e q=>?_)),λy cc e=>?_,λy av e q=>?_,x.9,x.10,
  x.11.imp kL.2.1 λx'=>aM x' λy1 y'=>aA y' λo' y2 y3=>⟨kL.1 y1,o2,g2,by rw [g] at y2;injection y2 with eR;subst eR;show (qM c2).trans y3⟩⟩
 ·show aA (hm y av e q) λv a b=>(ao v a (b.mO k))
 ·show fP (x.7 y cc e) λbC b b'=>bj bC λv a=>(aP ⟨v,(Ib a b).1⟩ ((Ib a b).2) b')
 ·show cQ (x.8 y av e q) λcc v a b dd=>(cI cc v a ((Ib b (x.7 y cc a).2.1).1) (dd.mO k))
theorem cF.nO (x:cF H h env ρ) (k:KP Ex H h H' h') (f:EJ Ex h):cF H' h' env ρ:=x.mO (k.kn f)
theorem cB.IH {lo:bF} (q:cB t lo H h x e):∃ea,e= .ref ea/\EJ (iQ h ea) h:=by
 show cB.el q λea d es n vs sl a1 a0 a2 a3 a4 a5 a6 a7 a8 ac a9=>(ao ea a1 (λb o g p=>?_));rcases p with rfl|⟨o',dO,g1,g2,g3⟩
 ·rw [a4] at g;exists (bZ g).symm;show ⟨rfl,rfl⟩
 ·rw [a4] at g1;injection g1 with jb;subst jb;injection g2 with j9;subst j9
  show a9.elim (λy=>mE.el y λT oT ts f b1 b0 b2 b3 b4 b5 b6 b7=>?_) λy=>aM y λJ z=>?_
  ·rw [b1] at g3;injection g3 with jC;injection jC with mH;subst mH
   rw [b4] at g;exists (bZ g).symm;show ⟨by unfold c_;exists b6;rfl,by unfold dT;exists b6;rfl⟩
  ·injection (z).symm.trans g3 with mU;injection mU
theorem cB.tb {lo:bF} (q:DV lo H h x e):∃ea o vs T,e= .ref ea/\h.get? ea=ae o/\o.data= .fields vs/\vs[1]?=ae (.ref T):=by
 show cB.el q λea d es n vs sl a1 a0 a2 a3 a4 a5 a6 a7 a8 ac a9=>a9.elim (λy=>Qk y λT oT ts f b1 J=>?_) λy=>aM y λz J=>?_
 ·show (J7 ea _ vs T a1 a4 rfl b1)
 ·injection z
theorem cB.isRef {lo:bF} (q:cB t lo H h x e):∃ea,e= .ref ea:=aA q.IH λea e1 J=>⟨ea,e1⟩
theorem cB.kI {lo:bF} (q:cB t lo H h x (.ref ea)):EJ (iQ h ea) h:=by
 show aA q.IH λJ e1 z=>?_;injection e1 with rj;show aa rj<|z
theorem cB.ob {lo:bF} (q:cB t lo H h x (.ref ea)):∃o,h.get? ea=ae o/\o.cls= .ref x.C:=by
 show cB.el q λea d es n vs sl a1 a0 a2 a3 a4 a5 a6 a7 a8 ac a9=>?_;injection a1 with qZ;show aa qZ<|⟨_,a4,rfl⟩
theorem cB.J3 {lo:bF} (q:DV lo H h x (.ref ea)):∃o vs T,h.get? ea=ae o/\o.data= .fields vs/\vs[1]?=ae (.ref T):=by
 show Qk q.tb λJ o vs T e1 z=>?_;injection e1 with uS;show aa uS<|⟨o,vs,T,z⟩
theorem xn {lo:bF} {Q:gv->aU->Prop} (q:cB t lo H s.heap x (.ref ea))
  (h:∀h',cG (iQ s.heap ea) s.heap h'->(∀b o,iQ s.heap ea b->s.heap.get? b=ae o->c_ o=ai/\lo.get? b=none)->cB t lo H h' x (.ref ea)->Q () {s with heap:=h'}):a_ c.M A (vq (.ref ea) fr) Q E s:=
 Gl q λJ h' e S hP xr=>by injection e with uH;subst uH;show h h' S hP xr
theorem Hp {lo:bF} {Q:gv->aU->Prop} (nh:c.K.In lo) (hn:∀b,s.heap.get? b=none->lo.get? b=none) (R:cN c H s.heap) (q:cB t lo H s.heap x (.ref ea)) (F:lj A H s.heap) (hd:zO A env) (hf:∃L,env.frame=ae L)
  (h:∀h',cG (iQ s.heap ea) s.heap h'->(∀b o,iQ s.heap ea b->s.heap.get? b=ae o->c_ o=ai/\lo.get? b=none)->cB ai lo H h' x (.ref ea)->Q () {s with heap:=h'}):a_ c.M A (lA (.ref ea) env) Q E s:=
 Pl nh hn R q F hd hf λJ h' e S hP xr=>by injection e with u4;subst u4;show h h' S hP xr
theorem Dk {lo:bF} {Q:gv->aU->Prop} (nh:c.K.In lo) (hn:∀b,s.heap.get? b=none->lo.get? b=none) (C:CE c n sc A env ρ H s.heap) (q:XR lo H s.heap x e) (hk:∀s',SR c (λx=>lo.get? x=none) H s H s'->HK A.handled H s'.heap)
  (h:∀s',SR c (λx=>lo.get? x=none) H s H s'->CE c n sc A env ρ H s'.heap->DV lo H s'.heap x e->Q () s'):a_ c.M A (lA e env) Q E s:=by
 show bj q.isRef λea bW=>?_;subst bW;show Hp nh hn C.1.1 q C.1.2 C.4 C.2.4 λh' S hP xr=>?_;have S':=S.sr C.1.1 nh hP;show h _ S' ⟨⟨S'.4,C.1.2.keep S'.5,C.1.3,hk _ S',C.1.5⟩,C.2.nO S.kp q.kI,C.3,C.4⟩ xr
theorem CW {lo:bF} {Q:gv->aU->Prop} (nh:c.K.In lo) (C:CE c n sc A env ρ H s.heap) (q:cB t lo H s.heap x e) (hk:∀s',SR c (λx=>lo.get? x=none) H s H s'->HK A.handled H s'.heap)
  (h:∀s',SR c (λx=>lo.get? x=none) H s H s'->CE c n sc A env ρ H s'.heap->cB t lo H s'.heap x e->Q () s'):a_ c.M A (vq e fr) Q E s:=by
 show bj q.isRef λea dD=>?_;subst dD;show xn q λh' S hP xr=>?_;have S':=S.sr C.1.1 nh hP;show h _ S' ⟨⟨S'.4,C.1.2.keep S'.5,C.1.3,hk _ S',C.1.5⟩,C.2.nO S.kp q.kI,C.3,C.4⟩ xr
theorem HK.lb (x:HK hd H s.heap) (S:SR c Ex H s H' s') (f:∀b o vs,s.heap.get? b=ae o->o.data= .fields vs->¬Ex b):HK hd H' s'.heap:=λv e=>
 let ⟨a,l,y⟩:=x v e;(jF a l (y.mono λb o J fz g q x'=>bj x' λvs fl=>S.5.get g fz (f b o vs g fl) q))
def t9 (env:eJ) (base:bF) (b:aF):Prop:=fw env b\/base.get? b=none
theorem SR.nA (S:SR c (t9 env base.heap) H base H' s'):SR c (fw env) H base H' s':=S.fresh λb o e q=>q.elim id λz=>by injection (z).symm.trans e
theorem SR.jN (S:SR c (fw env) H s H' s'):SR c (t9 env base) H s H' s':=S.more λJ q=> .inl q
theorem SR.toN (S:SR c (λx=>base.get? x=none) H s H' s'):SR c (t9 env base) H s H' s':=S.more λJ q=> .inr q
inductive CL (c:Cx) (n:ar) (sc:bA) (A:eX) (env:eJ) (dR:aj) (bE:aU) (j7:ah (ak×AV)) (H:aj) (s:aU) (ρ:ah (ak×AV)):Prop
 |mk (c0:CE c n sc A env j7 dR bE.heap) (S:SR c (t9 env bE.heap) dR bE H s) (er:cF H s.heap env ρ)
theorem CL.start (C:CE c n sc A env ρ H s.heap):CL c n sc A env H s ρ H s ρ:=⟨C,.refl C.1.1,C.2⟩
theorem CL.hk (x:CL c n sc A env dR bE j7 H s ρ) (S:SR c (t9 env bE.heap) H s H' s'):HK A.handled H' s'.heap:=
 x.1.1.4.lb (x.2.trans S) λb o vs e f q=>q.elim (x.1.2.Am e ⟨vs,f⟩) λz=>by injection (z).symm.trans e
theorem CL.ce (x:CL c n sc A env dR bE j7 H s ρ):CE c n sc A env ρ H s.heap:=
 ⟨⟨x.2.4,x.1.1.2.keep x.2.5,x.1.1.3,x.hk (.refl x.2.4),x.1.1.5⟩,x.3,x.1.3,x.1.4⟩
theorem CL.step (x:CL c n sc A env dR bE j7 H s ρ) (S:SR c (t9 env bE.heap) H s H' s') (er:cF H' s'.heap env aO):CL c n sc A env dR bE j7 H' s' aO:=⟨x.1,x.2.trans S,er⟩
theorem yQ (L:CL c n sc A env dR bE j7 H s ρ) (q:XR bE.heap H s.heap x e) (z:X x ρ H):
  fF c.M A env (sA c.M A env (ES c env dR bE X)) e s:=by
 have hn:=L.1.1.1.1;show up<|Dk hn L.2.old L.ce q (λs' S=>L.hk S.toN) λaC aX Ax Df=>?_
 have jG:=L.step aX.toN Ax.2;show Ad Df.tb λea o vs T e1 g d h1=>?_;subst e1;show aS (up<|wpAny_field g d h1 ?_);exists bo (by simp);show up<|CW hn jG.ce Df (λs' S=>jG.hk S.toN) λaL bh kQ XH=>(ES.mk H x ρ ((jG.2.trans bh.toN).nA) XH.weak kQ.2 z)
theorem afs (I:ar->ah (ak×AV)->aj->Prop) (OC:ar) (h0:I OC ρ H)
  (h:∀k ρ H,I k ρ H->WT c n sc test ρ H (λb aw=>if b=ai then WS c n sc body ρ aw (λf aO H'=>match f with| .next=>∃m,m < k/\I m aO H'| .ret a=>Q (.ret a) aO H') X else Q .next ρ aw) (λx H'=>X x ρ H')):
  cP c n sc (.While test body [] pos) ρ H Q X:=λA env s C=>by
 show aaO (č (λk s'=>∃aO H',CL c n sc A env H s ρ H' s' aO/\I k aO H') (λk aC x'=>d8 x' λjf aw L i=>?_) OC ⟨ρ,H,.start C,h0⟩);show cq (h k jf aw i A env aC L.ce) (λb aL ⟨aG,bh,q⟩=>?_) λe aL ⟨aG,x,bh,y,z⟩=>yQ (L.step bh.lift (L.3.keep bh.5)) (y.lo L.2.6) z;have eG:=L.step bh.lift (L.3.keep bh.5);induction b using ez
 ·rw [bo ⋯] at q ⊢;show xQ (QS.mk aG .next jf eG.2.nA rfl eG.3 q)
 ·rw [bN rfl] at q ⊢;show cq (q A env aL eG.ce) (λf bz x'=>QS.el x' λaV af Gi cJ fr kE EF=>?_) λe bz x'=>ES.el x' λaV x Gi cJ y kE z=>yQ (eG.step cJ.jN kE) (y.lo eG.2.6) z;have f7:=eG.step cJ.jN kE;induction af using AF.casesOn with
  |next=>
   have fr:=fr;show aa fr<|aA EF λm lt im=>(ao m lt (ew Gi aV f7 im))
  |ret a=>
   show aA fr ?_;clear fr;show λv d7 y=>aa d7 ?_;show (QS.mk aV (.ret a) Gi f7.2.nA (ao v rfl y) kE EF)
end
end
section
section
variable {c:Cx} {n:ar} {sc:bA} {ρ aO:ah (ak×AV)} {H H':aj} {X:XS} {Q:AF->ah (ak×AV)->aj->Prop}
theorem w_:∀{l l':ah aF} {v:aI},dC H h l v->dC H h l' v->l=l':=by
 intro l;induction l with
 |nil=>
  intro l' v x y;have x:=x;induction l' using c6 with
  |nil=>rfl
  |cons=>injection (y.1).symm.trans x
 |cons a l ih=>
  intro l' v x y;induction l' using c6 with
  |nil=>
   have y:=y;injection (x.1).symm.trans y
  |cons b l'=>
   show dC.el x λe o vs u f g q d i r=>dC.el y λe' o' dO u' f' g' q' d' i' r'=>?_;obtain rfl:=ah8 (e.symm.trans e');obtain rfl:=bZ (g.symm.trans g');obtain rfl:=akv (d.symm.trans d');obtain rfl:=bZ (i.symm.trans i');exists ih r r';rfl
theorem Qp {Q:aR aI->aU->Prop} (hA:A'.handled=A.handled) (hk:HK A.handled H s.heap)
  (hQ:∀h',(∀b o,s.heap.get? b=ae o->h'.get? b=ae o)->Q none {s with heap:=h'}):
  a_ c.M A' (newExc (.type "StopIteration") [] >>=λe=>raiseNew e) Q1 (λe s'=>a_ c.M A (do if <-UJ e (.type "StopIteration") then pure none else throw e) Q E s') s:=by
 show aJ<|wpAny_bind (vw ?_ (by size_fits))
 show aJ (kW (a:=kC) (by first|rfl|(rw [U4];rfl)) ?_);show vw ?_ (by size_fits);generalize hv:(#[dp s.heap.objs.size,kC,kC,kC,U6 au,kC]++ownMembersOf (lE "StopIteration") [])=vs;have hz:2 < vs.size:=by subst hv;simp;decide
 generalize Sm:s.heap.push {cls:= .type "tuple",data:= .seq #[]}=h1;have k1:∀b o,s.heap.get? b=ae o->h1.get? b=ae o:=λb o e=>by subst Sm;show fV _ e
 have k:∀b o,s.heap.get? b=ae o->(h1.push {cls:= .type "StopIteration",data:= .fields vs}).get? b=ae o:=λb o e=>fV _ (k1 b o e);have g:(h1.push {cls:= .type "StopIteration",data:= .fields vs}).get? h1.objs.size=ae {cls:= .type "StopIteration",data:= .fields vs}:=fG _ rfl;have ne:∀b o,s.heap.get? b=ae o->b≠h1.objs.size:=λb o e q=>by have:=k1 b o e;rw [q,fv] at this;injection this
 have pN:∀{l v},dC H s.heap l v->dC H (h1.push {cls:= .type "StopIteration",data:= .fields vs}) l v:=λx=>x.mono λb o J f e J J=>⟨f,k b o e⟩
 have bk:∀(l:ah aF) (v:aI),A'.handled=ae v->dC H (h1.push {cls:= .type "StopIteration",data:= .fields vs}) l v->h1.objs.size∉l:=λl v e x hm=>by
  show dP (hk v (hA▸e)) λa l' y=>?_;have:l=a::l':=w_ x (pN y);subst this;show bj (y.ex _ hm) λo go=>ne _ o go rfl
 show QV (λv e=>?_) g rfl hz bk (λJ=>?_) λl v e x=>?_
 ·show dP (hk v (hA▸e)) λa l y=>?_;show (jF a l (pN y))
 ·show aJ (KQ (ao _ g rfl) U7 ?_);show bg (hQ _ k)
 ·show aJ (KQ (ao _ (jK (mh (λx=>x.setIfInBounds 2 v)) g rfl) rfl) U7 ?_);show bg (hQ _ λb o e=>(gP _ _ (bI (ne b o e))).trans (k b o e))
theorem Np {Q:aR aI->aU->Prop} (hk:HK A.handled H s.heap) (hz:Fz H it)
  (kG:∀a l v,A.handled=ae v->dC H s.heap (a::l) v->it∉a::l) (hit:s.heap.IsListIter it l i) (hl:s.heap.IsList l items) (hx:items[i]?=none)
  (hQ:∀h',A8 it s.heap h'->Q none {s with heap:=h'}):a_ c.M A (vC (.ref it)) Q E s:=by
 show cR (id hit) λo ho hc hd=>cR hl λol Au J Im=>bj Im λnl zE=>aJ (A9 (ym hit.typeIs aic
  (yn aic hit.typeIs entry_listiter_next ?_ (args_listiter_next _))))
 show (?_:a_ _ _ (tJ (.ref it) 0 >>=_) _ _ s);show aJ (ku ho hd (x:= .ref l) rfl ?_);show aa (bo (show ¬((dp l==kC)=ai) from jJ))<|wpAny_bind (ku ho hd rfl ?_)
 show aJ (E9 Au zE ?_);simp only [vL,hx];show aJ (mf (aJ (vJ ho hd (kX _) ?_)));have kk:∀b o,b≠it->s.heap.get? b=ae o->(s.heap.update it (mh (λx=>x.setIfInBounds 0 .none))).get? b=ae o:=λb o n e=>(gP _ _ (bI n)).trans e;show Qp (A':=A.in1) (H:=H) rfl (λv e=>?_) λh' k'=>hQ h' λb o n e=>k' b o (kk b o n e);show dP (hk v e) λa l' y=>(jF a l' (y.mono λb o hb f e2 J J=>⟨f,kk b o (λq=>kG a l' v e y (q▸hb)) e2⟩))
noncomputable def Ii:ah eT:=["enumerate","zip","dict_itemiterator","dict_reverseitemiterator","odict_iterator","itertools.zip_longest","itertools.pairwise"]
inductive g8 (H:aj) (h:bF) (I:aF):Prop
 |mk (fz:Fz H I) (at_:∃o T vs,h.get? I=ae o/\o.cls= .type T/\o.data= .fields vs/\(T=="frame")=au/\Ii.contains T=au)
theorem g8.l9 (x:g8 H h I):∃o,h.get? I=ae o/\c_ o=ai/\dT o=au/\cO o=au:=by
 show j3 x.2 λo T vs g cc d nf J=>⟨o,g,by unfold c_;exists d;rfl,by unfold dT;exists d;rfl,?_⟩;unfold cO;exists cc;have:T≠"frame":=by simpa using nf
 simpa using this
theorem g8.keep (x:g8 H h I) (k:KP Ex H h H' h') (ne:nE Ex H h):g8 H' h' I:=by
 show eO x.l9 λo g f1 f2 f3=>eV x.2 λo' T vs g' r=>?_;rw [g] at g';injection g' with ct;subst ct
 show ⟨(k.g7 ne g x.1 f3 f2).1,o,T,vs,(k.g7 ne g x.1 f3 f2).2,r⟩
inductive rE (c:Cx) (n:ar) (base:bF) (I:aF) (items:ah AV) (ok:aj->Prop) (S:ar->aj->bF->Prop):Prop
 |mk (fr:base.get? I=none) (it:∀{i H h},S i H h->g8 H h I) (keep:∀{i H h H' h' Ex},S i H h->KP Ex H h H' h'->nE Ex H h->ok H'->S i H' h') (next:∀{A i H s a} {Q:aR aI->aU->Prop} {E:aI->aU->Prop},CT c n A H s.heap->ok H->S i H s.heap->items[i]?=ae a->
  (∀h' tk v,V H h' a v->S (i+1) H h'->cG (λx=>x=I) s.heap h'->Q (ae v) {s with heap:=h',toks:=tk})->a_ c.M A (vC (.ref I)) Q E s) (stop:∀{A i H s} {Q:aR aI->aU->Prop} {E:aI->aU->Prop},CT c n A H s.heap->(∀a l v,A.handled=ae v->dC H s.heap (a::l) v->I∉a::l)->ok H->S i H s.heap->items[i]?=none->
  (∀h' tk,A8 I s.heap h'->Q none {s with heap:=h',toks:=tk})->a_ c.M A (vC (.ref I)) Q E s) (self:∀{A i H s} {Q:aI->aU->Prop} {E:aI->aU->Prop},S i H s.heap->Q (.ref I) s->a_ c.M A (pE (.ref I)) Q E s) (okx:∀{D x H},H D=none->ok H->ok (H.set D x))
def qU (c:Cx) (n:ar) (a:AV) (H:aj) (items:ah AV) (ok:aj->Prop):Prop:=
 ∀(A:eX) (base:bF) (s:aU) (v:aI) (Q:aI->aU->Prop) (E:aI->aU->Prop),CT c n A H s.heap->V H s.heap a v->(∀b,s.heap.get? b=none->base.get? b=none)->
  (∀I S s',rE c n base I items ok S->S 0 H s'.heap->ok H->SR c bL H s H s'->Q (.ref I) s')->a_ c.M A (pE v) Q E s
theorem sD (R:cN c H h) (hT:(T=="frame")=au) (I_:Ii.contains T=au):g8 H (h.push {cls:= .type T,data:= .fields vs}) h.objs.size:=
 ⟨R.jR (fv _),_,T,vs,fG _ rfl,rfl,rfl,hT,I_⟩
theorem t7 (x:g8 H h I) (sb:iZ I h h') (g:∃o',h'.get? I=ae o'/\∀o,h.get? I=ae o->o'.cls=o.cls/\∃vs,o'.data= .fields vs):g8 H h' I/\cG (λx=>x=I) h h':=by
 show aA g λo' g' k=>gU x.2 λo T vs go cc d nf=>?_;rcases k o go with ⟨k1,dO,k2⟩
 show ⟨⟨x.1,o',T,dO,g',k1.trans cc,k2,nf⟩,⟨λb x e=>?_⟩⟩;by_cases q:b=I
 ·subst q;rw [go] at e;exists (bZ e).symm;show (fR.mk o' g' k1 (λx'=>dP x' λes n z=>(by injection (d).symm.trans z)) (λz=>cy rfl z))
 ·show (fR.same ((sb.2 b q).trans e))
theorem cG.wJ {vs:ah aI} (x:g8 H h I) (S:cG (λx=>x=I) h h') (y:Vs H h l vs):Vs H h' l vs:=
 S.vs (λb o p e=>by subst p;show cR x.l9 λo' g f J=>?_;rw [g] at e;exists (bZ e).symm;show f) y
theorem Ir (x:g8 H h I) (g:h'.IsListIter I l i) (g0:∃j,h.IsListIter I l j) (sb:iZ I h h'):g8 H h' I/\cG (λx=>x=I) h h':=cR g λo' e' c' d'=>cQ g0 λj o e cc d=>t7 x sb (ao o' e' (λo2 e2=>by rw [e] at e2;exists (bZ e2).symm;show ⟨c'.trans cc.symm,_,d'⟩))
theorem Õ (hl:H a=ae (.list l)):qU c n (.ref a) H l (λH'=>H' a=ae (.list l)):=λA base s v Q E C y hb h=>by
 have y:=y
 show aa y<|d8 (C.1.6 a _ hl) λxs m g r=>KR (bV _ g rfl (dM m rfl)) (h s.heap.objs.size (λi H' h'=>g8 H' h' s.heap.objs.size/\h'.IsListIter s.heap.objs.size a i) _ ⟨hb _ (fv s.heap),λx=>x.1,?_,?_,?_,λx' q=>aM x' λJ hit=>aid hit q,λ{D x H1} n e=>(aj.eQ H1 x (λq=>by rw [q,n] at e;injection e)).trans e⟩
  ⟨sD C.1 ⋯ ⋯,_,fG _ rfl,rfl,rfl⟩ hl (.grow C.1 eE))
 ·intro i H1 h1 H2 h2 Ex ⟨x,o,e,cc,d⟩ k ne _;have f3:cO o=au:=by unfold cO;exists cc;rfl
  have f2:dT o=au:=by unfold dT;exists d;rfl
  show ⟨x.keep k ne,o,(k.g7 ne e x.1 f3 f2).2,cc,d⟩
 ·intro A1 i H1 s1 b Q1 E1 C1 ok ⟨x,hit⟩ hi hq;show d8 (C1.1.6 a _ ok) λrq m1 g1 r1=>aA (r1.get hi) λu hu yu=>aie hit (bV _ g1 rfl (dM m1 rfl)) (by simpa using hu) λh' hY sb=>aM (Ir x hY ⟨i,hit⟩ sb) λx' S'=>hq h' _ u (cG.wJ x S' (.cons yu .nil)).ro.1 ⟨x',hY⟩ S'
 ·intro A1 i H1 s1 Q1 E1 C1 kG ok ⟨x,hit⟩ hi hq;show d8 (C1.1.6 a _ ok) λrq m1 g1 r1=>Np C1.4 x.1 kG hit (bV _ g1 rfl (dM m1 rfl)) ?_ λh' k=>hq h' _ k;rw [tV] at hi
  rewrite [vM];show aa Array.length_toList.symm<|aa r1.length<|hi
theorem CK (hT:(T=="frame")=au) (k:KP Ex H h H' h') (ne:nE Ex H h) (x:∃xs m,h.get? l=ae ⟨.type T,none,.seq xs m,#[]⟩/\Fz H l/\Vs H h items xs.toList):
  ∃xs m,h'.get? l=ae ⟨.type T,none,.seq xs m,#[]⟩/\Fz H' l/\Vs H' h' items xs.toList:=by
 show cQ x λxs m g f r=>?_
 have hF:cO (⟨.type T,none,.seq xs m,#[]⟩:eU)=au:=by
  show (?_:(lE T==lE "frame")=au);have:T≠"frame":=by simpa using hT
  simpa using this
 show aM (k.g7 ne g f hF rfl) λa b=>(cI xs m b a (r.lb k ne))
theorem Cb (xI:g8 H h I) (S:cG (λx=>x=I) h h') (hT:(T=="frame")=au) (x:∃xs m,h.get? l=ae ⟨.type T,none,.seq xs m,#[]⟩/\Fz H l/\Vs H h items xs.toList):
  ∃xs m,h'.get? l=ae ⟨.type T,none,.seq xs m,#[]⟩/\Fz H l/\Vs H h' items xs.toList:=by
 show cQ x λxs m g f r=>?_
 have hF:cO (⟨.type T,none,.seq xs m,#[]⟩:eU)=au:=by
  show (?_:(lE T==lE "frame")=au);have:T≠"frame":=by simpa using hT
  simpa using this
 show (cI xs m (S.get g (λq=>?_) hF) f (cG.wJ xI S r));show cR xI.l9 λo g' f' J=>?_;subst q;rw [g] at g';injection g' with jb;subst jb;injection f'
theorem MU:qU c n (.lst l) H l (λJ=>cL):=λA base s v Q E C y hb h=>by
 show V.Ed y λa m xs fz g r=>KR (bV _ g rfl (dM m rfl)) (h s.heap.objs.size (λi H' h'=>g8 H' h' s.heap.objs.size/\h'.IsListIter s.heap.objs.size a i/\∃xs m,h'.get? a=ae ⟨.type "list",none,.seq xs m,#[]⟩/\Fz H' a/\Vs H' h' l xs.toList) _ ⟨hb _ (fv s.heap),λx=>x.1,?_,?_,?_,λx' q=>fP x' λJ hit J=>aid hit q,λJ J=>trivial⟩
  (aP (sD C.1 ⋯ ⋯) (bV _ (fG _ rfl) rfl rfl) (cI xs m (eE _ _ g) fz (Vs.keep r (xU eE)))) trivial (.grow C.1 eE))
 ·intro i H1 h1 H2 h2 Ex ⟨x,⟨o,e,cc,d⟩,src⟩ k ne _;have f3:cO o=au:=by unfold cO;exists cc;rfl
  have f2:dT o=au:=by unfold dT;exists d;rfl
  show (aP (x.keep k ne) (bV o ((k.g7 ne e x.1 f3 f2).2) cc d) (CK ⋯ k ne src))
 ·intro A1 i H1 s1 b Q1 E1 C1 ok ⟨x,hit,src⟩ hi hq;show cQ (id src) λrq m1 g1 f1 r1=>aA (r1.get hi) λu hu yu=>aie hit (bV _ g1 rfl (dM m1 rfl)) (by simpa using hu) λh' hY sb=>aM (Ir x hY ⟨i,hit⟩ sb) λx' S'=>hq h' _ u (cG.wJ x S' (.cons yu .nil)).ro.1 (aP x' hY (Cb x S' ⋯ src)) S'
 ·intro A1 i H1 s1 Q1 E1 C1 kG ok ⟨x,hit,src⟩ hi hq;show cQ src λrq m1 g1 f1 r1=>Np C1.4 x.1 kG hit (bV _ g1 rfl (dM m1 rfl)) ?_ λh' k=>hq h' _ k;rw [tV] at hi
  rewrite [vM];show aa Array.length_toList.symm<|aa r1.length<|hi
theorem zN (c8:c.qt=ai):qU c n (.tup l) H l (λJ=>cL):=λA base s v Q E C y hb h=>by
 show V.lX y λa m xs fz g r=>aif (bV _ g rfl (dM m rfl)) (h s.heap.objs.size (λi H' h'=>g8 H' h' s.heap.objs.size/\h'.IsTupleIter s.heap.objs.size a i/\∃xs m,h'.get? a=ae ⟨.type "tuple",none,.seq xs m,#[]⟩/\Fz H' a/\Vs H' h' l xs.toList) _ ⟨hb _ (fv s.heap),λx=>x.1,?_,?_,?_,λx' q=>fP x' λJ hit J=>wpAny_pyIter_tupleiter hit q,λJ J=>trivial⟩
  (aP (sD C.1 ⋯ ⋯) (bV _ (fG _ rfl) rfl rfl) (cI xs m (eE _ _ g) fz (Vs.keep r (xU eE)))) trivial (.grow C.1 eE))
 ·intro i H1 h1 H2 h2 Ex ⟨x,⟨o,e,cc,d⟩,src⟩ k ne _;have f3:cO o=au:=by unfold cO;exists cc;rfl
  have f2:dT o=au:=by unfold dT;exists d;rfl
  show (aP (x.keep k ne) (bV o ((k.g7 ne e x.1 f3 f2).2) cc d) (CK ⋯ k ne src))
 ·intro A1 i H1 s1 b Q1 E1 C1 ok ⟨x,hit,src⟩ hi hq;show cQ (id src) λrq m1 g1 f1 r1=>aA (r1.get hi) λu hu yu=>wpAny_pyNext_tuple_item hit (bV _ g1 rfl (dM m1 rfl)) (by simpa using hu) λh' hY sb=>?_
  obtain ⟨x',S'⟩:=t7 x sb (by
   show cR (id hY) λo' e' c' d'=>cR (id hit) λo e cc d=>(ao o' e' (λo2 e2=>by rw [e] at e2;exists (bZ e2).symm;show ⟨c'.trans cc.symm,_,d'⟩)))
  show hq h' _ u (cG.wJ x S' (.cons yu .nil)).ro.1 (aP x' hY (Cb x S' ⋯ src)) S'
 ·intro A1 i H1 s1 Q1 E1 C1 kG ok ⟨x,hit,src⟩ hi hq;show cQ src λrq m1 g1 f1 r1=>wpAny_pyNext_tuple_end (C1.5 c8) hit (bV _ g1 rfl (dM m1 rfl)) ?_ λh' k=>hq h' _ k;rw [tV] at hi
  rewrite [vM];show aa Array.length_toList.symm<|aa r1.length<|hi
noncomputable def j6 (x:ak):ah AV:=x.cps.toList.map λk=> .str ⟨#[k]⟩
theorem XJ (c8:c.qt=ai):qU c n (.str x) H (j6 x) (λJ=>cL):=λA base s v Q E C y hb h=>by
 show bj y<|λt jH=>aa jH ?_
 have C8:∀i,(j6 x)[i]?=none->x.cps[i]?=none:=λi hi=>by
  rw [tV] at hi
  rewrite [vM];simpa [j6] using hi
 have IJ:∀(i:ar) (b:AV),(j6 x)[i]?=ae b->∃k,x.cps[i]?=ae k/\b=AV.str ⟨#[k]⟩:=λi b hi=>by
  rw [j6,mi,yo,Fs] at hi;show aA hi λk a e=>(ao k a e.symm)
 have ty:yp x="str_ascii_iterator"\/yp x="str_iterator":=by unfold yp;split <;> simp
 show aih ?_;generalize hT:yp x=T at ty;have Â:(T=="frame")=au:=ty.elim (λe=>by exists e;decide) λe=>by exists e;decide
 have I_:Ii.contains T=au:=ty.elim (λe=>by exists e;decide) λe=>by exists e;decide
 show h s.heap.objs.size (λi H' h'=>g8 H' h' s.heap.objs.size/\h'.IsStrIter s.heap.objs.size T x t i) _ ⟨hb _ (fv s.heap),λx=>x.1,?_,?_,?_,λx' q=>aM x' λJ hit=>(by
  show ty.elim (λe=>wpAny_pyIter_striter_ascii (e▸hit) q) λe=>wpAny_pyIter_striter_wide (e▸hit) q),λJ J=>trivial⟩
  ⟨sD C.1 Â I_,(bV _ (fG _ rfl) rfl rfl)⟩ trivial (.grow C.1 eE)
 ·intro i H1 h1 H2 h2 Ex ⟨x,⟨o,e,cc,d⟩⟩ k ne _;show eO x.l9 λo' g' J f2 f3=>?_;rw [e] at g';injection g' with jC;subst jC
  show ⟨x.keep k ne,(bV o ((k.g7 ne e x.1 f3 f2).2) cc d)⟩
 ·intro A1 i H1 s1 b Q1 E1 C1 ok ⟨xi,hit⟩ hi hq;show aA (IJ i b hi) λk hk mI=>?_;subst mI
  have step:∀h':bF,h'.IsStrIter s.heap.objs.size T x t (i+1)->iZ s.heap.objs.size s1.heap h'->Q1 (ae (.str ⟨#[k]⟩ s1.toks)) {s1 with heap:=h',toks:=s1.toks+1}:=λh' hY sb=>by
   obtain ⟨x',S'⟩:=t7 xi sb (by
    show cR (id hY) λo' e' c' d'=>cR (id hit) λo e cc d=>(ao o' e' (λo2 e2=>by rw [e] at e2;injection e2 with mH;subst mH;show ⟨c'.trans cc.symm,_,d'⟩)))
   show hq h' _ _ ⟨_,rfl⟩ ⟨x',hY⟩ S'
  show ty.elim (λe=>wpAny_pyNext_ascii_item (e▸hit) hk (e▸step)) λe=>wpAny_pyNext_wide_item (e▸hit) hk (e▸step)
 ·intro A1 i H1 s1 Q1 E1 C1 kG ok ⟨x,hit⟩ hi hq;show ty.elim (λe=>wpAny_pyNext_ascii_end (C1.5 c8) (e▸hit) (C8 i hi) λh' k=>hq h' _ k) λe=>wpAny_pyNext_wide_end (C1.5 c8) (e▸hit) (C8 i hi) λh' k=>hq h' _ k
noncomputable def Et (b:ah b_):ah AV:=b.map λk=> .int (k.toNat:aq)
theorem X5 (c8:c.qt=ai):qU c n (.bytes b) H (Et b) (λJ=>cL):=λA base s v Q E C y hb h=>by
 show bj y ?_;intro t o9;exists o9
 show KBw.pyIter_bytes (h s.heap.objs.size (λi H' h'=>g8 H' h' s.heap.objs.size/\KBw.IsBytesIter h' s.heap.objs.size b.toArray t i) _ ⟨hb _ (fv s.heap),λx=>x.1,?_,?_,?_,λx' q=>aM x' λJ hit=>KBw.pyIter_self hit q,λJ J=>trivial⟩
  ⟨sD C.1 ⋯ ⋯,(bV _ (fG _ rfl) rfl rfl)⟩ trivial (.grow C.1 eE))
 ·intro i H1 h1 H2 h2 Ex ⟨x,⟨o,e,cc,d⟩⟩ k ne _;show eO x.l9 λo' g' J f2 f3=>?_;rw [e] at g';injection g' with qV;subst qV
  show ⟨x.keep k ne,(bV o ((k.g7 ne e x.1 f3 f2).2) cc d)⟩
 ·intro A1 i H1 s1 a Q1 E1 C1 ok ⟨x,hit⟩ hi hq;rw [Et,mi,Fs] at hi;show aA hi ?_;clear hi;intro k hk ze;subst ze;show KBw.next_item hit (by simpa using hk) λh' hY sb=>?_
  obtain ⟨x',S'⟩:=t7 x sb (by
   show cR (id hY) λo' e' c' d'=>cR (id hit) λo e cc d=>(ao o' e' (λo2 e2=>by rw [e] at e2;injection e2 with mU;subst mU;show ⟨c'.trans cc.symm,_,d'⟩)))
  show hq h' _ _ ⟨_,rfl⟩ ⟨x',hY⟩ S'
 ·intro A1 i H1 s1 Q1 E1 C1 kG ok ⟨x,hit⟩ hi hq;show KBw.next_end (C1.5 c8) hit ?_ λh' k=>hq h' _ k;rw [tV] at hi
  rewrite [vM];simpa [Et] using hi
end
end
section
section
variable {c:Cx} {n:ar} {sc:bA} {ρ aO:ah (ak×AV)} {H H':aj} {X:XS} {Q:AF->ah (ak×AV)->aj->Prop}
def WI (c:Cx) (n:ar) (sc:bA) (iter:bR) (ρ:ah (ak×AV)) (H:aj) (Q:ah AV->(aj->Prop)->aj->Prop) (X:AX->aj->Prop):Prop:=
 ∀A env s (K:aI->aU->Prop),CE c n sc A env ρ H s.heap->(∀I S s' H' items ok,rE c n s.heap I items ok S->S 0 H' s'.heap->ok H'->SR c bL H s H' s'->Q items ok H'->K (.ref I) s')->
  aE c.M A (bX iter env) (λx aC=>aE c.M A (pE x) K (EP c bL H s X) aC) (EP c bL H s X) s
theorem aeM {Q:ah AV->(aj->Prop)->aj->Prop} {X:AX->aj->Prop} (h:WE c n sc iter ρ H (λa aw=>∃items ok,qU c n a aw items ok/\Q items ok aw) X):WI c n sc iter ρ H Q X:=λA env s K C k=>
 XW.step (.refl C.1.1) (h A env s C) λv aw aC aX cU x'=>aA x' λa y y'=>d8 y' λitems ok i q=>up<|i A s.heap aC v K _ (C.keep aX).1 y aX.old λI S aL W z o bh=>k I S aL aw items ok W z o (aX.trans bh) q
noncomputable def mN (m:ar):ah AV:=(jj m).map λ(i:ar)=> .int (i:aq)
theorem adZ (c8:c.qt=ai) (hb:base.get? I=none):rE c n base I (mN m) (λJ=>cL) (λi H h=>Fz H I/\IsRangeIter h I (0+(i:ar)*1) ((m:aq) - (i:ar)) 1):= .mk
 (fr:=hb)
 (it:=λx'=>aM x' λf g=>⟨f,_,_,_,g,rfl,rfl,by decide,by decide⟩)
 (keep:=λx' k ne J=>aM x' λf g=>let ⟨a,b⟩:=k.g7 ne g f rfl rfl;⟨a,b⟩)
 (next:=λ{A i H s a Q E} C ok x' hi hq=>aM x' λf g=>by
  have him:i < m:=by
   rcases KS i m with z|z
   ·show z
   ·rw [U8 (by simp [mN];show z)] at hi;injection hi
  have ha:a= .int (i:aq):=by simp [mN,him] at hi;show hi.symm
  subst ha;show wpAny_pyNext_range_item g (by lia) λh' g' sb=>?_
  have g':IsRangeIter h' I (0+((i+1:ar):aq)*1) ((m:aq) - ((i+1:ar):aq)) 1:=by
   have e1:(0+(i:aq)*1+1)=(0+((i+1:ar):aq)*1):=by rewrite [U9,U9,Ft,Ft];rfl
   have e2:((m:aq) - (i:aq) - 1)=((m:aq) - ((i+1:ar):aq)):=by rewrite [Int.sub_sub];rfl
   show aa e1.symm<|aa e2.symm<|g'
  show aM (t7 (h':=h') ⟨f,_,_,_,g,rfl,rfl,by decide,by decide⟩ sb (ao _ g' (λo2 e2=>by rw [g] at e2;exists (bZ e2).symm;show ⟨rfl,_,rfl⟩))) λx' S'=>?_;show hq h' _ _ ⟨_,by rewrite [Ft,U9];rfl⟩ ⟨f,g'⟩ S')
 (stop:=λ{A i H s Q E} C kG ok x' hi hq=>aM x' λf g=>by
  show wpAny_pyNext_range_end (C.5 c8) g ?_ λh' k=>hq h' _ k;rw [tV] at hi;simp [mN] at hi;lia)
 (self:=λx' q=>aM x' λJ g=>wpAny_pyIter_rangeiter g q)
 (okx:=λJ J=>trivial)
theorem YP {Q:ah AV->(aj->Prop)->aj->Prop} {X:AX->aj->Prop} (c8:c.qt=ai) (hg:jc sc "range"=ai) (hv:hV c.K "range" (.ty "range")=ai) (hs:tR e=au)
  (h:WE c n sc e ρ H (λa aw=>∃m:aq,a= .int m/\-(2 ^ 62)<=m/\m < 2 ^ 62/\Q (mN m.toNat) (λJ=>cL) aw) X):WI c n sc (.Call (.Name "range" p) [e] [] pos) ρ H Q X:=λA env s K C k=>by
 show zB (wd C hg hv (λJ y=>y) ?_);show aa (rM hs)<|MA rfl (SX (af6 (XW.step (.refl C.1.1) (h A env s C) λv aG aL bh da x'=>aA x' λa y y'=>eO y' λm ha lo hi q=>N0 ?_)))
 subst ha;show V.dW y λt=>?_;have hz:=fv aL.heap;show up<|call_range_1 (up<|wpAny_pyIter_range (IsRange.new ..) (small_one ⋯ ⋯ lo hi) ?_)
 have hsz:U_ 0 m 1=(m.toNat:aq):=by rewrite [rangeSize_one];split;show (Int.sub_zero m).trans (KU (mZ ‹_›)).symm;show (bD Int.ofNat (Int.toNat_of_nonpos (Int.not_lt.mp ‹_›))).symm
 have kk:∀b o,aL.heap.get? b=ae o->((aL.heap.push {cls:= .type "range",data:= .fields #[.int 0 aL.toks,.int m t,.int 1 (aL.toks+1)]}).push {cls:= .type "range_iterator",data:= .fields #[lD 0,lD (U_ 0 m 1),lD 1]}).get? b=ae o:=
  λb o e=>fV _ (fV _ e)
 have nw:aL.heap.get? (aL.heap.push {cls:= .type "range",data:= .fields #[.int 0 aL.toks,.int m t,.int 1 (aL.toks+1)]}).objs.size=none:=yh (by rewrite [vK];lia);show k _ _ _ aG _ _ (adZ c8 (da.old _ nw)) ⟨bh.4.jR nw,?_⟩ trivial (da.trans (.grow bh.4 kk)) q;have e1:(0+((0:ar):aq)*1)=0:=by simp
 have e2:((m.toNat:aq) - ((0:ar):aq))=U_ 0 m 1:=by exists hsz;rfl
 show aa e1<|aa e2<|fG _ rfl
def tF (c:Cx) (n:ar) (sc:bA) (target:bR) (a:AV) (ρ:ah (ak×AV)) (H:aj) (Q:ah (ak×AV)->aj->Prop) (X:XS):Prop:=
 ∀A env s v,CE c n sc A env ρ H s.heap->V H s.heap a v->aE c.M A (yd target env v) (λJ s'=>∃H' aO,SR c (fw env) H s H' s'/\cF H' s'.heap env aO/\Q aO H') (ES c env H s X) s
theorem zU {Q:ah (ak×AV)->aj->Prop} (hk:lr sc x=ai) (h:Q ((x,a)::ρ) H):tF c n sc (.Name x pos) a ρ H Q X:=λA env s v C y=>
 Qg (up<|rh C.1.1 C.2 (xK C hk) y λaL bh nW=>(cI H _ bh nW h))
def LS (c:Cx) (n:ar) (sc:bA) (target:bR) (body:ah fc) (ok:aj->Prop) (Q:AF->ah (ak×AV)->aj->Prop) (X:XS):ah AV->ah (ak×AV)->aj->Prop
 |[],ρ,H=>Q .next ρ H
 |a::l,ρ,H=>tF c n sc target a ρ H (λjf aw=>WS c n sc body jf aw (λf aO H'=>match f with| .next=>ok H'/\LS c n sc target body ok Q X l aO H'| .ret v=>Q (.ret v) aO H') X) X
theorem MX {Q:gv->aU->Prop} (x:g8 H s.heap I) (h:Q () s):a_ c.M A (UE target (.ref I) v) Q E s:=by
 have go:a_ c.M A (do
  let (.ref r,.ref a):=(dp I,v)|return
  let o <-load r
  match o.cls,o.data with
  | .type n,.fields vs=>
   if ["enumerate","zip","dict_itemiterator","dict_reverseitemiterator","odict_iterator","itertools.zip_longest","itertools.pairwise"].contains n && vs[0]?==ae (lD a) then
    rule "for.unpacks-the-owned-tuple"
    updateField r 0 .none
  |_,_=>pure ()) Q E s:=by
  induction v using A0 <;> try show bg h
  show j3 x.2 λo T vs g cc d J no=>aJ (rV g ?_);show aa cc<|aa d ?_
  have no:["enumerate","zip","dict_itemiterator","dict_reverseitemiterator","odict_iterator","itertools.zip_longest","itertools.pairwise"].contains T=au:=no;simp only [no,Bool.false_and,Fu,rZ];show bg h
 induction target using kA <;> first|show bg h|show go
theorem aaY (h:WI c n sc iter ρ H (λitems ok aw=>LS c n sc target body ok Q X items ρ aw) (λx H'=>X x ρ H'))
  (hf:∀env x,vz iter env x=pure x):cP c n sc (.For target iter body [] pos) ρ H Q X:=λA env s C=>by
 show Py ?_ (hf env);have back:∀e s',EP c bL H s (λx H'=>X x ρ H') e s'->ES c env H s X e s':=λe s' x'=>EP.el x' λH' x S y z=>(ES.mk H' x ρ S.lift y (C.2.keep S.5) z);show cq (h A env s _ C λI S aC aw items ok W w0 o aX ls=>?_) (λx aC k=>cq k (λJ J z=>z) back) back;have jG:=(CL.start C).step aX.lift (C.2.keep aX.5);show OQ (λk aL=>∃i gH aG,i+k=items.length/\CL c n sc A env H s ρ aG aL gH/\ok aG/\S i aG aL.heap/\LS c n sc target body ok Q X (items.drop i) gH aG) (λk aL x'=>j3 x' λi gH aG pP eG DD sQ z_=>?_) items.length (Cv 0 ρ aw (by simp) jG o w0 ls)
 have kG:∀a l v,A.handled=ae v->dC aG aL.heap (a::l) v->I∉a::l:=λa l v e x hm=>by
  show dP (C.1.4 v e) λa' l' y=>?_;have y2:=y.mono λb o J fz g q x'=>bj x' λvs fl=>eG.2.5.get g fz (λw=>w.elim (C.2.Am g ⟨vs,fl⟩) λz=>by injection (z).symm.trans g) q;have e2:=w_ x y2;rw [e2] at hm;show bj (y.ex _ hm) λo g=>?_;injection (W.1).symm.trans g
 show eO ((W.2 sQ).l9) λoI gI f1 f2 f3=>?_;cases hi:items[i]? with
 |none=>
  have oS:=vN (List.getElem?_eq_none_iff.mp hi);have z_:=oS▸z_;show up<|W.5 eG.ce.1 kG DD sQ hi λh' tk hx=>xQ ?_
  have ry:=eG.3.mO (.ext gI ⟨f1,f2⟩ hx);show (QS.mk aG .next gH ⟨eG.2.1,eG.2.2,eG.2.3,eG.2.4.keep λb o e q z=>hx b o (λw=>?_) e,λb o e=>?_,λb o e=>?_⟩ rfl ry z_)
  ·subst w;rw [gI] at e;injection e with et;subst et
   rcases z with z|z
   ·injection (f1).symm.trans z
   ·rw [n_ C.1.1.1 W.1] at z;injection z
  ·have kp:=eG.2.nA.5 b o e;have nI:=mP e W.1;show (aP kp.1 kp.2.1 (λst=>?_));show aA (kp.2.2 st) λo' g' r=>(ao o' (hx b o' nI g') r)
  ·show bj (eG.2.6 b o e) λo' g'=>⟨o',hx b o' (mP e W.1) g'⟩
 |some a=>
  show aM (Ef hi) λjO oS=>?_;rw [oS] at z_;show up<|W.4 eG.ce.1 DD sQ hi λh' tk v y xA cJ=>?_
  have hP:∀b o,(b=I)->aL.heap.get? b=ae o->c_ o=ai/\s.heap.get? b=none:=λb o p e=>by subst p;rw [gI] at e;exists (bZ e).symm;show ⟨f1,W.1⟩
  have T0:=cJ.sr eG.2.4 C.1.1.1 hP;have c9:SR c (λx=>s.heap.get? x=none) aG aL aG {aL with heap:=h',toks:=tk}:=⟨rfl,rfl,rfl,T0.4,T0.5,T0.6⟩;have f7:=eG.step c9.toN (eG.3.nO cJ.kp λb o e p=>by rw [p,gI] at e;injection e with fD;subst fD;show ⟨f1,f2⟩);show up<|MX (W.2 xA)<|cq (z_ A env _ v f7.ce y) (λJ e_ x'=>cQ x' λfE Wx il iW aes=>?_) λe e_ x'=>ES.el x' λfE x Wx il y iW z=>yQ (f7.step il.jN iW) (y.lo f7.2.6) z
  have mM:=f7.step il.jN iW;show cq (aes A env e_ mM.ce) (λf kh x'=>QS.el x' λm8 af GB jY fr qr rn=>?_) λe kh x'=>ES.el x' λm8 x GB jY y qr z=>yQ (mM.step jY.jN qr) (y.lo mM.2.6) z;have kK:=mM.step jY.jN qr;induction af using AF.casesOn with
  |next=>
   have fr:=fr;show aa fr<|(ao (k - 1) (ED pP jO) (Cv (i+1) GB m8 (EC pP jO) kK rn.1 (W.3 xA (il.trans jY).5 f7.3.jB rn.1) rn.2))
  |ret a=>
   show aA fr ?_;clear fr;show λv bW y=>aa bW ?_;show (QS.mk m8 (.ret a) GB kK.2.nA (ao v rfl y) qr rn)
end
end
section
section
variable {c:Cx} {n:ar} {sc:bA} {ρ aO:ah (ak×AV)} {H H':aj} {X:XS} {Q:AF->ah (ak×AV)->aj->Prop}
theorem CT.fresh (C:CT c n A H bE.heap) (S:SR c (λx=>bE.heap.get? x=none) H bE H' s):CT c n A H' s.heap:=
 ⟨S.4,C.2.keep S.5,C.3,C.4.lb S (λb o vs e J q=>by injection (e).symm.trans q),C.5⟩
theorem CT.kG (C:CT c n A H bE.heap) (S:SR c (λx=>bE.heap.get? x=none) H bE H' s) (fr:bE.heap.get? I=none):∀a l v,A.handled=ae v->dC H' s.heap (a::l) v->I∉a::l:=λa l v e x hm=>by
 show dP (C.4 v e) λa' l' y=>?_;have y2:=y.mono λb o J fz g q x'=>bj x' λvs fl=>S.5.get g fz (λz=>by rw [g] at z;injection z) q;have e2:=w_ x y2;rw [e2] at hm;show bj (y.ex _ hm) λo g=>?_;rw [fr] at g;injection g
theorem rE.step (W:rE c n base I items ok S) (R:cN c H s.heap) (hn:c.K.In base) (w:S i H s.heap) (S3:cG (λx=>x=I) s.heap h'):
  SR c (λx=>base.get? x=none) H s H {s with heap:=h',toks:=tk}/\KN H s.heap H h':=by
 show eO ((W.2 w).l9) λoI gI f1 f2 f3=>?_;have hP:∀b o,(b=I)->s.heap.get? b=ae o->c_ o=ai/\base.get? b=none:=λb o p e=>by subst p;rw [gI] at e;exists (bZ e).symm;show ⟨f1,W.1⟩
 have T0:=S3.sr R hn hP;show ⟨⟨rfl,rfl,rfl,T0.4,T0.5,T0.6⟩,S3.kp.kn λb o e p=>by rw [p,gI] at e;exists (bZ e).symm;show ⟨f1,f2⟩⟩
theorem rE.fin (W:rE c n bE.heap I items ok S) (hn:c.K.In bE.heap) (w:S i H s.heap) (T:SR c Ex dR bE H s) (hx:A8 I s.heap h'):
  SR c Ex dR bE H {s with heap:=h',toks:=tk}/\KN H s.heap H h':=by
 show eO ((W.2 w).l9) λoI gI f1 f2 f3=>⟨⟨T.1,T.2,T.3,T.4.keep λb o e q z=>hx b o (λw=>?_) e,λb o e=>?_,λb o e=>?_⟩,.ext gI ⟨f1,f2⟩ hx⟩
 ·subst w;rw [gI] at e;injection e with eR;subst eR
  rcases z with z|z
  ·injection (f1).symm.trans z
  ·rw [n_ hn W.1] at z;injection z
 ·have kp:=T.5 b o e;show (aP kp.1 kp.2.1 (λst=>?_));show aA (kp.2.2 st) λo' g' r=>(ao o' (hx b o' (mP e W.1) g') r)
 ·show bj (T.6 b o e) λo' g'=>⟨o',hx b o' (mP e W.1) g'⟩
theorem NU (C:CT c n A H bE.heap) (W:rE c n bE.heap I items ok S) (o:ok H):
  ∀(k i:ar) (s:aU) (Q:ah aI->aU->Prop),i+k<=items.length->SR c (λx=>bE.heap.get? x=none) H bE H s->S i H s.heap->
   (∀vs s',SR c (λx=>bE.heap.get? x=none) H bE H s'->KN H s.heap H s'.heap->S (i+k) H s'.heap->Vs H s'.heap ((items.drop i).take k) vs->Q vs s')->a_ c.M A (draw (.ref I) k) Q E s
 |0,i,s,Q,hk,T,w,h=>bg (h [] s T (KP.refl (Ex:=bL)|>.kn λJ J J q=>q.elim) w .nil)
 |k+1,i,s,Q,hk,T,w,h=>by
  have jO:i < items.length:=by lia
  show aJ (W.4 (C.fresh T) o w (qH jO) λh' tk v y w' S'=>?_);show aM (W.step (tk:=tk) T.4 C.1.1 w S') λT1 K1=>aJ (mY (NU C W o k (i+1) _ _ (by lia) (T.trans T1) w' λvs s' T2 K2 w2 y2=>bg ?_));show h _ s' T2 (λb ob e z=>?_) (by exists (show i+(k+1)=i+1+k by lia);show w2) ?_
  ·have k1:=K1 b ob e z;show (aP id id (λst=>?_));show eO (k1.2.2 st) λo1 e1 c1 d1 q1=>?_;have z1:c_ o1=au\/dT o1=ai:=by unfold c_ dT at z ⊢;exists d1;show z
   show eO ((K2 b o1 e1 z1).2.2 st) λo2 e2 c2 d2 q2=>(i_ o2 e2 (c2.trans c1) (d2.trans d1) (λq=>(q2 ((BH c1).trans q)).trans (q1 q)))
  ·exists Fq jO;exists List.take_succ_cons;show aZ.cons (y.mO K2) y2
noncomputable def JV:AV->aN
 | .tup _=>ai
 | .lst _=>ai
 |_=>au
theorem acb {Q:aN->aU->Prop} (i:JV a=ai) (y:V H s.heap a v) (h:Q au s):a_ c.M A (notIterableAtAll v) Q E s:=by
 induction a using AV.casesOn <;> try ((first|(injection i;done)|cases i))
 ·show V.lX y λx m xs J g J=>aJ (kY (ao _ g rfl) F.slot_tuple_iter.lookup (bg h))
 ·show V.Ed y λx m xs J g J=>aJ (kY (ao _ g rfl) slot_list_iter.lookup (bg h))
theorem Jv {Q:ah aI->aU->Prop} (C:CT c n A H s.heap) (y:V H s.heap a v) (i:JV a=ai) (S0:qU c n a H items ok) (hk:k=items.length)
  (h:∀vs s',SR c bL H s H s'->KN H s.heap H s'.heap->Vs H s'.heap items vs->Q vs s'):a_ c.M A (unpackItems v k none) Q E s:=by
 show aa hk<|wpAny_bind (acb i y ?_)
 show aJ (mY (S0 A s.heap s v _ _ C y (λJ q=>q) λI S aC W w o aX=>?_));show aJ (mY (NU C W o items.length 0 aC _ (by lia) (aX.more λJ q=>q.elim) w λvs aL T K2 w2 y2=>?_));have y2:Vs H aL.heap items vs:=by simpa using y2
 rw [bo (by exists y2.length;lia)];show aJ (mY (W.5 (C.fresh T) (C.kG T W.1) o w2 (by simp) λh' tk hx=>?_));show aM (W.fin C.1.1 w2 T hx) λT3 K3=>bg (h vs _ (T3.fresh λb o e q=>by rw [e] at q;injection q) (λb ob e z=>?_) (y2.mO K3));have kp:=(T3.fresh (Ex':=bL) λb o e q=>by rw [e] at q;injection q).5 b ob e;show ⟨kp.1,kp.2.1,λst=>let ⟨o',e',c',_,k'⟩:=kp.2.2 st;⟨o',e',c',(k' id).1,(k' id).2⟩⟩
def I6 (c:Cx) (n:ar) (sc:bA):ah bR->ah AV->ah (ak×AV)->aj->(ah (ak×AV)->aj->Prop)->XS->Prop
 |[],[],ρ,H,Q,_=>Q ρ H
 |e::es,a::l,ρ,H,Q,X=>tF c n sc e a ρ H (λjf aw=>I6 c n sc es l jf aw Q X) X
 |_,_,_,_,_,_=>dV
theorem RX (h:tR e=au):Fv (e::es) env=(au,yd e env)::Fv es env:=by induction e using kA <;> first|rfl|injection h
theorem õ {Q:ah (ak×AV)->aj->Prop} (C:CE c n sc A env ρ H s.heap) (y:Vs H s.heap l vs) (ns:gy elts=ai) (h:I6 c n sc elts l ρ H Q X):
  aE c.M A (E4 ((Fv elts env).map (λx=>x.2)) vs) (λJ s'=>∃H' aO,SR c (fw env) H s H' s'/\cF H' s'.heap env aO/\Q aO H') (ES c env H s X) s:=by
 induction elts generalizing l ρ H s vs with
 |nil=>
  induction l using c6 with
  |nil=>show aZ.BI y (Ti (cI H ρ (.refl C.1.1) C.2 h))
  |cons=>show h.elim
 |cons e es ih=>
  induction l using c6 with
  |nil=>show h.elim
  |cons a l=>
   show aM (Bool.and_eq_true_iff.mp ns) λn1 n2=>aZ.ui y λv r y1 y2=>aa (RX (lC _|>.mp n1)) (IK (cq (h A env s v C y1) (λJ aC x'=>cQ x' λaw jf aX IP Df=>?_) λJ J z=>z));show cq (ih (C.Dm aX IP) (Vs.lb y2 aX.5 C.2.jB) n2 Df) (λJ aL x'=>d8 x' λaG gH bh q=>ew aG gH (aX.trans bh) q) λe aL x'=>ES.from x' aX
theorem adA (ns:gy elts=ai):(Fv elts env).findIdx? (λx=>x.1)=none/\(Fv elts env).length=elts.length:=by
 induction elts with
 |nil=>show ⟨rfl,rfl⟩
 |cons e r ih=>
  simp only [gy,Ff,d9,lC] at ns;show aM (ih ns.2) λa b=>aa (RX ns.1)<|⟨by exists aii;simp [a],by simp [b]⟩
theorem H9 {Q:ah (ak×AV)->aj->Prop} (i:JV a=ai) (S0:qU c n a H items ok) (ns:gy elts=ai) (hl:elts.length=items.length) (h:I6 c n sc elts items ρ H Q X):
  tF c n sc (.Tuple elts k pos) a ρ H Q X:=λA env s v C y=>by
 show aM (adA (env:=env) ns) λn1 n2=>?_
 rewrite [aij]
 show aS (up<|wpAny_standAt ?_);unfold unpack;show aa n1<|aa n2<|aS (cE (up<|Jv C.1 y i S0 hl λvs aC aX ă y1=>?_))
 show cq (õ (C.keep aX) y1 ns h) (λJ aL x'=>d8 x' λaG gH bh q=>(ew aG gH (aX.lift.trans bh) q)) λe aL x'=>fM x' λaG x gH bh z q=>(yT aG x gH (aX.lift.trans bh) (z.lo aX.6) q)
theorem Qu (h:WE c n sc value ρ H (λa aw=>tF c n sc (.Tuple elts k gF) a ρ aw (λaO H'=>Q .next aO H') X) (λx H'=>X x ρ H'))
  (hs:∀env,env.scope=sc->AS [.Tuple elts k gF] value pos.line env=pure au)
  (hw:∀env,env.scope=sc->yg [.Tuple elts k gF] value env=pure none):cP c n sc (.Assign [.Tuple elts k gF] value pos) ρ H Q X:=λA env s C=>
 agU (h.ex C λv aw aC a S T y q=>cq (q A env aC v (C.keep S) y) (λJ aL x'=>cQ x' λaG gH bh er q=>(QS.mk aG .next gH (T.trans bh) rfl er q)) λe aL x'=>fM x' λaG x gH bh z q=>(yT aG x gH (T.trans bh) (z.lo T.6) q)) (hs env C.3) (hw env C.3)
theorem Xe {px py:fU} (c8:c.qt=ai) (h:WE c n sc value ρ H (λa aw=>∃u w,a= .tup [u,w]/\Q .next ((x,u)::(y,w)::ρ) aw) (λx H'=>X x ρ H')) (kx:lr sc x=ai) (ky:lr sc y=ai)
  (hs:∀env,env.scope=sc->AS [.Tuple elts k gF] value pos.line env=pure au) (hw:∀env,env.scope=sc->yg [.Tuple elts k gF] value env=pure (ae [x,y])):cP c n sc (.Assign [.Tuple elts k gF] value pos) ρ H Q X:=λA env s C=>
 Yx (h.ex C λv aw aC a S T yv x'=>d8 x' λu w e q=>by
  subst e;show up<|Jv (C.keep S).1 yv rfl (zN c8) rfl λvs aL bh akh y2=>?_
  rcases y2 with ⟨v1,_,rfl,y3,v2,_,rfl,y4,rfl⟩
  have kQ:=(C.keep S).keep bh;show IK (AI (up<|rh kQ.1.1 kQ.2 (xK kQ ky) y4 λbz cJ kE=>?_));show IK (AI (up<|rh cJ.4 kE (xK kQ kx) (V.lb y3 cJ.5 kQ.2.jB) λe_ il iW=>?_));show Ti (QS.mk aw .next _ (((T.trans bh.lift).trans cJ).trans il) rfl iW q)) (hs env C.3) (hw env C.3)
end
end
section
noncomputable def Cx.unq (c:Cx):Cx:={c with qt:=au}
section
variable {c:Cx} {n:ar} {sc:bA} {ρ aO:ah (ak×AV)} {H H':aj} {X:XS} {Q:AF->ah (ak×AV)->aj->Prop}
theorem SR.un (x:SR c.unq Ex H s H' s'):SR c Ex H s H' s':=⟨x.1,x.2,x.3,x.4,x.5,x.6⟩
theorem Ab {s:aU} (C:CE c n sc A env ρ H s.heap) (hk:∃a l,dC H s.heap (a::l) e):CE c.unq n sc (A.mark (ae e)) env ρ H s.heap:=
 ⟨⟨C.1.1,⟨C.1.2.1⟩,⟨C.1.3.1,C.1.3.2⟩,λv q=>by
  have:v=e:=by
   have:(ae e).or A.handled=ae v:=q;simpa using this.symm
  show aa this<|hk,λq=>by injection q⟩,C.2,C.3,C.4⟩
noncomputable def kg (K:iI) (D:aF):aN:=(K.lookup D).any (λo=>o.cls== .type "type" && !UK o) && qI K D (.type "BaseException")==ae ai
theorem Jd {Q:aN->aU->Prop} (X:c.K.In s.heap) (g:s.heap.get? ea=ae o) (hc:o.cls= .ref C) (hD:kg c.K D=ai) (hb:qI c.K C (.ref D)=ae b)
  (h:Q b s):a_ c.M A (excMatches (.ref ea) (.ref D)) Q E s:=by
 simp only [kg,d9,beq_iff_eq] at hD;show aM hD λh1 h2=>?_;cases hl:c.K.lookup D with
 |none=>rw [hl] at h1;injection h1
 |some oD=>
  rw [hl] at h1;simp only [aik,d9,beq_iff_eq,lC] at h1;show aM h1 λt1 t2=>?_;have gD:=X D oD hl;rcases oD with ⟨oc,od,tD,tv⟩
  clear hl;induction tD using Kr <;> first|show mA t2|show lU t2|skip
  have t1:=t1;subst t1;rcases s with ⟨h0,g0,d0,t0,os0⟩
  have f:=tc_notTuple;have L1:=Fw (M:=c.M) X h2;have L2:=Fw (M:=c.M) X hb
  repeat (first|(with_reducible show m7 g ?_;rewrite [hc])|with_reducible show m7 gD ?_|with_reducible show L1.here ?_|with_reducible show L2.here ?_|wp_step)
  induction b using ez <;> (wp_walk;show h)
theorem Mv (IB:c.K.In bE.heap) (S:SR c (t9 env bE.heap) dR bE H s) (er:cF H s.heap env ρ) (F:lj A' H s.heap) (hd:zO A' env) (q:XR bE.heap H s.heap x e) (z:X x ρ H):
  fF c.M A' env (sA c.M A env (ES c env dR bE X)) e s:=by
 show bj q.isRef λea bC=>?_;subst bC;show up<|Hp IB S.old S.4 q F hd er.4 λh' S1 hP q1=>?_
 have T1:=S1.sr S.4 IB hP;have er1:=er.nO S1.kp q.kI;show fM q1.J3 λo vs T g d h1=>aS (up<|wpAny_field g d h1 ?_);exists bo (by simp);show up<|xn q1 λΨ S2 hP2 q2=>?_
 have T2:=S2.sr T1.4 IB hP2;show (ES.mk H x ρ (((S.trans T1.toN).trans T2.toN).nA) q2.weak (er1.nO S2.kp q1.kI) z)
theorem QZ (hk:jc sc cls=ai) (hg:hV c.K cls (.ref D)=ai) (hD:kg c.K D=ai) (h:WS c n sc body ρ H Q XB)
  (hx:∀x aO H',XB x aO H'->(qI c.K x.C (.ref D)=ae ai/\WS c.unq n sc (ql::rD) aO H' Q X)\/(qI c.K x.C (.ref D)=ae au/\X x aO H')):
  cP c n sc (.Try body [.ExceptHandler (ae (.Name cls p)) none (ql::rD) t8] [] [] pos) ρ H Q X:=λA env s C=>by
 show QD (cq (h A env s C) (λf aC x'=>QS.el x' λaw af jf aX fr lg q=>?_) λe aC x'=>ES.el x' λaw x jf aX xr lg q=>?_)
 ·induction af using AF.casesOn with
  |next=>have fr:=fr;show aa fr<|xQ (QS.mk aw .next jf aX rfl lg q)
  |ret a=>show aA fr ?_;show λv bW y=>aa bW<|(QS.mk aw (.ret a) jf aX (ao v rfl y) lg q)
 ·show bj xr.isRef λea dD=>?_;subst dD;have jG:=(CL.start C).step aX.jN lg;show up<|Dk C.1.1.1 jG.2.old jG.ce xr (λs' S=>jG.hk S.toN) λaL bh kQ I7=>?_
  have eG:=jG.step bh.toN kQ.2;show up<|CW C.1.1.1 eG.ce I7 (λs' S=>eG.hk S.toN) λbz cJ yO nH=>?_
  have f7:=eG.step cJ.toN yO.2;show Mf (TC ?_) λw=>by injection w
  show wd (c:=c.unq) (Ab f7.ce nH.pN) hk hg (λJ y=>y)<|aA nH.ob λo go oc=>?_
  rcases hx x jf aw q with ⟨hm,hb⟩|⟨hm,hz⟩
  ·show up<|Jd f7.2.4.1 go oc hD hm<|ahc<|up<|xn nH λh5 S5 vg x5=>?_
   have kK:=f7.step (S5.sr f7.2.4 C.1.1.1 vg).toN (f7.3.nO S5.kp nH.kI);have uy:=Ab kK.ce x5.pN;show cq (hb _ env _ uy) (λf tc x'=>QS.el x' λpT af Se kM fr ud q6=>?_) λe' tc x'=>ES.el x' λpT x' Se kM y6 ud z6=>?_
   ·show (QS.mk pT af Se (kK.step kM.un.jN ud).2.nA fr ud q6)
   ·show Mv C.1.1.1 (kK.step kM.un.jN ud).2 ud (uy.1.2.keep kM.5) uy.4 (y6.lo kK.2.6) z6
  ·show up<|Jd f7.2.4.1 go oc hD hm<|XI<|fM nH.J3 λo dO T g dd h1=>aS (up<|wpAny_field g dd h1 ?_)
   exists bo (by simp);show aS (up<|xn nH λh5 S5 vg x5=>JJ ?_);have kK:=f7.step (S5.sr f7.2.4 C.1.1.1 vg).toN (f7.3.nO S5.kp nH.kI);show (ES.mk aw x jf kK.2.nA x5.weak kK.3 hz)
end
end
section
section
variable {c:Cx} {n:ar} {sc:bA} {ρ aO:ah (ak×AV)} {H H':aj} {X:AX->aj->Prop}
theorem rT (H:aj) (x y:cW) (n:a≠b):(H.set a x).set b y=(H.set b y).set a x:=by
 funext z;unfold aj.set;by_cases h1:z=b <;> by_cases h2:z=a <;> simp_all
theorem cV (H:aj) (a:aF) (x y:cW):(H.set a x).set a y=H.set a y:=by
 funext z;unfold aj.set;by_cases h1:z=a <;> simp_all
theorem Ga (x:cW) (n:H a=none):(H.set a x).del a=H:=by
 funext z;unfold aj.set aj.del;by_cases h1:z=a <;> simp_all
theorem RT (R:cN c H s.heap) (hl:H l=ae (.list xs)) (y:V H s.heap a v) (hz:xs.length<=bY)
  (h:∀s',SR c Ex H s (H.set l (.list (xs++[a]))) s'->Q .none s'):a_ c.M A (gN (.builtin "list.append") [.ref l,v]) Q E s:=by
 show d8 (R.6 l _ hl) λvs m g r=>wpAny_list_append_plain ⟨m,g⟩ (λh' x' sb=>bj x' λm' g'=>h _ ?_) (aa Array.length_toList.symm<|aa r.length<|hz);have T:SR c Ex H s (H.set l (.list (xs++[a]))) {s with heap:=h',toks:=s.toks}:= .upd R hl sb.2 (λJ J J J q=>by injection q) (by simp) (λJ J J J q=>by injection q) (ew _ m' g' ?_)
 ·show T
 ·have:Vs H s.heap (xs++[a]) (vs.push v).toList:=by
   show aa ail<|aZ.append r (.cons y .nil)
  show aZ.mono (λb o f e q1 q2=>⟨f,(sb.2 b λw=>?_).trans e⟩) _ _ this;subst w;show f (.inl (by exists hl;simp))
theorem V.del (y:V H h a v) (hC:H C=ae .priv) (sb:iZ C h h'):V (H.del C) h' a v:=
 VR.mono (λb o f e q1 q2=>⟨λw=>f (by
  rcases w with w|⟨z,C',ks,vs,w⟩
  ·unfold aj.del at w;split at w
   ·show cy rfl w
   ·show .inl w
  ·unfold aj.del at w;split at w
   ·injection w
   ·show .inr (mK z C' ks vs w)),(sb.2 b λw=>f (.inl (by show aa w<|aa hC ?_;simp))).trans e⟩) a v y
theorem Vs.del (y:Vs H h a v) (hC:H C=ae .priv) (sb:iZ C h h'):Vs (H.del C) h' a v:=
 aZ.mono (λb o f e q1 q2=>⟨λw=>f (by
  rcases w with w|⟨z,C',ks,vs,w⟩
  ·unfold aj.del at w;split at w
   ·show cy rfl w
   ·show .inl w
  ·unfold aj.del at w;split at w
   ·injection w
   ·show .inr (mK z C' ks vs w)),(sb.2 b λw=>f (.inl (by show aa w<|aa hC ?_;simp))).trans e⟩) a v y
theorem SR.BE (T:SR c Ex dR bE H s) (hC:H C=ae .priv) (hn:bE.heap.get? C=none) (sb:iZ C s.heap h'):SR c Ex dR bE (H.del C) {s with heap:=h',toks:=tk}:=by
 have sub:∀a o,H.del C a=ae o->H a=ae o/\a≠C:=λa o e=>by
  unfold aj.del at e;split at e
  ·injection e
  ·rename_i q;show ⟨e,q⟩
 have own:∀b,mc (H.del C) b->mc H b:=λb w=>by
  rcases w with w|⟨z,C',ks,vs,w⟩
  ·unfold aj.del at w;split at w
   ·show cy rfl w
   ·show .inl w
  ·show .inr (mK z C' ks vs ((sub _ _ w).1))
 have R:=T.4;have nK:∀o,c.K.lookup C=ae o->dV:=λo e=>by have:=R.3 C _ hC;injection (e).symm.trans this
 have rep:cN c (H.del C) h':=⟨λx y e=>(sb.2 x λq=>nK y (q▸e)).trans (R.1 x y e),R.2,λa o e=>R.3 a o (sub a o e).1,λa C' dx ks vs e=>?_,λa C' dx ks vs b C2 ks2 D6 e1 e2=>R.5 _ _ _ _ _ _ _ _ _ (sub _ _ e1).1 (sub _ _ e2).1,λa o e=>?_⟩
 ·show ⟨T.1,T.2,T.3,rep,λb o e=>?_,λb o e=>?_⟩
  ·have nC:=mP e hn;have kp:=T.5 b o e;show (aP (λf w=>kp.1 f (own b w)) (λf=>?_) (λst=>?_))
   ·unfold aj.del;show aa (bo nC)<|kp.2.1 f
   ·show aA (kp.2.2 st) λo' g' r=>(ao o' ((sb.2 b nC).trans g') r)
  ·show bj (T.6 b o e) λo' g'=>⟨o',(sb.2 b (mP e hn)).trans g'⟩
 ·have:=R.4 a C' dx ks vs (sub _ _ e).1;show ⟨this.1,?_⟩;unfold aj.del;split
  ·rfl
  ·show this.2
 ·show aM (sub a o e) λe1 ne=>(R.6 a o e1).mono λb ob g q1 q2=>⟨λf w=>f (own b w),λz=>(sb.2 b λw=>?_).trans g⟩;subst w;rcases z with z|z|⟨C',ks,vs,z⟩
  ·show z (.inl (by exists hC;simp))
  ·show ne z.symm
  ·subst z;have:=(R.4 a C' b ks vs e1).2;injection (hC).symm.trans this
noncomputable def j4 (cells:ah (ak×aF)):ah (ak×vG)->ah (ak×aF)->ah (ak×aF)
 |[],acc=>acc
 |(x,k)::r,acc=>if k== .free then j4 cells r ((x,(cells.lookup x).getD 0)::acc) else j4 cells r acc
theorem adj (h:∀x∈scope.names,x.2= .free->(env.cells.lookup x.1).isSome=ai):closureFor scope env=pure (j4 env.cells scope.names []):=by
 have key:∀(f:ak×vG->ah (ak×aF)->cC (rY (ah (ak×aF)))) (hf:∀nm k cs,f (nm,k) cs=if k== .free then (do let a <-Va env nm;pure (.yield ((nm,a)::cs))) else pure (.yield cs)) (names:ah (ak×vG)) (acc:ah (ak×aF)),
   (∀x∈names,x.2= .free->(env.cells.lookup x.1).isSome=ai)->forIn names acc f=pure (j4 env.cells names acc):=by
  intro f hf names;induction names with
  |nil=>intro acc J;rfl
  |cons x r ih=>
   intro acc hx;rcases x with ⟨nm,k⟩
   rewrite [A6,hf]
   by_cases q:(k==A_)=ai
   ·show aa (bN q)<|aa (show j4 env.cells ((nm,k)::r) acc=_ from bN q)<|bj (Option.isSome_iff_exists.mp (hx (nm,k) (.head _) (beq_iff_eq.mp q))) λa ha=>aa (show Va env nm=pure a by unfold Va;show aa ha rfl) ?_
    rewrite [pure_bind,pure_bind,ha]
    show ih _ λz hz=>hx z (.tail _ hz)
   ·show aa (bo q)<|aa (show j4 env.cells ((nm,k)::r) acc=_ from bo q) ?_
    rewrite [pure_bind]
    show ih _ λz hz=>hx z (.tail _ hz)
 show (bD (λx=>x >>=pure) (key _ (λJ J J=>rfl) scope.names [] h)).trans (pure_bind ..)
theorem abT {P:ak×aF->Prop} (names:ah (ak×vG)) (acc:ah (ak×aF)) (h:∀p∈acc,P p) (h2:∀x,(x,A_)∈names->P (x,(cells.lookup x).getD 0)) (p:ak×aF) (hp:p∈j4 cells names acc):P p:=by
 induction names generalizing acc with
 |nil=>show h p hp
 |cons a r ih=>
  rcases a with ⟨x,k⟩
  by_cases q:(k==A_)=ai
  ·rw [show j4 cells ((x,k)::r) acc=_ from bN q] at hp;show ih _ (λz hz=>(List.mem_cons.mp hz).elim (λe=>e▸h2 x (beq_iff_eq.mp q▸.head _)) (h z)) (λz hz=>h2 z (.tail _ hz)) hp
  ·rw [show j4 cells ((x,k)::r) acc=_ from bo q] at hp;show ih _ h (λz hz=>h2 z (.tail _ hz)) hp
theorem OM (names:ah (ak×vG)) (acc:ah (ak×aF)) (h:(x,A_)∈names\/(acc.lookup x).isSome=ai):((j4 cells names acc).lookup x).isSome=ai:=by
 induction names generalizing acc with
 |nil=>show h.elim (jl) id
 |cons a r ih=>
  rcases a with ⟨y,k⟩
  by_cases q:(k==A_)=ai
  ·show (aa (show j4 cells ((y,k)::r) acc=_ from bN q) (ih _ ?_):(KC x (j4 cells ((y,k)::r) acc)).isSome=ai);by_cases e:x=y
   ·right;rw [e,ah5];rfl
   ·show h.imp (λh=>(List.mem_cons.mp h).resolve_left λh=>e (Fo h).1) λh=>by rw [yj,beq_eq_false_iff_ne.mpr e];show h
  ·show (aa (show j4 cells ((y,k)::r) acc=_ from bo q) (ih _ (h.imp_left λh=>(List.mem_cons.mp h).resolve_left λh=>q (beq_iff_eq.mpr (Fo h).2.symm))):(KC x (j4 cells ((y,k)::r) acc)).isSome=ai)
noncomputable def gY (scope sc:bA):bA:={scope with names:=scope.names.map λ(x,k)=>if (k== .free && sc.kind== .function && sc.names.lookup x==ae .cell) then (x,.cell) else (x,k)}
theorem Yc (scope:bA) (env:eJ):E7 scope env=gY scope env.scope:=rfl
noncomputable def mr (sc scope:bA):aN:=scope.kind== .function && sc.kind== .function && scope.names.all λx=>x.2 != .cell && (x.2 != .local||scope.names.lookup x.1==ae .local) && (x.2 != .free||sc.names.lookup x.1==ae .cell)
noncomputable def ip (sc':bA) (ρ:ah (ak×AV)):ah (ak×AV):=ρ.filter λp=>sc'.names.lookup p.1==ae .cell
theorem aa5 (h:(gY scope sc).names.lookup x=ae k):∃k',(x,k')∈scope.names/\(k=k'\/(k= .cell/\k'= .free/\sc.names.lookup x=ae .cell)):=by
 have hm:=mem_of_lookup h;unfold gY at hm;simp only [Vb] at hm;rcases hm with ⟨⟨y,k'⟩,hy,e⟩
 split at e
 ·rename_i q;simp only [d9,beq_iff_eq] at q;injection e with eR GG;subst eR;subst GG
  show (ao k' hy (.inr (aP rfl q.1.1 q.2)))
 ·injection e with fD AD;subst fD;subst AD;show (ao _ hy (.inl rfl))
theorem JU (h:(ip sc' ρ).lookup x=ae a):ρ.lookup x=ae a/\sc'.names.lookup x=ae .cell:=by
 induction ρ with
 |nil=>show f5 h
 |cons p r ih=>
  rcases p with ⟨y,b⟩
  unfold ip at h;rw [vO] at h;by_cases q:(sc'.names.lookup y==ae .cell)=ai
  ·rw [bN q] at h;by_cases e:x=y
   ·rw [e,lookup_cons_self] at h;rw [e];show ⟨lookup_cons_self.trans h,beq_iff_eq.mp q⟩
   ·rw [k_ e] at h;show aM (ih h) λh1 h2=>⟨(k_ e).trans h1,h2⟩
  ·have h:=bo q▸h;show aM (ih h) λh1 h2=>⟨(k_ λe:x=y=>q (beq_iff_eq.mpr (e▸h2))).trans h1,h2⟩
theorem Yv (er:cF H s.heap env ρ) (hs:env.scope=sc) (ok:mr sc scope=ai) (S:SR c bL H s H' s') (hC:H' C=ae .priv) (pV:cl=j4 env.cells scope.names [])
  (hn:s.heap.get? C=none) (o:eU) (g:s'.heap.get? C=ae o) (d:o.data= .dict #[] 0):cF H' s'.heap (Vc scope cl C env) (ip (gY scope sc) ρ):=by
 subst hs;subst pV;simp only [mr,d9,beq_iff_eq,oq,bne_iff_ne,A5] at ok;show aM ok λbC xk=>aM bC λoN ok2=>?_;have ry:=er.keep S.5
 have snd:∀x a,(j4 env.cells scope.names []).lookup x=ae a->env.cells.lookup x=ae a/\env.kindOf x=ae .cell:=λx a e=>by
  show abT (P:=λp=>env.cells.lookup p.1=ae p.2/\env.kindOf p.1=ae .cell) scope.names [] (λJ h=>jl h) (λy hy=>?_) (x,a) (mem_of_lookup e)
  have hk:env.scope.names.lookup y=ae .cell:=by
   rcases (xk _ hy).2 with z|z
   ·show cy rfl z
   ·show z
  show bj (er.9 y hk) λb hb=>⟨by exists hb;rfl,hk⟩
 have cellK:∀x,(gY scope env.scope).names.lookup x=ae .cell->(x,A_)∈scope.names:=λx e=>by
  obtain ⟨k',hm,z|⟨_,z,_⟩⟩:=aa5 e
  ·subst z;show cy rfl (xk _ hm).1.1
  ·show aa z.symm<|hm
 show ⟨oN,er.2,er.3,er.4,(ao o g (jF _ _ d)),(ao (λJ=>none) (i5 o _ _ g d (λe he=>by simp at he) (λJ=>rfl)) (λx av e q=>?_)),λx a e=>?_,λx av e q=>?_,λx e=>?_,λx y a e1 e2=>er.10 x y a (snd x a e1).1 (snd y a e2).1,.inl hC⟩
 ·have q2:=(JU e).2;have q:=q;injection (q2).symm.trans q with j9;injection j9
 ·show aM (snd x a e) λe1 e2=>fP (ry.7 x a e1) λc1 c2 c3=>(aP c1 c2 (λw=>c2 (.inl (by show aa w<|aa hC ?_;simp))))
 ·show aM (JU e) λh1 h2=>bj (Option.isSome_iff_exists.mp (OM scope.names [] (.inl (cellK x h2)))) λa ha=>aM (snd x a ha) λe1 e2=>cQ (ry.8 x av h1 (.inl e2)) λa' v f1 f2 f3=>?_;rw [e1] at f1;injection f1 with jC;subst jC
  show (cI a v ha f2 f3)
 ·show Option.isSome_iff_exists.mp (OM scope.names [] (.inl (cellK x e)))
theorem JP (R:cN c H s.heap) (er:cF H s.heap env ρ) (hk:env.kindOf x=ae .local) (y:V H s.heap av v)
  (h:∀s',SR c (λx=>x=env.locals) H s H s'->cF H s'.heap env ((x,av)::ρ)->Q () s'):a_ c.M A (xZ env x v) Q E s:=by
 show aA er.6 λm hn hm=>aA er.5 λoL gL dL=>?_;have pv:H env.locals=ae .priv\/(Fz H env.locals/\(cO oL=ai\/dT oL=ai)):=er.11.imp id λx'=>aM x' λz1 y'=>aA y' λo z2 z3=>⟨z1,.inl (by rw [gL] at z2;exists bZ z2;show z3)⟩;have hp:(env.scope.kind== .class||(env.scope.kind== .module && env.locals !=env.globals))=au:=by exists er.1;rfl
 rewrite [ah4 hk hp]
 show Mg hn λh' dU sb hc=>aA (hc oL gL) λlV lL tE=>?_;have oE:jq lV.data:=by show fM dU λo es ep q1 q2 J=>?_;injection (lL).symm.trans q1 with qV;show aa qV<|(jF es ep q2)
 have fl:∀o:eU,jq o.data->c_ o=au:=λo x'=>dP x' λes n q=>by unfold c_;exists q;rfl
 have S:SR c (λx=>x=env.locals) H s H {s with heap:=h',toks:=s.toks+1}:= .one R gL (pv.imp (λq=>⟨q,fl _ dL⟩) id) rfl sb (i_ lV lL tE (λJ=>oE) ((fl _ oE).trans (fl _ dL).symm));show h _ S ⟨er.1,er.2,er.3,er.4,(ao lV lL oE),(ao _ dU (λz az e q=>?_)),λz cz e=>?_,λz az e q=>?_,er.9,er.10,er.11.imp id λx'=>aM x' λz1 y'=>aA y' λo z2 z3=>⟨z1,lV,lL,by rw [gL] at z2;injection z2 with mU;subst mU;show (qM tE).trans z3⟩⟩
 ·by_cases hz:z=x
  ·subst hz;rw [lookup_cons_self] at e;exists (bZ e).symm;show (ao v (by simp) (y.one gL pv sb))
  ·rw [k_ hz] at e;show aA (hm z az e q) λu a1 a2=>(ao u (by simp [hz,a1]) (a2.one gL pv sb))
 ·show fP (er.7 z cz e) λbW b d=>bj bW λu a=>(aP ⟨u,a.sameBut sb d⟩ b d)
 ·have hz:z≠x:=λw=>by rw [w,hk] at q;rcases q with q|q <;> (injection q with qZ;injection qZ)
  rw [k_ hz] at e;show cQ (er.8 z az e q) λcz u a1 a2 a3=>(cI cz u a1 (a2.sameBut sb (er.7 z cz a1).2.2) (a3.one gL pv sb))
theorem acn (hc:∀x∈scope.names,x.2≠.cell)
  (h:Q (KH scope s.heap.objs.size env.globals cl env.qual none .none (ae env) tQ) {s with heap:=s.heap.push {cls:= .type "dict",data:= .dict #[]}}):a_ c.M A (E6 scope env.globals cl [] env.qual none .none (ae env)) Q E s:=by
 simp only [E6,Option.isSome_some,Vd];show aJ (KI ?_)
 exists (forIn_yield_id cl (λx hx c=>by
  rcases x with ⟨name,kind⟩
  have:(kind==KD)=au:=by simpa using hc _ hx
  simp only [this,Fu,rZ]))
 show aJ (bg (aJ ?_));show aa List.forIn_nil<|wpAny_pure (bg h)
end
end
section
section
variable {c:Cx} {n:ar} {sc:bA} {ρ aO:ah (ak×AV)} {H H':aj} {X:AX->aj->Prop}
noncomputable def HD (D:aF) (acc:cW) (C:aF) (H:aj):aj:=(H.set D acc).set C .priv
noncomputable def zA {α:Type} (b:aN) (o:aR α):aR α:=fh b o none
theorem Ci {α:Type} {o:aR α} {x:α} (h:zA b o=ae x):b=ai/\o=ae x:=by
 induction b using ez
 ·show f5 h
 ·show ⟨rfl,h⟩
theorem wV {α:Type} {P:α->Prop} {o:aR {z:α // P z}} {z:α} (h:o.map (λx=>x.1)=ae z):P z:=by
 induction o using eL with
 |none=>show f5 h
 |some y=>show bZ h▸y.2
noncomputable def QH (e:bR):aR {z:ak×fU // e= .Name z.1 z.2}:=match e with
 | .Name x p=>ae ⟨(x,p),rfl⟩
 |_=>none
noncomputable def zf (e:bR):aR (ak×fU):=(QH e).map (λx=>x.1)
theorem Co {e:bR} {z:ak×fU} (h:zf e=ae z):e= .Name z.1 z.2:=wV (o:=QH e) h
noncomputable def sk (sc':bA) (x:ak):aN:=sc'.names.lookup x==ae .local
noncomputable def Rm (es:ah bR):aR ((ak×fU)×(ak×fU)):=match es with
 |[a,b]=>(zf a).bind λx=>(zf b).map λy=>(x,y)
 |_=>none
theorem ZD {z:(ak×fU)×(ak×fU)} (h:Rm es=ae z):es=[.Name z.1.1 z.1.2,.Name z.2.1 z.2.2]:=by
 rcases es with _|⟨a,_|⟨b,_|⟨d,r⟩⟩⟩ <;> first|(injection h;done)|skip
 show aA (Option.bind_eq_some_iff.mp h) λx h1 h=>aA (Option.map_eq_some_iff.mp h) λy h2 h=>?_;exists h.symm;exists Co h1;exists Co h2;rfl
noncomputable def Rw (a:AV):aR {z:AV×AV // a= .tup [z.1,z.2]}:=match a with
 | .tup [u,w]=>ae ⟨(u,w),rfl⟩
 |_=>none
noncomputable def M9 (a:AV):aR (AV×AV):=(Rw a).map (λx=>x.1)
theorem af2 {a:AV} {z:AV×AV} (h:M9 a=ae z):a= .tup [z.1,z.2]:=wV (o:=Rw a) h
noncomputable def oP (sc':bA) (e:bR) (a:AV):aR (ah (ak×AV)):=match e with
 | .Name x _=>zA (sk sc' x) (ae [(x,a)])
 | .Tuple es _ _=>(Rm es).bind λz=>(M9 a).bind λq=>zA (sk sc' z.1.1 && sk sc' z.2.1) (ae [(z.2.1,q.2),(z.1.1,q.1)])
 |_=>none
theorem S7 {bs:ah (ak×AV)} (ht:oP sc' target a=ae bs) {G:Prop} (k1:∀x p,target= .Name x p->sk sc' x=ai->bs=[(x,a)]->G)
  (k2:∀x p y q k p' u w,target= .Tuple [.Name x p,.Name y q] k p'->a= .tup [u,w]->sk sc' x=ai->sk sc' y=ai->bs=[(y,w),(x,u)]->G):G:=by
 induction target using kA with
 |Tuple es k p'=>
  show aA (Option.bind_eq_some_iff.mp ht) λz h1 h=>aA (Option.bind_eq_some_iff.mp h) λq h2 h=>aM (Ci h) λh3 h=>aM (Bool.and_eq_true_iff.mp h3) λh4 h5=>k2 _ _ _ _ k p' _ _ (by exists ZD h1;rfl) (af2 h2) h4 h5 (bZ h).symm
 |Name x p=>show aM (Ci ht) λh1 h=>k1 x p rfl h1 (bZ h).symm
 |_=>injection ht
theorem X9 {bs:ah (ak×AV)} (c8:c.qt=ai\/∃x p,target= .Name x p) (C:CE c n sc' A env ρ H s.heap) (y:V H s.heap a v) (ht:oP sc' target a=ae bs)
  (h:∀s',SR c (λx=>x=env.locals) H s H s'->cF H s'.heap env (bs++ρ)->Q () s'):a_ c.M A (yd target env v) Q E s:=by
 have kl:∀{x},sk sc' x=ai->env.kindOf x=ae .local:=λ{x} q=>by unfold qE;exists C.3;show beq_iff_eq.mp q
 show S7 ht (λx p e q eb=>?_) λx p y2 q k p' u w e ea q1 q2 eb=>?_
 ·subst e eb;show assign_Name (JP C.1.1 C.2 (kl q) y λs' S er=>h s' S er)
 ·subst e ea eb
  have c8:c.qt=ai:=by
   rcases c8 with z|⟨_,_,z⟩
   ·show z
   ·injection z
  rewrite [aij]
  show aJ (EW ?_);show aJ (mY ?_);show Jv C.1 y rfl (zN c8) rfl λvs aC aX ă y1=>?_;rcases y1 with ⟨v1,_,rfl,y3,v2,_,rfl,y4,rfl⟩
  have Ax:=C.keep aX;show aim (assign_Name (JP Ax.1.1 Ax.2 (kl q1) y3 λaL bh nW=>?_));have y4':=V.lb y4 bh.5 (λb o e f q1 q2 w=>Ax.2.jB b o e f q1 q2 (.inl w));show aim (assign_Name (JP bh.4 nW (kl q2) y4' λbz cJ kE=>?_));show ahN (h bz ((aX.lift.trans bh).trans cJ) kE)
def my (c:Cx) (n:ar) (sc:bA) (ifs:ah bR) (ρ:ah (ak×AV)) (H:aj) (Q:aN->aj->Prop) (X:AX->aj->Prop):Prop:=match ifs with
 |[]=>Q ai H
 |[t]=>WT c n sc t ρ H Q X
 |_=>dV
def G4 (c:Cx) (n:ar) (sc:bA) (emit:aF->eJ->cC gv) (D:aF) (ρ:ah (ak×AV)) (H:aj) (Q:aj->Prop) (X:AX->aj->Prop):Prop:=
 ∀A env s,CE c n sc A env ρ H s.heap->XW c A (emit D env) s bL H (λJ H' J=>Q H') X
def LX (D C:aF) (X:AX->aj->Prop) (x:AX) (aG:aj):Prop:=∃acc aV,aG=HD D acc C aV/\aV D=none/\aV C=none/\acc≠.priv/\X x aV
theorem LX.mk (e:aG=HD D acc C aV) (hD:aV D=none) (hC:aV C=none) (p:acc≠.priv) (z:X x aV):LX D C X x aG:=N7 acc aV e hD hC p z
def LN (D C:aF) (ok:aj->Prop) (K:cW->aj->Prop) (aG:aj):Prop:=∃jA aV,aG=HD D jA C aV/\aV D=none/\aV C=none/\ok aV/\(∀C dx ks vs,jA≠.inst C dx ks vs)/\jA≠.priv/\K jA aV
theorem LN.mk {acc:cW} {K:cW->aj->Prop} (e:aG=HD D acc C aV) (hD:aV D=none) (hC:aV C=none) (o:ok aV) (i:∀C dx ks vs,acc≠.inst C dx ks vs) (p:acc≠.priv) (z:K acc aV):LN D C ok K aG:=Xq acc aV e hD hC o i p z
def LC (c:Cx) (n:ar) (sc':bA) (target:bR) (ifs:ah bR) (emit:aF->eJ->cC gv) (ρ:ah (ak×AV)) (ok:aj->Prop) (Q:cW->aj->Prop) (X:AX->aj->Prop):ah AV->cW->aj->Prop
 |[],acc,H=>Q acc H
 |a::l,acc,H=>∃bs,oP sc' target a=ae bs/\∀D C,H D=none->H C=none->D≠C->
   my c n sc' ifs (bs++ρ) (HD D acc C H) (λb aw=>if b=ai then G4 c n sc' emit D (bs++ρ) aw (LN D C ok (LC c n sc' target ifs emit ρ ok Q X l)) (LX D C X)
    else ∃aV,aw=HD D acc C aV/\aV D=none/\aV C=none/\ok aV/\LC c n sc' target ifs emit ρ ok Q X l acc aV) (LX D C X)
theorem adY (C:CE c n sc A env ρ H s.heap) (h:my c n sc ifs ρ H Q X):
  XW c A (forIn ifs ai λt r=>if r=ai then do let ok <-Fb t env (bX t env);pure (KV ok) else pure (KV r)) s bL H (λb H' J=>Q b H') X:=by
 induction ifs using c6 with
 |nil=>show XW.pure C.1.1 h
 |cons t r=>induction r using c6 with
  |nil=>
   rewrite [A6]
   show (aa (bN rfl) (XW.bind (XW.bind (XW.mono (h A env s C) (λb aw aC aX q=>XW.pure aX.4 ?_) λJ J z=>z))));show XW.pure (a:=b) aX.4 q
  |cons=>show h.elim
def EG (c:Cx) (e:bR) (target:bR) (ifs:ah bR) (emit:aF->eJ->cC gv):Prop:=
 ∀(A:eX) (R:vo->aU->Prop) (env:eJ) (it:aI) (D:aF) (I:ar->aU->Prop),
  (∀k s,I k s->aE c.M A (vC it) (λr aC=>match r with
   |none=>R (.ok .next) aC
   |some v=>aE c.M A (UE target it v) (λJ aL=>aE c.M A (yd target env v) (λJ bz=>
     aE c.M A (forIn ifs ai λt r=>if r=ai then do let ok <-Fb t env (bX t env);pure (KV ok) else pure (KV r)) (λb e_=>
      if b=ai then aE c.M A (emit D env) (λJ kh=>∃m,m < k/\I m kh) (fF c.M A env λx s'=>R (.error x) s') e_ else ∃m,m < k/\I m e_)
     (fF c.M A env λx s'=>R (.error x) s') bz) (fF c.M A env λx s'=>R (.error x) s') aL) (fF c.M A env λx s'=>R (.error x) s') aC)
   (fF c.M A env λx s'=>R (.error x) s') s)->∀k s,I k s->dQ c.M A (.compLoop e 0 it (.ref D) env) R s
noncomputable def p_ (elt:bR):aF->eJ->cC gv:=λD env=>do let _ <-gN (.builtin "list.append") [.ref D,<-bX elt env]
theorem RO:EG c (.ListComp elt [⟨target,iter,ifs,0⟩] scope pos) target ifs (p_ elt):=λA R env it D I turn k s h=>by
 show HQ rfl rfl I (λk s hI=>?_) k h;show (?_:aE _ _ ((compTurn (.ListComp elt [⟨target,iter,ifs,0⟩] scope pos) 0 it (.ref D) env).onRaise (λx=>do lA x env;AO x)) _ _ s);show sO ?_
 rewrite [compTurn_list]
 show aS (up<|wpAny_standAt (aS (cq (turn k s hI) (λr aC bf=>?_) λJ J h'=>h')));induction r using eL with
 |none=>show bw bf
 |some v=>
  show aS (cq bf (λJ aL cn=>aS (cq cn (λJ bz d_=>aS (cq d_ (λb e_ i8=>?_) λJ J h'=>h')) λJ J h'=>h')) λJ J h'=>h');induction b using ez
  ·rw [bo jJ] at i8 ⊢;show bw ⟨rfl,i8⟩
  ·rw [bN rfl] at i8 ⊢;show aS (cq i8 (λJ kh js=>bw ⟨rfl,js⟩) λJ J h'=>h')
theorem qW (n:D≠C):HD D acc C H D=ae acc/\HD D acc C H C=ae .priv:=by
 unfold HD;show ⟨by exists aj.eQ _ _ n;simp,by simp⟩
theorem Ep {D C:aF} {acc:cW} {H:aj} {ok:aj->Prop} (n:D≠C) (hC:H C=none) (hD:H D=none) (okx:∀{D x H},H D=none->ok H->ok (H.set D x)) (h:ok H):ok (HD D acc C H):=by
 show okx (aa (aj.eQ _ _ n.symm) hC) (okx hD h)
theorem CF {bs:ah (ak×AV)} (ht:oP sc' target a=ae bs) {ρ:ah (ak×AV)}:∀y b,(ip sc' ρ).lookup y=ae b->(bs++ip sc' ρ).lookup y=ae b:=λy b e=>by
 have k:=(JU e).2
 have ne:∀{x},sk sc' x=ai->y≠x:=λ{x} q w=>by
  subst w;have q:=beq_iff_eq.mp q;injection (k).symm.trans q with ct;injection ct
 show S7 ht (λx p J q eb=>?_) λx p y2 q k p' u w J J q1 q2 eb=>?_
 ·exists eb;show (?_:((_,_)::ip sc' ρ).lookup y=ae b);exists k_ (ne q);show e
 ·exists eb;show (?_:((_,_)::(_,_)::ip sc' ρ).lookup y=ae b);exists k_ (ne q2);exists k_ (ne q1);show e
theorem adE {e target:bR} {ifs:ah bR} {emit:aF->eJ->cC gv} {ok:aj->Prop} {Q:cW->aj->Prop} {A:eX} {env cenv:eJ} {bE:aU} {dR:aj} {D C I:aF} {items:ah AV} {S:ar->aj->bF->Prop} {sc':bA} {R:vo->aU->Prop}
  (c8:c.qt=ai\/∃x p,target= .Name x p) (hL:EG c e target ifs emit) (C0:CE c n sc A env ρ dR bE.heap) (W:rE c n bE.heap I items ok S) (eB:D≠C) (hnD:bE.heap.get? D=none) (GJ:bE.heap.get? C=none) (iN:cenv.scope=sc') (hl:cenv.locals=C) (oX:cenv.frame=env.frame)
  (Hv:∀acc aV bz,SR c (λx=>bE.heap.get? x=none) dR bE (HD D acc C aV) bz->cF (HD D acc C aV) bz.heap cenv (ip sc' ρ)->aV D=none->aV C=none->(∀C dx ks vs,acc≠.inst C dx ks vs)->acc≠.priv->Q acc aV->R (.ok .next) bz)
  (ahe:∀acc aV bz x e,SR c (λx=>bE.heap.get? x=none) dR bE (HD D acc C aV) bz->cF (HD D acc C aV) bz.heap cenv (ip sc' ρ)->DV bE.heap (HD D acc C aV) bz.heap x e->aV D=none->aV C=none->acc≠.priv->X x aV->R (.error e) bz)
  {acc:cW} {s:aU} (T:SR c (λx=>bE.heap.get? x=none) dR bE (HD D acc C H) s) (er:cF (HD D acc C H) s.heap cenv (ip sc' ρ)) (hD:H D=none) (hC:H C=none) (BM:∀C dx ks vs,acc≠.inst C dx ks vs) (zW:acc≠.priv) (o:ok H) (w:S 0 (HD D acc C H) s.heap) (lc:LC c n sc' target ifs emit (ip sc' ρ) ok Q X items acc H):
  dQ c.M A (.compLoop e 0 (.ref I) (.ref D) cenv) R s:=by
 have ce:∀{aG:aj} {aL:aU} {gH:ah (ak×AV)},SR c (λx=>bE.heap.get? x=none) dR bE aG aL->cF aG aL.heap cenv gH->CE c n sc' A cenv gH aG aL.heap:=λ{aG aL gH} T er=>
  ⟨⟨T.4,C0.1.2.keep T.5,C0.1.3,C0.1.4.lb T (λb o vs e J q=>by rw [e] at q;injection q),C0.1.5⟩,er,iN,by show d8 C0.4 λe0 l a b=>?_;show (ew e0 l a (b.trans oX.symm))⟩
 have HW:∀{aG:aj} {aL:aU},SR c (λx=>bE.heap.get? x=none) dR bE aG aL->∀s',SR c (λx=>bE.heap.get? x=none) aG aL aG s'->HK A.handled aG s'.heap:=λ{aG aL} T s' S'=>C0.1.4.lb (T.trans S') (λb o vs e J q=>by rw [e] at q;injection q)
 have Rx:∀{aG:aj} {aL:aU} {gH:ah (ak×AV)} {x:AX} {e:aI},SR c (λx=>bE.heap.get? x=none) dR bE aG aL->cF aG aL.heap cenv gH->(∀y b,(ip sc' ρ).lookup y=ae b->gH.lookup y=ae b)->XR bE.heap aG aL.heap x e->
   LX D C X x aG->fF c.M A cenv (λx s'=>R (.error x) s') e aL:=λ{aG aL gH x e} T er wk q x'=>CA x' λjA aV e1 a b c1 z=>by
  show up<|Dk C0.1.1.1 T.old (ce T er) q (HW T) λbz cJ yO EF=>?_
  subst e1;show ahe jA aV bz x e (T.trans cJ) (yO.2.weak wk) EF a b c1 z
 show hL A R cenv (.ref I) D (λk aL=>∃i k9 aG,i+k=items.length/\SR c (λx=>bE.heap.get? x=none) dR bE (HD D k9 C aG) aL/\cF (HD D k9 C aG) aL.heap cenv (ip sc' ρ)/\aG D=none/\aG C=none/\(∀C dx ks vs,k9≠.inst C dx ks vs)/\k9≠.priv/\ok aG/\S i (HD D k9 C aG) aL.heap/\
  LC c n sc' target ifs emit (ip sc' ρ) ok Q X (items.drop i) k9 aG) (λk aL x'=>ŗ x' λi k9 aG pP da nW H_ J1 Qy Rb DD sQ q9=>?_) items.length s (GF 0 acc H (by simp) T er hD hC BM zW o w lc)
 have Tg:=Ep (acc:=k9) eB J1 H_ W.7 DD;cases hi:items[i]? with
 |none=>
  have oS:items.drop i=[]:=vN (List.getElem?_eq_none_iff.mp hi);have q9:=oS▸q9;show up<|W.5 (ce da nW).1 (C0.1.kG da W.1) Tg sQ hi λh' tk hx=>aM (W.fin (tk:=tk) C0.1.1.1 sQ da hx) λc9 Xu=>Hv k9 aG _ c9 (nW.mO Xu) H_ J1 Qy Rb q9
 |some a=>
  show aM (Ef hi) λjO oS=>?_;rw [oS] at q9;show aA q9 ?_;intro bs ht q9;have q9:=q9 D C H_ J1 eB;show up<|W.4 (ce da nW).1 Tg sQ hi λh' tk v y xA cJ=>aM (W.step (tk:=tk) da.4 C0.1.1.1 sQ cJ) λT3 K3=>?_
  have c9:=da.trans T3;have kE:=nW.mO K3;show up<|MX (H:=HD D k9 C aG) (W.2 xA)<|up<|X9 (E:=fF c.M A cenv λx s'=>R (.error x) s') c8 (ce c9 kE) y ht λe_ il iW=>?_
  have Z6:SR c (λx=>bE.heap.get? x=none) (HD D k9 C aG) {aL with heap:=h',toks:=tk} (HD D k9 C aG) e_:=il.more λb p=>by exists p;exists hl;show GJ
  have mT:=c9.trans Z6;have z4:∀h,nE (λx=>x=cenv.locals) (HD D k9 C aG) h:=λh b o e f J J p=>f (.inl (by exists p;exists hl;exists (qW eB).2;simp));show cq (adY (ce mT iW) q9) (λb kh x'=>aA x' λm8 jY rn=>?_) λe kh x'=>EP.el x' λm8 x jY q z=>Rx (mT.trans (jY.more λJ p=>p.elim)) (iW.keep jY.5) (CF ht) (q.lo mT.6) z;induction b using ez
  ·rw [bo jJ] at rn ⊢;show BX rn λpT e6 z8 y9 Ag Jp=>?_;have jY:SR c bL _ e_ (HD D k9 C pT) kh:=e6▸jY;have iV:=mT.trans (jY.more λJ p=>p.elim);have qr:=iW.keep jY.5;show (ao (k - 1) (ED pP jO) (GF (i+1) k9 pT (EC pP jO) iV (qr.weak (CF ht)) z8 y9 Qy Rb Ag (W.3 xA (il.trans jY.lift).5 (z4 _) (Ep eB y9 z8 W.7 Ag)) Jp))
  ·rw [bN rfl] at rn ⊢;have iV:=mT.trans (jY.more λJ p=>p.elim);have qr:=iW.keep jY.5;show cq (rn A cenv kh (ce iV qr)) (λJ tc x'=>aA x' λpT kM y'=>ŷ y' λNM ta e6 z8 y9 Ag j1 j2 Jp=>?_) λe tc x'=>EP.el x' λpT x kM q z=>Rx (iV.trans (kM.more λJ p=>p.elim)) (qr.keep kM.5) (CF ht) (q.lo iV.6) z;have kM:SR c bL _ kh (HD D NM C ta) tc:=e6▸kM;show (ao (k - 1) (ED pP jO) (GF (i+1) NM ta (EC pP jO) (iV.trans (kM.more λJ p=>p.elim)) ((qr.keep kM.5).weak (CF ht)) z8 y9 j1 j2 Ag (W.3 xA ((il.trans jY.lift).trans kM.lift).5 (z4 _) (Ep eB y9 z8 W.7 Ag)) Jp))
end
end
section
section
variable {c:Cx} {n:ar} {sc:bA} {ρ aO:ah (ak×AV)} {H H':aj} {X:AX->aj->Prop}
theorem Fz.del (f:Fz H b):Fz (H.del C) b:=λw=>f (by
 rcases w with w|⟨z,C',ks,vs,w⟩
 ·unfold aj.del at w;split at w
  ·show cy rfl w
  ·show .inl w
 ·unfold aj.del at w;split at w
  ·injection w
  ·show .inr (mK z C' ks vs w))
theorem cB.del {lo h h':bF} (q:cB t lo H h x e) (hC:H C=ae .priv) (sb:iZ C h h'):cB t lo (H.del C) h' x e:=by
 have ne:∀{b},Fz H b->b≠C:=λf w=>f (.inl (by show aa w<|aa hC ?_;simp));show cB.el q λea d es m vs sl a1 a0 a2 a3 a4 a5 a6 a7 a8 bC a9=>cQ bC λu l c1 c2 c3=>(uK ea d es m vs sl a1 a0 a2.del a3.del ((sb.2 _ (ne a2)).trans a4) a5 ((sb.2 _ (ne a3)).trans a6) a7 (Vs.del a8 hC sb) (cI u l c1 (c2.mono λb o J f g J J=>⟨f.del,(sb.2 b (ne f)).trans g⟩) c3) (a9.imp (λy=>?_) id));show AB y λT oT ts f b1 b0 b2 b3 b4 b5=>(TZ T oT ts f b1 b0 b2 b3.del ((sb.2 _ (ne b3)).trans b4) b5)
theorem v_ (n:D≠C) (hC:H C=none):(HD D acc C H).del C=H.set D acc:=Ga _ (aa (aj.eQ _ _ n.symm) hC)
theorem uN (hD:H D=none) (hp:acc≠.priv):Sub H (H.set D acc):=⟨λa o e=>by
  rw [aj.eQ _ _ (λw=>by rw [w,hD] at e;injection e)];show e,λa e=>by
  by_cases w:a=D
  ·rw [w,aj.aW] at e;injection e with ct;subst ct;show cy rfl hp
  ·rwa [aj.eQ _ _ w] at e⟩
theorem IA
  (pV:clausesOf e=[⟨target,iter,ifs,0⟩]) (iN:mr sc scope=ai) (hit:∀x,vz iter env x=pure x) (c8:c.qt=ai\/∃x p,target= .Name x p) (hL:EG c e target ifs emit)
  (hS:∀{R:vo->aU->Prop} {it acc:aI} {env:eJ} {s:aU},dQ c.M A (.compLoop e 0 it acc env) R s->aE c.M A (pE it) (λrI s'=>dQ c.M A (.compLoop e 0 rI acc env) R s') (fF c.M A env λx s'=>R (.error x) s') s->dQ c.M A (.compStart e 0 it acc env) R s)
  (hN:∀{Q:aI->aU->Prop} {s:aU},Q (.ref s.heap.objs.size) {s with heap:=s.heap.push accO}->aE c.M A Ka Q E s) (hO:∀H h a,h.get? a=ae accO->OR c.w.params H h a acc₀) (Wh:accO.isFreed=au)
  (BM:∀C dx ks vs,acc₀≠.inst C dx ks vs) (zW:acc₀≠.priv)
  (C0:CE c n sc A env ρ H s.heap)
  (hE:∀e' s',EP c bL H s X e' s'->E e' s')
  (h:WI c n sc iter ρ H (λitems ok aw=>LC c n (gY scope sc) target ifs emit (ip (gY scope sc) ρ) ok Q X items acc₀ aw) X)
  (Hv:∀D C acc aV bz,SR c (λx=>s.heap.get? x=none) H s (HD D acc C aV) bz->D≠C->s.heap.get? C=none->s.heap.get? D=none->aV D=none->aV C=none->(∀C dx ks vs,acc≠.inst C dx ks vs)->acc≠.priv->(∃m,bz.heap.Ns C m)->Q acc aV->J6 c.M A E use Qv (.ref D) C (.ok .next) bz):
  aE c.M A (UH e scope env pos Ka au (bX iter env) use) Qv E s:=by
 have Mp:=iN;simp only [mr,d9,beq_iff_eq,oq,bne_iff_ne,A5] at Mp;show aM Mp λbW xk=>aM bW λoN ok2=>?_
 have acW:∀x∈scope.names,x.2= .free->(env.cells.lookup x.1).isSome=ai:=λx hx hf=>by
  have hk:env.kindOf x.1=ae .cell:=by
   unfold qE;exists C0.3;rcases (xk x hx).2 with z|z
   ·show cy hf z
   ·show z
  show bj (C0.2.9 x.1 hk) λb hb=>aa hb ?_;rfl
 have aa1:∀x∈scope.names,x.2= .local->scope.names.lookup x.1=ae .local:=λx hx hl=>by
  rcases (xk x hx).1.2 with z|z
  ·show cy hl z
  ·show z
 show ade pV hit (adj acW) oN aa1<|cq (h A env s _ C0 λI S aL aw items ok W w0 o aX lc=>?_) (λx aC z=>cq z (λJ J z=>z) hE) hE
 show hN ?_;have a1:SR c bL aw aL (aw.set aL.heap.objs.size acc₀) {aL with heap:=aL.heap.push accO}:= .alloc aX.4 (fv _) eE BM λJ=>hO _ _ _ (fG _ Wh);show up<|acn (λx hx=>(xk x hx).1.1) ?_
 generalize Mq:aL.heap.push accO=h3 at a1 ⊢;have QL:=fv h3;have gC:(h3.push {cls:= .type "dict",data:= .dict #[]}).get? h3.objs.size=ae {cls:= .type "dict",data:= .dict #[]}:=fG _ rfl
 have a2:SR c bL (aw.set aL.heap.objs.size acc₀) {aL with heap:=h3} (HD aL.heap.objs.size acc₀ h3.objs.size aw) {aL with heap:=h3.push {cls:= .type "dict",data:= .dict #[]}}:=
  .alloc a1.4 QL eE (λJ J J J q=>by injection q) λJ=>(bV _ gC rfl rfl)
 have Pm:=fv aL.heap;have RG:=a1.old _ QL
 have eB:aL.heap.objs.size≠h3.objs.size:=by
  exists Mq.symm;rewrite [vK];lia
 have wC:=aX.4.nq Pm;have R3:=aX.4.nq RG;have T:=(aX.trans a1).trans a2;have nD:=aX.old _ Pm;have nC:=aX.old _ RG
 have er:=
  Yv C0.2 C0.3 iN T (qW eB).2 rfl nC _ gC rfl
 have w1:=W.3 w0 (a1.trans a2).5 (λJ J J J J J q=>q) (Ep eB R3 wC W.7 o)
 have loop:dQ c.M A (.compLoop e 0 (.ref I) (.ref aL.heap.objs.size) (Vc scope (j4 env.cells scope.names []) h3.objs.size env)) (J6 c.M A E use Qv (.ref aL.heap.objs.size) h3.objs.size) {aL with heap:=h3.push {cls:= .type "dict",data:= .dict #[]}}:=by
  show adE (cenv:=Vc scope (j4 env.cells scope.names []) h3.objs.size env) (sc':=gY scope sc) c8 hL C0 W eB nD nC (by show (?_:E7 scope env=_);rewrite [Yc];exists C0.3;rfl) rfl rfl (λacc aV bz c9 kE d1 d2 i1 i2 q=>Hv _ _ acc aV bz c9 eB nC nD d1 d2 i1 i2 (let ⟨m,hm,_⟩:=kE.6;⟨m,hm⟩) q)
   (λacc aV bz x e' c9 kE xr d1 d2 i2 z=>?_) (T.more λJ p=>p.elim) er wC R3 BM zW o w1 lc
  have go:∃m,bz.heap.Ns h3.objs.size m/\∀h',iZ h3.objs.size bz.heap h'->∀cenv:eJ,cenv.locals=h3.objs.size->aE c.M A (passOn "comprehension.variables-let-go" e' cenv:cC aI) (λJ J=>dV) E {bz with heap:=h'}:=by
   show aA kE.6 λm hm J=>(ao m hm (λh' sb cenv J=>?_));have uh:=(qW (acc:=acc) (H:=aV) eB).2;have iV:=c9.BE (tk:=bz.toks) uh nC sb;rw [v_ eB d2] at iV;have x5:=xr.del uh sb;replace x5:=v_ eB d2▸x5;have Sa:=iV.forget (uN d1 i2);have x6:=x5.forget (uN d1 i2);show Ad x6.tb λJ o' dO T' e3 g dd h1=>?_;subst e3;show aS (up<|wpAny_field g dd h1 ?_);exists bo (by simp);show aS (up<|Gl x6 λgj h5 e2 S5 vg x7=>JJ (hE _ _ ?_));have T7:=S5.sr Sa.4 C0.1.1.1 vg;show (EP.mk aV x ((Sa.trans T7).fresh λb o e q=>by injection (e).symm.trans q) x7.weak z)
  induction use using eL <;> show go
 show hS loop (up<|W.6 w1 loop)
theorem TA (g:h.get? a=ae ⟨.type "list",none,.seq ([]:ah aI).toArray 0,#[]⟩):OR c.w.params H h a (.list []):=(ew _ 0 g .nil)
theorem JO (iN:mr sc scope=ai) (c8:c.qt=ai\/∃x p,target= .Name x p)
  (h:WI c n sc iter ρ H (λitems ok aw=>LC c n (gY scope sc) target ifs (p_ elt) (ip (gY scope sc) ρ) ok (λacc aG=>∀D,aG D=none->Q (.ref D) (aG.set D acc)) X items (.list []) aw) X)
  (hit:∀env x,vz iter env x=pure x):WE c n sc (.ListComp elt [⟨target,iter,ifs,0⟩] scope pos) ρ H Q X:=λA env s C=>by
 rewrite [eval_ListComp]
 show IA rfl iN (hit env) c8 RO (λh0 h1=>Qt h0 h1) (λq=>up<|wpAny_newObj_type q (by size_fits)) (λH h a g=>TA g) rfl (λJ J J J q=>by injection q) (by simp) C (λJ J z=>z) h ?_;intro D C' acc aV bz T eB nC nD d1 d2 i1 i2 ⟨m,hm⟩ q;show (ao m hm (λh' sb=>?_));have iV:=T.BE (tk:=bz.toks) (qW eB).2 nC sb;rw [v_ eB d2] at iV;show (ao _ (iV.fresh (λb o e q=>by injection (e).symm.trans q)) (ao (.ref D) rfl (q D d1)))
end
end
section
section
variable {c:Cx} {n:ar} {sc:bA} {ρ aO:ah (ak×AV)} {H H':aj}
theorem cF.fg (er:cF H h env ((y,a)::ρ)) (R:cN c H h) (f:Fg c H a H' a'):cF H' h env ((y,a')::ρ):=by
 show aM f λf1 f2=>?_;have e:=er.forget f1
 have up:∀z az,((y,a')::ρ).lookup z=ae az->∃b,((y,a)::ρ).lookup z=ae b/\∀v,V H h b v->V H' h az v:=λz az q=>by
  by_cases hz:z=y
  ·subst hz;rw [lookup_cons_self] at q;exists (bZ q).symm;show (ao a lookup_cons_self (λv w=>f2 h v R w))
  ·rw [k_ hz] at q;show (ao az ((k_ hz).trans q) (λv w=>w.forget f1))
 show aA er.6 λm hn hm=>⟨e.1,e.2,e.3,e.4,e.5,(ao m hn (λz az q k=>?_)),e.7,λz az q k=>?_,e.9,e.10,e.11⟩
 ·show aA (up z az q) λb hb w=>aA (hm z b hb k) λv i j=>(ao v i (w v j))
 ·show aA (up z az q) λb hb w=>cQ (er.8 z b hb k) λcc v i j l=>(cI cc v i j (w v l))
theorem Fg.Eb (e:H a=none):Fg c (H.set a (.list l)) (.ref a) H (.lst l):=by
 have:=Fg.list (c:=c) (H:=H.set a (.list l)) (a:=a) (l:=l) (by simp)
 rwa [Ga _ e] at this
theorem QQ (hk:lr sc y=ai) (iN:mr sc scope=ai) (c8:c.qt=ai\/∃x p,target= .Name x p)
  (h:WI c n sc iter ρ H (λitems ok aw=>LC c n (gY scope sc) target ifs (p_ elt) (ip (gY scope sc) ρ) ok (λacc aG=>∀D,aG D=none->Q .next ((y,.ref D)::ρ) (aG.set D acc)) (λx H'=>X x ρ H') items (.list []) aw) (λx H'=>X x ρ H'))
  (oH:∀env,env.scope=sc->oi (.ListComp elt [⟨target,iter,ifs,0⟩] scope pos) (ae (.Name y py)) spos.line env=pure ai) (hit:∀env x,vz iter env x=pure x):
  cP c n sc (.Assign [.Name y py] (.ListComp elt [⟨target,iter,ifs,0⟩] scope pos) spos) ρ H Q X:=λA env s C=>by
 show aa (exec_Assign_Name_used _ _ _ _ (oH env C.3))<|aS (up<|wpAny_standAt (aS ?_))
 show aS (cq (IA (E:=ES c env H s X) rfl iN (hit env) c8 RO (λh0 h1=>Qt h0 h1) (λq=>up<|wpAny_newObj_type q (by size_fits)) (λH h a g=>TA g) rfl (λJ J J J q=>by injection q) (by simp) C
  (λe s' x'=>EP.el x' λH' x S y z=>(ES.mk H' x ρ S.lift y (C.2.keep S.5) z)) h ?_) (λJ s' hq=>bw (bw hq)) λJ J e=>e)
 intro D C' acc aV bz T eB nC nD d1 d2 i1 i2 ⟨m,hm⟩ q;have T0:SR c bL H s (HD D acc C' aV) bz:=T.fresh λb o e q=>by injection (e).symm.trans q
 have kE:=C.2.keep T0.5;have uh:=(qW (acc:=acc) (H:=aV) eB).2;show Qg (up<|rh (av:= .ref D) T0.4 kE (xK C hk) rfl λe_ il iW=>?_)
 have z4:¬fw env C':=λw=>by
  rcases w with w|⟨z,w,_⟩
  ·show aA C.2.5 λo g J=>?_;rw [<-w,nC] at g;injection g
  ·show aM (C.2.7 z C' w) λbC J=>d8 bC λv o g J=>?_;rw [nC] at g;injection g
 show (ao m (Ns.wK hm (λo g=>?_)) (λh' sb=>?_))
 ·show fR.el ((il.5 C' o g).2.2 (.inr uh)) λo' g' J J k=>(ao o' g' ((k z4).1))
 ·have mT:=T0.lift.trans il;have iV:=mT.BE (tk:=e_.toks) uh nC sb;rw [v_ eB d2] at iV;show (QS.mk _ .next _ iV rfl ?_ (q D d1));have GJ:∀{o:eU},e_.heap.get? env.locals=ae o->env.locals≠C':=λJ w=>z4 (.inl w.symm);show aA iW.5 λo g dd=>?_;have nL:=GJ g;show aA iW.6 λm4 hn4 hm4=>?_
  have ML:∀{z b},env.cells.lookup z=ae b->b≠C':=λ{z b} e w=>by
   show aM (C.2.7 z b e) λbW J=>d8 bW λv o g J=>?_;rw [w,nC] at g;injection g
  show aa (v_ eB d2).symm<|⟨iW.1,iW.2,iW.3,iW.4,(ao o ((sb.2 _ nL).trans g) dd),(ao m4 (hn4.sameBut sb nL) (λz az e k=>?_)),λz b e=>?_,λz az e k=>?_,iW.9,iW.10,iW.11.imp (λw=>?_) λx'=>aM x' λw1 y'=>aA y' λo2 w2 w3=>⟨w1.del,o2,(sb.2 _ nL).trans w2,w3⟩⟩
  ·show aA (hm4 z az e k) λv i j=>(ao v i (V.del j uh sb))
  ·show fP (iW.7 z b e) λdD j l=>bj dD λv i=>(aP ⟨v,i.sameBut sb (ML e)⟩ j.del l)
  ·show cQ (iW.8 z az e k) λb v i j l=>(cI b v i (j.sameBut sb (ML i)) (V.del l uh sb))
  ·unfold aj.del;show aa (bo nL)<|w
def vm (H H':aj):Prop:=∀a o,H a=ae o->H' a=ae o
theorem Rn (hD:H D=none) (hC:H C=none):vm H (HD D acc C H):=λa o e=>by
 unfold HD;rw [aj.eQ _ _ (λw=>by rw [w,hC] at e;injection e),aj.eQ _ _ (λw=>by rw [w,hD] at e;injection e)];show e
theorem PU (eB:D≠C) (hz:l.length<=bY)
  (h:WE c n sc elt ρc (HD D (.list l) C H) (λv aw=>∃aG,aw=HD D (.list l) C aG/\Q (HD D (.list (l++[v])) C aG)) X):G4 c n sc (p_ elt) D ρc (HD D (.list l) C H) Q X:=λA env s C'=>by
 show aS (XW.step (.refl C'.1.1) (h A env s C') λv aw aC aX cU x'=>aA x' λa y y'=>aA y' λaG e q=>?_);subst e;show aS (up<|RT (Ex:=bL) aX.4 (qW eB).1 y hz λaL bh=>bw ?_)
 have e2:(HD D (.list l) C aG).set D (.list (l++[a]))=HD D (.list (l++[a])) C aG:=by
  exists rT _ _ _ eB.symm;rewrite [cV];rfl
 rw [e2] at bh;show (ao _ (cU.trans bh) q)
end
end
section
section
variable {c:Cx} {n:ar} {sc:bA} {ρ aO:ah (ak×AV)} {H H':aj}
theorem ċ (X:c.K.In s.heap) (ht:tM (.type T)=pure (.type "type")) (hs:ain T=au)
  (e:findCls c.K (.type T) (.type "type") name=ae (.val v)) (hh:Kx v=ai) (h:Q (v,[]) {s with toks:=s.toks+1}):a_ c.M A (UM (.type T) name pl) Q E s:=by
 have aeW:Ve (.type T)=pure none:=by unfold Ve;dsimp only;exists hs;rfl
 have L0:mW c.M s.heap (tM (.type T)) (.type "type"):=aio ht;have hg:kB c.K (.type "type") "__getattribute__"=ae (ae (.builtin "type.__getattribute__")):=type_tga;show aJ (aJ (L0.here ((Ba X hg).here ?_)));show aJ (lF ?_ (λJ J z=>bg z) λJ J z=>z);have LO:mW c.M s.heap (Ve (.type T)) none:=aio aeW
 show cls_open X LO L0 hg (looks_hook X (r:=none) (by rfl)) (by show (?_:subIn c.K _ _=_);rfl) e
  (bg (by show (?_:a_ _ _ (handedOut v) _ _ _);show aa (handedOut_of hh)<|wpAny_pure h))
inductive Ez (K:iI) (C fI:aF):Prop
 |mk (cls:∃nm q N bs bm lz sn sub ab col dd k0 k1 k2 k3 k5,K.lookup C=ae (vQ nm q C N bs bm lz sn sub ab col dd k0 k1 k2 k3 k5 "Exception.__new__")/\lz=ai/\
  (dp C::bm).contains (.type "Exception")=ai/\(dp C::bm).contains (.type "BaseException")=ai/\(dp C::bm).contains (.type "AttributeError")=au/\(dp C::bm).contains (.type "NameError")=au) (init:kB K (.ref C) "__init__"=ae (ae (.ref fI))) (fn:Fi K (.ref fI)=ae (.type "function"))
theorem Ez.el {K:iI} {G:Prop} (x:Ez K C fI) (h:∀nm q N bs bm lz sn sub ab col dd k0 k1 k2 k3 k5,K.lookup C=ae (vQ nm q C N bs bm lz sn sub ab col dd k0 k1 k2 k3 k5 "Exception.__new__")->lz=ai->
  (dp C::bm).contains (.type "Exception")=ai->(dp C::bm).contains (.type "AttributeError")=au->(dp C::bm).contains (.type "NameError")=au->G):G:=
 afh x.1 λnm q N bs bm lz sn sub z=>aad z λab col dd k0 k1 k2 k3 k5 e a b J c d=>h nm q N bs bm lz sn sub ab col dd k0 k1 k2 k3 k5 e a b c d
section
variable {A:eX} {E:aI->aU->Prop} {h:bF} {g:dm Vf} {d:Drawn} {t:ar} {os:pG}
variable {nm q:ak} {C N:aF} {bs bm:ah aI} {lz:aN} {sn:ah ak} {sub:ah aI} {ab:aN} {col:aR aN} {dd:aR aF} {k0 k1 k2 k3 k5:aR aI}
theorem acX (hC:h.get? C=ae (vQ nm q C N bs bm lz sn sub ab col dd k0 k1 k2 k3 k5 "Exception.__new__")) (Wz:(dp C::bm).contains (.type "Exception")=ai)
  (hq:Q () ⟨h,g,d,t,os⟩):a_ c.M A (qF "Exception.__new__" ⟨.ref C::rest,[]⟩) Q E ⟨h,g,d,t,os⟩:=by
 have Fn:=KW;have aki:=Fn.noStar;simp only [qF,Fn.newKind,Fn.newSplit,Fn.newRow]
 repeat (first|show m7 hC ?_|(show KX hC ?_;rewrite [Wz])|show wpAny_staticBase_exc hC ?_|show aip hC ?_|simp only [Bb,Fu,rZ]|wp_step)
 show hq
theorem abk (hC:h.get? C=ae (vQ nm q C N bs bm lz sn sub ab col dd k0 k1 k2 k3 k5 "Exception.__new__"))
  (qy:(dp C::bm).contains (.type "Exception")=ai) (zD:(dp C::bm).contains (.type "AttributeError")=au) (yP:(dp C::bm).contains (.type "NameError")=au)
  (hq:R (.ok (.ret (.ref (h.objs.size+1)))) ⟨(h.push {cls:= .type "tuple",data:= .seq rest.toArray}).push
   {cls:= .ref C,data:= .fields #[.ref h.objs.size,.none,.none,.none,.bool au,.none]},g,d,t,os⟩) (Cs:rest.length<=bY):
  qG c.M A (.builtin "Exception.__new__" ⟨.ref C::rest,[]⟩) R ⟨h,g,d,t,os⟩:=by
 have Fn:=KW;have akq:=Fn.ends;show codeAny_builtinAt Fn.entry<|aiq<|aiq (PySem.wpAt_stack λp below=>air ?_)
 wp_walk;show air<|aa Fn.owner ?_
 repeat (first|with_reducible show wpAny_madeHere_exc Fn.canon hC ?_|with_reducible show m7 hC ?_|(with_reducible show KX hC ?_;first|rewrite [qy]|rewrite [zD]|rewrite [yP])|wp_step)
 rewrite [vK]
 show hq
theorem afu (X:c.K.In h) (hC:h.get? C=ae (vQ nm q C N bs bm lz sn sub ab col dd k0 k1 k2 k3 k5 "Exception.__new__"))
  (qy:(dp C::bm).contains (.type "Exception")=ai) (zD:(dp C::bm).contains (.type "AttributeError")=au) (yP:(dp C::bm).contains (.type "NameError")=au)
  (hi:kB c.K (.ref C) "__init__"=ae (ae (.ref fI))) (J4:Fi c.K (.ref fI)=ae (.type "function"))
  (hq:a_ c.M A (gN (.ref fI) (.ref (h.objs.size+1)::rest)) (λr s'=>r= .none/\Q (.done (.ret (.ref (h.objs.size+1)))) s') E ⟨(h.push {cls:= .type "tuple",data:= .seq rest.toArray}).push
   {cls:= .ref C,data:= .fields #[.ref h.objs.size,.none,.none,.none,.bool au,.none]},g,d,t,os⟩) (Cs:rest.length<=bY):
  a_ c.M A (Builtin.«type.__call__» ⟨.ref C::rest,[]⟩) Q E ⟨h,g,d,t,os⟩:=by
 repeat (first|with_reducible show m7 hC ?_|with_reducible show aip hC ?_|wp_step)
 show codeAny_call_builtin_code (AW _ PySem.F.excBase_Exception.quiet) (acX hC qy ?_);show abk hC qy zD yP ?_ Cs;have kk:∀b o,h.get? b=ae o->((h.push {cls:= .type "tuple",data:= .seq rest.toArray}).push {cls:= .ref C,data:= .fields #[.ref h.objs.size,.none,.none,.none,.bool au,.none]}).get? b=ae o:=λb o e=>fV _ (fV _ e);have QG:=λa o e=>kk a o (X a o e)
 have abR:((h.push {cls:= .type "tuple",data:= .seq rest.toArray}).push
   {cls:= .ref C,data:= .fields #[.ref h.objs.size,.none,.none,.none,.bool au,.none]}).get? (h.objs.size+1)=ae
   {cls:= .ref C,data:= .fields #[.ref h.objs.size,.none,.none,.none,.bool au,.none]}:=by heap_get
 have hcC:(dp C::bm).contains (.ref C)=ai:=by simp
 repeat (first|with_reducible show m7 abR ?_|(with_reducible show KX (kk _ _ hC) ?_;rewrite [hcC])|wp_step)
 show (Ba QG hi).here<|wpAny_holding (aJ ?_)
 show aJ ((looks_typeIn QG J4).here ?_);show bg (aJ (lF hq (λr s' hr=>?_) λJ J x=>x));show aM hr ?_;intro bC hQ;exists bC;wp_walk;show hQ
theorem ĵ (X:c.K.In h) (hC:h.get? C=ae (vQ nm q C N bs bm lz sn sub ab col dd k0 k1 k2 k3 k5 "Exception.__new__"))
  (qy:(dp C::bm).contains (.type "Exception")=ai) (zD:(dp C::bm).contains (.type "AttributeError")=au) (yP:(dp C::bm).contains (.type "NameError")=au)
  (hi:kB c.K (.ref C) "__init__"=ae (ae (.ref fI))) (J4:Fi c.K (.ref fI)=ae (.type "function"))
  (hq:a_ c.M (A.under (.builtin "type.__call__" ⟨.ref C::rest,[]⟩)) (gN (.ref fI) (.ref (h.objs.size+1)::rest)) (λr s'=>r= .none/\Q (.ref (h.objs.size+1)) s') E ⟨(h.push {cls:= .type "tuple",data:= .seq rest.toArray}).push
   {cls:= .ref C,data:= .fields #[.ref h.objs.size,.none,.none,.none,.bool au,.none]},g,d,t,os⟩) (Cs:rest.length<=bY):
  a_ c.M A (gN (.ref C) rest) Q E ⟨h,g,d,t,os⟩:=by
 have f1:=tc_lookup;have f2:=tc_bind (.ref C);have hT:(⟨h,g,d,t,os⟩:aU).TypeIs (.ref C) "type":=(ao _ hC rfl);show AY (KZ ?_)
 repeat (any_goals (first|assumption|with_reducible show m7 hC ?_|wp_step))
 show ⟨rfl,?_⟩;show codeAny_call_builtin_at (AW _ (by decide+kernel)) ahQ (wpAny_check_type_call_sub hC (afu X hC qy zD yP hi J4 hq Cs))
end
end
end
section
section
variable {c:Cx} {n:ar} {sc:bA} {ρ aO:ah (ak×AV)} {H H':aj}
noncomputable def xy:ah ak->ak->ah ak
 |[],x=>[x]
 |k::ks,x=>if k==x then k::ks else k::xy ks x
noncomputable def wO:ah ak->ah AV->ak->AV->ah AV
 |k::ks,v::vs,x,a=>if k==x then a::vs else v::wO ks vs x a
 |_,_,_,a=>[a]
noncomputable def lK (x:ak) (hash:aq) (key v:aI):ah kz->ah kz
 |[]=>[⟨hash,key,v⟩]
 |e::es=>if e.key.isStr x then {e with val:=v}::es else e::lK x hash key v es
theorem aaz {hash:aq} (y:VR P h a v) (hk:kj ks es):aZ P h vs (es.map (λx=>x.val))->
  kj (xy ks x) (lK x hash (.str x t) v es)/\aZ P h (wO ks vs x a) ((lK x hash (.str x t) v es).map (λx=>x.val)):=by
 revert vs;show zp (M:=λks es=>∀{vs},aZ P h vs (es.map (λx=>x.val))->kj (xy ks x) (lK x hash (.str x t) v es)/\aZ P h (wO ks vs x a) ((lK x hash (.str x t) v es).map (λx=>x.val))) ?_ ?_ hk
 ·show λ{vs} J=>⟨⟨⟨t,rfl⟩,trivial⟩,(by induction vs using c6 <;> show .cons y .nil)⟩
 ·intro k ks e es u ek kr ih vs yv;induction vs using c6 with
  |nil=>show CB (show (e.val::es.map (λx=>x.val))=[] from yv)
  |cons w vs=>
   show cQ yv λv1 r e1 y1 y2=>?_;injection e1 with e1 e2
   subst e1 e2;have q:e.key.isStr x=(k==x):=by exists ek;rfl
   show (?_:kj (if k==x then _ else _) (if e.key.isStr x then _ else _)/\aZ P h (if k==x then _ else _) (Bc _ (if e.key.isStr x then _ else _)));exists q;cases k==x with
   |false=>show ⟨⟨⟨u,ek⟩,(ih y2).1⟩,.cons y1 (ih y2).2⟩
   |true=>show ⟨⟨⟨u,ek⟩,kr⟩,.cons y y2⟩
theorem Nq (x:ak) (hash:aq) (key v:aI) (e:kz) (r:ah kz):lK x hash key v (e::r)=if e.key.isStr x then {e with val:=v}::r else e::lK x hash key v r:=rfl
theorem Ý {hash:aq}:
  ∃m',Fl x hash key v ⟨cls,dd,.dict es m,sl⟩=⟨cls,dd,.dict (lK x hash key v es.toList).toArray m',sl⟩:=by
 have go:∀(l:ah kz),(l.findIdx? (λe=>e.key.isStr x)).elim (l++[⟨hash,key,v⟩]) (λi=>l.modify i (λe=>{e with val:=v}))=lK x hash key v l:=by
  intro l;induction l with
  |nil=>rfl
  |cons e r ih=>
   rewrite [aii,Nq]
   cases q:e.key.isStr x with
   |true=>rfl
   |false=>
    exists ih.symm;cases r.findIdx? (λe=>e.key.isStr x) <;> rfl
 rcases es with ⟨l⟩
 have:=go l;exists UW;unfold UX;dsimp only
 rewrite [List.findIdx?_toArray]
 cases q:l.findIdx? (λe=>e.key.isStr x) with
 |some i=>rw [q] at this;show ⟨m,bD (λt=>(⟨cls,dd,.dict t m,sl⟩:eU)) ((List.modify_toArray ..).trans (bD Bd this))⟩
 |none=>rw [q] at this;show ⟨m+1,bD (λt=>(⟨cls,dd,.dict t (m+1),sl⟩:eU)) ((List.push_toArray ..).trans (bD Bd this))⟩
theorem IZ (g:s.heap.get? d=ae ⟨.type "dict",none,.dict es m,#[]⟩) (BN:es.toList.any (λx=>x.refKey)=au) (hz:es.size<=1000)
  (h:∀(f:eU->eU) (hash:aq) (m':ar),(s.heap.update d f).get? d=ae ⟨.type "dict",none,.dict (lK x hash (.str x s.toks) v es.toList).toArray m',#[]⟩->Q () {s with heap:=s.heap.update d f,toks:=s.toks+1}):
  a_ c.M A (nsSet d x v) (λJ aC=>a_ c.M A (lookBehind d part) Q E aC) E s:=by
 have hs:(lK x (if x.cps.isEmpty=ai then (0:aq) else K0 (c.M.w.params.strHash x.cps)) (.str x s.toks) v es.toList).length<=es.size+1:=by
  generalize (if x.cps.isEmpty=ai then (0:aq) else K0 (c.M.w.params.strHash x.cps))=hh
  have:∀l:ah kz,(lK x hh (.str x s.toks) v l).length<=l.length+1:=by
   intro l;induction l with
   |nil=>show eY _
   |cons e r ih=>
    rewrite [Nq]
    by_cases q:e.key.isStr x=ai
    ·show aa (bN q) (kX _)
    ·show aa (bo q) (Nat.succ_le_succ ih)
  show this es.toList
 show aJ (aJ (Km (bg (aJ (UT (aJ (A4 g ?_)))))));dsimp only
 have cc:(!es.any (λy=>y.key.isStr x) && es.any (λx=>x.refKey))=au:=by
  show aa Array.any_toList.symm<|aa Array.any_toList.symm<|aa BN ?_;rewrite [KA];rfl
 rewrite [ah3];exists cc
 show UU g<|bj (Ý (x:=x) (hash:=(if x.cps.isEmpty=ai then (0:aq) else K0 (c.M.w.params.strHash x.cps))) (key:= .str x s.toks) (v:=v) (cls:= .type "dict") (dd:=none) (es:=es) (m:=m) (sl:=#[])) λm' e=>?_
 have g':=jK (Fl x (if x.cps.isEmpty=ai then (0:aq) else K0 (c.M.w.params.strHash x.cps)) (.str x s.toks) v) g (by exists e;rfl);rw [e] at g';show ais g' (pastItsLine_dict (by show aa Fd<|aa fH ?_;lia)) ?_;show h _ _ _ g'
end
end
section
section
variable {c:Cx} {n:ar} {sc:bA} {ρ aO:ah (ak×AV)} {H H':aj}
theorem ν:kj ks es->es.length=ks.length:=
 zp (M:=λks es=>es.length=ks.length) rfl λJ J J J J J J ih=>bD (λx=>x+1) ih
noncomputable def xX (K:iI) (C:aF) (name:ak):aN:=kB K (.ref C) "__setattr__"==ae (ae (.builtin "object.__setattr__")) && plainOver K C && Vg K C name==ae none && vH K C
theorem abY (hx:H x=ae (.inst C dx ks vs)) (ok:xX c.K C attr=ai) (hz:ks.length<=1000)
  (h:Q (H.set x (.inst C dx (xy ks attr) (wO ks vs attr a)))):uF c n attr (.ref x) a H Q X:=λA s v u C0 yv ya=>by
 have yv:=yv;exists yv;simp only [xX,d9,beq_iff_eq] at ok;show aM ok λbC o4=>aM bC λbW o3=>aM bW λo1 o2=>Ak (C0.1.6 x _ hx) λo es m g oc od nc nf gd kr r=>aM (C0.1.4 x C dx ks vs hx) λdl dn=>?_;have I:InstAt s.heap x o C (ae ⟨.type "dict",none,.dict es m,#[]⟩):=⟨g,oc,nc,by show aa od<|gd⟩;have X0:=C0.1.1;show up<|set_plain X0 I o1 (osa_open X0 I o2 o3 λb=>?_)
 obtain ⟨cd,hc,lq⟩:∃cd,tS c.K C=ae cd/\cd.hasDict=ai:=by
  unfold vH at o4;cases q:tS c.K C with
  |none=>rw [q] at o4;injection o4
  |some cd=>rw [q] at o4;show (ao cd rfl o4)
 rcases o with ⟨Ce,odi,oda,tv⟩
 dsimp only at oc od;subst oc od;have X1:c.K.In ({s with toks:=s.toks+1}:aU).heap:=X0;show aJ (bg (aJ (aJ (A4 g (aJ ((K5 X1 hc).here ?_))))));show aa lq<|wpAny_pure (aJ (bg ?_))
 have esl:es.size<=1000:=aa Array.length_toList.symm<|aa (ν kr)<|hz
 show (?_:a_ _ _ (ait dx (.str attr s.toks) attr u) _ _ _);show aJ (bg (aJ ?_));show lF (IZ (E:=λJ J=>dV) gd (OJ kr) esl λf hash m' g'=>?_) (λJ aC w=>aJ (lF w (λJ aL w=>bg w) λJ J z=>z.elim)) λJ J z=>z.elim;have ne:x≠dx:=λw=>by rw [<-w,hx] at dn;injection dn
 show aM (aaz (x:=attr) (hash:=hash) (t:=s.toks+1) ya kr r) λk1 k2=>?_;have mV:∀b,b≠dx->(s.heap.update dx f).get? b=s.heap.get? b:=λb w=>gP _ _ (bI w)
 have T:SR c bL H s (H.set x (.inst C dx (xy ks attr) (wO ks vs attr a))) {s with heap:=s.heap.update dx f,toks:=s.toks+1+1}:= .ae4 C0.1 hx mV
  (Jh _ _ m' ((mV x ne).trans g) rfl rfl nc nf g' k1 (by
   show aZ.mono (λb o f e q1 q2=>⟨f,(mV b λw=>f (aa w (.inr (mK x C ks vs hx)))).trans e⟩) _ _ k2))
 show (ao _ T h)
end
end
section
section
variable {c:Cx} {n:ar} {sc:bA} {ρ aO:ah (ak×AV)} {H H':aj}
noncomputable def Na:ah aI:=[.type "Exception",.type "BaseException",.type "object"]
noncomputable def yF:ah aI->aN
 | .ref _::r=>yF r
 |l=>l==Na
theorem adT (self:aI):refuseLoop self "__setattr__" Na=pure ():=by ext
theorem Wq (self:aI) (e:yF l=ai):refuseLoop self "__setattr__" l=pure ():=by
 induction l with
 |nil=>show lU e
 |cons v r ih=>
  induction v using A0 with
  |ref a=>show aa (refuseLoop_ref ..) (ih e)
  |_=>show aa (beq_iff_eq.mp e) (adT self)
theorem aav (e:yF l=ai):l.contains (.type "object")=ai:=by
 induction l with
 |nil=>show lU e
 |cons v r ih=>
  induction v using A0 with
  |ref a=>show aa ahW (aa (ih e) (Bool.or_true _))
  |_=>show aa (beq_iff_eq.mp e) ⋯
noncomputable def JI (K:iI) (C:aF):aN:=(tS K C).any λcd=>yF cd.mro
theorem TU (X:c.K.In s.heap) (I:InstAt s.heap x ox C od) (hp:JI c.K C=ai) (ht:Vg c.K C name=ae none)
  (h:∀b,a_ c.M A.in1 (akw (.ref x) (.ref C) (.str name tk) name v b)
   (λfin s'=>match fin with| .done f=>R (.ok f) s'| .again c'=>c'.quiet=ai/\qG c.M A c' R s') (λe s'=>R (.error e) s') s):
  qG c.M A (.call (.builtin "object.__setattr__") ⟨[.ref x,.str name tk,v],[]⟩) R s:=by
 have SF:=PySem.F.store_object
 obtain ⟨cd,hc,ho⟩:∃cd,tS c.K C=ae cd/\yF cd.mro=ai:=by
  unfold JI at hp;cases q:tS c.K C with
  |none=>rw [q] at hp;show lU hp
  |some cd=>rw [q] at hp;show (ao cd rfl hp)
 have ne:cd.mro.isEmpty=au:=by cases q:cd.mro with|nil=>rw [q] at ho;injection ho|cons _ _=>rfl
 have sub:mW c.M s.heap (UJ (.ref x) (.type "object")) ai:=I.type.andThen (Fw X (by unfold qI;rw [hc,ou,bo (by exists ne;decide),aav ho]));show K6 SF.slot.plain SF.entry (@check_slot c.M _ _ s "object.__setattr__" "object" "__setattr__" (.ref x) [.str name tk,v] [] _ SF.kind SF.split sub (SF.args (.ref x) (.str name tk) v) ?_);show aA (Option.bind_eq_some_iff.mp ht) λattr ha hr=>?_;have hm:mW c.M s.heap (mroOf (.ref C)) cd.mro:=(K5 X hc).andThen .now
 have L3:mW c.M s.heap (akx attr) none:=by
  induction attr using eL with
  |none=>show .now
  |some a=>
   show aA (Option.map_eq_some_iff.mp hr) λb hb e=>(looks_takesIn X hb).andThen ?_;induction b using ez
   ·show .now
   ·show Gs e
 rewrite [osa_eq,refuse_eq]
 show aJ (aJ (I.type.here (aJ (hm.here ?_))));show aa (Wq _ ho)<|wpAny_pure (aJ (I.type.here (aJ ((Ba X ha).here (aJ (L3.here ?_))))))
 show h _
noncomputable def Ee (K:iI) (C:aF) (name:ak):aN:=kB K (.ref C) "__setattr__"==ae (ae (.builtin "object.__setattr__")) && JI K C && Vg K C name==ae none && vH K C
theorem Ri (X:c.K.In s.heap) (ok:Ee c.K C name=ai)
  (g:s.heap.get? ea=ae ⟨.ref C,uu,.fields vs,sl⟩) (hd:(uu=none/\es=#[])\/∃d,uu=ae d/\d≠ea/\s.heap.get? d=ae ⟨.type "dict",none,.dict es m,#[]⟩) (BN:es.toList.any (λx=>x.refKey)=au) (hz:es.size<=1000)
  (h:∀d h' hash m' tk tk',d≠ea->(uu=ae d\/uu=none/\s.heap.get? d=none)->h'.get? ea=ae ⟨.ref C,ae d,.fields vs,sl⟩->h'.get? d=ae ⟨.type "dict",none,.dict (lK name hash (.str name tk) v es.toList).toArray m',#[]⟩->
   (∀b o,b≠ea->b≠d->s.heap.get? b=ae o->h'.get? b=ae o)->Q () {s with heap:=h',toks:=tk'}):a_ c.M A (Uz (.ref ea) name v) Q E s:=by
 simp only [Ee,d9,beq_iff_eq] at ok;show aM ok λbC o4=>aM bC λbW o3=>aM bW λo1 o2=>?_
 obtain ⟨cd,hc,lq⟩:∃cd,tS c.K C=ae cd/\cd.hasDict=ai:=by
  unfold vH at o4;cases q:tS c.K C with
  |none=>rw [q] at o4;show lU o4
  |some cd=>rw [q] at o4;show (ao cd rfl o4)
 have X1:c.K.In ({s with toks:=s.toks+1}:aU).heap:=X;rcases hd with ⟨rfl,rfl⟩|⟨d,rfl,M7,gd⟩
 ·have I:InstAt s.heap ea ⟨.ref C,none,.fields vs,sl⟩ C none:=⟨g,rfl,rfl,trivial⟩;show set_plain X I o1 (TU X I o2 o3 λb=>?_);show aJ (bg (aJ (aJ (A4 g (aJ ((K5 X1 hc).here ?_))))));exists lq;have nd:=fv s.heap;have pq:s.heap.objs.size≠ea:=λw=>by rw [w,g] at nd;show Gs nd
  have g1:(s.heap.push {cls:= .type "dict",data:= .dict #[]}).get? ea=ae ⟨.ref C,none,.fields vs,sl⟩:=fV _ g;show aJ (KI (aJ (UY g1 ?_)));show bg ?_;have g2:=jK (λo=>{o with dict:=ae s.heap.objs.size}) g1 rfl;have Ć:((s.heap.push {cls:= .type "dict",data:= .dict #[]}).update ea λo=>{o with dict:=ae s.heap.objs.size}).get? s.heap.objs.size=ae ⟨.type "dict",none,.dict #[] 0,#[]⟩:=(gP _ _ pq.symm).trans (fG _ rfl);show aJ (bg (aJ ?_));show lF (IZ (E:=λJ J=>dV) Ć BN hz λf hash m' g'=>?_) (λJ aC w=>aJ (lF w (λJ aL w=>bg w) λJ J z=>z.elim)) λJ J z=>z.elim;show h s.heap.objs.size _ hash m' (s.toks+1) _ pq (.inr ⟨rfl,nd⟩) ((gP _ _ pq).trans g2) g' λb o n1 n2 e=>?_;exists gP _ _ (bI n2);exists gP _ _ (bI n1);show fV _ e
 ·have I:InstAt s.heap ea ⟨.ref C,ae d,.fields vs,sl⟩ C (ae ⟨.type "dict",none,.dict es m,#[]⟩):=⟨g,rfl,rfl,gd⟩;show set_plain X I o1 (TU X I o2 o3 λb=>?_);show aJ (bg (aJ (aJ (A4 g (aJ ((K5 X1 hc).here ?_))))));show aa lq<|wpAny_pure (aJ (bg ?_))
  show (?_:a_ _ _ (ait d (.str name s.toks) name v) _ _ _);show aJ (bg (aJ ?_));show lF (IZ (E:=λJ J=>dV) gd BN hz λf hash m' g'=>?_) (λJ aC w=>aJ (lF w (λJ aL w=>bg w) λJ J z=>z.elim)) λJ J z=>z.elim;show h d _ hash m' (s.toks+1) _ M7 (.inl rfl) ((gP _ _ M7).trans g) g' λb o n1 n2 e=>(gP _ _ (bI n2)).trans e
end
end
section
section
variable {c:Cx} {n:ar} {sc:bA} {ρ aO:ah (ak×AV)} {H H':aj}
theorem abe {names:ah ak} (hf:B0 c.K a sc body) (hlen:names.length=args.length+ds.length)
  (AG:∀fd,kS c.K a=ae fd->∀s vs,c.K.In s.heap->vs.length=args.length->Fp s fd ⟨vs,[]⟩ (names.zip (vs++dv))) (qX:∀H h,Vs H h ds dv) (hk:∀x∈names,j_ (sc.names.lookup x)=ai) (C:CT c (n+1) A H s.heap) (y:Vs H s.heap args vs)
  (h:∀env aC,CE c n sc (A.deeper env) env ((names.zip (args++ds)).reverse) H aC.heap->SR c bL H s H aC->(∀b,fw env b->s.heap.get? b=none)->
   a_ c.M (A.deeper env) (j5 body env) (λf s'=>Q (match f with| .ret v=>v|_=> .none) s') (λe s'=>a_ c.M (A.deeper env) (UC env e) (λJ gw=>E e gw) E s') aC):a_ c.M A (gN (.ref a) vs) Q E s:=by
 show Rj hf ?_;clear hf;intro fd iR bC hb hg J2 JT xP Ar zo J9;subst bC;show aA (Sn C.1.1 iR) λo ho hd=>?_;have AL:=C.3.lt;have hz:(names.zip (vs++dv)).map (λx=>x.1)=names:=ah6 (aa cb<|aa y.length<|aa ((qX H s.heap).length)<|aa hlen<|eY _);have zu:(names.zip (vs++dv)).map (λx=>x.2)=vs++dv:=ah7 (aa cb<|aa y.length<|aa ((qX H s.heap).length)<|aa hlen<|eY _);show AY (codeAny_call_function AL ho hd Ar zo hb (codeRec_of C.1.1 xP) (AG fd iR s vs C.1.1 y.length _ _ _ _ ?_));show aa hg<|aa JT<|aa J2<|MM C.1 J9 (λx hx=>hk x.1 (aa hz.symm (yk hx))) (aa zu (aZ.append y (qX H s.heap))) λenv aC lN aX er ex=>?_
 rw [hz] at er;show ⟨c.lim _ aX.4.1,codeAny_func ?_⟩;have hA:∃l,A.frames=ae l:=let ⟨l,e,_⟩:=C.2.1;⟨l,e⟩;show bj hA λl hl=>?_;have Dy:=Of C aX er ex lN hl;show lF (h env aC Dy aX ex) (λJ J z=>z) λJ J z=>z
theorem Em (er:cF H s.heap env ρ) (iN:env.scope=sc) (hk:ni sc x=ai) (hr:ρ.lookup x=ae av)
  (h:∀v,V H s.heap av v->Q v s):a_ c.M A (bX (.Name x pos) env) Q E s:=by
 show aM (Bool.and_eq_true_iff.mp hk) λqu f6=>wpAny_Name ?_ (zy qu);have ek:env.kindOf x=sc.names.lookup x:=by unfold qE;exists iN;rfl
 cases q:sc.names.lookup x with
 |none=>rw [q] at f6;injection f6
 |some kd=>
  rw [q] at f6 ek;cases kd <;> try ((first|(injection f6;done)|cases f6))
  ·show aA er.6 λm hn hm=>aA (hm x av hr ek) λv hv y=>ahS er.1 ek hn hv (h v y)
  ·show cQ (er.8 x av hr (.inl ek)) λa v h1 h2 y=>ahT er.1 ek h1 h2 (h v y)
  ·show cQ (er.8 x av hr (.inr ek)) λa v h1 h2 y=>ahU er.1 ek h1 h2 (h v y) (Sj qu)
theorem agR {os:pG} {sub:ah aI}
  (hC:h.get? C=ae (vQ nm q C N bs bm lz sn sub ab col dd k0 k1 k2 k3 k5 Ĝ)) (qy:(dp C::bm).contains (.type "Exception")=ai) (he:h.get? e=ae oe) (ad5:oe.cls= .ref C) (hq:Q () ⟨h,g,d,t,os⟩):
  a_ M A (qF "Exception.__init__" ⟨.ref e::rest,[]⟩) Q E ⟨h,g,d,t,os⟩:=by
 have F:=KW;have akr:=F.noStar;simp only [qF,F.initKind,F.initSplit,F.initRow]
 repeat (first|(with_reducible show m7 he ?_;rewrite [ad5])|with_reducible show m7 hC ?_|(with_reducible show KX hC ?_;rewrite [qy])|wp_step)
 show K7 ?_
 rw [show ∀(a b:eT) (n:ar),Bind.check ⟨.positional,"*","Exception",.self,[⟨"args",.varPos,au⟩]⟩ a b n (Bc (λx=>x.fst) ({pos:=dp e::rest}:Args).kw)=pure () from
  λa b n=>check_star_args _ _ _ _ _ _]
 show bg hq
theorem adS {sub:ah aI}
  (hC:s.heap.get? C=ae (vQ nm q C N bs bm lz sn sub ab col dd k0 k1 k2 k3 k5 Ĝ)) (qy:(dp C::bm).contains (.type "Exception")=ai)
  (he:s.heap.get? e=ae ⟨.ref C,uu,.fields vs,sl⟩) (h0:vs[0]?=ae (.ref t0)) (hz:rest.length<=bY)
  (h:∀h' t,h'.get? e=ae ⟨.ref C,uu,.fields (vs.setIfInBounds 0 (.ref t)),sl⟩->(∀b o,b≠e->s.heap.get? b=ae o->h'.get? b=ae o)->Q .none {s with heap:=h'}):
  a_ c.M A (gN (.builtin "Exception.__init__") (.ref e::rest)) Q E s:=by
 have F:=KW;rcases s with ⟨hp,g,d,t,os⟩
 show AY (K6 F.init.plain F.initEntry (agR hC qy he rfl ?_));show aJ<|wpAny_newObj_type ?_ (hz)
 have zk:(hp.push {cls:= .type "tuple",data:= .seq rest.toArray}).get? e=ae ⟨.ref C,uu,.fields vs,sl⟩:=fV _ he;have hsz:=(Array.getElem?_eq_some_iff.mp h0).1;show aJ<|wpAny_bind (ku zk rfl h0 ?_)
 show aJ (vJ zk rfl hsz ?_);show K8 (bg ?_);show h _ hp.objs.size (jK _ zk rfl) λb o n e2=>(gP _ _ (bI n)).trans (fV _ e2)
noncomputable def ZW (p:Fin 14->fU) (k:ar):ah fc:=[
 .Expr (.Call (.Attribute (.Name "Exception" (p 0)) "__init__" (p 1)) [.Name "self" (p 2),.Name "what" (p 3)] [] (p 4)) (p 5),
 .Assign [.Attribute (.Name "self" (p 6)) "what" (p 7)] (.Name "what" (p 8)) (p 9),
 .Assign [.Attribute (.Name "self" (p 10)) "at" (p 11)] (.Name "at" (p 12)) (p 13)]
noncomputable def uq:ah ak:=["self","what","at"]
inductive wg (c:Cx) (D fI:aF) (sI:bA) (t:tW):Prop
 |mk (ex:Ez c.K D fI) (fn:∃p,B0 c.K fI sI (ZW p 0)/\((p 1).endLine==(p 4).line)=ai) (names:j_ (sI.names.lookup ("self":ak))=ai/\j_ (sI.names.lookup ("what":ak))=ai/\j_ (sI.names.lookup ("at":ak))=ai/\ni sI "self"=ai/\ni sI "what"=ai/\ni sI "at"=ai/\jc sI "Exception"=ai) (b2:∀fd,kS c.K fI=ae fd->∀s vs,c.K.In s.heap->vs.length=2->Fp s fd ⟨vs,[]⟩ (uq.zip (vs++[.int (-1) t]))) (b3:∀fd,kS c.K fI=ae fd->∀s vs,c.K.In s.heap->vs.length=3->Fp s fd ⟨vs,[]⟩ (uq.zip vs)) (glo:hV c.K "Exception" (.ty "Exception")=ai) (w:Ee c.K D "what"=ai) (a:Ee c.K D "at"=ai)
theorem Sq (h:pZ A (n+1)):pZ (A.under (.builtin "type.__call__" ⟨.ref D::vs,[]⟩)) n:=h.step (k:=1) rfl rfl ⋯
end
end
section
section
variable {c:Cx} {n:ar} {sc:bA} {ρ:ah (ak×AV)} {H:aj} {X:AX->aj->Prop}
theorem agL (C:CE c n sc A env ρ H s.heap) (hk:jc sc x=ai) (hg:hV c.K x av=ai) (h:∀v,V H s.heap av v->Q v s):a_ c.M A (bX (.Name x pos) env) Q E s:=by
 show aM (Bool.and_eq_true_iff.mp hk) λqu f6=>?_;have ek:env.kindOf x=ae .globalImplicit:=by unfold qE;show aa C.3<|beq_iff_eq.mp f6
 show Name_function_global C.2.1 ek (Hi C hg h) (zy qu)
theorem afI (C:CE c n sc A env ρ H s.heap) (hk:jc sc x=ai) (hg:hV c.K x av=ai) (hu:∀v,V H s.heap av v->v=u) (h:Q u s):a_ c.M A (bX (.Name x pos) env) Q E s:=
 agL C hk hg λv y=>hu v y▸h
theorem Er (er:cF H s.heap env ρ) (iN:env.scope=sc) (hk:ni sc x=ai) (hr:ρ.lookup x=ae (.ref a)) (h:Q (.ref a) s):a_ c.M A (bX (.Name x pos) env) Q E s:=
 Em er iN hk hr λv y=>by
  have y:=y;show aa y<|h
theorem Hh (hs:gy es=ai)
  (h:a_ c.M A (kU (iG pos (iH es env))) (λvs s'=>Q ⟨vs,[]⟩ s') E s):a_ c.M A (vt f ai (iG pos (iH es env)) []) Q E s:=by
 induction es using c6 with
 |nil=>
  have e:vt f ai (iG pos (iH [] env)) []=((kU (iG pos (iH [] env)):cC (ah aI)) >>=λvs=>pure ⟨vs,[]⟩):=by with_unfolding_all rfl
  show aa e<|wpAny_bind (lF h (λvs s' q=>bg q) λJ J z=>z)
 |cons e r=>
  simp only [gy,Ff,d9,lC] at hs;rw [rM hs.1] at h ⊢;show evalArgs_plain h
theorem ĕ (hs:gy es=ai) (hf:jW c.K f=ai)
  (h:a_ c.M A (kU (iG pos (iH es env))) (λvs s'=>c.K.In s'.heap/\a_ c.M A (gN f (first++vs)) Q E s') E s):a_ c.M A (yc pos f first (iG pos (iH es env)) []) Q E s:=by
 have ns:=HS (pos:=pos) (env:=env) hs;induction f using A0 <;> try ((first|(injection hf;done)|cases hf))
 ·show PySem.callWith_type ns (Hh hs (lF h (λJ J z=>z.2) λJ J z=>z))
 ·show callWith_builtin ns (Hh hs (lF h (λJ J z=>z.2) λJ J z=>z))
 ·show callWith_of (by exists ns;rfl) (keeps_K hf) (Hh hs h)
end
end
section
section
variable {c:Cx} {n:ar} {sc:bA} {ρ aO:ah (ak×AV)} {H H':aj}
theorem Ò (K:iI):findCls K (.type "Exception") (.type "type") "__init__"=ae (.val (.builtin "Exception.__init__")):=by rfl
theorem ZV:tM (.type "Exception")=pure (.type "type"):=kitMeta_of (by decide+kernel)
theorem ahl:ain "Exception"=au:=by decide+kernel
theorem aal:Kx (.builtin "Exception.__init__")=ai:=by decide+kernel
noncomputable def Ck (ea:aF) (w a:AV):ah (ak×AV):=[("at",a),("what",w),("self",.ref ea)]
set_option maxHeartbeats 2000000 in
theorem OV {A:eX} {s:aU} {D fI:aF} {sI:bA} {t:tW} {jt at_:AV} {args:ah AV} {vs:ah aI} {Q:aI->aU->Prop} {E:aI->aU->Prop} (C:CT c (n+2) A H s.heap) (ok:wg c D fI sI t) (ha:args=[jt,at_]\/args=[jt]/\at_= .int (-1)) (y:Vs H s.heap args vs)
  (h:∀s' ea,SR c bL H s H s'->XR s.heap H s'.heap ⟨D,jt,at_⟩ (.ref ea)->Q (.ref ea) s'):a_ c.M A (gN (.ref D) vs) Q E s:=by
 show Ez.el ok.1 λnm q N bs bm lz sn sub ab col dd k0 k1 k2 k3 k5 hK NR c1 c3 c4=>?_;have hC:=C.1.1 _ _ hK
 have hlen:vs.length<=bY:=by
  exists y.length;exists fH;rcases ha with e|⟨e,_⟩ <;> simp [e]
 rcases s with ⟨hh,g,dr,tk,os⟩
 show ĵ C.1.1 hC c1 c3 c4 ok.1.2 ok.1.3 ?_ hlen;have kk:∀b o,hh.get? b=ae o->((hh.push {cls:= .type "tuple",data:= .seq vs.toArray}).push {cls:= .ref D,data:= .fields #[.ref hh.objs.size,.none,.none,.none,.bool au,.none]}).get? b=ae o:=λb o e=>fV _ (fV _ e)
 have ge:((hh.push {cls:= .type "tuple",data:= .seq vs.toArray}).push {cls:= .ref D,data:= .fields #[.ref hh.objs.size,.none,.none,.none,.bool au,.none]}).get? (hh.objs.size+1)=ae ⟨.ref D,none,.fields #[.ref hh.objs.size,.none,.none,.none,.bool au,.none],#[]⟩:=by
  have:=fG (hh.push {cls:= .type "tuple",data:= .seq vs.toArray}) (o:={cls:= .ref D,data:= .fields #[.ref hh.objs.size,.none,.none,.none,.bool au,.none]}) rfl
  rwa [vK] at this
 generalize Sm:(hh.push {cls:= .type "tuple",data:= .seq vs.toArray}).push {cls:= .ref D,data:= .fields #[.ref hh.objs.size,.none,.none,.none,.bool au,.none]}=h1 at kk ge ⊢;have S0:SR c bL H ⟨hh,g,dr,tk,os⟩ H ⟨h1,g,dr,tk,os⟩:= .grow C.1 kk;have zw:hh.get? (hh.objs.size+1)=none:=yh (kX _);generalize hh.objs.size+1=ea at ge zw ⊢;have C1:CT c (n+1) (A.under (.builtin "type.__call__" ⟨.ref D::vs,[]⟩)) H h1:=⟨S0.4,⟨C.2.keep S0.5|>.1⟩,Sq C.3,C.4.keep S0.5,C.5⟩;have y1:Vs H h1 (.ref ea::args) (.ref ea::vs):=aZ.cons rfl (Vs.keep y S0.5);show aA ok.2 λp hf hp=>u9 ok.3 λn1 n2 n3 n4 n5 n6 n7=>?_
 have GO:∀x∈uq,j_ (sI.names.lookup x)=ai:=λx hx=>by
  simp only [uq,yq,EU,K9] at hx;show hx.elim (λe=>e▸n1) λhx=>hx.elim (λe=>e▸n2) λe=>e▸n3
 have enter:∀(ds:ah AV) (dv:ah aI),(.ref ea::args)++ds=[.ref ea,jt,at_]->(∀H h,Vs H h ds dv)->(∀fd,kS c.K fI=ae fd->∀s dO,c.K.In s.heap->dO.length=(AV.ref ea::args).length->Fp s fd ⟨dO,[]⟩ (uq.zip (dO++dv)))->
   a_ c.M (A.under (.builtin "type.__call__" ⟨.ref D::vs,[]⟩)) (gN (.ref fI) (.ref ea::vs)) (λr s'=>r= .none/\Q (.ref ea) s') E ⟨h1,g,dr,tk,os⟩:=λds dv e1 qX AG=>by
  show abe hf (by
   have:=bD mj e1;simp only [cb] at this;simp only [uq,cY,jL] at this ⊢;lia) AG qX GO C1 y1 λenv aC ce S1 ex=>?_
  rw [e1] at ce;have uz:(uq.zip [AV.ref ea,jt,at_]).reverse=(Ck ea jt at_):=rfl;rw [uz] at ce;have rs:(Ck ea jt at_).lookup ("self":ak)=ae (.ref ea):=rfl;have TR:(Ck ea jt at_).lookup ("what":ak)=ae jt:=rfl;have ra:(Ck ea jt at_).lookup ("at":ak)=ae at_:=rfl;have Og:Fz H ea:=C.1.jR zw;have KL:=C.1.1;have Mo:=n_ KL zw;show Vh (wpAny_Expr_any ?_ (by unfold UB;exists ce.2.1;rfl) rfl);rw [Q2 (by rfl) (by show (?_:2 < 30);decide) hp (by rfl) rfl];show aJ (afI ce n7 ok.6 (λJ y=>y) ?_);have S2:SR c bL H aC H aC:= .refl ce.1.1;show aJ (EW (aJ (mY (ċ S2.4.1 ZV ahl (Ò _) aal ?_))));have Bu:cF H aC.heap env _:=ce.2.keep S2.5;show ĕ (c:=c) (by rfl) (by rfl) ?_;exists rM (by rfl);exists rM (by rfl);show aiu (Er (s:={aC with toks:=aC.toks+1}) Bu ce.3 n4 rs ?_);show aiu (Em (s:={aC with toks:=aC.toks+1}) Bu ce.3 n5 TR λu2 z2=>Calls.spliced_nil ⟨S2.4.1,?_⟩);have Ct:aC.heap.get? ea=ae ⟨.ref D,none,.fields #[.ref hh.objs.size,.none,.none,.none,.bool au,.none],#[]⟩:=((S1.trans S2).5.get ge Og id rfl).2;show adS (s:={aC with toks:=aC.toks+1}) (S2.4.1 _ _ hK) c1 Ct rfl (by show (?_:1<=bY);decide) λh3 t3 CX Eu=>?_;have K3:KN H aC.heap H h3:= .ext Ct ⟨rfl,rfl⟩ Eu;have HI:cF H h3 env _:=Bu.mO K3;have X3:c.K.In h3:=λb o e=>Eu b o (λw=>by rw [w,Mo] at e;injection e) (S2.4.1 b o e);show Vh (aiv (Em (s:={aC with heap:=h3,toks:=aC.toks+1}) HI ce.3 n5 TR λw1 yw=>Er (s:={aC with heap:=h3,toks:=aC.toks+1}) HI ce.3 n4 rs ?_) rfl);show Ri (c:=c) (s:={aC with heap:=h3,toks:=aC.toks+1}) (es:=#[]) (m:=0) X3 ok.7 CX (.inl ⟨rfl,rfl⟩) rfl ⋯ λd h4 abD m4 SJ Ig Sk dd4 N_ ő Xb=>?_
  have wi:h3.get? d=none:=by
   rcases dd4 with z|⟨_,z⟩
   ·injection z
   ·show z
  have Cj:∀b o,b≠ea->h3.get? b=ae o->h4.get? b=ae o:=λb o n1 e=>Xb b o n1 (λw=>by rw [w,wi] at e;injection e) e
  have fp:∀b,b≠d->Fz H b->Fz (H.set d .priv) b:=λb n1 f w=>by
   rcases QJ w with w|w|⟨C,ks,vs,w⟩
   ·show n1 w
   ·show f w
   ·injection w
  have K4:KN H h3 (H.set d .priv) h4:=λb o e z=>by
   have n1:b≠d:=λw=>by rw [w,wi] at e;injection e
   have n2:b≠ea:=λw=>by
    rw [w,CX] at e;injection e with ct;subst ct
    rcases z with z|z <;> injection z
   show (aP (fp b n1) (λq=>(aj.eQ _ _ n1).trans q) (λJ=>(i_ o (Cj b o n2 e) rfl rfl (λJ=>rfl))))
  have Uo:cF (H.set d .priv) h4 env _:=HI.mO K4;have X4:c.K.In h4:=λb o e=>Cj b o (λw=>by rw [w,Mo] at e;injection e) (X3 b o e);show Vh (aiv (Em (s:={aC with heap:=h4,toks:=Ig}) Uo ce.3 n6 ra λw3 ya=>Er (s:={aC with heap:=h4,toks:=Ig}) Uo ce.3 n4 rs ?_) rfl);show Ri (c:=c) (s:={aC with heap:=h4,toks:=Ig}) (es:=(lK "what" abD (.str "what" SJ) w1 []).toArray) (m:=m4) X4 ok.8 N_ (.inr (bV d rfl Sk ő)) (by rfl) (by show (?_:1<=1000);decide) λd5 h5 ako m5 tk5 Oa nd5 dd5 GN TJ BA=>wpAny_execs_nil ?_;have:d5=d:=dd5.elim (λz=>(bZ z).symm) λz=>nomatch z.1;rw [this] at GN TJ BA;show ⟨rfl,?_⟩;have CD:SR c bL H ⟨hh,g,dr,tk,os⟩ H aC:=(S0.trans S1).trans S2
  have ġ:∀b o,b≠ea->aC.heap.get? b=ae o->h5.get? b=ae o:=λb o n1 e=>by
   have e3:=Eu b o n1 e;show BA b o n1 (λw=>by rw [w,wi] at e3;injection e3) (Cj b o n1 e3)
  have Sf:cG (λx=>x=ea) aC.heap h5:=⟨λb o e=>by
   show (vF (b=ea)).elim (λw=>?_) λw=> .same (ġ b o w e);rw [w] at e ⊢;rw [<-bZ (Ct.symm.trans e)];show .mk _ GN rfl (λx'=>dP x' λes m z=>nomatch z) λz=>cy rfl z⟩
  have H5:=Sf.sr (s:=aC) (lo:=hh) S2.4 KL λb o w e=>by subst w;rw [Ct] at e;injection e with fD;subst fD;show ⟨rfl,zw⟩
  have agQ:SR c (λx=>hh.get? x=none) H aC H {aC with heap:=h5,toks:=Oa}:=⟨rfl,rfl,rfl,H5.4,H5.5,H5.6⟩
  have T:SR c bL H ⟨hh,g,dr,tk,os⟩ H {aC with heap:=h5,toks:=Oa}:=
   ((CD.more (Ex':=(λx=>hh.get? x=none)) λJ q=>q.elim).trans agQ).fresh λb o e q=>by rw [show (aiw hh g dr tk os).heap.get? b=hh.get? b from rfl,q] at e;injection e
  show h _ ea T ?_
  have Ro:Fz H d:=S2.4.jR (by
   cases z:aC.heap.get? d with
   |none=>rfl
   |some o=>rw [Eu d o Sk z] at wi;injection wi)
  have yw5:V H h5 jt w1:=VR.mono (λb o f e q1 q2=>⟨f,BA b o (λw=>by rw [w,CX] at e;injection e with jb;subst jb;injection q2) (λw=>by rw [w,wi] at e;injection e) (Cj b o (λw=>by rw [w,CX] at e;injection e with j9;subst j9;injection q2) e)⟩) _ _ yw
  have Zd:V H h5 at_ w3:=VR.mono (λb o f e q1 q2=>⟨λw=>f (by
    rcases w with w|⟨z,C,ks,vs,w⟩
    ·by_cases n1:b=d
     ·show .inl (by exists n1;simp)
     ·show .inl (by exists aj.eQ _ _ n1;show w)
    ·have n1:z≠d:=λn1=>Ro (.inl (by exists n1.symm;exists w;simp));show .inr (mK z C ks vs (by exists aj.eQ _ _ n1;show w))),BA b o (λw=>by rw [w,N_] at e;injection e with jC;subst jC;injection q2) (λw=>f (.inl (by exists w;simp))) e⟩) _ _ ya
  show (uK ea d _ m5 _ (#[]) rfl zw Og Ro GN (by simp) TJ (aP ⟨SJ,rfl⟩ ⟨tk5,rfl⟩ trivial) ?_ (s8 .none [] (by simp) rfl (by simp) (λT e=>by simp)) (.inr ⟨rfl,by simp⟩));show .cons yw5 (.cons Zd .nil)
 rcases ha with e|⟨e,e2⟩
 ·show enter [] [] (by exists e;rfl) (λJ J=> .nil) λfd iR s dO X l=>by rewrite [fW];show ok.5 fd iR s dO X (l.trans (by exists e;rfl))
 ·show enter [.int (-1)] [.int (-1) t] (by exists e;exists e2;rfl) (λJ J=> .cons ⟨t,rfl⟩ .nil) λfd iR s dO X l=>ok.4 fd iR s dO X (l.trans (by exists e;rfl))
end
end
section
section
variable {c:Cx} {n:ar} {sc:bA} {ρ aO:ah (ak×AV)} {H H':aj}
inductive xE (c:Cx) (s:aU) (ea C:aF):Prop
 |mk (at_:∃d vs sl,s.heap.get? ea=ae ⟨.ref C,d,.fields vs,sl⟩) (cls:∃od tD tv,s.heap.get? C=ae ⟨.type "type",od,tD,tv⟩) (base:mW c.M s.heap (K_ (.ref C) (.type "BaseException")) ai)
theorem xE.of (X:c.K.In s.heap) (hex:kg c.K C=ai) (g:s.heap.get? ea=ae ⟨.ref C,d,.fields vs,sl⟩):xE c s ea C:=by
 simp only [kg,d9,beq_iff_eq] at hex;show aM hex λt1 t2=>?_;cases hl:c.K.lookup C with
 |none=>rw [hl] at t1;show lU t1
 |some oC=>
  rw [hl] at t1;simp only [aik,d9,beq_iff_eq,lC] at t1;have gC:=X _ _ hl;rcases oC with ⟨oc,od,tD,tv⟩
  have t0:=t1.1;subst t0;show ⟨(wy d vs sl g),(wy od tD tv gC),Fw X t2⟩
theorem acR (x:xE c s ea C) (h:Q (.ref ea) s):a_ c.M A (excFromValue (.ref ea) m) Q E s:=by
 rcases x with ⟨⟨d,vs,sl,g⟩,⟨od,tD,tv,gC⟩,L⟩
 rcases s with ⟨hp,gg,dr,tk,os⟩
 repeat (first|with_reducible show m7 g ?_|with_reducible show m7 gC ?_|with_reducible show L.here ?_|wp_step)
 show h
theorem afa (x:xE c s ea C) (h:Q au s):a_ c.M A (isType (.ref ea)) Q E s:=by
 rcases x with ⟨⟨d,vs,sl,g⟩,⟨od,tD,tv,gC⟩,L⟩
 rcases s with ⟨hp,gg,dr,tk,os⟩
 repeat (first|with_reducible show m7 g ?_|wp_step)
 show h
theorem agT (x:xE c s ea C) (h:Q (.ref ea) s):a_ c.M A (raisedInstance (.ref ea)) Q E s:=by
 rcases x with ⟨⟨d,vs,sl,g⟩,⟨od,tD,tv,gC⟩,L⟩
 rcases s with ⟨hp,gg,dr,tk,os⟩
 repeat (first|with_reducible show m7 g ?_|with_reducible show m7 gC ?_|wp_step)
 show h
theorem PG (C:CE c n sc A env ρ H s.heap)
  (h:aE c.M A x (λv aC=>∃ea aw ax,v= .ref ea/\SR c bL H s aw aC/\XR s.heap aw aC.heap ax (.ref ea)/\kg c.K ax.C=ai/\X ax ρ aw) (ES c env H s X) s):aE c.M A (raiseStmt env (ae x) none) Q (ES c env H s X) s:=by
 show aS (cq h (λv aC bf=>?_) λJ J z=>z);show j3 bf ?_;clear bf;show λea aw ax bC aX xr hex z=>aa bC ?_;show X_ (id xr) λgj d es m vs sl e1 x0 x1 x2 x3 x4 x5=>?_;injection e1 with ct;subst ct
 have EA:=xE.of aX.4.1 hex x3;show aS (bw ?_);show aS (cE (up<|acR EA ?_));show aS (up<|afa EA ?_);show aS (up<|agT EA ?_);have jG:=(CL.start C).step aX.lift (C.2.keep aX.5);show aS (up<|CW C.1.1.1 jG.ce xr (λs' S=>jG.hk S.toN) λaL bh kQ CR=>?_);have eG:=jG.step bh.toN kQ.2;show cB.el (id CR) λgj d es m vs sl e1 x0 x1 x2 x3 x4 x5 x6 x7 x8 x9=>?_;injection e1 with et;subst et
 have hn:∀l v,A.handled=ae v->dC aw aL.heap l v->ea∉l:=λl v e x hm=>by
  show dP (C.1.4 v e) λa' l' y=>?_;have y2:=y.mono λb o J fz g q x'=>bj x' λvs fl=>eG.2.5.get g fz (λw=>w.elim (C.2.Am g ⟨vs,fl⟩) λz=>by rw [z] at g;injection g) q;have e2:=w_ x y2;rw [e2] at hm;show bj (y.ex _ hm) λo g=>?_;rw [x0] at g;injection g
 show up<|QV (eG.hk (.refl eG.2.4)) x3 rfl (by exists x4;lia) hn (λJ=>?_) λl v e y=>?_
 ·show (ES.mk aw ax ρ eG.2.nA CR eG.3 z)
 ·have Sf:cG (iQ aL.heap ea) aL.heap (aL.heap.update ea (mh (λx=>x.setIfInBounds 2 v))):= .field _ x3 rfl (.inl rfl);show aA CR.IH λJ e3 hF=>?_;injection e3 with eR;subst eR
  show aA CR.Ca λJ e3 hP=>?_;injection e3 with fD;subst fD
  have T:=Sf.sr eG.2.4 C.1.1.1 hP;have f7:=eG.step T.toN (eG.3.nO Sf.kp hF);have ge:=jK (mh (λx=>x.setIfInBounds 2 v)) x3 (A3 (tT rfl _));have ne:=hn l v e y;show (ES.mk aw ax ρ f7.2.nA ?_ f7.3 z);have mV:∀b,b≠ea->(aL.heap.update ea (mh (λx=>x.setIfInBounds 2 v))).get? b=aL.heap.get? b:=λb w=>gP _ _ (bI w);have nd:d≠ea:=λw=>by rw [w,x3] at x5;show nomatch x5
  show (uK ea d es m (vs.setIfInBounds 2 v) sl rfl x0 x1 x2 ge (aa UR x4) ((mV d nd).trans x5) x6 (Sf.vs (λb o p g=>(hP b o p g).1) x7) (s8 v l ?_ (y.mono λb o hb f g J J=>⟨f,(mV b λw=>ne (w▸hb)).trans g⟩) ne (λT' hT hm=>?_)) ?_)
  ·rw [Fj (by exists x4;lia)]
  ·rw [Kz ⋯] at hT;show x9.elim (λyy=>AB yy λT oT ts f b1 b0 b2 b3 b4 b5=>?_) λyy=>aM yy λJ b1=>?_
   ·rw [b1] at hT;injection hT with jb;injection jb with j9;subst j9
    show dP (C.1.4 v e) λa' l' y0=>?_;have y2:=y0.mono λb o J fz g q x'=>bj x' λvs fl=>eG.2.5.get g fz (λw=>w.elim (C.2.Am g ⟨vs,fl⟩) λz=>by rw [z] at g;injection g) q;have e2:=w_ y y2;rw [e2] at hm;show bj (y0.ex _ hm) λo g=>?_;rw [b0] at g;injection g
   ·rw [b1] at hT;injection hT with jC;injection jC
  ·show x9.elim (λyy=>AB yy λT oT ts f b1 b0 b2 b3 b4 b5=>?_) λyy=>aM yy λJ b1=>?_
   ·show .inl (TZ T oT ts f (by exists Kz ⋯;show b1) b0 b2 b3 ((mV T b2).trans b4) b5)
   ·show .inr ⟨rfl,by exists Kz ⋯;show b1⟩
theorem Wm {sI:bA} (hk:jc sc cls=ai) (hg:hV c.K cls (.ref D)=ai) (hD:kg c.K D=ai) (yJ:jW c.K (.ref D)=ai) (ok:wg c D fI sI t) (hs:gy es=ai) (hn:2<=n)
  (h:lT c n sc es xO ρ H (λl aw=>(∃w a,(l=[w,a]\/l=[w]/\a= .int (-1))/\X ⟨D,w,a⟩ ρ aw)) (λx H'=>X x ρ H')):cP c n sc (.Raise (ae (.Call (.Name cls p) es [] xO)) none pos) ρ H Q X:=λA env s C=>by
 show bj (aix hn) λn bW=>?_;subst bW
 rewrite [arm_exec_Raise]
 show aS (up<|wpAny_standAt (PG C ?_));show aS (cq (zB ?_) (λv aC z=>aS (up<|wpAny_standAt (bw z))) λJ J z=>z);show wd C hk hg (λJ y=>y)<|zZ hs yJ (XW.oJ C.2 (.refl C.1.1) (h A env s C) λvs aG aL bh da x'=>aA x' λl yl y'=>d8 y' λw a hl q=>⟨bh.4.1,?_⟩)
 have kQ:=C.keep bh;show up<|OV kQ.1 ok hl yl λbz ea cJ xr=>(Cv ea aG ⟨D,w,a⟩ rfl (bh.trans cJ) (xr.lo bh.6) hD q)
end
end
section
section
variable {c:Cx} {n:ar} {sc:bA} {ρ aO:ah (ak×AV)} {H H':aj} {X:AX->aj->Prop}
noncomputable def OZ (K:iI) (C fI:aF):aN:=makesIn K C && kB K (.ref C) "__init__"==ae (ae (.ref fI)) && Fi K (.ref fI)==ae (.type "function")
theorem BO (ok:OZ c.K C fI=ai)
  (h:∀x dx,H x=none->x≠dx->rH c n (.ref fI) (.ref x::args) (H.set x (.inst C dx [] [])) (λr aw=>r= .none/\Q (.ref x) aw) X):bq c (n+1) (.ref C) args H Q X:=λA s vs C0 y=>by
 simp only [OZ,d9,beq_iff_eq] at ok;show aM ok λbC hf=>aM bC λhm hi=>?_;rcases s with ⟨hh,g,dr,tk,os⟩
 have X0:=C0.1.1;show wM (agC (makes_of X0 hm) (Ba X0 hi) (λself=>bind_fn X0 self hf) ?_);have kk:∀b o,hh.get? b=ae o->((hh.push pH).push (oj C hh.objs.size)).get? b=ae o:=λb o e=>fV _ (fV _ e)
 have gx:((hh.push pH).push (oj C hh.objs.size)).get? (hh.objs.size+1)=ae (oj C hh.objs.size):=by
  have:=fG (hh.push pH) (o:=oj C hh.objs.size) rfl
  rwa [vK] at this
 have gd:((hh.push pH).push (oj C hh.objs.size)).get? hh.objs.size=ae pH:=fV _ (fG _ rfl);have nx:hh.get? (hh.objs.size+1)=none:=yh (kX _);have nd:hh.get? hh.objs.size=none:=fv _;generalize (hh.push pH).push (oj C hh.objs.size)=h1 at kk gx gd ⊢;have pq:hh.objs.size+1≠hh.objs.size:=by lia
 generalize hh.objs.size+1=x at gx nx pq ⊢;have S:SR c bL H ⟨hh,g,dr,tk,os⟩ (H.set x (.inst C hh.objs.size [] [])) ⟨h1,g,dr,tk,os⟩:= .aeO C0.1 nx nd pq kk λJ=>(Jh _ (#[]) 0 gx rfl rfl rfl rfl gd trivial .nil);have C1:CT c n (A.under (.builtin "type.__call__" ⟨.ref C::vs,[]⟩)) (H.set x (.inst C hh.objs.size [] [])) h1:=⟨S.4,⟨C0.2.keep S.5|>.1⟩,Sq C0.3,C0.4.keep S.5,C0.5⟩;show zG (h x hh.objs.size (C0.1.nq nx) pq _ ⟨h1,g,dr,tk,os⟩ (.ref x::vs) C1 (.cons rfl (Vs.keep y S.5))) λr s' z=>?_;cases r with
 |error e=>
  show cQ z<|λH2 ax S2 xr z=>(EP.mk H2 ax (S.trans S2) (xr.lo S.6) z)
 |ok f=>
  induction f using vy with
  |ret v=>
   show aA z λH2 S2 u_=>cR u_ λav yv e q=>?_;subst e;have yv:=yv;show ⟨yv,H2,S.trans S2,.ref x,rfl,q⟩
  |_=>show z.elim
end
end
section
section
variable {c:Cx} {n:ar} {H:aj} {X:AX->aj->Prop}
theorem agz (h:Q (.int (a+b)) H):iP c n (iY .Add) (.int a) (.int b) H Q X:=λA s v u C x' cX=>V.dW x' λJ=>V.dW cX λJ=>up<|aky (ao H (.tok C.1 _) (ao (.int _) ⟨_,rfl⟩ h))
theorem aeF (h:Q (.int (a - b)) H):iP c n (iY .Sub) (.int a) (.int b) H Q X:=λA s v u C x' cX=>V.dW x' λJ=>V.dW cX λJ=>up<|akz (ao H (.tok C.1 _) (ao (.int _) ⟨_,rfl⟩ h))
theorem oZ (hm:IntMulOk a b) (h:Q (.int (a*b)) H):iP c n (iY .Mult) (.int a) (.int b) H Q X:=λA s v u C x' cX=>V.dW x' λJ=>V.dW cX λJ=>up<|akA (ao H (.tok C.1 _) (ao (.int _) ⟨_,rfl⟩ h)) hm
theorem mR (hb:b≠0) (h:Q (.int (a.fmod b)) H):iP c n (iY .Mod) (.int a) (.int b) H Q X:=λA s v u C x' cX=>V.dW x' λJ=>V.dW cX λJ=>up<|mod_int' hb (ao H (.tok C.1 _) (ao (.int _) ⟨_,rfl⟩ h))
theorem uY (hb:b≠0) (hp:La a b=au) (h:Q (.int (a.fdiv b)) H):iP c n (iY .FloorDiv) (.int a) (.int b) H Q X:=λA s v u C x' cX=>V.dW x' λJ=>V.dW cX λJ=>up<|akB hb (ao H (.tok C.1 _) (ao (.int _) ⟨_,rfl⟩ h)) (.inl hp)
theorem wb (h:Q (.int (vR a b)) H):iP c n (iY .BitAnd) (.int a) (.int b) H Q X:=λA s v u C x' cX=>V.dW x' λJ=>V.dW cX λJ=>up<|and_int (ao H (.tok C.1 _) (ao (.int _) ⟨_,rfl⟩ h))
theorem zM (hb:0<=b) (h:Q (.int (a.fdiv (2 ^ b.toNat))) H):iP c n (iY .RShift) (.int a) (.int b) H Q X:=λA s v u C x' cX=>V.dW x' λJ=>V.dW cX λJ=>up<|rshift_int hb (ao H (.tok C.1 _) (ao (.int _) ⟨_,rfl⟩ h))
theorem Jm (hb:0<=b) (hz:(Be a:aq)*b<=2 ^ 27) (h:Q (.int (a ^ b.toNat)) H):iP c n (iY .Pow) (.int a) (.int b) H Q X:=λA s v u C x' cX=>V.dW x' λJ=>V.dW cX λJ=>up<|pow_int hb hz (ao H (.tok C.1 _) (ao (.int _) ⟨_,rfl⟩ h))
theorem YQ (h:Q (decide (a < b)) H):dG c n .Lt (.int a) (.int b) H Q X:=λA s v u C x' cX=>V.dW x' λJ=>V.dW cX λJ=>up<|lt_int (ao H (.refl C.1) (ao _ rfl h))
theorem afS (h:Q (decide (a<=b)) H):dG c n .LtE (.int a) (.int b) H Q X:=λA s v u C x' cX=>V.dW x' λJ=>V.dW cX λJ=>up<|le_int (ao H (.refl C.1) (ao _ rfl h))
theorem aam (h:Q (decide (b < a)) H):dG c n .Gt (.int a) (.int b) H Q X:=λA s v u C x' cX=>V.dW x' λJ=>V.dW cX λJ=>up<|gt_int (ao H (.refl C.1) (ao _ rfl h))
theorem è (h:Q (decide (b<=a)) H):dG c n .GtE (.int a) (.int b) H Q X:=λA s v u C x' cX=>V.dW x' λJ=>V.dW cX λJ=>up<|ge_int (ao H (.refl C.1) (ao _ rfl h))
theorem ó (h:Q (a==b) H):dG c n .Eq (.int a) (.int b) H Q X:=λA s v u C x' cX=>V.dW x' λJ=>V.dW cX λJ=>up<|eq_int (ao H (.refl C.1) (ao _ rfl h))
theorem abS (h:Q (a !=b) H):dG c n .NotEq (.int a) (.int b) H Q X:=λA s v u C x' cX=>V.dW x' λJ=>V.dW cX λJ=>up<|ne_int (ao H (.refl C.1) (ao _ rfl h))
theorem PK (y:V H h a v):(v== .none)=isNone a:=
 V.cs y rfl (λJ=>rfl) (λJ J=>rfl) (λJ J=>rfl) (λJ J=>rfl) (λa J k=>k.symm) (λJ=>rfl) λJ=>rfl
theorem ad2 (h:Q (isNone a) H):dG c n .Is a .none H Q X:=λA s v u C y e=>by
 have e:=e;show aa e<|up<|is_none_gen (ao H (.refl C.1) (ao _ rfl (aa (PK y) h)))
theorem Zg (h:Q (!isNone a) H):dG c n .IsNot a .none H Q X:=λA s v u C y e=>by
 have e:=e;show aa e<|up<|isnot_none_gen (ao H (.refl C.1) (ao _ rfl (aa (PK y) h)))
theorem ab4 (h:Q b H):qz c n (.bool b) H Q X:=λA s v C e=>by
 have e:=e;show aa e<|up<|wpAny_truthy_bool (ao H (.refl C.1) h)
theorem Ļ (h:Q (.int (-a)) H):I4 c n (EX .USub) (.int a) H Q X:=λA s v C x'=>V.dW x' λJ=>up<|neg_int (ao H (.tok C.1 _) (ao (.int _) ⟨_,rfl⟩ h))
end
end
section
section
variable {c:Cx} {n:ar} {H:aj} {X:AX->aj->Prop}
theorem Str.ad4 {x y:ak} (h:(x.length==0)=ai):x++y=y:=by
 have:x.cps=#[]:=by
  have h:x.cps.size=0:=by simpa [aiy] using h
  show Vi h
 cases x;simp only at this;exists this;show (?_:Str.mk (_++_)=_);simp
theorem Str.ò {x y:ak} (h:(y.length==0)=ai):x++y=x:=by
 have:y.cps=#[]:=by
  have h:y.cps.size=0:=by simpa [aiy] using h
  show Vi h
 cases y;simp only at this;exists this;rfl
theorem Zv (hz:(x++y).length<=bY) (h:Q (.str (x++y)) H):iP c n (iY .Add) (.str x) (.str y) H Q X:=λA s v u C x' cX=>V.gq x' λt1=>V.gq cX λt2=>by
 show up<|PySem.P.add_str ?_
 split
 ·rename_i q;show (ao H (.refl C.1) (ao (.str _) ⟨_,rfl⟩ (by rw [Str.ad4 q] at h;show h)))
 ·split
  ·rename_i q;show (ao H (.refl C.1) (ao (.str _) ⟨_,rfl⟩ (by rw [Str.ò q] at h;show h)))
  ·show ⟨hz,H,.tok C.1 _,.str _,⟨_,rfl⟩,h⟩
theorem abC (hz:x.length+y.length<=bY) (h:Q (.bytes (x++y)) H):iP c n (iY .Add) (.bytes x) (.bytes y) H Q X:=λA s v u C x' cX=>V.oW x' λt1=>V.oW cX λt2=>up<|akC hz λt' k=>(ao H (.tok C.1 _) (ao (.bytes (x++y)) ⟨t',by rewrite [List.append_toArray];rfl⟩ h))
theorem R2 {xs ys:dm α}:(xs.toList++ys.toList).toArray=xs++ys:=by exists Array.toList_append.symm;rfl
theorem Po {xs:dm aI} (r:aZ P h l xs.toList) (e:xs.isEmpty=ai):l=[]:=by
 have:=r.length;have e':=Array.isEmpty_iff.1 e;subst e';simpa using this.symm
theorem Ŧ {l m:ah AV} {Q:AV->aj->Prop} (hz:l.length+m.length<=bY) (h:Q (.tup (l++m)) H):iP c n (iY .Add) (.tup l) (.tup m) H Q X:=λA s v u C y1 y2=>by
 have Y1:=y1;have Y2:=y2;show gU y1 ?_;clear y1;intro a na xs bC fa ga ra;rcases bC with rfl
 show gU y2 ?_;clear y2;intro b nb zs bW fb gb rb;rcases bW with rfl
 by_cases q1:xs.isEmpty=ai
 ·have:=Po ra q1;subst this
  show up<|concat_meets (ao _ ga rfl) (ao _ gb rfl) aiz aiA aiB aiC (aiD _ _) (AutoSeq1.tuple___add___tuple_tuple_0 a xs na b zs nb q1)
   (aP ga gb (ao H (.refl C.1) (ao (.tup m) Y2 h)))
 ·by_cases q2:zs.isEmpty=ai
  ·have:=Po rb q2;subst this;rw [fW] at h
   show up<|concat_meets (ao _ ga rfl) (ao _ gb rfl) aiz aiA aiB aiC (aiD _ _) (AutoSeq1.tuple___add___tuple_tuple_1 a xs na b zs nb q1 q2)
    (aP ga gb (ao H (.refl C.1) (ao (.tup l) Y1 h)))
  ·show up<|PySem.P.add_tuple ga gb q1 q2 (ao H (.grow C.1 eE) (ao (.tup (l++m)) ?_ h)) (by
    have e1:=ra.length;have e2:=rb.length;rw [jx] at e1 e2;exists e1;exists e2;show hz)
   have:=DZ C.1 (aZ.append ra rb)
   rwa [R2] at this
def gm (H:aj) (a:AV) (l:ah AV):Prop:=a= .lst l\/∃x,a= .ref x/\H x=ae (.list l)
theorem gm.at (R:cN c H h) (i:gm H a l) (y:V H h a v):∃x xs m,v= .ref x/\h.get? x=ae ⟨.type "list",none,.seq xs m,#[]⟩/\Vs H h l xs.toList:=by
 rcases i with rfl|⟨x,rfl,e⟩
 ·show gU y λa m xs e f g r=>yT a xs m e g r
 ·have y:=y;show aa y<|d8 (R.6 x _ e) λxs m g r=>(yT x xs m rfl g r)
theorem O2 (ha:gm H a l) (hb:gm H b m) (hz:l.length+m.length<=bY) (h:Q (.lst (l++m)) H):iP c n (iY .Add) a b H Q X:=λA s v u C y1 y2=>by
 show fM (ha.at C.1 y1) λx xs k d7 ga ra=>aa d7<|fM (hb.at C.1 y2) λz zs k2 eM gb rb=>aa eM ?_
 have e1:=ra.length;have e2:=rb.length;rw [jx] at e1 e2;have:=Eh C.1 (aZ.append ra rb);rw [R2] at this;show up<|PySem.P.add_list ga gb (ao _ (.grow C.1 eE) (ao (.lst (l++m)) this h)) (aa e1<|aa e2<|hz)
theorem L9 {x y:ak}:(x.cps.toList==y.cps.toList)=(x==y):=akD x y
theorem agb (h:Q (x==y) H):dG c n .Eq (.str x) (.str y) H Q X:=λA s v u C x' cX=>V.gq x' λJ=>V.gq cX λJ=>up<|PySem.P.eq_str (ao H (.refl C.1) (ao _ rfl (aa L9<|h)))
theorem acz (h:Q (x !=y) H):dG c n .NotEq (.str x) (.str y) H Q X:=λA s v u C x' cX=>V.gq x' λJ=>V.gq cX λJ=>up<|PySem.P.ne_str (ao H (.refl C.1) (ao _ rfl (by rewrite [bne];show aa L9<|h)))
theorem IY (h:Q (x !=y) H):dG c n .NotEq (.bytes x) (.bytes y) H Q X:=λA s v u C x' cX=>V.oW x' λJ=>V.oW cX λJ=>up<|ne_bytes (ao H (.refl C.1) (ao _ rfl h))
theorem O0 (h:Q (!(tX x y 0 x.length 1).isEmpty) H):dG c n .In (.str y) (.str x) H Q X:=λA s v u C x' cX=>V.gq x' λJ=>V.gq cX λJ=>up<|PySem.P.in_str (ao H (.refl C.1) (ao _ rfl h))
end
end
section
open PySem PySem.W PyProof.Rows PySem.Calls PySem.SeqAt
inductive cK:ar->AV->AV->aN->Prop
 |none (d:ar):cK d .none .none ai
 |bool (d:ar) (a b:aN):cK d (.bool a) (.bool b) (a==b)
 |int (d:ar) (a b:aq):cK d (.int a) (.int b) (a==b)
 |str (d:ar) (a b:ak):cK d (.str a) (.str b) (a==b)
 |bytes (d:ar) (a b:ah b_):cK d (.bytes a) (.bytes b) (a==b)
 |tup (d:ar) (l m:ah AV) (e:ar->aN) (h:∀i a b,l[i]?=ae a->m[i]?=ae b->cK d a b (e i)):cK (d+1) (.tup l) (.tup m) ((jj (min l.length m.length)).all e && l.length==m.length)
 |lst (d:ar) (l m:ah AV) (e:ar->aN) (h:∀i a b,l[i]?=ae a->m[i]?=ae b->cK d a b (e i)):cK (d+1) (.lst l) (.lst m) ((jj (min l.length m.length)).all e && l.length==m.length)
theorem cK.same (x:cK d a b k):∀v,VR P h a v->VR P h b v->k=ai:=by
 induction x with
 |none d=>intro v J J;rfl
 |bool d a b=>intro v e1 e2;have e2:=e1.symm.trans e2;injection e2 with ct;subst ct;show kZ a
 |int d a b=>intro v e1 e2;show bj e1 ?_;clear e1;intro J bC;subst bC;show bj e2 ?_;clear e2;intro J e2;injection e2 with et sj;subst et;simp
 |str d a b=>intro v e1 e2;show bj e1 ?_;clear e1;intro J bW;subst bW;show bj e2 ?_;clear e2;intro J e2;injection e2 with eR GG;subst eR;simp
 |bytes d a b=>intro v e1 e2;show bj e1 ?_;clear e1;intro J dD;subst dD;show bj e2<|λJ e2=>?_;injection e2 with e2 _;have:=bD Array.toList e2;simpa using this
 |tup d l m e h ih=>
  show λv y1 y2=>gU y1 ?_;clear y1;intro a n xs d7 J g r;subst d7;show gU y2 λa' n' Gx e1 J g' r'=>?_;injection e1 with fD;subst fD
  rw [g] at g';injection g' with jb;injection jb with j9 Hj ž i6d;injection j9 with jC;cases jC;cases Hj;injection ž with mH Ts;subst mH;injection i6d with qV;cases qV
  have q1:=r.length;have q2:=r'.length
  rewrite [d9]
  show ⟨?_,by show aa q1.symm<|aa q2.symm ?_;simp⟩
  rewrite [oq]
  intro i hi;rw [aiE] at hi;show bj ((⟨_,qH (r5 hi (Vj ..))⟩:∃a,l[i]?=ae a)) λa1 h1=>?_;show bj ((⟨_,qH (r5 hi (Lb ..))⟩:∃a,m[i]?=ae a)) λb1 h2=>?_;show aA (r.get h1) λv1 k1 z1=>aA (r'.get h2) λv2 k2 z2=>?_;rw [k1] at k2;injection k2 with mU;subst mU
  show ih i a1 b1 h1 h2 v1 z1 z2
 |lst d l m e h ih=>
  show λv y1 y2=>gU y1 ?_;clear y1;intro a n xs eM J g r;subst eM;show gU y2 λa' n' Gx e1 J g' r'=>?_;injection e1 with rj;subst rj
  rw [g] at g';injection g' with qZ;injection qZ with uS Ο abL ů;injection uS with uH;cases uH;cases Ο;injection abL with u4 ake;subst u4;injection ů with Ke;cases Ke
  have q1:=r.length;have q2:=r'.length
  rewrite [d9]
  show ⟨?_,by show aa q1.symm<|aa q2.symm ?_;simp⟩
  rewrite [oq]
  intro i hi;rw [aiE] at hi;show bj ((⟨_,qH (r5 hi (Vj ..))⟩:∃a,l[i]?=ae a)) λa1 h1=>?_;show bj ((⟨_,qH (r5 hi (Lb ..))⟩:∃a,m[i]?=ae a)) λb1 h2=>?_;show aA (r.get h1) λv1 k1 z1=>aA (r'.get h2) λv2 k2 z2=>?_;rw [k1] at k2;injection k2 with Gp;subst Gp
  show ih i a1 b1 h1 h2 v1 z1 z2
theorem EqAt.acV (a:dm b_) (t:tW) (b:dm b_) (u:tW):EqAt A s (.bytes a t) (.bytes b u) (a.toList==b.toList):=λprog w E Q hq=>by
 show mY<|wpAny_ite_split (λhab=>?_) (λJ=>?_)
 ·have e:a=b:=by have:=eq_of_beq hab;injection this
  subst e;show aJ (mf (bg (by simpa using hq)))
 ·show aJ (eq_bytes (aiF hq))
theorem xe {xs ys:dm aI} {e:ar->aN} (r:aZ P s.heap l xs.toList) (r':aZ P s.heap m ys.toList)
  (h:∀i a b v u,l[i]?=ae a->m[i]?=ae b->VR P s.heap a v->VR P s.heap b u->EqAt A s v u (e i)):∀j (h1:j < xs.size) (h2:j < ys.size),EqAt A s xs[j] ys[j] (e j):=by
 intro j h1 h2;have q1:=r.length;have q2:=r'.length;show bj ((⟨_,qH (q1▸h1)⟩:∃a,l[j]?=ae a)) λa1 k1=>?_;show bj ((⟨_,qH (q2▸h2)⟩:∃a,m[j]?=ae a)) λb1 k2=>?_;show aA (r.get k1) λv1 w1 z1=>aA (r'.get k2) λv2 w2 z2=>?_;rw [yo,Lc h1] at w1;rw [yo,Lc h2] at w2;injection w1 with IU;exists IU;injection w2 with Ip;exists Ip
 show h j a1 b1 _ _ k1 k2 z1 z2
theorem He (g:s.heap.get? x=ae ⟨.type "list",none,.seq xs n,#[]⟩) (g':s.heap.get? y=ae ⟨.type "list",none,.seq ys k,#[]⟩)
  (r:aZ P s.heap l xs.toList) (r':aZ P s.heap m ys.toList) (hu:A.units < E_)
  (h:∀j (h1:j < xs.size) (h2:j < ys.size),EqAt A.in1 s xs[j] ys[j] (e j)):RcAt A s (.ref x) (.ref y) ((jj (min l.length m.length)).all e && l.length==m.length)/\RcNeAt A s (.ref x) (.ref y) (!((jj (min l.length m.length)).all e && l.length==m.length)):=by
 have q1:=r.length;have q2:=r'.length;rw [jx] at q1 q2;by_cases q:xs.size=ys.size
 ·have e1:((jj (min l.length m.length)).all e && l.length==m.length)=(jj xs.size).all e:=by
   show aa q1.symm<|aa q2.symm<|aa q.symm ?_;simp
  show aa e1<|⟨RcAt.lists (bV _ g rfl (dM n rfl)) (bV _ g' rfl (dM k rfl)) q hu h,RcNeAt.lists (bV _ g rfl (dM n rfl)) (bV _ g' rfl (dM k rfl)) q hu h⟩
 ·have e1:((jj (min l.length m.length)).all e && l.length==m.length)=au:=by
   show aa q1.symm<|aa q2.symm ?_;simp [q]
  show aa e1<|⟨RcAt.lists_lengths (bV _ g rfl (dM n rfl)) (bV _ g' rfl (dM k rfl)) (by simpa using q) hu,RcNeAt.lists_lengths (bV _ g rfl (dM n rfl)) (bV _ g' rfl (dM k rfl)) (by simpa using q) hu⟩
theorem HC (g:s.heap.get? x=ae ⟨.type "tuple",none,.seq xs n,#[]⟩) (g':s.heap.get? y=ae ⟨.type "tuple",none,.seq ys k,#[]⟩)
  (r:aZ P s.heap l xs.toList) (r':aZ P s.heap m ys.toList) (hu:A.units < E_)
  (h:∀j (h1:j < xs.size) (h2:j < ys.size),EqAt A.in1 s xs[j] ys[j] (e j)):RcAt A s (.ref x) (.ref y) ((jj (min l.length m.length)).all e && l.length==m.length)/\RcNeAt A s (.ref x) (.ref y) (!((jj (min l.length m.length)).all e && l.length==m.length)):=by
 have q1:=r.length;have q2:=r'.length;show aa q1.symm<|aa q2.symm<|⟨RcAt.tuples (bV _ g rfl (dM n rfl)) (bV _ g' rfl (dM k rfl)) hu h,RcNeAt.tuples (bV _ g rfl (dM n rfl)) (bV _ g' rfl (dM k rfl)) hu h⟩
theorem cK.D5 (x:cK d a b k):∀(A:eX) (s:aU) (v u:aI),A.units+d < E_->VR P s.heap a v->VR P s.heap b u->EqAt A s v u k:=by
 induction x with
 |none d=>intro A s v u J e1 e2;obtain rfl:v= .none:=e1;obtain rfl:u= .none:=e2;show EqAt.same _
 |bool d a b=>intro A s v u J e1 e2;obtain rfl:v= .bool a:=e1;obtain rfl:u= .bool b:=e2;show EqAt.bool_bool a b
 |int d a b=>intro A s v u J e1 e2;show V.dW e1 λJ=>V.dW e2 λJ=>EqAt.int_int _ _ _ _
 |str d a b=>intro A s v u J e1 e2;show V.gq e1 λJ=>V.gq e2 λJ=>EqAt.str_str _ _ _ _
 |bytes d a b=>intro A s v u J e1 e2;show V.oW e1 λJ=>V.oW e2 λJ=>EqAt.acV _ _ _ _
 |tup d l m e h ih=>
  intro A s v u hu y1 y2;have K:=cK.same (.tup d l m e h) (P:=P) (h:=s.heap);have Y1:=y1;have Y2:=y2;show gU y1 ?_;clear y1;intro x n xs JG f g r;subst JG;show gU y2 ?_;clear y2;intro y k ys XU f' g' r';subst XU;by_cases q:x=y
  ·subst q;show aa (K _ Y1 Y2)<|EqAt.same _
  ·show .of_refs q (HC g g' r r' (iw (eC ..) hu) (xe r r' λi a b v u h1 h2 z1 z2=>ih i a b h1 h2 A.in1 s v u (by rewrite [ix,lB 1];show hu) z1 z2)).1
 |lst d l m e h ih=>
  intro A s v u hu y1 y2;have K:=cK.same (.lst d l m e h) (P:=P) (h:=s.heap);have Y1:=y1;have Y2:=y2;show gU y1 ?_;clear y1;intro x n xs Ĩ f g r;subst Ĩ;show gU y2 ?_;clear y2;intro y k ys XD f' g' r';subst XD;by_cases q:x=y
  ·subst q;show aa (K _ Y1 Y2)<|EqAt.same _
  ·show .of_refs q (He g g' r r' (iw (eC ..) hu) (xe r r' λi a b v u h1 h2 z1 z2=>ih i a b h1 h2 A.in1 s v u (by rewrite [ix,lB 1];show hu) z1 z2)).1
section
variable {c:Cx} {n:ar} {H:aj} {X:AX->aj->Prop}
theorem Mz (e:cK d (.tup l) (.tup m) k) (hd:d<=8) (h:Q k H):dG c n .Eq (.tup l) (.tup m) H Q X:=λA s v u C y1 y2=>by
 cases e with
 |tup d l m e he=>
  show V.lX y1 λx n xs f g r=>V.lX y2 λy k ys f' g' r'=>up<|(HC g g' r r' (C.3.u (i0 _)) (xe r r' λi a b v u h1 h2 z1 z2=>(he i a b h1 h2).D5 A.in1 s v u (by rewrite [ix,lB 1];show C.3.u hd) z1 z2)).1 _ _ _ _ (ao H (.refl C.1) (ao _ rfl h))
theorem wq (e:cK d (.tup l) (.tup m) k) (hd:d<=8) (h:Q (!k) H):dG c n .NotEq (.tup l) (.tup m) H Q X:=λA s v u C y1 y2=>by
 cases e with
 |tup d l m e he=>
  show V.lX y1 λx n xs f g r=>V.lX y2 λy k ys f' g' r'=>up<|(HC g g' r r' (C.3.u (i0 _)) (xe r r' λi a b v u h1 h2 z1 z2=>(he i a b h1 h2).D5 A.in1 s v u (by rewrite [ix,lB 1];show C.3.u hd) z1 z2)).2 _ _ _ _ (ao H (.refl C.1) (ao _ rfl h))
theorem ķ (ha:gm H a l) (hb:gm H b m) (e:cK d (.lst l) (.lst m) k) (hd:d<=8) (h:Q k H):dG c n .Eq a b H Q X:=λA s v u C y1 y2=>by
 cases e with
 |lst d l m e he=>
  show fM (ha.at C.1 y1) λx xs n GI g r=>aa GI<|fM (hb.at C.1 y2) λy ys k Hf g' r'=>aa Hf<|up<|(He g g' r r' (C.3.u (i0 _)) (xe r r' λi a b v u h1 h2 z1 z2=>(he i a b h1 h2).D5 A.in1 s v u (by rewrite [ix,lB 1];show C.3.u hd) z1 z2)).1 _ _ _ _ (ao H (.refl C.1) (ao _ rfl h))
theorem CS (ha:gm H a l) (hb:gm H b m) (e:cK d (.lst l) (.lst m) k) (hd:d<=8) (h:Q (!k) H):dG c n .NotEq a b H Q X:=λA s v u C y1 y2=>by
 cases e with
 |lst d l m e he=>
  show fM (ha.at C.1 y1) λx xs n aea g r=>aa aea<|fM (hb.at C.1 y2) λy ys k ab0 g' r'=>aa ab0<|up<|(He g g' r r' (C.3.u (i0 _)) (xe r r' λi a b v u h1 h2 z1 z2=>(he i a b h1 h2).D5 A.in1 s v u (by rewrite [ix,lB 1];show C.3.u hd) z1 z2)).2 _ _ _ _ (ao H (.refl C.1) (ao _ rfl h))
end
theorem NZ (h:∀i,i < n->e i=ai):(jj n).all e=ai:=by
 rewrite [oq];show λi hi=>h i (List.mem_range.mp hi)
theorem cK.NO {xs ys:ah ak} (i:ar) (a b:AV) (h1:(xs.map AV.str)[i]?=ae a) (h2:(ys.map AV.str)[i]?=ae b):cK d a b (xs[i]?==ys[i]?):=by
 rw [mi,Fs] at h1 h2;show aA h1 ?_;clear h1;intro x hx W5;subst W5;show aA h2 ?_;clear h2;intro y hy aaG;subst aaG;show aa hx<|aa hy ?_
 have:(ae x==ae y)=(x==y):=rfl;show aa this<| .str ..
theorem cK.Zc {xs ys:ah aq} (i:ar) (a b:AV) (h1:(xs.map AV.int)[i]?=ae a) (h2:(ys.map AV.int)[i]?=ae b):cK d a b (xs[i]?==ys[i]?):=by
 rw [mi,Fs] at h1 h2;show aA h1 ?_;clear h1;intro x hx adx;subst adx;show aA h2 ?_;clear h2;intro y hy ahA;subst ahA;show aa hx<|aa hy ?_
 have:(ae x==ae y)=(x==y):=rfl;show aa this<| .int ..
theorem Gk [BEq α] [Ld α] {xs ys:ah α}:((jj (min xs.length ys.length)).all (λi=>xs[i]?==ys[i]?) && xs.length==ys.length)=(xs==ys):=by
 rewrite [pM,d9,oq,beq_iff_eq,beq_iff_eq]
 constructor
 ·rintro ⟨h,hl⟩;show List.ext_getElem? λi=>?_;by_cases q:i < xs.length
  ·have:=h i (List.mem_range.mpr (by lia));simpa using this
  ·exists U8 (by lia);exists U8 (by lia);rfl
 ·rintro rfl;show ⟨λi J=>by simp,rfl⟩
theorem cK.Ou {xs ys:ah ak}:cK (d+1) (.tup (xs.map .str)) (.tup (ys.map .str)) (xs==ys):=by
 have:=cK.tup d (xs.map .str) (ys.map .str) _ (cK.NO);rw [bp,bp,Gk] at this;show this
theorem cK.Ũ {xs ys:ah ak}:cK (d+1) (.lst (xs.map .str)) (.lst (ys.map .str)) (xs==ys):=by
 have:=cK.lst d (xs.map .str) (ys.map .str) _ (cK.NO);rw [bp,bp,Gk] at this;show this
theorem cK.adX {xs ys:ah aq}:cK (d+1) (.lst (xs.map .int)) (.lst (ys.map .int)) (xs==ys):=by
 have:=cK.lst d (xs.map .int) (ys.map .int) _ (cK.Zc);rw [bp,bp,Gk] at this;show this
theorem cK.G8:cK (d+1) (.lst l) (.lst []) l.isEmpty:=by
 have:=cK.lst d l [] (λJ=>ai) (λi a b J h=>by simp at h);have e:((jj (min l.length ([]:ah AV).length)).all (λJ=>ai) && l.length==([]:ah AV).length)=l.isEmpty:=by induction l using c6 <;> simp
 rw [e] at this;show this
inductive Dat:ar->AV->Prop
 |none (d:ar):Dat d .none
 |bool (d:ar) (a:aN):Dat d (.bool a)
 |int (d:ar) (a:aq):Dat d (.int a)
 |str (d:ar) (a:ak):Dat d (.str a)
 |bytes (d:ar) (a:ah b_):Dat d (.bytes a)
 |tup (d:ar) (l:ah AV) (h:∀a,a∈l->Dat d a):Dat (d+1) (.tup l)
 |lst (d:ar) (l:ah AV) (h:∀a,a∈l->Dat d a):Dat (d+1) (.lst l)
theorem cK.refl (x:Dat d a):cK d a a ai:=by
 induction x with
 |none d=>show .none _
 |bool d a=>simpa using cK.bool d a a
 |int d a=>simpa using cK.int d a a
 |str d a=>simpa using cK.str d a a
 |bytes d a=>simpa using cK.bytes d a a
 |tup d l h ih=>
  have:=cK.tup d l l (λJ=>ai) λi a b h1 h2=>by
   rw [h1] at h2;injection h2 with IT;subst IT;show ih a (Fx h1)
  rw [NZ λJ J=>rfl] at this;simpa using this
 |lst d l h ih=>
  have:=cK.lst d l l (λJ=>ai) λi a b h1 h2=>by
   rw [h1] at h2;injection h2 with Ji;subst Ji;show ih a (Fx h1)
  rw [NZ λJ J=>rfl] at this;simpa using this
end
section
section
variable {c:Cx} {n:ar} {sc:bA} {ρ:ah (ak×AV)} {H:aj} {X:AX->aj->Prop}
theorem Ţ
  (h:WE c n sc l ρ H (λa aw=>WE c n sc g9 ρ aw (λb aG=>dG c n gJ a b aG (λq aV=>if q=ai then WE c n sc hW ρ aV (λd fE=>dG c n gK b d fE Q X) X else Q au aV) X) X) X)
  (hm:AR [gJ,gK] [g9,hW]=au):WT c n sc (.Compare l [gJ,gK] [g9,hW] pos) ρ H Q X:=λA env s C=>
 YI (XW.step (.refl C.1.1) (h A env s C) λv aw aC aX cU x'=>aA x' λa y q=>aeu (XW.step cU (q A env aC (C.keep aX)) λu aG aL bh da x'=>aA x' λb y2 q2=>
  XW.step da (q2 A aL v u ((C.keep aX).keep bh).1 (y.keep bh.5) y2) λz aV bz cJ c9 x'=>aA x' λk e q3=>by
   show aa e<|up<|wpAny_truthy_bool ?_
   induction k using ez
   ·show (ao aV c9 q3)
   ·rw [bN rfl] at q3 ⊢
    show af3 (XW.step c9 (q3 A env bz (((C.keep aX).keep bh).keep cJ)) λw fE e_ il mT x'=>aA x' λd y4 q4=>
     XW.step mT (q4 A e_ u w ((((C.keep aX).keep bh).keep cJ).keep il).1 ((y2.keep cJ.5).keep il.5) y4) λz m8 kh jY iV x'=>aA x' λk e q5=>aa e<|up<|wpAny_truthy_bool (ao m8 iV q5)))) hm
theorem ņ
  (h:WE c n sc l ρ H (λa aw=>WE c n sc g9 ρ aw (λb aG=>dG c n gJ a b aG (λq aV=>if q=ai then WE c n sc hW ρ aV (λd fE=>dG c n gK b d fE (λq=>Q (.bool q)) X) X else Q (.bool au) aV) X) X) X)
  (hm:AR [gJ,gK] [g9,hW]=au):WE c n sc (.Compare l [gJ,gK] [g9,hW] pos) ρ H Q X:=λA env s C=>
 ĭ (XW.step (.refl C.1.1) (h A env s C) λv aw aC aX cU x'=>aA x' λa y q=>afE (XW.step cU (q A env aC (C.keep aX)) λu aG aL bh da x'=>aA x' λb y2 q2=>
  XW.step da (q2 A aL v u ((C.keep aX).keep bh).1 (y.keep bh.5) y2) λz aV bz cJ c9 x'=>aA x' λk e q3=>by
   show aa e<|up<|wpAny_truthy_bool ?_
   induction k using ez
   ·show (ao aV c9 (ao (.bool au) rfl q3))
   ·rw [bN rfl] at q3 ⊢
    show aeD (XW.step c9 (q3 A env bz (((C.keep aX).keep bh).keep cJ)) λw fE e_ il mT x'=>aA x' λd y4 q4=>
     XW.step mT (q4 A e_ u w ((((C.keep aX).keep bh).keep cJ).keep il).1 ((y2.keep cJ.5).keep il.5) y4) λz m8 kh jY iV x'=>aA x' λk e q5=>aa e<|(ao m8 iV (ao (.bool k) rfl q5))))) hm
theorem aZ.strs (x:aZ P h (xs.map .str) vs):Vk vs xs:=by
 induction xs generalizing vs with
 |nil=>show aZ.BI x .nil
 |cons a l ih=>show aZ.ui x λv r y z=>V.gq y λt=> .cons a t (ih z)
theorem aZ.ints (x:aZ P h (xs.map .int) vs):Vl vs xs:=by
 induction xs generalizing vs with
 |nil=>show aZ.BI x .nil
 |cons a l ih=>show aZ.ui x λv r y z=>V.dW y λt=> .cons a t (ih z)
theorem zF [BEq α] [Ld α] {xs:ah α}:xs.any (λx=>x==k)=xs.contains k:=by
 exists List.contains_eq_any_beq;congr 1;funext x;show Bool.eq_iff_iff.mpr ⟨λh=>by rw [beq_iff_eq] at h ⊢;show h.symm,λh=>by rw [beq_iff_eq] at h ⊢;show h.symm⟩
theorem abU {xs:ah ak} (ha:gm H a (xs.map .str)) (h:Q (xs.contains x) H):dG c n .In (.str x) a H Q X:=λA s v u C x' y=>V.gq x' λt=>fM (ha.at C.1 y) λz zs n jH g r=>aa jH<|up<|in_list_strs (bV _ g rfl (dM n rfl)) r.strs (ao H (.refl C.1) (ao _ rfl (aa zF h)))
theorem Oc {xs:ah ak} (ha:gm H a (xs.map .str)) (h:Q (!xs.contains x) H):dG c n .NotIn (.str x) a H Q X:=λA s v u C x' y=>V.gq x' λt=>fM (ha.at C.1 y) λz zs n mI g r=>aa mI<|up<|notin_list_strs (bV _ g rfl (dM n rfl)) r.strs (ao H (.refl C.1) (ao _ rfl (aa zF h)))
theorem Ō {xs:ah aq} (ha:gm H a (xs.map .int)) (h:Q (xs.contains x) H):dG c n .In (.int x) a H Q X:=λA s v u C x' y=>V.dW x' λt=>fM (ha.at C.1 y) λz zs n o9 g r=>aa o9<|up<|in_list_ints (bV _ g rfl (dM n rfl)) r.ints (ao H (.refl C.1) (ao _ rfl (aa zF h)))
theorem aae {zs:dm aI} (hi:Vk zs.toList xs):zs.any (isStrOf k)=xs.contains k:=by
 show aa Array.any_toList.symm<|aa (any_isStrOf k hi)<|aa zF ?_;rfl
theorem Zi {zs:dm aI} (hi:Vl zs.toList xs):zs.any (isInt k)=xs.contains k:=by
 show aa Array.any_toList.symm<|aa (any_isInt k hi)<|aa zF ?_;rfl
theorem Pq {xs:ah ak} (h:Q (!xs.contains x) H):dG c n .NotIn (.str x) (.tup (xs.map .str)) H Q X:=λA s v u C x' y=>V.gq x' λt=>V.lX y λa m zs f g r=>up<|aiG (isStrOf x) (bV _ g rfl (dM m rfl)) (λy hy=>(eq_isStrOf x t r.strs y (by simpa using hy)).at _ _) (ao H (.refl C.1) (ao _ rfl (aa (aae r.strs) h)))
theorem DX {xs:ah aq} (h:Q (!xs.contains x) H):dG c n .NotIn (.int x) (.tup (xs.map .int)) H Q X:=λA s v u C x' y=>V.dW x' λt=>V.lX y λa m zs f g r=>up<|aiG (isInt x) (bV _ g rfl (dM m rfl)) (λy hy=>(eq_isInt x t r.ints y (by simpa using hy)).at _ _) (ao H (.refl C.1) (ao _ rfl (aa (Zi r.ints) h)))
theorem Q6 (h:Q (!decide (y.cps.toList < x.cps.toList)) H):dG c n .LtE (.str x) (.str y) H Q X:=λA s v u C x' cX=>V.gq x' λJ=>V.gq cX λJ=>up<|PySem.P.le_str (ao H (.refl C.1) (ao _ rfl h))
end
end
section
noncomputable def cut {α:Type} (l:ah α) (lo hi:aR ar):ah α:=(l.take (hi.getD l.length)).drop (lo.getD 0)
theorem Nk (l:ah α) (lo hi:aR ar):(l.drop (min (lo.getD 0) l.length)).take (min (hi.getD l.length) l.length - min (lo.getD 0) l.length)=cut l lo hi:=by
 unfold cut;generalize lo.getD 0=a;generalize hi.getD l.length=b;exists aiH;by_cases q:a<=l.length
 ·exists Le q;by_cases r:b<=l.length
  ·exists Le r;rfl
  ·have r:=iK (Nat.not_le.mp r);rw [Vm r,Lf (by simp),Lf (aa Fy (Nat.sub_le_sub_right r a))]
 ·have q:=iK (Nat.not_le.mp q);show aa (aiI (iL (Vm q).symm))<|aa (aiI q) ?_;simp
theorem Tr (l:ah α) (lo hi:aR ar) (n:ar) (hn:n=l.length):
  (l.drop ((lo.map λk=>(k:aq)).elim 0 (Vn n))).take ((hi.map λk=>(k:aq)).elim n (Vn n) - (lo.map λk=>(k:aq)).elim 0 (Vn n))=cut l lo hi:=by
 subst hn
 rewrite [<-Nk]
 induction lo using eL <;> induction hi using eL <;> simp [clipAt_nat]
theorem acu (l:ah α) (lo hi:aR ar):(cut l lo hi).length<=l.length:=aa Fy<|aa FA<|aK (Lg ..) (Lb ..)
theorem aZ.cut (x:aZ P h l vs) (lo hi:aR ar):aZ P h (Mine.Internal.cut l lo hi) (Mine.Internal.cut vs lo hi):=by
 unfold Mine.Internal.cut;show aa x.length<|(x.take _).drop _
noncomputable abbrev iF (k:aR ar):aR aq:=k.map λk=>(k:aq)
section
variable {c:Cx} {n:ar} {sc:bA} {ρ:ah (ak×AV)} {H:aj} {X:AX->aj->Prop}
abbrev QI (c:Cx) (H:aj) (s:aU) (Q:AV->aj->Prop):aI->aU->Prop:=λr s'=>∃H',SR c bL H s H' s'/\∃av,V H' s'.heap av r/\Q av H'
def rG (c:Cx) (n:ar) (a i:AV) (H:aj) (Q:AV->aj->Prop) (X:AX->aj->Prop):Prop:=
 ∀A s v u,CT c n A H s.heap->V H s.heap a v->V H s.heap i u->Vo c.M A (EP c bL H s X) v u (QI c H s Q) s
def xc (c:Cx) (n:ar) (a:AV) (lo hi:aR ar) (H:aj) (Q:AV->aj->Prop) (X:AX->aj->Prop):Prop:=
 ∀A s v l u D,CT c n A H s.heap->V H s.heap a v->s.heap.IsSliceOf D l u .none->vU l (iF lo)->vU u (iF hi)->Vo c.M A (EP c bL H s X) v (.ref D) (QI c H s Q) s
theorem ahu (slice:bR) (o i:aI):∃ops,subscripted slice au o i=operate ops (getItem o i):=by
 induction slice using kA with
 |Slice l u st p=>induction st using eL <;> show ⟨_,rfl⟩
 |_=>show ⟨_,rfl⟩
theorem Pu (T:SR c bL dR bE H s) (h:Vo c.M A (EP c bL H s X) v u (QI c H s Q) s):
  aE c.M A (ahM value slice v u) (QI c dR bE Q) (EP c bL dR bE X) s:=by
 show cQ h λTn id hl hT hg=>bj (ahu slice v u) λops hs=>aS<|aa (getitemInPython_of_ne hT.not_modules)<|aS (up<|wpAny_specialOf hT hl (bw ?_))
 show aS<|aa hs<|wD (cq (up hg) (λr s' x'=>aA x' λH' S y'=>aA y' λav y q=>aS (up<|wpAny_letTemporaryGo (bw (ao H' (T.trans S) (ao av y q))))) λe s' x'=>EP.el x' λH' x S y z=>(EP.mk H' x (T.trans S) (y.lo T.6) z))
theorem ac3 (h:WE c n sc value ρ H (λa aw=>WE c n sc index ρ aw (λi aG=>rG c n a i aG Q X) X) X):WE c n sc (.Subscript value index pos) ρ H Q X:=λA env s C=>
 Om (XW.step (.refl C.1.1) (h A env s C) λv aw aC aX cU x'=>aA x' λa y q=>XW.step cU (q A env aC (C.keep aX)) λu aG aL bh da x'=>aA x' λb y2 q2=>
  Pu da (q2 A aL v u ((C.keep aX).keep bh).1 (y.keep bh.5) y2))
def tH (c:Cx) (n:ar) (sc:bA) (o:aR bR) (ρ:ah (ak×AV)) (H:aj) (Q:aR ar->aj->Prop) (X:AX->aj->Prop):Prop:=match o with
 |none=>Q none H
 |some e=>WE c n sc e ρ H (λa H'=>∃k:ar,a= .int (k:aq)/\Q (ae k) H') X
theorem N1 (C:CE c n sc A env ρ H s.heap) (h:tH c n sc o ρ H Q X):
  XW c A (E3 o env) s bL H (λv H' s'=>∃k,vU v (iF k)/\Q k H') X:=by
 induction o using eL with
 |none=>show up<|evalPart_none_step (ao H (.refl C.1.1) (ao none .none h))
 |some e=>
  show ě (XW.mono (h A env s C) (λv H' s' S x'=>aA x' λa y y'=>aA y' λk e q=>?_) λJ J z=>z);subst e;show V.dW y λt=>(ao (ae k) (.int _ t) q)
theorem W3 {lo hi:aR bR} (h:WE c n sc value ρ H (λa aw=>tH c n sc lo ρ aw (λi aG=>tH c n sc hi ρ aG (λj aV=>xc c n a i j aV Q X) X) X) X):
  WE c n sc (.Subscript value (.Slice lo hi none p) pos) ρ H Q X:=λA env s C=>
 Om (XW.step (.refl C.1.1) (h A env s C) λv aw aC aX cU x'=>aA x' λa y q=>É (XW.step cU (N1 (C.keep aX) q) λl aG aL bh da x'=>aA x' λi pi q2=>
  XW.step da (N1 ((C.keep aX).keep bh) q2) λu aV bz cJ c9 x'=>aA x' λj pj q3=>up<|evalPart_none_step (by
   have S:SR c bL aV bz aV {bz with heap:=bz.heap.push {cls:= .type "slice",data:= .fields #[l,u,.none]},toks:=bz.toks}:= .grow cJ.4 eE;show Pu (c9.trans S) (q3 A _ v l u _ ((((C.keep aX).keep bh).keep cJ).keep S).1 (((y.keep bh.5).keep cJ.5).keep S.5) (akE ..) pi pj))))
theorem Ot {k m:ar} (h:k < m):seqIndex? (k:aq) m=ae k:=by
 unfold seqIndex?
 rewrite [bo (show ¬((k:aq) < 0) by lia)]
 simp [h]
theorem Q3 {xs:dm aI} (r:aZ P h l xs.toList) (g:l[k]?=ae av):∃u,xs[k]?=ae u/\VR P h av u/\k < xs.size:=by
 show aA (r.get g) λu hu y=>?_;rw [yo] at hu;show (bV u hu y ((Array.getElem?_eq_some_iff.mp hu).1))
theorem Δ {k:ar} (hi:i=(k:aq)) (hk:(k:aq) < 2 ^ 63) (g:l[k]?=ae av) (h:Q av H):rG c n (.tup l) (.int i) H Q X:=λA s v u C y1 x'=>bj x' λt e=>by
 subst e hi;show V.lX y1 λa m xs f ga r=>cR (Q3 r g) λu hu y lt=>(cI ("tuple") _ PySem.F.slot_tuple_getitem.lookup (ao _ ga rfl) (PySem.P.getItem_tuple ga (by lia) hk (Ot lt) hu (ao H (.refl C.1) (ao av y h))))
theorem gG {k:ar} (ha:gm H a l) (hi:i=(k:aq)) (hk:(k:aq) < 2 ^ 63) (g:l[k]?=ae av) (h:Q av H):rG c n a (.int i) H Q X:=λA s v u C y1 x'=>bj x' λt e=>by
 subst e hi;show fM (ha.at C.1 y1) λx xs m dD ga r=>aa dD<|cR (Q3 r g) λu hu y lt=>(cI ("list") _ aiJ (ao _ ga rfl) (wpAny_getItem_list (bV _ ga rfl (dM m rfl)) (by lia) hk hu (ao H (.refl C.1) (ao av y h))))
theorem Sp {k cp:ar} (hi:i=(k:aq)) (hk:(k:aq) < 2 ^ 63) (g:x.cps[k]?=ae cp) (h:Q (.str ⟨#[cp]⟩) H):rG c n (.str x) (.int i) H Q X:=λA s v u C x' cX=>bj x' λt1 e1=>bj cX λt e=>by
 subst e hi e1;have lt:=(Array.getElem?_eq_some_iff.mp g).1;show (cI ("str") _ PySem.F.slot_str_getitem.lookup (FC _ _ _) (PySem.P.getItem_str (by rewrite [Fh];show ⟨ow (by lia),ow (by lia)⟩) (aa (Ot lt) g) (ao H (.tok C.1 _) (ao (.str _) ⟨_,rfl⟩ h))))
theorem rg {k:ar} (hi:i=(k:aq)) (hf:x.length<=1099511627776) (g:x[k]?=ae b) (h:Q (.int (b.toNat:aq)) H):rG c n (.bytes x) (.int i) H Q X:=λA s v u C x' cX=>bj x' λt1 e1=>bj cX λt e=>by
 subst e hi e1;have lt:=(List.getElem?_eq_some_iff.mp g).1
 show (cI ("bytes") _ FB.slot_bytes_getitem.lookup (kD _ _ _) (getItem_bytes hf (by lia) (by lia) (by
  show (ao H (.tok C.1 _) (ao (.int _) ⟨_,rfl⟩ ?_));show aa (show ((k:aq)).toNat=k from vL k)<|aa (Vp) ?_;show aa g<|h)))
theorem zQ {lo hi:aR ar} (hz:x.length<=bY) (h:Q (.bytes (cut x lo hi)) H):xc c n (.bytes x) lo hi H Q X:=λA s v l u D C x' hs pl pu=>V.oW x' λt=>by
 show (cI ("bytes") _ FB.slot_bytes_getitem.lookup (kD _ _ _) (aiK (kD _ _ _) ⋯ FB.slot_bytes_getitem FB.entry_bytes_getitem (FB.args_bytes_getitem_2 _ _) (KBc.meets_slice2 x.toArray t D pl pu)
  (aP hs (aK (KBc.size_picked_le _ _ _) hz) (λt' k=>?_))))
 show (ao H (.tok C.1 _) (ao (.bytes _) ⟨t',?_⟩ h))
 rewrite [KBc.picked_eq];exists Tr _ _ _ _ rfl;rfl
theorem G_ {lo hi:aR ar} (hz:x.length<=bY) (h:Q (.str (qJ x (iF lo) (iF hi))) H):xc c n (.str x) lo hi H Q X:=λA s v l u D C x' hs pl pu=>V.gq x' λt=>by
 have fin:∀t' k,QI c H s Q (.str (qJ x (iF lo) (iF hi)) t') {s with toks:=k}:=λt' k=>(ao H (.tok C.1 _) (ao (.str _) ⟨_,rfl⟩ h));show (cI ("str") _ PySem.F.slot_str_getitem.lookup (FC _ _ _) ?_);generalize iF lo=a at*;generalize iF hi=b at*;cases pl <;> cases pu
 ·show Lh (l:=none) (u:=none) (st:=none) hs rfl (Li ⟨aK (Lj x _ _) hz,fin⟩)
 ·show Lh (l:=none) (u:=ae (_,_)) (st:=none) hs rfl (Li ⟨aK (Lj x _ _) hz,fin⟩)
 ·show Lh (l:=ae (_,_)) (u:=none) (st:=none) hs rfl (Li ⟨aK (Lj x _ _) hz,fin⟩)
 ·show Lh (l:=ae (_,_)) (u:=ae (_,_)) (st:=none) hs rfl (Li ⟨aK (Lj x _ _) hz,fin⟩)
theorem Ν {lo hi:aR ar} (ha:gm H a l) (hz:l.length<=bY) (h:Q (.lst (cut l lo hi)) H):xc c n a lo hi H Q X:=λA s v i j D C y1 hs pl pu=>by
 show fM (ha.at C.1 y1) λx xs m d7 ga r=>aa d7 ?_;have e1:=r.length;rw [jx] at e1;show (cI ("list") _ aiJ (ao _ ga rfl) (wpAny_getItem_list_slice (bV _ ga rfl (dM m rfl)) hs pl pu .none ⋯ ?_ (aa e1 hz)))
 rewrite [slicePick_plain];exists Tr _ _ _ _ rfl
 show (ao H (.grow C.1 eE) (ao (.lst _) (Eh C.1 (r.cut lo hi)) h))
end
end
section
theorem JR (p:vU v k) (h:Q k s):a_ (bB prog w) A (akF v) Q E s:=by
 cases p
 ·show slicePart_none h
 ·show slicePart_int h
theorem Yk (lo hi:aR ar) (n:ar):aiL (iF lo) (iF hi) 1 (n:aq)=(((min (lo.getD 0) n:ar):aq),((min (hi.getD n) n:ar):aq)):=by
 have h1:¬((1:aq) < 0):=by decide
 have cl:∀v:ar,(if (v:aq) < 0 then max ((v:aq)+n) 0 else min (v:aq) n)=((min v n:ar):aq):=λv=>by exists bo (Int.not_lt.mpr (FD v));rcases Nat.le_total v n with h|h;show aa (Int.min_eq_left (Int.ofNat_le.mpr h))<|aa (Le h) ?_;rfl;show aa (Int.min_eq_right (Int.ofNat_le.mpr h))<|aa (Vm h) ?_;rfl
 have e0:((min 0 n:ar):aq)=0:=by rewrite [Nat.zero_min];rfl
 have e1:((min n n:ar):aq)=n:=by rewrite [aiM];rfl
 rcases lo with _|a <;> rcases hi with _|b
 ·show (?_:((if (1:aq) < 0 then _ else (if (1:aq) < 0 then -1 else 0)),(if (1:aq) < 0 then _ else (if (1:aq) < 0 then _ else (n:aq))))=_);simp only [h1,rZ,Vq,e0,e1]
 ·show (?_:((if (1:aq) < 0 then _ else (if (1:aq) < 0 then -1 else 0)),(if (b:aq) < 0 then max ((b:aq)+n) (if (1:aq) < 0 then -1 else 0) else min (b:aq) (if (1:aq) < 0 then _ else (n:aq))))=_);simp only [h1,rZ,Vq,Vr,e0,cl]
 ·show (?_:((if (a:aq) < 0 then max ((a:aq)+n) (if (1:aq) < 0 then -1 else 0) else min (a:aq) (if (1:aq) < 0 then _ else (n:aq))),(if (1:aq) < 0 then _ else (if (1:aq) < 0 then _ else (n:aq))))=_);simp only [h1,rZ,Vq,Vr,e1,cl]
 ·show (?_:((if (a:aq) < 0 then max ((a:aq)+n) (if (1:aq) < 0 then -1 else 0) else min (a:aq) (if (1:aq) < 0 then _ else (n:aq))),(if (b:aq) < 0 then max ((b:aq)+n) (if (1:aq) < 0 then -1 else 0) else min (b:aq) (if (1:aq) < 0 then _ else (n:aq))))=_);simp only [h1,rZ,Vr,cl]
theorem afj (a b:ar):Lk (a:aq) (b:aq) 1=b - a:=by
 unfold Lk;have h1:(1:aq) > 0:=by decide
 simp only [h1,Vd,Int.ediv_one];split
 ·rewrite [Int.sub_add_cancel];show Ll b a
 ·show (Vt (Int.ofNat_le.mp (Int.not_lt.mp ‹_›))).symm
theorem aaX {lo hi:aR ar} {Q:aq×aq×ar->aU->Prop} (hs:s.heap.IsSliceOf D l u .none) (pl:vU l (iF lo)) (pu:vU u (iF hi))
  (h:Q (((min (lo.getD 0) n:ar):aq),1,min (hi.getD n) n - min (lo.getD 0) n) s):a_ (bB prog w) A (akG (.ref D) (pure (n:aq))) Q E s:=by
 show cR hs λo ho hc hd=>aJ (aJ (ku ho hd (x:=l) rfl (aJ (ku ho hd (x:=u) rfl (aJ (ku ho hd (x:= .none) rfl (bg ?_)))))));show aJ (JR .none ?_);show vW (λq=>cy q ⋯) λJ=>aJ (JR pl (aJ (JR pu (aJ (bg ?_)))));show (?_:a_ _ _ (match aiL (iF lo) (iF hi) 1 (n:aq) with|(lo,hi)=>pure (lo,(1:aq),Lk lo hi 1)) _ _ s)
 rewrite [Yk]
 show (?_:a_ _ _ (pure (_,(1:aq),Lk _ _ 1)) _ _ s)
 rewrite [afj]
 show bg h
theorem ô (xs:dm aI) (a k:ar):((jj k).filterMap λ(j:ar)=>xs[((a:aq)+(j:aq)*1).toNat]?).toArray=((xs.toList.drop a).take k).toArray:=by
 congr 1;show aa (pick_run xs a k).symm<|aa Lm ?_
 congr 1;funext j;have:((a:aq)+(j:aq)*1).toNat=a+j:=by rewrite [Ft];rfl
 exists this;rfl
theorem abH {lo hi:aR ar} (pl:vU l (iF lo)) (pu:vU u (iF hi)):
  Meets (Builtin.«tuple.__getitem__» ⟨[.ref t,.ref D],[]⟩) (λA R s=>s.heap.get? t=ae ⟨.type "tuple",none,.seq items n,#[]⟩/\s.heap.IsSliceOf D l u .none/\items.size<=bY/\
   (cut items.toList lo hi=items.toList->R (.ok (.ret (.ref t))) s)/\R (.ok (.ret (.ref s.heap.objs.size))) {s with heap:=s.heap.push {cls:= .type "tuple",data:= .seq (cut items.toList lo hi).toArray}}):=by
 show .of_wp λprog w A R s x'=>jr x' λht hs hz h1 h2=>?_;have hT:s.TypeIs (.ref t) "tuple":=(ao _ ht rfl);show cR (id hs) λo ho hc hd=>?_;have Ó:s.TypeIs (.ref D) "slice":=(ao o ho hc);have hI:IsTup s.heap t items:=(bV _ ht rfl (dM n rfl));show (?_:a_ _ _ (akH (.ref t) >>=_) _ _ s);show aJ (tupleItemsOf_ hI ?_);show aJ (Bf Ó ?_);show vW (λJ=>?_) (λq=>cy ⋯ q);show aJ (aaX hs pl pu ?_);have pk:=ô items (min (lo.getD 0) items.size) (min (hi.getD items.size) items.size - min (lo.getD 0) items.size);have cm:=Nk items.toList lo hi;replace cm:=jx▸cm;rw [cm] at pk;generalize min (lo.getD 0) items.size=a at*;generalize min (hi.getD items.size) items.size - a=k at*
 have hsz:sizeOk (.seq (cut items.toList lo hi).toArray):=by
  show (?_:(cut items.toList lo hi).toArray.size<=bY);show aa Fd<|aK (acu _ _ _) (hz)
 show vW (λq=>?_) (λJ=>?_)
 ·show aJ (aJ (Bf hT (bg ?_)));show vW (λJ=>?_) (λq=>cy ⋯ q);show aJ (mf (bg (ao _ rfl (h1 ?_))));simp only [d9,beq_iff_eq] at q;show aM q λbC q2=>aM bC λq1 J=>?_;have q1:a=0:=by lia
  subst q1 q2;show aa cm.symm<|aa Ln<|aa (Lf (eY _)) ?_;rfl
 ·show aa pk<|wpAny_bind (vw (bg (ao _ rfl h2)) hsz)
section
variable {c:Cx} {n:ar} {sc:bA} {ρ:ah (ak×AV)} {H:aj} {X:AX->aj->Prop}
theorem yZ {lo hi:aR ar} (hz:l.length<=bY) (h:Q (.tup (cut l lo hi)) H):xc c n (.tup l) lo hi H Q X:=λA s v i j D C y hs pl pu=>by
 have Y:=y;show V.lX y λa m xs f g r=>?_;have e1:=r.length;rw [jx] at e1
 show (cI ("tuple") _ PySem.F.slot_tuple_getitem.lookup (ao _ g rfl) (aiK (ao _ g rfl) ⋯ PySem.F.slot_tuple_getitem PySem.F.entry_tuple_getitem (PySem.F.args_tuple_getitem_2 _ _) (abH pl pu)
  (f9 g hs (aa e1 hz) (λq=>(ao H (.refl C.1) (ao (.tup (cut l lo hi)) ?_ h))) (ao H (.grow C.1 eE) (ao (.tup _) (DZ C.1 (r.cut lo hi)) h)))))
 have:=r.cut lo hi;rw [q] at this;show (i5 a m xs rfl f g this)
end
end
section
section
variable {c:Cx} {n:ar} {H:aj} {X:AX->aj->Prop}
theorem jv (h:∀A s v,CT c n A H s.heap->V H s.heap a v->XW c A (gN f [v]) s bL H (λv H' s'=>∃av,V H' s'.heap av v/\Q av H') X):bq c n f [a] H Q X:=λA s vs C y=>by
 show aZ.ui y λv r y bW=>?_;subst bW;show h A s v C y
theorem pg (h:∀A s v u,CT c n A H s.heap->V H s.heap a v->V H s.heap b u->XW c A (gN f [v,u]) s bL H (λv H' s'=>∃av,V H' s'.heap av v/\Q av H') X):bq c n f [a,b] H Q X:=λA s vs C y=>by
 rcases y with ⟨v,r,rfl,y,u,r2,rfl,y2,rfl⟩
 show h A s v u C y y2
theorem wm (hz:(x.length:aq) < 2 ^ 63) (h:Q (.int (x.length:aq)) H):bq c n (.builtin "len") [.str x] H Q X:=jv λA s v C x'=>V.gq x' λt=>up<|PySem.P.len_str (by lia) (ao H (.tok C.1 _) (ao (.int _) ⟨_,rfl⟩ h))
theorem kN (hz:x.length<=1099511627776) (h:Q (.int (x.length:aq)) H):bq c n (.builtin "len") [.bytes x] H Q X:=jv λA s v C x'=>V.oW x' λt=>up<|len_bytes hz (ao H (.tok C.1 _) (ao (.int _) ⟨_,rfl⟩ h))
theorem rC (hz:(l.length:aq) < 2 ^ 63) (h:Q (.int (l.length:aq)) H):bq c n (.builtin "len") [.tup l] H Q X:=jv λA s v C y=>by
 show V.lX y λa m xs f g r=>?_;have e1:=r.length;rw [jx] at e1;show up<|PySem.P.len_tuple g (by exists e1;lia) (aa e1 ((ao H (.tok C.1 _) (ao (.int _) ⟨_,rfl⟩ h))))
theorem rr (ha:gm H a l) (hz:(l.length:aq) < 2 ^ 63) (h:Q (.int (l.length:aq)) H):bq c n (.builtin "len") [a] H Q X:=jv λA s v C y=>by
 show fM (ha.at C.1 y) λx xs m d7 g r=>aa d7 ?_;have e1:=r.length;rw [jx] at e1;show up<|akI (bV _ g rfl (dM m rfl)) (aa e1 hz) (aa e1 ((ao H (.tok C.1 _) (ao (.int _) ⟨_,rfl⟩ h))))
theorem B7 (h:Q (.int (k:aq)) H):bq c n (.builtin "ord") [.str ⟨#[k]⟩] H Q X:=jv λA s v C x'=>V.gq x' λt=>up<|PySem.P.ord_of_char (ao H (.tok C.1 _) (ao (.int _) ⟨_,rfl⟩ h))
theorem Uc (h0:0<=i) (h1:i<=1114111) (h:Q (.str ⟨#[i.toNat]⟩) H):bq c n (.builtin "chr") [.int i] H Q X:=jv λA s v C x'=>V.dW x' λt=>up<|PySem.P.chr_of_int (by rewrite [Fh];show ⟨ow (by lia),ow (by lia)⟩) (ao H (.tok C.1 _) (ao (.str _) ⟨_,rfl⟩ h))
theorem abZ (h:Q (.int i) H):bq c n (.type "int") [.int i] H Q X:=jv λA s v C x'=>V.dW x' λt=>up<|call_int_int (ao H (.refl C.1) (ao (.int _) ⟨_,rfl⟩ h))
theorem Gf (c8:c.qt=ai) (h:Q (.int (if j < i then j else i)) H):bq c n (.builtin "min") [.int i,.int j] H Q X:=pg λA s v u C x' cX=>V.dW x' λt=>V.dW cX λt2=>by
 show up<|min_two_ints (C.5 c8) λh' tk k=>?_
 split
 ·rename_i q;rw [bN q] at h;show (ao H (.grow C.1 k) (ao (.int _) ⟨_,rfl⟩ h))
 ·rename_i q;rw [bo q] at h;show (ao H (.grow C.1 k) (ao (.int _) ⟨_,rfl⟩ h))
noncomputable def Zf:AV->ah (eT×aN)
 | .int _=>[("int",ai),("bool",au),("str",au),("bytes",au),("tuple",au)]
 | .bool _=>[("bool",ai)]
 | .str _=>[("int",au),("bool",au),("str",ai),("bytes",au),("tuple",au)]
 | .bytes _=>[("int",au),("bool",au),("str",au),("bytes",ai),("tuple",au)]
 | .tup _=>[("int",au),("bool",au),("str",au),("bytes",au),("tuple",ai)]
 |_=>[]
noncomputable def adC (a:AV) (T:eT):aR aN:=(Zf a).lookup T
def RK (P:eT->aN->Prop):ah (eT×aN)->Prop
 |[]=>cL
 |x::l=>P x.1 x.2/\RK P l
theorem acT (h:RK P l) (e:l.lookup T=ae b):P T b:=by
 induction l with
 |nil=>show f5 e
 |cons a l ih=>
  rcases a with ⟨x,y⟩
  rw [yj] at e;cases q:T==x with
  |true=>rw [q] at e;show bZ e▸aa (eq_of_beq q) h.1
  |false=>rw [q] at e;show ih h.2 e
theorem CM (pq:(lE "bytes"==lE T)=au) (GQ:tM (.type T)=pure (.type "type")) (zv:K_ (.type "bytes") (.type T)=pure au):
  Meets (Builtin.«isinstance» ⟨[.bytes b t,.type T],[]⟩) (λJ R s=>R (.ok (.ret (.bool au))) {s with toks:=s.toks+1}):=λJ J J J s hq=>by
 rcases s with ⟨h,g,d,t,os⟩
 show isinstance_outer (isinstance_nested_false_bytes pq GQ zv hq)
theorem fx (hb:adC a T=ae b) (h:Q (.bool b) H):bq c n (.builtin "isinstance") [a,.ty T] H Q X:=pg λA s v u C y e=>by
 have e:=e;show aa e<|acT (P:=λT b=>Q (.bool b) H->XW c A (gN (.builtin "isinstance") [v,.type T]) s bL H (λv H' s'=>∃av,V H' s'.heap av v/\Q av H') X) ?_ hb h
 have fin:∀{b},Q (.bool b) H->∀k,(λr s'=>∃H',SR c bL H s H' s'/\∃av,V H' s'.heap av r/\Q av H') (U6 b) {s with toks:=k}:=λ{b} h k=>(ao H (.tok C.1 k) (ao (.bool b) rfl h));induction a using AV.casesOn with
 |int=>show bj y ?_;clear y;intro J eM;subst eM;show (lW (λh=>up<|IsiPair.int_int (fin h _)) (λh=>up<|IsiPair.int_bool (fin h _)) (λh=>up<|IsiPair.int_str (fin h _)) (λh=>up<|IsiPair.int_bytes (fin h _)) (λh=>up<|IsiPair.int_tuple (fin h _)) trivial)
 |bool=>obtain rfl:v= .bool _:=y;show ⟨λh=>up<|IsiPair.bool_bool (fin h _),trivial⟩
 |str=>show bj y ?_;clear y;intro J i9;subst i9;show (lW (λh=>up<|IsiPair.str_int (fin h _)) (λh=>up<|IsiPair.str_bool (fin h _)) (λh=>up<|IsiPair.str_str (fin h _)) (λh=>up<|IsiPair.str_bytes (fin h _)) (λh=>up<|IsiPair.str_tuple (fin h _)) trivial)
 |bytes=>
  show bj y ?_;clear y;intro J jH;subst jH;show (lW (λh=>up<|call_isinstance (CM (by decide+kernel) PySem.F.isi_meta_int PySem.F.sub_bytes_int) (fin h _)) (λh=>up<|call_isinstance (CM (by decide+kernel) PySem.F.isi_meta_bool PySem.F.sub_bytes_bool) (fin h _)) (λh=>up<|call_isinstance (CM (by decide+kernel) PySem.F.isi_meta_str PySem.F.sub_bytes_str) (fin h _)) (λh=>up<|call_isinstance (isinstance_true PySem.F.isi_meta_bytes PySem.F.sub_bytes_bytes) ⟨rfl,fin h _⟩) (λh=>up<|call_isinstance (CM (by decide+kernel) PySem.F.isi_meta_tuple PySem.F.sub_bytes_tuple) (fin h _)) trivial)
 |tup=>
  show V.lX y λa m xs f g r=>(lW (λh=>up<|IsiPair.tuple_int g rfl (fin h _)) (λh=>up<|IsiPair.tuple_bool g rfl (fin h _)) (λh=>up<|IsiPair.tuple_str g rfl (fin h _)) (λh=>up<|IsiPair.tuple_bytes g rfl (fin h _)) (λh=>up<|IsiPair.tuple_tuple g rfl (fin h _)) trivial)
 |_=>trivial
theorem abr (h:Q (.tup l) H):bq c n (.type "tuple") [.tup l] H Q X:=jv λA s v C y=>by
 have Y:=y;show gU y ?_;clear y;intro a m xs o9 f g r;subst o9;show up<|call_tuple_same (bV _ g rfl (dM m rfl)) (ao H (.refl C.1) (ao (.tup l) Y h))
theorem kH (ha:gm H a l) (hz:l.length<=bY) (h:Q (.tup l) H):bq c n (.type "tuple") [a] H Q X:=jv λA s v C y=>by
 show fM (ha.at C.1 y) λx xs m ze g r=>aa ze ?_;have e1:=r.length;rw [jx] at e1;show up<|call_tuple_list (bV _ g rfl (dM m rfl)) (λh' k=>?_) (aa e1 hz)
 have S:SR c bL H s H {s with heap:=h',toks:=s.toks}:= .grow C.1 k;have S2:SR c bL H {s with heap:=h',toks:=s.toks} H {s with heap:=h'.push ⟨.type "tuple",none,.seq xs 0,#[]⟩,toks:=s.toks}:= .grow S.4 eE;show (ao H (S.trans S2) (ao (.tup l) ?_ h));have:=DZ S.4 (Vs.keep r S.5);show this
theorem XC (ha:gm H a l\/a= .tup l) (hz:l.length<=bY) (h:Q (.lst l) H):bq c n (.type "list") [a] H Q X:=jv λA s v C y=>by
 have key:∀(x:aF) (xs:dm aI) (m:ar) (T:eT),(T="list"\/T="tuple")->v= .ref x->s.heap.get? x=ae ⟨.type T,none,.seq xs m,#[]⟩->Vs H s.heap l xs.toList->XW c A (gN (.type "list") [v]) s bL H (λv H' s'=>∃av,V H' s'.heap av v/\Q av H') X:=by
  rintro x xs m T hT rfl g r;have e1:=r.length;rw [jx] at e1;show up<|call_list_seq x hT g rfl rfl (λh' c' k hD=>?_) (aa e1 hz)
  have S:SR c bL H s H {s with heap:=h',toks:=s.toks}:= .grow C.1 k;show (ao H S (ao (.lst l) (i5 _ c' xs rfl (C.1.jR (fv _)) hD (Vs.keep r S.5)) h))
 rcases ha with ha|rfl
 ·show fM (ha.at C.1 y) λx xs m e g r=>key x xs m "list" (.inl rfl) e g r
 ·show gU y λx m xs e f g r=>key x xs m "tuple" (.inr rfl) e g r
end
end
section
open PySem PySem.W PyProof.Rows PySem.Calls PySem.Spec
theorem Es {r:α->α->Prop} (afc:∀a b,r a b->r b a->a=b) {l m:ah α} (p:l.Perm m) (x:l.Pairwise r) (y:m.Pairwise r):l=m:=by
 induction l generalizing m with
 |nil=>show (List.nil_perm.mp p).symm
 |cons a l ih=>
  induction m using c6 with
  |nil=>show nomatch p.length_eq
  |cons b m=>
   rw [aiN] at x y;have e:=(List.mem_cons.mp (p.mem_iff.mp (.head _))).elim id λh1=>(List.mem_cons.mp (p.mem_iff.mpr (.head _))).elim .symm λh2=>afc a b (x.1 b h2) (y.1 a h1);rw [e] at p ⊢;show bD _ (ih p.cons_inv x.2 y.2)
noncomputable def ins {α:Type} (le:α->α->aN) (a:α):ah α->ah α
 |[]=>[a]
 |b::l=>if le a b then a::b::l else b::ins le a l
noncomputable def wN {α:Type} (le:α->α->aN):ah α->ah α
 |[]=>[]
 |a::l=>ins le a (wN le l)
theorem MB (le:α->α->aN) (a:α) (l:ah α):(ins le a l).Perm (a::l):=by
 induction l with
 |nil=>show .refl _
 |cons b l ih=>
  by_cases q:le a b=ai
  ·show (show ins le a (b::l)=a::b::l from bN q)▸.refl _
  ·show (show ins le a (b::l)=b::ins le a l from bo q)▸(ih.cons b).trans (.swap a b l)
theorem ke {α:Type} (le:α->α->aN):∀l,(wN le l).Perm l
 |[]=> .refl _
 |a::l=>(MB le a _).trans ((ke le l).cons a)
theorem ę {le:α->α->aN} (EK:∀a b,le a b=au->le b a=ai) (tr:∀a b c,le a b=ai->le b c=ai->le a c=ai) (a:α) (l:ah α) (x:l.Pairwise (λa b=>le a b=ai)):(ins le a l).Pairwise (λa b=>le a b=ai):=by
 induction l with
 |nil=>show Lo ..
 |cons b l ih=>
  rw [aiN] at x;by_cases q:le a b=ai
  ·show aa (show ins le a (b::l)=a::b::l from bN q) (List.pairwise_cons.mpr ⟨λc hc=>?_,List.pairwise_cons.mpr x⟩);show (List.mem_cons.mp hc).elim (λe=>aa e q) λhc=>tr a b c q (x.1 c hc)
  ·show aa (show ins le a (b::l)=b::ins le a l from bo q) (List.pairwise_cons.mpr ⟨λc hc=>?_,ih x.2⟩);show (List.mem_cons.mp ((MB le a l).mem_iff.mp hc)).elim (λe=>aa e (EK a b (Vu _|>.mp q))) (x.1 c)
theorem tj {α:Type} {le:α->α->aN} (EK:∀a b,le a b=au->le b a=ai) (tr:∀a b c,le a b=ai->le b c=ai->le a c=ai):∀l,(wN le l).Pairwise (λa b=>le a b=ai)
 |[]=> .nil
 |a::l=>ę EK tr a _ (tj EK tr l)
noncomputable def qg (a b:aq):aN:=decide (a<=b)
noncomputable def fZ (a b:ak):aN:= !ltCps b.cps.toList a.cps.toList
theorem Ε (a b:aq) (h:qg a b=au):qg b a=ai:=by simp [qg] at*;lia
theorem ahr (a b c:aq) (h:qg a b=ai) (k:qg b c=ai):qg a c=ai:=by simp [qg] at*;lia
theorem xa:ltCps (a::r) (b::t)=au↔b<=a/\(a=b->ltCps r t=au):=by
 show (Fh).trans (and_congr (decide_eq_false_iff_not.trans Nat.not_lt) ⟨λh e=>?_,λh=>?_⟩)
 ·rw [e,kZ] at h;show h
 ·cases q:a==b with
  |false=>rfl
  |true=>show h (eq_of_beq q)
theorem YA (a b:ah ar) (h:ltCps a b=ai):ltCps b a=au:=by
 induction a generalizing b with
 |nil=>induction b using c6 <;> first|rfl|show mA h
 |cons a r ih=>
  induction b using c6 with
  |nil=>show lU h
  |cons b t=>
   show xa.mpr ((Bool.or_eq_true_iff.mp h).elim (λz=>⟨iK (fi z),λe=>(Fe (fi z) e.symm).elim⟩) λz=>aM (Bool.and_eq_true_iff.mp z) λz1 z2=>⟨iL (eq_of_beq z1),λJ=>ih t z2⟩)
theorem YC (a b c:ah ar) (h:ltCps b a=au) (k:ltCps c b=au):ltCps c a=au:=by
 induction a generalizing b c with
 |nil=>induction c using c6 <;> rfl
 |cons a r ih=>
  induction b using c6 with
  |nil=>show mA h
  |cons b t=>induction c using c6 with
   |nil=>show mA k
   |cons c u=>show aM (xa.mp h) λh1 h2=>aM (xa.mp k) λk1 k2=>xa.mpr ⟨aK h1 k1,λe=>ih t u (h2 (Bg (e▸k1) h1)) (k2 (Bg (aa e h1) k1))⟩
theorem afk (a b:ah ar) (h:ltCps b a=au) (k:ltCps a b=au):a=b:=by
 induction a generalizing b with
 |nil=>induction b using c6 with
  |nil=>rfl
  |cons=>show mA k
 |cons a r ih=>
  induction b using c6 with
  |nil=>show mA h
  |cons b t=>show aM (xa.mp h) λh1 h2=>aM (xa.mp k) λk1 k2=>aa (Bg h1 k1) (bD _ (ih t (h2 (Bg k1 h1)) (k2 (Bg h1 k1))))
theorem xW (a b:ak) (h:fZ a b=au):fZ b a=ai:=by
 simp only [fZ,Bool.not_eq_false',lC] at*;show YA _ _ h
theorem uO (a b c:ak) (h:fZ a b=ai) (k:fZ b c=ai):fZ a c=ai:=by
 simp only [fZ,lC] at*;show YC _ _ _ h k
theorem Jc (a b:ak) (h:fZ a b=ai) (k:fZ b a=ai):a=b:=by
 simp only [fZ,lC] at*;have:=afk _ _ h k;cases a;simp only at this;rw [Array.toList_inj] at this;exists this;rfl
theorem ac9 (l:ah ak) (p:ak) (h:risingS p l=ai):(∀x,x∈l->fZ p x=ai)/\l.Pairwise (λa b=>fZ a b=ai):=by
 induction l generalizing p with
 |nil=>show ⟨λJ h=>(jl h),.nil⟩
 |cons x r ih=>
  show aM (Bool.and_eq_true_iff.mp h) λhp h=>aM (ih x h) λh1 h2=>⟨λy hy=>?_,List.pairwise_cons.mpr ⟨h1,h2⟩⟩;show (List.mem_cons.mp hy).elim (λe=>aa e hp) λhy=>uO p x y hp (h1 y hy)
theorem Θ (h:sortedS l=ai):l.Pairwise (λa b=>fZ a b=ai):=by
 induction l using c6 with
 |nil=>show .nil
 |cons x r=>show List.pairwise_cons.mpr (ac9 r x h)
noncomputable def sortI (l:ah aq):ah aq:=wN qg l
noncomputable def iq (l:ah ak):ah ak:=wN fZ l
theorem NS (p:m.Perm l) (h:m.Pairwise (λx y=>x<=y)):m=sortI l:=
 Es (λa b h k=>by lia) (p.trans (ke qg l).symm) h ((tj Ε ahr l).imp (by simp [qg]))
theorem adB (p:m.Perm l) (h:sortedS m=ai):m=iq l:=
 Es Jc (p.trans (ke fZ l).symm) (Θ h) (tj xW uO l)
section
variable {c:Cx} {n:ar} {H:aj} {X:AX->aj->Prop}
theorem aZ.Nl {P:aF->Prop} {h:bF}:∀{xs:ah aq} {vs:ah aI},Vl vs xs->aZ P h (xs.map .int) vs
 |_,_,.nil=> .nil
 |_,_,.cons n t h=> .cons ⟨t,rfl⟩ (aZ.Nl h)
theorem aZ.PB {P:aF->Prop} {h:bF}:∀{xs:ah ak} {vs:ah aI},Vk vs xs->aZ P h (xs.map .str) vs
 |_,_,.nil=> .nil
 |_,_,.cons n t h=> .cons ⟨t,rfl⟩ (aZ.PB h)
theorem O9 {Q:AV->aj->Prop} (R:cN c H s.heap) (y:∀P h,aZ P h l out.toList) (h:Q (.lst l) H):
  (λr s'=>∃H',SR c bL H s H' s'/\∃av,V H' s'.heap av r/\Q av H') (dp (s.heap.objs.size+1)) {s with heap:=sortedAll s.heap vs out}:=by
 show bj (sortedAll_at s.heap vs out) λe he=>?_;have S:SR c bL H s H {s with heap:=sortedAll s.heap vs out,toks:=s.toks}:= .grow R λb o h=>sortedAll_old h;show (ao H S (ao (.lst l) (i5 _ e out rfl (R.jR (yh (kX _))) he (y _ _)) h))
theorem Ei (ha:gm H a (xs.map .int)) (hz:xs.length < 64) (h:Q (.lst ((sortI xs).map .int)) H):bq c n (.builtin "sorted") [a] H Q X:=jv λA s v C y=>by
 show fM (ha.at C.1 y) λz zs m bC g r=>aa bC ?_;have e1:=r.length;rw [bp] at e1;show up<|sorted_ints (bV _ g rfl (dM m rfl)) r.ints (aa e1 hz) λout ns hi hp hs=>?_
 rw [<-NS hp hs] at h;show O9 C.1 (λJ J=>aZ.Nl hi) h
theorem D3 (ha:gm H a (xs.map .str)) (hz:xs.length < 64) (h:Q (.lst ((iq xs).map .str)) H):bq c n (.builtin "sorted") [a] H Q X:=jv λA s v C y=>by
 show fM (ha.at C.1 y) λz zs m bW g r=>aa bW ?_;have e1:=r.length;rw [bp] at e1;show up<|sorted_strs (bV _ g rfl (dM m rfl)) r.strs (aa e1 hz) λout ns hi hp hs=>?_
 rw [<-adB hp hs] at h;show O9 C.1 (λJ J=>aZ.PB hi) h
theorem M4 (h:Q (.int (if i < 0 then -i else i)) H):bq c n (.builtin "abs") [.int i] H Q X:=jv λA s v C x'=>V.dW x' λt=>up<|call_abs_int λu tk=>(ao H (.tok C.1 _) (ao (.int _) ⟨_,rfl⟩ h))
end
end
section
section
variable {c:Cx} {n:ar} {H:aj} {X:AX->aj->Prop}
theorem WR:lp c n ("lower":eT) (.str x) H (.builtin "str.lower") [.str x]:=λA s v pl Q E C x' h=>bj x' λt e=>by
 exists e;have k:=h [r7 x t] s.toks (.cons ⟨t,rfl⟩ .nil);with_reducible show GM.lower k
theorem adU:lp c n ("find":eT) (.str x) H (.builtin "str.find") [.str x]:=λA s v pl Q E C x' h=>bj x' λt e=>by
 exists e;have k:=h [r7 x t] s.toks (.cons ⟨t,rfl⟩ .nil);with_reducible show GM.find k
theorem afd:lp c n ("startswith":eT) (.str x) H (.builtin "str.startswith") [.str x]:=λA s v pl Q E C x' h=>bj x' λt e=>by
 exists e;have k:=h [r7 x t] s.toks (.cons ⟨t,rfl⟩ .nil);with_reducible show GM.startswith k
theorem Ú:lp c n ("split":eT) (.str x) H (.builtin "str.split") [.str x]:=λA s v pl Q E C x' h=>bj x' λt e=>by
 exists e;have k:=h [r7 x t] s.toks (.cons ⟨t,rfl⟩ .nil);with_reducible show GM.split k
theorem ahi:lp c n ("join":eT) (.str x) H (.builtin "str.join") [.str x]:=λA s v pl Q E C x' h=>bj x' λt e=>by
 exists e;have k:=h [r7 x t] s.toks (.cons ⟨t,rfl⟩ .nil);with_reducible show GM.join k
theorem QF (hz:(tY x).length<=bY) (h:Q (.str (tY x)) H):bq c n (.builtin "str.lower") [.str x] H Q X:=jv λA s v C x'=>V.gq x' λt=>up<|SC.lower (ow (by lia)) (ao H (.tok C.1 _) (ao (.str _) ⟨_,rfl⟩ h))
theorem Z2 (h:Q (.int (vX x y)) H):bq c n (.builtin "str.find") [.str x,.str y] H Q X:=pg λA s v u C x' cX=>V.gq x' λt=>V.gq cX λt2=>up<|SC.find (ao H (.tok C.1 _) (ao (.int _) ⟨_,rfl⟩ h))
theorem agh (h:Q (.bool (Lp x y)) H):bq c n (.builtin "str.startswith") [.str x,.str y] H Q X:=pg λA s v u C x' cX=>V.gq x' λt=>V.gq cX λt2=>up<|SC.startswith (ao H (.refl C.1) (ao (.bool _) rfl h))
theorem Ra (ha:gm H a (ys.map .str)) (hz:(ys.map (λx=>x.length)).sum+ys.length*x.length<=16777216) (h:Q (.str (Vv x ys)) H):bq c n (.builtin "str.join") [.str x,a] H Q X:=pg λA s v u C x' y=>V.gq x' λt=>fM (ha.at C.1 y) λz zs m bC g r=>aa bC<|up<|join_list (bV _ g rfl (dM m rfl)) r.strs hz λt' k=>(ao H (.tok C.1 _) (ao (.str _) ⟨_,rfl⟩ h))
theorem aZ.O3:∀{l:ah (ak×tW)},aZ P h ((l.map (λx=>x.1)).map .str) (strValues l)
 |[]=> .nil
 |(x,t)::l=> .cons ⟨t,rfl⟩ aZ.O3
theorem Gz (hy:(y.length==0)=au) (hz:x.length<=bY) (zu:(FG x (tX x y 0 x.length (x.length+1)) y.length).length<=bY)
  (h:Q (.lst ((yr x y).map .str)) H):bq c n (.builtin "str.split") [.str x,.str y] H Q X:=pg λA s v u C x' cX=>V.gq x' λt=>V.gq cX λt2=>by
 have fin:∀(l:ah (ak×tW)) k,l.map (λx=>x.1)=yr x y->(λr s'=>∃H',SR c bL H s H' s'/\∃av,V H' s'.heap av r/\Q av H') (dp s.heap.objs.size) {s with heap:=s.heap.push {cls:= .type "list",data:= .seq (strValues l).toArray},toks:=k}:=λl k q=>by
  show (ao H (.grow C.1 eE) (ao (.lst ((yr x y).map .str)) ?_ h));show aa q.symm<|Eh C.1 aZ.O3
 cases h1:(decide (x.length < y.length)||decide (aiO x < aiO y))
 ·cases hf:(tX x y 0 x.length (x.length+1)).isEmpty
  ·show up<|call_meets Vw (FC _ _ _) Vx (Vy _ _) (meets_str_split_sep x y t t2 h1 hy hf hz zu) ?_
   have:=fin (numbered s.toks (FG x (tX x y 0 x.length (x.length+1)) y.length)) (s.toks+(FG x (tX x y 0 x.length (x.length+1)) y.length).length) ((numbered_texts _ _).trans ((bo (Vz h1)).trans (bo (Vz hf))).symm);rw [<-strsFrom_eq] at this;show this
  ·show up<|call_meets Vw (FC _ _ _) Vx (Vy _ _) (meets_str_split_not_found x y t t2 h1 hy hf)
    (fin [(x,t)] s.toks ((bo (Vz h1)).trans (bN hf)).symm)
 ·show up<|call_meets Vw (FC _ _ _) Vx (Vy _ _) (meets_str_split_cannot_occur x y t t2 h1)
   (fin [(x,t)] s.toks (bN h1).symm)
theorem adw (ha:H a=ae (.list l)):lp c n ("append":eT) (.ref a) H (.builtin "list.append") [.ref a]:=λA s v pl Q E C y h=>by
 have y:=y;show aa y<|d8 (C.1.6 a _ ha) λxs m g r=>?_
 have k:=h [dp a] s.toks (.cons rfl .nil)
 with_reducible show getMethod_list_append g rfl rfl k
theorem vh (hl:H l=ae (.list xs)) (hz:xs.length<=bY) (h:Q .none (H.set l (.list (xs++[a])))):bq c n (.builtin "list.append") [.ref l,a] H Q X:=pg λA s v u C y1 y2=>by
 have y1:=y1;show aa y1<|up<|RT C.1 hl y2 hz λs' S=>(ao _ S (ao .none rfl h))
end
end
section
set_option genInjectivity false in
structure KY (c:Cx) (K:Type) [ji K] where
 knd:PySem.KeyKind c.prog c.w K
 pC:K->DK
 av:K->AV
 qo:∀{P:aF->Prop} {h:bF} {k:K} {u:aI},VR P h (av k) u->knd.is k u=ai
 of_is:∀{P:aF->Prop} {h:bF} {k:K} {u:aI},knd.is k u=ai->VR P h (av k) u
 rel:∀k e,ME c.w.params (pC k) e↔(knd.is k e.key=ai/\e.hash=knd.hash k)
noncomputable def gQ (c:Cx):KY c ak where
 knd:=PySem.strKind c.prog c.w
 pC:= .s
 av:= .str
 qo:=λx'=>bj x' λt e=>by subst e;show strKind_is _ _ _ _
 of_is:=λh=>by show bj (VA h) λt bC=>?_;rcases bC with rfl;show ⟨t,rfl⟩
 rel:=λk e=>⟨λ⟨⟨t,h1⟩,h2⟩=>⟨by exists h1;show strKind_is _ _ _ _,h2⟩,λx'=>aM x' λh1 h2=>⟨VA h1,h2⟩⟩
noncomputable def fy (c:Cx):KY c aq where
 knd:=PySem.intKind c.prog c.w
 pC:= .i
 av:= .int
 qo:=λx'=>bj x' λt e=>by subst e;show intKind_is _ _ _ _
 of_is:=λh=>by show bj (aiP h) λt bW=>?_;rcases bW with rfl;show ⟨t,rfl⟩
 rel:=λk e=>⟨λ⟨⟨t,h1⟩,h2⟩=>⟨by exists h1;show intKind_is _ _ _ _,h2⟩,λx'=>aM x' λh1 h2=>⟨aiP h1,h2⟩⟩
section
variable {c:Cx} {K:Type} [ji K] (Y:KY c K)
noncomputable def cj (es:ah (K×AV)):cW:= .dict (es.map λp=>(Y.pC p.1,p.2))
variable {Y}
theorem afH:∀{es:ah (K×AV)} {ds:ah kz},BZ c.w.params (es.map λp=>Y.pC p.1) ds->∃bJ:ah (K×aI),Pairs Y.knd ds bJ/\bJ.map (λx=>x.1)=es.map (λx=>x.1)/\bJ.map (λx=>x.2)=ds.map (λx=>x.val)/\∀e∈ds,∃k,Y.knd.is k e.key=ai/\e.hash=Y.knd.hash k:=by
 intro es;induction es with
 |nil=>intro ds h;induction ds using c6 with
  |nil=>show (i_ [] .nil rfl rfl (λe h=>jl h))
  |cons e ds=>show Kv h
 |cons p es ih=>intro ds h;induction ds using c6 with
  |nil=>show Kv h
  |cons e ds=>
   show eO (ih h.2) λbJ a b c1 d=>?_;have i:=(Y.rel p.1 e).mp h.1;show (i_ ((p.1,e.val)::bJ) (.cons i.1 rfl a) (bD (λx=>p.1::x) b) (bD (λx=>e.val::x) c1) (λx hx=>(List.mem_cons.mp hx).elim (λq=>aa q ((ao _ i.1 i.2))) (d x)))
theorem abz:∀{es:ah (K×AV)} {ds:ah kz} {bJ:ah (K×aI)},Pairs Y.knd ds bJ->bJ.map (λx=>x.1)=es.map (λx=>x.1)->(∀e∈ds,∃k,Y.knd.is k e.key=ai/\e.hash=Y.knd.hash k)->BZ c.w.params (es.map λp=>Y.pC p.1) ds/\bJ.map (λx=>x.2)=ds.map (λx=>x.val):=by
 intro es;induction es with
 |nil=>intro ds bJ x q J;cases x with
  |nil=>show ⟨trivial,rfl⟩
  |cons=>show CB q
 |cons p es ih=>intro ds bJ x q hk;cases x with
  |nil=>show PM q
  |@cons e kv ds bJ i1 i2 i3=>
   have q:=tN q;have q1:kv.1=p.1:=q.1;show aM (ih i3 q.2 λe he=>hk e (.tail _ he)) λa b=>aA (hk e (.head _)) λk k1 k2=>?_;obtain rfl:=Y.knd.inj _ _ _ k1 i1;show ⟨⟨(Y.rel p.1 e).mpr (aa q1.symm (⟨k1,k2⟩)),a⟩,by show aa dX<|aa dX<|aa b<|aa i2 ?_;rfl⟩
theorem qP (x:OR c.w.params H h a (cj Y es)) (nd:(es.map (λx=>x.1)).Nodup):∃bJ:ah (K×aI),h.DictOf Y.knd a bJ/\bJ.map (λx=>x.1)=es.map (λx=>x.1)/\Vs H h (es.map (λx=>x.2)) (bJ.map (λx=>x.2)):=by
 show cQ x λds n g dk vs=>?_;rw [cZ] at dk vs;show eO (afH dk) λbJ p e1 e2 hk=>(bV bJ (xo _ ds n g (aP rfl rfl rfl) rfl (λe he=>hk e (by simpa using he)) p (aa e1 nd)) e1 (aa e2 vs))
theorem aaS (x:h.DictOf Y.knd a bJ) (e1:bJ.map (λx=>x.1)=es.map (λx=>x.1)) (vs:Vs H h (es.map (λx=>x.2)) (bJ.map (λx=>x.2))):OR c.w.params H h a (cj Y es):=by
 rcases x with ⟨⟨cls,dd,data,sl⟩,ds,ep,ho,⟨c1,c2,c3⟩,hd,hk,hp,hn⟩
 simp only at c1 c2 c3 hd;subst c1 c2 c3 hd;show aM (abz hp e1 λe he=>hk e (by simpa using he)) λa b=>(cI ds ep ho (aa cZ a) (aa cZ<|aa b.symm<|vs))
noncomputable def iO (es:ah (K×AV)) (k:K):aR AV:=(es.find? λp=>p.1=k).map (λx=>x.2)
noncomputable def jh (es:ah (K×AV)) (k:K) (v:AV):ah (K×AV):=if es.any (λp=>p.1=k) then es.map (λp=>if p.1=k then (p.1,v) else p) else es++[(k,v)]
theorem HU {M:ah (K×AV)->ah (K×aI)->Prop} (h0:M [] []) (h1:∀k a v es bJ,VR P h a v->M es bJ->M ((k,a)::es) ((k,v)::bJ)):∀{es:ah (K×AV)} {bJ:ah (K×aI)},bJ.map (λx=>x.1)=es.map (λx=>x.1)->aZ P h (es.map (λx=>x.2)) (bJ.map (λx=>x.2))->M es bJ:=by
 intro es;induction es with
 |nil=>intro bJ e y;induction bJ using c6 with
  |nil=>show h0
  |cons=>show CB e
 |cons p es ih=>intro bJ e y;induction bJ using c6 with
  |nil=>show PM e
  |cons kv bJ=>
   rcases p with ⟨k,a⟩
   rcases kv with ⟨k',v⟩
   have e:=tN e;have e1:k'=k:=e.1;show aa e1<|h1 _ _ _ _ _ y.ro.1 (ih e.2 y.ro.2)
theorem Dh:∀{es:ah (K×AV)} {bJ:ah (K×aI)},bJ.map (λx=>x.1)=es.map (λx=>x.1)->aZ P h (es.map (λx=>x.2)) (bJ.map (λx=>x.2))->
  (FH bJ k).isSome=(iO es k).isSome/\∀av,iO es k=ae av->∃v,FH bJ k=ae v/\VR P h av v:=λ{es bJ}=>HU (M:=λes bJ=>(FH bJ k).isSome=(iO es k).isSome/\∀av,iO es k=ae av->∃v,FH bJ k=ae v/\VR P h av v) ⟨rfl,λav e=>f5 e⟩ λk' a v es bJ y1 ih=>by
 unfold FH iO;exists Kw;exists Kw;by_cases q:k'=k
 ·simp only [q,decide_true];show ⟨rfl,λav h=>⟨v,rfl,bZ h▸y1⟩⟩
 ·simp only [q,decide_false];show ih
theorem SN (yv:VR P h av v) {bJ:ah (K×aI)} (e:bJ.map (λx=>x.1)=es.map (λx=>x.1)) (y:aZ P h (es.map (λx=>x.2)) (bJ.map (λx=>x.2))):
  (VC bJ k v).map (λx=>x.1)=(jh es k av).map (λx=>x.1)/\aZ P h ((jh es k av).map (λx=>x.2)) ((VC bJ k v).map (λx=>x.2)):=by
 have any:∀{es:ah (K×AV)} {bJ:ah (K×aI)},bJ.map (λx=>x.1)=es.map (λx=>x.1)->(bJ.any λkv=>decide (kv.1=k))=es.any λp=>decide (p.1=k):=λ{es bJ} e=>by
  have a1:(bJ.any λkv=>decide (kv.1=k))=(bJ.map (λx=>x.1)).any λx=>decide (x=k):=by exists aiQ;rfl
  have a2:(es.any λkv=>decide (kv.1=k))=(es.map (λx=>x.1)).any λx=>decide (x=k):=by exists aiQ;rfl
  show aa a1<|aa a2<|aa e ?_;rfl
 unfold VC jh;exists any e;split
 ·show HU (M:=λes bJ=>(bJ.map λkv=>if kv.1=k then (kv.1,v) else kv).map (λx=>x.1)=(es.map λp=>if p.1=k then (p.1,av) else p).map (λx=>x.1)/\aZ P h ((es.map λp=>if p.1=k then (p.1,av) else p).map (λx=>x.2)) ((bJ.map λkv=>if kv.1=k then (kv.1,v) else kv).map (λx=>x.2))) ⟨rfl,.nil⟩ (λk' a u es bJ y1 ih=>by
   by_cases q:k'=k
   ·simp only [dX,bN q];show ⟨bD _ ih.1,.cons yv ih.2⟩
   ·simp only [dX,bo q];show ⟨bD _ ih.1,.cons y1 ih.2⟩) e y
 ·simp only [dz,dX,FJ,e];show ⟨trivial,aZ.append y (.cons yv .nil)⟩
end
end
section
section
variable {c:Cx} {n:ar} {sc:bA} {ρ:ah (ak×AV)} {H:aj} {X:AX->aj->Prop} {K:Type} [ji K] {Y:KY c K}
noncomputable def uJ (K:iI):aN:=(K.lookup sysModules).isSome
theorem Cr (R:cN c H h) (hs:uJ c.K=ai) (hd:H d=ae o):(d==sysModules)=au:=by
 have:=R.3 d o hd
 rewrite [beq_eq_false_iff_ne]
 rintro rfl;unfold uJ at hs;rw [this] at hs;injection hs
theorem DE (hs:uJ c.K=ai) (ha:H a=ae (cj Y es)) (nd:(es.map (λx=>x.1)).Nodup) (h:Q (iO es k).isSome H):dG c n .In (Y.av k) (.ref a) H Q X:=λA s v u C y1 y2=>by
 have y2:=y2;show aa y2<|cR (qP (C.1.6 a _ ha) nd) λbJ D e1 vs=>up<|wpAny_in_of (Y.qo y1) (Cr C.1 hs ha) D.mapOf (ao H (.tok C.1 _) (ao _ rfl (aa ((Dh e1 vs).1) h)))
theorem HF (hs:uJ c.K=ai) (ha:H a=ae (cj Y es)) (nd:(es.map (λx=>x.1)).Nodup) (h:Q (!(iO es k).isSome) H):dG c n .NotIn (Y.av k) (.ref a) H Q X:=λA s v u C y1 y2=>by
 have y2:=y2;show aa y2<|cR (qP (C.1.6 a _ ha) nd) λbJ D e1 vs=>up<|wpAny_notIn_of (Y.qo y1) (Cr C.1 hs ha) D.mapOf (ao H (.tok C.1 _) (ao _ rfl (aa ((Dh e1 vs).1) h)))
theorem Qd (ha:H a=ae (cj Y es)) (nd:(es.map (λx=>x.1)).Nodup) (hg:iO es k=ae av) (h:Q av H):rG c n (.ref a) (Y.av k) H Q X:=λA s v u C y1 y2=>by
 have y1:=y1;show aa y1<|cR (qP (C.1.6 a _ ha) nd) λbJ D e1 vs=>aA ((Dh e1 vs).2 av hg) λw hw yw=>(cI ("dict") _ slot_dict_getitem.lookup D.typeIs (wpAny_getItem_of (Y.qo y2) D.mapOf hw (ao H (.tok C.1 _) (ao av yw h))))
theorem GW:∀C dx ks vs,cj Y es≠.inst C dx ks vs:=λJ J J J q=>by injection q
theorem DY (R:cN c H s.heap) (ha:H a=ae (cj Y es)) (D:h'.DictOf Y.knd a bJ) (sb:iZ a s.heap h')
  (e1:bJ.map (λx=>x.1)=es'.map (λx=>x.1)) (vs:Vs H s.heap (es'.map (λx=>x.2)) (bJ.map (λx=>x.2))):SR c bL H s (H.set a (cj Y es')) {s with heap:=h',toks:=t}:=
 .upd R ha (λb nb=>sb.2 b nb) GW (λq=>by injection q) GW (aaS D e1 (aZ.mono (λb o f e q1 q2=>⟨f,(sb.2 b (λw=>f (.inl (by show aa w<|aa ha ?_;simp)))).trans e⟩) _ _ vs))
theorem uW (ha:H a=ae (cj Y es)) (nd:(es.map (λx=>x.1)).Nodup) (hz:es.length<=bY) (h:Q (H.set a (cj Y (jh es k av)))):C4 c n (.ref a) (Y.av k) av H Q X:=λA s v w u C y1 y2 y3=>by
 have y1:=y1;show aa y1<|cR (qP (C.1.6 a _ ha) nd) λbJ D e1 vs=>?_
 have hl:bJ.length=es.length:=by have:=bD mj e1;simpa using this
 show up<|wpAny_setItem_pairs (Y.qo y2) D (λh' D' sb=>?_) (aa hl hz)
 show aM (SN y3 e1 vs) λz1 z2=>(ao _ (DY C.1 ha D' sb z1 z2) h)
theorem Hu (hs:uJ c.K=ai) (ha:H a=ae (cj Y es)) (nd:(es.map (λx=>x.1)).Nodup) (hz:(es.length:aq) < 2 ^ 63) (h:Q (.int (es.length:aq)) H):bq c n (.builtin "len") [.ref a] H Q X:=jv λA s v C y=>by
 have y:=y;show aa y<|cR (qP (C.1.6 a _ ha) nd) λbJ D e1 vs=>?_
 have hl:bJ.length=es.length:=by have:=bD mj e1;simpa using this
 show up<|call_len_dict (Cr C.1 hs ha) D (aa hl hz) (aa hl ((ao H (.tok C.1 _) (ao (.int _) ⟨_,rfl⟩ h))))
theorem Rr (R:cN c H s.heap):SR c bL H s (H.set s.heap.objs.size (cj Y [])) {s with heap:=s.heap.push {cls:= .type "dict",data:= .dict #[]},toks:=t}:=
 .alloc R (fv _) eE GW λJ=>(cI (#[]) 0 (fG _ rfl) trivial .nil)
end
end
section
noncomputable def sy {K:Type} [ji K] (es:ah (K×AV)) (k:K):ah (K×AV):=es.filter λp=>decide (p.1≠k)
theorem ê {K:Type} [ji K] {k:K}:∀{es:ah (K×AV)} {bJ:ah (K×aI)},bJ.map (λx=>x.1)=es.map (λx=>x.1)->aZ P h (es.map (λx=>x.2)) (bJ.map (λx=>x.2))->
  (FK bJ k).map (λx=>x.1)=(sy es k).map (λx=>x.1)/\aZ P h ((sy es k).map (λx=>x.2)) ((FK bJ k).map (λx=>x.2)):=λ{es bJ}=>HU (M:=λes bJ=>(FK bJ k).map (λx=>x.1)=(sy es k).map (λx=>x.1)/\aZ P h ((sy es k).map (λx=>x.2)) ((FK bJ k).map (λx=>x.2))) ⟨rfl,.nil⟩ λk' a v es bJ y1 ih=>by
 unfold FK sy at*;show aa vO<|aa vO ?_
 by_cases q:k'=k
 ·simp only [q,ne_eq,not_true_eq_false,decide_false,Fu,rZ];show ih
 ·simp only [q,ne_eq,not_false_eq_true,decide_true,Vd,dX];show ⟨bD _ ih.1,.cons y1 ih.2⟩
section
variable {c:Cx} {n:ar} {sc:bA} {ρ:ah (ak×AV)} {H:aj} {X:AX->aj->Prop} {K:Type} [ji K] {Y:KY c K}
theorem Ŵ (ha:H a=ae (.dict es)):lp c n ("pop":eT) (.ref a) H (.builtin "dict.pop") [.ref a]:=λA s v pl Q E C y h=>by
 have y:=y;show aa y<|d8 (C.1.6 a _ ha) λxs m g r=>?_
 have k:=h [dp a] s.toks (.cons rfl .nil);have hn:∀b,dp a= .ref b->∃o,s.heap.get? b=ae o/\o.dict=none:=λb e=>(ao _ (by injection e with ct;subst ct;show g) rfl);have hT:s.TypeIs (.ref a) "dict":=(ao _ g rfl)
 with_reducible show VD hT PySem.F.plainAttrs_dict aiR PySem.F.type_dict_pop hn k
theorem RM (ha:H a=ae (cj Y es)) (nd:(es.map (λx=>x.1)).Nodup) (hz:es.length<=bY) (hkp:∀u,Y.knd.is k u=ai->(keyPart u).isSome=ai) (hg:iO es k=ae av)
  (h:Q av (H.set a (cj Y (sy es k)))):bq c n (.builtin "dict.pop") [.ref a,Y.av k] H Q X:=pg λA s v u C y1 y2=>by
 have y1:=y1;show aa y1<|cR (qP (C.1.6 a _ ha) nd) λbJ D e1 vs=>?_
 have hl:bJ.length=es.length:=by have:=bD mj e1;simpa using this
 show aA ((Dh e1 vs).2 av hg) λw hw yw=>up<|call_meetsIn aiR D.typeIs PySem.F.entry_dict_pop (PySem.F.args_dict_pop_2 _ _) (meets_dict_pop_there Y.knd a (Y.qo y2) [] (.inl rfl) (hkp _ (Y.qo y2))) (s8 bJ w D (aa hl hz) hw (λh' D' sb=>?_))
 show aM (ê (k:=k) e1 vs) λz1 z2=>?_;have S:=DY (t:=s.toks+1) C.1 ha D' sb z1 z2;show (ao _ S (ao av ?_ h));have:=V.keep yw S.5;show this
end
end
section
section
variable {c:Cx} {n:ar} {sc:bA} {ρ:ah (ak×AV)} {H:aj} {X:AX->aj->Prop} {K:Type} [ji K]
theorem Zn (Y:KY c K) (h:∀d,H d=none->Q (.ref d) (H.set d (cj Y []))):WE c n sc (.Dict [] [] pos) ρ H Q X:=λA env s C=>by
 show up (wpAny_Dict_empty ?_);show (ao _ (Rr C.1.1) (ao (.ref _) rfl (h _ (C.1.1.nq (fv _)))))
theorem aeh (kk vv:cC aI):dictDisplay [(ae kk,vv)]=(do let d <-subDict [(kk,vv)];pure (.ref d)):=dictDisplay_pairs [(kk,vv)] (Ut _ _) (show 1 < 17 by decide)
theorem WM (Y:KY c K)
  (h:∀d,H d=none->WE c n sc k ρ (H.set d (cj Y [])) (λa aw=>∃key,a=Y.av key/\WE c n sc v ρ aw (λb aG=>aG d=ae (cj Y [])/\Q (.ref d) (aG.set d (cj Y [(key,b)]))) X) X):WE c n sc (.Dict [ae k] [v] pos) ρ H Q X:=λA env s C=>by
 have S0:=Rr (Y:=Y) (t:=s.toks) C.1.1;have C0:=C.keep S0
 rewrite [arm_eval_Dict]
 show dF<|(?_:aE _ _ (dictDisplay [(ae (bX k env),(do let x <-bX v env;me pos;pure x:cC aI))]) _ _ _)
 rewrite [aeh]
 show aS<|aS (up (KI (aS (cE ?_))))
 show ri (λJ=>?_) λw=>cy (show 1<=15 by decide) w;show aS (adQ (XW.step S0 (h _ (C.1.1.nq (fv _)) A env _ C0) λa aw aC aX cU x'=>aA x' λav y gA=>aA gA λkey e q=>?_));subst e;show aS (XW.step cU (q A env aC (C0.keep aX)) λb aG aL bh da x'=>cR x' λbv y2 hd q2=>dF (bw (up (evalPairs_nil (cE (aS (up ?_)))))));show cR (qP (bh.4.6 _ _ hd) (by simp)) λbJ D e1 vs=>?_;have e0:bJ=[]:=by simpa using e1
 subst e0;show wpAny_storeAll [(a,b)] [(key,b)] [] aL _ (aP (Y.qo (VR.mono (P':=Fz aw) (h':=aC.heap) (λb o p e J J=>⟨p,e⟩) _ _ y)) rfl trivial) D (show 1<=bY by decide) λh' D' sb=>bw (bw (bw ?_));have:=DY (es':=[(key,bv)]) (t:=aL.toks+1) bh.4 hd D' sb rfl (.cons y2 .nil);show (ao _ (da.trans this) (ao (.ref _) rfl q2))
end
end
section
theorem abg {id:eT} (hc:uV.contains id=au):Builtin.Bytes.decodersThatHold.contains id=au:=by
 rw [Bool.eq_false_iff] at hc ⊢;intro q;show hc ?_;rw [aiS] at q ⊢;show iy _ q
theorem ac8 (hf:∀c p,vn c=au->f (c,p)=au) {l:ah (AM×fU)} (h:wR l):l.any f=au:=by
 induction l with
 |nil=>rfl
 |cons a l ih=>show aa UL (aa (hf a.1 a.2 (h _ (.head _))) (ih λx hx=>h x (.tail _ hx)))
theorem dn {α:Type} {c:Prop} [vp c] {t:c->α} {e:¬c->α} {x:α} (h:¬c) (k:e h=x):dite c t e=x:=(dif_neg h).trans k
theorem zc {id s:eT} (hs:uV.contains s=ai) (hc:uV.contains id=au):¬id=s:=λe=>by
 subst e;injection (hs).symm.trans hc
theorem MR (h:Q au s):aE M A (aiT v) Q E s:=λΓ p gf d b=>by
 show (?_:Q (List.any ((Γ.code,p)::Γ.below) _) s)
 rewrite [ac8 (λc p hc=>?_) (b.cons d)]
 ·show h
 ·rcases c with _|⟨id,pos,kw⟩|_|_|_|_|_|_|_|_|_|_|_ <;> try rfl
  have h1:=zc (s:="bytearray.__contains__") ⋯ hc;have h2:=zc (s:="bytearray.__mod__") ⋯ hc;have h3:=zc (s:="bytearray.__rmod__") ⋯ hc;have h4:=zc (s:="_struct.pack_into.held") ⋯ hc;have h5:=zc (s:="bytearray.find.held") ⋯ hc
  delta akJ
  show dn h1<|dn h2<|dn h3<|dn h4<|dn h5 ?_
  induction pos using c6 with
  |nil=>rfl
  |cons a l=>show (bD (λx=>akK a v && x) (abg hc)).trans (KA _)
theorem TN (g:s.heap.get? a=ae ⟨.type "bytearray",none,.bytearray b 0,#[]⟩) (h:Q () s):aE M A (aiU (.ref a)) Q E s:=by
 show aS ?_;show aS (MR ?_);show aS (aS (up (rV g (bw (bw ?_)))));show bw h
theorem Jo (g:s.heap.get? a=ae ⟨.type "bytearray",none,.bytearray b 0,#[]⟩) (hz:(f b).size<=bY)
  (h:∀h',h'.get? a=ae ⟨.type "bytearray",none,.bytearray (f b) 0,#[]⟩->(∀x,x≠a->h'.get? x=s.heap.get? x)->Q () {s with heap:=h'}):a_ M A (Lq (.ref a) f) Q E s:=by
 show aJ (rV g ?_);have g2:(s.heap.update a (aiV f)).get? a=ae ⟨.type "bytearray",none,.bytearray (f b) 0,#[]⟩:=jK (aiV f) g rfl;show aJ (UY g (ais g2 ?_ (h _ g2 λx n=>gP _ _ (bI n))));show (?_:(if (f b).size > bY then ae "bytearray:memory" else none)=none);exists bo (Nat.not_lt.mpr hz);rfl
theorem Z7:PlainAttrs "bytearray":=⟨(ao ("bytearray.__getattribute__") (by rewrite [lG];exists lH;kernel_rfl) (by decide+kernel)),by rewrite [lG];exists lH;kernel_rfl⟩
theorem P0:Slot "bytearray" "append" "bytearray.append":=
 .of (owner:="bytearray") (n:="append") (by rewrite [lG];exists lH;kernel_rfl) (by decide+kernel) (by decide+kernel) (by decide+kernel)
  (by first|show .inl (by decide+kernel)|show .inr (by decide+kernel)) (by rewrite [Bh];kernel_rfl)
theorem RL:Slot "bytearray" "extend" "bytearray.extend":=
 .of (owner:="bytearray") (n:="extend") (by rewrite [lG];exists lH;kernel_rfl) (by decide+kernel) (by decide+kernel) (by decide+kernel)
  (by first|show .inl (by decide+kernel)|show .inr (by decide+kernel)) (by rewrite [Bh];kernel_rfl)
theorem acY:tM (.builtin "bytearray.append")=pure (.type "method_descriptor"):=by ext
theorem XG:tM (.builtin "bytearray.extend")=pure (.type "method_descriptor"):=by ext
theorem aeX:rX pF "bytearray.append"=ae Builtin.«bytearray.append»:=FL (by ext)
theorem aaR:rX pF "bytearray.extend"=ae Builtin.«bytearray.extend»:=FL (by ext)
theorem Xa (a b:aI):Bj "bytearray.append" ⟨[a,b],[]⟩:=by ext
theorem þ (a b:aI):Bj "bytearray.extend" ⟨[a,b],[]⟩:=by ext
section
variable {c:Cx} {n:ar} {sc:bA} {ρ:ah (ak×AV)} {H:aj} {X:AX->aj->Prop}
theorem Pt {a:aF} {b:ah b_} {name:ak} {id:eT} (slot:Slot "bytearray" name id) (GQ:tM (.builtin id)=pure (.type "method_descriptor")) (ha:H a=ae (.barr b)):lp c n name (.ref a) H (.builtin id) [.ref a]:=λA s v pl Q E C y h=>by
 have y:v= .ref a:=y;exists y;have g:s.heap.get? a=_:=C.1.6 a _ ha;have k:=h [dp a] s.toks (.cons rfl .nil);have hn:∀b,dp a= .ref b->∃o,s.heap.get? b=ae o/\o.dict=none:=λb e=>(ao _ (by injection e with ct;subst ct;show g) rfl);have hT:s.TypeIs (.ref a) "bytearray":=(ao _ g rfl)
 with_reducible show VD (T:="bytearray") hT Z7 slot GQ hn k
theorem SR.ba (R:cN c H s.heap) (ha:H a=ae (.barr b)) (g:h'.get? a=ae ⟨.type "bytearray",none,.bytearray b'.toArray 0,#[]⟩) (k:∀x,x≠a->h'.get? x=s.heap.get? x):
  SR c bL H s (H.set a (.barr b')) {s with heap:=h',toks:=t}:= .upd R ha k (λJ J J J q=>by injection q) (λq=>by injection q) (λJ J J J q=>by injection q) g
theorem G0 {M:qC} {prog:rU} {w:bQ} {A:eX} {E:aI->aU->Prop} {s:aU} {T:eT} {name:ak} {id:eT} {B:Builtin} {self:aI} {rest:ah aI} {Q:aI->aU->Prop} (slot:Slot T name id) (hd:uV.contains id=au) (hT:s.TypeIs self T)
  (entry:rX pF id=ae B) (args:Bj id ⟨self::rest,[]⟩) (h:aE (bB prog w) A.in1 (B ⟨self::rest,[]⟩) (λfin s'=>∃v,fin= .done (.ret v)/\Q v s') E s):aE (bB prog w) A (gN (.builtin id) (self::rest)) Q E s:=by
 show wM (Iz (yt slot.plain _) (up (slot.check _ _ _ _ _ _ _ _ hT args ?_)));show BG hd entry ?_
 rewrite [aiW slot.plain]
 show cq h (λfin s' x'=>aA x' λv e q=>?_) λJ J z=>z;exists e;show q
theorem Px {a:aF} {b:ah b_} {i:aq} {Q:AV->aj->Prop} (ha:H a=ae (.barr b)) (h0:0<=i) (h1:i < 256) (hz:b.length < bY) (h:Q .none (H.set a (.barr (b++[i.toNat.toUInt8])))):bq c n (.builtin "bytearray.append") [.ref a,.int i] H Q X:=pg λA s v u C y e=>by
 have y:v= .ref a:=y;exists y;show bj e ?_;intro t bC;exists bC;have g:s.heap.get? a=ae ⟨.type "bytearray",none,.bytearray b.toArray 0,#[]⟩:=C.1.6 a _ ha;show G0 (M:=c.M) P0 (by decide+kernel) (ao _ g rfl) aeX (Xa _ _)<|aS (bw (a:=(dp a,r8 i t)) ?_)
 show aS (m:=akL (.int i t))<|aS (bw (a:=i) ?_)
 exists bo (by simp only [A5,vY];lia);show bw (aS (TN g (aS (up (Jo g ?_ λh' g' k=>bw (ao _ rfl ?_))))))
 ·rewrite [aiX];show hz
 ·show (ao _ (SR.ba (t:=s.toks) C.1 ha (b':=b++[i.toNat.toUInt8]) (by simpa using g') k) (ao .none rfl h))
end
end
section
theorem wI:tL (.type "bytes") "__buffer__"=pure (ae (.builtin "bytes.__buffer__")):=by rewrite [lG];exists lH;kernel_rfl
theorem W8:tL (.type "bytes") "__release_buffer__"=pure none:=by rewrite [lG];exists lH;kernel_rfl
theorem ac6:("bytes.__buffer__".endsWith ("."++"__buffer__"))=ai:=by decide+kernel
theorem YV:"bytes.__buffer__".dropRight ("__buffer__".length+1)="bytes":=by decide+kernel
theorem Ρ:K_ (.type "bytes") (.type "bytes")=pure ai:=by rewrite [Bh];kernel_rfl
section
variable {M:qC} {A:eX} {E:aI->aU->Prop} {s:aU}
theorem NC (h:Q ai s):a_ M A (aiY (.bytes x t) "__buffer__") Q E s:=by
 show aJ (kY (kD _ _ _) wI ?_);dsimp only;show aa ac6<|aa YV<|wpAny_isInstance (kD _ _ _) Ρ h
theorem aeG (h:Q au s):a_ M A (aiZ (.bytes x t)) Q E s:=aJ (aJ (kY (kD _ _ _) W8 (bg (bg h))))
theorem acO {id:eT} (h:Q (ae x) s):a_ M A (Lr id (.bytes x t) full) Q E s:=by
 show aJ (kY (kD _ _ _) wI ?_);show aJ (NC ?_);show aJ (kY (kD _ _ _) wI ?_);show aJ (aeG ?_);show aJ (aJ (bg (bg (bg h))))
theorem Mr {id:eT} (h:Q (ae (x,none)) s):a_ M A (ai0 id (.bytes x t) 0) Q E s:=by
 show aJ (A9 ?_);show aJ (kY (kD _ _ _) wI ?_);show aJ (NC ?_);show aJ (kY (kD _ _ _) wI ?_);show aJ (acO (bg (bg h)))
end
section
variable {c:Cx} {n:ar} {sc:bA} {ρ:ah (ak×AV)} {H:aj} {X:AX->aj->Prop}
theorem š (ha:H a=ae (.barr b)) (hz:b.length+x.length<=bY) (h:Q .none (H.set a (.barr (b++x)))):bq c n (.builtin "bytearray.extend") [.ref a,.bytes x] H Q X:=pg λA s v u C y e=>by
 have y:=y;show aa y<|V.oW e λt=>?_
 have g:=C.1.6 a _ ha;show G0 (M:=c.M) RL (by decide+kernel) (ao _ g rfl) aaR (þ _ _)<|aS (bw ?_)
 show aS (up (kY (kD _ _ _) wI ?_));show aS (up (mf ?_));show aS<|aS (aS (up (rV g (bw (bw ?_)))))
 show aS (up (Mr ?_));show ri (λJ=>?_) λw=>cy rfl w
 have fin:aE c.M A.in1 (do Lq (.ref a) (λy=>y++x.toArray);ret .none) (λfin s'=>∃v,fin= .done (.ret v)/\∃H',SR c bL H s H' s'/\∃av,V H' s'.heap av v/\Q av H') (EP c bL H s X) s:=by
  show aS (up (Jo g ?_ λh' g' k=>bw (ao _ rfl ?_)))
  ·show aa ai1<|hz
  ·show (ao _ (SR.ba C.1 ha (b':=b++x) (by simpa using g') k) (ao .none rfl h))
 show (?_:aE _ _ (if (!x.toArray.isEmpty)=ai then (do aiU (.ref a);Lq (.ref a) (λy=>y++x.toArray);ret .none) else (do Lq (.ref a) (λy=>y++x.toArray);ret .none)) _ _ _);split
 ·show aS (TN g fin)
 ·show fin
end
end
section
theorem ahh (ft:TypeCalled T newId initId)
  (hct:ai2 T ⟨args,[]⟩=pure ()) (hd:uV.contains initId=au) (aaf:rX pF initId=ae Bi)
  (IL:qG (bB prog w) A.in1 (.call (.builtin newId) ⟨.type T::args,[]⟩) (Bk Q₁ E) s)
  (Zo:∀obj aC,Q₁ obj aC->aC.TypeIs obj T/\Bj initId ⟨obj::args,[]⟩/\aE (bB prog w) A.in1.in1 (Bi ⟨obj::args,[]⟩) (λfin s'=>fin= .done (.ret .none)/\Q obj s') E aC):aE (bB prog w) A (gN (.type T) args) Q E s:=by
 show dP ft.mro λc tl ñ=>wM (lR rfl ?_);show bw ⟨AW _ (by decide+kernel),BG (by decide+kernel) PySem.F.entry_type_call ?_⟩;show aa (Around.under_plain (weight_type_call_type T args []) rfl)<|(?_:aE _ _ (Builtin.«type.__call__» ⟨.type T::args,[]⟩) _ _ _)
 show ri (λq=>cy q (by exists ft.notType;decide)) λJ=>?_;show ri (λq=>cy q (by exists ft.canCreate;decide)) λJ=>?_;show aS (xB hct (bw ?_));show aS (xB ñ (bw ?_));show ri (λq=>cy q (by simp)) λJ=>aS (xB ft.made (bw ?_));show aS (bw ?_);show aS (cE (up (AY (codeAny_mono IL λr aC hr=>?_))));cases r with
 |error e=>show hr
 |ok fl=>
  induction fl using vy with
  |ret obj=>
   show fP (Zo _ _ hr) λhT wU Wv=>aS (up (KQ hT ft.sub ?_));show bP (P:=λr s'=>r=ae .none/\Q obj s') (cE ?_) λr s' x'=>aM x' λe z=>?_
   ·unfold callSpecial?;show aS (up (kY hT ft.init.lookup ?_));show cE (aS (xB (ft.init.bind obj) (bw ?_)));show aS (wM (Iz (yt ft.init.plain _) (up (ft.init.check _ _ _ _ _ _ _ _ hT wU ?_))));show BG hd aaf ?_
    rewrite [aiW ft.init.plain]
    show cq Wv (λfin s' x'=>aM x' λe q=>?_) λJ J z=>z;show aa e<|bw ⟨rfl,q⟩
   ·show aa e<|bw z
  |_=>show hr.elim
theorem NH:mroOf (.type "bytearray")=pure [.type "bytearray",.type "object"]:=by rewrite [mroOf_type];kernel_rfl
theorem Zb:tL (.type "bytearray") "__new__"=pure (ae (.builtin "bytearray.__new__")):=by rewrite [lG];exists lH;kernel_rfl
theorem Ŀ:Slot "bytearray" "__init__" "bytearray.__init__":=
 .of (owner:="bytearray") (n:="__init__") (by rewrite [lG];exists lH;kernel_rfl) (by decide+kernel) (by decide+kernel) (by decide+kernel)
  (by first|show .inl (by decide+kernel)|show .inr (by decide+kernel)) (by rewrite [Bh];kernel_rfl)
theorem Dz:K_ (.type "bytearray") (.type "bytearray")=pure ai:=by rewrite [Bh];kernel_rfl
theorem acr:TypeCalled "bytearray" "bytearray.__new__" "bytearray.__init__":=
 ⟨by decide+kernel,by decide+kernel,(jF _ _ NH),madeBy_type NH Zb (by decide+kernel),by decide+kernel,Dz,Ŀ⟩
theorem agK:ai2 "bytearray" ⟨[],[]⟩=pure ():=by ext
theorem adJ:qF "bytearray.__new__" ⟨[.type "bytearray"],[]⟩=pure ():=by ext
theorem adG:rX pF "bytearray.__new__"=ae Builtin.«list.__new__»:=by first|show entryFor_alias (by ext) (by decide+kernel) rfl (by ext)|show FL (by ext)|kernel_rfl
theorem afn:plainId "bytearray.__new__"=ai:=by decide+kernel
set_option maxHeartbeats 4000000 in
theorem WZ:("bytearray.__new__".splitOn ".__new__").headD ""="bytearray":=by simp+decide [String.splitOn,String.splitOnAux]
theorem ahB:rX pF "bytearray.__init__"=ae Builtin.«bytearray.__init__»:=FL (by ext)
theorem aa2 (a:aI):Bj "bytearray.__init__" ⟨[a],[]⟩:=by ext
theorem aay:akM "bytearray.__init__" "bytearray" ["source","encoding","errors"] [] []=pure [none,none,none]:=by ext
theorem adL:tL (.type "bytearray") "__release_buffer__"=pure (ae (.builtin "bytearray.__release_buffer__")):=by rewrite [lG];exists lH;kernel_rfl
theorem ŭ:("bytearray.__release_buffer__".endsWith ("."++"__release_buffer__"))=ai:=by decide+kernel
set_option linter.deprecated false in
theorem WW:"bytearray.__release_buffer__".dropRight ("__release_buffer__".length+1)="bytearray":=by decide+kernel
theorem acH (h:Q₁ (.ref s.heap.objs.size) {s with heap:=s.heap.push {cls:= .type "bytearray",data:= .bytearray #[]}}):
  qG (bB prog w) A (.call (.builtin "bytearray.__new__") ⟨[.type "bytearray"],[]⟩) (Bk Q₁ E) s:=by
 show KZ<|(?_:a_ _ A.in1 (do qF "bytearray.__new__" ⟨[.type "bytearray"],[]⟩;Kn (.builtin "bytearray.__new__" ⟨[.type "bytearray"],[]⟩)) _ _ s)
 show aJ (kW adJ (bg ⟨yt afn _,codeAny_builtin_stack adG rfl λp st=>?_⟩));dsimp only;show aa WZ<|wpAny_bind (bg ?_)
 show vW (λq=>cy q ⋯) λJ=>aJ (kW Dz ?_);show vW (λq=>cy q ⋯) λJ=>aJ (bg ?_);show vW (λJ=>?_) λq=>cy rfl q;show aJ (vw (bg h) (i0 _))
section
variable {c:Cx} {n:ar} {sc:bA} {ρ:ah (ak×AV)} {H:aj} {X:AX->aj->Prop}
theorem afP (R:cN c H s.heap):SR c bL H s (H.set s.heap.objs.size (.barr [])) {s with heap:=s.heap.push {cls:= .type "bytearray",data:= .bytearray #[]}}:=
 .alloc R (fv _) eE (λJ J J J q=>by injection q) λJ=>fG _ rfl
theorem Ql (g:s.heap.get? a=ae ⟨.type "bytearray",none,.bytearray b 0,#[]⟩) (h:Q au s):a_ M A (aiZ (.ref a)) Q E s:=by
 show aJ (aJ (kY (ao _ g rfl) adL ?_));dsimp only;show aa ŭ<|aa WW<|wpAny_isInstance (ao _ g rfl) Dz (bg h)
theorem ab5 (g:s.heap.get? a=ae ⟨.type "bytearray",none,.bytearray b 0,#[]⟩) (h:Q au s):aE M A (aiT (.ref a)<||>do return (<-akN (.ref a)) > 0) Q E s:=by
 show aS (MR ?_);show aS (aS (up (rV g (bw (bw h)))))
theorem QA (h:∀a,H a=none->Q (.ref a) (H.set a (.barr []))):bq c n (.type "bytearray") [] H Q X:=λA s vs C y=>by
 have y:=y;exists y;have S:=afP C.1;show ahh acr agK (by decide+kernel) ahB (acH (Q₁:=λv s'=>v= .ref s.heap.objs.size/\s'={s with heap:=s.heap.push {cls:= .type "bytearray",data:= .bytearray #[]}}) ⟨rfl,rfl⟩) ?_;rintro _ _ ⟨rfl,rfl⟩;have g:(s.heap.push {cls:= .type "bytearray",data:= .bytearray #[]}).get? s.heap.objs.size=ae ⟨.type "bytearray",none,.bytearray #[] 0,#[]⟩:=fG _ rfl;have hT:({s with heap:=s.heap.push {cls:= .type "bytearray",data:= .bytearray #[]}}:aU).TypeIs (.ref s.heap.objs.size) "bytearray":=(ao _ g rfl);show (aP hT (aa2 _) ?_);show aS (up (Ql g ?_));show ri (λq=>cy q ⋯) λJ=>aS (xB aay (bw ?_));show aS (bw ?_);show aS (bw ?_);show aS (ab5 g ?_);show ri (λq=>cy q ⋯) λJ=>aS (up (Jo g ⋯ λh' g' k=>?_));show bw ⟨rfl,?_⟩;have S2:=SR.ba (b:=[]) (b':=[]) (t:=s.toks) S.4 (by simp) g' k;rw [cV] at S2;show (ao _ (S.trans S2) (ao (.ref _) rfl (h _ (C.1.nq (fv _)))))
end
end
section
set_option linter.deprecated false
theorem Xn:tL (.type "bytes") "__bytes__"=pure (ae (.builtin "bytes.__bytes__")):=by rewrite [lG];exists lH;kernel_rfl
theorem aai:tL (.type "bytearray") "__bytes__"=pure none:=by rewrite [lG];exists lH;kernel_rfl
theorem W0:tL (.type "bytearray") "__index__"=pure none:=by rewrite [lG];exists lH;kernel_rfl
theorem Il:tL (.type "bytearray") "__buffer__"=pure (ae (.builtin "bytearray.__buffer__")):=by rewrite [lG];exists lH;kernel_rfl
theorem Ň:("bytearray.__buffer__".endsWith ("."++"__buffer__"))=ai:=by decide+kernel
theorem ZR:"bytearray.__buffer__".dropRight ("__buffer__".length+1)="bytearray":=by decide+kernel
section
variable {prog:rU} {w:bQ} {M:qC} {A:eX} {E:aI->aU->Prop} {s:aU}
theorem ŋ (g:s.heap.get? a=ae ⟨.type "bytearray",none,.bytearray b 0,#[]⟩) (h:Q ai s):a_ M A (aiY (.ref a) "__buffer__") Q E s:=by
 show aJ (kY (ao _ g rfl) Il ?_);dsimp only;show aa Ň<|aa ZR<|wpAny_isInstance (ao _ g rfl) Dz h
theorem û {id:eT} (g:s.heap.get? a=ae ⟨.type "bytearray",none,.bytearray b 0,#[]⟩) (h:Q (ae b) s):a_ M A (Lr id (.ref a) full) Q E s:=by
 show aJ (kY (ao _ g rfl) Il ?_);show aJ (ŋ g ?_);show aJ (kY (ao _ g rfl) Il ?_);show aJ (Ql g ?_);show aJ (aJ (aJ (rV g (bg (bg (bg h))))))
theorem aeR (h:Q (.bytes x t) s):qG (bB prog w) A (.call (.builtin "bytes.__new__") ⟨[.type "bytes",.bytes x t],[]⟩) (Bk Q E) s:=by
 show KZ<|(?_:a_ _ A.in1 (do qF "bytes.__new__" ⟨[.type "bytes",.bytes x t],[]⟩;Kn (.builtin "bytes.__new__" ⟨[.type "bytes",.bytes x t],[]⟩)) _ _ s)
 show aJ (kW (ai3 _) (bg ⟨yt ai4 _,KO ai5 ?_⟩));show aJ (kW rfl ?_);show yz rfl<|wpAny_bind (kW ai6 ?_)
 show yz rfl<|wpAny_bind (kW (ai7 _) ?_)
 show aJ (kW rfl ?_);show aJ (kW rfl ?_);show yz rfl<|wpAny_bind (kY (kD _ _ _) Xn ?_)
 show aJ (mf ?_);show aJ (Bf (kD _ _ _) ?_);show FN ⋯ ?_;show FN ⋯ ?_;first|show bg h|show aJ (bg (bg h))
theorem ň (g:s.heap.get? a=ae ⟨.type "bytearray",none,.bytearray b 0,#[]⟩) (hz:b.size<=bY) (h:Q (.bytes b s.toks) {s with toks:=s.toks+1}):
  qG (bB prog w) A (.call (.builtin "bytes.__new__") ⟨[.type "bytes",.ref a],[]⟩) (Bk Q E) s:=by
 show KZ<|(?_:a_ _ A.in1 (do qF "bytes.__new__" ⟨[.type "bytes",.ref a],[]⟩;Kn (.builtin "bytes.__new__" ⟨[.type "bytes",.ref a],[]⟩)) _ _ s)
 show aJ (kW (ai3 _) (bg ⟨yt ai4 _,KO ai5 ?_⟩));have hT:s.TypeIs (.ref a) "bytearray":=(ao _ g rfl);show aJ (kW rfl ?_);show yz rfl<|wpAny_bind (kW ai6 ?_)
 show yz rfl<|wpAny_bind (kW (ai7 _) ?_)
 show aJ (kW rfl ?_);show aJ (kW rfl ?_);show yz rfl<|wpAny_bind (kY hT aai ?_)
 show aJ (aJ ?_);show aJ (rV g ?_);show bg (bg ?_);show yz rfl<|wpAny_bind (kY hT W0 ?_)
 show FN rfl ?_
 first
  |show (?_:a_ _ _ (Lr "bytes.__new__" (.ref a) ai >>=_) _ _ _)
  |(show aJ ?_;show a_ _ _ (Lr "bytes.__new__" (.ref a) ai >>=_) _ _ _)
 show aJ (û g ?_);show aJ (mf ?_);show aJ (ai8 ?_ hz)
 first
  |(show FN ⋯ ?_
    first|show bg h|show aJ (bg (bg h))|show bg (bg h)|show bg (bg (bg h)))
  |(show aJ ?_
    show FN ⋯ ?_;first|show bg h|show aJ (bg (bg h))|show bg (bg h)|show bg (bg (bg h)))
end
section
variable {c:Cx} {n:ar} {sc:bA} {ρ:ah (ak×AV)} {H:aj} {X:AX->aj->Prop}
theorem Qs (IL:qG (bB c.prog c.w) A.in1 (.call (.builtin "bytes.__new__") ⟨[.type "bytes",x],[]⟩) (Bk Q₁ E) s)
  (h:∀v s',Q₁ v s'->s'.TypeIs v "bytes"/\Q v s'):a_ c.M A (gN (.type "bytes") [x]) Q E s:=by
 show VE (Q₁:=λobj aC=>aC.TypeIs obj "bytes"/\Q obj aC) PySem.F.bm_called (PySem.F.bm_typeCall _) PySem.F.entry_object_init (codeAny_mono IL λr s' z=>?_) λobj aC bf=>?_
 ·rcases r with e|(v|_|_|_) <;> first|show h _ _ z|show z
 ·show (aP bf.1 (PySem.F.args_object_init_2 obj _) (ai9 PySem.F.bm_called.init.lookup PySem.F.bm_called.made ⋯ c.prog c.w A.in1 _ aC (aP bf.1 rfl bf.2)))
theorem CC (h:Q (.bytes x) H):bq c n (.type "bytes") [.bytes x] H Q X:=jv λA s v C x'=>bj x' λt e=>aa e<|up (Qs (Q₁:=λv s'=>v= .bytes x.toArray t/\s'=s) (aeR ⟨rfl,rfl⟩) λv s' x'=>aM x' λe1 e2=>by exists e1;exists e2;show ⟨kD _ _ _,H,.refl C.1,.bytes x,⟨_,rfl⟩,h⟩)
theorem OX (ha:H a=ae (.barr x)) (hz:x.length<=bY) (h:Q (.bytes x) H):bq c n (.type "bytes") [.ref a] H Q X:=jv λA s v C e=>by
 have e:=e;exists e;have g:=C.1.6 a _ ha;show up (Qs (Q₁:=λv s'=>v= .bytes x.toArray s.toks/\s'={s with toks:=s.toks+1}) (ň g hz ⟨rfl,rfl⟩) λv s' x'=>aM x' λe1 e2=>by exists e1;exists e2;show ⟨kD _ _ _,H,.tok C.1 _,.bytes x,⟨_,rfl⟩,h⟩)
theorem Nj {ns:ah aq} (c8:c.qt=ai) (ha:gm H a (ns.map .int)) (hr:∀n∈ns,0<=n/\n < 256) (hz:ns.length<=bY) (h:Q (.bytes (ns.map λn=>n.toNat.toUInt8)) H):bq c n (.type "bytes") [a] H Q X:=jv λA s v C y=>by
 show fM (ha.at C.1 y) λx xs m bC g r=>aa bC ?_;have hi:=aZ.ints r;show up (call_bytes_ints (bV _ g rfl (dM m rfl)) hi hr (aa hi.length hz) (C.5 c8) λh' t k kk=>?_);show (ao H (.grow C.1 kk) (ao (.bytes _) ⟨t,rfl⟩ h))
end
end
section
set_option linter.deprecated false
theorem MJ:Slot "bytes" "join" "bytes.join":=
 .of (owner:="bytes") (n:="join") (by rewrite [lG];exists lH;kernel_rfl) (by decide+kernel) (by decide+kernel) (by decide+kernel)
  (by first|show .inl (by decide+kernel)|show .inr (by decide+kernel)) (by rewrite [Bh];kernel_rfl)
theorem abi:PlainAttrs "bytes":=⟨(ao ("bytes.__getattribute__") (by rewrite [lG];exists lH;kernel_rfl) (by decide+kernel)),by rewrite [lG];exists lH;kernel_rfl⟩
theorem afV:tM (.builtin "bytes.join")=pure (.type "method_descriptor"):=by ext
theorem Zt:rX pF "bytes.join"=ae Builtin.«bytes.join»:=FL (by ext)
theorem acm (a b:aI):Bj "bytes.join" ⟨[a,b],[]⟩:=by ext
theorem aaI {ps:ah (ah b_)} (x:aZ P h (ps.map .bytes) vs):∃ts:ah tW,ts.length=ps.length/\vs=(ps.zip ts).map λp=> .bytes p.1.toArray p.2:=by
 induction ps generalizing vs with
 |nil=>show ao [] rfl x
 |cons p ps ih=>show aZ.ui x λv r y z=>V.oW y λt=>aA (ih z) λts h1 h2=>ao (t::ts) (bD Nat.succ h1) (bD _ h2)
theorem ZC (ps:ah (dm b_)) (k:ar) (acc:dm b_):(ps.zipIdx k).foldl (λout (p,i)=>(if i > 0 then out++#[] else out)++p) acc=acc++(ps.map (λx=>x.toList)).flatten.toArray:=by
 induction ps generalizing k acc with
 |nil=>show (aja ..).symm
 |cons p ps ih=>
  show (ih (k+1) ((if k > 0 then acc++#[] else acc)++p)).trans<|aa (show (if k > 0 then acc++#[] else acc)=acc by by_cases q:k > 0;show (bN q).trans (aja ..);show bo q) ?_
  show (Array.append_assoc ..).trans (bD _ ?_);show ajb (by simp)
theorem adV (ps:ah (ah b_)) (k:ar):(ps.map Bd).foldl (λx1 x2=>x1+x2.size) k=k+ps.flatten.length:=by
 induction ps generalizing k with
 |nil=>rfl
 |cons p ps ih=>show (ih _).trans ((ix ..).trans (bD _ List.length_append.symm))
theorem Z_ (h:Q () s) (k:∀p∈l,p.2=none):a_ M A (akO l keep) Q E s:=by
 induction l with
 |nil=>show bg h
 |cons p r ih=>
  rcases p with ⟨x,w⟩
  have:w=none:=k _ (.head _);show aa this (aJ (K8 (ih λp hp=>k p (.tail _ hp))))
section
variable {c:Cx} {n:ar} {sc:bA} {ρ:ah (ak×AV)} {H:aj} {X:AX->aj->Prop}
theorem agH:lp c n ("join":eT) (.bytes b) H (.builtin "bytes.join") [.bytes b]:=λA s v pl Q E C y h=>by
 show bj y ?_;intro t eM;exists eM;have k:=h [ajc b.toArray t] s.toks (.cons ⟨t,rfl⟩ .nil);have hn:∀a,ajc b.toArray t= .ref a->∃o,s.heap.get? a=ae o/\o.dict=none:=λa e=>by injection e
 with_reducible show VD (kD _ _ _) abi MJ afV hn k
theorem ad7 (g:s.heap.get? x=ae ⟨.type "list",none,.seq xs m,#[]⟩) (h:Q (.ref x) s):a_ M A (ajd (.ref x)) Q E s:=by
 show aJ (Bf ⟨_,g,rfl⟩ ?_);show bg h
theorem ş {xs:dm aI} {ps:ah (ah b_)} (zJ:ts.length=ps.length) (wB:xs.toList=(ps.zip ts).map λp=> .bytes p.1.toArray p.2):∀i,i < ps.length->∃t',xs.getD i .none= .bytes (ps.getD i []).toArray t':=λi hi=>by
  show ⟨ts.getD i 0,?_⟩
  have e1:xs[i]?=ae (.bytes (ps.getD i []).toArray (ts.getD i 0)):=by
   exists (yo).symm;show aa wB<|aa (mi) ?_
   have:(ps.zip ts)[i]?=ae (ps.getD i [],ts.getD i 0):=by
    rewrite [List.getElem?_zip_eq_some]
    have zW:i < ts.length:=by lia
    simp [Vp,hi,zW]
   exists this;rfl
  simp [Array.getD_eq_getD_getElem?,e1]
noncomputable def bj0:{p:(Args->cC (aI×aI))×(aI×aI->cC Fin) // ∀args,Builtin.«bytes.join» args=p.1 args >>=p.2}:=⟨(_,_),λJ=>rfl⟩
noncomputable def NF:aI×aI->cC Fin:=bj0.1.2
noncomputable def WL (a q:aI):{f:aI->cC Fin // NF (a,q)=ajd q >>=f}:=⟨_,rfl⟩
noncomputable def P1 (a q:aI):aI->cC Fin:=(WL a q).1
noncomputable def bj2 (a q:aI):{f:aR (dm aI)->cC Fin // P1 a q q=E8 q >>=f}:=⟨_,rfl⟩
noncomputable def B3 (a q:aI):aR (dm aI)->cC Fin:=(bj2 a q).1
abbrev nR:=dm (dm b_)×ah (aI×aR aI)
noncomputable def OY (a q y1 y2:aI) (l:ah aI):{p:(ar->nR->cC (rY nR))×(nR->cC Fin) // B3 a q (ae ⟨y1::y2::l⟩)=forIn ([0:(⟨y1::y2::l⟩:dm aI).size]:VF) ((#[],[]):nR) p.1 >>=p.2}:=⟨(_,_),rfl⟩
section
variable {a q y1 y2:aI} {l:ah aI} {b:nR} {i:ar} {xs:dm aI} (a q y1 y2 l i b)
noncomputable def GU:ar->nR->cC (rY nR):=(OY a q y1 y2 l).1.1
noncomputable def HR:nR->cC Fin:=(OY a q y1 y2 l).1.2
noncomputable def Xk:{g:aR (dm aI)->cC (rY nR) // GU a q y1 y2 l i b=E8 q >>=g}:=⟨_,rfl⟩
noncomputable def YK:aR (dm aI)->cC (rY nR):=(Xk a q y1 y2 l i b).1
theorem afR {id:eT} (e:v= .bytes x t) (h:Q (ae (x,none)) s):a_ M A (ai0 id v 0) Q E s:=aa e<|Mr h
theorem adi {p:ah b_} (g:s.heap.get? x=ae ⟨.type "list",none,.seq ⟨y1::y2::l⟩ m,#[]⟩) (hi:(⟨y1::y2::l⟩:dm aI).getD i .none= .bytes p.toArray t')
  (ht:∀p∈b.2,p.2=none/\p.1.onHeap=au) (h:∀w:aI,w.onHeap=au->Q (.yield (b.1.push p.toArray,b.2++[(w,none)])) s):a_ M A (GU a (.ref x) y1 y2 l i b) Q E s:=by
 show (wF (f:=YK a (.ref x) y1 y2 l i b) g rfl ?_:);show Kf (λq=>?_) ?_
 ·rcases Bool.or_eq_true_iff.mp q with q|q
  ·injection q
  ·show aA (List.any_eq_true.mp q) λp hp q=>?_;injection ((ht p hp).2).symm.trans q
 ·show aJ (mY (afR hi ?_));show wF g rfl (Kf (by simp) (bg (h _ (by exists hi;rfl))))
theorem Te {ps:ah (ah b_)} (hp:b.1.toList=ps.map Bd) (ht:∀p∈b.2,p.2=none) (hz:ps.flatten.length<=bY)
  (h:∀t' tk,Q (.done (.ret (.bytes ps.flatten.toArray t'))) {s with toks:=tk}):a_ M A (HR (.bytes [].toArray t) q y1 y2 l b) Q E s:=by
 show aJ (bg ?_);show Kf (λq=>?_) ?_
 ·show cy (fi q) (Nat.not_lt.mpr (aK (iL ?_) hz))
  rewrite [<-Array.foldl_toList];exists hp;rewrite [adV]
  simp
 ·rw [show akP #[] b.1.toList=ps.flatten.toArray by
   show (?_:List.foldl _ _ _=_)
   rewrite [ZC];exists hp
   show ajb (by simp [Function.comp_def])]
  show aJ (ai8 ?_ hz);show aJ (mY (EY (aJ (Z_ (bg (h _ _)) ht))))
end
theorem aeb (h:k < n):n - k=(n - (k+1))+1:=(Nat.succ_pred_eq_of_pos (Nat.sub_pos_of_lt h)).symm
theorem aep {ps:ah (ah b_)} (g:s.heap.get? x=ae ⟨.type "list",none,.seq ⟨y1::y2::l⟩ m,#[]⟩) (item:∀i,i < ps.length->∃t',(⟨y1::y2::l⟩:dm aI).getD i .none= .bytes (ps.getD i []).toArray t')
  (hsz:(⟨y1::y2::l⟩:dm aI).size=ps.length) (hz:ps.flatten.length<=bY)
  (h:∀t' tk,Q (.done (.ret (.bytes ps.flatten.toArray t'))) {s with toks:=tk}):a_ M A (B3 (.bytes [].toArray t) (.ref x) (ae ⟨y1::y2::l⟩)) Q E s:=by
 show (?_:a_ M A (forIn ([0:(⟨y1::y2::l⟩:dm aI).size]:VF) ((#[],[]):nR) (GU (.bytes [].toArray t) (.ref x) y1 y2 l) >>=HR (.bytes [].toArray t) (.ref x) y1 y2 l) Q E s);show aJ ?_
 rewrite [aje];exists hsz
 simp only [akQ,Nat.sub_zero,Nat.add_sub_cancel,Nat.div_one];show lF (wpAny_forIn_list _ (λrest b s'=>s'=s/\∃i,rest=List.range' i (ps.length - i)/\i<=ps.length/\b.1.toList=(ps.take i).map Bd/\∀p∈b.2,p.2=none/\p.1.onHeap=au) (λb s'=>s'=s/\b.1.toList=ps.map Bd/\∀p∈b.2,p.2=none) ?_ ?_ _ _ ⟨rfl,0,rfl,i0 _,rfl,λp hp=>(by cases hp)⟩) (λb s' x'=>?_) λJ J z=>z
 ·show λi rest b s' y=>aM y λe y=>eO y λk hr hk hp ht=>aa e ?_
  have jO:k < ps.length:=by
   rcases KS k ps.length with q|q
   ·show q
   ·rw [Vt q] at hr;injection hr
  rw [aeb jO,List.range'_succ] at hr;injection hr with h1 h2
  show bj (item i (aa h1 jO)) λt' hi=>adi _ _ _ _ _ _ g hi ht λw hw=>⟨rfl,k+1,h2,jO,?_,λp hp=>?_⟩
  ·show aa ail<|aa hp<|aa List.take_add_one<|aa dz<|aa h1 ?_
   simp [Vp,jO]
  ·rcases List.mem_append.mp hp with q|q
   ·show ht p q
   ·show aa (List.mem_singleton.mp q)<|⟨rfl,hw⟩
 ·show λb s' y=>aM y λe y=>eO y λk hr hk hp ht=>⟨e,?_,λp hp=>(ht p hp).1⟩;have PR:=(bD mj hr).symm;rw [jL,List.length_range'] at PR;show aa hp<|aa (Bg hk (Nat.le_of_sub_eq_zero PR))<|aa Bl ?_;rfl
 ·show fP x' λe hp ht=>aa e<|Te _ _ _ _ _ hp ht hz h
theorem acp (h:∀t' tk,Q (.done (.ret (.bytes [].toArray t'))) {s with toks:=tk}):a_ M A (B3 (.bytes [].toArray t) q (ae ⟨[]⟩)) Q E s:=by
 show (?_:a_ M A (forIn ([0:0]:VF) ((#[],[]):nR) _ >>=HR (.bytes [].toArray t) q .none .none []) Q E s);show aJ ?_
 rewrite [aje]
 show bg (Te (ps:=[]) _ _ _ _ _ rfl (λp hp=>by cases hp) (i0 _) h)
theorem acN {ps:ah (ah b_)} (g:s.heap.get? x=ae ⟨.type "list",none,.seq xs m,#[]⟩) (zJ:ts.length=ps.length) (wB:xs.toList=(ps.zip ts).map λp=> .bytes p.1.toArray p.2) (hsz:xs.size=ps.length) (hz:ps.flatten.length<=bY)
  (h:∀t' tk,Q (.done (.ret (.bytes ps.flatten.toArray t'))) {s with toks:=tk}):a_ M A (Builtin.«bytes.join» ⟨[.bytes [].toArray t,.ref x],[]⟩) Q E s:=by
 show aJ (f:=NF) (bg ?_);show aJ (f:=P1 (.bytes [].toArray t) (.ref x)) (ad7 g ?_);show (wF (f:=B3 (.bytes [].toArray t) (.ref x)) g rfl ?_:);have item:=ş zJ wB;rcases xs with ⟨_|⟨y1,_|⟨y2,l⟩⟩⟩
 ·obtain rfl:ps=[]:=List.length_eq_zero_iff.mp hsz.symm;show acp h
 ·obtain ⟨p,rfl⟩:=List.length_eq_one_iff.mp hsz.symm;show bj (item 0 Nat.zero_lt_one) λt1 e=>?_;have e:y1= .bytes p.toArray t1:=e;have h:∀t' tk,Q (.done (.ret (.bytes p.toArray t'))) {s with toks:=tk}:=by simpa using h
  show aa e<|wpAny_bind (Bf (kD _ _ _) (aJ (mf (aJ (bg (bg (h t1 s.toks)))))))
 ·show aep g item hsz hz h
theorem P5 {ps:ah (ah b_)} (ha:gm H a (ps.map .bytes)) (hz:ps.flatten.length<=bY) (h:Q (.bytes ps.flatten) H):bq c n (.builtin "bytes.join") [.bytes [],a] H Q X:=pg λA s v u C x' y=>bj x' λt e=>by
 show aa e<|fM (ha.at C.1 y) λx xs m o9 g r=>aa o9<|aA (aaI r) λts zJ wB=>?_
 have hsz:xs.size=ps.length:=by show aa Array.length_toList.symm<|aa wB ?_;simp [zJ]
 show G0 (M:=c.M) MJ (by decide+kernel) (kD _ _ _) Zt (acm _ _) (up (acN g zJ wB hsz hz λt' tk=>(ao _ rfl (ao H (.tok C.1 _) (ao (.bytes _) ⟨_,rfl⟩ h)))))
end
end
section
section
variable {c:Cx} {n:ar} {sc:bA} {ρ:ah (ak×AV)} {H:aj} {X:AX->aj->Prop} {K:Type} [ji K] {Y:KY c K}
theorem ac4 (hk:HK A.handled H s.heap) (kG:∀a l v,A.handled=ae v->dC H s.heap (a::l) v->it∉a::l)
  (hit:s.heap.IsKeyIter it d i bJ.length ep) (hm:s.heap.DictAt Y.knd d bJ ep) (hx:bJ[i]?=none) (hQ:∀h',A8 it s.heap h'->Q none {s with heap:=h'}):a_ c.M A (vC (.ref it)) Q E s:=by
 show cR (id hit) λo ho hc hd=>agk (id hm) λod es uc xP Tc f6 hp hn=>aJ (A9 (ym hit.typeIs ajf
  (yn ajf hit.typeIs PySem.F.entry_dict_keyiterator_next ?_ (PySem.F.args_dict_keyiterator_next_1 _))))
 show aJ (bg ?_);show aJ<|wpAny_bind ?_
 first|show aJ (ajg hit.typeIs (bg ?_))|show aJ (ajh hit.typeIs (bg ?_))
 show aJ (wpAny_fieldsOf ho hd ?_);have aj9:akR "dict_keyiterator"=au:=by decide
 show aJ (bg ?_);show aJ (wpAny_dictEntries uc Tc ?_);have hsz:es.size=bJ.length:=by exists hp.length.symm;rfl
 rw [bo (by exists hsz;simp)];show aJ (bg ?_);show aJ (wpAny_dictEpoch uc Tc ?_);exists bo (by simp);show bg ?_;have â:es.size<=i:=by exists hsz;simpa using hx
 simp only [Int.not_lt.mpr (FD i),rZ,vL,Array.getElem?_eq_none â];show aJ ?_;first|show aJ (ajg hit.typeIs (bg ?_))|show aJ (ajh hit.typeIs (bg ?_))
 show aJ (vJ ho hd (dY ..) ?_);have kk:∀b o,b≠it->s.heap.get? b=ae o->(s.heap.update it (mh (λx=>x.setIfInBounds 0 .none))).get? b=ae o:=λb o n e=>(gP _ _ (bI n)).trans e;show Qp (A':=A.in1) (H:=H) rfl (λv e=>?_) λh' k'=>hQ h' λb o n e=>k' b o (kk b o n e);show dP (hk v e) λa l' y=>(jF a l' (y.mono λb o hb f e2 J J=>⟨f,kk b o (λq=>kG a l' v e y (q▸hb)) e2⟩))
theorem aht (x:HK hd H h):∃l,(∀b∈l,∃o,h.get? b=ae o)/\∀h',(∀b∈l,∀o,h.get? b=ae o->h'.get? b=ae o)->HK hd H h'/\∀a l' v,hd=ae v->dC H h' (a::l') v->a::l'=l:=by
 induction hd using eL with
 |none=>show (ao [] (by simp) (λh' J=>⟨λv e=>(by injection e),λa l' v e=>(by injection e)⟩))
 |some v=>
  show dP (x v rfl) λa l y=>(ao (a::l) y.ex (λh' k=>?_));have y':=y.mono λb o hb f e J J=>⟨f,k b hb o e⟩;show ⟨λv' e=>by injection e with ct;subst ct;show (jF a l y'),λa' l' v' e z=>by injection e with et;subst et;show w_ z y'⟩
theorem ZX {h₀:bF} (hl:∀h',(∀b∈l,∀o,h₀.get? b=ae o->h'.get? b=ae o)->HK A.handled H h'/\∀a l' v,A.handled=ae v->dC H h' (a::l') v->a::l'=l) (hex:∀b∈l,∃o,h₀.get? b=ae o)
  (I d:aF) (pq:d≠I) (hI:h₀.get? I=none) (bJ:ah (K×aI)) (ep:ar):
  Walks c.prog c.w A I (I::d::l) [I] bJ.length (λi v=>∃k x,bJ[i]?=ae (k,x)/\Y.knd.is k v=ai) (λi h=>h.IsKeyIter I d i bJ.length ep/\h.DictAt Y.knd d bJ ep/\∀b∈l,∀o,h₀.get? b=ae o->h.get? b=ae o) where
 sub:=λb hb=>by simp at hb;simp [hb]
 frame:=λJ h h' st hk=>(aP (st.1.at λo e=>hk I (.head _) o e) (st.2.1.at' λo e=>hk d (by simp) o e) (λb hb o e=>hk b (by simp [hb]) o (st.2.2 b hb o e)))
 item:=λi s Q E hi st hQ=>by
  obtain ⟨⟨k,x⟩,hx⟩:∃p,bJ[i]?=ae p:=⟨bJ[i],by simp [hi]⟩;show wpAny_pyNext_dict_item st.1 st.2.1 hx λkey h' ae9 hY l8=>hQ key h' s.toks (ew k x hx ae9) (aP hY (st.2.1.extBut l8.extBut pq) (λb hb o e=>(l8.2 b λq=>?_).trans (st.2.2 b hb o e))) λb o hb e=>l8.extBut b o (λh=>hb (by simp [h])) e;rw [q,hI] at e;injection e
 done:=λs Q E st hQ=>by
  show aM (hl s.heap st.2.2) λk1 k2=>ac4 k1 (λa l' v e z=>?_) st.1 st.2.1 (by simp) λh' zk=>hQ h' s.toks λb o hb e=>zk b o (λh=>hb (by simp [h])) e;show aa (k2 a l' v e z)<|λhm=>bj (hex _ hm) λo g=>?_
  injection (hI).symm.trans g
 self:=λJ J J J st hQ=>wpAny_pyIter_keyiter st.1 hQ
theorem afW {ks:ah K} (hl:vs.length=ks.length) (hv:∀(j:ar) (v:aI),vs[j]?=ae v->∃k,ks[j]?=ae k/\Y.knd.is k v=ai):aZ P h (ks.map Y.av) vs:=by
 induction ks generalizing vs with
 |nil=>show List.length_eq_zero_iff.mp hl
 |cons k ks ih=>
  induction vs using c6 with
  |nil=>show nomatch hl
  |cons v vs=>show aA (hv 0 v rfl) λk' e hi=> .cons (Y.of_is (bZ e▸hi)) (ih (aji hl) λj=>hv (j+1))
theorem Z3 {St:ar->bF->Prop} (hT:s.TypeIs (.ref r) T) (nl:(lE T==lE "list")=au) (nt:(lE T==lE "tuple")=au)
  (W:Walks c.prog c.w A.in1 I fp [I] n P St) (hI:I=s.heap.objs.size) (hit:∀(E:aI->aU->Prop) (Q:aI->aU->Prop),Q (.ref I) {s with heap:=s.heap.push oI}->a_ c.M A.in1 (pE (.ref r)) Q E s)
  (hint:∀(E:aI->aU->Prop) (Q:aN->aU->Prop),Q au {s with heap:=s.heap.push oI}->a_ c.M A.in1 (akS (.ref r)) Q E {s with heap:=s.heap.push oI})
  (st:St 0 (s.heap.push oI)) (Ħ:S≠r) (PW:S∉fp) (res:aI) (c₀:ar) (hS:s.heap.get? S=ae {cls:= .type "list",data:= .seq #[] c₀})
  (hR:∀h' tk jA c',(∀b o,b≠S->s.heap.get? b=ae o->h'.get? b=ae o)->h'.get? S=ae {cls:= .type "list",dict:=none,data:= .seq jA c',slots:=#[]}->ItemsOf P jA n->R (.ok (.ret res)) {s with heap:=h',toks:=tk}) (hn:n<=bY):
  a_ c.M A.in1 (akT (.ref S) (.ref r) res)
   (λfin s'=>match fin with| .done f=>R (.ok f) s'| .again c'=>c'.quiet=ai/\qG c.M A c' R s') (λe s'=>R (.error e) s') s:=by
 have key:∀(h:bF) (c₁ tk:ar),St 0 h->(∀b o,b≠S->s.heap.get? b=ae o->h.get? b=ae o)->
   h.get? S=ae {cls:= .type "list",data:= .seq #[] c₁}->qG c.M A (.builtin "list.extend.loop" ⟨[.ref S,.ref I,res],[]⟩) R {s with heap:=h,toks:=tk}:=by
  show λh c₁ tk sa hk zP=>codeAny_extend_loopS W.toS hn S PW res n 0 _ #[] c₁ rfl (i0 _) sa zP (ItemsOf.nil _) λs' jA c' hm Hs Ew=>aa (Moved.eq_with hm)<|hR s'.heap s'.toks jA c' (λb o hb e=>hm.heap b o (λH6=>?_) (hk b o hb e)) Hs Ew
  rcases List.mem_cons.mp H6 with e'|H6
  ·show hb e'
  ·show cy (pJ e) (aa (List.mem_singleton.mp H6)<|aa hI<|A7 _)
 show aJ (Bf hT ?_);have h1:ajj (.ref S) (.ref r)=au:=by simp [ajj,Ħ]
 simp only [h1,nl,nt,Bool.or_false,Fu,rZ];show aJ (hit _ _ ?_);have zP:=fV oI hS;show aJ (mY (hint _ _ ?_));show vW (λJ=>?_) (λJ=>bg ⟨yt ajk _,key _ c₀ _ st (λb o J e=>fV _ e) zP⟩);show aJ (mf ?_);show aJ<|wpAny_bind (Ls zP rfl ?_)
 have xb:=jK (jM (λx=>x.push kC)) zP rfl;show Ls xb rfl ?_;have adt:=jK (jM (λx=>x.pop)) xb rfl;show bg ⟨yt ajk _,key _ _ _ ?_ (λb o hb e=>?_) adt⟩
 ·show W.frame 0 _ _ st λb hb o e=>?_;have QU:b≠S:=λh=>PW (h▸hb);show (gP _ _ (bI QU)).trans ((gP _ _ (bI QU)).trans e)
 ·show (gP _ _ (bI hb)).trans ((gP _ _ (bI hb)).trans (fV _ e))
theorem B9 (hs:uJ c.K=ai) (hd:H d=ae (cj Y es)) (nd:(es.map (λx=>x.1)).Nodup) (hz:es.length<=bY) (h:Q (.lst (es.map λp=>Y.av p.1)) H):bq c n (.type "list") [.ref d] H Q X:=jv λA s v C y=>by
 have y:=y;show aa y<|cR (qP (C.1.6 d _ hd) nd) λbJ D e1 vs=>?_
 have hlen:bJ.length=es.length:=by have:=bD mj e1;simpa using this
 show AA (id D) λod eso ep uc xd dd kd pd Bv=>?_;have zL:s.heap.DictAt Y.knd d bJ ep:=(XX od eso uc xd dd kd pd Bv);show aA (aht C.4) λl hex hl=>?_;have dlt:=pJ uc
 show up (VE (Q₁:=λobj aC=>obj= .ref s.heap.objs.size/\aC={s with heap:=s.heap.push {cls:= .type "list",data:= .seq #[]}}) PySem.F.called_list (PySem.F.typeCall_list_1 _) PySem.F.entry_list_init
  (code_list_new _ ⟨rfl,rfl⟩) λobj aC bf=>?_)
 show aM bf<|λbC bW=>aa bC<|aa bW ?_
 have hS:(s.heap.push {cls:= .type "list",data:= .seq #[]}).get? s.heap.objs.size=ae {cls:= .type "list",data:= .seq #[]}:=fG _ rfl;show (aP (ao _ hS rfl) (PySem.F.args_list_init_2 _ _) ?_);have nS:∀b o,s.heap.get? b=ae o->b≠s.heap.objs.size:=λb o e=>Fe (pJ e);have Oj:∀b o,s.heap.get? b=ae o->(s.heap.push {cls:= .type "list",data:= .seq #[]}).get? b=ae o:=λb o e=>fV _ e;generalize hSz:s.heap.objs.size=S at hS nS dlt Oj ⊢;have Ui:=nS _ _ uc;show aJ<|wpAny_bind (E9 hS rfl (bg ?_))
 show aJ (Ls hS rfl ?_);have xb:=jK (jM (λJ=>(#[]:dm aI))) hS rfl;have zR:∀b o,s.heap.get? b=ae o->((s.heap.push {cls:= .type "list",data:= .seq #[]}).update S (jM (λJ=>(#[]:dm aI)))).get? b=ae o:=λb o e=>(gP _ _ (bI (nS b o e))).trans (Oj b o e);generalize (s.heap.push {cls:= .type "list",data:= .seq #[]}).update S (jM (λJ=>(#[]:dm aI)))=h2 at xb zR ⊢;show aJ (K8 ?_);have EI:=zL.at' λo e=>zR d o e;have ahm:=Cr C.1 hs hd;have aaJ:∀b o,s.heap.get? b=ae o->(h2.push {cls:= .type "dict_keyiterator",data:= .fields #[.ref d,.int 0 0,.int bJ.length 0,.int ep 0]}).get? b=ae o:=λb o e=>fV _ (zR b o e)
 have nI:s.heap.get? h2.objs.size=none:=by
  cases q:s.heap.get? h2.objs.size with
  |none=>rfl
  |some o=>show cy (pJ (zR _ o q)) (A7 _)
 have ũ:d≠h2.objs.size:=λq=>by rw [<-q,uc] at nI;injection nI
 show Z3 EI.dictOf.typeIs ⋯ ⋯
  (ZX (A:=A.in1.in1) hl hex h2.objs.size d ũ nI bJ ep) rfl (λE Q h=>wpAny_pyIter_dict ahm EI h) (λE Q h=>kdl_hint_dict (EI.push _).dictOf.typeIs h)
  (aP (bV _ (fG _ rfl) rfl rfl) (EI.push _) (λb hb o e=>aaJ b o e)) (bI Ui) ?_ .none _ xb (λh' tk jA c' hk Hs Ew=>?_) (aa hlen hz)
 ·simp only [yq,not_or];show (aP (Fe (pJ xb)) (bI Ui) (λhm=>bj (hex _ hm) λo g=>nS _ o g rfl))
 ·have k:=λb o e=>hk b o (nS b o e) (zR b o e);have S':SR c bL H s H {s with heap:=h',toks:=tk}:= .grow C.1 k;show ⟨rfl,H,S',.lst _,(i5 S c' jA rfl (C.1.jR (hSz▸fv _)) Hs ?_),h⟩;rw [show es.map (λp=>Y.av p.1)=(bJ.map (λx=>x.1)).map Y.av from by exists e1;simp];show afW (by simp [Ew.1]) λj v hv=>d8 (Ew.2 j v (by simpa using hv)) λk x hx f6=>(ao k (by simp [hx]) f6)
end
end
section
section
variable {c:Cx} {n:ar} {sc:bA} {ρ aO:ah (ak×AV)} {H H':aj} {X:AX->aj->Prop} {K:Type} [ji K]
noncomputable def D4 (kx vx:bR):aF->eJ->cC gv:=λD env=>do
 let kv <-bX kx env;let vv <-oh [kv] (bX vx env)
 me {kx.pos with endLine:=vx.pos.endLine,endCol:=vx.pos.endCol}
 oh [kv,vv] (dictSet D kv vv)
theorem ō:EG c (.DictComp kx vx [⟨target,iter,ifs,0⟩] scope pos) target ifs (D4 kx vx):=λA R env it D I turn k s h=>by
 show HQ rfl rfl I (λk s hI=>?_) k h;show sO ?_
 rewrite [compTurn_dict]
 show aS (up<|wpAny_standAt (aS (cq (turn k s hI) (λr aC bf=>?_) λJ J h'=>h')));induction r using eL with
 |none=>show bw bf
 |some v=>
  show aS (cq bf (λJ aL cn=>aS (cq cn (λJ bz d_=>aS (cq d_ (λb e_ i8=>?_) λJ J h'=>h')) λJ J h'=>h')) λJ J h'=>h');induction b using ez
  ·rw [bo jJ] at i8 ⊢;show bw ⟨rfl,i8⟩
  ·rw [bN rfl] at i8 ⊢;show aS (cq i8 (λJ kh js=>bw ⟨rfl,js⟩) λJ J h'=>h')
theorem á (Y:KY c K) (iN:mr sc scope=ai) (c8:c.qt=ai\/∃x p,target= .Name x p)
  (h:WI c n sc iter ρ H (λitems ok aw=>LC c n (gY scope sc) target ifs (D4 kx vx) (ip (gY scope sc) ρ) ok (λacc aG=>∀D,aG D=none->Q (.ref D) (aG.set D acc)) X items (cj Y []) aw) X)
  (hit:∀env x,vz iter env x=pure x):WE c n sc (.DictComp kx vx [⟨target,iter,ifs,0⟩] scope pos) ρ H Q X:=λA env s C=>by
 show IA (acc₀:=cj Y []) rfl iN (hit env) c8 ō (λh0 h1=>aan h0 h1) (λq=>up<|wpAny_newObj_type q) (λH h a g=>(cI (#[]) 0 g trivial .nil)) rfl (λJ J J J q=>by injection q) (λq=>by injection q) C (λJ J z=>z) h ?_;intro D C' acc aV bz T eB nC nD d1 d2 i1 i2 ⟨m,hm⟩ q;show (ao m hm (λh' sb=>?_));have iV:=T.BE (tk:=bz.toks) (qW eB).2 nC sb;rw [v_ eB d2] at iV;show (ao _ (iV.fresh (λb o e q=>by injection (e).symm.trans q)) (ao (.ref D) rfl (q D d1)))
variable {Y:KY c K}
theorem abN (eB:D≠C) (nd:(es.map (λx=>x.1)).Nodup) (hz:es.length<=bY)
  (h:WE c n sc kx ρc (HD D (cj Y es) C H) (λa aw=>∃k,a=Y.av k/\∃aG,aw=HD D (cj Y es) C aG/\WE c n sc vx ρc aw (λv aV=>∃fE,aV=HD D (cj Y es) C fE/\Q (HD D (cj Y (jh es k v)) C fE)) X) X):G4 c n sc (D4 kx vx) D ρc (HD D (cj Y es) C H) Q X:=λA env s C'=>by
 show aS (XW.step (.refl C'.1.1) (h A env s C') λv aw aC aX cU x'=>aA x' λa y gA=>aA gA λk ek oG=>aA oG λaG e q=>?_);subst ek;show aS (cE (XW.step cU (q A env aC (C'.keep aX)) λu aV bz cJ c9 x'=>aA x' λb y3 gA=>aA gA λfE e3 q3=>?_));subst e3;show dF (cE (up ?_));show cR (qP (cJ.4.6 D _ (qW eB).1) nd) λbJ D' e1 vs=>?_;have hl:bJ.length=es.length:=by have:=bD mj e1;simpa using this
 show wpAny_dictSet_pairs (hsz:=aa hl<|hz) (Y.qo y) D' λh' D2 sb=>?_;show aM (SN (k:=k) y3 e1 vs) λz1 z2=>?_;have il:=DY (t:=bz.toks+1) cJ.4 (qW eB).1 D2 sb z1 z2
 have e2:(HD D (cj Y es) C fE).set D (cj Y (jh es k b))=HD D (cj Y (jh es k b)) C fE:=by
  exists rT _ _ _ eB.symm;rewrite [cV];rfl
 rw [e2] at il;show (ao _ (c9.trans il) q3)
theorem afY {es:ah (K×AV)}:(jh es k v).length<=es.length+1:=by
 unfold jh;split <;> simp
theorem YD {es:ah (K×AV)} (h:(es.map (λx=>x.1)).Nodup):((jh es k v).map (λx=>x.1)).Nodup:=by
 unfold jh;split
 ·exists cZ
  have:((λp:K×AV=>p.1)∘λp=>if p.1=k then (p.1,v) else p)=(λx=>x.1):=by
   funext p;simp only [Function.comp];split <;> rfl
  show aa this<|h
 ·rename_i q;show aa dz<|aa dX<|aa FJ<|List.nodup_append.mpr (aP h (by simp) (λa ha b hb e=>?_))
  rw [VG] at hb;subst hb;subst e;simp only [FO,vY,not_exists,not_and] at q;rw [Vb] at ha;show aA ha λp hp e=>q p hp e
def DIt (c:Cx) (n:ar) (sc':bA) (target kx vx:bR) (ρ:ah (ak×AV)) (H:aj) (X:AX->aj->Prop) (k g:AV->AV) (P:AV->Prop) (a:AV):Prop:=∃bs,oP sc' target a=ae bs/\∀H',vm H H'->
 WE c n sc' kx (bs++ρ) H' (λv aw=>v=k a/\aw=H'/\P a/\WE c n sc' vx (bs++ρ) H' (λv aw=>v=g a/\aw=H') (λx aw=>aw=H'/\X x H)) (λx aw=>aw=H'/\X x H)
theorem acQ {f:AV->K} (wU:ok H) (items:ah AV) (es:ah (K×AV)) (nd:(es.map (λx=>x.1)).Nodup) (hz:es.length+items.length<=bY)
  (hb:∀a∈items,DIt c n sc' target kx vx ρ H X (λa=>Y.av (f a)) g P a) (hq:(∀a∈items,P a)->Q (cj Y (items.foldl (λes a=>jh es (f a) (g a)) es)) H):LC c n sc' target [] (D4 kx vx) ρ ok Q X items (cj Y es) H:=by
 induction items generalizing es with
 |nil=>show hq λJ h=>jl h
 |cons a l ih=>
  show aA (hb a (.head _)) λbs ht hw=>ao bs ht λD C hD hC eB=>?_;have hw:=hw _ (Rn (acc:=cj Y es) hD hC);unfold my;dsimp only;show aa (bN rfl)<|abN eB nd (aK (eC ..) hz) (hw.mono (λk aw x'=>m_ x' λe1 e2 p w=>?_) λx aw x'=>aM x' λe z=>LX.mk e hD hC (λq=>nomatch q) z)
  show (ew (Y.av (f a)) (HD D (cj Y es) C H) (aa e1 (aa e2 (.refl _ _))) (ao (f a) rfl (ao H rfl ?_)));show w.mono (λv aw x'=>aM x' λe3 e4=>?_) λx aw x'=>aM x' λe z=>LX.mk e hD hC (λq=>nomatch q) z;show (ew (g a) (HD D (cj Y es) C H) (aa e3 (aa e4 (.refl _ _))) (ao H rfl (LN.mk rfl hD hC wU (λJ J J J q=>nomatch q) (λq=>nomatch q) ?_)));show ih _ (YD nd) (aK (tO afY _) (aK (iL (yi ..)) hz)) (λb qA=>hb b (.tail _ qA)) λhp=>hq λb qA=>(List.mem_cons.mp qA).elim (λe=>aa e p) (hp b)
end
end
section
section
variable {c:Cx} {n:ar} {sc:bA} {ρ aO:ah (ak×AV)} {H H':aj} {K:Type} [ji K]
section
variable {X:AX->aj->Prop}
theorem El {l:ah aN} (c8:c.qt=ai) (ha:gm H a (l.map .bool)) (h:Q (.bool (l.all id)) H):bq c n (.builtin "all") [a] H Q X:=jv λA s v C y=>by
 show fM (ha.at C.1 y) λx xs m bC g r=>aa bC ?_;have e1:=r.length;rw [jx,bp] at e1;have hx:=Fe (pJ g);show up (call_all_walk (KR (bV _ g rfl (dM m rfl)) (aac s.heap.objs.size _ _ _ _ _ (λi=>l.getD i au) rfl (Walks.list (show A.in1.handled=none from C.5 c8) _ x hx xs) ⟨(bV _ (fG _ rfl) rfl rfl),(bV _ (fV _ g) rfl (dM m rfl))⟩ (λi u s' Q' E' hu q=>?_) (λh' tk k=>?_))))
 ·have hi:i < l.length:=by
   have:i < xs.size:=(Array.getElem?_eq_some_iff.mp hu).1;lia
  show aA (r.get (i:=i) (a:= .bool l[i]) (by simp [hi])) λw hw yw=>?_;have hw:xs[i]?=ae w:=by simpa using hw
  rw [hu] at hw;injection hw with ct;subst ct
  have yw:=yw;exists yw;have:l.getD i au=l[i]:=by simp [VH,hi]
  show aiF (aa this.symm q)
 ·have:(jj xs.size).all (λi=>l.getD i au)=l.all id:=by
   exists e1;rewrite [pM,oq,oq];constructor
   ·intro z b hb;rcases List.getElem_of_mem hb with ⟨i,hi,e⟩
    have:=z i (by simpa using hi);simpa [VH,hi,e] using this
   ·intro z i hi;have hi:i < l.length:=by simpa using hi
    simpa [VH,hi] using z l[i] (Lu hi)
  show aa this<|(ao H (.grow C.1 λb o e=>k b o (λw=>?_) (fV _ e)) (ao (.bool _) rfl h))
  show cy (pJ e) ((List.mem_singleton.mp w)▸(A7 _))
theorem ŝ (ha:gm H a l) (hz:(l.length:aq) < 2 ^ 63) (h:Q (!l.isEmpty) H):qz c n a H Q X:=λA s v C y=>by
 show fM (ha.at C.1 y) λx xs m bW g r=>aa bW ?_;have e1:=r.length;rw [jx] at e1;show up<|wpAny_truthy_list (bV _ g rfl (dM m rfl)) (aa e1 hz) (ao H (.tok C.1 _) ?_)
 have:xs.isEmpty=l.isEmpty:=by
  rw [pM,Array.isEmpty_iff_size_eq_zero,List.isEmpty_iff_length_eq_zero];lia
 show aa this<|h
theorem aZ.set (y:VR P h a v) (i:ar) (x:aZ P h l vs):aZ P h (l.set i a) (vs.set i v):=by
 revert i;show aZ.ind x (λJ=> .nil) λb l u r y1 y2 ih i=>?_;induction i using AZ with
 |zero=>show .cons y y2
 |succ i=>show .cons y1 (ih i)
theorem ag8 (hl:s.heap.IsList l items) (ho:s.heap.get? l=ae ⟨.type "list",none,.seq items m,#[]⟩)
  (h0:0<=k) (Su:k < 2 ^ 63) (hn:k < items.size)
  (hQ:Q () {s with heap:=s.heap.update l (jM (λx=>x.setIfInBounds k.toNat v))}):a_ c.M A (Kk (.ref l) (.int k t) v) Q E s:=by
 unfold Kk
 try with_reducible show mY ?_
 first|show aJ (bg ?_)|skip
 show aJ (wpAny_sequenceKey hl.typeIs ⋯ ?_)
 show aJ (ym hl.typeIs ajl
  (yn ajl hl.typeIs entry_list_setitem ?_ (args_list_setitem _ _ _)))
 show (?_:a_ _ _ (akU (.int k t) >>=_) _ _ s);show aJ (wpAny_listSubscript_int (fitsIndex_of h0 Su) ?_);clear Su;show bj (Int.eq_ofNat_of_zero_le h0) λj d7=>?_;subst d7;have hj:j < items.size:=by lia
 have hx':=Lc hj;show aJ (aJ (wpAny_seqItemAt ho rfl (bg ?_)));show (hx').symm▸?_;show aJ (wpAny_setSeqItemAt ho rfl ?_)
 first
  |show aJ (bg (bg ⟨.none,rfl,bg hQ⟩))
  |show bg ⟨.none,rfl,bg hQ⟩
theorem CJ (hl:H l=ae (.list xs)) (hi:i < xs.length) (hz:(i:aq) < 2 ^ 63) (h:Q (H.set l (.list (xs.set i a)))):C4 c n (.ref l) (.int i) a H Q X:=λA s v w u C y1 x' y3=>bj x' λt e=>by
 exists e;have y1:=y1;show aa y1<|d8 (C.1.6 l _ hl) λvs m g r=>?_
 have e1:=r.length;rw [jx] at e1;show up (ag8 (bV _ g rfl (dM m rfl)) g (by lia) hz (by lia) ?_);have mV:∀b,b≠l->(s.heap.update l (jM (λx=>x.setIfInBounds i u))).get? b=s.heap.get? b:=λb nb=>gP _ _ (bI nb);show bj (ajm (rfl:(⟨.type "list",none,.seq vs m,#[]⟩:eU).data= .seq vs m) (λx=>x.setIfInBounds i u)) λn' lq=>?_;have g2:=jK (jM (λx=>x.setIfInBounds i u)) g (ajn lq);show (ao (H.set l (.list (xs.set i a))) (.upd C.1 hl mV (λJ J J J q=>by injection q) (by simp) (λJ J J J q=>by injection q) (ew _ _ g2 ?_)) h);have:=aZ.set y3 i r;rw [show vs.toList.set i u=(vs.setIfInBounds i u).toList from (ajo ..).symm] at this;show aZ.mono (λb o f e q1 q2=>⟨f,(mV b λw=>?_).trans e⟩) _ _ this;subst w;show f (.inl (by exists hl;simp))
end
theorem JS (h:WE c n sc o ρ H (λb aw=>uF c n attr b a aw (λaG=>Q ρ aG) (λx H'=>X x ρ H')) (λx H'=>X x ρ H')):tF c n sc (.Attribute o attr pos) a ρ H Q X:=λA env s v C y=>by
 show bP (cE (XW.oJ C.2 (.refl C.1.1) (h A env s C) λu aw aC aX cU x'=>aA x' λb y2 q=>?_)) λu aC z=>z;show dF (bP (cE (XW.oJ (C.keep aX).2 cU (q A aC u v (C.keep aX).1 y2 (y.keep aX.5)) λJ aV bz cJ c9 q3=>?_)) λJ aC z=>z);show I1 (cI aV ρ c9 ((C.2.keep aX.5).keep cJ.5) q3)
end
end
section
section
variable {c:Cx} {n:ar} {sc:bA} {ρ aO j7:ah (ak×AV)} {H H' dR:aj}
inductive NX (c:Cx) (I:aF) (items:ah AV) (S:ar->aj->bF->Prop):Prop
 |mk (fl:∀{i H h},S i H h->Fz H I/\∃o,h.get? I=ae o/\c_ o=ai/\dT o=au/\cO o=au) (keep:∀{i H h H' h' Ex},S i H h->KP Ex H h H' h'->nE Ex H h->S i H' h') (soft:∀{i H h h' z},S i H h->cG (λx=>x=z) h h'->z≠I->(∃o,h.get? z=ae o/\c_ o=ai)->S i H h') (next:∀{A i H s a} {Q:aI->aU->Prop} {E:aI->aU->Prop},S i H s.heap->items[i]?=ae a->
  (∀h' tk v,V H h' a v->S (i+1) H h'->cG (λx=>x=I) s.heap h'->Q v {s with heap:=h',toks:=tk})->a_ c.M A (yA (.ref I)) Q E s) (stop:∀{A:eX} {i H s} {Q:aI->aU->Prop} {E:aI->aU->Prop},A.handled=none->S i H s.heap->items[i]?=none->
  (∀h' e,A8 I s.heap h'->(∃o,h'.get? e=ae o/\o.cls= .type "StopIteration")->E (.ref e) {s with heap:=h'})->a_ c.M A (yA (.ref I)) Q E s)
def rp (c:Cx) (a:AV) (H:aj) (items:ah AV):Prop:=
 ∀(A:eX) (s:aU) (v:aI) (Q:aI->aU->Prop) (E:aI->aU->Prop),cN c H s.heap->V H s.heap a v->
  (∀I S s',NX c I items S->S 0 H s'.heap->s.heap.get? I=none->SR c bL H s H s'->Q (.ref I) s')->a_ c.M A (pE v) Q E s
inductive ZS (S1 S2:ar->aj->bF->Prop) (z TI TO i1 i2:aF) (f0:aI) (j1 j2:ar) (l:ah AV) (H:aj) (h:bF):Prop
 |mk (zz:oy h z TI TO f0) (ti:r9 h TI (.ref i1) (.ref i2)) (to:H TO=ae (.otup l)) (s1:S1 j1 H h) (s2:S2 j2 H h) (fz:Fz H z/\Fz H TI) (ne:z≠i1/\z≠i2/\i1≠i2)
theorem Yi (R:cN c H s.heap) (ya:V H s.heap a v) (yb:V H s.heap b u) (ia:rp c a H xs) (ib:rp c b H ys)
  (h:∀z TI TO i1 i2 S1 S2 aL,NX c i1 xs S1->NX c i2 ys S2->s.heap.get? z=none/\s.heap.get? TO=none/\s.heap.get? i1=none/\s.heap.get? i2=none->SR c bL H s (H.set TO (.otup [.none,.none])) aL->
   ZS S1 S2 z TI TO i1 i2 .none 0 0 [.none,.none] (H.set TO (.otup [.none,.none])) aL.heap->Q (.ref z) aL):a_ c.M A (gN (.type "zip") [v,u]) Q E s:=by
 show VE (Q₁:=λobj aC=>aC.TypeIs obj "zip"/\Q obj aC) F.called_zip (F.typeCall_zip_2 _ _) F.entry_object_init
  (K6 F.called_zip.plain F.entry_zip_new (kW (F.newCall_zip_2 _ _) ?_)) λobj aC hq=>(aP hq.1 (F.args_object_init_3 obj _ _) (ai9 F.called_zip.init.lookup F.called_zip.made ⋯ c.prog c.w A.in1 (Bk (λr aL=>r= .none/\Q obj aL) E) aC (aP hq.1 rfl hq.2)))
 have zv:=sub_zip;rcases s with ⟨hp,g,d,tk,os⟩
 have r1:∀{Q:aI->aU->Prop} {E:aI->aU->Prop},(∀I S s',NX c I xs S->S 0 H s'.heap->hp.get? I=none->SR c bL H ⟨hp,g,d,tk,os⟩ H s'->Q (.ref I) s')->a_ (bB c.prog c.w) A.in1.in1 (pE v) Q E ⟨hp,g,d,tk,os⟩:=λk=>ia _ _ v _ _ R ya k;wp_walk using r1;intro i1 S1 s1 n1 w1 f1 T1;rcases s1 with ⟨yX,g1,d1,IV,Hg⟩
 have r2:∀{Q:aI->aU->Prop} {E:aI->aU->Prop},(∀I S s',NX c I ys S->S 0 H s'.heap->yX.get? I=none->SR c bL H ⟨yX,g1,d1,IV,Hg⟩ H s'->Q (.ref I) s')->a_ (bB c.prog c.w) A.in1.in1 (pE u) Q E ⟨yX,g1,d1,IV,Hg⟩:=λk=>ib _ _ u _ _ T1.4 (yb.keep T1.5) k;wp_walk using r2;intro i2 S2 s2 n2 w2 f2 T2;rcases s2 with ⟨jz,g2,d2,sV,td⟩
 wp_walk;have e1:SR c bL H ⟨jz,g2,d2,sV,td⟩ H ⟨jz.push {cls:= .type "tuple",data:= .seq #[.ref i1,.ref i2]},g2,d2,sV,td⟩:= .grow T2.4 eE;have ID:(jz.push {cls:= .type "tuple",data:= .seq #[.ref i1,.ref i2]}).get? jz.objs.size=ae {cls:= .type "tuple",data:= .seq #[.ref i1,.ref i2]}:=fG _ rfl
 show (?_:(Shared.TypeIs ⟨((jz.push {cls:= .type "tuple",data:= .seq #[.ref i1,.ref i2]}).push {cls:= .type "tuple",data:= .seq #[.none,.none]}).push {cls:= .type "zip",data:= .fields #[.none,.bool au,.bool au,.ref jz.objs.size,.ref (jz.push {cls:= .type "tuple",data:= .seq #[.ref i1,.ref i2]}).objs.size]},g2,d2,sV,td⟩ (.ref ((jz.push {cls:= .type "tuple",data:= .seq #[.ref i1,.ref i2]}).push {cls:= .type "tuple",data:= .seq #[.none,.none]}).objs.size) "zip"/\Q (.ref ((jz.push {cls:= .type "tuple",data:= .seq #[.ref i1,.ref i2]}).push {cls:= .type "tuple",data:= .seq #[.none,.none]}).objs.size)
  ⟨((jz.push {cls:= .type "tuple",data:= .seq #[.ref i1,.ref i2]}).push {cls:= .type "tuple",data:= .seq #[.none,.none]}).push {cls:= .type "zip",data:= .fields #[.none,.bool au,.bool au,.ref jz.objs.size,.ref (jz.push {cls:= .type "tuple",data:= .seq #[.ref i1,.ref i2]}).objs.size]},g2,d2,sV,td⟩))
 generalize jz.push {cls:= .type "tuple",data:= .seq #[.ref i1,.ref i2]}=lu at e1 ID ⊢;have MF:(lu.push {cls:= .type "tuple",data:= .seq #[.none,.none]}).get? lu.objs.size=ae {cls:= .type "tuple",data:= .seq #[.none,.none]}:=fG _ rfl;have e2:SR c bL H ⟨lu,g2,d2,sV,td⟩ (H.set lu.objs.size (.otup [.none,.none])) ⟨lu.push {cls:= .type "tuple",data:= .seq #[.none,.none]},g2,d2,sV,td⟩:= .alloc e1.4 (fv lu) eE (λJ J J J q=>by injection q) λJ=>(ew _ _ MF (.cons rfl (.cons rfl .nil)));have O7:=fV {cls:= .type "tuple",data:= .seq #[.none,.none]} ID;generalize lu.push {cls:= .type "tuple",data:= .seq #[.none,.none]}=su at e2 MF O7 ⊢;have nz:=fv su;have e3:SR c bL (H.set lu.objs.size (.otup [.none,.none])) ⟨su,g2,d2,sV,td⟩ (H.set lu.objs.size (.otup [.none,.none])) ⟨su.push {cls:= .type "zip",data:= .fields #[.none,.bool au,.bool au,.ref jz.objs.size,.ref lu.objs.size]},g2,d2,sV,td⟩:= .grow e2.4 eE;have gz:oy (su.push {cls:= .type "zip",data:= .fields #[.none,.bool au,.bool au,.ref jz.objs.size,.ref lu.objs.size]}) su.objs.size jz.objs.size lu.objs.size .none:=fG _ rfl;have jB:∀{H:aj} {h:bF},nE bL H h:=λJ J J J J J w=>w
 have MH:∀{i:aF} {h h':bF} {hh:bF} {Gx:ah AV} {S:ar->aj->bF->Prop},NX c i Gx S->S 0 H h->(∀b o,h.get? b=ae o->∃o',h'.get? b=ae o')->h'.get? su.objs.size=none->su.objs.size≠i:=λn w ex no q=>by
  show aM (n.1 w) λJ pz=>?_;show aA pz λo e J=>?_;show bj (ex _ _ e) λo' e'=>?_;rw [<-q,no] at e';injection e'
 show ⟨(ao _ gz rfl),h su.objs.size jz.objs.size lu.objs.size i1 i2 S1 S2 _ n1 n2 (iT ((((T1.trans T2).trans e1).trans e2).old _ nz) (((T1.trans T2).trans e1).old _ (fv lu)) f1 (T1.old _ f2)) ((((T1.trans T2).trans e1).trans e2).trans e3) ⟨gz,(fV {cls:= .type "zip",data:= .fields #[.none,.bool au,.bool au,.ref jz.objs.size,.ref lu.objs.size]} O7),aj.aW ..,(n1.2 (n1.2 w1 T2.5 jB) ((e1.5.trans e2.5).trans e3.5) jB),(n2.2 w2 ((e1.5.trans e2.5).trans e3.5) jB),⟨?_,?_⟩,?_,?_,?_⟩⟩
 ·show e2.4.jR nz
 ·show (e2.5 _ _ ID).1 (T2.4.jR (fv jz))
 ·show MH (hh:=hp) n1 w1 ((T2.trans e1).trans e2).6 nz
 ·show MH (hh:=hp) n2 w2 (e1.trans e2).6 nz
 ·intro q;show aM (n1.1 w1) λJ u_=>?_;show aA u_ λo e J=>?_;rw [q] at e;rw [show (aiw yX g1 d1 IV Hg).heap=yX from rfl,f2] at e;injection e
theorem yV (g:h.get? b=ae o) (g':h'.get? b=ae o') (cc:o'.cls=o.cls) (d:o.data= .fields vs) (sb:iZ b h h'):cG (λx=>x=b) h h':=⟨λx ox e=>by
 by_cases q:x=b
 ·subst q;replace e:=g▸e;injection e with ct;subst ct
  show (fR.mk o' g' cc (λx'=>dP x' λes n z=>(by injection (d).symm.trans z)) (λz=>cy rfl z))
 ·show (fR.same ((sb.2 x q).trans e))⟩
theorem CL.fld (L:CL c n sc A env dR bE j7 H s ρ) (nb:bE.heap.get? b=none) (g:∃o,s.heap.get? b=ae o/\c_ o=ai/\dT o=au) (S:cG (λx=>x=b) s.heap h'):CL c n sc A env dR bE j7 H {s with heap:=h',toks:=tk} ρ:=by
 show cR g ?_;clear g;intro o g f1 f2;have hP:∀x ox,(x=b)->s.heap.get? x=ae ox->c_ ox=ai/\bE.heap.get? x=none:=λx ox p e=>by subst p;rw [g] at e;injection e with et;subst et;show ⟨f1,nb⟩
 have T0:=S.sr (s:=s) (lo:=bE.heap) L.2.4 L.1.1.1.1 hP;have c9:SR c (λx=>bE.heap.get? x=none) H s H {s with heap:=h',toks:=tk}:=⟨rfl,rfl,rfl,T0.4,T0.5,T0.6⟩;show L.step c9.toN (L.3.nO S.kp λx ox e p=>by rw [p,g] at e;injection e with eR;subst eR;show ⟨f1,f2⟩)
theorem CL.own (L:CL c n sc A env dR bE j7 H s ρ) (S:SR c bL H s H' s'):CL c n sc A env dR bE j7 H' s' ρ:=L.step S.lift.jN (L.3.keep S.5)
theorem Mc (R:cN c H s.heap) (e:H T=ae (.otup l)) (y:V H s.heap a v):SR c bL H s (H.set T (.otup (l.set k a))) {s with heap:=s.heap.update T (jM (λx=>x.setIfInBounds k v))}:=by
 show d8 (R.6 T _ e) λvs m g r=>?_;have mV:∀b,b≠T->(s.heap.update T (jM (λx=>x.setIfInBounds k v))).get? b=s.heap.get? b:=λb nb=>gP _ _ (bI nb);show bj (ajm (rfl:(⟨.type "tuple",none,.seq vs m,#[]⟩:eU).data= .seq vs m) (λx=>x.setIfInBounds k v)) λn' lq=> .upd (t:=s.toks) R e mV (λJ J J J q=>by injection q) (by simp) (λJ J J J q=>by injection q) (ew _ _ (jK (jM (λx=>x.setIfInBounds k v)) g (ajn lq)) ?_);have:=aZ.set y k r;rw [show vs.toList.set k v=(vs.setIfInBounds k v).toList from (ajo ..).symm] at this;show aZ.mono (λb o f e' q1 q2=>⟨f,(mV b λw=>?_).trans e'⟩) _ _ this;subst w;show f (.inl (by exists e;simp))
section
noncomputable def Zu (z:aF):{f:aI->cC Fin // Builtin.«zip.__next__» ⟨[.ref z],[]⟩=tJ (.ref z) 2 >>=f}:=⟨_,rfl⟩
noncomputable def PT (z:aF):aI->cC Fin:=(Zu z).1
noncomputable def zn2 (z:aF):{f:aI->cC Fin // PT z (.bool au)=tJ (.ref z) 3 >>=f}:=⟨_,rfl⟩
noncomputable def Qq (z:aF):aI->cC Fin:=(zn2 z).1
noncomputable def zn3 (z:aF) (t:aI):{f:aR (dm aI)->cC Fin // Qq z t=E8 t >>=f}:=⟨_,rfl⟩
noncomputable def QR (z:aF) (t:aI):aR (dm aI)->cC Fin:=(zn3 z t).1
section
variable (z:aF) (t i1 i2:aI) (TO:aF)
noncomputable def zn4:{f:aN->cC Fin // QR z t (ae #[i1,i2])=akV (.ref z) >>=f}:=⟨_,rfl⟩
noncomputable def Qr:aN->cC Fin:=(zn4 z t i1 i2).1
noncomputable def zn5:{p:eT×(gv->cC Fin) // Qr z t i1 i2 ai=rule p.1 >>=p.2}:=⟨(_,_),rfl⟩
noncomputable def TM:gv->cC Fin:=(zn5 z t i1 i2).1.2
noncomputable def zn6:{f:aI->cC Fin // TM z t i1 i2 ()=tJ (.ref z) 4 >>=f}:=⟨_,rfl⟩
noncomputable def TX:aI->cC Fin:=(zn6 z t i1 i2).1
noncomputable def ZK:{f:gv->cC Fin // TX z t i1 i2 (.ref TO)=setField (.ref z) 0 .ellipsis >>=f}:=⟨_,rfl⟩
noncomputable def Cg:gv->cC Fin:=(ZK z t i1 i2 TO).1
abbrev ZT:=aR Fin×gv
noncomputable def Tu:{p:(aI×ar->ZT->cC (rY ZT))×(ZT->cC Fin) // Cg z t i1 i2 TO ()=forIn [(i1,0),(i2,1)] ((none,()):ZT) p.1 >>=p.2}:=⟨(_,_),rfl⟩
noncomputable def zb:aI×ar->ZT->cC (rY ZT):=(Tu z t i1 i2 TO).1.1
noncomputable def zr:ZT->cC Fin:=(Tu z t i1 i2 TO).1.2
noncomputable def Œ:{f:aR (dm aI)->cC Fin // zr z t i1 i2 TO (none,())=E8 (.ref TO) >>=f}:=⟨_,rfl⟩
noncomputable def Zx:aR (dm aI)->cC Fin:=(Œ z t i1 i2 TO).1
theorem SU {TI:aF} (hz:oy s.heap z TI TO .none) (ti:r9 s.heap TI i1 i2) (h:∀bf,oy bf z TI TO .ellipsis->iZ z s.heap bf->a_ (bB prog w) A (Cg z (.ref TI) i1 i2 TO ()) Q E {s with heap:=bf}):
  a_ (bB prog w) A (Builtin.«zip.__next__» ⟨[.ref z],[]⟩) Q E s:=by
 show (Ek (f:=PT z) (i:=2) hz rfl (x:= .bool au) rfl ?_:);show (Ek (f:=Qq z) (i:=3) hz rfl (x:= .ref TI) rfl ?_:);show (wF (f:=QR z (.ref TI)) ti rfl ?_:);show aJ (f:=Qr z (.ref TI) i1 i2) (Ek hz rfl (x:= .none) rfl (bg ?_));show (Zs (f:=TM z (.ref TI) i1 i2) ?_:);show (Ek (f:=TX z (.ref TI) i1 i2) (i:=4) hz rfl (x:= .ref TO) rfl ?_:);show aJ (f:=Cg z (.ref TI) i1 i2 TO) (Lv hz (dY ..) h)
theorem OB {it:aI} {k:ar} {b:ZT} {Q:rY ZT->aU->Prop} (hn:∀A E,a_ M A (yA it) (λv s1=>∃vs m,s1.heap.get? TO=ae ⟨.type "tuple",none,.seq vs m,#[]⟩/\vs.size=2/\
   Q (.yield (none,())) {s1 with heap:=s1.heap.update TO (jM (λx=>x.setIfInBounds k v))}) E s):a_ M A (zb z t i1 i2 TO (it,k) b) Q E s:=by
 show aJ (K7 ?_);show aJ (lF (hn _ _) (λv s1 x=>cQ x λvs m g z1 q=>bg ?_) λ_ _ e=>e);show wF g rfl<|wpAny_bind (Ls (hz:=by exists z1;decide) (_hz':=by exists UR;exists z1;decide) g rfl ?_)
 show aJ (K8 (bg q))
theorem af8 (h1:∀A' E',a_ M A' (yA i1) (λv1 s1=>∃vs m,s1.heap.get? TO=ae ⟨.type "tuple",none,.seq vs m,#[]⟩/\vs.size=2/\
   ∀A' E',a_ M A' (yA i2) (λv2 s2=>∃vs m,s2.heap.get? TO=ae ⟨.type "tuple",none,.seq vs m,#[]⟩/\vs.size=2/\
    a_ M A (zr z t i1 i2 TO (none,())) Q E {s2 with heap:=s2.heap.update TO (jM (λx=>x.setIfInBounds 1 v2))}) E' {s1 with heap:=s1.heap.update TO (jM (λx=>x.setIfInBounds 0 v1))}) E' s):
  a_ M A (Cg z t i1 i2 TO ()) Q E s:=by
 show (?_:a_ _ _ (forIn [(i1,0),(i2,1)] ((none,()):ZT) (zb z t i1 i2 TO) >>=zr z t i1 i2 TO) _ _ _);show aJ ?_
 rewrite [A6]
 show aJ (OB z t i1 i2 TO λA' E'=>lF (h1 A' E') (λv1 s1 x=>cQ x λvs m g z1 q=>⟨vs,m,g,z1,?_⟩) λ_ _ e=>e);show (?_:a_ _ _ (forIn [(i2,1)] ((none,()):ZT) (zb z t i1 i2 TO)) _ _ _)
 rewrite [A6]
 show aJ (OB z t i1 i2 TO λA' E'=>lF (q A' E') (λv1 s1 x=>cQ x λvs m g z1 q=>⟨vs,m,g,z1,?_⟩) λ_ _ e=>e);show bg q
theorem Ï {TI:aF} {f0:aI} {vs:dm aI} {m:ar} {Q:Fin->aU->Prop} (g:s.heap.get? TO=ae ⟨.type "tuple",none,.seq vs m,#[]⟩) (hs:vs.toList.length<=bY) (hz:oy s.heap z TI TO f0)
  (h:∀h',oy h' z TI TO (lD s.heap.objs.size)->(∃bf,iZ z (s.heap.push {cls:= .type "tuple",data:= .seq vs.toList.toArray}) bf/\oy bf z TI TO (lD s.heap.objs.size)/\iZ z bf h')->Q (.done (.ret (.ref s.heap.objs.size))) {s with heap:=h'}):
  a_ (bB prog w) A (zr z t i1 i2 TO (none,())) Q E s:=by
 show (wF (f:=Zx z t i1 i2 TO) g rfl ?_:);show aJ (wpAny_newTuple ?_ hs);have uA:oy (s.heap.push {cls:= .type "tuple",data:= .seq vs.toList.toArray}) z TI TO f0:=fV _ hz;show aJ<|wpAny_bind (Lv uA (dY ..) λMy Aq I3=>?_)
 show Lv Aq (dY ..) λGX BC JN=>bg (h GX BC ⟨My,I3,Aq,JN⟩)
end
end
section
variable {S1 S2:ar->aj->bF->Prop} {z TI TO i1 i2:aF} {xs ys:ah AV}
theorem YX {A A':eX} {env:eJ} {bE s:aU} {E:aI->aU->Prop} {a b p q:AV} {j:ar} {Q:aI->aU->Prop} (L:CL c n sc A env dR bE j7 H s ρ) (n1:NX c i1 xs S1) (n2:NX c i2 ys S2) (Z:ZS S1 S2 z TI TO i1 i2 .none j j [p,q] H s.heap)
  (fr:bE.heap.get? z=none/\bE.heap.get? i1=none/\bE.heap.get? i2=none) (hx:xs[j]?=ae a) (hy:ys[j]?=ae b)
  (hQ:∀(T:aF) s',CL c n sc A env dR bE j7 (H.set TO (.otup [a,b])) s' ρ->ZS S1 S2 z TI TO i1 i2 (lD T) (j+1) (j+1) [a,b] (H.set TO (.otup [a,b])) s'.heap->V (H.set TO (.otup [a,b])) s'.heap (.tup [a,b]) (.ref T)->Q (.ref T) s'):
  a_ c.M A' (Builtin.«zip.__next__» ⟨[.ref z],[]⟩) (λfin s'=>∃v,fin= .done (.ret v)/\Q v s') E s:=by
 have hz:=Z.1;show SU z (.ref i1) (.ref i2) TO hz Z.2 λbf zl qQ=>?_;have F1:=yV hz zl rfl rfl qQ;have L1:=L.fld (tk:=s.toks) fr.1 (bV _ hz rfl rfl) F1;have w1:=n1.3 Z.4 F1 Z.7.1 (ao _ hz rfl);have w2:=n2.3 Z.5 F1 Z.7.2.1 (ao _ hz rfl);have Ea:TI≠z:=λw=>by have:=Z.2;unfold r9 at this;rw [w,hz] at this;simp at this
 have t1:r9 bf TI (.ref i1) (.ref i2):=F1.get Z.2 Ea rfl;have jB:∀{H:aj} {h:bF},nE bL H h:=λJ J J J J J w=>w;have Bw:∀x,Fz H x->x≠TO:=λx f w=>f (.inl (by exists w;exists Z.3;simp));show af8 _ _ _ _ _ λA1 E1=>n1.4 w1 hx λcn k₂ v1 y1 w1' F2=>eO ((n1.1 w1).2) λo1 g1 q1 q2 q3=>?_;have L2:=L1.fld (tk:=k₂) fr.2.1 (bV _ g1 q1 q2) F2;have Ac:oy cn z TI TO .ellipsis:=F2.get zl Z.7.1 rfl;have YE:TI≠i1:=λw=>by have:=t1;unfold r9 at this;rw [w,g1] at this;injection this with fD;subst fD;injection q1
 have t2:r9 cn TI (.ref i1) (.ref i2):=F2.get t1 YE rfl;have w2':=n2.3 w2 F2 Z.7.2.2 (ao _ g1 q1);show d8 (L2.2.4.6 TO _ Z.3) λvs m gO r=>?_;have U3:=Mc (k:=0) L2.2.4 Z.3 y1;have L3:=L2.own U3;have w3:=n1.2 w1' U3.5 jB;have I0:=n2.2 w2' U3.5 jB;have NT:=(gP _ (jM (λx=>x.setIfInBounds 0 v1)) (bI (Bw z Z.6.1))).trans Ac;have t3:=(gP _ (jM (λx=>x.setIfInBounds 0 v1)) (bI (Bw TI Z.6.2))).trans t2;have RA:Fz (H.set TO (.otup [a,q])) z/\Fz (H.set TO (.otup [a,q])) TI:=⟨(U3.5 _ _ Ac).1 Z.6.1,(U3.5 _ _ t2).1 Z.6.2⟩;show cI vs m gO (by exists Array.length_toList.symm;exists r.length;rfl) λA2 E2=>?_;generalize Mq:cn.update TO (jM (λx=>x.setIfInBounds 0 v1))=d_ at U3 L3 w3 I0 NT t3 ⊢;show n2.4 (s:={s with heap:=d_,toks:=k₂}) I0 hy λi8 Aw v2 y2 w4' F4=>eO ((n2.1 I0).2) λo2 g2 p1 p2 p3=>?_;have L4:=L3.fld (tk:=Aw) fr.2.2 (bV _ g2 p1 p2) F4;have NK:oy i8 z TI TO .ellipsis:=F4.get NT Z.7.2.1 rfl;have acd:TI≠i2:=λw=>by have:=t3;rw [w,g2] at this;injection this with jb;subst jb;injection p1
 have t4:r9 i8 TI (.ref i1) (.ref i2):=F4.get t3 acd rfl;have w4:=n1.3 w3 F4 (bI Z.7.2.2) (ao _ g2 p1);have Mt:(H.set TO (.otup [a,q])) TO=ae (.otup [a,q]):=aj.aW ..;show d8 (L4.2.4.6 TO _ Mt) λXz m4 gO4 r4=>?_;have U5:=Mc (k:=1) L4.2.4 Mt y2;have L5:=L4.own U5;have w5:=n1.2 w4 U5.5 jB;have JB:=n2.2 w4' U5.5 jB;have xF:=(gP _ (jM (λx=>x.setIfInBounds 1 v2)) (bI (Bw z Z.6.1))).trans NK;have t5:=(gP _ (jM (λx=>x.setIfInBounds 1 v2)) (bI (Bw TI Z.6.2))).trans t4;have Mi:=rW ((U5.5 _ _ NK).1 RA.1) ((U5.5 _ _ t4).1 RA.2);show cI Xz m4 gO4 (by exists Array.length_toList.symm;exists r4.length;rfl) ?_;rw [cV] at U5 L5 w5 JB Mi;generalize hh5:i8.update TO (jM (λx=>x.setIfInBounds 1 v2))=js at U5 L5 w5 JB xF t5 ⊢;replace xF:oy js z TI TO .ellipsis:=xF;replace t5:r9 js TI (.ref i1) (.ref i2):=t5;have NA:(H.set TO (.otup [a,b])) TO=ae (.otup [a,b]):=aj.aW ..;show d8 (L5.2.4.6 TO _ NA) λxt m6 g6 r6=>?_;have r6:Vs (H.set TO (.otup [a,b])) js [a,b] xt.toList:=r6;show Ï (s:={s with heap:=js,toks:=Aw}) _ _ _ _ _ g6 (by exists r6.length;show (?_:2<=bY);decide) xF λGX BC y=>cR y λMy I3 Aq JN=>?_;have S6:SR c bL (H.set TO (.otup [a,b])) {s with heap:=js,toks:=Aw} (H.set TO (.otup [a,b])) {s with heap:=js.push {cls:= .type "tuple",data:= .seq xt.toList.toArray},toks:=Aw}:= .grow L5.2.4 eE;have nT:=fv js;have gT:(js.push {cls:= .type "tuple",data:= .seq xt.toList.toArray}).get? js.objs.size=ae {cls:= .type "tuple",data:= .seq xt.toList.toArray}:=fG _ rfl;have uA:oy (js.push {cls:= .type "tuple",data:= .seq xt.toList.toArray}) z TI TO .ellipsis:=fV _ xF;have nTz:js.objs.size≠z:=λw=>by rw [w,xF] at nT;injection nT
 have F7:cG (λx=>x=z) (js.push {cls:= .type "tuple",data:= .seq xt.toList.toArray}) GX:=(yV uA Aq rfl rfl I3).trans (yV Aq BC rfl rfl JN)
 show (ao _ rfl (hQ js.objs.size _ ((L5.own S6).fld (tk:=Aw) fr.1 (bV _ uA rfl rfl) F7) ⟨BC,F7.get (fV _ t5) Ea rfl,NA,n1.3 (n1.2 w5 S6.5 jB) F7 Z.7.1 (ao _ uA rfl),n2.3 (n2.2 JB S6.5 jB) F7 Z.7.2.1 (ao _ uA rfl),Mi,Z.7⟩
  (i5 js.objs.size 0 _ rfl (L5.2.4.jR nT) (F7.get gT nTz rfl) (F7.vs (λx ox p g=>by rw [p,uA] at g;injection g with j9;subst j9;rfl) (r6.keep S6.5)))))
theorem abP (L:CL c n sc A env dR bE j7 H s ρ) (n1:NX c i1 xs S1) (n2:NX c i2 ys S2) (Z:ZS S1 S2 z TI TO i1 i2 .none j j [p,q] H s.heap)
  (fr:bE.heap.get? z=none/\bE.heap.get? i1=none/\bE.heap.get? i2=none) (hx:xs[j]?=ae a) (hy:ys[j]?=ae b)
  (hQ:∀(T:aF) s',CL c n sc A env dR bE j7 (H.set TO (.otup [a,b])) s' ρ->ZS S1 S2 z TI TO i1 i2 (lD T) (j+1) (j+1) [a,b] (H.set TO (.otup [a,b])) s'.heap->V (H.set TO (.otup [a,b])) s'.heap (.tup [a,b]) (.ref T)->Q (ae (.ref T)) s'):
  a_ c.M A' (vC (.ref z)) Q E s:=by
 have hT:s.TypeIs (.ref z) "zip":=(ao _ Z.1 rfl)
 show aJ (A9 (ym (name:=Str.ofString "__next__") hT Lw
  (yn Lw hT ajp (YX L n1 n2 Z fr hx hy λT s' L' Z' y=>bg (hQ T s' L' Z' y)) (ajq _))))
theorem Æ (hh:A'.handled=none) (n1:NX c i1 xs S1) (n2:NX c i2 ys S2) (Z:ZS S1 S2 z TI TO i1 i2 .none j j l H s.heap) (hx:xs[j]?=none)
  (hQ:∀h',(∀b o,b≠z->b≠i1->s.heap.get? b=ae o->h'.get? b=ae o)->Q none {s with heap:=h'}):a_ c.M A' (vC (.ref z)) Q E s:=by
 have hT:s.TypeIs (.ref z) "zip":=(ao _ Z.1 rfl);have hz:=Z.1
 show aJ (A9 (ym (name:=Str.ofString "__next__") hT Lw
  (yn Lw hT ajp ?_ (ajq _))))
 show SU z (.ref i1) (.ref i2) TO hz Z.2 λbf zl qQ=>?_;show (?_:a_ _ _ (forIn [(dp i1,0),(.ref i2,1)] ((none,()):ZT) (zb z (.ref TI) (.ref i1) (.ref i2) TO) >>=zr z (.ref TI) (.ref i1) (.ref i2) TO) _ _ _);show aJ ?_
 rewrite [A6]
 show aJ (aJ (K7 ?_));show aJ (n1.5 (s:={s with heap:=bf}) hh (n1.3 Z.4 (yV hz zl rfl rfl qQ) Z.7.1 (ao _ hz rfl)) hx λcn e x2 x'=>aA x' λoe ge ce=>?_);have Ac:oy cn z TI TO .ellipsis:=x2 _ _ Z.7.1 zl;have nez:e≠z:=λw=>by rw [w,Ac] at ge;injection ge with jC;subst jC;simp at ce
 show Lv (s:={s with heap:=cn}) Ac (dY ..) λd_ J M5=>aJ (KQ (T:="StopIteration") (b:=ai) (ao oe (M5.extBut _ _ nez ge) ce) U7 ?_);show bg (hQ _ λb o Dq yG g=>M5.extBut _ _ Dq (x2 _ _ yG (qQ.extBut _ _ Dq g)))
end
end
end
section
section
variable {c:Cx} {n:ar} {sc:bA} {ρ aO j7:ah (ak×AV)} {H H' dR:aj}
theorem g8.soft (x:g8 H h I) (S:cG (λx=>x=z) h h') (ne:z≠I):g8 H h' I:=by
 show j3 x.2 λo T vs g cc d nf r=>eO x.l9 λo' g' f1 f2 f3=>?_;injection (g).symm.trans g' with ct;subst ct
 show ⟨x.1,o,T,vs,S.get g (bI ne) f3,cc,d,nf,r⟩
theorem Q7 (hT:(T=="frame")=au) (S:cG (λx=>x=z) h h') (hz:∃o,h.get? z=ae o/\c_ o=ai) (x:∃xs m,h.get? l=ae ⟨.type T,none,.seq xs m,#[]⟩/\Fz H l/\Vs H h items xs.toList):
  ∃xs m,h'.get? l=ae ⟨.type T,none,.seq xs m,#[]⟩/\Fz H l/\Vs H h' items xs.toList:=by
 show cQ x λxs m g f r=>aA hz λoz gz fz=>?_
 have hF:cO (⟨.type T,none,.seq xs m,#[]⟩:eU)=au:=by
  show (?_:(lE T==lE "frame")=au);have:T≠"frame":=by simpa using hT
  simpa using this
 show (cI xs m (S.get g (λq=>?_) hF) f (S.vs (λb o p e=>by rw [p,gz] at e;injection e with et;subst et;show fz) r));subst q;rw [g] at gz;injection gz with eR;subst eR;injection fz
theorem Ì {items} (hit:s.heap.IsTupleIter it t i) (ht:s.heap.IsTuple t items) (hx:items[i]?=ae x)
  (hQ:∀h',h'.IsTupleIter it t (i+1)->iZ it s.heap h'->Q x {s with heap:=h'}):a_ c.M A (yA (.ref it)) Q E s:=by
 show cR (id hit) λo ho hc hd=>cR ht λol Au J pz=>?_;show bj pz λnl zE=>?_
 show aJ (ym (name:=Str.ofString "__next__") hit.typeIs Lx
  (yn Lx hit.typeIs ajr ?_ (ajs _)))
 show (?_:a_ _ _ (tJ (.ref it) 0 >>=_) _ _ s);show aJ (ku ho hd (x:= .ref t) rfl ?_);show aJ (ku ho hd (x:= .int i 0) rfl ?_);show aJ (E9 Au zE ?_);simp only [vL,hx];show aJ (vJ ho hd (eY _) (bg (ao x rfl (bg (hQ _ ?_ (Fm ..))))))
 show (bV _ (jK _ ho (A3 (tT hd _))) ((Ky ..).trans hc) (by
  rewrite [tT hd];simp [lD]))
theorem abF {items} (hh:A.handled=none) (hit:s.heap.IsTupleIter it t i) (ht:s.heap.IsTuple t items) (hx:items[i]?=none)
  (hE:∀h' e,A8 it s.heap h'->(∃o,h'.get? e=ae o/\o.cls= .type "StopIteration")->E (.ref e) {s with heap:=h'}):a_ c.M A (yA (.ref it)) Q E s:=by
 show cR (id hit) λo ho hc hd=>cR ht λol Au J u_=>?_;show bj u_ λnl zE=>?_
 show aJ (ym (name:=Str.ofString "__next__") hit.typeIs Lx
  (yn Lx hit.typeIs ajr ?_ (ajs _)))
 show (?_:a_ _ _ (tJ (.ref it) 0 >>=_) _ _ s);show aJ (ku ho hd (x:= .ref t) rfl ?_);show aJ (ku ho hd (x:= .int i 0) rfl ?_);show aJ (E9 Au zE ?_);simp only [vL,hx];show aJ (mf (aJ (vJ ho hd (kX _) ?_)));show aJ ?_;show aJ (vw ?_ (by size_fits));show aJ (m:=U4 _ _) (kW (a:=kC) (by first|rfl|(rw [U4];rfl)) ?_);show vw ?_ (by size_fits);show aJ (aib ?_);first|rewrite [show A.in1.handled=none from hh]|rewrite [hh]
 show aJ (bg (U1 ?_));show hE _ _ (((Fm ..).extBut.push _).push _) (ao _ (fG _ rfl) rfl)
theorem NV:rp c (.lst l) H l:=λA s v Q E R y h=>by
 show gU y ?_;intro a m xs dD fz g r;exists dD;have hz:=fv s.heap
 show KR (bV _ g rfl (dM m rfl)) (h s.heap.objs.size (λi H' h'=>g8 H' h' s.heap.objs.size/\h'.IsListIter s.heap.objs.size a i/\∃xs m,h'.get? a=ae ⟨.type "list",none,.seq xs m,#[]⟩/\Fz H' a/\Vs H' h' l xs.toList) _ ⟨λx=>⟨x.1.1,x.1.l9⟩,?_,?_,?_,?_⟩
  (aP (sD R ⋯ ⋯) (bV _ (fG _ rfl) rfl rfl) (cI xs m (eE _ _ g) fz (Vs.keep r (xU eE)))) hz (.grow R eE))
 ·intro i H1 h1 H2 h2 Ex ⟨x,⟨o,e,cc,d⟩,src⟩ k ne;have f3:cO o=au:=by unfold cO;exists cc;rfl
  have f2:dT o=au:=by unfold dT;exists d;rfl
  show (aP (x.keep k ne) (bV o ((k.g7 ne e x.1 f3 f2).2) cc d) (CK ⋯ k ne src))
 ·intro i H1 h1 h2 z ⟨x,⟨o,e,cc,d⟩,src⟩ S ne hz;have f3:cO o=au:=by unfold cO;exists cc;rfl
  show (aP (x.soft S ne) (bV o (S.get e (bI ne) f3) cc d) (Q7 ⋯ S hz src))
 ·intro A1 i H1 s1 b Q1 E1 ⟨x,hit,src⟩ hi hq;show cQ (id src) λrq m1 g1 f1 r1=>aA (r1.get hi) λu hu yu=>wpAny_nextOf_list_item hit (bV _ g1 rfl (dM m1 rfl)) (by simpa using hu) λh' hY sb=>aM (Ir x hY ⟨i,hit⟩ sb) λx' S'=>hq h' _ u (cG.wJ x S' (.cons yu .nil)).ro.1 (aP x' hY (Cb x S' ⋯ src)) S'
 ·intro A1 i H1 s1 Q1 E1 hh ⟨x,hit,src⟩ hi hq;show cQ src λrq m1 g1 f1 r1=>wpAny_nextOf_list_end hh hit (bV _ g1 rfl (dM m1 rfl)) ?_ hq;rw [tV] at hi
  rewrite [vM];exists Array.length_toList.symm;exists r1.length;show hi
theorem Ws:rp c (.tup l) H l:=λA s v Q E R y h=>by
 show gU y ?_;intro a m xs d7 fz g r;exists d7;have hz:=fv s.heap
 show aif (bV _ g rfl (dM m rfl)) (h s.heap.objs.size (λi H' h'=>g8 H' h' s.heap.objs.size/\h'.IsTupleIter s.heap.objs.size a i/\∃xs m,h'.get? a=ae ⟨.type "tuple",none,.seq xs m,#[]⟩/\Fz H' a/\Vs H' h' l xs.toList) _ ⟨λx=>⟨x.1.1,x.1.l9⟩,?_,?_,?_,?_⟩
  (aP (sD R ⋯ ⋯) (bV _ (fG _ rfl) rfl rfl) (cI xs m (eE _ _ g) fz (Vs.keep r (xU eE)))) hz (.grow R eE))
 ·intro i H1 h1 H2 h2 Ex ⟨x,⟨o,e,cc,d⟩,src⟩ k ne;have f3:cO o=au:=by unfold cO;exists cc;rfl
  have f2:dT o=au:=by unfold dT;exists d;rfl
  show (aP (x.keep k ne) (bV o ((k.g7 ne e x.1 f3 f2).2) cc d) (CK ⋯ k ne src))
 ·intro i H1 h1 h2 z ⟨x,⟨o,e,cc,d⟩,src⟩ S ne hz;have f3:cO o=au:=by unfold cO;exists cc;rfl
  show (aP (x.soft S ne) (bV o (S.get e (bI ne) f3) cc d) (Q7 ⋯ S hz src))
 ·intro A1 i H1 s1 b Q1 E1 ⟨x,hit,src⟩ hi hq;show cQ (id src) λrq m1 g1 f1 r1=>aA (r1.get hi) λu hu yu=>Ì hit (bV _ g1 rfl (dM m1 rfl)) (by simpa using hu) λh' hY sb=>?_
  obtain ⟨x',S'⟩:=t7 x sb (by
   show cR (id hY) λo' e' c' d'=>cR (id hit) λo e cc d=>(ao o' e' (λo2 e2=>by rw [e] at e2;injection e2 with fD;subst fD;show ⟨c'.trans cc.symm,_,d'⟩)))
  show hq h' _ u (cG.wJ x S' (.cons yu .nil)).ro.1 (aP x' hY (Cb x S' ⋯ src)) S'
 ·intro A1 i H1 s1 Q1 E1 hh ⟨x,hit,src⟩ hi hq;show cQ src λrq m1 g1 f1 r1=>abF hh hit (bV _ g1 rfl (dM m1 rfl)) ?_ hq;rw [tV] at hi
  rewrite [vM];exists Array.length_toList.symm;exists r1.length;show hi
theorem ė (hx:yp x="str_ascii_iterator"):rp c (.str x) H (j6 x):=λA s v Q E R y h=>by
 show bj y ?_;intro t eM;exists eM;have hz:=fv s.heap
 have C8:∀i,(j6 x)[i]?=none->x.cps[i]?=none:=λi hi=>by
  rw [tV] at hi
  rewrite [vM];simpa [j6] using hi
 have IJ:∀(i:ar) (b:AV),(j6 x)[i]?=ae b->∃k,x.cps[i]?=ae k/\b=AV.str ⟨#[k]⟩:=λi b hi=>by
  rw [j6,mi,yo,Fs] at hi;show aA hi λk a e=>?_;show (ao k a e.symm)
 show aih ?_;exists hx
 show h s.heap.objs.size (λi H' h'=>g8 H' h' s.heap.objs.size/\h'.IsStrIter s.heap.objs.size "str_ascii_iterator" x t i) _ ⟨λx=>⟨x.1.1,x.1.l9⟩,?_,?_,?_,?_⟩
  ⟨sD R ⋯ ⋯,(bV _ (fG _ rfl) rfl rfl)⟩ hz (.grow R eE)
 ·intro i H1 h1 H2 h2 Ex ⟨x,⟨o,e,cc,d⟩⟩ k ne;show eO x.l9 λo' g' J f2 f3=>?_;rw [e] at g';injection g' with jb;subst jb
  show ⟨x.keep k ne,(bV o ((k.g7 ne e x.1 f3 f2).2) cc d)⟩
 ·intro i H1 h1 h2 z ⟨x,⟨o,e,cc,d⟩⟩ S ne hz;show eO x.l9 λo' g' J f2 f3=>?_;rw [e] at g';injection g' with j9;subst j9
  show ⟨x.soft S ne,(bV o (S.get e (bI ne) f3) cc d)⟩
 ·intro A1 i H1 s1 b Q1 E1 ⟨xi,hit⟩ hi hq;show aA (IJ i b hi) λk hk i9=>?_;subst i9;show wpAny_nextOf_ascii_item hit hk λh' hY sb=>?_
  obtain ⟨x',S'⟩:=t7 xi sb (by
   show cR (id hY) λo' e' c' d'=>cR (id hit) λo e cc d=>(ao o' e' (λo2 e2=>by rw [e] at e2;injection e2 with jC;subst jC;show ⟨c'.trans cc.symm,_,d'⟩)))
  show hq h' _ _ ⟨_,rfl⟩ ⟨x',hY⟩ S'
 ·intro A1 i H1 s1 Q1 E1 hh ⟨x,hit⟩ hi hq;show wpAny_nextOf_ascii_end hh hit (C8 i hi) hq
def LZ (c:Cx) (n:ar) (sc:bA) (target:bR) (body:ah fc) (TO:aF) (Q:AF->ah (ak×AV)->aj->Prop) (X:XS):ah (AV×AV)->ah (ak×AV)->aj->Prop
 |[],ρ,H=>Q .next ρ H
 |(u,w)::l,ρ,H=>tF c n sc target (.tup [u,w]) ρ (H.set TO (.otup [u,w])) (λjf aw=>WS c n sc body jf aw
   (λf aO H'=>∃aG,H'=aG.set TO (.otup [u,w])/\aG TO=none/\match f with| .next=>LZ c n sc target body TO Q X l aO aG| .ret v=>Q (.ret v) aO aG)
   (λx aO H'=>∃aG,H'=aG.set TO (.otup [u,w])/\aG TO=none/\X x aO aG)) (λx aO H'=>∃aG,H'=aG.set TO (.otup [u,w])/\aG TO=none/\X x aO aG)
theorem D6 {P:aF->Prop} {h:bF} {a b:AV} {vs:ah aI} {G:ah aI->Prop} (y:aZ P h [a,b] vs) (k:∀v1 v2,VR P h a v1->VR P h b v2->G [v1,v2]):G vs:=by
 rcases y with ⟨v1,_,rfl,y1,v2,_,rfl,y2,rfl⟩;show k v1 v2 y1 y2
theorem Ô {xs ys:ah AV} {i:ar} {a:AV} (hlen:xs.length=ys.length) (hi:xs[i]?=ae a):∃b,i < xs.length/\ys[i]?=ae b/\(xs.zip ys).drop i=(a,b)::(xs.zip ys).drop (i+1):=by
 show aM (Ef hi) λh J=>?_;have hb:=qH (hlen▸h);show ⟨_,h,hb,(Ef (List.getElem?_zip_eq_some.mpr ⟨hi,hb⟩)).2⟩
theorem agP {elts:ah bR} {k0:ar} {gF:fU} {e1 e2:bR} {p xO pos:fU} {body:ah fc} {Q:AF->ah (ak×AV)->aj->Prop} {X:XS} (c8:c.qt=ai) (hg:jc sc "zip"=ai) (hv:hV c.K "zip" (.ty "zip")=ai) (hs:gy [e1,e2]=ai)
  (h:lT c n sc [e1,e2] xO ρ H (λl aw=>∃a b xs ys,l=[a,b]/\rp c a aw xs/\rp c b aw ys/\xs.length=ys.length/\∀TO,aw TO=none->LZ c n sc (.Tuple elts k0 gF) body TO Q X (xs.zip ys) ρ aw) (λx H'=>X x ρ H')):
  cP c n sc (.For (.Tuple elts k0 gF) (.Call (.Name "zip" p) [e1,e2] [] xO) body [] pos) ρ H Q X:=λA env s C=>by
 show Py ?_ (by intro J;rfl);show zB (wd C hg hv (λJ y=>y) ?_);show zZ hs rfl (XW.oJ C.2 (.refl C.1.1) (h A env s C) λvs aG aL bh da x'=>aA x' λl yl gA=>BY gA λa b xs ys hl ia ib hlen hz=>⟨bh.4.1,?_⟩);subst hl;have kQ:=C.keep bh;show D6 (G:=λvs=>aE _ _ (gN (.type "zip") vs) _ _ _) yl λv1 v2 y1 y2=>?_;show up (Yi bh.4 y1 y2 ia ib λz TI TO i1 i2 S1 S2 bz n1 n2 fr cJ Z=>up (wpAny_pyIter_zip Z.1 ?_));have qb:s.heap.get? z=none/\s.heap.get? TO=none/\s.heap.get? i1=none/\s.heap.get? i2=none:=(iT (bh.old _ fr.1) (bh.old _ fr.2.1) (bh.old _ fr.2.2.1) (bh.old _ fr.2.2.2));have f7:CL c n sc A env H s ρ (aG.set TO (.otup [.none,.none])) bz ρ:=(CL.start C).own (bh.trans cJ);have Mh:aG TO=none:=bh.4.nq fr.2.1;have sub:∀{K:aj} {l:ah AV},K TO=none->Sub K (K.set TO (.otup l)):=λe=>uN e (by simp)
 show OQ (λk e_=>∃i gH K p q,i+k=xs.length/\CL c n sc A env H s ρ (K.set TO (.otup [p,q])) e_ gH/\K TO=none/\ZS S1 S2 z TI TO i1 i2 .none i i [p,q] (K.set TO (.otup [p,q])) e_.heap/\LZ c n sc (.Tuple elts k0 gF) body TO Q X ((xs.zip ys).drop i) gH K)
  (λk e_ x'=>Iy x' λi gH K p q pP mM nK Ao ls=>?_) xs.length (C_ 0 ρ aG .none .none (by simp) f7 Mh Z (hz TO Mh))
 cases hi:xs[i]? with
 |none=>
  have oS:(xs.zip ys).drop i=[]:=vN (by exists List.length_zip;exists hlen.symm;rewrite [aiM];show List.getElem?_eq_none_iff.mp hi);rw [oS] at ls;show up (Æ (C.1.5 c8) n1 n2 Ao hi λh' hx=>xQ ?_);show eO ((n1.1 Ao.4).2) λo1 g1 q1 q2 q3=>?_
  have nz:∀b o,e_.heap.get? b=ae o->(c_ o=au\/dT o=ai)->b≠z/\b≠i1:=λb o e w=>by
   show ⟨λu=>?_,λu=>?_⟩
   ·rw [u,Ao.1] at e;injection e with mH;subst mH;rcases w with w|w <;> injection w
   ·rw [u,g1] at e;injection e with qV;subst qV
    rcases w with w|w
    ·rw [q1] at w;injection w
    ·injection (q2).symm.trans w
  have kn:KN (K.set TO (.otup [p,q])) e_.heap (K.set TO (.otup [p,q])) h':=λb o e w=>(aP id id (λJ=>(i_ o (hx b o (nz b o e w).1 (nz b o e w).2 e) rfl rfl (λJ=>rfl))));have ry:=(mM.3.mO kn).forget (sub nK);have SS':SR c (fw env) H s (K.set TO (.otup [p,q])) {e_ with heap:=h'}:=⟨mM.2.1,mM.2.2,mM.2.3,mM.2.4.keep λb o e w zz=>?_,λb o e=>?_,λb o e=>?_⟩
  ·show (QS.mk K .next gH (SS'.forget (sub nK)) rfl ry ls)
  ·by_cases u:b=z\/b=i1
   ·rcases zz with zz|zz
    ·rcases u with u|u
     ·rw [u,Ao.1] at e;injection e with mU;subst mU;injection zz
     ·rw [u,g1] at e;injection e with rj;subst rj;rw [q1] at zz;injection zz
    ·rcases u with u|u
     ·rw [u,n_ C.1.1.1 qb.1] at zz;injection zz
     ·rw [u,n_ C.1.1.1 qb.2.2.1] at zz;injection zz
   ·show hx b o (λw=>u (.inl w)) (λw=>u (.inr w)) e
  ·have kp:=mM.2.nA.5 b o e;show (aP kp.1 kp.2.1 (λst=>?_));show aA (kp.2.2 st) λo' g' r=>(ao o' (hx b o' (mP e qb.1) (mP e qb.2.2.1) g') r)
  ·show bj (mM.2.6 b o e) λo' g'=>⟨o',hx b o' (mP e qb.1) (mP e qb.2.2.1) g'⟩
 |some a=>
  show cR (Ô hlen hi) λb jO hb oS=>?_;rw [oS] at ls;show up (abP mM n1 n2 Ao (aP qb.1 qb.2.2.1 qb.2.2.2) hi hb λT kh kK jy y=>?_);rw [cV] at kK jy y;show up (wpAny_letOwnedTupleGo_zip jy.1 λh' ju sb=>?_);have F:=yV jy.1 ju rfl rfl sb;have rB:=kK.fld (tk:=kh.toks) qb.1 (bV _ jy.1 rfl rfl) F
  have y6:V (K.set TO (.otup [a,b])) h' (.tup [a,b]) (.ref T):=by
   show (F.vs (l:=[.tup [a,b]]) (vs:=[.ref T]) (λx ox p g=>by rw [p,jy.1] at g;injection g with qZ;subst qZ;rfl) (.cons y .nil)).ro.1
  have Ea:TI≠z:=λw=>by have:=jy.2;unfold r9 at this;rw [w,jy.1] at this;simp at this
  have w1:=n1.3 jy.4 F jy.7.1 (ao _ jy.1 rfl);have w2:=n2.3 jy.5 F jy.7.2.1 (ao _ jy.1 rfl);have t6:r9 h' TI (.ref i1) (.ref i2):=F.get jy.2 Ea rfl
  have bad:∀{e:aI} {s':aU} {K':aj} {D_:ah (ak×AV)} {x:AX} {l:ah AV},CL c n sc A env H s ρ (K'.set TO (.otup l)) s' D_->XR s.heap (K'.set TO (.otup l)) s'.heap x e->K' TO=none->X x D_ K'->fF c.M A env (sA c.M A env (ES c env H s X)) e s':=λL xr nk z=>
   yQ ⟨L.1,L.2.forget (sub nk),L.3.forget (sub nk)⟩ (xr.forget (sub nk)) z
  show cq (ls A env _ _ rB.ce y6) (λJ zh x'=>cQ x' λta MZ um uj aeS=>?_) λe zh x'=>gU x' λta x MZ um yx uj gA=>cR gA λK' eK nk zx=>?_;rotate_left
  ·subst eK;show bad (rB.step um.jN uj) (yx.lo rB.2.6) nk zx
  have q_:=rB.step um.jN uj;show cq (aeS A env zh q_.ce) (λf aeP x'=>QS.el x' λĳ af GS DU ff BK oG=>cR oG λK' eK nk Oo=>?_) λe aeP x'=>ES.el x' λĳ x GS DU yx BK gA=>cR gA λK' eK nk zx=>?_;rotate_left
  ·subst eK;show bad (q_.step DU.jN BK) (yx.lo q_.2.6) nk zx
  subst eK;have ub:=q_.step DU.jN BK;have kp:=(um.trans DU).5;have nx:=rB.3.jB;induction af using AF.casesOn with
  |next=>
   have ff:f= .next:=ff;exists ff;show (ao (k - 1) (ED pP jO) (C_ (i+1) GS K' a b (EC pP jO) ub nk ⟨(kp.g7 nx ju jy.6.1 rfl rfl).2,(kp.g7 nx t6 jy.6.2 rfl rfl).2,aj.aW ..,n1.2 w1 kp nx,n2.2 w2 kp nx,⟨(kp.g7 nx ju jy.6.1 rfl rfl).1,(kp.g7 nx t6 jy.6.2 rfl rfl).1⟩,jy.7⟩ Oo))
  |ret v=>
   show aA ff ?_;intro u jH yu;exists jH;show (QS.mk K' (.ret v) GS (ub.2.nA.forget (sub nk)) (ao u rfl (yu.forget (sub nk))) (BK.forget (sub nk)) Oo)
end
end
section
section
variable {c:Cx} {n:ar} {sc:bA} {ρ aO j7:ah (ak×AV)} {H H' dR:aj}
theorem Y9 (name:ak) (o:eU):(FP name o).cls=o.cls:=by
 show (bD Obj.cls (congrFun (congrFun FQ _) _)).trans ?_;unfold FT;rcases o with ⟨c,d,t,s⟩
 induction t using Kr with
 |dict es m=>dsimp only;generalize es.findIdx? _=r;induction r using eL <;> rfl
 |_=>rfl
theorem ae2 (hn:s.heap.Ns a m) (hs:(m name).isSome=ai)
  (h:∀h' m',h'.Ns a m'->iZ a s.heap h'->(∀o,s.heap.get? a=ae o->∃o',h'.get? a=ae o'/\o'.cls=o.cls)->Q ai {s with heap:=h'}):a_ M A (nsDel a name) Q E s:=by
 show gU (id hn) λo es ep ho hd hk hm=>?_
 have Mj:es.any (λx=>x.refKey)=au:=by
  rewrite [ah2];intro e he;show dP (hk e he) λn t h=>?_;simp [UP,h]
 have YT:(m name).isSome=es.any (λx=>x.key.isStr name):=by
  exists (hm name).symm;simp only [nsFind,findBy,Ly]
  rewrite [pM];rw [Array.find?_isSome,Array.any_eq_true]
  constructor
  ·rintro ⟨x,hx,hp⟩;rcases Array.mem_iff_getElem.mp hx with ⟨i,hi,rfl⟩;show ⟨i,hi,hp⟩
  ·rintro ⟨i,hi,hp⟩;show (ao _ (Array.getElem_mem hi) hp)
 have Y7:nsHas name o=pure ai:=by
  exists nsHas_eq;unfold nsHasByArray;exists hd;show (?_:(if (es.any λx=>x.key.isStr name)=ai then _ else _)=_);exists YT.symm;exists hs;rfl
 show aJ (A4 ho ?_);exists Y7;show aJ (bg ?_);show aJ (UU ho (bg ?_))
 have key:∃m',(s.heap.update a (FP name)).Ns a m'/\∃o',(s.heap.update a (FP name)).get? a=ae o'/\o'.cls=o.cls:=by
  have pV:=Y9 name o;rcases o with ⟨cl,d,dt,sl⟩
  subst hd;cases hi:es.findIdx? (λx=>x.key.isStr name) with
  |some i=>
   have hg:=jK (FP name) ho (by simp only [FQ,FT,hi] <;> rfl);show (ao _ (i5 _ _ (ep+1) hg (by simp only [FQ,FT,hi] <;> rfl) (hk.erase i) (λJ=>rfl)) (ao _ hg pV))
  |none=>
   have hg:=jK (FP name) ho (by simp only [FQ,FT,hi] <;> rfl);show (ao _ (i5 _ _ ep hg (by simp only [FQ,FT,hi] <;> rfl) hk (λJ=>rfl)) (ao _ hg pV))
 show aA key λm' ç pz=>?_;show aA pz λo' g' c'=>?_;show h _ m' ç (Fm ..) λo2 e2=>by rw [ho] at e2;injection e2 with ct;subst ct;show (ao o' g' c')
theorem ο (R:cN c H s.heap) (er:cF H s.heap env ρ) (hk:env.kindOf x=ae .local)
  (h:∀s',SR c (fw env) H s H s'->cF H s'.heap env []->Q () s'):a_ c.M A (do AN env x .none;UA env x pos) Q E s:=by
 show aJ (wpAny_bindName (rh (av:= .none) R er (by exists hk;rfl) rfl λaC aX lg=>?_));show K7 ?_;show aJ (EY (aJ ?_));unfold deleteName;have hp:(env.scope.kind== .class||(env.scope.kind== .module && env.locals !=env.globals))=au:=by exists er.1;rfl
 rw [hk,hp];show aA lg.6 λm hn hm=>aA (hm x _ lookup_cons_self hk) λv hv J=>aA lg.5 λoL gL dL=>?_;have pv:H env.locals=ae .priv\/(Fz H env.locals/\(cO oL=ai\/dT oL=ai)):=lg.11.imp id λx'=>aM x' λz1 gA=>aA gA λo z2 z3=>⟨z1,.inl (by rw [gL] at z2;injection z2 with et;subst et;show z3)⟩;show aJ (ae2 hn (by exists hv;rfl) λh' m' dU sb hc=>?_);show bg (EY ?_);show aA (hc oL gL) λlV lL tE=>?_;have oE:jq lV.data:=by show fM dU λo es ep q1 q2 J=>?_;injection (lL).symm.trans q1 with eR;exists eR;show (jF es ep q2)
 have fl:∀o:eU,jq o.data->c_ o=au:=λo ⟨es,n,q⟩=>by unfold c_;exists q;rfl
 have S:SR c (fw env) H aC H {aC with heap:=h',toks:=aC.toks}:= .one aX.4 gL (pv.imp (λq=>⟨q,fl _ dL⟩) id) (.inl rfl) sb (i_ lV lL tE (λJ=>oE) ((fl _ oE).trans (fl _ dL).symm));show h _ (aX.trans S) ⟨er.1,er.2,er.3,er.4,(ao lV lL oE),(ao _ dU (λz az e q=>(by injection e))),λz cz e=>?_,λz az e q=>(by injection e),er.9,er.10,lg.11.imp id λx'=>aM x' λz1 gA=>aA gA λo z2 z3=>⟨z1,lV,lL,by rw [gL] at z2;injection z2 with fD;subst fD;show (qM tE).trans z3⟩⟩;show fP (lg.7 z cz e) λbW b d=>?_;show bj bW λu a=>?_;show (aP ⟨u,a.sameBut sb d⟩ b d)
theorem cB.lb {Ex:aF->Prop} {t:aN} {lo:bF} {h h':bF} {x:AX} {e:aI} (q:cB t lo H h x e) (k:KP Ex H h H' h') (ne:nE Ex H h):cB t lo H' h' x e:=by
 show cB.el q λea d es n vs sl a1 a0 a2 a3 a4 a5 a6 a7 a8 dD a9=>?_;show cQ dD λu l c1 c2 c3=>?_;have pN:dC H' h' l u:=c2.mono λb o _ f g q ⟨vs,fl⟩=>k.g7 ne g f q (by unfold dT;exists fl;rfl);show (uK ea d es n vs sl a1 a0 ((k.g7 ne a4 a2 rfl rfl).1) ((k.g7 ne a6 a3 rfl rfl).1) ((k.g7 ne a4 a2 rfl rfl).2) a5 ((k.g7 ne a6 a3 rfl rfl).2) a7 (Vs.lb a8 k ne) (cI u l c1 pN c3) (a9.imp (λy=>?_) id));show mE.el y λT oT ts f b1 b0 b2 b3 b4 b5 b6 b7=>?_;have ic:dT oT=au:=by unfold dT;exists b6;rfl
 show (xm T oT ts f b1 b0 b2 ((k.g7 ne b4 b3 b5 ic).1) ((k.g7 ne b4 b3 b5 ic).2) b5 b6 b7)
noncomputable def rF (K:iI) (C:aF) (name:ak):aN:=kB K (.ref C) "__getattribute__"==ae (ae (.builtin "BaseException.__getattribute__")) && kB K (.ref C) "__getattr__"==ae none && qI K C (.type "BaseException")==ae ai && kB K (.ref C) name==ae none && vH K C
theorem ac7 {prog:rU} {w:bQ} {A:eX} {E:aI->aU->Prop} {s:aU} {K:iI} {x C:aF} {ox:eU} {od:aR eU} {name:ak} {expr:aN} {Q:aI->aU->Prop} {v:aI} (X:K.In s.heap) (I:InstAt s.heap x ox C od) (hga:kB K (.ref C) "__getattribute__"=ae (ae (.builtin "BaseException.__getattribute__"))) (ł:kB K (.ref C) "__getattr__"=ae none) (hm:qI K C (.type "BaseException")=ae ai)
  (hf:findObj K C od name=ae (.value v)) (hh:Kx v=ai) (h:Q v {s with toks:=s.toks+1}):a_ (bB prog w) A (AU (.ref x) name expr) Q E s:=by
 rcases s with ⟨hp,g,d,t,os⟩
 have L0:=I.type (M:=bB prog w);have L1:=Ba (M:=bB prog w) X hga;have L2:=Ba (M:=bB prog w) X ł;have L3:=Fw (M:=bB prog w) X hm;have L4:=looks_find (M:=bB prog w) X I hf;have hx0:(expr && onTheHeap (FU "BaseException.__getattribute__"))=au:=by induction expr using ez <;> rfl
 have Ss:(onTheHeap (dp C) && FU "BaseException.__getattribute__"==FU "object.__getattribute__")=au:=by
  have:(FU "BaseException.__getattribute__"==FU "object.__getattribute__")=au:=by decide+kernel
  rfl
 have hk:builtinKind "BaseException.__getattribute__"=ae .slot:=by decide+kernel
 have akl:splitId "BaseException.__getattribute__"=ae ("BaseException","__getattribute__"):=by decide+kernel
 have iU:∀{A:eX} {Q:gv->aU->Prop} {E:aI->aU->Prop} {nv:aI},Q () ⟨hp,g,d,t+1,os⟩->a_ (bB prog w) A (qF "BaseException.__getattribute__" ⟨[.ref x,nv],[]⟩) Q E ⟨hp,g,d,t+1,os⟩:=λ{A Q E nv} q=>by
  have ha:=F.args_bexc_ga (.ref x) nv;show aJ ?_;show aJ (L0.at (L3.at ?_))
  repeat (any_goals (first|assumption|wp_step))
 show aJ (UT (mY (aJ (L0.at (aJ (L1.at ?_))))));show aJ ?_;show L2.at<|wpAny_bind (A9 (mY ?_))
 unfold callGetattribute;rw [bo (by exists hx0;decide)];show (?_:a_ _ _ (gN _ [.ref x,_]) _ _ _);show AY (K6 F.excAttr_ValueError.ga.plain F.entry_bexc_ga (iU ?_));show aJ (bg ?_);show aJ (bg (aJ (L0.at (aJ (L4.at ?_)))));show bg ?_;dsimp only;exists handedOut_of hh;show bg h
theorem aew {A:eX} {t:aN} {lo:bF} {s:aU} {av:AV} {x:AX} {ea:aF} {name:ak} {ex:aN} {E:aI->aU->Prop} {Q:aI->aU->Prop} (X:c.K.In s.heap) (xr:cB t lo H s.heap x (.ref ea))
  (ok:rF c.K x.C name=ai) (g:pX ["what","at"] [x.jt,x.at_] name=ae av) (hb:∀i,av≠.bi i) (h:∀u,V H s.heap av u->Q u {s with toks:=s.toks+1}):a_ c.M A (AU (.ref ea) name ex) Q E s:=by
 show WK xr λgj d es n vs sl a1 a0 a2 a3 a4 a5 a6 a7 a8 a9=>?_;injection a1 with jb;subst jb
 have I:InstAt s.heap ea ⟨.ref x.C,ae d,.fields vs,sl⟩ x.C (ae ⟨.type "dict",none,.dict es n,#[]⟩):=⟨a4,rfl,rfl,a6⟩;simp only [rF,d9,beq_iff_eq] at ok;show aM ok λd7 o3=>?_;show aM d7 λeM o2=>?_;show aM eM λi9 om=>?_;show aM i9 λo1 og=>?_;show aA (PI a7 a8 g) λe fe ye=>ac7 X I o1 og om (RZ o3 o2 fe) (Nf ye hb) (h _ ye)
theorem Tf {rest:ah (aN×cC aI)}
  (h:aE M A x (λv aC=>aE M A (kU rest) (λvs aL=>Q (v::vs) aL) E aC) E s):aE M A (kU ((au,x)::rest)) Q E s:=by
 show aS (cq h (λv aC bf=>?_) λJ J x=>x);show aS (bw (aS (cE (cq bf (λvs aL cn=>bw cn) λJ J x=>x))))
theorem agu {A:eX} {env:eJ} {s:aU} {lo:bF} {tt:aN} {x:AX} {ea:aF} {oV nm:ak} {p2 p3 p4 p5 p6 p7 p8:fU} {D D2 fI:aF} {sI:bA} {t:tW} {w:ak} {k:aq} (f6:jc sc oV=ai) (zC:hV c.K oV (.ref D2)=ai) (uC:kg c.K D2=ai) (yJ:jW c.K (.ref D2)=ai)
  (ok:wg c D2 fI sI t) (hn:2<=n) (hl:ni sc nm=ai) (f1:rF c.K D "what"=ai) (f2:rF c.K D "at"=ai) (C:CE c n sc A env ((nm,.ref ea)::ρ) H s.heap) (x6:cB tt lo H s.heap x (.ref ea)) (hC:x.C=D) (hw:x.jt= .str w) (zL:x.at_= .int k):
  aE c.M A (mX (.Raise (ae (.Call (.Name oV p2) [.Attribute (.Name nm p3) "what" p4,.Attribute (.Name nm p5) "at" p6] [] p7)) none p8) env) (λJ J=>dV) (ES c env H s (λax J H'=>ax=⟨D2,.str w,.int k⟩/\H'=H)) s:=by
 show bj (aix hn) λn jH=>?_;subst jH;show aS (up<|wpAny_standAt (PG C ?_));show aS (cq (zB (Q:=λv aC=>∃ea aw ax,v= .ref ea/\SR c bL H s aw aC/\XR s.heap aw aC.heap ax (.ref ea)/\kg c.K ax.C=ai/\ax=⟨D2,.str w,.int k⟩/\aw=H) (E:=ES c env H s (λax J H'=>ax=⟨D2,.str w,.int k⟩/\H'=H)) ?_) (λv aC z=>aS (up<|wpAny_standAt (bw z))) λJ J z=>z);show wd C f6 zC (λJ y=>y)<|zZ rfl yJ ?_
 exists rM rfl;exists rM rfl
 have G1:∀{Q1:aI->aU->Prop} {E1:aI->aU->Prop} (q5 q6:fU) (name:ak) (av:AV) (tk:ar),rF c.K D name=ai->pX ["what","at"] [x.jt,x.at_] name=ae av->(∀i,av≠.bi i)->
   (∀u,V H s.heap av u->Q1 u {s with toks:=tk+1})->aE c.M A (bX (.Attribute (.Name nm q5) name q6) env) Q1 E1 {s with toks:=tk}:=λq5 q6 name av tk ok g hb k=>by
  show MI (up (Er (s:={s with toks:=tk}) C.2 C.3 hl lookup_cons_self ?_)) rfl;show up (aew (s:={s with toks:=tk}) C.1.1.1 x6 (aa hC ok) g hb k)
 show Tf (G1 p3 p4 "what" (.str w) s.toks f1 (by exists hw;rfl) (λi w=>by injection w) λu1 y1=>?_);show Tf (G1 p5 p6 "at" (.int k) (s.toks+1) f2 (by exists zL;rfl) (λi w=>by injection w) λu2 y2=>?_);have e0:(kU (iG p7 (iH [] env)):cC (ah aI))=pure []:=by with_unfolding_all rfl
 show bw ⟨C.1.1.1,?_⟩;have S8:SR c bL H s H {s with toks:=s.toks+1+1}:= .tok C.1.1 _;show up (OV (n:=n) (s:={s with toks:=s.toks+1+1}) (C.keep S8).1 ok (.inl rfl) (.cons y1 (.cons y2 .nil)) λPk gj Aj xr=>(xo gj H _ rfl (S8.trans Aj) (xr.lo S8.6) uC rfl rfl))
theorem aaB {body:ah fc} {cls oV nm:ak} {p p2 p3 p4 p5 p6 p7 p8 t8 pos:fU} {D D2 fI:aF} {sI:bA} {t:tW} {XB X:XS} {Q:AF->ah (ak×AV)->aj->Prop} (hk:jc sc cls=ai) (hg:hV c.K cls (.ref D)=ai) (hD:kg c.K D=ai) (f6:jc sc oV=ai) (zC:hV c.K oV (.ref D2)=ai) (uC:kg c.K D2=ai) (yJ:jW c.K (.ref D2)=ai)
  (ok:wg c.unq D2 fI sI t) (hn:2<=n) (hs:(sc.names.lookup nm==ae .local)=ai) (hl:ni sc nm=ai) (f1:rF c.K D "what"=ai) (f2:rF c.K D "at"=ai) (h:WS c n sc body ρ H Q XB)
  (hx:∀x aO H',XB x aO H'->x.C=D/\qI c.K D (.ref D)=ae ai/\∃w k,x.jt= .str w/\x.at_= .int k/\∀D_,X ⟨D2,.str w,.int k⟩ D_ H'):
  cP c n sc (.Try body [.ExceptHandler (ae (.Name cls p)) (ae nm) [.Raise (ae (.Call (.Name oV p2) [.Attribute (.Name nm p3) "what" p4,.Attribute (.Name nm p5) "at" p6] [] p7)) none p8] t8] [] [] pos) ρ H Q X:=λA env s C=>by
 show QD (cq (h A env s C) (λf aC x'=>QS.el x' λaw af jf aX fr lg q=>?_) λe aC x'=>ES.el x' λaw x jf aX xr lg q=>?_)
 ·induction af using AF.casesOn with
  |next=>have fr:f= .next:=fr;subst fr;show xQ (QS.mk aw .next jf aX rfl lg q)
  |ret a=>show aA fr ?_;intro v mI y;exists mI;show (QS.mk aw (.ret a) jf aX (ao v rfl y) lg q)
 ·show bj xr.isRef λea o9=>?_;subst o9;have jG:CL c n sc A env H s ρ aw aC jf:=(CL.start C).step aX.jN lg;show up<|Dk C.1.1.1 jG.2.old jG.ce xr (λs' S=>jG.hk S.toN) λaL bh kQ I7=>?_
  have eG:=jG.step bh.toN kQ.2;show up<|CW C.1.1.1 eG.ce I7 (λs' S=>eG.hk S.toN) λbz cJ yO nH=>?_
  have f7:=eG.step cJ.toN yO.2;show Mf (TC ?_) λw=>by injection w
  show wd (c:=c.unq) (Ab f7.ce nH.pN) hk hg (λJ y=>y)<|aA nH.ob λo go oc=>fP (hx x jf aw q) λhC hm Zw=>?_;show cQ Zw λw k hw zL hX=>?_
  show up<|Jd f7.2.4.1 go oc hD (aa hC hm) ?_
  show acL<|up<|xn (s:=bz) nH λh5 S5 vg x5=>?_
  have kK:=f7.step (S5.sr (s:=bz) f7.2.4 C.1.1.1 vg).toN (f7.3.nO S5.kp nH.kI);have uy:=Ab kK.ce x5.pN;have kl:env.kindOf nm=ae .local:=by unfold qE;exists C.3;show beq_iff_eq.mp hs
  show AI (up<|rh (av:= .ref ea) uy.1.1 uy.2 (by exists kl;rfl) rfl λtc kM ud=>?_);have rB:=kK.step kM.jN ud;have x6:=cB.lb x5 kM.5 uy.2.jB;have Cc:=Ab rB.ce x6.pN;show Rf (cq (agu (c:=c.unq) f6 zC uC yJ ok hn hl f1 f2 Cc x6 hC hw zL) (λJ J z=>z.elim) λe' zh x'=>j3 x' λta ax MZ um x7 uj q1 q2=>?_);subst q1;subst q2;show bj x7.isRef λea7 JD=>?_;subst JD;have q_:=rB.step um.un.jN uj;have RU:=x7.lo rB.2.6;have F7:lj (A.mark (ae (.ref ea))) ta zh.heap:=Cc.1.2.keep um.5;show up<|Hp C.1.1.1 q_.2.old q_.2.4 RU F7 Cc.4 uj.4 λh8 S8 hP8 x8=>?_
  have T8:=S8.sr (s:=zh) q_.2.4 C.1.1.1 hP8;have ub:=q_.step T8.toN (uj.nO S8.kp RU.kI);show cE (wZ (up (ο ub.2.4 ub.3 kl λPk Aj aaZ=>?_)));have Hb:=ub.step Aj.jN aaZ;have x9:=cB.lb x8 Aj.5 ub.3.jB;show fM x9.J3 λo dO T g dd h1=>?_;show aS (up<|wpAny_field g dd h1 ?_);show aS (up<|xn x9 λh10 O1 Ù x10=>JJ ?_);have NP:=O1.sr (s:=Pk) Hb.2.4 C.1.1.1 Ù;have OO:=Hb.step NP.toN (Hb.3.nO O1.kp x9.kI);show Mv C.1.1.1 OO.2 OO.3 (((F7.keep T8.5).keep Aj.5).keep NP.5) Cc.4 x10.weak (hX _)
end
end
section
abbrev Rh:=ah (ak×AV)
noncomputable def rc (x:ak) (a:AV) (ρ:Rh):Rh:=(x,a)::ρ
noncomputable def rk (b ρ:Rh):Rh:=b++ρ
noncomputable def Tw (names:ah ak) (args:ah AV):Rh:=(names.zip args).reverse
noncomputable def xl (a b:ak) (s t:AV):Rh:=[(a,s),(b,t)]
noncomputable def DM (a b c:ak) (s t u:AV):Rh:=[(a,s),(b,t),(c,u)]
noncomputable def vb (a b c d:ak) (s t u v:AV):Rh:=[(a,s),(b,t),(c,u),(d,v)]
noncomputable def QX (a b c d e:ak) (s t u v w:AV):Rh:=[(a,s),(b,t),(c,u),(d,v),(e,w)]
noncomputable def Hy (a b c d e f:ak) (s t u v w x:AV):Rh:=[(a,s),(b,t),(c,u),(d,v),(e,w),(f,x)]
noncomputable def YS (a b c d e f g:ak) (s t u v w x y:AV):Rh:=[(a,s),(b,t),(c,u),(d,v),(e,w),(f,x),(g,y)]
noncomputable def Xc (a b c d e f g h:ak) (s t u v w x y z:AV):Rh:=[(a,s),(b,t),(c,u),(d,v),(e,w),(f,x),(g,y),(h,z)]
abbrev PQ:=AV->aj->Prop
abbrev PX:=AX->aj->Prop
abbrev PS:=AF->Rh->aj->Prop
set_option genInjectivity false in
structure VK where
 gl:ak->aR AV
 fl:aF->ak->aN
 st:aF->ak->aN
 mt:aF->ak->aR aF
 ex:ak->aR aF
inductive VK.Ok (T:VK) (c:Cx):Prop
 |mk (gl:∀{x a},T.gl x=ae a->hV c.K x a=ai) (co:∀{x a f},T.gl x=ae a->y8 a=ae f->jW c.K f=ai) (fl:∀{C a},T.fl C a=ai->qN c.K C a=ai) (st:∀{C a},T.st C a=ai->xX c.K C a=ai) (mt:∀{C a f},T.mt C a=ae f->vc c.K C a f=ai/\jW c.K (.ref f)=ai) (ex:∀{x D},T.ex x=ae D->hV c.K x (.ref D)=ai/\kg c.K D=ai/\jW c.K (.ref D)=ai/\∃fI sI t,wg c D fI sI t)
def iC {α:Type} (o:aR α) (k:α->Prop):Prop:=match o with|some a=>k a|none=>dV
theorem kc (h:iC o k):∃a,o=ae a/\k a:=by
 induction o using eL with
 |none=>show h.elim
 |some a=>show (ao a rfl h)
def eI (b:aN) (p:Prop):Prop:=fh b p dV
theorem dZ (h:eI b p):b=ai/\p:=by induction b using ez;show h.elim;show ⟨rfl,h⟩
theorem br {p q:Prop} (h1:b=ai->p) (h2:b=au->q):fh b p q:=by induction b using ez;show h2 rfl;show h1 rfl
theorem jE {p q:Prop} (h1:p) (h2:q):fh b p q:=br (λJ=>h1) λJ=>h2
theorem ki {p q:Prop} (h1:b=ai->p) (h2:q):fh b p q:=br h1 λJ=>h2
theorem Aa {p q:Prop} (h1:p) (h2:b=au->q):fh b p q:=br (λJ=>h1) h2
noncomputable def Mn:AV->aN
 | .bi _=>au
 |_=>ai
theorem adz (h:Mn a=ai):∀i,a≠.bi i:=λi e=>by subst e;injection h
set_option genInjectivity false in
structure Cn where
 c:Cx
 n:ar
section
variable (T:VK) (m:Cn)
def DR (a:AV) (H:aj) (Q:aN->aj->Prop) (X:PX):Prop:=match a with
 | .bool b=>Q b H
 |a=>qz m.c m.n a H Q X
def P6 (op:Operator) (a b:AV) (H:aj) (Q:PQ) (X:PX):Prop:=match op with
 | .Add=>(match a with
  | .int x=>(match b with| .int y=>Q (.int (x+y)) H|b=>iP m.c m.n (iY .Add) (.int x) b H Q X)
  | .str x=>(match b with| .str y=>(x++y).length<=bY/\Q (.str (x++y)) H|b=>iP m.c m.n (iY .Add) (.str x) b H Q X)
  | .bytes x=>(match b with| .bytes y=>x.length+y.length<=bY/\Q (.bytes (x++y)) H|b=>iP m.c m.n (iY .Add) (.bytes x) b H Q X)
  | .tup x=>(match b with| .tup y=>x.length+y.length<=bY/\Q (.tup (x++y)) H|b=>iP m.c m.n (iY .Add) (.tup x) b H Q X)
  |a=>iP m.c m.n (iY .Add) a b H Q X)
 | .Sub=>(match a with
  | .int x=>(match b with| .int y=>Q (.int (x - y)) H|b=>iP m.c m.n (iY .Sub) (.int x) b H Q X)
  |a=>iP m.c m.n (iY .Sub) a b H Q X)
 |op=>iP m.c m.n (iY op) a b H Q X
noncomputable def Gn (op:Ks) (x y:aq):aR aN:=match op with
 | .Lt=>ae (decide (x < y))
 | .LtE=>ae (decide (x<=y))
 | .Gt=>ae (decide (y < x))
 | .GtE=>ae (decide (y<=x))
 | .Eq=>ae (x==y)
 | .NotEq=>ae (x !=y)
 |_=>none
def Jk (op:Ks) (a b:AV) (H:aj) (Q:aN->aj->Prop) (X:PX):Prop:=match a with
 | .int x=>(match b with
  | .int y=>(match Gn op x y with
   |some q=>Q q H
   |none=>dG m.c m.n op (.int x) (.int y) H Q X)
  |b=>dG m.c m.n op (.int x) b H Q X)
 | .str x=>(match b with
  | .str y=>(match op with
   | .Eq=>Q (x==y) H
   | .NotEq=>Q (x !=y) H
   |op=>dG m.c m.n op (.str x) (.str y) H Q X)
  |b=>dG m.c m.n op (.str x) b H Q X)
 |a=>dG m.c m.n op a b H Q X
def qB (op:Ks) (a b:AV) (H:aj) (Q:aN->aj->Prop) (X:PX):Prop:=match op with
 | .Is=>(match b with
  | .none=>Q (isNone a) H
  |b=>dG m.c m.n .Is a b H Q X)
 | .IsNot=>(match b with
  | .none=>Q (!isNone a) H
  |b=>dG m.c m.n .IsNot a b H Q X)
 |op=>Jk m op a b H Q X
def G9 (C:aF) (ks:ah ak) (vs:ah AV) (at_:ak) (k:AV->Prop):Prop:=eI (T.fl C at_) (iC (pX ks vs at_) λav=>eI (Mn av) (k av))
def bK (H:aj) (x:aF) (k:cW->Prop):Prop:=∃o,H x=ae o/\k o
theorem bK.mk (e:H x=ae o) (h:k o):bK H x k:=⟨o,e,h⟩
def ZJ (at_:ak) (H:aj) (Q:PQ) (o:cW):Prop:=match o with
 | .inst C _ ks vs=>G9 T C ks vs at_ (λav=>Q av H)
 |_=>dV
def PZ (a:AV) (at_:ak) (H:aj) (Q:PQ):Prop:=match a with
 | .obj C ks vs=>G9 T C ks vs at_ (λav=>Q av H)
 | .ref x=>bK H x (ZJ T at_ H Q)
 |_=>dV
def ī (x:aF) (at_:ak) (v:AV) (H:aj) (Q:aj->Prop) (o:cW):Prop:=match o with
 | .inst C dx ks vs=>eI (T.st C at_) (eI (ie ks.length 1000) (Q (H.set x (.inst C dx (xy ks at_) (wO ks vs at_ v)))))
 |_=>dV
def wY (a:AV) (at_:ak) (v:AV) (H:aj) (Q:aj->Prop):Prop:=match a with
 | .ref x=>bK H x (ī T x at_ v H Q)
 |_=>dV
noncomputable def QN (x:ak):aR eT:=
 if x==("lower":ak) then ae "str.lower" else if x==("find":ak) then ae "str.find" else if x==("startswith":ak) then ae "str.startswith" else
 if x==("split":ak) then ae "str.split" else if x==("join":ak) then ae "str.join" else none
def aaH (x:aF) (nm:ak) (k:aI->ah AV->Prop) (o:cW):Prop:=match o with
 | .inst C _ ks vs=>iC (T.mt C nm) λf=>eI (!ks.contains nm) (k (.ref f) [.ref x])
 | .list _=>eI (nm==("append":ak)) (k (.builtin "list.append") [.ref x])
 | .dict _=>eI (nm==("pop":ak)) (k (.builtin "dict.pop") [.ref x])
 | .barr _=>fh (nm==("append":ak)) (k (.builtin "bytearray.append") [.ref x]) (eI (nm==("extend":ak)) (k (.builtin "bytearray.extend") [.ref x]))
 |_=>dV
def Qj (a:AV) (nm:ak) (H:aj) (k:aI->ah AV->Prop):Prop:=match a with
 | .obj C ks vs=>iC (T.mt C nm) λf=>eI (!ks.contains nm) (k (.ref f) [.obj C ks vs])
 | .str x=>iC (QN nm) λid=>k (.builtin id) [.str x]
 | .bytes x=>eI (nm==("join":ak)) (k (.builtin "bytes.join") [.bytes x])
 | .ref x=>bK H x (aaH T x nm k)
 |_=>dV
def Nu (a i:AV) (H:aj) (Q:PQ) (X:PX):Prop:=match a with
 | .tup l=>(match i with
  | .int j=>(match j with
   | .ofNat k=>eI (ie k 1000000) (iC l[k]? λav=>Q av H)
   | .negSucc _=>dV)
  |i=>rG m.c m.n (.tup l) i H Q X)
 |a=>rG m.c m.n a i H Q X
def OW (v:Const) (H:aj) (Q:PQ):Prop:=match v with
 | .int i=>Q (.int i) H
 | .str x=>Q (.str x) H
 | .bytes x=>Q (.bytes x) H
 | .none=>Q .none H
 | .bool b=>Q (.bool b) H
 |_=>dV
def JK (sc:bA) (x:ak) (ρ:Rh) (H:aj) (Q:PQ):Prop:=match ni sc x with
 |true=>iC (ρ.lookup x) λa=>Q a H
 |false=>eI (jc sc x) (iC (T.gl x) λa=>Q a H)
def hpL (H:aj) (x:aF) (k:ah AV->(aj->Prop)->Prop):Prop:=∃l,H x=ae (.list l)/\k l λH'=>H' x=ae (.list l)
def Di (a:AV) (H:aj) (k:ah AV->(aj->Prop)->Prop):Prop:=match a with
 | .tup l=>eI m.c.qt (k l λJ=>cL)
 | .lst l=>k l λJ=>cL
 | .str x=>eI m.c.qt (k (j6 x) λJ=>cL)
 | .bytes x=>eI m.c.qt (k (Et x) λJ=>cL)
 | .ref x=>hpL H x k
 |_=>dV
noncomputable def xf (e:bR):aN:=(zf e).isSome
noncomputable def oO (e:bR):aN:=ie 8 e.ctorIdx && ie e.ctorIdx 10
noncomputable def Un (e:bR):aN:=Bm e.ctorIdx 16||Bm e.ctorIdx 20||Bm e.ctorIdx 21||Bm e.ctorIdx 23
noncomputable def NQ (Nc:bR):aR {e:bR // ∃p pos,Nc= .Call (.Name "range" p) [e] [] pos/\tR e=au}:=match Nc with
 | .Call (.Name x p) [e] [] pos=>if h:x="range"/\tR e=au then ae ⟨e,p,pos,h.1▸rfl,h.2⟩ else none
 |_=>none
noncomputable def Gy (e:bR):aR bR:=(NQ e).map (λx=>x.1)
noncomputable def zH (gs:ah FV):aR (bR×bR×ah bR):=match gs with
 |[g]=>fh (decide (g.is_async=0)) (ae (g.target,g.iter,g.ifs)) none
 |_=>none
noncomputable def sh (e:bR):aN:= !Bm e.ctorIdx 7
noncomputable def nmE:bR->aR ak
 | .Name x _=>ae x
 |_=>none
noncomputable def Pg:bR->aN
 | .Call f _ _ _=>nmE f==ae "_law_draw"
 |_=>au
abbrev FI:=bA->bR->Cn->Rh->aj->(ah AV->(aj->Prop)->aj->Prop)->PX->Prop
abbrev FF:=bA->ah bR->Cn->Rh->aj->(aN->aj->Prop)->PX->Prop
abbrev FE:=bA->bR->Cn->Rh->aj->PQ->PX->Prop
inductive zX (AH:FF) (As:FE) (sc':bA) (m:Cn) (aO:Rh) (t:bR) (ifs:ah bR) (elt:bR) (items:ah AV) (ok:aj->Prop) (aw:aj) (X:PX) (R:ah AV->aj->Prop):Prop
 |mk (sz:items.length<=bY) (oN:ok aw) (ex:∃(p:AV->aN) (f:AV->AV) (P:AV->Prop),
  (∀a∈items,iC (oP sc' t a) λbs=>∀H',vm aw H'->AH sc' ifs m (bs++aO) H' (λb aG=>b=p a/\aG=H'/\(b=ai->As sc' elt m (bs++aO) H' (λv aV=>v=f a/\aV=H'/\P a) (λx aV=>aV=H'/\X x aw))) (λx aV=>aV=H'/\X x aw))/\
  ((∀a∈items,p a=ai->P a)->R ((items.filter p).map f) aw))
def Ie (sc:bA) (elt:bR) (gs:ah FV) (scope:bA) (p:fU) (ρ:Rh) (H:aj) (Q:PQ) (X:PX) (vI':FI) (AH:FF) (As:FE):Prop:=match Pg elt with
 |true=>WE m.c m.n sc (.ListComp elt gs scope p) ρ H Q X
 |false=>match zH gs with
 |some (t,it,ifs)=>eI (mr sc scope && (xf t||m.c.qt) && sh it) (vI' sc it m ρ H (λitems ok aw=>zX AH As (gY scope sc) m (ip (gY scope sc) ρ) t ifs elt items ok aw X (λl aG=>Q (.lst l) aG)) X)
 |none=>WE m.c m.n sc (.ListComp elt gs scope p) ρ H Q X
end
section
variable (T:VK)
mutual
def vE:ar->bA->bR->Cn->Rh->aj->PQ->PX->Prop
 |0,sc,e,m,ρ,H,Q,X=>WE m.c m.n sc e ρ H Q X
 |k+1,sc,e,m,ρ,H,Q,X=>match e with
  | .Constant v _ _=>OW v H Q
  | .Name x _=>JK T sc x ρ H Q
  | .BinOp l op r _=>vE k sc l m ρ H (λa aw=>vE k sc r m ρ aw (λb aG=>P6 m op a b aG Q X) X) X
  | .UnaryOp op x p=>(match op with
   | .USub=>vE k sc x m ρ H (λa aw=>match a with| .int i=>Q (.int (-i)) aw|_=>dV) X
   | .Not=>vE k sc x m ρ H (λa aw=>DR m a aw (λb=>Q (.bool (!b))) X) X
   |op=>WE m.c m.n sc (.UnaryOp op x p) ρ H Q X)
  | .Compare l ops rs p=>(match ops with
   |[op]=>(match rs with
    |[r]=>eI (!AP op r) (vE k sc l m ρ H (λa aw=>vE k sc r m ρ aw (λb aG=>qB m op a b aG (λq=>Q (.bool q)) X) X) X)
    |rs=>WE m.c m.n sc (.Compare l [op] rs p) ρ H Q X)
   |[gJ,gK]=>(match rs with
    |[g9,hW]=>eI (!AR [gJ,gK] [g9,hW]) (vE k sc l m ρ H (λa aw=>vE k sc g9 m ρ aw (λb aG=>qB m gJ a b aG (λq aV=>fh q (vE k sc hW m ρ aV (λd fE=>qB m gK b d fE (λq=>Q (.bool q)) X) X) (Q (.bool au) aV)) X) X) X)
    |rs=>WE m.c m.n sc (.Compare l [gJ,gK] rs p) ρ H Q X)
   |ops=>WE m.c m.n sc (.Compare l ops rs p) ρ H Q X)
  | .BoolOp op es p=>vB k sc op es m ρ H Q X
  | .IfExp t b o _=>vT k sc t m ρ H (λq aw=>fh q (vE k sc b m ρ aw Q X) (vE k sc o m ρ aw Q X)) X
  | .Call f es An p=>(match An with
   |[]=>(match f with
    | .Name x _=>eI (gy es) (eI (jc sc x) (iC (T.gl x) λa=>iC (y8 a) λg=>qS k sc es m ρ H (λl aG=>bq m.c m.n g l aG Q X) X))
    | .Attribute o nm ap=>eI (gy es && xg o && decide (es.length < 30) && (ap.endLine==p.line)) (vE k sc o m ρ H (λa aw=>Qj T a nm aw λg first=>qS k sc es m ρ aw (λl aG=>bq m.c m.n g (first++l) aG Q X) X) X)
    |f=>WE m.c m.n sc (.Call f es [] p) ρ H Q X)
   |An=>WE m.c m.n sc (.Call f es An p) ρ H Q X)
  | .Attribute v at_ _=>eI (xg v) (vE k sc v m ρ H (λa aw=>PZ T a at_ aw Q) X)
  | .Subscript v i p=>(match i with
   | .Slice lo hi st q=>(match st with
    |none=>vE k sc v m ρ H (λa aw=>vP k sc lo m ρ aw (λi aG=>vP k sc hi m ρ aG (λj aV=>xc m.c m.n a i j aV Q X) X) X) X
    |st=>WE m.c m.n sc (.Subscript v (.Slice lo hi st q) p) ρ H Q X)
   |i=>vE k sc v m ρ H (λa aw=>vE k sc i m ρ aw (λb aG=>Nu m a b aG Q X) X) X)
  | .Tuple es _ _=>eI (gy es) (qS k sc es m ρ H (λl aw=>eI (ie l.length 1000) (Q (.tup l) aw)) X)
  | .List es _=>eI (gy es) (qS k sc es m ρ H (λl aw=>eI (ie l.length 1000) (Q (.lst l) aw)) X)
  | .ListComp elt gs scope p=>Ie m sc elt gs scope p ρ H Q X (vI k) (wA k) (vE k)
  |e=>WE m.c m.n sc e ρ H Q X
def vI:ar->bA->bR->Cn->Rh->aj->(ah AV->(aj->Prop)->aj->Prop)->PX->Prop
 |0,sc,e,m,ρ,H,Q,X=>WI m.c m.n sc e ρ H Q X
 |k+1,sc,e,m,ρ,H,Q,X=>match Gy e with
  |some e'=>eI (m.c.qt && jc sc "range") (iC (T.gl "range") λg=>g= .ty "range"/\vE k sc e' m ρ H (λa aw=>match a with
   | .int m=> -(2 ^ 62)<=m/\m < 2 ^ 62/\Q (mN m.toNat) (λJ=>cL) aw
   |_=>dV) X)
  |none=>vE k sc e m ρ H (λa aw=>Di m a aw λitems ok=>Q items ok aw) X
def wA:ar->bA->ah bR->Cn->Rh->aj->(aN->aj->Prop)->PX->Prop
 |0,sc,ifs,m,ρ,H,Q,X=>dV
 |k+1,sc,ifs,m,ρ,H,Q,X=>match ifs with
  |[]=>Q ai H
  |[t]=>vT k sc t m ρ H Q X
  |_=>dV
def vT:ar->bA->bR->Cn->Rh->aj->(aN->aj->Prop)->PX->Prop
 |0,sc,e,m,ρ,H,Q,X=>WT m.c m.n sc e ρ H Q X
 |k+1,sc,e,m,ρ,H,Q,X=>match e with
  | .UnaryOp op x p=>(match op with
   | .Not=>vT k sc x m ρ H (λb=>Q (!b)) X
   |op=>WT m.c m.n sc (.UnaryOp op x p) ρ H Q X)
  | .Compare l ops rs p=>(match ops with
   |[op]=>(match rs with
    |[r]=>eI (!AP op r) (vE k sc l m ρ H (λa aw=>vE k sc r m ρ aw (λb aG=>qB m op a b aG Q X) X) X)
    |rs=>WT m.c m.n sc (.Compare l [op] rs p) ρ H Q X)
   |[gJ,gK]=>(match rs with
    |[g9,hW]=>eI (!AR [gJ,gK] [g9,hW]) (vE k sc l m ρ H (λa aw=>vE k sc g9 m ρ aw (λb aG=>qB m gJ a b aG (λq aV=>fh q (vE k sc hW m ρ aV (λd fE=>qB m gK b d fE Q X) X) (Q au aV)) X) X) X)
    |rs=>WT m.c m.n sc (.Compare l [gJ,gK] rs p) ρ H Q X)
   |ops=>WT m.c m.n sc (.Compare l ops rs p) ρ H Q X)
  | .BoolOp op es p=>vA k sc op es m ρ H Q X
  |e=>(match Un e with
   |true=>vE k sc e m ρ H (λa aw=>DR m a aw Q X) X
   |false=>WT m.c m.n sc e ρ H Q X)
def vB:ar->bA->Ku->ah bR->Cn->Rh->aj->PQ->PX->Prop
 |0,sc,op,es,m,ρ,H,Q,X=>dV
 |k+1,sc,op,es,m,ρ,H,Q,X=>match es with
  |[]=>dV
  |e::r=>(match r with
   |[]=>vE k sc e m ρ H Q X
   |e'::r'=>vE k sc e m ρ H (λa aw=>DR m a aw (λt aG=>match op with
    | .And=>fh t (vB k sc .And (e'::r') m ρ aG Q X) (Q a aG)
    | .Or=>fh t (Q a aG) (vB k sc .Or (e'::r') m ρ aG Q X)) X) X)
def vA:ar->bA->Ku->ah bR->Cn->Rh->aj->(aN->aj->Prop)->PX->Prop
 |0,sc,op,es,m,ρ,H,Q,X=>WA m.c m.n sc op es ρ H Q X
 |k+1,sc,op,es,m,ρ,H,Q,X=>match es with
  |[]=>WA m.c m.n sc op [] ρ H Q X
  |e::r=>(match r with
   |[]=>vT k sc e m ρ H Q X
   |e'::r'=>vT k sc e m ρ H (λb aw=>match op with
    | .And=>fh b (vA k sc .And (e'::r') m ρ aw Q X) (Q au aw)
    | .Or=>fh b (Q ai aw) (vA k sc .Or (e'::r') m ρ aw Q X)) X)
def qS:ar->bA->ah bR->Cn->Rh->aj->(ah AV->aj->Prop)->PX->Prop
 |0,sc,es,m,ρ,H,Q,X=>dV
 |k+1,sc,es,m,ρ,H,Q,X=>match es with
  |[]=>Q [] H
  |e::r=>(match r with
   |[]=>vE k sc e m ρ H (λa aw=>Q [a] aw) X
   |e'::r=>vE k sc e m ρ H (λa aw=>qS k sc (e'::r) m ρ aw (λl=>Q (a::l)) X) X)
def vP:ar->bA->aR bR->Cn->Rh->aj->(aR ar->aj->Prop)->PX->Prop
 |0,sc,o,m,ρ,H,Q,X=>tH m.c m.n sc o ρ H Q X
 |k+1,sc,o,m,ρ,H,Q,X=>match o with
  |none=>Q none H
  |some e=>vE k sc e m ρ H (λa H'=>∃j:ar,a= .int (j:aq)/\Q (ae j) H') X
end
end
end
section
section
variable {T:VK} {c:Cx} {n:ar} {m:Cn} {sc:bA} {ρ:Rh} {H:aj} {X:PX}
theorem WT.post (h:WT c n sc e ρ H Q X) (hQ:∀a H',Q a H'->Q' a H'):WT c n sc e ρ H Q' X:=λA env s C=>XW.mono (h A env s C) (λb H' J J q=>hQ b H' q) λJ J z=>z
theorem lT.post (h:lT c n sc es pos ρ H Q X) (hQ:∀a H',Q a H'->Q' a H'):lT c n sc es pos ρ H Q' X:=λA env s C=>XW.mono (h A env s C) (λb H' J J q=>q.imp λl z=>⟨z.1,hQ l H' z.2⟩) λJ J z=>z
theorem tH.post (h:tH c n sc o ρ H Q X) (hQ:∀a H',Q a H'->Q' a H'):tH c n sc o ρ H Q' X:=by
 induction o using eL with
 |none=>show hQ _ _ h
 |some e=>show WE.post h λa H' q=>q.imp λk z=>⟨z.1,hQ _ _ z.2⟩
theorem WI.post (h:WI c n sc e ρ H Q X) (hQ:∀a o H',Q a o H'->Q' a o H'):WI c n sc e ρ H Q' X:=λA env s K C k=>h A env s K C λI S s' H' items ok w z o T q=>k I S s' H' items ok w z o T (hQ _ _ _ q)
theorem JQ (h:DR m a H Q X):qz m.c m.n a H Q X:=by
 induction a using AV.casesOn <;> first|show ab4 h|show h
theorem aci (h:qz c n a H (λb=>Q (.bool (!b))) X):I4 c n (EX .Not) a H Q X:=λA s v C y=>by
 have:EX .Not v=oh [v] (do let b <-qD v;pure (.bool (!b))):=by with_unfolding_all rfl
 show aa this<|cE (aS (XW.step (.refl C.1) (h A s v C y) λb aw aC aX cU q=>bw (ao aw cU (ao (.bool (!b)) rfl q))))
theorem Xv (h:P6 m op a b H Q X):iP m.c m.n (iY op) a b H Q X:=by
 cases op
 case Add=>
  induction a using AV.casesOn <;> (try show h) <;> induction b using AV.casesOn <;> first|show h|show agz h|show Zv h.1 h.2|show abC h.1 h.2|show Ŧ h.1 h.2
 case Sub=>induction a using AV.casesOn <;> (try show h) <;> induction b using AV.casesOn <;> first|show h|show aeF h
 all_goals show h
theorem ab8 (e:Gn op x y=ae q) (h:Q q H):dG m.c m.n op (.int x) (.int y) H Q X:=by
 cases op <;> first|((first|(injection e with ct;subst ct)|injection e);first|show YQ h|show afS h|show aam h|show è h|show ó h|show abS h)|show f5 e
theorem XE (h:Jk m op a b H Q X):dG m.c m.n op a b H Q X:=by
 induction a using AV.casesOn with
 |int x=>induction b using AV.casesOn with
  |int y=>
   unfold Jk at h;cases hc:Gn op x y with
   |none=>simp only [hc] at h;show h
   |some q=>simp only [hc] at h;show ab8 hc h
  |_=>show h
 |str x=>induction b using AV.casesOn with
  |str y=>cases op <;> first|show agb h|show acz h|show h
  |_=>show h
 |_=>show h
theorem GY (h:qB m op a b H Q X):dG m.c m.n op a b H Q X:=by
 cases op
 case Is=>induction b using AV.casesOn <;> first|show ad2 h|show h
 case IsNot=>induction b using AV.casesOn <;> first|show Zg h|show h
 all_goals show XE h
theorem N9 (ok:T.Ok c) (h:G9 T C ks vs at_ k):∃av,qN c.K C at_=ai/\pX ks vs at_=ae av/\(∀i,av≠.bi i)/\k av:=aM (dZ h) λh1 h2=>aA (kc h2) λav e h3=>(i_ av (ok.3 h1) e (adz (dZ h3).1) ((dZ h3).2))
theorem Ĵ (ok:T.Ok c) (h:PZ T a at_ H Q):∃C ks vs av,xD H a C ks vs/\qN c.K C at_=ai/\pX ks vs at_=ae av/\(∀i,av≠.bi i)/\Q av H:=by
 induction a using AV.casesOn <;> try show h.elim
 ·show eO (N9 ok h) λav h1 h2 h3 h4=>(zY _ _ _ av (.inl rfl) h1 h2 h3 h4)
 ·show aA h ?_;intro o e h;induction o using cW.casesOn <;> try show h.elim
  show eO (N9 ok h) λav h1 h2 h3 h4=>(zY _ _ _ av (.inr (ew _ _ rfl e)) h1 h2 h3 h4)
theorem yW (ok:T.Ok c) (h:wY T a at_ v H Q):uF c n at_ a v H Q X:=by
 induction a using AV.casesOn <;> try show h.elim
 show aA h ?_;intro o e h;induction o using cW.casesOn <;> try show h.elim
 show aM (dZ h) λh1 h2=>aM (dZ h2) λh3 h4=>abY e (ok.4 h1) (Nat.ble_eq.mp h3) h4
theorem zI {c:Prop} [vp c] {G:Prop} (e:(if c then ae a else r)=ae b) (k:c->a=b->G) (k2:r=ae b->G):G:=if q:c then k q (bZ ((bN q).symm.trans e)) else k2 ((bo q).symm.trans e)
theorem yU {a id:eT} (q:(nm==s)=ai) (i:a=id) (k:lp c n s (.str x) H (.builtin a) [.str x]):lp c n nm (.str x) H (.builtin id) [.str x]:=by subst i;show aa (beq_iff_eq.mp q) k
theorem ţ {id:eT} (e:QN nm=ae id):lp c n nm (.str x) H (.builtin id) [.str x]:=zI e (λq i=>yU q i WR) λe=>zI e (λq i=>yU q i adU) λe=>zI e (λq i=>yU q i afd) λe=>zI e (λq i=>yU q i Ú) λe=>zI e (λq i=>yU q i ahi) f5
theorem X6 (ok:T.Ok c) (h:Qj T a nm H k):∃f first,lp c n nm a H f first/\jW c.K f=ai/\k f first:=by
 induction a using AV.casesOn <;> try show h.elim
 ·show aA (kc h) λid e h=>(cI _ _ (ţ e) rfl h)
 ·show aM (dZ h) λe h=>aa (beq_iff_eq.mp e)<|(cI _ _ agH rfl h)
 ·show aA (kc h) λf e h=>aM (dZ h) λe2 h=>(cI _ _ (R4 (.inl rfl) (ok.5 e).1 (by simpa using e2)) ((ok.5 e).2) h)
 ·show aA h<|λo e h=>?_
  induction o using cW.casesOn <;> try show h.elim
  ·show aM (dZ h) λe2 h=>aa (beq_iff_eq.mp e2)<|(cI _ _ (adw e) rfl h)
  ·show aM (dZ h) λe2 h=>aa (beq_iff_eq.mp e2)<|(cI _ _ (Ŵ e) rfl h)
  ·show aA (kc h) λf e2 h=>aM (dZ h) λe3 h=>(cI _ _ (R4 (.inr (ew _ _ rfl e)) (ok.5 e2).1 (by simpa using e3)) ((ok.5 e2).2) h)
  ·cases e1:(nm==("append":ak)) with
   |true=>
    have h:fh (nm==("append":ak)) _ _:=h;rw [e1] at h;show aa (beq_iff_eq.mp e1)<|(cI _ _ (Pt P0 acY e) rfl h)
   |false=>
    have h:fh (nm==("append":ak)) _ _:=h;rw [e1] at h;show aM (dZ h) λe2 h=>aa (beq_iff_eq.mp e2)<|(cI _ _ (Pt RL XG e) rfl h)
theorem agI (h:Nu m a i H Q X):rG m.c m.n a i H Q X:=by
 induction a using AV.casesOn <;> try show h
 induction i using AV.casesOn <;> try show h
 cases i_1 with
 |negSucc _=>show h.elim
 |ofNat k=>
  show aM (dZ h) λh1 h2=>aA (kc h2) λav e h3=>?_;have:=Nat.ble_eq.mp h1;show Δ rfl (by lia) e h3
def WB (c:Cx) (n:ar) (sc:bA) (op:Ku) (es:ah bR) (ρ:Rh) (H:aj) (Q:PQ) (X:PX):Prop:=
 ∀A env s pos,CE c n sc A env ρ H s.heap->XW c A (FW pos op (tK es env)) s bL H (λv H' s'=>∃av,V H' s'.heap av v/\Q av H') X
theorem ahj (h:WE c n sc e ρ H Q X):WB c n sc op [e] ρ H Q X:=λA env s pos C=>by
 have:FW pos op (tK [e] env)=bX e env:=by with_unfolding_all rfl
 show h A env s C
theorem Χ (h:WE c n sc e ρ H (λa aw=>qz c n a aw (λt aG=>match op with
  | .And=>fh t (WB c n sc .And (e'::r) ρ aG Q X) (Q a aG)
  | .Or=>fh t (Q a aG) (WB c n sc .Or (e'::r) ρ aG Q X)) X) X):WB c n sc op (e::e'::r) ρ H Q X:=λA env s pos C=>by
 have:FW pos op (tK (e::e'::r) env)=(do
  let v <-bX e env
  me pos
  let t <-oh [v] (qD v)
  match op,t with
  | .And,au| .Or,ai=>pure v
  |_,_=>FW pos op (tK (e'::r) env)):=by with_unfolding_all rfl
 show aS (XW.step (.refl C.1.1) (h A env s C) λv aw aC aX cU x'=>aA x' λa y1 q=>dF (aS (cE (XW.step cU (q A aC v (C.keep aX).1 y1) λt aG aL bh da z=>?_))));cases op <;> induction t using ez
 ·show bw (ao aG da (ao a (y1.keep bh.5) z))
 ·show XW.step da (z A env aL pos ((C.keep aX).keep bh)) λr aV bz cJ c9 z=>(ao aV c9 z)
 ·show XW.step da (z A env aL pos ((C.keep aX).keep bh)) λr aV bz cJ c9 z=>(ao aV c9 z)
 ·show bw (ao aG da (ao a (y1.keep bh.5) z))
theorem agi (h:WB c n sc op es ρ H Q X):WE c n sc (.BoolOp op es pos) ρ H Q X:=λA env s C=>by
 have:bX (.BoolOp op es pos) env=FW pos op (tK es env):=by with_unfolding_all rfl
 show h A env s pos C
theorem ahz (h:Gy e=ae e'):∃p pos,e= .Call (.Name "range" p) [e'] [] pos/\tR e'=au:=wV (o:=NQ e) h
theorem afJ (h:Di m a H k):∃items ok,qU m.c m.n a H items ok/\k items ok:=by
 induction a using AV.casesOn <;> try show h.elim
 ·show aM (dZ h) λe h=>(ew _ _ (XJ e) h)
 ·show aM (dZ h) λe h=>(ew _ _ (X5 e) h)
 ·show aM (dZ h) λe h=>(ew _ _ (zN e) h)
 ·show (ew _ _ MU h)
 ·show aA h<|λl e h=>(ew _ _ (Õ e) h)
def Υ (c:Cx) (n:ar) (sc':bA) (target elt:bR) (ifs:ah bR) (ρ:ah (ak×AV)) (H:aj) (X:AX->aj->Prop) (p:AV->aN) (f:AV->AV) (P:AV->Prop) (a:AV):Prop:=∃bs,oP sc' target a=ae bs/\∀H',vm H H'->
 my c n sc' ifs (bs++ρ) H' (λb aw=>b=p a/\aw=H'/\(b=ai->WE c n sc' elt (bs++ρ) H' (λv aw=>v=f a/\aw=H'/\P a) (λx aw=>aw=H'/\X x H))) (λx aw=>aw=H'/\X x H)
theorem my.mono (h:my c n sc ifs ρ H Q X) (hQ:∀a H',Q a H'->Q' a H') (hX:∀x H',X x H'->X' x H'):my c n sc ifs ρ H Q' X':=by
 induction ifs using c6 with
 |nil=>show hQ _ _ h
 |cons t r=>induction r using c6 with
  |nil=>show λA env s C=>XW.mono (h A env s C) (λb H' J J q=>hQ b H' q) hX
  |cons=>show h.elim
theorem Zj (wU:ok H) (items acc:ah AV) (hz:acc.length+items.length<=bY)
  (hb:∀a∈items,Υ c n sc' target elt ifs ρ H X p f P a) (hq:(∀a∈items,p a=ai->P a)->Q (.list (acc++(items.filter p).map f)) H):LC c n sc' target ifs (p_ elt) ρ ok Q X items (.list acc) H:=by
 induction items generalizing acc with
 |nil=>rw [show ([]:ah AV).filter p=[] from rfl,FJ,fW] at hq;show hq λJ h=>jl h
 |cons a l ih=>
  show aA (hb a (.head _)) λbs ht hw=>ao bs ht λD C hD hC eB=>?_;have P_:acc.length+1+l.length<=bY:=aK (iL (yi ..)) hz
  have rest:∀jA,jA.length+l.length<=bY->(p a=ai->P a)->jA++(l.filter p).map f=acc++((a::l).filter p).map f->LC c n sc' target ifs (p_ elt) ρ ok Q X l (.list jA) H:=λjA ju pa e=>
   ih jA ju (λb qA=>hb b (.tail _ qA)) λhp=>aa e (hq λb qA=>(List.mem_cons.mp qA).elim (λe=>aa e pa) (hp b))
  show (hw _ (Rn hD hC)).mono (λb aw x'=>fP x' λe1 e2 w=>?_) λx aw x'=>aM x' λe z=>LX.mk e hD hC (λq=>nomatch q) z;exists e2;induction b using ez
  ·have pn:=λq=>jJ (e1.trans q);show aa (bo jJ) (wu H rfl hD hC wU (rest acc (aK (tO (kX _) _) P_) (λq=>(pn q).elim) ?_))
   rewrite [vO,bo pn];rfl
  ·show aa (bN rfl) (PU eB (aK (eC ..) hz) ((w rfl).mono (λv aw x'=>fP x' λe3 e4 pa=>?_) λx aw x'=>aM x' λe z=>LX.mk e hD hC (λq=>nomatch q) z));show ew (f a) (HD D (.list acc) C H) (aa e3 (aa e4 (.refl _ _))) (ao H rfl (LN.mk rfl hD hC wU (λJ J J J q=>nomatch q) (λq=>nomatch q) (rest _ (aa cb P_) (λJ=>pa) ?_)))
   rewrite [vO,bN e1.symm,gh];rfl
inductive l5 (T:VK) (m:Cn) (k:ar):Prop
 |mk (e:∀{sc e ρ H Q X},vE T k sc e m ρ H Q X->WE m.c m.n sc e ρ H Q X) (i:∀{sc e ρ H Q X},vI T k sc e m ρ H Q X->WI m.c m.n sc e ρ H Q X) (if_:∀{sc e ρ H Q X},wA T k sc e m ρ H Q X->my m.c m.n sc e ρ H Q X) (t:∀{sc e ρ H Q X},vT T k sc e m ρ H Q X->WT m.c m.n sc e ρ H Q X) (b:∀{sc op es ρ H Q X},vB T k sc op es m ρ H Q X->WB m.c m.n sc op es ρ H Q X) (a:∀{sc op es ρ H Q X},vA T k sc op es m ρ H Q X->WA m.c m.n sc op es ρ H Q X) (es:∀{sc es ρ H Q X} (pos:fU),gy es=ai->qS T k sc es m ρ H Q X->lT m.c m.n sc es pos ρ H Q X) (p:∀{sc o ρ H Q X},vP T k sc o m ρ H Q X->tH m.c m.n sc o ρ H Q X)
theorem agy:l5 T m 0:=⟨id,id,λh=>h.elim,id,λh=>h.elim,id,λJ J h=>h.elim,id⟩
theorem Ł (ok:T.Ok c) (h:JK T sc x ρ H Q):WE c n sc (.Name x pos) ρ H Q X:=by
 unfold JK at h;cases hl:ni sc x with
 |true=>simp only [hl] at h;show aA (kc h) λa e h=>ahf hl e h
 |false=>
  simp only [hl] at h;show aM (dZ h) λh1 h=>aA (kc h) λa e h=>PA h1 (ok.1 e) h
theorem YF (h:OW v H Q):WE c n sc (.Constant v k pos) ρ H Q X:=by
 cases v <;> first|show ü h|show aez h|show ahy h|show aco h|show OA h|show h.elim
end
end
section
section
variable {T:VK} {c:Cx} {n k:ar} {m:Cn} {sc:bA} {ρ:Rh} {H:aj} {X:PX}
theorem my.post (h:my c n sc ifs ρ H Q X) (hQ:∀a H',Q a H'->Q' a H'):my c n sc ifs ρ H Q' X:=h.mono hQ λJ J z=>z
theorem Zk (I:l5 T m k) (h:fh b (vE T k sc e1 m ρ H Q X) (vE T k sc e2 m ρ H Q X)):if b=ai then WE m.c m.n sc e1 ρ H Q X else WE m.c m.n sc e2 ρ H Q X:=by
 induction b using ez
 ·show I.1 h
 ·show I.1 h
theorem SE (I:l5 T m k) (h:vE T k sc l m ρ H (λa aw=>vE T k sc r m ρ aw (λb aG=>qB m op a b aG R X) X) X):
  WE m.c m.n sc l ρ H (λa aw=>WE m.c m.n sc r ρ aw (λb aG=>dG m.c m.n op a b aG R X) X) X:=(I.1 h).post λa aw h=>(I.1 h).post λb aG h=>GY h
theorem dG.post (h:dG c n op a b H Q X) (hQ:∀q H',Q q H'->Q' q H'):dG c n op a b H Q' X:=λA s v u C y1 y2=>XW.mono (h A s v u C y1 y2) (λr H' J J q=>q.imp λx z=>⟨z.1,hQ _ _ z.2⟩) λJ J z=>z
theorem Ub (I:l5 T m k) (h:vE T k sc l m ρ H (λa aw=>vE T k sc g9 m ρ aw (λb aG=>qB m gJ a b aG (λq aV=>fh q (vE T k sc hW m ρ aV (λd fE=>qB m gK b d fE R X) X) (R au aV)) X) X) X):
  WE m.c m.n sc l ρ H (λa aw=>WE m.c m.n sc g9 ρ aw (λb aG=>dG m.c m.n gJ a b aG (λq aV=>if q=ai then WE m.c m.n sc hW ρ aV (λd fE=>dG m.c m.n gK b d fE R X) X else R au aV) X) X) X:=
 (I.1 h).post λa aw h=>(I.1 h).post λb aG h=>(GY h).post λq aV h=>by
  induction q using ez
  ·show h
  ·show (I.1 h).post λd fE h=>GY h
theorem qz.post (h:qz c n a H Q X) (hQ:∀q H',Q q H'->Q' q H'):qz c n a H Q' X:=λA s v C y=>XW.mono (h A s v C y) (λr H' J J q=>hQ _ _ q) λJ J z=>z
theorem aet (h:Un e=ai):∀env whole,Fb e env whole=(do let v <-whole;me e.pos;oh [v] (qD v)):=by
 induction e using kA <;> first|((first|(injection h;done)|cases h);done)|(intros;rfl)
theorem uQ (h:sh e=ai):∀env x,vz e env x=pure x:=by
 induction e using kA <;> first|((first|(injection h;done)|cases h);done)|(intros;rfl)
theorem NG (h:zH gs=ae (t,it,ifs)):gs=[⟨t,it,ifs,0⟩]:=by
 induction gs using c6 with
 |nil=>show f5 h
 |cons g r=>induction r using c6 with
  |cons=>show f5 h
  |nil=>
   rcases g with ⟨t',rI,agn,a⟩
   have h:fh (decide (a=0)) (ae (t',rI,agn)) none=ae (t,it,ifs):=h;cases q:decide (a=0) with
   |false=>rw [q] at h;show f5 h
   |true=>rw [q] at h;injection h with h;injection h with h1 h;injection h with h2 h3;rw [h1,h2,h3,fi q]
theorem yI (h:(xf t||m.c.qt)=ai):m.c.qt=ai\/∃x p,t= .Name x p:=by
 rcases Bool.or_eq_true_iff.mp h with h|h
 ·show bj (Option.isSome_iff_exists.mp h) λz hz=> .inr ⟨_,_,Co hz⟩
 ·show .inl h
theorem HL (I:l5 T m k) (h:zX (wA T k) (vE T k) sc' m aO t ifs elt items ok H X R) (hR:∀l,R l H->QO (.list l) H):
  LC m.c m.n sc' t ifs (p_ elt) aO ok QO X items (.list []) H:=by
 show eV h.3 λp f P h3 h4=>Zj h.2 items [] (aK (iL (Lz _)) h.1) (λa ha=>?_) λhp=>by rewrite [ajt];show hR _ (h4 hp)
 show aA (kc (h3 a ha)) λbs e h=>(ao bs e (λH' ZA=>my.post (I.3 (h H' ZA)) λb aw x'=>fP x' λe1 e2 h=>(aP e1 e2 (λq=>I.1 (h q)))))
theorem î (ok:T.Ok m.c) (I:l5 T m k) (h:Ie m sc elt gs scope p ρ H Q X (vI T k) (wA T k) (vE T k)):WE m.c m.n sc (.ListComp elt gs scope p) ρ H Q X:=by
 unfold Ie at h;cases hi:Pg elt with
 |true=>simp -iota only [hi] at h;show h
 |false=>
 simp -iota only [hi] at h;cases hc:zH gs with
 |none=>simp -iota only [hc] at h;show h
 |some x=>
  rcases x with ⟨t,it,ifs⟩
  simp -iota only [hc] at h;show aM (dZ h) λh1 h=>aa (NG hc) ?_;simp -iota only [d9] at h1;show (JO (Q:=λa aw=>∃D l aG,a= .ref D/\aw=aG.set D (.list l)/\aG D=none/\Q (.lst l) aG) h1.1.1 (yI h1.1.2) ((I.2 h).post λitems CZ aw h=>HL I h λl q D hD=>(i5 D l aw rfl rfl hD q)) (uQ h1.2)).mono (λa aw x'=>gU x' λD l aG e1 e2 e3 q=>?_) λJ J z=>z;show aa e1<|aa e2<|(ew _ _ (Fg.Eb e3) q)
theorem ĝ (h:WT c n sc x ρ H Q X):WA c n sc op [x] ρ H Q X:=by
 cases op
 ·show NB (h.post λb aw q=>by induction b using ez;show q;show đ q)
 ·show MS (h.post λb aw q=>by induction b using ez;show ĉ q;show q)
theorem aaF (ok:T.Ok m.c) (I:l5 T m k):l5 T m (k+1):= .mk
 (e:=λ{sc e ρ H Q X} h=>by
  induction e using kA with
  |Constant v k' p=>show YF h
  |Name x p=>show Ł ok h
  |BinOp l op r p=>show ag9 ((I.1 h).post λa aw h=>(I.1 h).post λb aG h=>Xv h)
  |UnaryOp op x p=>
   cases op
   case USub=>show Ol ((I.1 h).post λa aw h=>by induction a using AV.casesOn <;> first|show Ļ h|show h.elim)
   case Not=>show Ol ((I.1 h).post λa aw h=>aci (JQ h))
   all_goals show h
  |Compare l ops rs p=>
   rcases ops with _|⟨op,_|⟨op2,_|⟨o3,ops⟩⟩⟩
   ·show h
   ·rcases rs with _|⟨r,_|⟨r2,rs⟩⟩
    ·show h
    ·show ag0 (by simpa using (dZ h).1) (SE I (dZ h).2)
    ·show h
   ·rcases rs with _|⟨r,_|⟨r2,_|⟨r3,rs⟩⟩⟩
    ·show h
    ·show h
    ·show ņ (Ub I (dZ h).2) (by simpa using (dZ h).1)
    ·show h
   ·show h
  |BoolOp op es p=>show agi (I.5 h)
  |IfExp t b o p=>show Î ((I.4 h).post λq aw h=>Zk I h)
  |Call f es An p=>
   induction An using c6 with
   |cons=>show h
   |nil=>
    induction f using kA with
    |Name x p2=>
     show aM (dZ h) λh1 h=>aM (dZ h) λh2 h=>aA (kc h) λa e1 h=>aA (kc h) λg e2 h=>υ (PA h2 (ok.1 e1) (bV g e2 (ok.2 e1 e2) (I.7 p h1 h))) h1
    |Attribute o nm ap=>
     show aM (dZ h) λh1 h=>?_;simp only [d9,vY] at h1;show W4 ((I.1 h).post λa aw h=>?_) h1.1.1.2 h1.1.2 h1.2 h1.1.1.1;rcases X6 ok h with ⟨f,first,m,co,h⟩
     show (cI f first m co (I.7 p h1.1.1.1 h))
    |_=>show h
  |Attribute v at_ p=>
   show aM (dZ h) λh1 h=>aa8 ((I.1 h).post λa aw h=>Ĵ ok h) h1
  |Subscript v i p=>
   induction i using kA with
   |Slice lo hi st q=>
    induction st using eL with
    |none=>show W3 ((I.1 h).post λa aw h=>(I.8 h).post λi aG h=>I.8 h)
    |some _=>show h
   |_=>show ac3 ((I.1 h).post λa aw h=>(I.1 h).post λb aG h=>agI h)
  |Tuple es k' p=>
   show aM (dZ h) λh1 h=>ae7 ((I.7 p h1 h).post λl aw h=>?_);show aM (dZ h) λh2 h=>⟨by exists fH;have:=Nat.ble_eq.mp h2;lia,h⟩
  |List es p=>
   show aM (dZ h) λh1 h=>Xs ((I.7 p h1 h).post λl aw h=>?_);show aM (dZ h) λh2 h=>⟨by exists fH;have:=Nat.ble_eq.mp h2;lia,h⟩
  |ListComp elt gs scope p=>show î ok I h
  |_=>show h)
 (i:=λ{sc e ρ H Q X} h=>by
  unfold vI at h;cases hr:Gy e with
  |some e'=>
   simp only [hr] at h;show aM (dZ h) λh1 h=>cR (kc h) λg e1 h2 h=>?_;simp only [d9] at h1;show d8 (ahz hr) λp pos bC hs=>aa bC ?_;subst h2;show YP h1.1 h1.2 (ok.1 e1) hs ((I.1 h).post λa aw h=>?_);induction a using AV.casesOn <;> first|show h.elim|show ⟨_,rfl,h⟩
  |none=>
   have h:=hr▸h;show aeM ((I.1 h).post λa aw h=>afJ h))
 (if_:=λ{sc ifs ρ H Q X} h=>by
  match ifs,h with
  |[],h=>show h
  |[t],h=>show I.4 h
  |_::_::_,h=>show h.elim)
 (t:=λ{sc e ρ H Q X} h=>by
  induction e using kA with
  |UnaryOp op x p=>
   cases op
   case Not=>show aaq (I.4 h)
   all_goals show h
  |Compare l ops rs p=>
   rcases ops with _|⟨op,_|⟨op2,_|⟨o3,ops⟩⟩⟩
   ·show h
   ·rcases rs with _|⟨r,_|⟨r2,rs⟩⟩
    ·show h
    ·show ad9 (by simpa using (dZ h).1) (SE I (dZ h).2)
    ·show h
   ·rcases rs with _|⟨r,_|⟨r2,_|⟨r3,rs⟩⟩⟩
    ·show h
    ·show h
    ·show Ţ (Ub I (dZ h).2) (by simpa using (dZ h).1)
    ·show h
   ·show h
  |BoolOp op es p=>show Z8 (I.6 h)
  |_=>first
   |show h
   |show ad1 ((I.1 h).post λa aw h=>JQ h) (aet rfl))
 (b:=λ{sc op es ρ H Q X} h=>by
  match es,h with
  |[],h=>show h.elim
  |[e],h=>show ahj (I.1 h)
  |e::e'::r,h=>
   show Χ ((I.1 h).post λa aw h=>(JQ h).post λt aG h=>?_);cases op <;> induction t using ez <;> first|show I.5 h|show h)
 (a:=λ{sc op es ρ H Q X} h=>by
  match es,h with
  |[],h=>show h
  |[e],h=>show ĝ (I.4 h)
  |e::e'::r,h=>
   cases op
   ·show NB ((I.4 h).post λb aw h=>by induction b using ez;show h;show I.6 h)
   ·show MS ((I.4 h).post λb aw h=>by induction b using ez;show I.6 h;show h))
 (es:=λ{sc es ρ H Q X} pos hs h=>by
  rcases es with _|⟨e,_|⟨e2,r⟩⟩
  ·show OT h
  ·simp only [gy,Ff,d9,lC] at hs;show Q4 ((I.1 h).post λa aw h=>OT h) hs.1
  ·have hs:=Bool.and_eq_true_iff.mp (show (!tR e && gy (e2::r))=ai from hs);show Q4 ((I.1 h).post λa aw h=>I.7 pos hs.2 h) (by simpa using hs.1))
 (p:=λ{sc o ρ H Q X} h=>by
  induction o using eL with
  |none=>show h
  |some e=>show I.1 h)
end
end
section
section
variable (T:VK) (m:Cn)
noncomputable def B_ (e:bR):aR ak:=(zf e).map (λx=>x.1)
noncomputable def MQ (a:AV):aR {z:AV×AV // a= .tup [z.1,z.2]\/a= .lst [z.1,z.2]}:=match a with
 | .tup [u,w]=>ae ⟨(u,w),.inl rfl⟩
 | .lst [u,w]=>ae ⟨(u,w),.inr rfl⟩
 |_=>none
noncomputable def Ur (a:AV):aR (AV×AV):=(MQ a).map (λx=>x.1)
noncomputable def vl (sc:bA) (t:bR) (a:AV):aR Rh:=match t with
 | .Name x _=>zA (lr sc x) (ae [(x,a)])
 | .Tuple es _ _=>(match es with
  |[e1,e2]=>(B_ e1).bind λx=>(B_ e2).bind λy=>zA (lr sc x && lr sc y && m.c.qt) ((Ur a).map λp=>[(y,p.2),(x,p.1)])
  |_=>none)
 |_=>none
def sq (nx:Rh->aj->Prop) (Q:PS):PS:=λf ρ H=>match f with
 | .next=>nx ρ H
 | .ret v=>Q (.ret v) ρ H
def Sb:Rh->Rh->Prop
 |[],_=>cL
 |p::r,ρ=>ρ.lookup p.1=ae p.2/\Sb r ρ
def tp (sc:bA) (t:bR) (bd:Rh->aj->PS->Prop) (ok:aj->Prop) (Q:PS):ah AV->Rh->aj->Prop
 |[],ρ,H=>Q .next ρ H
 |a::l,ρ,H=>iC (vl m sc t a) λbs=>bd (rk bs ρ) H (sq (λaO H'=>ok H'/\∃iS,Sb iS aO/\tp sc t bd ok Q l iS H') Q)
noncomputable def JC (e:bR):aN:= !Bm e.ctorIdx 25
noncomputable def aa7:bR->aN
 | .Call f _ _ _=>B_ f !=ae "zip"
 |_=>ai
noncomputable def Sl (e:bR):aN:=sh e && aa7 e
def vV (f:ar) (sc:bA) (e:bR) (ρ:Rh) (H:aj) (Q:PQ) (X:PX):Prop:=match e with
 | .List es p=>eI (gy es) (qS T f sc es m ρ H (λl aw=>eI (ie l.length 1000) (∀a,aw a=none->Q (.ref a) (aw.set a (.list l)))) X)
 | .Dict ks vs p=>(match ks,vs with
  |[],[]=>∀d,H d=none->Q (.ref d) (H.set d (.dict []))
  |ks,vs=>WE m.c m.n sc (.Dict ks vs p) ρ H Q X)
 |e=>vE T f sc e m ρ H Q X
noncomputable def Tq:bR->aN
 | .List es _=>es.length==4
 |_=>au
def PY (f:ar) (sc:bA) (o:aR bR) (ρ:Rh) (H:aj) (Q:PS) (X:PX):Prop:=match o with
 |none=>Q (.ret .none) ρ H
 |some e=>fh (Tq e) (vV T m f sc e ρ H (λa aw=>Q (.ret a) ρ aw) X) (vE T f sc e m ρ H (λa aw=>Q (.ret a) ρ aw) X)
noncomputable def aei:bR->aR ak
 | .Attribute _ a _=>ae a
 |_=>none
noncomputable def Rc:bR->aN
 | .Call f _ _ _=>aei f==ae "pop"
 |_=>au
noncomputable def CP (sc scope:bA) (x:ak) (q p':fU):aN:=sc.names.lookup x==ae .local && q.line==p'.line && !(scope.names.any λ(n,k)=>n==x && (k== .local||k== .cell))
noncomputable def Pw (e:bR):aR {z:bR×ah FV×bA×fU // e= .ListComp z.1 z.2.1 z.2.2.1 z.2.2.2}:=match e with
 | .ListComp a b c d=>ae ⟨(a,b,c,d),rfl⟩
 |_=>none
noncomputable def BF (e:bR):aR (bR×ah FV×bA×fU):=(Pw e).map (λx=>x.1)
def SY (f:ar) (sc:bA) (x:ak) (q:fU) (z:bR×ah FV×bA×fU) (ρ:Rh) (H:aj) (Q:PS) (X:PX) (raw:Prop):Prop:=match z with
 |(elt,gs,scope,p')=>fh (Rc elt) raw (eI (sc.kind== .function && lr sc x) (fh (CP sc scope x q p') (match zH gs with
     |some (t',it,ifs)=>eI (mr sc scope && (xf t'||m.c.qt) && sh it) (vI T f sc it m ρ H (λitems ok aw=>zX (wA T f) (vE T f) (gY scope sc) m (ip (gY scope sc) ρ) t' ifs elt items ok aw X (λl aG=>Q .next (rc x (.lst l) ρ) aG)) X)
     |none=>raw)
    (vE T f sc (.ListComp elt gs scope p') m ρ H (λa aw=>Q .next (rc x a ρ) aw) X)))
def Nb (f:ar) (sc:bA) (t e:bR) (p:fU) (ρ:Rh) (H:aj) (Q:PS) (X:PX):Prop:=match t with
 | .Name x q=>fh (oO e) (match BF e with
   |some z=>SY T m f sc x q z ρ H Q X (cP m.c m.n sc (.Assign [.Name x q] e p) ρ H Q (λx J H'=>X x H'))
   |none=>cP m.c m.n sc (.Assign [.Name x q] e p) ρ H Q (λx J H'=>X x H')) (eI (lr sc x) (vV T m f sc e ρ H (λa aw=>Q .next (rc x a ρ) aw) X))
 | .Attribute o at_ q=>fh (oO e) (cP m.c m.n sc (.Assign [.Attribute o at_ q] e p) ρ H Q (λx J H'=>X x H')) (vV T m f sc e ρ H (λa aw=>vE T f sc o m ρ aw (λb aG=>wY T b at_ a aG λaV=>Q .next ρ aV) X) X)
 | .Subscript o i q=>eI (!oO e) (vE T f sc e m ρ H (λa aw=>vE T f sc o m ρ aw (λb aG=>vE T f sc i m ρ aG (λd aV=>C4 m.c m.n b d a aV (λfE=>Q .next ρ fE) X) X) X) X)
 | .Tuple es k q=>fh (JC e && !oO e) (vE T f sc e m ρ H (λa aw=>iC (vl m sc (.Tuple es k q) a) λbs=>Q .next (rk bs ρ) aw) X) (cP m.c m.n sc (.Assign [.Tuple es k q] e p) ρ H Q (λx J H'=>X x H'))
 |t=>cP m.c m.n sc (.Assign [t] e p) ρ H Q (λx J H'=>X x H')
noncomputable def rS (e:bR):aR {z:ak×ah bR // ∃p q,e= .Call (.Name z.1 p) z.2 [] q}:=match e with
 | .Call (.Name x p) es [] q=>ae ⟨(x,es),p,q,rfl⟩
 |_=>none
noncomputable def HG (e:bR):aR (ak×ah bR):=(rS e).map (λx=>x.1)
def Hw (f:ar) (sc:bA) (e:bR) (ρ:Rh) (H:aj) (X:PX) (raw:Prop):Prop:=match HG e with
 |some (x,es)=>eI (jc sc x && gy es && ie 2 m.n) (iC (T.ex x) λD=>qS T f sc es m ρ H (λl aw=>match l with
  |[w]=>X ⟨D,w,.int (-1)⟩ aw
  |[w,a]=>X ⟨D,w,a⟩ aw
  |_=>dV) X)
 |none=>raw
end
section
variable (T:VK)
mutual
def vS (f:ar):ar->bA->ah fc->Cn->Rh->aj->PS->PX->Prop
 |0,sc,ss,m,ρ,H,Q,X=>WS m.c m.n sc ss ρ H Q (λx J H'=>X x H')
 |k+1,sc,ss,m,ρ,H,Q,X=>match ss with
  |[]=>Q .next ρ H
  |st::r=>(match r with
   |[]=>Hx f k sc st m ρ H Q X
   |vi::r=>Hx f k sc st m ρ H (sq (λaO H'=>vS f k sc (vi::r) m aO H' Q X) Q) X)
def Hx (f:ar):ar->bA->fc->Cn->Rh->aj->PS->PX->Prop
 |0,sc,st,m,ρ,H,Q,X=>cP m.c m.n sc st ρ H Q (λx J H'=>X x H')
 |k+1,sc,st,m,ρ,H,Q,X=>match st with
  | .Return o _=>PY T m f sc o ρ H Q X
  | .Expr e p=>fh (oO e) (cP m.c m.n sc (.Expr e p) ρ H Q (λx J H'=>X x H')) (vE T f sc e m ρ H (λJ aw=>Q .next ρ aw) X)
  | .Pass _=>Q .next ρ H
  | .Assign ts e p=>(match ts with
   |[t]=>Nb T m f sc t e p ρ H Q X
   |ts=>cP m.c m.n sc (.Assign ts e p) ρ H Q (λx J H'=>X x H'))
  | .If t b o _=>vT T f sc t m ρ H (λq aw=>fh q (vS f k sc b m ρ aw Q X) (vS f k sc o m ρ aw Q X)) X
  | .For t it b o p=>(match o with
   |[]=>fh (Sl it) (vI T f sc it m ρ H (λitems ok aw=>tp m sc t (λaO H' Q'=>vS f k sc b m aO H' Q' X) ok Q items ρ aw) X) (cP m.c m.n sc (.For t it b [] p) ρ H Q (λx J H'=>X x H'))
   |o=>cP m.c m.n sc (.For t it b o p) ρ H Q (λx J H'=>X x H'))
  | .Raise e o p=>(match e,o with
   |some e,none=>Hw T m f sc e ρ H X (cP m.c m.n sc (.Raise (ae e) none p) ρ H Q (λx J H'=>X x H'))
   |e,o=>cP m.c m.n sc (.Raise e o p) ρ H Q (λx J H'=>X x H'))
  |st=>cP m.c m.n sc st ρ H Q (λx J H'=>X x H')
end
end
end
section
section
variable {T:VK} {c:Cx} {n f k:ar} {m:Cn} {sc:bA} {ρ:Rh} {H:aj}
theorem se {P R:Prop} (h:fh b P R) (e:b=ai):P:=by subst e;show h
theorem sW {P R:Prop} (h:fh b P R) (e:b=au):R:=by subst e;show h
theorem wH (h:oO e=au):∀(t:aR bR) (line:ar) (env:eJ),oi e t line env=pure au:=by
 induction e using kA <;> first|((first|(injection h;done)|cases h);done)|(intros;rfl)
theorem Q0 (h:B_ e=ae x):∃p,e= .Name x p:=aA (Option.map_eq_some_iff.mp h) λz hz e=>⟨z.2,e▸Co hz⟩
theorem Ww (h:Ur a=ae p):a= .tup [p.1,p.2]\/a= .lst [p.1,p.2]:=wV (o:=MQ a) h
theorem Gh (h:vl m sc t a=ae bs) (qq:Q (rk bs ρ) H):tF m.c m.n sc t a ρ H Q X:=by
 induction t using kA with
 |Name x p=>
  show aM (Ci h) λhk h=>?_;injection h with ct;subst ct;show zU hk qq
 |Tuple es k' p=>
  rcases es with _|⟨e1,_|⟨e2,_|⟨e3,r⟩⟩⟩ <;> try (injection h;done)
  show aA (Option.bind_eq_some_iff.mp h) λx h1 g=>aA (Option.bind_eq_some_iff.mp g) λy h2 f=>?_;clear h g;show bj (Q0 h1) λp1 bC=>?_;subst bC;show bj (Q0 h2) λp2 bW=>?_;subst bW;show aM (Ci f) λhk f=>?_;simp only [d9] at hk;show aA (Option.map_eq_some_iff.mp f) λq h3 dD=>?_;subst dD;rcases Ww h3 with rfl|rfl
  ·show H9 rfl (zN hk.2) rfl rfl (zU hk.1.1 (zU hk.1.2 qq))
  ·show H9 rfl MU rfl rfl (zU hk.1.1 (zU hk.1.2 qq))
 |_=>injection h
theorem Sb.sub (h:Sb iS ρ) (y:ak) (a:AV) (e:iS.lookup y=ae a):ρ.lookup y=ae a:=by
 induction iS with
 |nil=>show f5 e
 |cons p r ih=>
  by_cases q:y=p.1
  ·rw [q,lookup_cons_self] at e;show q▸bZ e▸h.1
  ·rw [k_ q] at e;show ih h.2 e
theorem WS.wk (h:WS m.c m.n sc ss ρ H (λf aO H'=>∃iS,(∀y a,iS.lookup y=ae a->aO.lookup y=ae a)/\Q f iS H') X):WS m.c m.n sc ss ρ H Q X:=λA env s C=>
 cq (h A env s C) (λf s' x'=>QS.el x' λH' af aO S fr er oG=>aA oG λiS k q=>(QS.mk H' af iS S fr (er.weak k) q)) λJ J z=>z
theorem ad8 (hb:∀{ρ H Q},bd ρ H Q->WS m.c m.n sc body ρ H Q X) (items:ah AV) (ρ:Rh) (H:aj) (h:tp m sc t bd ok Q items ρ H):LS m.c m.n sc t body ok Q X items ρ H:=by
 induction items generalizing ρ H with
 |nil=>show h
 |cons a l ih=>
  show aA (kc h) λbs e h=>Gh e (WS.wk ((hb h).mono (λf aO H' q=>?_) λJ J J z=>z));induction f using AF.casesOn with
  |next=>show aM q λq1 q=>aA q λiS s q=>bV iS s.sub q1 (ih iS H' q)
  |ret v=>show (ao aO (λJ J e=>e) q)
theorem zt (N:ar) (R:ar->σ->Rh) (HH:ar->σ->aj) (P:ar->σ->Prop) (nil:∀s,P N s->Q .next (R N s) (HH N s))
  (step:∀i s,i < N->P i s->∀K:PS,(∀s' aO,P (i+1) s'->ok (HH (i+1) s')->Sb (R (i+1) s') aO->K .next aO (HH (i+1) s'))->(∀{v aO H'},Q (.ret v) aO H'->K (.ret v) aO H')->iC (vl m sc t (.int (i:aq))) λbs=>bd (rk bs (R i s)) (HH i s) K):
  ∀s,P 0 s->tp m sc t bd ok Q (mN N) (R 0 s) (HH 0 s):=by
 have key:∀k i,i+k=N->∀s,P i s->tp m sc t bd ok Q ((mN N).drop i) (R i s) (HH i s):=by
  intro k;induction k with
  |zero=>
   intro i e s p;have e:=e;subst e;exists vN (by simp [mN]);show nil s p
  |succ k ih=>
   intro i e s p;have hl:i < (mN N).length:=by simp [mN];lia
   show aa (Fq hl)<|aa (show (mN N)[i]= .int (i:aq) by simp [mN]) ?_
   show step i s (by lia) p _ (λs' aO p' o b=>⟨o,_,b,ih (i+1) (by lia) s' p'⟩) λq=>q
 show key N 0 (Lz N)
theorem jX (f:α->AV) (R:σ->Rh) (HH:σ->aj) (P:ah α->σ->Prop) (nil:∀s,P [] s->Q .next (R s) (HH s))
  (step:∀x r s,P (x::r) s->∀K:PS,(∀s' aO,P r s'->ok (HH s')->Sb (R s') aO->K .next aO (HH s'))->(∀{v aO H'},Q (.ret v) aO H'->K (.ret v) aO H')->iC (vl m sc t (f x)) λbs=>bd (rk bs (R s)) (HH s) K)
  (l:ah α) (s:σ) (p:P l s):tp m sc t bd ok Q (l.map f) (R s) (HH s):=by
 induction l generalizing s with
 |nil=>show nil s p
 |cons x r ih=>show step x r s p _ (λs' aO p' o b=>⟨o,_,b,ih s' p'⟩) λq=>q
theorem Ic (I:∀k,l5 T m k) (h:vV T m f sc e ρ H Q X):WE m.c m.n sc e ρ H Q X:=by
 induction e using kA with
 |List es p=>
  show aM (dZ h) λh1 h=>abx (((I f).7 p h1 h).post λl aw h=>?_);show aM (dZ h) λh2 h=>⟨by exists fH;have:=Nat.ble_eq.mp h2;lia,h⟩
 |Dict ks vs p=>
  match ks,vs,h with
  |[],[],h=>show Zn (gQ m.c) h
  |[],_::_,h=>show h
  |_::_,_,h=>show h
 |_=>show (I f).1 h
theorem ÿ (I:∀k,l5 T m k) (h:PY T m f sc o ρ H Q X):cP m.c m.n sc (.Return o p) ρ H Q (λx J H'=>X x H'):=by
 induction o using eL with
 |none=>show Ť h
 |some e=>
  cases hb:Tq e with
  |true=>show Ox (Ic I (se h hb))
  |false=>show Ox ((I f).1 (sW h hb))
theorem abV (h:HG e=ae (x,es)):∃p q,e= .Call (.Name x p) es [] q:=wV (o:=rS e) h
theorem aaM (ok:T.Ok m.c) (I:∀k,l5 T m k) (h:Hw T m f sc e ρ H X (cP m.c m.n sc (.Raise (ae e) none p) ρ H Q (λx J H'=>X x H'))):cP m.c m.n sc (.Raise (ae e) none p) ρ H Q (λx J H'=>X x H'):=by
 unfold Hw at h;cases hr:HG e with
 |none=>simp -iota only [hr] at h;show h
 |some y=>
  rcases y with ⟨x,es⟩
  simp -iota only [hr] at h;show dP (abV hr) λp1 p2 d7=>aa d7<|aM (dZ h) λh1 h=>aA (kc h) λD e h=>?_
  simp -iota only [d9] at h1;show aM h1 λeM h3=>aM eM λh1 h2=>m_ (ok.6 e) λg1 g2 g3 Ij=>rl Ij λfI sI t g4=>Wm h1 g1 g2 g3 g4 h2 (Nat.ble_eq.mp h3) (((I f).7 p2 h2 h).post λl aw h=>?_)
  match l,h with
  |[w],h=>show (ew w _ (.inr ⟨rfl,rfl⟩) h)
  |[w,a],h=>show (ew w a (.inl rfl) h)
theorem IX (hk:(sc.kind== .function)=ai):∀env:eJ,env.scope=sc->oi (.ListComp elt gs scope p') (ae (.Name x q)) line env=pure (CP sc scope x q p'):=λenv e=>by
 have hk:=beq_iff_eq.mp hk;subst e;show (?_:(pure (env.blockKind== .function && env.kindOf x==ae .local && q.line==p'.line && !(scope.names.any λ(n,k)=>n==x && (k== .local||k== .cell))):cC aN)=_);have:env.blockKind= .function:=by unfold Env.blockKind;exists hk;rfl
 exists this;rfl
theorem aeB (hk:lr sc x=ai) (h:WE m.c m.n sc e ρ H (λa aw=>Q .next ((x,a)::ρ) aw) (λx H'=>X x ρ H')) (oH:∀env,env.scope=sc->oi e (ae (.Name x q)) pos.line env=pure au):
  cP m.c m.n sc (.Assign [.Name x q] e pos) ρ H Q X:=λA env s C=>
 Ny (h.ex C λv aw aC a S T y q=>up<|rh (C.keep S).1.1 (C.keep S).2 (xK (C.keep S) hk) y λaL bh nW=>(QS.mk aw .next _ (T.trans bh) rfl nW q)) (oH env C.3)
theorem Ua {st:fc} (h:cP m.c m.n sc st ρ H (λf aO H'=>f= .next/\∃D l aG,aO=(x,.ref D)::ρ/\H'=aG.set D (.list l)/\aG D=none/\Q .next ((x,.lst l)::ρ) aG) X):cP m.c m.n sc st ρ H Q X:=λA env s C=>
 cq (h A env s C) (λf s' x'=>aA x' λH' S gA=>vd gA λaf aO fr er q1 oG=>gU oG λD l aG q2 q3 q4 q=>by
  subst q1;subst q2;subst q3;have F:=Fg.Eb (c:=m.c) (l:=l) q4;show (QS.mk aG .next _ (S.forget F.1) fr (er.fg S.4 F) q)) λJ J z=>z
theorem abA (h:BF e=ae z):e= .ListComp z.1 z.2.1 z.2.2.1 z.2.2.2:=wV (o:=Pw e) h
theorem Ü (h:JC e=ai) (env:eJ):yg [.Tuple es k q] e env=pure none:=by
 induction e using kA <;> first|(injection h;done)|rfl
theorem ace (ok:T.Ok m.c) (I:∀k,l5 T m k) (hz:BF e=ae z) (h:SY T m f sc x q z ρ H Q X (cP m.c m.n sc (.Assign [.Name x q] e p) ρ H Q (λx J H'=>X x H'))):cP m.c m.n sc (.Assign [.Name x q] e p) ρ H Q (λx J H'=>X x H'):=by
 rcases z with ⟨elt,gs,scope,p'⟩
 have e0:=abA hz;subst e0;cases hp:Rc elt with
 |true=>show se h hp
 |false=>
  have h:=sW h hp;show aM (dZ h) λh1 h=>?_;simp only [d9] at h1;show aM h1<|λh1 h2=>?_
  cases hs:CP sc scope x q p' with
  |false=>
   have h:=sW h hs;show aeB h2 ((I f).1 h) λenv e=>by show aa (IX h1 env e)<|aa hs ?_;rfl
  |true=>
   have h:=se h hs;cases hc:zH gs with
   |none=>rw [hc] at h;show h
   |some y=>
    rcases y with ⟨t',it,ifs⟩
    simp only [hc] at h;show aM (dZ h) λh3 h4=>?_;simp only [d9] at h3;have e1:=NG hc;show aa e1<|Ua (QQ h2 h3.1.1 (yI h3.1.2) (((I f).2 h4).post λitems CZ aw h=>HL (I f) h λl q D hD=>⟨rfl,D,l,aw,rfl,rfl,hD,q⟩) (λenv e=>by show aa (IX h1 env e)<|aa hs ?_;rfl) (uQ h3.2))
theorem WJ (ok:T.Ok m.c) (I:∀k,l5 T m k) (h:Nb T m f sc t e p ρ H Q X):cP m.c m.n sc (.Assign [t] e p) ρ H Q (λx J H'=>X x H'):=by
 induction t using kA with
 |Name x q=>
  cases hc:oO e with
  |false=>
   show aM (dZ (sW h hc)) λh1 h=>af9 h1 (Ic I h) λenv=>wH hc _ _ _
  |true=>
   have h:=se h hc;cases hl:BF e with
   |none=>simp only [hl] at h;show h
   |some z=>rw [hl] at h;show ace ok I hl h
 |Attribute o at_ q=>
  cases hc:oO e with
  |true=>show se h hc
  |false=>
   have h:=sW h hc;show Sg ((Ic I h).post λa aw h=>((I f).1 h).post λb aG h=>yW ok h) λenv=>wH hc _ _ _
 |Subscript o i q=>
  show aM (dZ h) λh1 h=>adK (((I f).1 h).post λa aw h=>((I f).1 h).post λb aG h=>(I f).1 h) λenv=>wH (by simpa using h1) _ _ _
 |Tuple es k' q=>
  cases hc:JC e && !oO e with
  |false=>show sW h hc
  |true=>
   have h:=se h hc;simp only [d9,lC] at hc;show Qu (((I f).1 h).post λa aw h=>?_) (λenv J=>by show (?_:oi e (ae (.Tuple es k' q)) p.line env=_);show wH hc.2 _ _ _) (λenv J=>?_)
   ·show aA (kc h) λbs e h=>Gh e h
   ·show Ü hc.1 env
 |_=>show h
inductive SM (T:VK) (m:Cn) (f k:ar):Prop
 |mk (s:∀{sc ss ρ H Q X},vS T f k sc ss m ρ H Q X->WS m.c m.n sc ss ρ H Q (λx J H'=>X x H')) (s1:∀{sc st ρ H Q X},Hx T f k sc st m ρ H Q X->cP m.c m.n sc st ρ H Q (λx J H'=>X x H'))
theorem g_ (ok:T.Ok m.c):∀k,l5 T m k
 |0=>agy
 |k+1=>aaF ok (g_ ok k)
theorem aag (I:SM T m f k) (h:fh b (vS T f k sc s1 m ρ H Q X) (vS T f k sc s2 m ρ H Q X)):if b=ai then WS m.c m.n sc s1 ρ H Q (λx J H'=>X x H') else WS m.c m.n sc s2 ρ H Q (λx J H'=>X x H'):=by
 induction b using ez
 ·show I.1 h
 ·show I.1 h
theorem QY (ok:T.Ok m.c) (k:ar):SM T m f k:=by
 induction k with
 |zero=>show ⟨id,id⟩
 |succ k I=>
  show .mk
   (s:=λ{sc ss ρ H Q X} h=>by
   induction ss using c6 with
   |nil=>show WS.nil h
   |cons st r=>
    induction r using c6 with
    |nil=>show WS.cons ((I.2 h).mono (λa aO H' q=>by induction a using AF.casesOn;show WS.nil q;show q) λJ J J z=>z)
    |cons vi r=>show WS.cons ((I.2 h).mono (λa aO H' q=>by induction a using AF.casesOn;show I.1 q;show q) λJ J J z=>z))
   (s1:=λ{sc st ρ H Q X} h=>by
   induction st using Stmt.casesOn with
   |Return o p=>show ÿ (g_ ok) h
   |Assign ts e p=>
    match ts,h with
    |[t],h=>show WJ ok (g_ ok) h
    |[],h=>show h
    |_::_::_,h=>show h
   |For t it b o p=>
    induction o using c6 with
    |cons=>show h
    |nil=>
     cases hn:Sl it with
     |false=>show sW h hn
     |true=>
      have h:=se h hn;show aaY (((g_ ok f).2 h).post λitems CZ aw h=>ad8 (λq=>I.1 q) items _ _ h) (uQ (Bool.and_eq_true_iff.mp hn).1)
   |If t b o p=>show ads (((g_ ok f).4 h).post λq aw h=>aag I h)
   |Raise e o p=>
    induction e using eL with
    |none=>show h
    |some e=>induction o using eL with
     |some=>show h
     |none=>show aaM ok (g_ ok) h
   |Expr e p=>
    cases hc:oO e with
    |true=>show se h hc
    |false=>have h:=sW h hc;show Sx ((g_ ok f).1 h) λenv=>wH hc _ _ _
   |Pass p=>show aef h
   |_=>show h)
theorem rt (ok:T.Ok m.c) (f k:ar) (h:vS T f k sc ss m ρ H Q X):WS m.c m.n sc ss ρ H Q (λx J H'=>X x H'):=(QY ok k).1 h
theorem bq.forget (h:bq c n g args H (λa H'=>∃H'',Sub H'' H'/\Q a H'') (λx H'=>∃H'',Sub H'' H'/\X x H'')):bq c n g args H Q X:=λA s vs C y=>
 cq (h A s vs C y) (λv s' x'=>aA x' λH' S gA=>aA gA λav yv oG=>aA oG λH'' f q=>(ao H'' (S.forget f) (ao av (yv.forget f) q))) λe s' x'=>EP.el x' λH' x S yx gA=>aA gA λH'' f q=>(EP.mk H'' x (S.forget f) (yx.forget f) q)
end
end
section
noncomputable abbrev pw:rU:=akW
noncomputable def aQ (i:ar):fc:=(pw.main.body[i]?).getD (.Pass default)
noncomputable def dy (i j:ar):fc:=match aQ i with
 | .ClassDef _ _ _ body _ _ _ _ _ _ _=>(body[j]?).getD (.Pass default)
 |_=> .Pass default
noncomputable def fB:fc->ah fc
 | .FunctionDef _ _ b _ _ _ _ _ _ _=>b
 |_=>[]
noncomputable def fA:fc->Arguments
 | .FunctionDef _ a _ _ _ _ _ _ _ _=>a
 |_=>default
noncomputable def fS:fc->bA
 | .FunctionDef _ _ _ _ _ _ s _ _ _=>s
 |_=>default
noncomputable def bM (st:fc) (nm qn:ak) (cd df md:aI):eU:=⟨.type "function",none,.func {name:=nm,qualname:=qn,params:=fA st,body:= .stmts (fB st),scope:=fS st,globals:=3,closure:=[],defaults:=df,kwdefaults:= .none,pyModule:=md,code:=cd},#[]⟩
noncomputable def gi (nm qn:ak) (t:ar) (line J_ nl:aq) (a:ar) (c d e:aI) (x tt:ar):eU:=⟨.type "code",none,.fields #[.str nm t,.str qn (t+1),.str "/claim/cut.py" (t+2),.int line 0,.int J_ 0,.int 0 0,.int 0 0,.int nl 0,.ref a,.bool ai,.int 181 0,.ref (a+1),.none,c,d,e,.int x 0,.int line 0,.str "/claim/cut.py" tt],#[]⟩
noncomputable def cu (nm qn:ak) (t:ar) (line J_ nl:aq) (a x:ar):eU:=gi nm qn t line J_ nl a (.ref (a+2)) (.ref (a+3)) (.ref (a+4)) x (x+1)
noncomputable def pA (P:kV) (cls:aI) (n:ar) (es:ah (eT×ar×aI)):eU:=⟨cls,none,.dict (es.map λx=>⟨Ko P (Str.ofString x.1),.str (Str.ofString x.1) x.2.1,x.2.2⟩).toArray n,#[]⟩
noncomputable def KK (P:kV):iI:=[
 (0,boot_o_0 P),
 (1,boot_o_1 P),
 (2,pA P .none 2 [("type.__subclasses__.Exception.0",225,(.int (39) 0)),("type.__subclasses__.Exception.n",226,(.int (1) 0))]),
 (3,pA P (.type "dict") 116 [("__name__",165,(.str "law_no0394_01" 1147)),("__doc__",166,.none),("__package__",167,.none),("__loader__",168,(.builtin "__main__.__loader__#opaque")),("__spec__",169,.none),("__annotations__",170,(.ref 6)),("__builtins__",171,(.ref 4)),("__file__",173,(.str "/claim/cut.py" 172)),("__cached__",174,.none),("PostError",228,(.ref 39)),("NameFault",244,(.ref 52)),("LogFault",260,(.ref 64)),("StoreFault",276,(.ref 76)),("SYSTEM",280,(.str "\\Seen \\Answered \\Flagged \\Deleted \\Draft" 279)),("NO_KEYWORD",282,(.str "(){ %*\"\\]" 281)),("MOST_KEYWORD",284,(.int (60) 283)),("system_flags",290,(.ref 85)),("is_keyword",298,(.ref 92)),("flag_name",306,(.ref 99)),("flag_tuple",316,(.ref 106)),("Letter",368,(.ref 137)),("Box",425,(.ref 175)),("remade",431,(.ref 184)),("place_of",442,(.ref 191)),("raised",449,(.ref 198)),("add_letter",461,(.ref 205)),("set_flags",473,(.ref 212)),("flags_after",479,(.ref 217)),("expunge",485,(.ref 222)),("copy_letters",491,(.ref 227)),("move_letters",497,(.ref 232)),("is_sound",503,(.ref 237)),("is_refused",513,(.ref 244)),("store_flags",519,(.ref 250)),("distinct",528,(.ref 257)),("forget_gone",534,(.ref 262)),("MOST_DEPTH",538,(.int (20) 537)),("MODULUS",540,(.int (65521) 539)),("SUM_WIDTH",542,(.int (4) 541)),("LAST_SIGN",544,(.int (1114111) 543)),("NUMBER",546,(.int (105) 545)),("TEXT",548,(.int (116) 547)),("OCTETS",550,(.int (111) 549)),("ROW",552,(.int (114) 551)),("count_octets",561,(.ref 269)),("read_count",572,(.ref 276)),("folded_number",579,(.ref 283)),("plain_number",586,(.ref 290)),("text_codes",595,(.ref 297)),("value_octets",601,(.ref 302)),("read_text",615,(.ref 309)),("read_some",629,(.ref 316)),("read_value",641,(.ref 323)),("is_row",648,(.ref 330)),("row_octets",655,(.ref 337)),("read_row",664,(.ref 344)),("adler",674,(.ref 351)),("sum_octets",681,(.ref 358)),("framed",689,(.ref 365)),("row_at",701,(.ref 372)),("upper_text",709,(.ref 377)),("DELIMITER",713,(.str "/" 712)),("INBOX_names",715,(.str "INBOX" 714)),("WILD_SIGNS",717,(.str "%*" 716)),("is_half",724,(.ref 384)),("first_part",732,(.ref 391)),("normal_name",741,(.ref 398)),("is_barred_code",748,(.ref 405)),("check_name",758,(.ref 412)),("is_below",766,(.ref 419)),("INBOX_store",770,(.str "INBOX" 769)),("MOST",772,(.int (4294967295) 771)),("MOST_MODSEQ",774,(.int (9223372036854775807) 773)),("SHAPES",776,(.str "create:tn delete:t rename:tt append:tfno flags:tnf store:tutfn expunge:tu copy:tut move:tut subscribe:t unsubscribe:t forget:tn snapshot:nfr" 775)),("Store",836,(.ref 462)),("is_number",843,(.ref 473)),("are_texts",849,(.ref 478)),("are_numbers",855,(.ref 483)),("fits_shape",863,(.ref 490)),("check_row",875,(.ref 497)),("settled_name",884,(.ref 504)),("need_modseqs",892,(.ref 511)),("need_room",900,(.ref 518)),("need_new",908,(.ref 525)),("need_validity",916,(.ref 532)),("need_uids",922,(.ref 537)),("create_box",932,(.ref 544)),("delete_box",941,(.ref 551)),("renamed_pairs",953,(.ref 558)),("rename_box",959,(.ref 563)),("rename_inbox",969,(.ref 570)),("append_letter",982,(.ref 577)),("flag_letter",993,(.ref 584)),("store_letters",1006,(.ref 591)),("expunge_letters",1016,(.ref 598)),("copy_or_move",1022,(.ref 603)),("subscribe_name",1031,(.ref 610)),("unsubscribe_name",1037,(.ref 615)),("is_letter_told",1044,(.ref 622)),("is_box_told",1050,(.ref 627)),("need_sound",1059,(.ref 634)),("restore",1065,(.ref 639)),("snapshot_rows",1073,(.ref 646)),("apply",1082,(.ref 653)),("Keeper",1140,(.ref 692)),("compacted",1146,(.ref 701)),("_law_box",1154,(.ref 706)),("_law_draw",1164,(.ref 713)),("_law_name",1171,(.ref 720)),("_law_flags",1177,(.ref 725)),("_law_uids",1183,(.ref 730)),("_law_deed",1189,(.ref 735)),("_law_heard",1197,(.ref 742)),("_law_changed",1206,(.ref 749)),("_law_bent",1212,(.ref 754)),("law",1227,(.ref 761))]),
 (22,⟨(.type "tuple"),none,.seq #[(.int (-1) 202)] 0,#[]⟩),
 (28,cu "__init__" "PostError.__init__" 203 4 3 3 23 209),
 (29,bM (dy 1 0) "__init__" "PostError.__init__" (.ref 28) (.ref 22) (.str "postkeep.errors" 187)),
 (35,cu "told" "PostError.told" 212 9 1 3 30 216),
 (36,bM (dy 1 1) "told" "PostError.told" (.ref 35) .none (.str "postkeep.errors" 187)),
 (38,pA P (.type "dict") 3 [("__module__",196,(.str "postkeep.errors" 187)),("__firstlineno__",200,(.int (2) 199)),("__init__",211,(.ref 29)),("told",218,(.ref 36)),("__static_attributes__",221,(.ref 37)),("__weakref__",223,(.ref 40)),("__doc__",224,.none)]),
 (39,⟨(.type "type"),none,.cls {name:="PostError",bases:=[(.type "Exception")],mro:=[(.ref 39),(.type "Exception"),(.type "BaseException"),(.type "object")],ns:=38,qualname:="PostError",hasDict:=ai,slotNames:=[],subclasses:=[(.ref 52),(.ref 64),(.ref 76)],abstract:=au,collection:=none,hasDel:=au},#[ae (.ref 15),none,ae (.str "PostError" 189),ae (.str "PostError" 197),ae (.builtin "Exception.__new__"),ae (.bool ai)]⟩),
 (51,pA P (.type "dict") 2 [("__module__",236,(.str "postkeep.errors" 187)),("__firstlineno__",240,(.int (11) 239)),("__static_attributes__",241,(.ref 50)),("__doc__",242,.none)]),
 (52,⟨(.type "type"),none,.cls {name:="NameFault",bases:=[(.ref 39)],mro:=[(.ref 52),(.ref 39),(.type "Exception"),(.type "BaseException"),(.type "object")],ns:=51,qualname:="NameFault",hasDict:=ai,slotNames:=[],subclasses:=[],abstract:=au,collection:=none,hasDel:=au},#[ae (.ref 43),none,ae (.str "NameFault" 229),ae (.str "NameFault" 237),ae (.builtin "Exception.__new__"),ae (.bool ai)]⟩),
 (63,pA P (.type "dict") 2 [("__module__",252,(.str "postkeep.errors" 187)),("__firstlineno__",256,(.int (13) 255)),("__static_attributes__",257,(.ref 62)),("__doc__",258,.none)]),
 (64,⟨(.type "type"),none,.cls {name:="LogFault",bases:=[(.ref 39)],mro:=[(.ref 64),(.ref 39),(.type "Exception"),(.type "BaseException"),(.type "object")],ns:=63,qualname:="LogFault",hasDict:=ai,slotNames:=[],subclasses:=[],abstract:=au,collection:=none,hasDel:=au},#[ae (.ref 55),none,ae (.str "LogFault" 245),ae (.str "LogFault" 253),ae (.builtin "Exception.__new__"),ae (.bool ai)]⟩),
 (75,pA P (.type "dict") 2 [("__module__",268,(.str "postkeep.errors" 187)),("__firstlineno__",272,(.int (15) 271)),("__static_attributes__",273,(.ref 74)),("__doc__",274,.none)]),
 (76,⟨(.type "type"),none,.cls {name:="StoreFault",bases:=[(.ref 39)],mro:=[(.ref 76),(.ref 39),(.type "Exception"),(.type "BaseException"),(.type "object")],ns:=75,qualname:="StoreFault",hasDict:=ai,slotNames:=[],subclasses:=[],abstract:=au,collection:=none,hasDel:=au},#[ae (.ref 67),none,ae (.str "StoreFault" 261),ae (.str "StoreFault" 269),ae (.builtin "Exception.__new__"),ae (.bool ai)]⟩),
 (84,cu "system_flags" "system_flags" 285 21 0 3 79 288),
 (85,bM (aQ 9) "system_flags" "system_flags" (.ref 84) .none (.str "postkeep.boxes" 277)),
 (91,cu "is_keyword" "is_keyword" 291 23 1 3 86 296),
 (92,bM (aQ 10) "is_keyword" "is_keyword" (.ref 91) .none (.str "postkeep.boxes" 277)),
 (98,cu "flag_name" "flag_name" 299 30 1 3 93 304),
 (99,bM (aQ 11) "flag_name" "flag_name" (.ref 98) .none (.str "postkeep.boxes" 277)),
 (105,cu "flag_tuple" "flag_tuple" 307 37 1 3 100 314),
 (106,bM (aQ 12) "flag_tuple" "flag_tuple" (.ref 105) .none (.str "postkeep.boxes" 277)),
 (119,cu "__init__" "Letter.__init__" 329 46 6 3 114 338),
 (120,bM (dy 13 0) "__init__" "Letter.__init__" (.ref 119) .none (.str "postkeep.boxes" 277)),
 (126,cu "has" "Letter.has" 341 53 2 3 121 346),
 (127,bM (dy 13 1) "has" "Letter.has" (.ref 126) .none (.str "postkeep.boxes" 277)),
 (133,cu "told" "Letter.told" 349 56 1 3 128 353),
 (134,bM (dy 13 2) "told" "Letter.told" (.ref 133) .none (.str "postkeep.boxes" 277)),
 (136,pA P (.type "dict") 4 [("__module__",324,(.str "postkeep.boxes" 277)),("__firstlineno__",328,(.int (44) 327)),("__init__",340,(.ref 120)),("has",348,(.ref 127)),("told",355,(.ref 134)),("__static_attributes__",361,(.ref 135)),("__dict__",363,(.ref 138)),("__weakref__",365,(.ref 139)),("__doc__",366,.none)]),
 (137,⟨(.type "type"),none,.cls {name:="Letter",bases:=[(.type "object")],mro:=[(.ref 137),(.type "object")],ns:=136,qualname:="Letter",hasDict:=ai,slotNames:=[],subclasses:=[],abstract:=au,collection:=none,hasDel:=au},#[none,none,ae (.str "Letter" 317),ae (.str "Letter" 325),ae (.builtin "object.__new__"),ae (.bool ai)]⟩),
 (154,cu "__init__" "Box.__init__" 381 60 3 3 149 387),
 (155,bM (dy 14 0) "__init__" "Box.__init__" (.ref 154) .none (.str "postkeep.boxes" 277)),
 (161,cu "letter" "Box.letter" 390 69 2 3 156 396),
 (162,bM (dy 14 1) "letter" "Box.letter" (.ref 161) .none (.str "postkeep.boxes" 277)),
 (166,gi "uids" "Box.uids" 399 73 1 3 163 .none .none (.ref 165) 402 403),
 (167,bM (dy 14 2) "uids" "Box.uids" (.ref 166) .none (.str "postkeep.boxes" 277)),
 (171,gi "told" "Box.told" 405 76 1 3 168 .none .none (.ref 170) 408 409),
 (172,bM (dy 14 3) "told" "Box.told" (.ref 171) .none (.str "postkeep.boxes" 277)),
 (174,pA P (.type "dict") 4 [("__module__",376,(.str "postkeep.boxes" 277)),("__firstlineno__",380,(.int (58) 379)),("__init__",389,(.ref 155)),("letter",398,(.ref 162)),("uids",404,(.ref 167)),("told",410,(.ref 172)),("__static_attributes__",418,(.ref 173)),("__dict__",420,(.ref 176)),("__weakref__",422,(.ref 177)),("__doc__",423,.none)]),
 (175,⟨(.type "type"),none,.cls {name:="Box",bases:=[(.type "object")],mro:=[(.ref 175),(.type "object")],ns:=174,qualname:="Box",hasDict:=ai,slotNames:=[],subclasses:=[],abstract:=au,collection:=none,hasDel:=au},#[none,none,ae (.str "Box" 369),ae (.str "Box" 377),ae (.builtin "object.__new__"),ae (.bool ai)]⟩),
 (183,gi "remade" "remade" 426 79 1 3 180 .none .none (.ref 182) 429 430),
 (184,bM (aQ 15) "remade" "remade" (.ref 183) .none (.str "postkeep.boxes" 277)),
 (190,cu "place_of" "place_of" 432 85 2 3 185 440),
 (191,bM (aQ 16) "place_of" "place_of" (.ref 190) .none (.str "postkeep.boxes" 277)),
 (197,cu "raised" "raised" 443 96 1 3 192 447),
 (198,bM (aQ 17) "raised" "raised" (.ref 197) .none (.str "postkeep.boxes" 277)),
 (204,cu "add_letter" "add_letter" 450 99 4 3 199 459),
 (205,bM (aQ 18) "add_letter" "add_letter" (.ref 204) .none (.str "postkeep.boxes" 277)),
 (211,cu "set_flags" "set_flags" 462 105 3 3 206 471),
 (212,bM (aQ 19) "set_flags" "set_flags" (.ref 211) .none (.str "postkeep.boxes" 277)),
 (216,gi "flags_after" "flags_after" 474 115 3 3 213 .none .none (.ref 215) 477 478),
 (217,bM (aQ 20) "flags_after" "flags_after" (.ref 216) .none (.str "postkeep.boxes" 277)),
 (221,gi "expunge" "expunge" 480 124 2 3 218 .none .none (.ref 220) 483 484),
 (222,bM (aQ 21) "expunge" "expunge" (.ref 221) .none (.str "postkeep.boxes" 277)),
 (226,gi "copy_letters" "copy_letters" 486 135 3 3 223 .none .none (.ref 225) 489 490),
 (227,bM (aQ 22) "copy_letters" "copy_letters" (.ref 226) .none (.str "postkeep.boxes" 277)),
 (231,gi "move_letters" "move_letters" 492 142 3 3 228 .none .none (.ref 230) 495 496),
 (232,bM (aQ 23) "move_letters" "move_letters" (.ref 231) .none (.str "postkeep.boxes" 277)),
 (236,gi "is_sound" "is_sound" 498 146 1 3 233 .none .none (.ref 235) 501 502),
 (237,bM (aQ 24) "is_sound" "is_sound" (.ref 236) .none (.str "postkeep.boxes" 277)),
 (243,cu "is_refused" "is_refused" 506 164 2 3 238 511),
 (244,bM (aQ 26) "is_refused" "is_refused" (.ref 243) .none (.str "postkeep.changes" 504)),
 (245,⟨(.type "tuple"),none,.seq #[.none] 0,#[]⟩),
 (249,gi "store_flags" "store_flags" 514 166 5 3 246 .none .none (.ref 248) 517 518),
 (250,bM (aQ 27) "store_flags" "store_flags" (.ref 249) (.ref 245) (.str "postkeep.changes" 504)),
 (256,cu "distinct" "distinct" 520 174 1 3 251 526),
 (257,bM (aQ 28) "distinct" "distinct" (.ref 256) .none (.str "postkeep.changes" 504)),
 (261,gi "forget_gone" "forget_gone" 529 179 2 3 258 .none .none (.ref 260) 532 533),
 (262,bM (aQ 29) "forget_gone" "forget_gone" (.ref 261) .none (.str "postkeep.changes" 504)),
 (268,cu "count_octets" "count_octets" 553 197 1 3 263 559),
 (269,bM (aQ 39) "count_octets" "count_octets" (.ref 268) .none (.str "postkeep.logfile" 535)),
 (275,cu "read_count" "read_count" 562 205 2 3 270 570),
 (276,bM (aQ 40) "read_count" "read_count" (.ref 275) .none (.str "postkeep.logfile" 535)),
 (282,cu "folded_number" "folded_number" 573 218 1 3 277 577),
 (283,bM (aQ 41) "folded_number" "folded_number" (.ref 282) .none (.str "postkeep.logfile" 535)),
 (289,cu "plain_number" "plain_number" 580 220 1 3 284 584),
 (290,bM (aQ 42) "plain_number" "plain_number" (.ref 289) .none (.str "postkeep.logfile" 535)),
 (296,cu "text_codes" "text_codes" 587 222 1 3 291 593),
 (297,bM (aQ 43) "text_codes" "text_codes" (.ref 296) .none (.str "postkeep.logfile" 535)),
 (301,gi "value_octets" "value_octets" 596 227 2 3 298 .none .none (.ref 300) 599 600),
 (302,bM (aQ 44) "value_octets" "value_octets" (.ref 301) .none (.str "postkeep.logfile" 535)),
 (308,cu "read_text" "read_text" 602 241 3 3 303 613),
 (309,bM (aQ 45) "read_text" "read_text" (.ref 308) .none (.str "postkeep.logfile" 535)),
 (315,cu "read_some" "read_some" 616 251 4 3 310 627),
 (316,bM (aQ 46) "read_some" "read_some" (.ref 315) .none (.str "postkeep.logfile" 535)),
 (322,cu "read_value" "read_value" 630 260 3 3 317 639),
 (323,bM (aQ 47) "read_value" "read_value" (.ref 322) .none (.str "postkeep.logfile" 535)),
 (329,cu "is_row" "is_row" 642 276 1 3 324 646),
 (330,bM (aQ 48) "is_row" "is_row" (.ref 329) .none (.str "postkeep.logfile" 535)),
 (336,cu "row_octets" "row_octets" 649 278 1 3 331 653),
 (337,bM (aQ 49) "row_octets" "row_octets" (.ref 336) .none (.str "postkeep.logfile" 535)),
 (343,cu "read_row" "read_row" 656 282 1 3 338 662),
 (344,bM (aQ 50) "read_row" "read_row" (.ref 343) .none (.str "postkeep.logfile" 535)),
 (350,cu "adler" "adler" 665 289 1 3 345 672),
 (351,bM (aQ 51) "adler" "adler" (.ref 350) .none (.str "postkeep.logfile" 535)),
 (357,cu "sum_octets" "sum_octets" 675 296 1 3 352 679),
 (358,bM (aQ 52) "sum_octets" "sum_octets" (.ref 357) .none (.str "postkeep.logfile" 535)),
 (364,cu "framed" "framed" 682 298 1 3 359 687),
 (365,bM (aQ 53) "framed" "framed" (.ref 364) .none (.str "postkeep.logfile" 535)),
 (371,cu "row_at" "row_at" 690 301 2 3 366 699),
 (372,bM (aQ 54) "row_at" "row_at" (.ref 371) .none (.str "postkeep.logfile" 535)),
 (376,gi "upper_text" "upper_text" 704 314 1 3 373 .none .none (.ref 375) 707 708),
 (377,bM (aQ 56) "upper_text" "upper_text" (.ref 376) .none (.str "postkeep.octets" 702)),
 (383,cu "is_half" "is_half" 718 320 1 3 378 722),
 (384,bM (aQ 61) "is_half" "is_half" (.ref 383) .none (.str "postkeep.names" 710)),
 (390,cu "first_part" "first_part" 725 322 1 3 385 730),
 (391,bM (aQ 62) "first_part" "first_part" (.ref 390) .none (.str "postkeep.names" 710)),
 (397,cu "normal_name" "normal_name" 733 327 1 3 392 739),
 (398,bM (aQ 63) "normal_name" "normal_name" (.ref 397) .none (.str "postkeep.names" 710)),
 (404,cu "is_barred_code" "is_barred_code" 742 332 1 3 399 746),
 (405,bM (aQ 64) "is_barred_code" "is_barred_code" (.ref 404) .none (.str "postkeep.names" 710)),
 (411,cu "check_name" "check_name" 749 334 1 3 406 756),
 (412,bM (aQ 65) "check_name" "check_name" (.ref 411) .none (.str "postkeep.names" 710)),
 (418,cu "is_below" "is_below" 759 349 2 3 413 764),
 (419,bM (aQ 66) "is_below" "is_below" (.ref 418) .none (.str "postkeep.names" 710)),
 (432,cu "__init__" "Store.__init__" 789 358 1 3 427 793),
 (433,bM (dy 72 0) "__init__" "Store.__init__" (.ref 432) .none (.str "postkeep.store" 767)),
 (439,cu "has" "Store.has" 796 363 2 3 434 801),
 (440,bM (dy 72 1) "has" "Store.has" (.ref 439) .none (.str "postkeep.store" 767)),
 (446,cu "box" "Store.box" 804 366 2 3 441 810),
 (447,bM (dy 72 2) "box" "Store.box" (.ref 446) .none (.str "postkeep.store" 767)),
 (453,cu "names" "Store.names" 813 372 1 3 448 817),
 (454,bM (dy 72 3) "names" "Store.names" (.ref 453) .none (.str "postkeep.store" 767)),
 (458,gi "told" "Store.told" 820 375 1 3 455 .none .none (.ref 457) 823 824),
 (459,bM (dy 72 4) "told" "Store.told" (.ref 458) .none (.str "postkeep.store" 767)),
 (461,pA P (.type "dict") 4 [("__module__",784,(.str "postkeep.store" 767)),("__firstlineno__",788,(.int (356) 787)),("__init__",795,(.ref 433)),("has",803,(.ref 440)),("box",812,(.ref 447)),("names",819,(.ref 454)),("told",825,(.ref 459)),("__static_attributes__",829,(.ref 460)),("__dict__",831,(.ref 463)),("__weakref__",833,(.ref 464)),("__doc__",834,.none)]),
 (462,⟨(.type "type"),none,.cls {name:="Store",bases:=[(.type "object")],mro:=[(.ref 462),(.type "object")],ns:=461,qualname:="Store",hasDict:=ai,slotNames:=[],subclasses:=[],abstract:=au,collection:=none,hasDel:=au},#[none,none,ae (.str "Store" 777),ae (.str "Store" 785),ae (.builtin "object.__new__"),ae (.bool ai)]⟩),
 (472,cu "is_number" "is_number" 837 378 1 3 467 841),
 (473,bM (aQ 73) "is_number" "is_number" (.ref 472) .none (.str "postkeep.store" 767)),
 (477,gi "are_texts" "are_texts" 844 380 1 3 474 .none .none (.ref 476) 847 848),
 (478,bM (aQ 74) "are_texts" "are_texts" (.ref 477) .none (.str "postkeep.store" 767)),
 (482,gi "are_numbers" "are_numbers" 850 382 1 3 479 .none .none (.ref 481) 853 854),
 (483,bM (aQ 75) "are_numbers" "are_numbers" (.ref 482) .none (.str "postkeep.store" 767)),
 (489,cu "fits_shape" "fits_shape" 856 384 2 3 484 861),
 (490,bM (aQ 76) "fits_shape" "fits_shape" (.ref 489) .none (.str "postkeep.store" 767)),
 (496,cu "check_row" "check_row" 864 396 1 3 491 873),
 (497,bM (aQ 77) "check_row" "check_row" (.ref 496) .none (.str "postkeep.store" 767)),
 (503,cu "settled_name" "settled_name" 876 409 1 3 498 882),
 (504,bM (aQ 78) "settled_name" "settled_name" (.ref 503) .none (.str "postkeep.store" 767)),
 (510,cu "need_modseqs" "need_modseqs" 885 416 2 3 505 890),
 (511,bM (aQ 79) "need_modseqs" "need_modseqs" (.ref 510) .none (.str "postkeep.store" 767)),
 (517,cu "need_room" "need_room" 893 419 2 3 512 898),
 (518,bM (aQ 80) "need_room" "need_room" (.ref 517) .none (.str "postkeep.store" 767)),
 (524,cu "need_new" "need_new" 901 423 2 3 519 906),
 (525,bM (aQ 81) "need_new" "need_new" (.ref 524) .none (.str "postkeep.store" 767)),
 (531,cu "need_validity" "need_validity" 909 426 2 3 526 914),
 (532,bM (aQ 82) "need_validity" "need_validity" (.ref 531) .none (.str "postkeep.store" 767)),
 (536,gi "need_uids" "need_uids" 917 429 2 3 533 .none .none (.ref 535) 920 921),
 (537,bM (aQ 83) "need_uids" "need_uids" (.ref 536) .none (.str "postkeep.store" 767)),
 (543,cu "create_box" "create_box" 923 435 3 3 538 930),
 (544,bM (aQ 84) "create_box" "create_box" (.ref 543) .none (.str "postkeep.store" 767)),
 (550,cu "delete_box" "delete_box" 933 442 2 3 545 939),
 (551,bM (aQ 85) "delete_box" "delete_box" (.ref 550) .none (.str "postkeep.store" 767)),
 (557,cu "renamed_pairs" "renamed_pairs" 942 448 3 3 552 951),
 (558,bM (aQ 86) "renamed_pairs" "renamed_pairs" (.ref 557) .none (.str "postkeep.store" 767)),
 (562,gi "rename_box" "rename_box" 954 456 3 3 559 .none .none (.ref 561) 957 958),
 (563,bM (aQ 87) "rename_box" "rename_box" (.ref 562) .none (.str "postkeep.store" 767)),
 (569,cu "rename_inbox" "rename_inbox" 960 468 3 3 564 967),
 (570,bM (aQ 88) "rename_inbox" "rename_inbox" (.ref 569) .none (.str "postkeep.store" 767)),
 (576,cu "append_letter" "append_letter" 970 476 5 3 571 980),
 (577,bM (aQ 89) "append_letter" "append_letter" (.ref 576) .none (.str "postkeep.store" 767)),
 (583,cu "flag_letter" "flag_letter" 983 481 4 3 578 991),
 (584,bM (aQ 90) "flag_letter" "flag_letter" (.ref 583) .none (.str "postkeep.store" 767)),
 (590,cu "store_letters" "store_letters" 994 485 6 3 585 1004),
 (591,bM (aQ 91) "store_letters" "store_letters" (.ref 590) .none (.str "postkeep.store" 767)),
 (597,cu "expunge_letters" "expunge_letters" 1007 491 3 3 592 1014),
 (598,bM (aQ 92) "expunge_letters" "expunge_letters" (.ref 597) .none (.str "postkeep.store" 767)),
 (602,gi "copy_or_move" "copy_or_move" 1017 495 5 3 599 .none .none (.ref 601) 1020 1021),
 (603,bM (aQ 93) "copy_or_move" "copy_or_move" (.ref 602) .none (.str "postkeep.store" 767)),
 (609,cu "subscribe_name" "subscribe_name" 1023 503 2 3 604 1029),
 (610,bM (aQ 94) "subscribe_name" "subscribe_name" (.ref 609) .none (.str "postkeep.store" 767)),
 (614,gi "unsubscribe_name" "unsubscribe_name" 1032 509 2 3 611 .none .none (.ref 613) 1035 1036),
 (615,bM (aQ 95) "unsubscribe_name" "unsubscribe_name" (.ref 614) .none (.str "postkeep.store" 767)),
 (621,cu "is_letter_told" "is_letter_told" 1038 515 1 3 616 1042),
 (622,bM (aQ 96) "is_letter_told" "is_letter_told" (.ref 621) .none (.str "postkeep.store" 767)),
 (626,gi "is_box_told" "is_box_told" 1045 519 1 3 623 .none .none (.ref 625) 1048 1049),
 (627,bM (aQ 97) "is_box_told" "is_box_told" (.ref 626) .none (.str "postkeep.store" 767)),
 (633,cu "need_sound" "need_sound" 1051 525 2 3 628 1057),
 (634,bM (aQ 98) "need_sound" "need_sound" (.ref 633) .none (.str "postkeep.store" 767)),
 (638,gi "restore" "restore" 1060 533 4 3 635 .none .none (.ref 637) 1063 1064),
 (639,bM (aQ 99) "restore" "restore" (.ref 638) .none (.str "postkeep.store" 767)),
 (645,cu "snapshot_rows" "snapshot_rows" 1066 554 1 3 640 1071),
 (646,bM (aQ 100) "snapshot_rows" "snapshot_rows" (.ref 645) .none (.str "postkeep.store" 767)),
 (652,cu "apply" "apply" 1074 557 2 3 647 1080),
 (653,bM (aQ 101) "apply" "apply" (.ref 652) .none (.str "postkeep.store" 767)),
 (661,⟨(.type "tuple"),none,.seq #[(.bytes #[] 1095)] 0,#[]⟩),
 (667,cu "__init__" "Keeper.__init__" 1096 585 2 3 662 1101),
 (668,bM (dy 102 0) "__init__" "Keeper.__init__" (.ref 667) (.ref 661) (.str "postkeep.store" 767)),
 (674,cu "replay" "Keeper.replay" 1104 590 2 3 669 1111),
 (675,bM (dy 102 1) "replay" "Keeper.replay" (.ref 674) .none (.str "postkeep.store" 767)),
 (681,cu "do" "Keeper.do" 1114 602 2 3 676 1121),
 (682,bM (dy 102 2) "do" "Keeper.do" (.ref 681) .none (.str "postkeep.store" 767)),
 (688,cu "told" "Keeper.told" 1124 609 1 3 683 1128),
 (689,bM (dy 102 3) "told" "Keeper.told" (.ref 688) .none (.str "postkeep.store" 767)),
 (691,pA P (.type "dict") 4 [("__module__",1090,(.str "postkeep.store" 767)),("__firstlineno__",1094,(.int (583) 1093)),("__init__",1103,(.ref 668)),("replay",1113,(.ref 675)),("do",1123,(.ref 682)),("told",1130,(.ref 689)),("__static_attributes__",1133,(.ref 690)),("__dict__",1135,(.ref 693)),("__weakref__",1137,(.ref 694)),("__doc__",1138,.none)]),
 (692,⟨(.type "type"),none,.cls {name:="Keeper",bases:=[(.type "object")],mro:=[(.ref 692),(.type "object")],ns:=691,qualname:="Keeper",hasDict:=ai,slotNames:=[],subclasses:=[],abstract:=au,collection:=none,hasDel:=au},#[none,none,ae (.str "Keeper" 1083),ae (.str "Keeper" 1091),ae (.builtin "object.__new__"),ae (.bool ai)]⟩),
 (700,gi "compacted" "compacted" 1141 611 1 3 697 .none .none (.ref 699) 1144 1145),
 (701,bM (aQ 103) "compacted" "compacted" (.ref 700) .none (.str "postkeep.store" 767)),
 (705,gi "_law_box" "_law_box" 1149 614 1 3 702 .none .none (.ref 704) 1152 1153),
 (706,bM (aQ 105) "_law_box" "_law_box" (.ref 705) .none (.str "law_no0394_01" 1147)),
 (712,cu "_law_draw" "_law_draw" 1155 623 2 3 707 1162),
 (713,bM (aQ 106) "_law_draw" "_law_draw" (.ref 712) .none (.str "law_no0394_01" 1147)),
 (719,cu "_law_name" "_law_name" 1165 634 1 3 714 1169),
 (720,bM (aQ 107) "_law_name" "_law_name" (.ref 719) .none (.str "law_no0394_01" 1147)),
 (724,gi "_law_flags" "_law_flags" 1172 636 1 3 721 .none .none (.ref 723) 1175 1176),
 (725,bM (aQ 108) "_law_flags" "_law_flags" (.ref 724) .none (.str "law_no0394_01" 1147)),
 (729,gi "_law_uids" "_law_uids" 1178 642 1 3 726 .none .none (.ref 728) 1181 1182),
 (730,bM (aQ 109) "_law_uids" "_law_uids" (.ref 729) .none (.str "law_no0394_01" 1147)),
 (734,gi "_law_deed" "_law_deed" 1184 645 2 3 731 .none .none (.ref 733) 1187 1188),
 (735,bM (aQ 110) "_law_deed" "_law_deed" (.ref 734) .none (.str "law_no0394_01" 1147)),
 (741,cu "_law_heard" "_law_heard" 1190 670 2 3 736 1195),
 (742,bM (aQ 111) "_law_heard" "_law_heard" (.ref 741) .none (.str "law_no0394_01" 1147)),
 (748,cu "_law_changed" "_law_changed" 1198 675 3 3 743 1204),
 (749,bM (aQ 112) "_law_changed" "_law_changed" (.ref 748) .none (.str "law_no0394_01" 1147)),
 (753,gi "_law_bent" "_law_bent" 1207 677 2 3 750 .none .none (.ref 752) 1210 1211),
 (754,bM (aQ 113) "_law_bent" "_law_bent" (.ref 753) .none (.str "law_no0394_01" 1147)),
 (760,cu "law" "law" 1213 720 1 3 755 1225),
 (761,bM (aQ 114) "law" "law" (.ref 760) .none (.str "law_no0394_01" 1147))]
end
section
theorem Cw {α β:Type} [BEq α] [Ld α] {l:ah (α×β)} {a:α} {b:β} (e:l.lookup a=ae b):(a,b)∈l:=by
 induction l with
 |nil=>show f5 e
 |cons x r ih=>
  rcases x with ⟨y,z⟩
  have e:(bif a==y then ae z else r.lookup a)=ae b:=(yj ..).symm.trans e;cases q:a==y with
  |true=>rw [q] at e;rw [eq_of_beq q,<-bZ e];show .head _
  |false=>rw [q] at e;show .tail _ (ih e)
theorem Xr {β:Type} {l:ah (ar×β)} {o:β} (p:ar×β->aN) (h:l.all p=ai) (e:l.lookup a=ae o):p (a,o)=ai:=List.all_eq_true.mp h _ (Cw e)
noncomputable def JY (o:eU):aN:= !cO o && !dT o
theorem agl (P:kV):∀a o,(KK P).lookup a=ae o->cO o=au/\dT o=au:=λa o e=>by
 have h:(KK P).all (λx=>JY x.2)=ai:=by ext
 have:=Xr (λx=>JY x.2) h e;simpa [JY] using this
theorem Ų (P:kV):∀h,(KK P).In h->h.NoLimit:=λh X=>by
 have e:∃es,(KK P).lookup cStatics=ae (pA P .none 2 es)/\(es.map λx=>(⟨Ko P (Str.ofString x.1),.str (Str.ofString x.1) x.2.1,x.2.2⟩:kz)).find? (λd=>d.key.isStr "sys.recursionlimit")=none:=(ao _ rfl (by ext));show aA e ?_;intro es e hn;show (ao _ (i5 _ _ _ (X _ _ e) rfl (λd hd=>?_) (λJ=>rfl)) ?_)
 ·show aA (List.mem_map.mp (List.mem_toArray.mp hd)) λx J bC=>?_;exists bC.symm;show (jF _ _ rfl)
 ·show (?_:((((es.map λx=>(⟨Ko P (Str.ofString x.1),.str (Str.ofString x.1) x.2.1,x.2.2⟩:kz)).toArray).find? λe=>e.key.isStr "sys.recursionlimit").map (λx=>x.val))=none);exists (Array.find?_toList).symm;exists hn;rfl
theorem acS (P:kV):∀h,(KK P).In h->yL<=h.objs.size:=λh X=>by
 have e:∃o,(KK P).lookup 761=ae o:=⟨_,rfl⟩;show bj e ?_;intro o e;show pJ (X _ _ e)
noncomputable def cx (w:bQ) (qt:aN):Cx:=⟨pw,w,KK w.params,Ų w.params,acS w.params,qt⟩
theorem Yr {names:ah ak} (nd:names.Nodup):∀{vs:ah aI},vs.length=names.length->names.filterMap (λn=>((names.zip vs).lookup n).map (λx=>(n,x)))=names.zip vs:=by
 induction names with
 |nil=>intro vs J;rfl
 |cons x r ih=>
  intro vs hl;induction vs using c6 with
  |nil=>injection hl
  |cons v vs=>
   simp only [cY,Nat.add_right_cancel_iff] at hl;rw [oA] at nd;exists LA;exists Bn;simp only [yj,kZ,Option.map_some,VI,true_and]
   have key:∀(l:ah ak),x∉l->l.filterMap (λn=>(match n==x with|true=>ae v|false=>(r.zip vs).lookup n).map (λx=>(n,x)))=l.filterMap (λn=>((r.zip vs).lookup n).map (λx=>(n,x))):=λl hx=>by
    induction l with
    |nil=>rfl
    |cons y l Z0=>
     have:(y==x)=au:=beq_eq_false_iff_ne.mpr λe=>hx (e▸(.head _));exists Bn;exists Bn;exists Z0 λm=>hx (.tail _ m);exists this;rfl
   show (key r nd.1).trans (ih nd.2 hl)
theorem pb {α β:Type} (x:α) (f:α->cC β):(pure x >>=f)=f x:=pure_bind x f
theorem fz {α β γ:Type} {l:ah α} (h:l=[]) (b:β) (f:α->β->cC (rY β)) (g:β->cC γ):(forIn l b f >>=g)=g b:=by
 exists h;show pb b g
theorem Å {fd:FuncData} {names:ah ak} (h1:fd.params.posonlyargs=[]) (h2:fd.params.args.map (λx=>x.arg)=names) (h3:fd.params.vararg=none) (h4:fd.params.kwonlyargs=[]) (h5:fd.params.kwarg=none) (h6:fd.defaults= .none) (nd:names.Nodup)
  {vs:ah aI} (hl:vs.length=names.length):bindArgs fd ⟨vs,[]⟩=pure (names.zip vs):=by
 have Ş:names.filter (λn=>((names.zip vs).lookup n).isNone)=[]:=by
  rewrite [aju]
  intro n hn
  have:∀(l:ah ak) (us:ah aI),us.length=l.length->n∈l->((l.zip us).lookup n).isNone=au:=by
   intro l;induction l with
   |nil=>intro us J h;show jl h
   |cons x r ih=>
    intro us hl h;induction us using c6 with
    |nil=>injection hl
    |cons u us=>
     exists LA;exists yj;cases e:n==x with
     |true=>rfl
     |false=>
      show ih us (by simpa using hl) ?_;rcases List.mem_cons.mp h with h|h
      ·rw [h] at e;simp at e
      ·show h
  simp [this names vs hl hn]
 rcases fd with ⟨nm,qn,⟨po,as,va,ko,kd,kw,df⟩,bd,sc,gl,cl,YH,kwd,doc,pm,an⟩
 obtain rfl:po=[]:=h1;obtain rfl:va=none:=h3;obtain rfl:ko=[]:=h4;obtain rfl:kw=none:=h5;obtain rfl:YH= .none:=h6;have h2:as.map (λx=>x.arg)=names:=h2;subst h2;show (pb _ _).trans<|(pb none _).trans<|(bo (λh=>?_)).trans ?_
 ·show A7 _ (hl▸fi ((Bool.and_eq_true_iff.mp h).1))
 have hd:(LB ((none.getD #[]:dm aI).toList.length - (as.map (λx=>x.arg)).length) (none.getD #[]:dm aI).toList)=[]:=List.drop_nil
 have ht:(as.map (λx=>x.arg)).take ((as.map (λx=>x.arg)).length - (LB ((none.getD #[]:dm aI).toList.length - (as.map (λx=>x.arg)).length) (none.getD #[]:dm aI).toList).length)=as.map (λx=>x.arg):=by
  exists hd;show Bl
 show (bo (λh=>?_)).trans ?_
 ·have h:(!(VJ (λn=>(KC n ((as.map (λx=>x.arg)).zip vs)).isNone) ((as.map (λx=>x.arg)).take ((as.map (λx=>x.arg)).length - (LB ((none.getD #[]:dm aI).toList.length - (as.map (λx=>x.arg)).length) (none.getD #[]:dm aI).toList).length))).isEmpty)=ai:=h;rw [ht,Ş] at h;show lU h
 have hz:∀l:ah ak,l.zip (LB ((none.getD #[]:dm aI).toList.length - (as.map (λx=>x.arg)).length) (none.getD #[]:dm aI).toList)=[]:=λl=>by exists hd;exists List.zip_nil_right;rfl
 show (fz (hz _) _ _ _).trans<|(fz rfl _ _ _).trans<|(bo (lU)).trans<|congrArg pure<|(bD (List.filterMap _) (fW _)).trans (Yr nd hl)
end
section
theorem DA {α:Type} {l:ah α} (h:l.length=n+1):∃a r,l=a::r/\r.length=n:=by
 induction l using c6 with
 |nil=>injection h
 |cons a r=>show ⟨a,r,rfl,aji h⟩
theorem Ms {α:Type} {l:ah α} (h:l.length=1):∃a,l=[a]:=List.length_eq_one_iff.mp h
theorem GA {α:Type} {l:ah α} (h:l.length=2):∃a b,l=[a,b]:=by
 show d8 (DA h) λa r e h=>bj (Ms h) λb e2=>⟨a,b,e2▸e⟩
theorem Oi {α:Type} {l:ah α} (h:l.length=3):∃a b c,l=[a,b,c]:=by
 show d8 (DA h) λa r e h=>dP (GA h) λb c e2=>⟨a,b,c,e2▸e⟩
theorem aap {α:Type} {l:ah α} (h:l.length=5):∃a b c d e,l=[a,b,c,d,e]:=by
 show d8 (DA h) λa r e h=>d8 (DA h) λb r2 e2 h=>rl (Oi h) λc d f e3=>⟨a,b,c,d,f,e3▸e2▸e⟩
noncomputable def Jg (st:fc) (names:ah ak):aN:=(fA st).posonlyargs.isEmpty && (fA st).args.map (λx=>x.arg)==names && (fA st).vararg.isNone && (fA st).kwonlyargs.isEmpty && (fA st).kwarg.isNone && decide names.Nodup &&
 !(fS st).isCoroutine && !(fS st).isGenerator && (fS st).kind== .function && names.all (λx=>j_ ((fS st).names.lookup x))
def bO (P:kV) (a:aF) (st:fc) (names:ah ak):Prop:=
 ∃nm qn cd md,(KK P).lookup a=ae (bM st nm qn cd .none md)/\U0 (KK P) cd qn=ai/\Jg st names=ai
theorem bO.mk {P:kV} {a:aF} {st:fc} {names:ah ak} (h1:(KK P).lookup a=ae (bM st nm qn cd .none md)) (h2:U0 (KK P) cd qn=ai) (h3:Jg st names=ai):bO P a st names:=Yn nm qn cd md h1 h2 h3
theorem Ng {w:bQ} {qt:aN} {n:ar} {a:aF} {st:fc} {names:ah ak} {args:ah AV} {ρ:ah (ak×AV)} {H:aj} {Q:AV->aj->Prop} {X:AX->aj->Prop} (h:bO w.params a st names) (hl:names.length=args.length) (uz:(names.zip args).reverse=ρ)
  (k:WS (cx w qt) n (fS st) (fB st) ρ H (λaf J H'=>Q af.val H') (λx J H'=>X x H')):rH (cx w qt) (n+1) (.ref a) args H Q X:=by
 show adR h λnm qn cd md hk hc hp=>?_;simp only [Jg,d9,lC,beq_iff_eq,vY,ajv,Option.isNone_iff_eq_none,oq] at hp;show aM hp λbC I9=>?_;show aM bC λbW p9=>?_;show aM bW λdD p8=>?_;show aM dD λd7 p7=>?_;show aM d7 λeM p6=>?_;show aM eM λi9 p5=>?_;show aM i9 λjH p4=>?_;show aM jH λmI p3=>?_;show aM mI λp1 p2=>?_;have RY:kS (KK w.params) a=ae {name:=nm,qualname:=qn,params:=fA st,body:= .stmts (fB st),scope:=fS st,globals:=3,closure:=[],defaults:= .none,kwdefaults:= .none,pyModule:=md,code:=cd}:=by unfold kS;exists hk;rfl
 show DW (B8 _ RY rfl rfl rfl rfl rfl hc p7 p8 p9) hl (λfd iR s vs J hv=>?_) (λJ J=> .nil) I9 (by rewrite [fW];exists uz;show k);have e:kS (cx w qt).K a=kS (KK w.params) a:=rfl;rw [e,RY] at iR;injection iR with ct;subst ct
 rewrite [fW]
 show BindsTo.of_eq (Å p1 p2 p3 p4 p5 rfl p6 (hv.trans hl.symm))
theorem abn {w:bQ} {qt:aN} {n:ar} {a:aF} {st:fc} {names:ah ak} {args:ah AV} {ρ:ah (ak×AV)} {H:aj} {Q:AV->aj->Prop} {X:AX->aj->Prop} (h:bO w.params a st names) (hl:names.length=args.length) (uz:(names.zip args).reverse=ρ)
  (k:WS (cx w qt) n (fS st) (fB st) ρ H (λaf J H'=>Q af.val H') (λx J H'=>X x H')):bq (cx w qt) (n+1) (.ref a) args H Q X:=(Ng h hl uz k).call
theorem æ:bO P 384 (aQ 61) ["code"]:= .mk rfl (by ext) (by ext)
end
section
noncomputable def å:ah fc->Fin 14->fU
 |[.Expr (.Call (.Attribute (.Name _ p0) _ p1) [.Name _ p2,.Name _ p3] _ p4) p5,.Assign [.Attribute (.Name _ p6) _ p7] (.Name _ p8) p9,.Assign [.Attribute (.Name _ I9) _ à] (.Name _ p12) p13]=>λi=>[p0,p1,p2,p3,p4,p5,p6,p7,p8,p9,I9,à,p12,p13].getD i.val default
 |_=>λJ=>default
theorem φ (hP:w.params=P) (hC:C=52\/C=64\/C=76):wg (cx w qt) C 29 (fS (dy 1 0)) 202:=by
 show ⟨?_,(ao (å (fB (dy 1 0))) (B8 _ rfl (by ext) (by ext) rfl rfl rfl (by ext) (by ext) (by ext) (by ext)) (by ext)),(sg (by ext) (by ext) (by ext) (by ext) (by ext) (by ext) (by ext)),?_,?_,by ext,?_,?_⟩
 ·rcases hC with rfl|rfl|rfl
  ·show ⟨⟨_,_,_,_,_,_,_,_,_,_,_,_,_,_,_,_,rfl,rfl,by decide,by decide,by decide,by decide⟩,by ext,by ext⟩
  ·show ⟨⟨_,_,_,_,_,_,_,_,_,_,_,_,_,_,_,_,rfl,rfl,by decide,by decide,by decide,by decide⟩,by ext,by ext⟩
  ·show ⟨⟨_,_,_,_,_,_,_,_,_,_,_,_,_,_,_,_,rfl,rfl,by decide,by decide,by decide,by decide⟩,by ext,by ext⟩
 ·intro fd iR s vs X hl;show dP ((GA hl:∃v1 v2,vs=[v1,v2])) λv1 v2 bC=>?_;exists bC;have e:kS (cx w qt).K 29=ae {name:="__init__",qualname:="PostError.__init__",params:=fA (dy 1 0),body:= .stmts (fB (dy 1 0)),scope:=fS (dy 1 0),globals:=3,closure:=[],defaults:= .ref 22,kwdefaults:= .none,pyModule:= .str "postkeep.errors" 187,code:= .ref 28}:=by rfl
  injection iR with ct;subst ct
  show FX X λS=>by ext
 ·intro fd iR s vs X hl;show rl ((Oi hl:∃v1 v2 v3,vs=[v1,v2,v3])) λv1 v2 v3 bW=>?_;exists bW;have e:kS (cx w qt).K 29=ae {name:="__init__",qualname:="PostError.__init__",params:=fA (dy 1 0),body:= .stmts (fB (dy 1 0)),scope:=fS (dy 1 0),globals:=3,closure:=[],defaults:= .ref 22,kwdefaults:= .none,pyModule:= .str "postkeep.errors" 187,code:= .ref 28}:=by rfl
  injection iR with et;subst et
  show FX X λS=>by ext
 ·rcases hC with rfl|rfl|rfl <;> kernel_rfl
 ·rcases hC with rfl|rfl|rfl <;> kernel_rfl
theorem Ã {ρ:ah (ak×AV)} (uz:(∃s d,args=[s,d]/\ρ=([("data",d),("self",s)]:ah (ak×AV)))\/∃s,args=[s]/\ρ=([("data",.bytes []),("self",s)]:ah (ak×AV)))
  (k:WS (cx w qt) n (fS (dy 102 0)) (fB (dy 102 0)) ρ H (λaf J H'=>Q af.val H') (λx J H'=>X x H')):rH (cx w qt) (n+1) (.ref 668) args H Q X:=by
 have e:kS (cx w qt).K 668=ae {name:="__init__",qualname:="Keeper.__init__",params:=fA (dy 102 0),body:= .stmts (fB (dy 102 0)),scope:=fS (dy 102 0),globals:=3,closure:=[],defaults:= .ref 661,kwdefaults:= .none,pyModule:= .str "postkeep.store" 767,code:= .ref 667}:=by rfl
 have hf:B0 (cx w qt).K 668 (fS (dy 102 0)) (fB (dy 102 0)):=(B8 _ e rfl rfl rfl rfl rfl (by ext) (by ext) (by ext) (by ext))
 have hk:∀x∈(["self","data"]:ah ak),j_ ((fS (dy 102 0)).names.lookup x)=ai:=by
  intro x hx;have:(["self","data"]:ah ak).all (λx=>j_ ((fS (dy 102 0)).names.lookup x))=ai:=by ext
  show List.all_eq_true.mp this x hx
 rcases uz with ⟨s,d,rfl,rfl⟩|⟨s,rfl,rfl⟩
 ·show DW hf rfl (λfd iR s vs X hl=>?_) (λJ J=> .nil) hk k;show dP ((GA hl:∃v1 v2,vs=[v1,v2])) λv1 v2 dD=>?_;exists dD;injection iR with eR;subst eR
  show FX X λS=>by ext
 ·show DW (ds:=[.bytes []]) (dv:=[.bytes #[] 1095]) hf rfl (λfd iR s vs X hl=>?_) (λJ J=> .cons ⟨_,rfl⟩ .nil) hk k;show bj ((Ms hl:∃v1,vs=[v1])) λv1 d7=>?_;exists d7;injection iR with fD;subst fD
  show FX X λS=>by ext
end
section
noncomputable def Uk:ah (ah (ak×AV)):=[
 [],
 [],
 [],
 [("Box",.ref 175),("ROW",.int (114)),("abs",.bi "abs"),("all",.bi "all"),("chr",.bi "chr"),("int",.ty "int"),("len",.bi "len"),("min",.bi "min"),("ord",.bi "ord"),("str",.ty "str"),("zip",.ty "zip")],
 [("MOST",.int (4294967295)),("TEXT",.int (116)),("bool",.ty "bool"),("list",.ty "list")],
 [("Store",.ref 462),("adler",.ref 351),("apply",.ref 653),("bytes",.ty "bytes"),("range",.ty "range"),("tuple",.ty "tuple")],
 [("Keeper",.ref 692),("Letter",.ref 137),("NUMBER",.int (105)),("OCTETS",.int (111)),("SHAPES",.str "create:tn delete:t rename:tt append:tfno flags:tnf store:tutfn expunge:tu copy:tut move:tut subscribe:t unsubscribe:t forget:tn snapshot:nfr"),("SYSTEM",.str "\\Seen \\Answered \\Flagged \\Deleted \\Draft"),("framed",.ref 365),("is_row",.ref 330),("raised",.ref 198),("remade",.ref 184),("row_at",.ref 372),("sorted",.bi "sorted")],
 [("MODULUS",.int (65521)),("expunge",.ref 222),("is_half",.ref 384),("restore",.ref 639)],
 [("LogFault",.ref 64),("_law_box",.ref 706),("distinct",.ref 257),("is_below",.ref 419),("is_sound",.ref 237),("need_new",.ref 525),("place_of",.ref 191),("read_row",.ref 344)],
 [("DELIMITER",.str "/"),("Exception",.ty "Exception"),("LAST_SIGN",.int (1114111)),("NameFault",.ref 52),("SUM_WIDTH",.int (4)),("_law_bent",.ref 754),("_law_deed",.ref 735),("_law_draw",.ref 713),("_law_name",.ref 720),("_law_uids",.ref 730),("are_texts",.ref 478),("bytearray",.ty "bytearray"),("check_row",.ref 497),("compacted",.ref 701),("flag_name",.ref 99),("is_number",.ref 473),("need_room",.ref 518),("need_uids",.ref 537),("read_some",.ref 316),("read_text",.ref 309),("set_flags",.ref 212)],
 [("MOST_DEPTH",.int (20)),("NO_KEYWORD",.str "(){ %*\"\\]"),("StoreFault",.ref 76),("WILD_SIGNS",.str "%*"),("_law_flags",.ref 725),("_law_heard",.ref 742),("add_letter",.ref 205),("check_name",.ref 412),("create_box",.ref 544),("delete_box",.ref 551),("first_part",.ref 391),("fits_shape",.ref 490),("flag_tuple",.ref 106),("is_keyword",.ref 92),("is_refused",.ref 244),("isinstance",.bi "isinstance"),("need_sound",.ref 634),("read_count",.ref 276),("read_value",.ref 323),("rename_box",.ref 563),("row_octets",.ref 337),("sum_octets",.ref 358),("text_codes",.ref 297),("upper_text",.ref 377)],
 [("INBOX_names",.str "INBOX"),("INBOX_store",.str "INBOX"),("MOST_MODSEQ",.int (9223372036854775807)),("are_numbers",.ref 483),("flag_letter",.ref 584),("flags_after",.ref 217),("forget_gone",.ref 262),("is_box_told",.ref 627),("normal_name",.ref 398),("store_flags",.ref 250)],
 [("MOST_KEYWORD",.int (60)),("_law_changed",.ref 749),("copy_letters",.ref 227),("copy_or_move",.ref 603),("count_octets",.ref 269),("move_letters",.ref 232),("need_modseqs",.ref 511),("plain_number",.ref 290),("rename_inbox",.ref 570),("settled_name",.ref 504),("system_flags",.ref 85),("value_octets",.ref 302)],
 [("append_letter",.ref 577),("folded_number",.ref 283),("need_validity",.ref 532),("renamed_pairs",.ref 558),("snapshot_rows",.ref 646),("store_letters",.ref 591)],
 [("is_barred_code",.ref 405),("is_letter_told",.ref 622),("subscribe_name",.ref 610)],
 [("expunge_letters",.ref 598)],
 [("unsubscribe_name",.ref 615)]
]
noncomputable def AJ:ah (ar×ah ak):=[(137,["uid","octets","flags","instant","modseq"]),(175,["name","validity","next_uid","top","floor","letters","gone"]),(462,["boxes","subscribed","next_validity"]),(692,["store","data"])]
noncomputable def R5:ah (ar×ah (ak×ar)):=[(137,[("has",127),("told",134)]),(175,[("letter",162),("uids",167),("told",172)]),(462,[("has",440),("box",447),("names",454),("told",459)]),(692,[("replay",675),("do",682),("told",689)])]
noncomputable def QW:ah (ak×ar):=[("StoreFault",76),("LogFault",64),("NameFault",52)]
noncomputable def vk:VK where
 gl x:=(Uk[x.cps.size]?).bind (λy=>y.lookup x)
 fl C a:=(AJ.lookup C).elim au (λx=>x.contains a)
 st C a:=(AJ.lookup C).elim au (λx=>x.contains a)
 mt C a:=(R5.lookup C).bind (λx=>x.lookup a)
 ex x:=QW.lookup x
theorem zm {α β:Type} [BEq α] [Ld α] {l:ah (α×β)} {a:α} {b:β} (p:α->β->aN) (h:l.all (λx=>p x.1 x.2)=ai) (e:l.lookup a=ae b):p a b=ai:=List.all_eq_true.mp h _ (Cw e)
noncomputable def EH (K:iI) (a:AV):aN:=match y8 a with|some f=>jW K f|none=>ai
theorem aak:Uk.all (λl=>l.all λx=>hV (KK P) x.1 x.2 && EH (KK P) x.2)=ai:=by ext
theorem adM:AJ.all (λx=>x.2.all λa=>qN (KK P) x.1 a && xX (KK P) x.1 a)=ai:=by ext
theorem ado:R5.all (λx=>x.2.all λa=>vc (KK P) x.1 a.1 a.2 && jW (KK P) (.ref a.2))=ai:=by ext
theorem Yg:QW.all (λx=>hV (KK P) x.1 (.ref x.2) && kg (KK P) x.2 && jW (KK P) (.ref x.2) && (x.2==52||x.2==64||x.2==76))=ai:=by ext
theorem RJ (h:vk.gl x=ae a):(hV (KK P) x a && EH (KK P) a)=ai:=
 aA (Option.bind_eq_some_iff.mp h) λl e h=>zm (λx a=>hV (KK P) x a && EH (KK P) a) (List.all_eq_true.mp aak l (Fx e)) h
theorem SA (h:vk.fl C a=ai):(qN (KK P) C a && xX (KK P) C a)=ai:=by
 have h:Option.elim (AJ.lookup C) au (λx=>x.contains a)=ai:=h;cases e:AJ.lookup C with
 |none=>rw [e] at h;show nomatch h
 |some l=>rw [e] at h;show List.all_eq_true.mp (zm (λx l=>l.all λa=>qN (KK P) x a && xX (KK P) x a) adM e) a (List.contains_iff_mem.mp h)
theorem Μ (h:vk.mt C a=ae f):(vc (KK P) C a f && jW (KK P) (.ref f))=ai:=
 aA (Option.bind_eq_some_iff.mp h) λl e h=>zm (λa f=>vc (KK P) C a f && jW (KK P) (.ref f)) (zm (λx l=>l.all λa=>vc (KK P) x a.1 a.2 && jW (KK P) (.ref a.2)) ado e) h
theorem fO:vk.Ok (cx w qt):= .mk
 (gl:=λh=>(Bool.and_eq_true_iff.mp (RJ h)).1)
 (co:=λ{x a f} h e=>by
  have:=(Bool.and_eq_true_iff.mp (RJ (P:=w.params) h)).2;unfold EH at this;rw [e] at this;show this)
 (fl:=λh=>(Bool.and_eq_true_iff.mp (SA h)).1)
 (st:=λh=>(Bool.and_eq_true_iff.mp (SA h)).2)
 (mt:=λh=>Bool.and_eq_true_iff.mp (Μ h))
 (ex:=λ{x D} h=>by
  have:=zm (λx D=>hV (KK w.params) x (.ref D) && kg (KK w.params) D && jW (KK w.params) (.ref D) && (D==52||D==64||D==76)) Yg h;simp only [d9,A5,beq_iff_eq] at this;obtain ⟨⟨⟨h1,h2⟩,h3⟩,h4⟩:=this;show (iT h1 h2 h3 (wy _ _ _ (φ rfl (by rcases h4 with (h|h)|h;show .inl h;show .inr (.inl h);show .inr (.inr h))))))
theorem fn {w:bQ} {qt:aN} {n:ar} {a:aF} {st:fc} {names:ah ak} {args:ah AV} {H:aj} {Q:PQ} {X:PX} (f k:ar) (h:bO w.params a st names) (hl:names.length=args.length)
  (v:∀(K:PS) (XK:PX),(∀{r aO H' H''},Sub H'' H'->Q r H''->K (.ret r) aO H')->(∀{aO H' H''},Sub H'' H'->Q .none H''->K .next aO H')->(∀{x H' H''},Sub H'' H'->X x H''->XK x H')->
   let m:Cn:=⟨cx w qt,n⟩
   vS vk f k (fS st) (fB st) m (Tw names args) H K XK):bq (cx w qt) (n+1) (.ref a) args H Q X:=
 (abn h hl rfl (rt fO f k (v (λaf J H'=>∃H'',Sub H'' H'/\Q af.val H'') (λx H'=>∃H'',Sub H'' H'/\X x H'') (λs q=>(ao _ s q)) (λs q=>(ao _ s q)) λs q=>(ao _ s q)))).forget
end
section
theorem acF:bO P 85 (aQ 9) []:= .mk rfl (by ext) (by ext)
theorem afB:bO P 92 (aQ 10) ["text"]:= .mk rfl (by ext) (by ext)
theorem į:bO P 99 (aQ 11) ["text"]:= .mk rfl (by ext) (by ext)
theorem œ:bO P 106 (aQ 12) ["flags"]:= .mk rfl (by ext) (by ext)
theorem agw:bO P 120 (dy 13 0) ["self","uid","octets","flags","instant","modseq"]:= .mk rfl (by ext) (by ext)
theorem aem:bO P 134 (dy 13 2) ["self"]:= .mk rfl (by ext) (by ext)
theorem afX:bO P 155 (dy 14 0) ["self","name","validity"]:= .mk rfl (by ext) (by ext)
theorem ï:bO P 162 (dy 14 1) ["self","uid"]:= .mk rfl (by ext) (by ext)
theorem ŀ:bO P 167 (dy 14 2) ["self"]:= .mk rfl (by ext) (by ext)
theorem Zz:bO P 172 (dy 14 3) ["self"]:= .mk rfl (by ext) (by ext)
theorem Yj:bO P 184 (aQ 15) ["told"]:= .mk rfl (by ext) (by ext)
theorem ag5:bO P 191 (aQ 16) ["letters","uid"]:= .mk rfl (by ext) (by ext)
theorem abW:bO P 198 (aQ 17) ["box"]:= .mk rfl (by ext) (by ext)
theorem afy:bO P 205 (aQ 18) ["box","octets","flags","instant"]:= .mk rfl (by ext) (by ext)
theorem ags:bO P 212 (aQ 19) ["box","uid","flags"]:= .mk rfl (by ext) (by ext)
theorem ab7:bO P 217 (aQ 20) ["letter","way","flags"]:= .mk rfl (by ext) (by ext)
theorem aao:bO P 222 (aQ 21) ["box","uids"]:= .mk rfl (by ext) (by ext)
theorem Ye:bO P 227 (aQ 22) ["box","uids","goal"]:= .mk rfl (by ext) (by ext)
theorem ì:bO P 232 (aQ 23) ["box","uids","goal"]:= .mk rfl (by ext) (by ext)
theorem WO:bO P 237 (aQ 24) ["box"]:= .mk rfl (by ext) (by ext)
theorem Ø:bO P 244 (aQ 26) ["letter","unless"]:= .mk rfl (by ext) (by ext)
theorem aat:bO P 257 (aQ 28) ["uids"]:= .mk rfl (by ext) (by ext)
theorem abM:bO P 262 (aQ 29) ["box","modseq"]:= .mk rfl (by ext) (by ext)
theorem aeA:bO P 269 (aQ 39) ["number"]:= .mk rfl (by ext) (by ext)
theorem Zq:bO P 276 (aQ 40) ["data","at"]:= .mk rfl (by ext) (by ext)
theorem í:bO P 283 (aQ 41) ["number"]:= .mk rfl (by ext) (by ext)
theorem Ů:bO P 290 (aQ 42) ["count"]:= .mk rfl (by ext) (by ext)
theorem aeE:bO P 297 (aQ 43) ["text"]:= .mk rfl (by ext) (by ext)
theorem Cu:bO P 302 (aQ 44) ["value","depth"]:= .mk rfl (by ext) (by ext)
theorem age:bO P 309 (aQ 45) ["data","at","many"]:= .mk rfl (by ext) (by ext)
theorem WH:bO P 316 (aQ 46) ["data","at","many","depth"]:= .mk rfl (by ext) (by ext)
theorem Ey:bO P 323 (aQ 47) ["data","at","depth"]:= .mk rfl (by ext) (by ext)
theorem ac0:bO P 330 (aQ 48) ["value"]:= .mk rfl (by ext) (by ext)
theorem Y3:bO P 337 (aQ 49) ["row"]:= .mk rfl (by ext) (by ext)
theorem ahd:bO P 344 (aQ 50) ["octets"]:= .mk rfl (by ext) (by ext)
theorem ū:bO P 351 (aQ 51) ["octets"]:= .mk rfl (by ext) (by ext)
theorem aho:bO P 358 (aQ 52) ["number"]:= .mk rfl (by ext) (by ext)
theorem agc:bO P 365 (aQ 53) ["row"]:= .mk rfl (by ext) (by ext)
theorem ON:bO P 372 (aQ 54) ["data","at"]:= .mk rfl (by ext) (by ext)
theorem ń:bO P 377 (aQ 56) ["text"]:= .mk rfl (by ext) (by ext)
theorem abI:bO P 391 (aQ 62) ["text"]:= .mk rfl (by ext) (by ext)
theorem afK:bO P 398 (aQ 63) ["text"]:= .mk rfl (by ext) (by ext)
theorem abo:bO P 405 (aQ 64) ["code"]:= .mk rfl (by ext) (by ext)
theorem ae6:bO P 412 (aQ 65) ["text"]:= .mk rfl (by ext) (by ext)
theorem abf:bO P 419 (aQ 66) ["name","parent"]:= .mk rfl (by ext) (by ext)
theorem aen:bO P 433 (dy 72 0) ["self"]:= .mk rfl (by ext) (by ext)
theorem ag3:bO P 447 (dy 72 2) ["self","name"]:= .mk rfl (by ext) (by ext)
theorem aaj:bO P 454 (dy 72 3) ["self"]:= .mk rfl (by ext) (by ext)
theorem aex:bO P 459 (dy 72 4) ["self"]:= .mk rfl (by ext) (by ext)
theorem Ď:bO P 473 (aQ 73) ["value"]:= .mk rfl (by ext) (by ext)
theorem aca:bO P 478 (aQ 74) ["value"]:= .mk rfl (by ext) (by ext)
theorem afL:bO P 483 (aQ 75) ["value"]:= .mk rfl (by ext) (by ext)
theorem WQ:bO P 490 (aQ 76) ["value","letter"]:= .mk rfl (by ext) (by ext)
theorem aha:bO P 497 (aQ 77) ["row"]:= .mk rfl (by ext) (by ext)
theorem ac1:bO P 504 (aQ 78) ["name"]:= .mk rfl (by ext) (by ext)
theorem afo:bO P 511 (aQ 79) ["box","count"]:= .mk rfl (by ext) (by ext)
theorem ago:bO P 518 (aQ 80) ["box","count"]:= .mk rfl (by ext) (by ext)
theorem Ĺ:bO P 525 (aQ 81) ["store","name"]:= .mk rfl (by ext) (by ext)
theorem ahx:bO P 532 (aQ 82) ["store","validity"]:= .mk rfl (by ext) (by ext)
theorem aeC:bO P 537 (aQ 83) ["box","uids"]:= .mk rfl (by ext) (by ext)
theorem ZO:bO P 544 (aQ 84) ["store","name","validity"]:= .mk rfl (by ext) (by ext)
theorem afA:bO P 551 (aQ 85) ["store","name"]:= .mk rfl (by ext) (by ext)
theorem Þ:bO P 558 (aQ 86) ["store","old","new"]:= .mk rfl (by ext) (by ext)
theorem ae8:bO P 563 (aQ 87) ["store","old","new"]:= .mk rfl (by ext) (by ext)
theorem Ź:bO P 570 (aQ 88) ["store","inbox","name"]:= .mk rfl (by ext) (by ext)
theorem adF:bO P 577 (aQ 89) ["store","name","flags","instant","octets"]:= .mk rfl (by ext) (by ext)
theorem aaV:bO P 584 (aQ 90) ["store","name","uid","flags"]:= .mk rfl (by ext) (by ext)
theorem agv:bO P 591 (aQ 91) ["store","name","uids","way","flags","unless"]:= .mk rfl (by ext) (by ext)
theorem Ğ:bO P 598 (aQ 92) ["store","name","uids"]:= .mk rfl (by ext) (by ext)
theorem ag4:bO P 603 (aQ 93) ["store","name","uids","goal","is_move"]:= .mk rfl (by ext) (by ext)
theorem aar:bO P 610 (aQ 94) ["store","name"]:= .mk rfl (by ext) (by ext)
theorem ag7:bO P 615 (aQ 95) ["store","name"]:= .mk rfl (by ext) (by ext)
theorem ĥ:bO P 622 (aQ 96) ["value"]:= .mk rfl (by ext) (by ext)
theorem Pj:bO P 627 (aQ 97) ["value"]:= .mk rfl (by ext) (by ext)
theorem ahv:bO P 634 (aQ 98) ["box","next_validity"]:= .mk rfl (by ext) (by ext)
theorem Ě:bO P 639 (aQ 99) ["store","next_validity","subscribed","told"]:= .mk rfl (by ext) (by ext)
theorem ab9:bO P 646 (aQ 100) ["store"]:= .mk rfl (by ext) (by ext)
theorem XQ:bO P 653 (aQ 101) ["store","row"]:= .mk rfl (by ext) (by ext)
theorem Wr:bO P 675 (dy 102 1) ["self","data"]:= .mk rfl (by ext) (by ext)
theorem acZ:bO P 682 (dy 102 2) ["self","row"]:= .mk rfl (by ext) (by ext)
theorem ψ:bO P 689 (dy 102 3) ["self"]:= .mk rfl (by ext) (by ext)
theorem Wu:bO P 701 (aQ 103) ["keeper"]:= .mk rfl (by ext) (by ext)
theorem acs:bO P 706 (aQ 105) ["script"]:= .mk rfl (by ext) (by ext)
theorem abw:bO P 713 (aQ 106) ["box","limit"]:= .mk rfl (by ext) (by ext)
theorem aeq:bO P 720 (aQ 107) ["box"]:= .mk rfl (by ext) (by ext)
theorem Xd:bO P 725 (aQ 108) ["box"]:= .mk rfl (by ext) (by ext)
theorem Ā:bO P 730 (aQ 109) ["box"]:= .mk rfl (by ext) (by ext)
theorem ag2:bO P 735 (aQ 110) ["box","store"]:= .mk rfl (by ext) (by ext)
theorem Ð:bO P 742 (aQ 111) ["keeper","row"]:= .mk rfl (by ext) (by ext)
theorem agm:bO P 749 (aQ 112) ["row","spot","value"]:= .mk rfl (by ext) (by ext)
theorem Z9:bO P 754 (aQ 113) ["box","row"]:= .mk rfl (by ext) (by ext)
theorem Ę:bO P 761 (aQ 114) ["script"]:= .mk rfl (by ext) (by ext)
end
section
def PF (w:bQ) (qt:aN) (k:ar) (a:aF) (args:ah AV) (r:AV):Prop:=∀{n:ar} {H:aj} {Q:PQ} {X:PX},Q r H->bq (cx w qt) (n+k) (.ref a) args H Q X
def PD (w:bQ) (qt:aN) (k:ar) (a:aF) (args:ah AV) (D:aF) (r:aR AV):Prop:=∀{n:ar} {H:aj} {Q:PQ} {X:PX},(∀v,r=ae v->Q v H)->(r=none->∀x i,X ⟨D,.str x,.int i⟩ H)->bq (cx w qt) (n+k) (.ref a) args H Q X
variable {w:bQ} {qt:aN}
theorem agZ:PF w qt 1 384 [.int i] (.bool (decide (0xD800<=i) && decide (i<=0xDFFF))):=λ{n H Q X} h=>by
 show fn 20 20 æ rfl λK XK hK J J=>?_;intro m;show br (λq=>hK (.refl _) ?_) λq=>hK (.refl _) ?_
 ·rw [q] at h;show h
 ·rw [q] at h;show h
theorem B1:decide (([a]:ah ar) < [b])=decide (a < b):=by
 rewrite [decide_eq_decide]
 constructor
 ·intro h;cases h with
  |rel h=>show h
  |cons h=>cases h
 ·show λh=> .rel h
theorem ahw (h:a∈j6 x):∃k,a= .str ⟨#[k]⟩:=by
 rw [j6,Vb] at h;show aA h λk J e=>?_;show ⟨k,e.symm⟩
noncomputable def up1 (k:ar):ar:=if 97<=k/\k<=122 then k - 32 else k
noncomputable def qL (x:ak):ak:=⟨(x.cps.toList.map up1).toArray⟩
theorem OG:∀(l:ah ar) (acc:dm ar),(l.map λk=>(⟨#[k]⟩:ak)).foldl (λacc p=>acc++("":ak).cps++p.cps) acc=acc++l.toArray
 |[],acc=>by simp
 |k::l,acc=>by
  exists dX;exists yB;rewrite [OG l];apply Array.toList_inj.mp;have:("":ak).cps=#[]:=rfl;simp [this]
theorem OI (l:ah ar):Vv ("":ak) (l.map λk=>⟨#[k]⟩)=⟨l.toArray⟩:=by
 induction l using c6 with
 |nil=>rfl
 |cons k l=>
  show (?_:(⟨(l.map λk=>(⟨#[k]⟩:ak)).foldl (λacc p=>acc++("":ak).cps++p.cps) #[k]⟩:ak)=_)
  rewrite [OG];simp
theorem Qo (l:ah ar):((l.map λk=>(⟨#[k]⟩:ak)).map (λx=>x.length)).sum=l.length:=by
 induction l with
 |nil=>rfl
 |cons k l ih=>rw [dX,dX,List.sum_cons,ih];show (?_:1+_=_);exists cY;omega
theorem acx (hz:x.length<=100000):PF w ai 1 377 [.str x] (.str (qL x)):=λ{n H Q X} h=>by
 show fn 20 20 ń rfl λK XK hK J J=>?_;intro m;show ⟨?_,trivial,λJ=>ai,λa=>match a with| .str y=> .str (qL y)|a=>a,λJ=>cL,?_,?_⟩
 ·unfold j6;rewrite [bp];show aK (show x.cps.size<=100000 from hz) ⋯
 ·intro a ha;show bj (ahw ha) λk bC=>?_;exists bC;have fin:∀j:ar,j=up1 k->AV.str ⟨#[j]⟩= .str (qL ⟨#[k]⟩):=λj e=>by subst e;rfl
  show λH' J=>⟨rfl,rfl,λJ=>?_⟩;show Q6 (br (λq=>?_) λq=>?_)
  ·have q:97<=k:=by
    have:(!decide (([k]:ah ar) < [97]))=ai:=q;rw [B1] at this;simpa using this
   show Q6 (br (λq2=>?_) λq2=>?_)
   ·have q2:k<=122:=by
     have:(!decide (([122]:ah ar) < [k]))=ai:=q2;rw [B1] at this;simpa using this
    show B7 (Uc (Int.sub_nonneg.mpr (Int.ofNat_le.mpr (aK ⋯ q))) (dH (Int.sub_le_self _ ⋯) (Int.ofNat_le.mpr (aK q2 ⋯))) ⟨fin _ ?_,rfl,trivial⟩);unfold up1;exists bN ⟨q,q2⟩;show Ll k 32
   ·have q2:¬k<=122:=by
     have:(!decide (([122]:ah ar) < [k]))=au:=q2;rw [B1] at this;simpa using this
    show ⟨fin _ ?_,rfl,trivial⟩;unfold up1;exists bo (λz=>q2 z.2);rfl
  ·have q:¬97<=k:=by
    have:(!decide (([k]:ah ar) < [97]))=au:=q;rw [B1] at this;simpa using this
   show ⟨fin _ ?_,rfl,trivial⟩;unfold up1;exists bo (λz=>q z.1);rfl
 ·intro J
  have e:((j6 x).filter λJ=>ai).map (λa=>match a with| .str y=> .str (qL y)|a=>a)=((x.cps.toList.map up1).map λk=>(⟨#[k]⟩:ak)).map AV.str:=by
   exists List.filter_eq_self.mpr (by simp);exists cZ;exists cZ;exists cZ;rfl
  exists e;show Ra (.inl rfl) ?_ ?_
  ·rewrite [Qo]
   have:x.cps.size<=100000:=hz;rw [bp];show (aK ‹_› ⋯)
  ·rewrite [OI];show hK (.refl _) h
theorem mC (h:n<=100000):n<=bY:=aK h ⋯
noncomputable def jg (x:ak):ak×ak:=if vX x ("/":ak) < 0 then (x,"") else
 (qJ x none (ae (vX x ("/":ak))),qJ x (ae (vX x ("/":ak))) none)
theorem OK (h:vX x ("/":ak) < 0):jg x=(x,("":ak)):=bN h
theorem W9 (h:¬vX x ("/":ak) < 0):∃j:ar,vX x ("/":ak)=(j:aq)/\jg x=(qJ x (iF none) (iF (ae j)),qJ x (iF (ae j)) (iF none)):=by
 show bj ((⟨_,(KU (by omega)).symm⟩:∃j:ar,vX x ("/":ak)=(j:aq))) λj hj=>⟨j,hj,(bo h).trans (by exists hj;rfl)⟩
noncomputable def Rg (p:ak×ak):AV:= .tup [.str p.1,.str p.2]
theorem X7 (hz:x.length<=100000):PF w qt 1 391 [.str x] (Rg (jg x)):=λ{n H Q X} h=>by
 have key:∀p,jg x=p->Q (Rg p) H:=λp e=>e▸h;show fn 20 20 abI rfl λK XK hK J J=>?_;intro m;show Z2 (br (λq=>?_) λq=>?_)
 ·show hK (.refl _) (key _ (OK (fi q)))
 ·show aA (W9 (ml q)) λj hj e=>⟨j,bD AV.int hj,G_ (mC hz) ⟨j,bD AV.int hj,G_ (mC hz) (hK (.refl _) (key _ e))⟩⟩
noncomputable def dN (x:ak):ak:=if qL (jg x).1==("INBOX":ak) then ("INBOX":ak)++(jg x).2 else x
theorem slice_le:(qJ x a b).length<=x.length:=Txt.slice_le x a b
theorem Ju:(jg x).1.length<=x.length/\(jg x).2.length<=x.length:=by
 unfold jg;split
 ·show ⟨eY _,i0 _⟩
 ·show ⟨slice_le,slice_le⟩
theorem s6 (x y:ak):(x++y).length=x.length+y.length:=ai1
theorem D0 (h:(qL (jg x).1==("INBOX":ak))=ai):dN x=("INBOX":ak)++(jg x).2:=bN h
theorem CV (h:(qL (jg x).1==("INBOX":ak))=au):dN x=x:=bo (by exists h;decide)
theorem af7 {x y:ak} (hz:x.length<=90000) (h:y.length<=x.length):(("INBOX":ak)++y).length<=bY:=by
 rewrite [s6];show mC (aK (iJ (aK h hz) 5) ⋯)
theorem Gg (hz:x.length<=90000):PF w ai 2 398 [.str x] (.str (dN x)):=λ{n H Q X} h=>by
 have ju:x.length<=100000:=aK hz ⋯;show fn 20 20 afK rfl λK XK hK J J=>?_;intro m;show X7 ju (acx (aK Ju.1 ju) (br (λq=>?_) λq=>?_))
 ·show ⟨af7 hz Ju.2,hK (.refl _) (D0 q▸h)⟩
 ·show hK (.refl _) (CV q▸h)
noncomputable def xC (k:aq):aN:=decide (k < 32)||((decide (127<=k) && decide (k<=159))||(k==0x2028||(k==0x2029||(decide (0xD800<=k) && decide (k<=0xDFFF)))))
theorem vj (h:a=ai):(a||b)=ai:=by subst h;rfl
theorem qm (h:a=au):(a||b)=b:=by subst h;rfl
theorem dI (h:a=ai):(a && b)=b:=by subst h;rfl
theorem dq (h:a=au):(a && b)=au:=by subst h;rfl
theorem W_:PF w qt 2 405 [.int k] (.bool (xC k)):=λ{n H Q X} h=>by
 have key:∀b:aN,xC k=b->Q (.bool b) H:=λb e=>e▸h;show fn 20 20 abo rfl λK XK hK J J=>?_;intro m;show br (λq=>hK (.refl _) (key _ ((vj q).trans q.symm))) λq=>br (λq2=>br (λq3=>?_) λq3=>?_) λq2=>?_
 ·show hK (.refl _) (key _ ((qm q).trans ((vj ((dI q2).trans q3)).trans q3.symm)))
 all_goals
  have e:xC k=(k==0x2028||(k==0x2029||(decide (0xD800<=k) && decide (k<=0xDFFF)))):=(qm q).trans (qm (by first|show (dI q2).trans q3|show dq q2));show br (λq4=>hK (.refl _) (key _ (e.trans ((vj q4).trans q4.symm)))) λq4=>br (λq5=>hK (.refl _) (key _ (e.trans ((qm q4).trans ((vj q5).trans q5.symm))))) λq5=>agZ (hK (.refl _) (key _ (e.trans ((qm q4).trans (qm q5)))))
end
section
variable {w:bQ} {qt:aN}
noncomputable def iU:ah ar->ar->ar->aN
 |[],at_,b=>b !=at_
 |k::r,at_,b=>if k==47 then (if at_==b then au else iU r (at_+1) (at_+1)) else if k==37||k==42 then au else if xC k then au else iU r (at_+1) b
theorem aaU {r:ah ar} {k i b:ar} (q:(k==47)=ai) (h:i=b):iU (k::r) i b=au:=(bN q).trans (bN (aa h (kZ b)))
theorem aed {r:ah ar} {k i b:ar} (q:(k==47)=ai) (h:i≠b):iU (k::r) i b=iU r (i+1) (i+1):=(bN q).trans (bo (by exists beq_eq_false_iff_ne.mpr h;decide))
theorem XT {r:ah ar} {k i b:ar} (q:(k==47)=au) (h:k=37\/k=42):iU (k::r) i b=au:=(bo (by exists q;decide)).trans (bN (by rcases h with rfl|rfl <;> decide))
theorem adH {r:ah ar} {k i b:ar} (q:(k==47)=au) (h:¬(k=37\/k=42)) (z:xC k=ai):iU (k::r) i b=au:=(bo (by exists q;decide)).trans ((bo (by simpa using h)).trans (bN z))
theorem Ĕ {r:ah ar} {k i b:ar} (q:(k==47)=au) (h:¬(k=37\/k=42)) (z:xC k=au):iU (k::r) i b=iU r (i+1) b:=(bo (by exists q;decide)).trans ((bo (by simpa using h)).trans (bo (by exists z;decide)))
theorem SP {k:ar}:(!(tX ("%*":ak) ⟨#[k]⟩ 0 ("%*":ak).length 1).isEmpty)=decide (k=37\/k=42):=by
 rewrite [ajw,decide_eq_decide]
 show (?_:k∈[37,42]↔_);simp
theorem yK {k c:ar}:((⟨#[k]⟩:ak)==(⟨#[c]⟩:ak))=(k==c):=by
 rewrite [pM];simp
theorem Ul {i b:ar} (h:((i:aq)==(b:aq))=ai):i=b:=ajx (eq_of_beq h)
theorem Uh {i b:ar} (h:((i:aq)==(b:aq))=au):i≠b:=λe=>by subst e;rw [kZ] at h;injection h
theorem Ą {x:ak} {i:ar} (h:i < x.length):∃cp,x.cps[i]?=ae cp/\x.cps.toList.drop i=cp::x.cps.toList.drop (i+1):=by
 have h2:i < x.cps.toList.length:=by exists jx;show h
 show (ao _ (Lc h) (Fq h2))
theorem Sy {x:ak} {b:ar}:iU (x.cps.toList.drop x.length) x.length b=(b !=x.length):=by
 rw [vN (by exists jx;show eY _)];rfl
theorem Yp {n:ar} (h:n<=90000):(n:aq) < 2 ^ 62:=Int.ofNat_lt.mpr (iw h (by decide:90000 < 2 ^ 62))
theorem e9 {n:ar} (h:n<=90000):(n:aq) < 2 ^ 63:=Int.ofNat_lt.mpr (iw h (by decide:90000 < 2 ^ 63))
theorem ĩ {n:ar}: -(2 ^ 62:aq)<=(n:aq):=dH ⋯ (FD n)
theorem YY {x:ak} (hz:x.length<=90000):PD w ai 3 412 [.str x] 52 (if iU x.cps.toList 0 0 then ae (.str x) else none):=λ{n H Q X} hq hx=>by
 have hq:iU x.cps.toList 0 0=ai->Q (.str x) H:=λe=>hq _ (by exists e;rfl);have hx:iU x.cps.toList 0 0=au->∀x i,X ⟨52,.str x,.int i⟩ H:=λe=>hx (by exists e;rfl);generalize hr:iU x.cps.toList 0 0=r at hq hx;show fn 30 30 ae6 rfl λK XK hK J hX=>?_;intro m;show ⟨rfl,wm (e9 hz) (aP ĩ (Yp hz) (zt x.length (λ_ (b:ar)=>(xl "begin" "text" (.int (b:aq)) (.str x))) (λJ J=>H) (λi (b:ar)=>iU (x.cps.toList.drop i) i b=r) (λb hc=>?_) (λi b h1 hc K' hn J=>?_) 0 hr))⟩
 ·show wm (e9 hz) (br (λq=>hX (.refl _) (hx ((Sy.symm.trans hc).symm.trans ?_) _ _)) λq=>hK (.refl _) (hq ((Sy.symm.trans hc).symm.trans ?_)))
  ·exists Ul q;show Bb _
  ·show bne_iff_ne.mpr (Uh q)
 ·show aA (Ą h1) λcp hcp hd=>?_;have hc:=hd▸hc;show Sp rfl (e9 (aK (iK h1) hz)) hcp (br (λq=>?_) λq=>O0 (br (λq2=>?_) λq2=>?_))
  ·show br (λq2=>hX (.refl _) (hx (hc.symm.trans (aaU (yK.symm.trans q) (Ul q2))) _ _)) λq2=>hn (i+1) _ ((aed (yK.symm.trans q) (Uh q2)).symm.trans hc) trivial (aP rfl rfl trivial)
  ·show hX (.refl _) (hx (hc.symm.trans (XT (yK.symm.trans q) (fi (SP.symm.trans q2)))) _ _)
  ·have q2:=ml (SP.symm.trans q2);show B7 (W_ (br (λq3=>hX (.refl _) (hx (hc.symm.trans (adH (yK.symm.trans q) q2 q3)) _ _)) λq3=>hn b _ ((Ĕ (yK.symm.trans q) q2 q3).symm.trans hc) trivial (aP rfl rfl trivial)))
end
section
variable {w:bQ} {qt:aN}
noncomputable def sU:ah ak:=["\\Seen","\\Answered","\\Flagged","\\Deleted","\\Draft"]
theorem WX:yr ("\\Seen \\Answered \\Flagged \\Deleted \\Draft":ak) (" ":ak)=sU:=by ext
theorem afQ:PF w qt 1 85 [] (.lst (sU.map .str)):=λ{n H Q X} h=>by
 show fn 20 20 acF rfl λK XK hK J J=>?_;intro m;show Gz rfl (by decide+kernel) (by decide+kernel) (hK (.refl _) (WX▸h))
noncomputable def Up:ah ar:=[40,41,123,32,37,42,34,92,93]
noncomputable def C7 (k:ar):aN:=decide ((32:aq) < k) && (decide ((k:aq) < 127) && !Up.contains k)
noncomputable def xM (x:ak):aN:=decide ((1:aq)<=x.length) && (decide ((x.length:aq)<=60) && x.cps.toList.all C7)
theorem Ry:(!(tX ("(){ %*\"\\]":ak) ⟨#[k]⟩ 0 ("(){ %*\"\\]":ak).length 1).isEmpty)=Up.contains k:=by
 rewrite [ajw,pM];exists vY;rewrite [aiS];show Iff.rfl
theorem jD (h:(!b)=ai):b=au:=by induction b using ez;rfl;injection h
theorem iB (h:(!b)=au):b=ai:=by induction b using ez;cases h;rfl
theorem ahk (hz:x.length<=90000):PF w ai 1 92 [.str x] (.bool (xM x)):=λ{n H Q X} h=>by
 have key:∀b:aN,xM x=b->Q (.bool b) H:=λb e=>e▸h;show fn 20 20 afB rfl λK XK hK J J=>?_;intro m;show wm (e9 hz) (br (λq=>br (λq2=>hK (.refl _) (key _ ((dI q).trans (dq (jD q2))))) λq2=>?_) λq=>hK (.refl _) (key _ (dq q)));have e:xM x=x.cps.toList.all C7:=(dI q).trans (dI (iB q2));show jX (λk:ar=>AV.str ⟨#[k]⟩) (λ_:gv=>([("text",.str x)]:Rh)) (λJ=>H) (λr J=>xM x=r.all C7) (λJ e=>hK (.refl _) (key _ e)) (λk r J e K' hn hr=>?_) x.cps.toList () e;have bad:C7 k=au->xM x=au:=λz=>e.trans (dq z);show B7 (br (λq3=>br (λq4=>hr (hK (.refl _) (key _ (bad ((dI q3).trans (dq (jD q4))))))) λq4=>O0 (br (λq5=>hr (hK (.refl _) (key _ (bad ((dI q3).trans ((dI (iB q4)).trans ?_)))))) λq5=>?_)) λq3=>hr (hK (.refl _) (key _ (bad (dq q3)))))
 ·show bD not (Ry.symm.trans q5)
 ·show hn () _ (e.trans (dI ((dI q3).trans ((dI (iB q4)).trans (bD not (Ry.symm.trans q5)))))) trivial ⟨rfl,trivial⟩
noncomputable def uf (t:ak):ah ak->aR ak
 |[]=>if xM t then ae t else none
 |s::r=>if tY t==tY s then ae s else uf t r
noncomputable def i6 (t:ak):aR ak:=uf t sU
def jP (t:ak):Prop:=t.length<=90000/\(tY t).length<=bY
theorem Ob:∀s∈sU,jP s:=by
 have:sU.all (λs=>ie s.length 90000 && ie (tY s).length bY)=ai:=by ext
 show λs hs=>by
  have:=List.all_eq_true.mp this s hs;simp only [d9,FY] at this;show this
theorem acA (hz:jP t):PD w ai 3 99 [.str t] 76 ((i6 t).map .str):=λ{n H Q X} hq hx=>by
 show fn 20 20 į rfl λK XK hK J hX=>?_;intro m;show bj ((⟨_,rfl⟩:∃L,L=sU)) λL hL=>?_;have cs:PF w ai 1 85 [] (.lst (L.map .str)):=hL▸afQ;show cs<|jX AV.str (λ_:gv=>([("text",.str t)]:Rh)) (λJ=>H) (λr J=>i6 t=uf t r/\∀s∈r,jP s) (λJ e=>?_) (λs r J e K' hn hr=>?_) L () ⟨hL▸rfl,hL▸Ob⟩
 ·show ahk hz.1 (br (λq=>?_) λq=>?_)
  ·show hX (.refl _) (hx (by exists e.1;show LD _ (if _ then _ else _)=_;exists jD q;rfl) _ _)
  ·show hK (.refl _) (hq _ (by exists e.1;show LD _ (if _ then _ else _)=_;exists iB q;rfl))
 ·show QF hz.2 (QF (e.2 s (.head _)).2 (br (λq=>hr (hK (.refl _) (hq _ ?_))) λq=>?_))
  ·exists e.1;show LD _ (if _ then _ else _)=_;exists bN q;rfl
  ·show hn () _ ⟨e.1.trans (bo (by exists q;decide)),λs hs=>e.2 s (.tail _ hs)⟩ trivial ⟨rfl,trivial⟩
end
section
variable {w:bQ} {qt:aN}
def PO {α:Type} (w:bQ) (qt:aN) (k:ar) (a:aF) (args:ah AV) (D:aF) (pC:α->AV) (r:aR α):Prop:=∀{n:ar} {H:aj} {Q:PQ} {X:PX},(∀v,r=ae v->Q (pC v) H)->(r=none->∀x i,X ⟨D,.str x,.int i⟩ H)->bq (cx w qt) (n+k) (.ref a) args H Q X
theorem PD.po {α:Type} {pC:α->AV} {r:aR α} (h:PD w qt k a args D (r.map pC)):PO w qt k a args D pC r:=λ{n H Q X} hq hx=>h (λv e=>by
 induction r using eL with
 |none=>injection e
 |some x=>injection e with ct;subst ct;show hq x rfl) λe=>hx (by induction r using eL with|none=>rfl|some=>injection e)
theorem nM (hD:H D=none) (ho:o≠.priv):Sub H (H.set D o):=uN hD ho
noncomputable def lM:ah ak->ah ak->aR (ah ak)
 |[],acc=>ae acc
 |t::r,acc=>(i6 t).bind λf=>lM r (if acc.contains f then acc else acc++[f])
noncomputable def de (l:ah ak):aR (ah ak):=(lM l []).map iq
noncomputable def eF (l:ah ak):AV:= .tup (l.map .str)
theorem Ÿ (hz:jP t):PO w ai 3 99 [.str t] 76 .str (i6 t):=PD.po (acA hz)
theorem qk {α:Type} {le:α->α->aN} (l:ah α):(wN le l).length=l.length:=(ke le l).length_eq
theorem afx {r:aR (ah ak)} (e:lM (t::l) acc=r) (h:i6 t=ae f):lM l (if acc.contains f then acc else acc++[f])=r:=by
 exists e.symm;show (?_:_=(i6 t).bind _);exists h;rfl
theorem Ž {α:Type} {acc r:ah α} {t:α} (h:acc.length+(t::r).length<=60):acc.length+r.length<=60:=aK (iJ (kX _) _) h
theorem abm {α:Type} {acc r:ah α} {t f:α} (h:acc.length+(t::r).length<=60):(acc++[f]).length+r.length<=60:=by
 exists cb;exists List.length_singleton;rewrite [ix,lB 1];show h
theorem Xx {acc:ah ak} {k:ar} (h:acc.length+k<=60):(acc.map AV.str).length<=bY:=by
 rewrite [bp];show aK (aK (eC _ _) h) ⋯
theorem afb (h:acc.length+0<=60):((iq acc).map AV.str).length<=bY:=by
 rewrite [bp,iq,qk];show aK h ⋯
theorem xS (hz:∀t∈l,jP t) (hn:l.length<=60):PO w ai 4 106 [eF l] 76 eF (de l):=λ{n H Q X} hq hx=>by
 show fn 30 30 œ rfl λK XK hK J hX=>?_;intro m D hD;show jX AV.str (λ_:ah ak=>(xl "found" "flags" (.ref D) (eF l))) (λacc=>H.set D (.list (acc.map .str))) (λr acc=>lM r acc=lM l []/\(∀t∈r,jP t)/\acc.length+r.length<=60) (λacc e=>?_) (λt r acc e K' dU hr=>?_) l [] (aP rfl hz (by simpa using hn))
 ·have e1:lM l []=ae acc:=e.1.symm;show D3 (.inr ⟨D,rfl,aj.aW ..⟩) (iw e.2.2 ⋯) (kH (.inl rfl) (afb e.2.2) (hK (nM hD (by simp)) (hq (iq acc) (by unfold de;exists e1;rfl))))
 ·show Ÿ (e.2.1 t (.head _)) (λf ef=>?_) λef J J=>hX (nM hD (by simp)) (hx (by unfold de;exists e.1.symm;show (?_:LD _ ((i6 t).bind _)=_);exists ef;rfl) _ _);have go:=afx e.1 ef;show Oc (.inr (ao D rfl (aj.aW ..))) (br (λq=>?_) λq=>?_)
  ·rw [bo (by exists jD q;decide)] at go;show (bK.mk (aj.aW ..) (vh (aj.aW ..) (Xx e.2.2) ?_))
   ·have hs:(H.set D (.list (acc.map AV.str))).set D (.list (acc.map AV.str++[.str f]))=H.set D (.list ((acc++[f]).map .str)):=by rewrite [cV];exists dz;rfl
    show hs▸dU (acc++[f]) _ (aP go (λt h=>e.2.1 t (.tail _ h)) (abm e.2.2)) trivial (aP rfl rfl trivial)
  ·have go:=bN (iB q)▸go;show dU acc _ (aP go (λt h=>e.2.1 t (.tail _ h)) (Ž e.2.2)) trivial (aP rfl rfl trivial)
end
section
variable {w:bQ} {qt:aN}
theorem GK {n:ar} {a:aF} {st:fc} {names:ah ak} {args:ah AV} {H:aj} {Q:PQ} {X:PX} (f k:ar) (h:bO w.params a st names) (hl:names.length=args.length)
  (v:∀(K:PS) (XK:PX),(∀{r aO H'},Q r H'->K (.ret r) aO H')->(∀{aO H'},Q .none H'->K .next aO H')->(∀{x H'},X x H'->XK x H')->
   let m:Cn:=⟨cx w qt,n⟩
   vS vk f k (fS st) (fB st) m (Tw names args) H K XK):rH (cx w qt) (n+1) (.ref a) args H Q X:=
 Ng h hl rfl (rt fO f k (v (λaf J H'=>Q af.val H') X id id id))
theorem Fg.adu (e:H a=none):Fg c (H.set a (.inst C dx ks vs)) (.ref a) H (.obj C ks vs):=by
 have:=Fg.inst (c:=c) (H:=H.set a (.inst C dx ks vs)) (aj.aW ..)
 rwa [Ga _ e] at this
set_option genInjectivity false in
structure Lt where
 uid:aq
 oct:ah b_
 flags:ah ak
 inst:aq
 ms:aq
noncomputable def Jn:ah ak:=["uid","octets","flags","instant","modseq"]
noncomputable def Lt.vs (L:Lt):ah AV:=[.int L.uid,.bytes L.oct,eF L.flags,.int L.inst,.int L.ms]
noncomputable def Lt.av (L:Lt):AV:= .obj 137 Jn L.vs
theorem IQ (L:Lt) {n:ar} {H:aj} {Q:PQ} {X:PX} (h:Q L.av H):bq (cx w qt) (n+2) (.ref 137) [.int L.uid,.bytes L.oct,eF L.flags,.int L.inst,.int L.ms] H Q X:=by
 show bq.mono (Q:=λa H'=>∃x dx,a= .ref x/\H'=H.set x (.inst 137 dx Jn L.vs)/\H x=none) (BO (fI:=120) (by ext) λx dx hx J=>?_) (λa H' x'=>cQ x' λx dx e1 e2 e3=>(ew L.av H (by exists e1;exists e2;show Fg.adu e3) h)) λJ J z=>z;show GK 20 20 agw rfl λK XK J hN J=>?_;intro m;show (ao _ (aj.aW ..) (ao _ (aj.aW ..) (abr (ao _ (aj.aW ..) (ao _ (aj.aW ..) (ao _ (aj.aW ..) (hN ⟨rfl,x,dx,rfl,?_,hx⟩)))))));simp only [cV];rfl
theorem aa0 (L:Lt):PF w qt 1 134 [L.av] (.tup L.vs):=λ{n H Q X} h=>by
 show fn 20 20 aem rfl λK XK hK J J=>?_;intro m;show hK (.refl _) h
end
section
variable {w:bQ} {qt:aN}
section
variable {m:Cn} {sc:bA} {ρ:Rh} {H:aj} {Q:PS} {X:PX}
theorem cP.from {st:fc} {iS:Rh} {X:XS} (h:cP m.c m.n sc st iS H Q X) (k:Sb iS ρ):cP m.c m.n sc st ρ H Q X:=λA env s C=>h A env s ⟨C.1,C.2.weak k.sub,C.3,C.4⟩
theorem wh {σ:Type} (ok:VK.Ok vk m.c) (f k:ar) (R:σ->Rh) (HH:σ->aj) (P:σ->Prop) (μ:σ->ar) (s:σ) (p:P s) (e1:Sb (R s) ρ) (e2:HH s=H)
  (h:∀s,P s->∀K:PS,(∀s' aO,P s'->μ s' < μ s->Sb (R s') aO->K .next aO (HH s'))->(∀{v aO H'},Q (.ret v) aO H'->K (.ret v) aO H')->
   vT vk f sc test m (R s) (HH s) (λb aw=>fh b (vS vk f k sc body m (R s) aw K X) (Q .next (R s) aw)) X):
  cP m.c m.n sc (.While test body [] pos) ρ H Q (λx J H'=>X x H'):=by
 subst e2;show cP.from (afs (λk ρ H=>∃s,P s/\μ s=k/\ρ=R s/\H=HH s) (μ s) (i_ s p rfl rfl rfl) λk ρ H i=>?_) e1;show eO i ?_;clear i;intro s p bC bW dD;rcases bC with rfl;exists bW;exists dD
 show WT.post ((g_ ok f).4 (h s p (λg aO H'=>match g with| .next=>∃s',P s'/\μ s' < μ s/\Sb (R s') aO/\H'=HH s'| .ret v=>Q (.ret v) aO H') (λs' aO a b c=>(i_ s' a b c rfl)) λq=>q)) λb aw q=>?_;induction b using ez
 ·show q
 ·show WS.wk (((QY ok k).1 q).mono (λg aO H' q=>?_) λJ J J z=>z);induction g using AF.casesOn with
  |next=>
   show eO q λs' a b c e=>(ao (R s') c.sub (ao (μ s') b (i_ s' a rfl rfl e)))
  |ret v=>show (ao aO (λJ J e=>e) q)
end
end
section
variable {w:bQ} {qt:aN}
inductive sH (c:Cx) (H H':aj):Prop
 |mk (fz:∀b,Fz H b->Fz H' b) (pr:∀b,H b=ae .priv->H' b=ae .priv) (rep:∀h,cN c H h->cN c H' h)
section
variable {c:Cx} {H H' H'':aj}
theorem SR.shift (x:SR c Ex H s H' s') (y:sH c H' H''):SR c Ex H s H'' s':=
 ⟨x.1,x.2,x.3,y.3 _ x.4,λb o e=>(aP (λf=>y.1 b ((x.5 b o e).1 f)) (λf=>y.2 b ((x.5 b o e).2.1 f)) ((x.5 b o e).2.2)),x.6⟩
theorem V.shift (x:V H h a v) (y:sH c H H'):V H' h a v:=VR.mono (λb o p g J J=>⟨y.1 b p,g⟩) _ _ x
theorem bq.shift (h:bq c n g args H (λa H'=>∃H'',sH c H' H''/\Q a H'') X):bq c n g args H Q X:=λA s vs C y=>
 cq (h A s vs C y) (λv s' x'=>aA x' λH' S gA=>aA gA λav yv oG=>aA oG λH'' f q=>(ao H'' (S.shift f) (ao av (yv.shift f) q))) λJ J z=>z
theorem aZ.Zy {P:aF->Prop} {h:bF} {a:AV} {l:ah AV} {vs:ah aI} (x:aZ P h l vs) (i:ar):(∀v,vs[i]?=ae v->VR P h a v)->aZ P h (l.set i a) vs:=by
 revert i;show aZ.ind x (λJ J=> .nil) λb l u r y1 y2 ih i k=>?_;induction i using AZ with
 |zero=>show .cons (k u rfl) y2
 |succ i=>show .cons y1 (ih i k)
theorem aZ.put {P:aF->Prop} {h:bF} {a:AV} {l:ah AV} {vs:ah aI} {i:ar} (x:aZ P h l vs) (k:∀v,vs[i]?=ae v->VR P h a v):aZ P h (l.set i a) vs:=x.Zy i k
theorem sH.aas {B a C dx:aF} {ks:ah ak} {vs l:ah AV} {i:ar} (hB:H B=ae (.inst C dx ks vs)) (ha:H a=ae (.list l)) (hi:vs[i]?=ae (.ref a)) (n1:H' a=none) (n2:H' B=ae (.inst C dx ks (vs.set i (.lst l)))) (n3:∀b,b≠a->b≠B->H' b=H b):sH c H H':=by
 have inv:∀{b:aF} {o:cW},H' b=ae o->(b=B/\.inst C dx ks (vs.set i (.lst l))=o)\/H b=ae o:=λ{b o} e=>by
  by_cases q:b=a
  ·rw [q,n1] at e;injection e
  by_cases q2:b=B
  ·rw [q2,n2] at e;show .inl ⟨q2,bZ e⟩
  ·show .inr (n3 b q q2▸e)
 have i1:∀{b C' mB:aF} {jZ:ah ak} {dO:ah AV},H' b=ae (.inst C' mB jZ dO)->∃ks vs,H b=ae (.inst C' mB ks vs):=λ{b C' mB jZ dO} e=>by
  rcases inv e with ⟨q,z⟩|z
  ·injection z with z1 z2;exists q;exists z1.symm;exists z2.symm;show ⟨_,_,hB⟩
  ·show ⟨_,_,z⟩
 have own:∀b,mc H' b->mc H b:=λb q=>by
  rcases q with q|⟨y,C',jZ,dO,z⟩
  ·by_cases q2:b=a
   ·show cy n1 (q2▸q)
   by_cases q3:b=B
   ·show .inl (by exists q3;exists hB;show Gs)
   ·show .inl (n3 b q2 q3▸q)
  ·show dP (i1 z) λJ J z=> .inr ⟨_,_,_,_,z⟩
 have fz:∀b,Fz H b->Fz H' b:=λb p q=>p (own b q);show ⟨fz,λb e=>?_,λh R=>?_⟩
 ·rw [n3 b (λz=>by rw [z,ha] at e;injection e with ct;injection ct) (λz=>by rw [z,hB] at e;injection e with et;injection et)];show e
 ·show ⟨R.1,R.2,λb o e=>?_,λb C' mB jZ dO e=>?_,λb C1 mB ks1 vs1 b' C2 ks2 D6 e1 e2=>?_,λb o e=>?_⟩
  ·rcases inv e with ⟨q,_⟩|z
   ·exists q;show R.3 _ _ hB
   ·show R.3 _ _ z
  ·show dP (i1 e) λJ J e'=>aM (R.4 _ _ _ _ _ e') λk1 k2=>⟨k1,?_⟩;by_cases q:mB=a
   ·exists q;show n1
   by_cases q2:mB=B
   ·rw [q2,hB] at k2;injection k2
   ·exists n3 _ q q2;show k2
  ·show dP (i1 e1) λJ J e1=>dP (i1 e2) λJ J e2=>R.5 _ _ _ _ _ _ _ _ _ e1 e2
  ·rcases inv e with ⟨q,z⟩|z
   ·subst q z;show Ak (R.6 _ _ hB) λo es n g q1 q2 q3 q4 q5 q6 q7=>⟨o,es,n,g,q1,q2,q3,q4,q5,q6,(q7.mono (λb o p g J J=>⟨fz b p,g⟩)).put λv e=>?_⟩;show aA (q7.get hi) λv' e' y=>?_;injection (e).symm.trans e' with eR;exists eR
    exists y;show d8 (R.6 _ _ ha) λxs n g r=>⟨a,n,xs,rfl,λq=>?_,g,r.mono (λb o p g J J=>⟨fz b p,g⟩)⟩;rcases q with q|⟨y,C',jZ,dO,z⟩
    ·show q n1
    ·show dP (i1 z) λJ J z=>?_;have:=(R.4 _ _ _ _ _ z).2;injection (ha).symm.trans this
   ·show (R.6 _ _ z).mono λb ob g J J=>⟨fz b,λJ=>g⟩
theorem sH.field (hB:H B=ae (.inst C dx ks vs)) (ha:H a=ae (.list l)) (hi:vs[i]?=ae (.ref a)):sH c H ((H.set B (.inst C dx ks (vs.set i (AV.lst l)))).del a):=by
 have ne:B≠a:=λe=>by rw [<-e,hB] at ha;injection ha with fD;injection fD
 show sH.aas hB ha hi (bN rfl) ((bo ne).trans (aj.aW ..)) λb n1 n2=>(bo n1).trans (aj.eQ _ _ n2)
end
end
section
variable {w:bQ} {qt:aN}
theorem ZQ (ok:VK.Ok vk m.c) (f:ar) (c8:m.c.qt=ai) (kx:lr sc x=ai) (ky:lr sc y=ai)
  (hs:∀env,env.scope=sc->AS [.Tuple elts k' gF] value pos.line env=pure au) (hw:∀env,env.scope=sc->yg [.Tuple elts k' gF] value env=pure (ae [x,y]))
  (h:vE vk f sc value m ρ H (λa aw=>∃u w,a= .tup [u,w]/\Q .next ((x,u)::(y,w)::ρ) aw) X):cP m.c m.n sc (.Assign [.Tuple elts k' gF] value pos) ρ H Q (λx J H'=>X x H'):=
 Xe (px:=pos) (py:=pos) c8 ((g_ ok f).1 h) kx ky hs hw
theorem Ih {env:eJ} {sc:bA} (e:env.scope=sc):env={env with scope:=sc}:=by subst e;rfl
inductive oM (us:ah aq) (u:aq) (s:ar×ar):Prop
 |mk (le:s.1<=s.2) (hi:s.2<=us.length) (lt:∀i x,us[i]?=ae x->i < s.1->x < u) (ge:∀i x,us[i]?=ae x->s.2<=i->u<=x)
theorem oM.mid (h:oM us u (a,b)) (l:a < b):(a+b) / 2 < us.length/\a<=(a+b) / 2/\(a+b) / 2 < b:=by
 have m2:(a+b) / 2 < b:=(ajy ⋯).mpr (ajz b▸ajA l b);show ⟨r5 m2 h.2,(Nat.le_div_iff_mul_le ⋯).mpr (ajz a▸iJ (iK l) a),m2⟩
theorem oM.up (h:oM us u (a,b)) (l:a < b) (gZ:us.Pairwise (λx y=>x < y)) (e:us[(a+b) / 2]?=ae x) (q:x < u):oM us u ((a+b) / 2+1,b):=by
 have:=h.mid l;show ⟨this.2.2,h.2,λi y e' k=>?_,h.4⟩;by_cases z:i=(a+b) / 2
 ·subst z;rw [e] at e';injection e' with ct;subst ct;show q
 ·show bj (List.getElem?_eq_some_iff.mp e') λk1 k2=>?_;show bj (List.getElem?_eq_some_iff.mp e) λk3 k4=>?_;have:=List.pairwise_iff_getElem.mp gZ i _ k1 k3 (VM (LF k) z);rw [k2,k4] at this;show LH this q
theorem oM.dn (h:oM us u (a,b)) (l:a < b) (gZ:us.Pairwise (λx y=>x < y)) (e:us[(a+b) / 2]?=ae x) (q:¬x < u):oM us u (a,(a+b) / 2):=by
 have:=h.mid l;show ⟨this.2.1,iK this.1,h.3,λi y e' k=>?_⟩;by_cases z:i=(a+b) / 2
 ·subst z;rw [e] at e';injection e' with et;subst et;show Int.not_lt.mp q
 ·show bj (List.getElem?_eq_some_iff.mp e') λk1 k2=>?_;show bj (List.getElem?_eq_some_iff.mp e) λk3 k4=>?_;have:=List.pairwise_iff_getElem.mp gZ _ i k3 k1 (VM k (bI z));rw [k2,k4] at this;show mZ (Int.lt_of_le_of_lt (Int.not_lt.mp q) this)
theorem oM.fin (h:oM us u (a,b)) (l:¬a < b) (gZ:us.Pairwise (λx y=>x < y)) (q:us[a]?≠ae u):u∉us:=λk=>by
 have:=h.1;show bj (List.mem_iff_getElem?.mp k) λi e=>bj (List.getElem?_eq_some_iff.mp e) λk1 k2=>?_;rcases Nat.lt_trichotomy i a with z|z|z
 ·show cy (h.3 i u e z) (Int.lt_irrefl u)
 ·subst z;show q e
 ·have h1:=h.4 a _ (qH (FZ z k1)) (Nat.not_lt.mp l);have h2:=List.pairwise_iff_getElem.mp gZ a i (FZ z k1) k1 z;rw [k2] at h2;show cy h2 (Int.not_lt.mpr h1)
theorem JZ {a b:ar}:((a:aq)+(b:aq)).fdiv 2=(((a+b) / 2:ar):aq):=by
 exists F0 _ ⋯;rfl
theorem ab3 {a b:ar}:ae (AV.int (((a:aq)+(b:aq)).fdiv 2+1))=ae (AV.int (((a+b) / 2+1:ar):aq)):=by exists JZ;rfl
theorem Dc:La x 2=au:=LI ⋯
noncomputable def bT (l:ah Lt):ah aq:=l.map (λx=>x.uid)
noncomputable def gM (l:ah Lt):cW:= .list (l.map Lt.av)
theorem Mb (h:i < (bT lts).length):∃l,lts[i]?=ae l/\(bT lts)[i]?=ae l.uid/\(lts.map Lt.av)[i]?=ae l.av:=by
 have h':i < lts.length:=by simpa [bT] using h
 show (bV (lts[i]) (by simp [h']) (by simp [bT,h']) (by simp [h']))
theorem JF {lts:ah Lt} {L:aF} {u:aq} {n:ar} {H:aj} {Q:PQ} {X:PX} (hL:H L=ae (gM lts)) (hz:lts.length<=90000) (gZ:(bT lts).Pairwise (λx y=>x < y)) (h1:∀i:ar,(bT lts)[i]?=ae u->Q (.int i) H) (h2:u∉bT lts->Q (.int (-1)) H):
  bq (cx w ai) (n+1) (.ref 191) [.ref L,.int u] H Q X:=by
 have hl:(bT lts).length=lts.length:=by simp [bT]
 show fn 20 20 ag5 rfl λK XK hK J J=>?_;intro m;show ZQ fO 20 rfl rfl rfl (λenv e=>by exists Ih e;rfl) (λenv e=>by exists Ih e;rfl) ?_;show rr (.inr (ao L rfl hL)) (by simpa using e9 hz) (ew _ _ rfl ?_);show wh fO 20 20 (λs:ar×ar=>(vb "low" "high" "letters" "uid" (.int (s.1:aq)) (.int (s.2:aq)) (.ref L) (.int u))) (λJ=>H) (oM (bT lts) u) (λs=>s.2 - s.1) (0,lts.length) ⟨i0 _,iL hl.symm,λJ J J k=>(ahY _ k).elim,λi x e k=>?_⟩ (f9 rfl ?_ rfl rfl trivial) rfl λ⟨a,b⟩ p K' hn hr=>br (λq=>?_) λq=>?_
 ·show bj (List.getElem?_eq_some_iff.mp e) λk1 J=>?_;show (A7 _ (r5 k1 (hl▸k))).elim
 ·show (?_:ae _=ae _);rewrite [bp];rfl
 ·have q:a < b:=Int.ofNat_lt.mp (fi q);show fP (p.mid q) λm1 m2 m3=>cR (Mb m1) λl e1 e2 e3=>uY ⋯ Dc (gG (.inr (ao L rfl hL)) JZ (e9 (aK (iK (hl▸m1)) hz)) e3 (br (λq2=>?_) λq2=>?_))
  ·show hn ((a+b) / 2+1,b) _ (p.up q gZ e2 (fi q2)) (ajB q (Nat.lt_succ_of_le m2)) (f9 ab3 rfl rfl rfl trivial)
  ·show hn (a,(a+b) / 2) _ (p.dn q gZ e2 (ml q2)) (Nat.sub_lt_sub_right m2 m3) (f9 rfl (bD (λx=>ae (AV.int x)) JZ) rfl rfl trivial)
 ·have q:¬a < b:=λz=>(ml q) (Int.ofNat_lt.mpr z);show rr (.inr (ao L rfl hL)) (by simpa using e9 hz) (br (λq2=>?_) λq2=>?_)
  ·have q2:a < lts.length:=by simpa using fi q2
   show cR (Mb (hl▸q2)) λl e1 e2 e3=>gG (.inr (ao L rfl hL)) rfl (e9 (aK (iK q2) hz)) e3 (br (λq3=>hK (.refl _) (h1 a (e2.trans (bD ae (eq_of_beq q3))))) λq3=>?_);show hK (.refl _) (h2 (p.fin q gZ λz=>?_));rw [e2] at z;injection z with eR;subst eR;rw [kZ] at q3;injection q3
  ·show hK (.refl _) (h2 (p.fin q gZ λz=>?_));show bj (List.getElem?_eq_some_iff.mp z) λk1 J=>?_;rw [hl] at k1;have:=ml q2;rw [bp] at this;show this (Int.ofNat_lt.mpr k1)
end
section
variable {w:bQ} {qt:aN}
set_option genInjectivity false in
structure Bx where
 name:ak
 val:aq
 nu:aq
 top:aq
 floor:aq
 lts:ah Lt
 gone:ah (aq×aq)
noncomputable def G3:ah ak:=["name","validity","next_uid","top","floor","letters","gone"]
noncomputable def jV (g:ah (aq×aq)):ah AV:=g.map λp=> .tup [.int p.1,.int p.2]
noncomputable def Bx.vs (b:Bx) (L:aF):ah AV:=[.str b.name,.int b.val,.int b.nu,.int b.top,.int b.floor,.ref L,.lst (jV b.gone)]
noncomputable def gE (dx L:aF) (b:Bx):cW:= .inst 175 dx G3 (b.vs L)
noncomputable def fQ (name:ak) (val:aq):Bx:=⟨name,val,1,1,0,[],[]⟩
theorem bU {H:aj} {a b:aF} {o:cW} (h:H a=ae o) (k:H b=none):a≠b:=λe=>by rw [e,k] at h;injection h
theorem cw {H:aj} {a b:aF} {o:cW} (h:(H.set a o) b=none):H b=none/\a≠b:=by
 have ne:=bU (aj.aW H a o) h;show ⟨(aj.eQ H o λe=>ne e.symm)▸h,ne⟩
theorem aY {H:aj} {a b:aF} {o:cW} {x:aR cW} (n:a≠b) (h:H a=x):(H.set b o) a=x:=(aj.eQ H o n).trans h
theorem Cz {name:ak} {val:aq} {n:ar} {H:aj} {Q:PQ} {X:PX} (h:∀B dx L,H B=none->H L=none->B≠L->Q (.ref B) ((H.set B (gE dx L (fQ name val))).set L (gM []))):
  bq (cx w qt) (n+2) (.ref 175) [.str name,.int val] H Q X:=by
 show bq.shift (BO (fI:=155) (by ext) λx dx hx J=>?_);show GK 20 20 afX rfl λK XK J hN J=>?_;intro m;show (ao _ (aj.aW ..) (ao _ (aj.aW ..) (ao _ (aj.aW ..) (ao _ (aj.aW ..) (ao _ (aj.aW ..) (λL hL=>?_))))));have xL:=bU (aj.aW ..) hL;simp only [cV] at hL;show (ao _ (aY xL (aj.aW ..)) (λG hG=>?_));have xG:=bU (aj.aW ..) hG;show (ao _ (aY xG (aj.aW ..)) (hN ⟨rfl,?_⟩));show (ao _ (.field (i:=6) (l:=[]) (aj.aW ..) (aY (bI xG) (aj.aW ..)) rfl) ?_);simp only [cV] at hG;have N8:=(cw hG).1;show cast (bD (Q (.ref x)) (funext λb=>?_)) (h x dx L hx ((cw hL).1) xL);by_cases e1:b=G
 ·exists e1;simp [aj.set,aj.del,bI xG,bI ((cw N8).2),((cw (cw N8).1).1)]
 ·by_cases e2:b=x
  ·subst e2;simp [aj.set,aj.del,e1,xL];rfl
  ·simp [aj.set,aj.del,e1,e2];rfl
end
section
variable {w:bQ} {qt:aN}
open Classical in
theorem fY (l:ah α) (inj:∀x y,g x=g y->x=y) (p:α->aN) (f:α->AV) (P:α->Prop) (hz:l.length<=bY) (oN:ok aw)
  (Kc:∀x∈l,iC (oP sc' t (g x)) λbs=>∀H',vm aw H'->AH sc' ifs m (bs++aO) H' (λb aG=>b=p x/\aG=H'/\(b=ai->As sc' elt m (bs++aO) H' (λv aV=>v=f x/\aV=H'/\P x) (λx aV=>aV=H'/\X x aw))) (λx aV=>aV=H'/\X x aw))
  (fin:(∀x∈l,p x=ai->P x)->R ((l.filter p).map f) aw):zX AH As sc' m aO t ifs elt (l.map g) ok aw X R:=by
 have ch:∀x,∀h:∃y,g y=g x,choose h=x:=λx h=>inj _ _ (choose_spec h);have eD:∀{β:Type} (d:β) (k:α->β) x,(if h:∃y,g y=g x then k (choose h) else d)=k x:=λd k x=>by exists dif_pos ⟨x,rfl⟩;rewrite [ch];rfl
 show ⟨by rewrite [bp];show hz,oN,λa=>if h:∃y,g y=a then p (choose h) else au,λa=>if h:∃y,g y=a then f (choose h) else .none,λa=>∀x,g x=a->P x,λa ha=>?_,λk=>?_⟩
 ·show aA (List.mem_map.mp ha) λx hx bC=>?_;rcases bC with rfl
  simp only [eD];have:(∀y,g y=g x->P y)=P x:=propext ⟨λk=>k x rfl,λk y e=>inj _ _ e▸k⟩;show aa this<|(Kc x hx)
 ·have:(((l.map g).filter λa=>if h:∃y,g y=a then p (choose h) else au).map λa=>if h:∃y,g y=a then f (choose h) else .none)=(l.filter p).map f:=by
   show aa LJ<|aa cZ ?_
   have e1:((λa=>if h:∃y,g y=a then p (choose h) else au)∘g)=p:=funext λx=>eD au p x;have e2:((λa=>if h:∃y,g y=a then f (choose h) else AV.none)∘g)=f:=funext λx=>eD AV.none f x;show aa e1<|aa e2 ?_;rfl
  show aa this<|fin λx hx q=>k (g x) (List.mem_map.mpr (ao x hx rfl)) ((eD au p x).trans q) x rfl
theorem ja (l:ah α):l.filter (λJ=>ai)=l:=by simp
theorem Lt.inj (x y:Lt) (h:x.av=y.av):x=y:=by
 have h:=tN (AV.obj.inj h).2.2;have h2:=tN h.2;have h3:=tN h2.2;have h4:=tN h3.2;have h5:=tN h4.2;rcases x with ⟨a,b,c,d,e⟩;rcases y with ⟨a',b',c',d',e'⟩
 rw [show a=a' from AV.int.inj h.1,show b=b' from AV.bytes.inj h2.1,show c=c' from (List.map_inj_right λJ J=>AV.str.inj).mp (AV.tup.inj h3.1),show d=d' from AV.int.inj h4.1,show e=e' from AV.int.inj h5.1]
inductive dE (H:aj) (B dx L:aF) (b:Bx):Prop
 |mk (hb:H B=ae (gE dx L b)) (hl:H L=ae (gM b.lts))
inductive jo (b:Bx):Prop
 |mk (gV:b.lts.length<=50) (gZ:(bT b.lts).Pairwise (λx y=>x < y)) (fl:∀x∈b.lts,(∀t∈x.flags,jP t)/\x.flags.length<=30) (same:∀x∈b.lts,de x.flags=ae x.flags)
noncomputable def h_ (l:ah Lt) (u:aq):aR Lt:=l.find? λx=>x.uid==u
theorem D9 {i:ar} (p:(bT l).Pairwise (λx y=>x < y)) (h:(bT l)[i]?=ae u):∃x,l[i]?=ae x/\h_ l u=ae x:=by
 induction l generalizing i with
 |nil=>show f5 h
 |cons a l ih=>
  induction i using AZ with
  |zero=>show ⟨a,rfl,VN (beq_iff_eq.mpr (bZ (show ae a.uid=ae u from h)))⟩
  |succ i=>
   have p':=p;have:=F5 p' (Fx h);show aA (ih (LK p') h) λx e1 e2=>⟨x,e1,(VO (p:=λx:Lt=>x.uid==u) λe=>F6 this (eq_of_beq e)).trans e2⟩
theorem IE (h:u∉bT l):h_ l u=none:=by
 unfold h_
 rewrite [ajC]
 show λx hx e=>h (List.mem_map.mpr (ao x hx (eq_of_beq e)))
theorem nQ (h:n<=50):n<=90000:=aK h ⋯
theorem cH (h:n<=50):n<=bY:=aK h ⋯
section
variable {H:aj} {B dx L:aF} {b:Bx} {n:ar} {Q:PQ} {X:PX}
theorem Qw (at_:dE H B dx L b) (f:jo b) (h1:∀x,h_ b.lts u=ae x->Q x.av H) (h2:h_ b.lts u=none->Q .none H):bq (cx w ai) (n+2) (.ref 162) [.ref B,.int u] H Q X:=by
 show fn 20 20 ï rfl λK XK hK J J=>?_;intro m;show (bK.mk at_.1 (JF at_.2 (nQ f.1) f.2 (λi e=>?_) λe=>hK (.refl _) (h2 (IE e))));show aA (D9 f.2 e) λx e1 e2=>(bK.mk at_.1 (gG (.inr (ao L rfl at_.2)) rfl ?_ (by exists mi;exists e1;rfl) (hK (.refl _) (h1 x e2))));show e9 (aK (iK (List.getElem?_eq_some_iff.mp e1).1) (nQ f.1))
theorem JM (at_:dE H B dx L b) (gV:b.lts.length<=50) (h:Q (.lst ((bT b.lts).map .int)) H):bq (cx w qt) (n+1) (.ref 167) [.ref B] H Q X:=by
 show fn 20 20 ŀ rfl λK XK hK J J=>?_;intro m;show (bK.mk at_.1 (ao _ at_.2 (fY b.lts Lt.inj (λJ=>ai) (λx=> .int x.uid) (λJ=>cL) (cH gV) at_.2 (λx J H' J=>(aP rfl rfl (λJ=>(aP rfl rfl trivial)))) λJ=>hK (.refl _) ?_)))
 rewrite [ja]
 unfold bT at h;rw [cZ] at h;show h
noncomputable def Lt.told (x:Lt):AV:= .tup x.vs
noncomputable def Bx.told (b:Bx):AV:= .tup [.str b.name,.int b.val,.int b.nu,.int b.top,.int b.floor,.tup (b.lts.map Lt.told),.tup (jV b.gone)]
theorem ö (at_:dE H B dx L b) (gV:b.lts.length<=50) (fg:b.gone.length<=1000) (h:Q b.told H):bq (cx w qt) (n+2) (.ref 172) [.ref B] H Q X:=by
 show fn 20 20 Zz rfl λK XK hK J J=>?_;intro m;show (bK.mk at_.1 (ao _ at_.2 (fY b.lts Lt.inj (λJ=>ai) Lt.told (λJ=>cL) (cH gV) at_.2 (λx J H' J=>(aP rfl rfl (λJ=>aa0 x (aP rfl rfl trivial)))) λJ=>?_)))
 rewrite [ja]
 show kH (.inl rfl) (by simpa using cH gV) (ao _ at_.1 (ao _ at_.1 (ao _ at_.1 (ao _ at_.1 (ao _ at_.1 (ao _ at_.1 (kH (.inl rfl) (by rewrite [jV,bp];show mC (aK fg ⋯)) (hK (.refl _) h))))))))
end
end
section
variable {w:bQ} {qt:aN}
noncomputable def dJ (H:aj) (B dx L:aF) (b:Bx):aj:=(H.set B (gE dx L b)).set L (gM b.lts)
section
variable {H:aj} {B dx L:aF} {b b':Bx} {n:ar} {Q:PQ} {X:PX}
theorem dE.ne (a:dE H B dx L b):B≠L:=λe=>by
 have:=a.2;rw [<-e,a.1] at this;injection this with ct;injection ct
theorem dE.up (n:B≠L):dE (dJ H B dx L b) B dx L b:=⟨aY n (aj.aW ..),aj.aW ..⟩
theorem v7 (h:H a=ae o):H.set a o=H:=funext λx=>by
 unfold aj.set;split
 ·rename_i e;exists e;show h.symm
 ·rfl
theorem RF (a:dE H B dx L b):dJ H B dx L b=H:=by
 unfold dJ;exists v7 a.1;exists v7 a.2;rfl
theorem QT (a:dE H B dx L b) (e:b'.lts=b.lts):dJ H B dx L b'=H.set B (gE dx L b'):=by
 unfold dJ;rewrite [v7];rfl;exists e;show aY (bI a.ne) a.2
noncomputable def lS (b:Bx):Bx:={b with top:=b.top+1}
theorem G7 (a:dE H B dx L b) (h:Q (.int (b.top+1)) (dJ H B dx L (lS b))):bq (cx w qt) (n+1) (.ref 198) [.ref B] H Q X:=by
 have h:Q (.int (b.top+1)) (H.set B (gE dx L (lS b))):=QT (b':=lS b) a rfl▸h;show fn 20 20 abW rfl λK XK hK J J=>?_;intro m;show (ao _ a.1 (ao _ a.1 (ao _ (aj.aW ..) (hK (.refl _) h))))
noncomputable def jU (b:Bx) (oct:ah b_) (fl:ah ak) (inst:aq):Bx:={b with nu:=b.nu+1,top:=b.top+1,lts:=b.lts++[⟨b.nu,oct,fl,inst,b.top+1⟩]}
theorem NJ {oct:ah b_} {l:ah ak} {inst:aq} (a:dE H B dx L b) (hz:∀t∈l,jP t) (hn:l.length<=60) (f:b.lts.length<=90000)
  (h1:∀fl,de l=ae fl->Q (Lt.mk b.nu oct fl inst (b.top+1)).av (dJ H B dx L (jU b oct fl inst))) (h2:de l=none->∀x i,X ⟨76,.str x,.int i⟩ H):
  bq (cx w ai) (n+5) (.ref 205) [.ref B,.bytes oct,eF l,.int inst] H Q X:=by
 show fn 20 20 afy rfl λK XK hK J hX=>?_;intro m;show xS hz hn (λfl e=>?_) λe x i=>hX (.refl _) (h2 e x i);show (ao _ a.1 (G7 a (IQ ⟨b.nu,oct,fl,inst,b.top+1⟩ ?_)));have a':dE (dJ H B dx L (lS b)) B dx L (lS b):= .up a.ne;show (ao _ a'.1 (ao _ a'.1 (ao _ (aj.aW ..) (ao _ (aY (bI a.ne) a'.2) (vh (aY (bI a.ne) a'.2) (by rewrite [bp];exists fH;show aK f ⋯) (hK (.refl _) ?_))))));have e2:∀o l',((dJ H B dx L (lS b)).set B o).set L l'=(H.set B o).set L l':=λo l'=>by unfold dJ;exists rT _ _ _ (bI a.ne);rewrite [cV,cV];rfl
 have h:=h1 fl e;unfold dJ at h
 rewrite [e2]
 have e3:cW.list ((lS b).lts.map Lt.av++[Lt.av ⟨b.nu,oct,fl,inst,b.top+1⟩])=gM (jU b oct fl inst).lts:=by unfold gM jU lS;exists dz;rfl
 rw [<-e3] at h;show h
end
end
section
variable {w:bQ} {qt:aN}
section
variable {H:aj} {B dx L:aF} {b b':Bx} {n:ar} {Q:PQ} {X:PX}
noncomputable def putL (l:ah Lt) (u:aq) (x:Lt):ah Lt:=l.map λy=>if y.uid==u then x else y
theorem Tx {u:aq} {x:Lt} {l:ah Lt} (h:∀y∈l,y.uid≠u):putL l u x=l:=by
 induction l with
 |nil=>rfl
 |cons a l ih=>show (bD (λy=>y::putL l u x) (bo λe=>h a (.head _) (eq_of_beq e))).trans (bD _ (ih λy hy=>h y (.tail _ hy)))
theorem afU {u:aq} {x:Lt} {l:ah Lt} {i:ar} (p:(bT l).Pairwise (λx y=>x < y)) (h:(bT l)[i]?=ae u):l.set i x=putL l u x:=by
 induction l generalizing i with
 |nil=>show f5 h
 |cons a l ih=>
  have p':(a.uid::bT l).Pairwise (λx y=>x < y):=p;show (?_:_=(if (a.uid==u)=ai then x else a)::putL l u x);induction i using AZ with
  |zero=>
   have h:a.uid=u:=bZ h;show aa (bN (beq_iff_eq.mpr h)) (bD _ (Tx λy hy e=>F6 (F5 p' (yk hy)) (h.trans e.symm)).symm)
  |succ i=>
   have h:(bT l)[i]?=ae u:=h;show aa (bo λe=>F6 (F5 p' (Fx h)) (eq_of_beq e)) (bD _ (ih (LK p') h))
noncomputable def kR (b:Bx) (u:aq) (x:Lt) (fl:ah ak):Bx:={b with top:=b.top+1,lts:=putL b.lts u ⟨u,x.oct,fl,x.inst,b.top+1⟩}
theorem SW {u:aq} {l:ah ak} (a:dE H B dx L b) (f:jo b) (hz:∀t∈l,jP t) (hn:l.length<=60)
  (h0:(de l=none\/h_ b.lts u=none)->∀x i,X ⟨76,.str x,.int i⟩ H)
  (h1:∀fl x,de l=ae fl->h_ b.lts u=ae x->(x.flags==fl)=ai->Q (.bool au) H)
  (h2:∀fl x,de l=ae fl->h_ b.lts u=ae x->(x.flags==fl)=au->Q (.bool ai) (dJ H B dx L (kR b u x fl))):
  bq (cx w ai) (n+5) (.ref 212) [.ref B,.int u,eF l] H Q X:=by
 show fn 20 20 ags rfl λK XK hK J hX=>?_;intro m;show xS hz hn (λfl e=>?_) λe x i=>hX (.refl _) (h0 (.inl e) x i);show (bK.mk a.1 (JF a.2 (nQ f.1) f.2 (λi e1=>?_) λe1=>hX (.refl _) (h0 (.inr (IE e1)) _ _)));show aA (D9 f.2 e1) λx e2 e3=>?_;have hi:=(List.getElem?_eq_some_iff.mp e2).1;have Sv:=e9 (aK (iK hi) (nQ f.1));show (bK.mk a.1 (gG (av:=x.av) (.inr (ao L rfl a.2)) rfl Sv (by exists mi;exists e2;rfl) (Mz (cK.Ou (d:=0)) ⋯ (br (λq=>hK (.refl _) (h1 fl x e e3 q)) λq=>?_))));show G7 a (IQ ⟨u,x.oct,fl,x.inst,b.top+1⟩ ?_);have a':dE (dJ H B dx L (lS b)) B dx L (lS b):= .up a.ne;show (bK.mk a'.1 (CJ a'.2 (by rewrite [bp];show hi) Sv (hK (.refl _) ?_)));have h:=h2 fl x e e3 q;unfold dJ at h ⊢
 rewrite [cV]
 have e4:cW.list (((lS b).lts.map Lt.av).set i (Lt.av ⟨u,x.oct,fl,x.inst,b.top+1⟩))=gM (kR b u x fl).lts:=by
  show (?_:_=gM (putL b.lts u _));exists (afU f.2 e1).symm;exists List.map_set.symm;rfl
 rw [<-e4] at h;show h
end
end
section
variable {w:bQ} {qt:aN}
def gX (l:ah ak):Prop:=(∀t∈l,jP t)/\l.length<=30
theorem Ds {α:Type} {c:Prop} [vp c] {a b:aR α} {f:α} (h:(if c then a else b)=ae f):(c/\a=ae f)\/(¬c/\b=ae f):=
 (ajD c).imp (λq=>⟨q,(bN q).symm.trans h⟩) λq=>⟨q,(bo q).symm.trans h⟩
theorem ac2 {t f:ak} {l:ah ak} (h:uf t l=ae f):f∈l\/f=t:=by
 induction l with
 |nil=>show (Ds h).elim (λz=> .inr (bZ z.2).symm) λz=>f5 z.2
 |cons s r ih=>show (Ds h).elim (λz=> .inl (bZ z.2▸.head _)) λz=>(ih z.2).imp (.tail _) id
theorem DO {acc:ah ak} {f s:ak} (h:s∈if acc.contains f then acc else acc++[f]):s∈acc\/s=f:=by
 by_cases q:acc.contains f=ai
 ·rw [bN q] at h;show .inl h
 ·rw [bo q] at h;show (List.mem_append.mp h).imp id List.mem_singleton.mp
theorem WG {acc:ah ak} {f:ak}:(if acc.contains f then acc else acc++[f]).length<=acc.length+1:=by
 by_cases q:acc.contains f=ai
 ·show aa (bN q) (kX _)
 ·show aa (bo q) (iL cb)
theorem Í {t f:ak} (h:i6 t=ae f) (k:jP t):jP f:=(ac2 h).elim (Ob f) λe=>e▸k
theorem acC {l acc fl:ah ak} (h:lM l acc=ae fl) (k:∀t∈l,jP t) (k2:∀t∈acc,jP t):(∀t∈fl,jP t)/\fl.length<=acc.length+l.length:=by
 induction l generalizing acc with
 |nil=>show bZ h▸⟨k2,eY _⟩
 |cons t r ih=>
  show aA (Option.bind_eq_some_iff.mp h) λf hf h=>aM (ih h (λt ht=>k t (.tail _ ht)) λs hs=>(DO hs).elim (k2 s) λe=>e▸Í hf (k _ (.head _))) λa b=>⟨a,aK b ?_⟩;show aK (tO WG _) (iL (yi ..))
theorem IW {l fl:ah ak} (h:de l=ae fl) (k:gX l):gX fl:=by
 unfold de at h;cases hg:lM l [] with
 |none=>rw [hg] at h;show f5 h
 |some acc=>
  rw [hg] at h;injection h with fD;subst fD
  have:=acC hg k.1 (by simp);show ⟨λt ht=>this.1 t ((ke _ acc).mem_iff.mp ht),?_⟩
  rewrite [iq,qk];show aK this.2 (by simpa using k.2)
noncomputable def ny (old:ah ak) (way:ak) (l:ah ak):aR (ah ak):=(de l).bind λnames=>
 if way==("+":ak) then de (old++names) else if way==("-":ak) then ae (old.filter λt=> !names.contains t) else if way==("=":ak) then ae names else none
section
variable {H:aj} {n:ar} {Q:PQ} {X:PX}
theorem EL (x y:ak) (h:AV.str x=AV.str y):x=y:=by cases (h);rfl
theorem ć (hz:∀t∈l++l',jP t) (hn:(l++l').length<=60):PO w ai 4 106 [.tup (l.map .str++l'.map .str)] 76 eF (de (l++l')):=by
 have e:AV.tup (l.map .str++l'.map .str)=eF (l++l'):=by unfold eF;exists dz;rfl
 exists e;show λ{n H Q X}=>xS hz hn
theorem Gu (h:de l=ae names) (q:(way==("+":ak))=ai):ny old way l=de (old++names):=by unfold ny;exists h;show bN q
theorem PV (h:de l=ae names) (q:(way==("+":ak))=au) (q2:(way==("-":ak))=ai):ny old way l=ae (old.filter λt=> !names.contains t):=by
 unfold ny;exists h;show (bo (by exists q;decide)).trans (bN q2)
theorem HV (h:de l=ae names) (q:(way==("+":ak))=au) (q2:(way==("-":ak))=au):ny old way l=if way==("=":ak) then ae names else none:=by
 unfold ny;exists h;show (bo (by exists q;decide)).trans (bo (by exists q2;decide))
theorem abl {x:Lt} {way:ak} {l:ah ak} (k:gX x.flags) (k2:gX l) (h1:∀fl,ny x.flags way l=ae fl->Q (eF fl) H) (h2:ny x.flags way l=none->∀x i,X ⟨76,.str x,.int i⟩ H):
  bq (cx w ai) (n+5) (.ref 217) [x.av,.str way,eF l] H Q X:=by
 show fn 20 20 ab7 rfl λK XK hK J hX=>?_;intro m;show xS k2.1 (aK k2.2 ⋯) (λfl e=>?_) λe x i=>hX (.refl _) (h2 (by unfold ny;exists e;rfl) x i);show br (λq=>?_) λq=>br (λq2=>?_) λq2=>br (λq3=>?_) λq3=>?_
 ·show ⟨?_,ć (λt ht=>?_) ?_ (λv e2=>hK (.refl _) (h1 v ((Gu e q).trans e2))) λe2 x i=>hX (.refl _) (h2 ((Gu e q).trans e2) x i)⟩
  ·rewrite [bp,bp];show mC (aK (tP k.2 (IW e k2).2) ⋯)
  ·show (List.mem_append.mp ht).elim (k.1 t) ((IW e k2).1 t)
  ·exists cb;show tP k.2 (IW e k2).2
 ·show fY x.flags EL (λt=> !fl.contains t) .str (λJ=>cL) (cH (aK k.2 ⋯)) ?_ ?_ ?_
  ·trivial
  ·show λt J H' J=>Pq (aP rfl rfl (λJ=>(aP rfl rfl trivial)))
  show λJ=>kH (.inl rfl) ?_ (hK (.refl _) (h1 _ (PV e q q2)))
  rewrite [bp];show cH (aK (aK (lI ..) k.2) ⋯)
 ·show hK (.refl _) (h1 fl ((HV e q q2).trans (bN q3)))
 ·show hX (.refl _) (h2 ((HV e q q2).trans (bo (by exists q3;decide))) _ _)
end
end
section
variable {w:bQ} {qt:aN}
theorem Wi (e:a= .tup l\/a= .lst l) (c8:m.c.qt=ai) (h:k l λJ=>cL):Di m a H k:=by
 rcases e with rfl|rfl
 ·show (?_:eI m.c.qt _);exists c8;show h
 ·show h
theorem afC (e:a= .tup l\/a= .lst l) (c8:m.c.qt=ai) (h:tp m sc t bd (λJ=>cL) Q l ρ H):Di m a H (λitems ok=>tp m sc t bd ok Q items ρ H):=Wi e c8 h
theorem EN (ok:VK.Ok vk m.c) (f:ar) (iN:mr sc scope=ai) (c8:(xf t||m.c.qt)=ai) (hn:sh it=ai)
  (h:vI vk f sc it m ρ H (λitems ok aw=>zX (wA vk f) (vE vk f) (gY scope sc) m (ip (gY scope sc) ρ) t ifs elt items ok aw X (λl aG=>∀D,aG D=none->vE vk f sc o m ρ (aG.set D (.list l)) (λb aV=>wY vk b at_ (.ref D) aV λfE=>Q .next ρ fE) X)) X):
  cP m.c m.n sc (.Assign [.Attribute o at_ q] (.ListComp elt [⟨t,it,ifs,0⟩] scope p) pos) ρ H Q (λx J H'=>X x H'):=
 Sg (JO iN (yI c8) (((g_ ok f).2 h).post λitems CZ aw h=>HL (g_ ok f) h λl q D hD=>((g_ ok f).1 (q D hD)).post λb aG h=>yW ok h) (uQ hn)) λenv=>rfl
end
section
variable {w:bQ} {qt:aN}
section
variable {K:Type} [ji K]
noncomputable def dh (ks:ah K):ah (K×AV):=ks.map λk=>(k,.bool ai)
noncomputable def h9 (ks:ah K) (k:K):ah K:=if k∈ks then ks else ks++[k]
noncomputable def cM (l:ah K):ah K:=l.foldl h9 []
theorem v9 {ks:ah K}:(dh ks).map (λx=>x.1)=ks:=by unfold dh;exists cZ;show Bo _
theorem qd:(dh ks).length=ks.length:=by unfold dh;rewrite [bp];rfl
theorem RP {ks:ah K} {k:K}:(dh ks).any (λp=>decide (p.1=k))=decide (k∈ks):=by
 rewrite [pM,FO];exists vY
 constructor
 ·rintro ⟨p,hp,e⟩;show aA (List.mem_map.mp hp) λx hx bC=>?_;rcases bC with rfl
  exists (fi e).symm;show hx
 ·show λh=>(ao (k,.bool ai) (List.mem_map.mpr (ao k h rfl)) (lJ rfl))
theorem BQ {ks:ah K} {k:K}:jh (dh ks) k (.bool ai)=dh (h9 ks k):=by
 unfold jh h9;exists RP;by_cases h:k∈ks
 ·exists bN (lJ h);exists bN h;unfold dh;exists cZ;show r_ λx J=>?_;show (?_:(if x=k then (x,AV.bool ai) else (x,AV.bool ai))=_);split <;> rfl
 ·exists bo (by simpa using h);exists bo h;unfold dh;exists dz;rfl
theorem zS {ks:ah K} {k:K}:(iO (dh ks) k).isSome=decide (k∈ks):=by
 unfold iO;exists Ly;exists RP.symm;rewrite [pM,VP,FO];rfl
theorem JE {ks:ah K} {k:K} (h:ks.Nodup):(h9 ks k).Nodup:=by
 unfold h9;split
 ·show h
 ·rename_i q
  rewrite [tZ]
  show (aP h (by simp) (λa ha b hb=>by exists List.mem_singleton.mp hb;rintro rfl;show q ha))
theorem MY {ks:ah K} {k x:K}:x∈h9 ks k↔x∈ks\/x=k:=by
 unfold h9;split
 ·rename_i q;show ⟨.inl,λh=>h.elim id λe=>e▸q⟩
 ·rewrite [ajE,VG];rfl
theorem GV {ks:ah K} {k:K}:(h9 ks k).length<=ks.length+1:=by
 unfold h9;split
 ·show kX _
 ·exists cb;show eY _
theorem OE {l:ah K}:∀{ks:ah K},ks.Nodup->(l.foldl h9 ks).Nodup/\(∀x,x∈l.foldl h9 ks↔x∈ks\/x∈l)/\(l.foldl h9 ks).length<=ks.length+l.length:=by
 induction l with
 |nil=>show λh=>(aP h (λx=>by simp) (eY _))
 |cons a l ih=>
  intro ks h;show fP (ih (JE (k:=a) h)) λh1 h2 h3=>(aP h1 (λx=>?_) (aK h3 ?_))
  ·exists yB;rewrite [h2,MY,yq,or_assoc];rfl
  ·have:=GV (ks:=ks) (k:=a);simp only [cY];lia
theorem YM (l:ah K):(cM l).Nodup:=(OE .nil).1
theorem pS (l:ah K):(cM l).length<=l.length:=by
 have:=(OE (l:=l) .nil).2.2;simpa [cM] using this
end
end
section
variable {w:bQ} {qt:aN}
noncomputable def lk (b:Bx) (us:ah aq):ah aq:=(bT b.lts).filter λu=>decide (u∈us)
noncomputable def j8 (b:Bx) (us:ah aq):Bx:={b with top:=b.top+1,lts:=b.lts.filter (λl=> !decide (l.uid∈us)),gone:=b.gone++(lk b us).map λu=>(u,b.top+1)}
section
variable {H:aj} {B dx L:aF} {b b':Bx} {n:ar} {Q:PQ} {X:PX}
theorem rL (x y:aq) (h:AV.int x=AV.int y):x=y:=by cases (h);rfl
theorem l6:uJ (cx w qt).K=ai:=by ext
theorem Zl {us r ks:ah aq} {u:aq} (p:ks.Nodup/\ks.length+(u::r).length<=50/\∀x,x∈us↔x∈ks\/x∈u::r):(h9 ks u).Nodup/\(h9 ks u).length+r.length<=50/\∀x,x∈us↔x∈h9 ks u\/x∈r:=
 (aP (JE p.1) (by have:=GV (ks:=ks) (k:=u);have:=p.2.1;simp only [cY] at this;lia) (λx=>by rewrite [p.2.2 x,MY,yq,or_assoc];rfl))
theorem OH (f:jo b):(lk b us).length<=50:=aK (lI ..) (by rewrite [bT,bp];show f.1)
theorem acK {g:ah (aq×aq)} {l:ah aq} {k:aq->AV} (hg:g.length<=1000) (ht:l.length<=50):(jV g).length+((l.filter λJ=>ai).map k).length<=bY:=by
 rewrite [jV,bp,bp,ja];exists fH;lia
theorem Kg {X Y:aj} {D:aF} {o:cW} (e:Y=X.set D o) (hD:X D=none) (ho:o≠.priv):Sub X Y:=e▸uN hD ho
theorem τ (n1:D≠B) (n2:D≠L) (n3:L≠L') (n4:B≠L') (n5:D≠L') (hl:H L=ae l0) (e1:l1=l1') (e2:o2=o2'):
  (((((H.set D d).set B o0).set L l0).set L' l1).set B o1).set B o2=((H.set B o2').set L' l1').set D d:=funext λx=>by
 subst e1 e2;by_cases x1:x=B
 ·exists x1;simp [aj.set,n4,bI n1]
 ·by_cases x2:x=L'
  ·subst x2;simp [aj.set,x1,bI n5]
  ·by_cases x3:x=D
   ·subst x3;simp [aj.set,x1,x2,n2]
   ·by_cases x4:x=L
    ·subst x4;simp [aj.set,x1,x2,x3,hl]
    ·simp [aj.set,x1,x2,x3,x4]
theorem ad6:cW.inst 175 dx G3 [.str b.name,.int b.val,.int b.nu,.int (b.top+1),.int b.floor,.ref L',.lst (jV b.gone++((lk b us).filter λJ=>ai).map λu=> .tup [.int u,.int (b.top+1)])]=gE dx L' (j8 b us):=by
 rewrite [ja]
 have:jV b.gone++(lk b us).map (λu=> .tup [.int u,.int (b.top+1)])=jV (j8 b us).gone:=by
  unfold j8 jV;exists dz;exists cZ;rfl
 exists this;rfl
theorem RC {ua:AV} {us:ah aq} (hu:ua= .tup (us.map .int)\/ua= .lst (us.map .int)) (a:dE H B dx L b) (f:jo b) (hn:us.length<=50) (hg:b.gone.length<=1000)
  (h1:lk b us=[]->Q (.lst []) H) (h2:lk b us≠[]->∀L',H L'=none->Q (.lst ((lk b us).map .int)) ((H.set B (gE dx L' (j8 b us))).set L' (gM (j8 b us).lts))):
  bq (cx w ai) (n+2) (.ref 222) [.ref B,ua] H Q X:=by
 show fn 20 20 aao rfl λK XK hK J J=>?_;intro m D hD;have ht:=OH (us:=us) f;have nB:=bU a.1 hD;have nL:=bU a.2 hD;show afC hu rfl<|jX AV.int (λ_:ah aq=>(DM "wanted" "uids" "box" (.ref D) ua (.ref B))) (λks=>H.set D (cj (fy m.c) (dh ks))) (λr ks=>ks.Nodup/\ks.length+r.length<=50/\∀x,x∈us↔x∈ks\/x∈r) (λks p=>?_) (λu r ks p K' dU hr=>?_) us [] (aP .nil (by simpa using hn) (λx=>by simp))
 ·have hx:∀x,decide (x∈ks)=decide (x∈us):=λx=>decide_eq_decide.mpr (by rewrite [p.2.2 x];simp);have a':dE (H.set D (cj (fy m.c) (dh ks))) B dx L b:=⟨aY nB a.1,aY nL a.2⟩;show (bK.mk a'.1 (JM a' f.1 ?_));show fY (bT b.lts) rL (λx=>decide (x∈us)) .int (λJ=>cL) (by rewrite [bT,bp];show cH f.1) trivial ?_ ?_
  ·show λx J H' hH=>DE l6 (hH _ _ (aj.aW ..)) (aa v9 p.1) (aP (zS.trans (hx x)) rfl (λJ=>(aP rfl rfl trivial)))
  ·show λJ=>ķ (.inl rfl) (.inl rfl) (cK.G8 (d:=0)) ⋯ (br (λq=>?_) λq=>?_)
   ·show hK (nM hD (by simp [cj])) (h1 (by simpa [lk] using q))
   ·show G7 (n:=n) a'<|EN fO 20 rfl rfl rfl ?_
    have a2:dE (dJ (H.set D (cj (fy m.c) (dh ks))) B dx L (lS b)) B dx L (lS b):= .up a.ne;have aD:(dJ (H.set D (cj (fy m.c) (dh ks))) B dx L (lS b)) D=ae (cj (fy m.c) (dh ks)):=aY (bI nL) (aY (bI nB) (aj.aW ..));show (bK.mk a2.1 (ao _ a2.2 (fY b.lts Lt.inj (λx=> !decide (x.uid∈us)) Lt.av (λJ=>cL) (cH f.1) a2.2 ?_ ?_)))
    ·show λx J H' hH=>HF (Y:=fy m.c) (k:=x.uid) l6 (hH _ _ aD) (aa v9 p.1) (aP (bD (λx=> !x) (zS.trans (hx x.uid))) rfl (λJ=>(aP rfl rfl trivial)))
    ·intro J L' qc;have Nx:=bU a2.1 qc;show (bK.mk (aY Nx a2.1) ?_);show (bK.mk (aj.aW ..) ?_);show fY (lk b us) rL (λJ=>ai) (λu=> .tup [.int u,.int (b.top+1)]) (λJ=>cL) (cH ht) trivial (λx J H' J=>(aP rfl rfl (λJ=>(aP rfl rfl trivial)))) λJ=>O2 (.inl rfl) (.inl rfl) (acK hg ht)<|(bK.mk (aj.aW ..) ?_)
     show hK (H'':=(H.set B (gE dx L' (j8 b us))).set L' (gM (j8 b us).lts)) ?_ (h2 (λe=>by unfold lk at e;rw [e] at q;injection q) L' ?_)
     ·show Kg (D:=D) (o:=cj (fy m.c) (dh ks)) (τ (bI nB) (bI nL) ((cw qc).2) Nx (cw (cw (cw qc).1).1).2 a.2 rfl (ad6 (b:=b))) (aY (cw (cw (cw qc).1).1).2 (aY (bI nB) hD)) (by simp [cj])
     ·show (cw (cw (cw qc).1).1).1
 ·have hs:(H.set D (cj (fy m.c) (dh ks))).set D (cj (fy m.c) (jh (dh ks) u (.bool ai)))=H.set D (cj (fy m.c) (dh (h9 ks u))):=by rewrite [cV];exists BQ;rfl
  show uW (Y:=fy m.c) (k:=u) (aj.aW ..) (aa v9 p.1) (aa qd (cH (aK (eC _ _) p.2.1))) (hs▸dU (h9 ks u) _ (Zl p) trivial (iT rfl rfl rfl trivial))
end
end
section
variable {w:bQ} {qt:aN}
theorem bq.Tv (h:bq c n g args H (λa H'=>∃D aG l,a= .ref D/\H'=aG.set D (.list l)/\aG D=none/\Q (.lst l) aG) X):bq c n g args H Q X:=
 h.mono (λa H' x'=>gU x' λD aG l e1 e2 e3 q=>(ew (.lst l) aG (by subst e1 e2;show Fg.Eb e3) q)) λJ J z=>z
theorem gm.set (h:gm H a l) (hD:H D=none):gm (H.set D o) a l:=h.imp id λx'=>aA x' λx e g=>(ao x e (aY (bU g hD) g))
noncomputable def EM:aR Lt->AV
 |some x=>x.av
 |none=> .none
noncomputable def gp (g:Bx) (xs:ah Lt):Bx:=xs.foldl (λg x=>jU g x.oct x.flags x.inst) g
noncomputable def ij:ah Lt->aq->ah (aq×aq)
 |[],_=>[]
 |x::r,k=>(x.uid,k)::ij r (k+1)
noncomputable def nX (l:ah (aq×aq)):ah AV:=l.map λp=> .tup [.int p.1,.int p.2]
noncomputable def dA (b:Bx) (us:ah aq):ah Lt:=(sortI us).filterMap (h_ b.lts)
theorem T_ (n0:B≠L) (n1:D≠B) (n2:D≠L):dJ ((dJ H B dx L b).set D o) B dx L b'=(dJ H B dx L b').set D o:=by
 unfold dJ;exists rT _ _ _ n1;exists rT _ _ _ n2;exists rT (H.set B _) _ _ (bI n0);rewrite [cV,cV];rfl
theorem uX (h:h_ l u=ae x):x∈l:=ajF h
inductive uD (b g:Bx) (ch:ah Lt) (r:ah (aR Lt)) (s:Bx×ah (aq×aq)):Prop
 |mk (a:gp s.1 (r.filterMap id)=gp g ch) (p:s.2++ij (r.filterMap id) s.1.nu=ij ch g.nu) (i:∀x,ae x∈r->x∈b.lts) (l:s.1.lts.length+r.length<=2000) (k:s.2.length+r.length<=50)
theorem uD.skip {r:ah (aR Lt)} {s:Bx×ah (aq×aq)} (h:uD b g ch (none::r) s):uD b g ch r s:=
 ⟨h.1,h.2,λx hx=>h.3 x (.tail _ hx),aK (iJ (kX _) _) h.4,aK (iJ (kX _) _) h.5⟩
theorem uD.go {r:ah (aR Lt)} {s:Bx×ah (aq×aq)} (h:uD b g ch (ae x::r) s):uD b g ch r (jU s.1 x.oct x.flags x.inst,s.2++[(x.uid,s.1.nu)]):=by
 show ⟨h.1,?_,λx hx=>h.3 x (.tail _ hx),?_,?_⟩
 ·rewrite [gh];show h.2
 ·have:=h.4;simp only [jU,cb,cY,jL] at this ⊢;lia
 ·have:=h.5;simp only [cb,cY,jL] at this ⊢;lia
section
variable {H:aj} {B dx L G o8 LG:aF} {b g:Bx} {n:ar} {Q:PQ} {X:PX}
theorem Oz (hu:gm H ua (us.map .int)) (a:dE H B dx L b) (f:jo b) (a2:dE H G o8 LG g) (hn:us.length<=50) (hg:g.lts.length<=1000)
  (h:Q (.lst (nX (ij (dA b us) g.nu))) (dJ H G o8 LG (gp g (dA b us)))):
  bq (cx w ai) (n+6) (.ref 227) [.ref B,ua,.ref G] H Q X:=by
 show bq.Tv (fn 20 20 Ye rfl λK XK hK J hX=>?_);intro m D hD;have a':dE (H.set D (.list [])) B dx L b:=⟨aY (bU a.1 hD) a.1,aY (bU a.2 hD) a.2⟩;have hs:(sortI us).length=us.length:=qk _;show Ei (hu.set hD) (iw hn ⋯)<|fY (sortI us) rL (λJ=>ai) (λu=>EM (h_ b.lts u)) (λJ=>cL) (cH (hs▸hn)) trivial ?_ ?_
 ·show λu J H' hH=>(aP rfl rfl (λJ=>(bK.mk (hH _ _ a'.1) (Qw ⟨hH _ _ a'.1,hH _ _ a'.2⟩ f (λx e=>(aP (by exists e;rfl) rfl trivial)) λe=>(aP (by exists e;rfl) rfl trivial)))))
 ·show λJ=>?_;have e1:((sortI us).filter λJ=>ai).map (λu=>EM (h_ b.lts u))=((sortI us).map (h_ b.lts)).map EM:=by rewrite [ja];exists cZ;rfl
  show (e1).symm▸?_;have eH:H.set D (.list [])=(dJ H G o8 LG g).set D (.list (nX [])):=by exists RF a2;rfl
  exists eH;show jX EM (λ_:Bx×ah (aq×aq)=>(vb "pairs" "goal" "uids" "box" (.ref D) (.ref G) ua (.ref B))) (λs=>(dJ H G o8 LG s.1).set D (.list (nX s.2))) (uD b g (dA b us)) (λs p=>?_) (λx r s p K' dU hr=>?_) _ (g,[]) ⟨?_,?_,?_,?_,?_⟩
  ·have e2:s.1=gp g (dA b us):=p.1;have e3:s.2=ij (dA b us) g.nu:=(fW _).symm.trans p.2;exists e2;exists e3;show hK (.refl _) (i5 D _ _ rfl rfl (aY (bI (bU a2.2 hD)) (aY (bI (bU a2.1 hD)) hD)) h)
  ·induction x using eL with
   |none=>show dU s _ p.skip trivial (f9 rfl rfl rfl rfl trivial)
   |some x=>
    have hx:=p.3 x (.head _);have ag:dE ((dJ H G o8 LG s.1).set D (.list (nX s.2))) G o8 LG s.1:=⟨aY (bU a2.1 hD) (dE.up a2.ne).1,aY (bU a2.2 hD) (dE.up a2.ne).2⟩;show NJ ag (f.3 x hx).1 (aK (f.3 x hx).2 ⋯) (aK (aK (eC _ _) p.4) ⋯) (λfl e=>?_) λe=>?_
    ·rw [f.4 x hx] at e;injection e with ct;subst ct
     exists T_ a2.ne (bI (bU a2.1 hD)) (bI (bU a2.2 hD));show (bK.mk (aj.aW ..) (vh (aj.aW ..) ?_ ?_))
     ·rewrite [nX,bp];show cH (aK (eC _ _) p.5)
     ·have e4:∀o,(((dJ H G o8 LG (jU s.1 x.oct x.flags x.inst)).set D o).set D (.list (nX s.2++[.tup [.int x.uid,.int s.1.nu]])))=(dJ H G o8 LG (jU s.1 x.oct x.flags x.inst)).set D (.list (nX (s.2++[(x.uid,s.1.nu)]))):=λo=>by
       rewrite [cV];unfold nX;exists dz;rfl
      show e4 _▸dU _ _ p.go trivial (f9 rfl rfl rfl rfl trivial)
    ·injection (f.4 x hx).symm.trans e
  ·exists Lm;rfl
  ·exists Lm;rfl
  ·intro x hx;show aA (List.mem_map.mp hx) λu J e=>uX e
  ·rewrite [bp];exists hs;show aK (tP hg hn) ⋯
  ·rewrite [bp];exists hs;simpa using hn
end
end
section
variable {w:bQ} {qt:aN}
theorem aaE {K α:Type} [ji K] (f:α->K) (l:ah α) (ks:ah K):l.foldl (λes a=>jh es (f a) (.bool ai)) (dh ks)=dh ((l.map f).foldl h9 ks):=by
 induction l generalizing ks with
 |nil=>rfl
 |cons a l ih=>show aa yB (aa BQ (ih _))
inductive Mw {K:Type} [ji K] {c:Cx} (Y:KY c K) (sc':bA) (m:Cn) (aO:Rh) (f:ar) (x:ak) (p:fU) (kx:bR) (items:ah AV) (ok:aj->Prop) (aw:aj) (X:PX) (R:ah K->aj->Prop):Prop
 |mk (sz:items.length<=bY) (oN:ok aw) (ex:∃(g:AV->K) (P:AV->Prop),(∀a∈items,iC (oP sc' (.Name x p) a) λbs=>∀H',vm aw H'->vE vk f sc' kx m (bs++aO) H' (λv aV=>v=Y.av (g a)/\aV=H'/\P a) (λx aV=>aV=H'/\X x aw))/\
  ((∀a∈items,P a)->R (cM (items.map g)) aw))
theorem BP {K:Type} [ji K] (Y:KY m.c K) (ok:VK.Ok vk m.c) (f:ar) (iN:mr sc scope=ai) (hn:sh it=ai)
  (h:vI vk f sc it m ρ H (λitems ok aw=>Mw Y (gY scope sc) m (ip (gY scope sc) ρ) f x p kx items ok aw X (λks aG=>∀D,aG D=none->Q (.ref D) (aG.set D (cj Y (dh ks))))) X):
  WE m.c m.n sc (.DictComp kx (.Constant (.bool ai) k p2) [⟨.Name x p,it,[],0⟩] scope pos) ρ H Q X:=by
 show á Y iN (.inr (jF _ _ rfl)) (((g_ ok f).2 h).post λitems CZ aw h=>?_) (uQ hn);show d8 h.3 λg P h1 h2=>acQ (f:=g) (g:=λJ=> .bool ai) (P:=P) h.2 items [] .nil (aK (iL (Lz _)) h.1) (λa ha=>?_) λhp=>?_
 ·show aA (kc (h1 a ha)) λbs e h=>(ao bs e (λH' hH=>((g_ ok f).1 (h H' hH)).post λv aV q=>(iT q.1 q.2.1 q.2.2 (OA ⟨rfl,rfl⟩))))
 ·have:=aaE g items [];show λD hD=>this▸h2 hp D hD
theorem Cd {α K:Type} [ji K] {Y:KY c K} {R:ah K->aj->Prop} {e:α->AV} (l:ah α) (d:AV->α) (inj:∀x,d (e x)=x) (g:α->K) (P:α->Prop) (sz:l.length<=bY) (oN:ok aw)
  (Kc:∀a∈l,iC (oP sc' (.Name x p) (e a)) λbs=>∀H',vm aw H'->vE vk f sc' kx m (bs++aO) H' (λv aV=>v=Y.av (g a)/\aV=H'/\P a) (λx aV=>aV=H'/\X x aw))
  (fin:(∀a∈l,P a)->R (cM (l.map g)) aw):Mw Y sc' m aO f x p kx (l.map e) ok aw X R:=by
 show ⟨by rewrite [bp];show sz,oN,λa=>g (d a),λa=>P (d a),λa ha=>?_,λh=>?_⟩
 ·show aA (List.mem_map.mp ha) λy hy bC=>?_;exists bC.symm;simp only [inj];show Kc y hy
 ·have:((l.map e).map λa=>g (d a))=l.map g:=by exists cZ;show r_ λy J=>by show (?_:g (d (e y))=_);rewrite [inj];rfl
  exists this;show fin λa ha=>inj a▸h (e a) (List.mem_map.mpr (ao a ha rfl))
noncomputable def ER:AV->aq
 | .int i=>i
 |_=>0
noncomputable def strOf:AV->ak
 | .str i=>i
 |_=>""
end
section
variable {w:bQ} {qt:aN}
section
variable {H:aj} {B dx L G o8 LG:aF} {b g b':Bx} {n:ar} {Q:PQ} {X:PX}
theorem JW:∀{l:ah Lt} {k:aq},(ij l k).length=l.length
 |[],_=>rfl
 |_::l,k=>bD (λx=>x+1) (JW (l:=l))
theorem z7:(dA b us).length<=us.length:=aK (VQ ..) (iL (qk _))
noncomputable def sx (p:aq×aq):AV:= .tup [.int p.1,.int p.2]
theorem tC (x y:aq×aq) (h:sx x=sx y):x=y:=by
 simp only [sx,AV.tup.injEq,VI,AV.int.injEq,and_true] at h;show VS h.1 h.2
theorem YZ {ua:AV} {us:ah aq} (hu:gm H ua (us.map .int)) (a:dE H B dx L b) (f:jo b) (a2:dE H G o8 LG g) (hn:us.length<=50) (hg:g.lts.length<=1000)
  {ps:ah (aq×aq)} (hp:ps=ij (dA b us) g.nu) {aw:aj} (hH:aw=dJ H G o8 LG (gp g (dA b us))) (a3:dE aw B dx L b') (f3:jo b') (ZI:b'.gone.length<=1000)
  (h1:lk b' (ps.map (λx=>x.1))=[]->Q (.lst (nX ps)) aw) (h2:lk b' (ps.map (λx=>x.1))≠[]->∀L',aw L'=none->Q (.lst (nX ps)) ((aw.set B (gE dx L' (j8 b' (ps.map (λx=>x.1))))).set L' (gM (j8 b' (ps.map (λx=>x.1))).lts))):
  bq (cx w ai) (n+7) (.ref 232) [.ref B,ua,.ref G] H Q X:=by
 subst hp hH;have hl:(ij (dA b us) g.nu).length<=50:=by exists JW;show aK z7 hn
 show fn 20 20 ì rfl λK XK hK J hX=>?_;intro m;show Oz hu a f a2 hn hg<|fY (ij (dA b us) g.nu) tC (λJ=>ai) (λp=> .int p.1) (λJ=>cL) (cH hl) trivial (λx J H' J=>(aP rfl rfl (λJ=>(aP rfl rfl trivial)))) λJ=>?_
 rewrite [ja]
 have e:(ij (dA b us) g.nu).map (λp=>AV.int p.1)=((ij (dA b us) g.nu).map (λx=>x.1)).map .int:=by exists cZ;rfl
 exists e;have Tj:((ij (dA b us) g.nu).map (λx=>x.1)).length<=50:=by rewrite [bp];show hl
 generalize (ij (dA b us) g.nu).map (λx=>x.1)=is at Tj h1 h2;show RC (.inr rfl) a3 f3 Tj ZI ?_ ?_
 ·show λe=>hK (.refl _) (h1 e)
 ·show λe L' hL=>hK (.refl _) (h2 e L' hL)
noncomputable def te (lo hi:aq) (x:aq):aN:=decide (lo<=x) && decide (x < hi)
noncomputable def zd (lo hi:aq) (x:aq):aN:=decide (lo < x) && decide (x<=hi)
noncomputable def tI (lo hi:aq) (x:aq):aN:=decide (lo<=x) && decide (x<=hi)
noncomputable def qO (b:Bx):ah (aq×aq)->aq->aN
 |[],_=>ai
 |p::r,last=>te 1 b.nu p.1 && (!(bT b.lts).contains p.1 && (tI last b.top p.2 && (!decide (p.2<=b.floor) && qO b r p.2)))
noncomputable def nj (b:Bx):aN:=(bT b.lts==sortI (bT b.lts)) && (!(((cM (bT b.lts)).length:aq) !=((bT b.lts).length:aq)) && (((bT b.lts).filter λu=> !te 1 b.nu u).isEmpty &&
 (!(((cM (b.lts.map (λx=>x.ms))).length:aq) !=((b.lts.map (λx=>x.ms)).length:aq)) && (((b.lts.map (λx=>x.ms)).filter λu=> !zd 1 b.top u).isEmpty && (qO b b.gone b.floor && tI 0 b.top b.floor)))))
theorem Hq (x:aq):ER (.int x)=x:=rfl
theorem Qx:(bT b.lts).length=b.lts.length:=bp ..
theorem ř:(b.lts.map (λx=>x.ms)).length=b.lts.length:=bp ..
theorem z9 {K:Type} [ji K] {l:ah K}:((dh (cM l)).map (λx=>x.1)).Nodup:=by exists v9;show YM l
theorem BU {α β:Type} {f:α->β} {l:ah α}:(l.map f).isEmpty=l.isEmpty:=by induction l using c6 <;> rfl
theorem afl (a:dE H B dx L b) (gV:b.lts.length<=50) (fg:b.gone.length<=1000) (h:Q (.bool (nj b)) H):bq (cx w ai) (n+2) (.ref 237) [.ref B] H Q X:=by
 have key:∀r,nj b=r->Q (.bool r) H:=λr e=>e▸h;generalize hr:nj b=r0 at h;have fu:(bT b.lts).length<=50:=Qx▸gV;have fm:(b.lts.map (λx=>x.ms)).length<=50:=ř▸gV;show fn 30 30 WO rfl λK XK hK J hX=>?_;intro m;show (bK.mk a.1 (JM a gV ?_));show Ei (.inl rfl) (iw fu ⋯) (CS (.inl rfl) (.inl rfl) (cK.adX (d:=0)) ⋯ (br (λq=>?_) λq=>?_))
 ·show hK (.refl _) (key _ (dq (jD q)))
 have q1:=iB q;show BP (fy m.c) fO 30 rfl rfl (Cd (bT b.lts) ER Hq id (λJ=>cL) (cH fu) trivial (λu J H' J=>(aP rfl rfl trivial)) λJ D1 wC=>?_)
 rewrite [Bo]
 show Hu l6 (aj.aW ..) z9 ?_ (rr (.inl rfl) ?_ ?_)
 ·exists qd;show e9 (aK (pS _) (nQ fu))
 ·rewrite [bp];show e9 (nQ fu)
 exists qd;rewrite [bp];have F1:=nM (o:=cj (fy m.c) (dh (cM (bT b.lts)))) wC (by simp [cj]);show br (λq2=>hK F1 (key _ ((dI q1).trans (dq (bD not q2))))) λq2=>?_;have e2:nj b=_:=(dI q1).trans (dI (bD not q2));have a1:dE (H.set D1 (cj (fy m.c) (dh (cM (bT b.lts))))) B dx L b:=⟨aY (bU a.1 wC) a.1,aY (bU a.2 wC) a.2⟩;show fY (bT b.lts) rL (λu=> !te 1 b.nu u) .int (λJ=>cL) (cH fu) trivial (λu J H' hH=>?_) λJ=>?_
 ·show br (λq=>⟨_,hH _ _ a1.1,bD not (dI q).symm,rfl,λJ=>⟨rfl,rfl,trivial⟩⟩) λq=>⟨bD not (dq q).symm,rfl,λJ=>⟨rfl,rfl,trivial⟩⟩
 show CS (.inl rfl) (.inl rfl) (cK.G8 (d:=0)) ⋯ (br (λq=>?_) λq=>?_)
 ·show hK F1 (key _ (e2.trans (dq (BU.symm.trans (jD q)))))
 have e3:nj b=_:=e2.trans (dI (BU.symm.trans (iB q)));show (bK.mk a1.1 (ao _ a1.2 (fY b.lts Lt.inj (λJ=>ai) (λx=> .int x.ms) (λJ=>cL) (cH gV) a1.2 (λx J H' J=>(aP rfl rfl (λJ=>(aP rfl rfl trivial)))) λJ=>?_)))
 rewrite [ja]
 have em:(b.lts.map λx=>AV.int x.ms)=(b.lts.map (λx=>x.ms)).map .int:=by exists cZ;rfl
 exists em;generalize b.lts.map (λx=>x.ms)=ms at e3 fm;show BP (fy m.c) fO 30 rfl rfl (Cd ms ER Hq id (λJ=>cL) (cH fm) trivial (λu J H' J=>(aP rfl rfl trivial)) λJ D2 uC=>?_)
 rewrite [Bo]
 have F:=F1.trans (nM (D:=D2) (o:=cj (fy m.c) (dh (cM ms))) uC (by simp [cj]));show Hu (Y:=fy m.c) l6 (aj.aW ..) z9 ?_ (rr (.inl rfl) ?_ ?_)
 ·exists qd;show e9 (aK (pS _) (nQ fm))
 ·rewrite [bp];show e9 (nQ fm)
 exists qd;rewrite [bp];have a2:dE ((H.set D1 (cj (fy m.c) (dh (cM (bT b.lts))))).set D2 (cj (fy m.c) (dh (cM ms)))) B dx L b:=⟨aY (bU a1.1 uC) a1.1,aY (bU a1.2 uC) a1.2⟩;generalize (H.set D1 (cj (fy m.c) (dh (cM (bT b.lts))))).set D2 (cj (fy m.c) (dh (cM ms)))=aG at F a2;show br (λq=>hK F (key _ (e3.trans (dq (bD not q))))) λq=>?_;have e4:nj b=_:=e3.trans (dI (bD not q));show fY ms rL (λu=> !zd 1 b.top u) .int (λJ=>cL) (cH fm) trivial (λu J H' hH=>?_) λJ=>?_
 ·show br (λq=>⟨_,hH _ _ a2.1,bD not (dI q).symm,rfl,λJ=>⟨rfl,rfl,trivial⟩⟩) λq=>⟨bD not (dq q).symm,rfl,λJ=>⟨rfl,rfl,trivial⟩⟩
 show CS (.inl rfl) (.inl rfl) (cK.G8 (d:=0)) ⋯ (br (λq=>?_) λq=>?_)
 ·show hK F (key _ (e4.trans (dq (BU.symm.trans (jD q)))))
 have e5:nj b=(qO b b.gone b.floor && tI 0 b.top b.floor):=e4.trans (dI (BU.symm.trans (iB q)));show (ao _ a2.1 (ao _ a2.1 ?_));show jX sx (λlast:aq=>(vb "last" "modseqs" "uids" "box" (.int last) (.lst (ms.map .int)) (.lst ((bT b.lts).map .int)) (.ref B))) (λJ=>aG) (λr last=>nj b=(qO b r last && tI 0 b.top b.floor)) (λlast e=>?_) (λp r last e K' hn hr=>?_) b.gone b.floor e5
 ·have e:nj b=tI 0 b.top b.floor:=e;show (bK.mk a2.1 (br (λq=>(bK.mk a2.1 (hK F (key _ (e.trans (dI q)))))) λq=>hK F (key _ (e.trans (dq q)))))
 ·have bad:qO b (p::r) last=au->Q (.bool au) H:=λz=>key _ (e.trans (dq z));show br (λq1=>(bK.mk a2.1 (br (λq2=>hr (hK F (bad (dq ((dI q1).trans (jD q2)))))) λq2=>?_))) λq1=>hr (hK F (bad (dq (dq q1))));have i1:qO b (p::r) last=_:=dI ((dI q1).trans (iB q2));show Ō (.inl rfl) (br (λq3=>hr (hK F (bad (i1.trans (dq (bD not q3)))))) λq3=>?_);have i2:qO b (p::r) last=_:=i1.trans (dI (bD not q3));show br (λq4=>(bK.mk a2.1 (br (λq5=>hr (hK F (bad (i2.trans (dq ((dI q4).trans (jD q5))))))) λq5=>?_))) λq4=>hr (hK F (bad (i2.trans (dq (dq q4)))));have i3:qO b (p::r) last=_:=i2.trans (dI ((dI q4).trans (iB q5)));show (bK.mk a2.1 (br (λq6=>hr (hK F (bad (i3.trans (dq (bD not q6)))))) λq6=>?_));show hn p.2 _ (e.trans (bD (λx=>x && tI 0 b.top b.floor) (i3.trans (dI (bD not q6))))) trivial (f9 rfl rfl rfl rfl trivial)
end
end
section
variable {w:bQ} {qt:aN}
theorem uF.post (h:uF c n attr o a H Q X) (hQ:∀H',Q H'->Q' H'):uF c n attr o a H Q' X:=λA s v u C y1 y2=>XW.mono (h A s v u C y1 y2) (λJ H' J J q=>hQ H' q) λJ J z=>z
theorem at3 (ok:VK.Ok vk m.c) (f:ar) (c8:m.c.qt=ai)
  (h:vE vk f sc value m ρ H (λa aw=>∃u v w,a= .tup [u,v,w]/\vE vk f sc o1 m ρ aw (λb aG=>wY vk b a1 u aG λaV=>vE vk f sc o2 m ρ aV (λb fE=>wY vk b a2 v fE λm8=>vE vk f sc o3 m ρ m8 (λb pT=>wY vk b a3 w pT λta=>Q .next ρ ta) X) X) X) X)
  (hs:∀env,env.scope=sc->AS [.Tuple [.Attribute o1 a1 p1,.Attribute o2 a2 p2,.Attribute o3 a3 p3] k gF] value pos.line env=pure au)
  (hw:∀env,env.scope=sc->yg [.Tuple [.Attribute o1 a1 p1,.Attribute o2 a2 p2,.Attribute o3 a3 p3] k gF] value env=pure none):
  cP m.c m.n sc (.Assign [.Tuple [.Attribute o1 a1 p1,.Attribute o2 a2 p2,.Attribute o3 a3 p3] k gF] value pos) ρ H Q (λx J H'=>X x H'):=by
 show Qu (((g_ ok f).1 h).post λa aw x'=>eV x' λu v w e q=>?_) hs hw;exists e;show H9 rfl (zN c8) rfl rfl (JS (((g_ ok f).1 q).post λb aG q=>(yW ok q).post λaV q=>JS (((g_ ok f).1 q).post λb fE q=>(yW ok q).post λm8 q=>JS (((g_ ok f).1 q).post λb pT q=>yW ok q))))
theorem Lt.Mk (x y:Lt) (h:x.told=y.told):x=y:=Lt.inj x y (bD (λa=>match a with| .tup l=>AV.obj 137 Jn l|a=>a) h)
section
variable {H:aj} {B dx L:aF} {b:Bx} {n:ar} {Q:PQ} {X:PX}
theorem X2 (gV:b.lts.length<=50) (fg:b.gone.length<=1000) (h:∀B dx L,H B=none->H L=none->B≠L->Q (.ref B) ((H.set B (gE dx L b)).set L (gM b.lts))):bq (cx w ai) (n+3) (.ref 184) [b.told] H Q X:=by
 show bq.shift (fn 20 20 Yj rfl λK XK hK J hX=>?_);intro m;show Cz λB dx L hB hL ru=>?_;have aB:((H.set B (gE dx L (fQ b.name b.val))).set L (gM [])) B=ae _:=aY ru (aj.aW ..);show at3 fO 20 rfl (wX _ _ _ rfl (bK.mk aB (bK.mk (aj.aW ..) (bK.mk (aj.aW ..) ?_)))) (λJ J=>rfl) λenv e=>aa (Ih e) rfl;show EN fO 20 rfl rfl rfl<|fY b.lts Lt.Mk (λJ=>ai) Lt.av (λJ=>cL) (cH gV) trivial (λx J H' J=>(aP rfl rfl (λJ=>IQ x (aP rfl rfl trivial)))) λJ L' qc=>?_
 have nB:=bU (aj.aW ..) qc;show (bK.mk (aY nB (aj.aW ..)) ?_);show EN fO 20 rfl rfl rfl<|fY b.gone tC (λJ=>ai) sx (λJ=>cL) (by exists fH;lia) trivial (λx J H' J=>(aP rfl rfl (λJ=>(aP rfl rfl trivial)))) λJ G hG=>?_
 have nG:=bU (aj.aW ..) hG;show (bK.mk (aY nG (aj.aW ..)) ?_);have l1:=cw (cw (cw (cw qc).1).1).1;have g4:=cw (cw (cw (cw (cw (cw hG).1).1).1).1).1
 rewrite [ja,ja]
 show hK (H'':=((H.set B (.inst 175 dx G3 [.str b.name,.int b.val,.int b.nu,.int b.top,.int b.floor,.ref L',.ref G])).set L' (gM b.lts)).set G (.list (jV b.gone))) (Kg (D:=L) (o:=gM []) (funext λx=>?_) ?_ (by simp [gM])) (ao _ (.field (i:=6) (aY nG (aY nB (aj.aW ..))) (aj.aW ..) rfl) (cast (bD (Q (.ref B)) (funext λx=>?_)) (h B dx L' hB ((cw l1.1).1) nB)))
 ·by_cases x1:x=G
  ·exists x1;simp [aj.set,bI nG,bI g4.2,jV,sx]
  ·by_cases x2:x=B
   ·subst x2;simp [aj.set,x1,nB,ru];show ⟨rfl,rfl⟩
   ·by_cases x3:x=L'
    ·subst x3;simp [aj.set,x1,x2,bI l1.2,gM]
    ·simp [aj.set,x1,x2,x3]
 ·simp [aj.set,g4.2,l1.2,bI ru,hL]
 ·by_cases x1:x=G
  ·exists x1;simp [aj.set,aj.del,bI ((cw (cw hG).1).2),bI nG,((cw g4.1).1)]
  ·by_cases x2:x=B
   ·subst x2;simp [aj.set,aj.del,x1,nB];rfl
   ·by_cases x3:x=L'
    ·subst x3;simp [aj.set,aj.del,x1,x2]
    ·simp [aj.set,aj.del,x1,x2,x3]
end
end
section
variable {w:bQ} {qt:aN}
noncomputable def DG:aR aq->AV
 |none=> .none
 |some i=> .int i
noncomputable def rJ (un:aR aq) (x:Lt):aN:=match un with
 |none=>au
 |some i=>decide (i < x.ms)
theorem PC (x:Lt) (un:aR aq):PF w qt 1 244 [x.av,DG un] (.bool (rJ un x)):=λ{n H Q X} h=>by
 show fn 20 20 Ø rfl λK XK hK J J=>?_;intro m;induction un using eL with
 |none=>show hK (.refl _) h
 |some i=>show hK (.refl _) h
section
variable {H:aj} {B dx L:aF} {b:Bx} {n:ar} {Q:PQ} {X:PX}
theorem Ś (hn:us.length<=50) (h:Q (.lst ((sortI (cM us)).map .int)) H):bq (cx w ai) (n+1) (.ref 257) [.tup (us.map .int)] H Q X:=by
 show fn 20 20 aat rfl λK XK hK J J=>?_;intro m D hD;show jX AV.int (λ_:ah aq=>(xl "seen" "uids" (.ref D) (.tup (us.map .int)))) (λks=>H.set D (cj (fy m.c) (dh ks))) (λr ks=>r.foldl h9 ks=cM us/\ks.Nodup/\ks.length+r.length<=50) (λks p=>?_) (λu r ks p K' dU hr=>?_) us [] (aP rfl .nil (by simpa using hn))
 ·have e:ks=cM us:=p.1;have hl:(cM us).length<=50:=aK (pS us) hn;exists e;show B9 l6 (aj.aW ..) z9 (aa qd (cH hl)) ?_;have e:((dh (cM us)).map λp=>(fy m.c).av p.1)=(cM us).map .int:=by unfold dh;exists cZ;rfl
  exists e;show Ei (.inl rfl) (iw hl ⋯) (hK (nM hD (by simp [cj])) h)
 ·have hs:(H.set D (cj (fy m.c) (dh ks))).set D (cj (fy m.c) (jh (dh ks) u (.bool ai)))=H.set D (cj (fy m.c) (dh (h9 ks u))):=by rewrite [cV];exists BQ;rfl
  show uW (aj.aW ..) (aa v9 p.2.1) (aa qd (cH (aK (eC _ _) p.2.2))) (hs▸dU (h9 ks u) _ (aP p.1 (JE p.2.1) (by have:=GV (ks:=ks) (k:=u);have:=p.2.2;simp only [cY] at this;lia)) trivial (aP rfl rfl trivial))
noncomputable def oR (b:Bx) (ms:aq):aq:=if b.top < ms then b.top else ms
noncomputable def yD (b:Bx) (ms:aq):ah (aq×aq):=b.gone.filter λp=>decide (oR b ms < p.2)
noncomputable def Ay (b:Bx) (ms:aq):Bx:={b with gone:=yD b ms,floor:=oR b ms}
theorem ahg (a:dE H B dx L b) (fg:b.gone.length<=1000) (h1:decide (oR b ms<=b.floor)=ai->Q (.int 0) H)
  (h2:decide (oR b ms<=b.floor)=au->Q (.int ((b.gone.length:aq) - ((yD b ms).length:aq))) (dJ H B dx L (Ay b ms))):bq (cx w ai) (n+1) (.ref 262) [.ref B,.int ms] H Q X:=by
 have hk:(yD b ms).length<=1000:=aK (lI ..) fg;have hz:∀{k:ar},k<=1000->(k:aq) < 2 ^ 63:=λh=>e9 (aK h ⋯);show fn 20 20 abM rfl λK XK hK J J=>?_;intro m;show (ao _ a.1 (Gf rfl (ao _ a.1 (br (λq=>hK (.refl _) (h1 q)) λq=>(bK.mk a.1 ?_)))));show fY b.gone tC (λp=>decide (oR b ms < p.2)) sx (λJ=>cL) (by exists fH;lia) trivial (λp J H' hH=>(aP rfl rfl (λJ=>(aP rfl rfl trivial)))) λJ=>?_;show (ao _ a.1 (rr (.inl rfl) (by rewrite [jV,bp];show hz fg) (rr (.inl rfl) (by rewrite [bp];show hz hk) ?_)));show (ao _ a.1 (bK.mk (aj.aW ..) ?_));have h:=h2 q;rw [QT (b':=Ay b ms) a rfl] at h;show hK (.refl _) ?_
 rewrite [jV,bp,bp,cV]
 show h
end
end
section
variable {w:bQ} {qt:aN}
theorem Fg.agD (x:Fg c H a H' a'):Fg c H (.tup (a::l)) H' (.tup (a'::l)):=by
 show ⟨x.1,λh v R y=>?_⟩;show gU y λb n xs e p g pz=>?_;show cQ pz λu r e2 y1 y2=>?_;show (i5 b n xs e (x.1.fz p) g (cI u r e2 (x.2 h u R y1) (Vs.forget y2 x.1)))
theorem bq.aeN (h:bq c n g args H (λa H'=>∃D aG l r,a= .tup (.ref D::r)/\H'=aG.set D (.list l)/\aG D=none/\Q (.tup (.lst l::r)) aG) X):bq c n g args H Q X:=
 h.mono (λa H' x'=>Ad x' λD aG l r e1 e2 e3 q=>(ew _ aG (by subst e1 e2;show (Fg.Eb e3).agD) q)) λJ J z=>z
theorem YR
  (k:WS (cx w qt) n (fS (aQ 27)) (fB (aQ 27)) [("unless",a5),("flags",a4),("way",a3),("uids",a2),("box",a1)] H (λaf J H'=>Q af.val H') (λx J H'=>X x H')):rH (cx w qt) (n+1) (.ref 250) [a1,a2,a3,a4,a5] H Q X:=by
 have e:kS (cx w qt).K 250=ae {name:="store_flags",qualname:="store_flags",params:=fA (aQ 27),body:= .stmts (fB (aQ 27)),scope:=fS (aQ 27),globals:=3,closure:=[],defaults:= .ref 245,kwdefaults:= .none,pyModule:= .str "postkeep.changes" 504,code:= .ref 249}:=by rfl
 have hk:∀x∈(["box","uids","way","flags","unless"]:ah ak),j_ ((fS (aQ 27)).names.lookup x)=ai:=λx hx=>List.all_eq_true.mp (show (["box","uids","way","flags","unless"]:ah ak).all (λx=>j_ ((fS (aQ 27)).names.lookup x))=ai by ext) x hx;show DW (B8 _ e rfl rfl rfl rfl rfl (by ext) (by ext) (by ext) (by ext)) rfl (λfd iR s vs X hl=>?_) (λJ J=> .nil) hk k;show Ċ ((aap hl:∃v1 v2 v3 v4 v5,vs=[v1,v2,v3,v4,v5])) λv1 v2 v3 v4 v5 bW=>?_;exists bW;injection iR with ct;subst ct
 show FX X λS=>by ext
theorem fnX {n:ar} {a:aF} {st:fc} {ρ:Rh} {args:ah AV} {H:aj} {Q:PQ} {X:PX} (f k:ar) (h:∀{Q:PQ} {X:PX},WS (cx w qt) n (fS st) (fB st) ρ H (λaf J H'=>Q af.val H') (λx J H'=>X x H')->rH (cx w qt) (n+1) (.ref a) args H Q X)
  (v:∀(K:PS) (XK:PX),(∀{r aO H' H''},Sub H'' H'->Q r H''->K (.ret r) aO H')->(∀{aO H' H''},Sub H'' H'->Q .none H''->K .next aO H')->(∀{x H' H''},Sub H'' H'->X x H''->XK x H')->
   let m:Cn:=⟨cx w qt,n⟩
   vS vk f k (fS st) (fB st) m ρ H K XK):bq (cx w qt) (n+1) (.ref a) args H Q X:=
 (h (rt fO f k (v (λaf J H'=>∃H'',Sub H'' H'/\Q af.val H'') (λx H'=>∃H'',Sub H'' H'/\X x H'') (λs q=>(ao _ s q)) (λs q=>(ao _ s q)) λs q=>(ao _ s q)))).call.forget
noncomputable def oU (l:ah Lt) (u:aq):aq:=if u∈bT l then ((bT l).idxOf u:aq) else -1
noncomputable def nP (b:Bx) (us:ah aq):ah Lt:=(sortI (cM us)).filterMap (h_ b.lts)
theorem ι {l:ah aq} (h:l.Pairwise (λx y=>x < y)):l.Nodup:=h.imp λh=>F6 h
theorem Cy {l:ah Lt} {u:aq} {i:ar} (gZ:(bT l).Pairwise (λx y=>x < y)) (h:(bT l)[i]?=ae u):oU l u=(i:aq):=by
 show bj (List.getElem?_eq_some_iff.mp h) λhi e=>?_;exists e.symm;unfold oU;exists bN (Lu hi);rewrite [(ι gZ).idxOf_getElem];rfl
theorem JA (h:u∉bT l):oU l u= -1:=bo h
noncomputable def z5 (l:ah Lt) (i:aq):AV:=((l.map Lt.av)[i.toNat]?).getD .none
theorem ZN {l:ah Lt} (gZ:(bT l).Pairwise (λx y=>x < y)) (us:ah aq):((us.map (oU l)).filter λi=>decide (0<=i)).map (z5 l)=(us.filterMap (h_ l)).map Lt.av:=by
 induction us with
 |nil=>rfl
 |cons u us ih=>
  exists dX;exists vO;exists Bn;by_cases h:u∈bT l
  ·show bj (List.mem_iff_getElem?.mp h) λi e=>aA (D9 gZ e) λx e1 e2=>?_;show aa (Cy gZ e) (aa e2 (aa (bN (lJ (FD i))) (aa dX (aa ih (bD (λx=>x::_) ?_)))));unfold z5;rewrite [vL,mi,e1];rfl
  ·show aa (JA h) (aa (IE h) (aa (bo ⋯) ih))
theorem ahE {l:ah Lt} {u:aq} (gZ:(bT l).Pairwise (λx y=>x < y)) (h:decide (0<=oU l u)=ai):∃i:ar,∃x,oU l u=(i:aq)/\i < l.length/\(l.map Lt.av)[i]?=ae x/\x=z5 l (oU l u):=by
 by_cases k:u∈bT l
 ·show bj (List.mem_iff_getElem?.mp k) λi e=>aA (D9 gZ e) λx e1 e2=>(s8 i x.av (Cy gZ e) ((List.getElem?_eq_some_iff.mp e1).1) (by exists mi;exists e1;rfl) ?_);exists Cy gZ e;unfold z5;rewrite [vL];exists mi;exists e1;rfl
 ·rw [JA k] at h;injection h
noncomputable def jk (old:ah ak) (way:ak) (fl:ah ak):ah ak:=(ny old way fl).getD []
noncomputable def ik (un:aR aq) (way:ak) (fl:ah ak) (s:Bx×ah aq) (x:Lt):Bx×ah aq:=
 if rJ un x then s else match h_ s.1.lts x.uid with
 |none=>s
 |some y=>if y.flags==jk x.flags way fl then s else (kR s.1 x.uid y (jk x.flags way fl),s.2++[x.uid])
noncomputable def ph (b:Bx) (us:ah aq) (un:aR aq) (way:ak) (fl:ah ak):Bx×ah aq:=(nP b us).foldl (ik un way fl) (b,[])
theorem Rk {P:Bx×ah aq->Prop} (h0:P s) (h1:∀y,h_ s.1.lts x.uid=ae y->P (kR s.1 x.uid y (jk x.flags way g),s.2++[x.uid])):P (ik un way g s x):=by
 unfold ik;by_cases q:rJ un x=ai
 ·show aa (bN q) h0
 ·exists bo q;cases e:h_ s.1.lts x.uid with
  |none=>show h0
  |some y=>
   show (?_:P (if (y.flags==jk x.flags way g)=ai then s else (kR s.1 x.uid y (jk x.flags way g),s.2++[x.uid])));by_cases z:(y.flags==jk x.flags way g)=ai
   ·show aa (bN z) h0
   ·show aa (bo z) (h1 y e)
theorem Z5 (h:x.uid=u):bT (putL l u x)=bT l:=by
 unfold bT putL;exists cZ;show r_ λy J=>?_;show (?_:(if (y.uid==u)=ai then x else y).uid=y.uid);split
 ·rename_i q;exists h;show (eq_of_beq q).symm
 ·rfl
theorem Ej:bT (kR b u x fl).lts=bT b.lts:=Z5 rfl
theorem jo.set {b:Bx} {u:aq} {x:Lt} {fl:ah ak} (f:jo b) (h1:gX fl) (h2:de fl=ae fl):jo (kR b u x fl):=by
 have key:∀y∈(kR b u x fl).lts,y∈b.lts\/y.flags=fl:=λy hy=>by
  show aA (List.mem_map.mp hy) λz hz e=>?_;split at e
  ·subst e;show .inr rfl
  ·subst e;show .inl hz
 show ⟨?_,?_,λy hy=>?_,λy hy=>?_⟩
 ·show (?_:(Bc _ _).length<=50);rewrite [bp];show f.1
 ·exists Ej;show f.2
 ·rcases key y hy with k|k
  ·show f.3 y k
  ·exists k;show h1
 ·rcases key y hy with k|k
  ·show f.4 y k
  ·exists k;show h2
inductive uP (way:ak) (fl:ah ak) (x:Lt):Prop
 |mk (e:ny x.flags way fl=ae (jk x.flags way fl)) (same:de (jk x.flags way fl)=ae (jk x.flags way fl)) (ok:gX (jk x.flags way fl)) (old:gX x.flags)
inductive N5 (b:Bx) (un:aR aq) (way:ak) (fl:ah ak) (r:ah Lt) (s:Bx×ah aq) (t:Bx×ah aq):Prop
 |mk (e:r.foldl (ik un way fl) s=t) (f:jo s.1) (us:bT s.1.lts=bT b.lts) (i:∀x∈r,x.uid∈bT b.lts/\uP way fl x) (l:s.2.length+r.length<=50)
theorem afv (h:u∈bT l):∃x,h_ l u=ae x/\x.uid=u:=by
 show aA (List.mem_map.mp h) λy hy e=>?_;cases q:h_ l u with
 |none=>show cy e (by have:=List.find?_eq_none.mp q y hy;simpa using this)
 |some x=>show (ao x rfl (eq_of_beq (VT (p:=λx:Lt=>x.uid==u) q)))
theorem Dg (hn:us.length<=50):(sortI (cM us)).length<=50:=aK (iL (qk _)) (aK (pS us) hn)
section
variable {H:aj} {B dx L:aF} {b:Bx} {n:ar} {Q:PQ} {X:PX}
theorem Ņ {us:ah aq} {un:aR aq} {way:ak} {fl:ah ak} (a:dE H B dx L b) (f:jo b) (hn:us.length<=50) (hf:gX fl) (haf:∀x∈b.lts,uP way fl x)
  (h:Q (.tup [.lst ((ph b us un way fl).2.map .int),.lst (((nP b us).filter (rJ un)).map λx=> .int x.uid)]) (dJ H B dx L (ph b us un way fl).1)):
  bq (cx w ai) (n+6) (.ref 250) [.ref B,.tup (us.map .int),.str way,eF fl,DG un] H Q X:=by
 have hc:(nP b us).length<=50:=aK (VQ ..) (Dg hn);show bq.aeN (fnX 30 30 YR λK XK hK J hX=>?_);intro m;show Ś hn<|fY (sortI (cM us)) rL (λJ=>ai) (λu=> .int (oU b.lts u)) (λJ=>cL) (cH (Dg hn)) trivial (λu J H' hH=>(aP rfl rfl (λJ=>(bK.mk (hH _ _ a.1) (JF (hH _ _ a.2) (nQ f.1) f.2 (λi e=>(aP (by exists Cy f.2 e;rfl) rfl trivial)) λe=>(aP (by exists JA e;rfl) rfl trivial)))))) λJ=>?_
 rewrite [ja]
 have e1:(sortI (cM us)).map (λu=>AV.int (oU b.lts u))=((sortI (cM us)).map (oU b.lts)).map .int:=by exists cZ;rfl
 exists e1;show fY ((sortI (cM us)).map (oU b.lts)) rL (λi=>decide (0<=i)) (z5 b.lts) (λJ=>cL) (by rewrite [bp];show cH (Dg hn)) trivial (λi hi H' hH=>(aP rfl rfl (λq=>?_))) λJ=>?_
 ·show aA (List.mem_map.mp hi) λu J dD=>?_;subst dD;show vd (ahE f.2 q) λj x e hj ex ea=>(bK.mk (hH _ _ a.1) (gG (.inr (ao L rfl (hH _ _ a.2))) e (e9 (aK (iK hj) (nQ f.1))) ex (aP ea rfl trivial)))
 rewrite [ZN f.2]
 show fY (nP b us) Lt.inj (rJ un) (λx=> .int x.uid) (λJ=>cL) (cH hc) trivial (λx J H' hH=>PC x un (aP rfl rfl (λJ=>(aP rfl rfl trivial)))) λJ D hD=>?_;have eH:H.set D (.list [])=(dJ H B dx L b).set D (.list (([]:ah aq).map .int)):=by exists RF a;rfl
 exists eH
 show jX Lt.av (λ_:Bx×ah aq=>(Xc "changed" "refused" "letters" "unless" "flags" "way" "uids" "box" (.ref D) (.lst (((nP b us).filter (rJ un)).map λx=> .int x.uid)) (.lst ((nP b us).map Lt.av)) (DG un) (eF fl) (.str way) (.tup (us.map .int)) (.ref B)))
  (λs=>(dJ H B dx L s.1).set D (.list (s.2.map .int))) (λr s=>N5 b un way fl r s (ph b us un way fl)) (λs p=>?_) (λx r s p K' dU hr=>?_) (nP b us) (b,[]) ⟨rfl,f,rfl,?_,by simpa using hc⟩
 ·rw [<-p.1] at h;show hK (.refl _) (J7 D _ _ _ rfl rfl (aY (bI (bU a.2 hD)) (aY (bI (bU a.1 hD)) hD)) h)
 ·show aM (p.4 x (.head _)) λhx qe=>?_;have tl:∀y∈r,y.uid∈bT b.lts/\uP way fl y:=λy hy=>p.4 y (.tail _ hy);have ln:s.2.length+1+r.length<=50:=by have:=p.5;simp only [cY] at this;lia
  have ag:dE ((dJ H B dx L s.1).set D (.list (s.2.map .int))) B dx L s.1:=⟨aY (bU a.1 hD) (dE.up a.ne).1,aY (bU a.2 hD) (dE.up a.ne).2⟩;show aA (afv (p.3▸hx)) λy ey J=>?_;have skip:ik un way fl s x=s->N5 b un way fl r s (ph b us un way fl):=λe=>⟨by have:=p.1;rw [yB,e] at this;show this,p.2,p.3,tl,by lia⟩;show PC x un (br (λq=>?_) λq=>?_)
  ·show abl qe.4 hf (λĈ ef=>?_) λef=>by rw [qe.1] at ef;injection ef
   have:Ĉ=jk x.flags way fl:=by rw [qe.1] at ef;show (bZ ef).symm
   exists this;show SW ag p.2 qe.3.1 (aK qe.3.2 ⋯) ?_ ?_ ?_
   ·rintro (e|e)
    ·rw [qe.2] at e;injection e
    ·injection (ey).symm.trans e
   ·intro W6 y2 e2 e3 q2;rw [qe.2] at e2;injection e2 with et;subst et
    rw [ey] at e3;injection e3 with eR;subst eR
    show dU s _ (skip ?_) trivial (Eo rfl rfl rfl rfl rfl rfl rfl rfl trivial);unfold ik;rw [bo (by exists jD q;decide),ey];show bN q2
   ·intro W6 y2 e2 e3 q2;rw [qe.2] at e2;injection e2 with fD;subst fD
    rw [ey] at e3;injection e3 with jb;subst jb
    have e4:ik un way fl s x=(kR s.1 x.uid y (jk x.flags way fl),s.2++[x.uid]):=by
     unfold ik;rw [bo (by exists jD q;decide),ey];show bo (by exists q2;decide)
    exists T_ a.ne (bI (bU a.1 hD)) (bI (bU a.2 hD));show (bK.mk (aj.aW ..) (vh (aj.aW ..) (by rewrite [bp];show cH (by lia)) ?_));have e5:∀o,((dJ H B dx L (kR s.1 x.uid y (jk x.flags way fl))).set D o).set D (.list (s.2.map .int++[.int x.uid]))=(dJ H B dx L (kR s.1 x.uid y (jk x.flags way fl))).set D (.list ((s.2++[x.uid]).map .int)):=λo=>by rewrite [cV];exists dz;rfl
    rewrite [e5]
    show dU (kR s.1 x.uid y (jk x.flags way fl),s.2++[x.uid]) _ ⟨?_,p.2.set qe.3 qe.2,Ej.trans p.3,tl,?_⟩ trivial (Eo rfl rfl rfl rfl rfl rfl rfl rfl trivial)
    ·have:=p.1;rw [yB,e4] at this;show this
    ·exists cb;show ln
  ·show dU s _ (skip ?_) trivial (Eo rfl rfl rfl rfl rfl rfl rfl rfl trivial);show bN (iB q)
 ·intro x hx;show aA (List.mem_filterMap.mp hx) λu J e=>⟨List.mem_map.mpr (ao x (uX e) rfl),haf x (uX e)⟩
end
end
section
variable {w:bQ} {qt:aN}
noncomputable def du:ar->ah b_:=akX (measure id).wf λn r=>if h:n<=127 then [n.toUInt8] else (128+n % 128).toUInt8::r (n / 128) (LL (Nat.pos_of_ne_zero λe=>h (e▸i0 _)) ⋯)
theorem rf (h:n<=127):du n=[n.toUInt8]:=(ajG _ _ n).trans (dif_pos h)
theorem uM (h:¬n<=127):du n=(128+n % 128).toUInt8::du (n / 128):=(ajG _ _ n).trans (dif_neg h)
theorem afN (h:¬r<=127) (k:(r+1)*2 ^ l<=n):(r / 128+1)*2 ^ (l+1)<=n:=by
 show aK ?_ k;exists Nat.pow_succ';rewrite [<-Nat.mul_assoc];show Nat.mul_le_mul_right _ (by lia)
theorem SK (k:(r+1)*2 ^ l<=2 ^ 64):l<=64:=by
 show (Nat.pow_le_pow_iff_right ⋯).mp (aK ?_ k);show Nat.le_mul_of_pos_left _ (F8 _)
theorem agA {r:ar}:(128+(r:aq).fmod 128).toNat.toUInt8=(128+r % 128).toUInt8:=by
 have:(r:aq).fmod 128=((r % 128:ar):aq):=by exists LM _ ⋯;rfl
 exists this;congr 1
theorem Oq:0<=128+(r:aq).fmod 128/\128+(r:aq).fmod 128 < 256:=by
 exists LM _ ⋯;show ⟨Int.add_nonneg ⋯ (ajH _ ⋯),Int.add_lt_add_left (ajI _ ⋯) 128⟩
theorem Ő {r:ar}:(r:aq).fdiv 128=((r / 128:ar):aq):=by exists F0 _ ⋯;rfl
theorem SG (h:n<=64):n < bY:=iw h ⋯
theorem ħ:La x 128=au:=LI ⋯
section
variable {H:aj} {n:ar} {Q:PQ} {X:PX}
theorem Mx {k:ar} (hk:k < 2 ^ 64):PF w ai 1 269 [.int (k:aq)] (.bytes (du k)):=λ{n H Q X} h=>by
 show fn 20 20 aeA rfl λK XK hK J J=>?_;intro m;show QA λD hD=>wh fO 20 20 (λs:ah b_×ar=>(xl "rest" "found" (.int (s.2:aq)) (.ref D))) (λs=>H.set D (.barr s.1)) (λs=>s.1++du s.2=du k/\(s.2+1)*2 ^ s.1.length<=2 ^ 64) (λs=>s.2) ([],k) ⟨rfl,by show (?_:(k+1)*1<=_);lia⟩ (aP rfl rfl trivial) rfl λ⟨l,r⟩ p K' hn hr=>br (λq=>?_) λq=>?_
 ·have q:¬r<=127:=λz=>by have:=fi q;lia
  have pl:l.length<=64:=SK p.2;show (ao _ (aj.aW ..) (mR ⋯ (Px (aj.aW ..) Oq.1 Oq.2 (SG pl) (uY ⋯ ħ ?_))))
  rewrite [cV];exists agA
  show hn (l++[(128+r % 128).toUInt8],r / 128) _ ⟨?_,?_⟩ (LL (by lia) ⋯) (aP (bD (λx=>ae (AV.int x)) Ő) rfl trivial)
  ·have:=p.1;rw [uM q] at this;rewrite [gh];show this
  ·exists cb;show afN q p.2
 ·have q:r<=127:=Int.ofNat_le.mp (Int.not_lt.mp (ml q));have pl:l.length<=64:=SK p.2;show (ao _ (aj.aW ..) (Px (aj.aW ..) (by lia) (by lia) (SG pl) ?_))
  rewrite [cV]
  have e:l++[((r:aq)).toNat.toUInt8]=du k:=by have:=p.1;rw [rf q] at this;show this
  exists e;show OX (aj.aW ..) ?_ (hK (nM hD (by simp)) h);exists e.symm;exists cb;exists fH;simp only [cY,jL];lia
noncomputable def kO (i:aq):aq:=if 0<=i then 2*i else -2*i - 1
theorem acy:PF w qt 1 283 [.int i] (.int (kO i)):=λ{n H Q X} h=>by
 show fn 20 20 í rfl λK XK hK J J=>?_;intro m;show br (λq=>oZ (.of_left ⋯) (hK (.refl _) ?_)) λq=>oZ (.of_left ⋯) (hK (.refl _) ?_)
 ·rw [kO,bN (fi q)] at h;show h
 ·rw [kO,bo (ml q)] at h;show h
noncomputable def xh (c:aq):aq:=if c.fmod 2==0 then c.fdiv 2 else (-(c+1)).fdiv 2
theorem Wy:PF w qt 1 290 [.int i] (.int (xh i)):=λ{n H Q X} h=>by
 show fn 20 20 Ů rfl λK XK hK J J=>?_;intro m;show mR ⋯ (br (λq=>uY ⋯ Dc (hK (.refl _) ?_)) λq=>uY ⋯ Dc (hK (.refl _) ?_))
 ·rw [xh,bN q] at h;show h
 ·rw [xh,bo (by exists q;decide)] at h;show h
noncomputable def gB (l:ah ar):ah b_:=(l.map du).flatten
theorem Dl:gB (k::l)=du k++gB l:=rfl
theorem ZZ {x:ak} (hx:∀k∈x.cps.toList,k < 2 ^ 64) (hz:(gB x.cps.toList).length<=8000000):PF w ai 2 297 [.str x] (.bytes (gB x.cps.toList)):=λ{n H Q X} h=>by
 show fn 20 20 aeE rfl λK XK hK J J=>?_;intro m;show QA λD hD=>jX (λk:ar=>AV.str ⟨#[k]⟩) (λ_:ah b_=>(xl "found" "text" (.ref D) (.str x))) (λs=>H.set D (.barr s)) (λr s=>s++gB r=gB x.cps.toList/\∀k∈r,k < 2 ^ 64) (λs p=>?_) (λk r s p K' hn hr=>?_) x.cps.toList [] ⟨rfl,hx⟩
 ·have e:s=gB x.cps.toList:=by have:=p.1;simpa [gB] using this
  exists e;show OX (aj.aW ..) (by exists fH;lia) (hK (nM hD (by simp)) h)
 ·have e:(s++du k)++gB r=gB x.cps.toList:=by rewrite [gh];show p.1
  show (ao _ (aj.aW ..) (B7 (Mx (p.2 k (.head _)) (š (aj.aW ..) ?_ ?_))))
  ·have:=bD mj e;rw [cb,cb] at this;exists fH;lia
  ·rewrite [cV]
   show hn (s++du k) _ ⟨e,λj hj=>p.2 j (.tail _ hj)⟩ trivial (aP rfl rfl trivial)
end
end
section
variable {w:bQ} {qt:aN}
mutual
noncomputable def c7:AV->ah b_
 | .int i=>105::du (kO i).toNat
 | .str x=>116::(du x.length++gB x.cps.toList)
 | .bytes b=>111::(du b.length++b)
 | .tup l=>114::(du l.length++iX l)
 |_=>[]
noncomputable def iX:ah AV->ah b_
 |[]=>[]
 |a::l=>c7 a++iX l
end
theorem mL:c7 (.int i)=105::du (kO i).toNat:=rfl
theorem m9:c7 (.str x)=116::(du x.length++gB x.cps.toList):=rfl
theorem mS:c7 (.bytes b)=111::(du b.length++b):=rfl
theorem mq:c7 (.tup l)=114::(du l.length++iX l):=rfl
theorem wW:iX []=[]:=rfl
theorem xH:iX (a::l)=c7 a++iX l:=rfl
inductive Rv:ar->AV->Prop
 |int (k:ar) (i:aq) (h:i.natAbs < 2 ^ 62):Rv k (.int i)
 |str (k:ar) (x:ak) (h:∀c∈x.cps.toList,c<=1114111) (hz:x.length<=90000):Rv k (.str x)
 |bytes (k:ar) (b:ah b_) (hz:b.length<=90000):Rv k (.bytes b)
 |tup (k:ar) (l:ah AV) (h:∀a∈l,Rv k a) (hz:l.length<=90000):Rv (k+1) (.tup l)
theorem y5 (l:ah AV):iX l=(l.map c7).flatten:=by
 induction l with
 |nil=>rfl
 |cons a l ih=>show bD (λx=>c7 a++x) ih
theorem OS:kO (.negSucc n)=((2*n+1:ar):aq):=by show (?_: -2*Int.negSucc n - 1=_);omega
theorem Pb:kO i=((kO i).toNat:aq):=by
 cases i with
 |ofNat n=>rfl
 |negSucc n=>exists OS;rfl
theorem Me (h:i.natAbs<=B):(kO i).toNat<=2*B:=by
 cases i with
 |ofNat n=>show Bp 2 h
 |negSucc n=>exists OS;show Nat.le_of_succ_le (Bp 2 h)
theorem adg (h:i.natAbs < 2 ^ 62):(kO i).toNat < 2 ^ 64:=iw (Me (iK h)) ⋯
theorem yY {j:aq} {k:ar} (e:j=(k:aq)) (hk:k < 2 ^ 64):PF w ai 1 269 [.int j] (.bytes (du k)):=by subst e;show λ{n H Q X}=>Mx hk
theorem t_ (h:c<=8000000) (k:a+b<=c):a+b<=bY:=by exists fH;show aK k (aK h ⋯)
theorem GD (h:n<=90000):n < 2 ^ 64:=iw h ⋯
theorem adh {α:Type} {l:ah (ah α)} {x:ah α} (h:x∈l):x.length<=l.flatten.length:=by
 induction l with
 |nil=>cases h
 |cons y l ih=>
  exists Bq;exists cb;rcases List.mem_cons.mp h with rfl|h
  ·show eC _ _
  ·show aK (ih h) (dY _ _)
theorem WU {k:ar} {v:AV} (r:Rv k v):∀{d:aq},d+(k:aq)<=21->(c7 v).length<=8000000->PF w ai (k+3) 302 [v,.int d] (.bytes (c7 v)):=by
 induction r with
 |int k i hi=>
  intro d hd hz n H Q X h;show fn (n:=n+(k+2)) 30 30 Cu rfl λK XK hK J J=>?_;intro m;show fx rfl (fx rfl (acy (n:=n+(k+1)) (yY (n:=n+(k+1)) Pb (adg hi) ⟨?_,hK (.refl _) ?_⟩)))
  ·show t_ hz (iL (lB 1 _))
  ·show h
 |str k x hx hl=>
  intro d hd hz n H Q X h;show fn (n:=n+(k+2)) 30 30 Cu rfl λK XK hK J J=>?_;intro m
  have ju:1+((du x.length).length+(gB x.cps.toList).length)<=8000000:=by
   simp only [mL,m9,mS,mq,cY,cb] at hz;rewrite [lB];show hz
  show fx rfl (fx rfl (fx rfl (wm (e9 hl) (yY (n:=n+(k+1)) rfl (GD hl) ⟨?_,ZZ (λc hc=>iw (hx c hc) ⋯) ?_ ⟨?_,hK (.refl _) ?_⟩⟩))))
  ·show t_ ju (iJ (eC ..) 1)
  ·show aK (aK (dY ..) (dY _ 1)) ju
  ·show t_ ju (by simp only [cY,jL,cb];show iL (ix 1 _ _))
  ·show h
 |bytes k b hl=>
  intro d hd hz n H Q X h;show fn (n:=n+(k+2)) 30 30 Cu rfl λK XK hK J J=>?_;intro m
  have ju:1+((du b.length).length+b.length)<=8000000:=by
   simp only [mL,m9,mS,mq,cY,cb] at hz;rewrite [lB];show hz
  show fx rfl (fx rfl (fx rfl (fx rfl (kN (aK hl ⋯) (yY (n:=n+(k+1)) rfl (GD hl) (aP ?_ ?_ (hK (.refl _) ?_)))))))
  ·show t_ ju (iJ (eC ..) 1)
  ·show t_ ju (by simp only [cY,jL,cb];show iL (ix 1 _ _))
  ·show h
 |tup k l hl hn ih=>
  intro d hd hz n H Q X h;show fn (n:=n+(k+3)) 30 30 Cu rfl λK XK hK J hX=>?_;intro m
  have ju:1+((du l.length).length+((l.map c7).flatten).length)<=8000000:=by
   simp only [mL,m9,mS,mq,cY,cb,y5] at hz;rewrite [lB];show hz
  show fx rfl (fx rfl (fx rfl (fx rfl (fx rfl (br (λq=>?_) λq=>?_)))))
  ·have:=fi q;exfalso;lia
  show rC (e9 hn) (yY (n:=n+(k+2)) rfl (GD hn) ⟨?_,⟨by exists fH;lia,trivial,λJ=>ai,λa=> .bytes (c7 a),λJ=>cL,λa ha H' J=>(aP rfl rfl (λJ=>ih a ha (by lia) ?_ (aP rfl rfl trivial))),λJ=>?_⟩⟩)
  ·show t_ ju (iJ (eC ..) 1)
  ·have:=adh (List.mem_map.mpr (ao a ha rfl):c7 a∈l.map c7);lia
  rewrite [ja]
  have e:(l.map λa=>AV.bytes (c7 a))=(l.map c7).map .bytes:=by exists cZ;rfl
  exists e;show P5 (.inl rfl) (by exists fH;lia) ⟨?_,hK (.refl _) ?_⟩
  ·show t_ ju (by simp only [cY,jL,cb];show iL (ix 1 _ _))
  ·simp only [mL,m9,mS,mq,y5] at h;show h
end
section
variable {w:bQ} {qt:aN}
noncomputable def wj (s:aq×aq) (b:b_):aq×aq:=((s.1+b.toNat).fmod 65521,(s.2+(s.1+b.toNat).fmod 65521).fmod 65521)
noncomputable def Kb (l:ah b_):aq:=(l.foldl wj (1,0)).2*65536+(l.foldl wj (1,0)).1
theorem Tt:PF w ai 1 351 [.bytes l] (.int (Kb l)):=λ{n H Q X} h=>by
 show fn 20 20 ū rfl λK XK hK J J=>?_;intro m;show jX (λk:b_=>AV.int (k.toNat:aq)) (λs:aq×aq=>(DM "high" "low" "octets" (.int s.2) (.int s.1) (.bytes l))) (λJ=>H) (λr s=>r.foldl wj s=l.foldl wj (1,0)) (λs p=>?_) (λb r s p K' hn hr=>?_) l (1,0) rfl
 ·have p:s=l.foldl wj (1,0):=p;show oZ (.of_right ⋯) (hK (.refl _) ?_);rw [Kb,<-p] at h;show h
 ·show mR ⋯ (mR ⋯ (hn (wj s b) _ p trivial (iT rfl rfl rfl trivial)))
noncomputable def PE (i:aq):ah aq:=[vR (i.fdiv (2 ^ 24)) 255,vR (i.fdiv (2 ^ 16)) 255,vR (i.fdiv (2 ^ 8)) 255,vR i 255]
noncomputable def Kh (i:aq):ah b_:=(PE i).map λn=>n.toNat.toUInt8
theorem s7:(Kh i).length=4:=rfl
theorem adI (x:aq):0<=vR x 255/\vR x 255 < 256:=by rewrite [bitAnd_m8];lia
theorem SQ:PF w ai 1 358 [.int i] (.bytes (Kh i)):=λ{n H Q X} h=>by
 show fn 20 20 aho rfl λK XK hK J J=>?_;intro m;show zM ⋯ (wb (zM ⋯ (wb (zM ⋯ (wb (wb ?_))))));show Nj rfl (.inl rfl) ?_ (aK (eY 4) ⋯) (hK (.refl _) h);intro n hn;simp only [PE,yq,EU,K9] at hn;rcases hn with rfl|rfl|rfl|rfl <;> show adI _
theorem Pc (hz:r.length<=80000):PF w qt 1 330 [.tup (.str x::r)] (.bool ai):=λ{n H Q X} h=>by
 show fn 20 20 ac0 rfl λK XK hK J J=>?_;intro m;show fx rfl (rC (e9 (by simp only [cY];lia)) (Aa (fx rfl (hK (.refl _) h)) λq=>?_));have:=ml q;simp only [cY] at this;exfalso;lia
theorem acj (rv:Rv k (.tup (.str x::r))) (hk:k<=20) (hr:r.length<=80000) (hz:(c7 (.tup (.str x::r))).length<=8000000):PF w ai (k+4) 337 [.tup (.str x::r)] (.bytes (c7 (.tup (.str x::r)))):=λ{n H Q X} h=>by
 show fn (n:=n+(k+3)) 20 20 Y3 rfl λK XK hK J J=>?_;intro m;show Pc (n:=n+(k+2)) hr (WU rv (by lia) hz (hK (.refl _) h))
noncomputable def dg (v:AV):ah b_:=du (c7 v).length++(Kh (Kb (c7 v))++c7 v)
theorem aeg (hk:k < 2 ^ 64):(du k).length<=65:=by
 have key:∀j k:ar,k < 2 ^ j->(du k).length<=j+1:=by
  intro j;induction j with
  |zero=>intro k h;exists rf (aK (iK h) ⋯);simp
  |succ j ih=>
   intro k h;by_cases q:k<=127
   ·exists rf q;simp
   ·exists uM q;have:=ih (k / 128) ((ajy ⋯).mpr (r5 h (Bp _ ⋯)));show tO this 1
 show key 64 k hk
theorem Jz (rv:Rv k (.tup (.str x::r))) (hk:k<=20) (hr:r.length<=80000) (hz:(c7 (.tup (.str x::r))).length<=8000000):PF w ai (k+5) 365 [.tup (.str x::r)] (.bytes (dg (.tup (.str x::r)))):=λ{n H Q X} h=>by
 show fn (n:=n+(k+4)) 20 20 agc rfl λK XK hK J J=>?_;intro m;have hc:(c7 (.tup (.str x::r))).length < 2 ^ 64:=iw hz ⋯;have hl:=aeg hc;show acj rv hk hr hz (kN (aK hz ⋯) (yY (n:=n+(k+3)) rfl hc (Tt (n:=n+(k+3)) (SQ (n:=n+(k+3)) (aP ?_ ?_ (hK (.refl _) ?_))))))
 ·exists s7;exists fH;lia
 ·exists cb;exists s7;exists fH;lia
 ·rewrite [gh];show h
end
section
variable {w:bQ} {qt:aN}
noncomputable def nV:ah b_->aq->aq->ar->aR (aq×ar)
 |[],_,_,_=>none
 |b::r,num,wt,k=>if decide ((127:aq) < (b.toNat:aq)) then nV r (num+((b.toNat:aq) - 128)*wt) (wt*128) (k+1) else
  if ((b.toNat:aq)==0) && decide (0 < k) then none else ae (num+(b.toNat:aq)*wt,k+1)
noncomputable def uE (l:ah b_):aR (aq×ar):=nV l 0 1 0
section
variable {b:b_} {r:ah b_} {num wt:aq} {k:ar}
theorem HP (h:decide ((127:aq) < (b.toNat:aq))=ai):nV (b::r) num wt k=nV r (num+((b.toNat:aq) - 128)*wt) (wt*128) (k+1):=bN h
theorem ď (h:decide ((127:aq) < (b.toNat:aq))=au) (h1:((b.toNat:aq)==0)=ai) (h2:decide (0 < k)=ai):nV (b::r) num wt k=none:=(bo (by exists h;decide)).trans (bN (by exists h1;exists h2;rfl))
theorem Gj (h:decide ((127:aq) < (b.toNat:aq))=au) (h1:(((b.toNat:aq)==0) && decide (0 < k))=au):nV (b::r) num wt k=ae (num+(b.toNat:aq)*wt,k+1):=(bo (by exists h;decide)).trans (bo (by exists h1;decide))
end
theorem u8 (h:k < 256):k.toUInt8.toNat=k:=by
 show Nat.mod_eq_of_lt h
theorem aey:∀(n:ar) (num wt:aq) (k:ar),(0 < k->0 < n)->nV (du n++post) num wt k=ae (num+n*wt,k+(du n).length):=by
 intro n;induction n using Kj with
 |_ n ih=>
  intro num wt k hk;by_cases q:n<=127
  ·exists rf q;show (?_:nV (n.toUInt8::post) num wt k=_)
   rw [Gj (aa (u8 (by lia)) (ow (by lia))) (by
    exists u8 (by lia);by_cases z:0 < k
    ·have:=hk z;simp;lia
    ·simp [z]),(u8 (by lia))]
   rfl
  ·exists uM q;show (?_:nV (_::(du (n / 128)++post)) num wt k=_);rw [HP (by exists u8 (by lia);simp;lia),ih (n / 128) (LL (by lia) ⋯) _ _ _ (λJ=>by lia),(u8 (by lia))];have e2:((128+n % 128:ar):aq) - 128=((n % 128:ar):aq):=by lia
   have e3:(n:aq)=((n % 128:ar):aq)+((n / 128:ar):aq)*128:=by lia
   exists e2;exists cY;show bD ae (VS ?_ (by simp only;lia));exists Int.mul_comm wt 128;rewrite [<-Int.mul_assoc,ajJ,<-Int.add_mul];exists e3.symm;rfl
theorem l3:uE (du n++post)=ae ((n:aq),(du n).length):=by
 unfold uE;exists aey n 0 1 0 (λh=>cy h ⋯);simp
theorem aaQ (l:ah b_) (num wt:aq) (k:ar) (h:∀b∈l,decide ((127:aq) < (b.toNat:aq))=ai):nV l num wt k=none:=by
 induction l generalizing num wt k with
 |nil=>rfl
 |cons b l ih=>show aa (HP (h b (.head _))) (ih _ _ _ λc hc=>h c (.tail _ hc))
theorem ac5:∀(n j:ar),j < (du n).length->∀b∈(du n).take j,decide ((127:aq) < (b.toNat:aq))=ai:=by
 intro n;induction n using Kj with
 |_ n ih=>
  intro j hj b hb;by_cases q:n<=127
  ·rw [rf q] at hj hb;have:j=0:=by simpa using hj
   subst this;cases hb
  ·rw [uM q] at hj hb;cases j with
   |zero=>cases hb
   |succ j=>
    rcases List.mem_cons.mp hb with rfl|hb
    ·exists u8 (by lia);simp;lia
    ·show ih (n / 128) (LL (by lia) ⋯) j (by simpa using hj) b hb
theorem ς {b:b_}:Be ((b.toNat:aq) - 128)<=64:=intBits_le_iff.mpr (iw (Int.natAbs_sub_le ..) (r5 (ajA b.toNat_lt 128) ⋯))
theorem Qc {b:b_}:Be ((b.toNat:aq))<=64:=intBits_le_iff.mpr (r5 b.toNat_lt ⋯)
section
variable {H:aj} {n:ar} {Q:PQ} {X:PX}
theorem Qi {d:ah b_} {i:ar} (h:i < d.length):∃b,d[i]?=ae b/\d.drop i=b::d.drop (i+1):=(ao (d[i]) (by simp [h]) (Fq h))
theorem Ni {a k:ar}:decide ((a:aq) < ((a+k:ar):aq))=decide (0 < k):=decide_eq_decide.mpr (by lia)
theorem tG {d:ah b_} {j:aq} {a:ar} (ej:j=(a:aq)) (hz:d.length<=8000000) (h1:∀v k,uE (d.drop a)=ae (v,k)->Q (.tup [.int v,.int ((a+k:ar):aq)]) H) (h2:uE (d.drop a)=none->∀x i,X ⟨64,.str x,.int i⟩ H):
  bq (cx w ai) (n+3) (.ref 276) [.bytes d,.int j] H Q X:=by
 exists ej;have f_:d.length<=1099511627776:=aK hz ⋯;show fn 20 20 Zq rfl λK XK hK J hX=>?_;intro m;show wh fO 20 20 (λs:ar×aq×aq=>(QX "spot" "weight" "number" "at" "data" (.int ((a+s.1:ar):aq)) (.int s.2.2) (.int s.2.1) (.int (a:aq)) (.bytes d))) (λJ=>H) (λs=>nV (d.drop (a+s.1)) s.2.1 s.2.2 s.1=uE (d.drop a)) (λs=>d.length - (a+s.1)) (0,0,1) rfl (lW rfl rfl rfl rfl rfl trivial) rfl λ⟨k,num,wt⟩ p K' hn hr=>?_;have p:nV (d.drop (a+k)) num wt k=uE (d.drop a):=p;show kN f_ (br (λq=>?_) λq=>?_)
 ·have q':a+k < d.length:=Int.ofNat_lt.mp (fi q);show aA (Qi q') λb eb ed=>?_;have p:=ed▸p;show rg rfl f_ eb (br (λq2=>?_) λq2=>?_)
  ·show rg rfl f_ eb (oZ (.of_left ς) (oZ (.of_right ⋯) (hn (k+1,num+((b.toNat:aq) - 128)*wt,wt*128) _ ((HP q2).symm.trans p) (ajB q' (U2 _)) (lW rfl rfl rfl rfl rfl trivial))))
  ·show kN f_ (br (λq3=>?_) λq3=>rg rfl f_ eb (br (λq4=>br (λq5=>hX (.refl _) (h2 (p.symm.trans (ď q2 q4 (Ni.symm.trans q5))) _ _)) λq5=>?_) λq4=>?_))
   ·show cy (Int.ofNat_le.mp (fi q3)) (Nat.not_le.mpr q')
   ·show rg rfl f_ eb (oZ (.of_left Qc) (hK (.refl _) (h1 _ (k+1) (p.symm.trans (Gj q2 (by exists (Ni (a:=a)).symm;exists q5;rewrite [KA];rfl))))))
   ·show rg rfl f_ eb (oZ (.of_left Qc) (hK (.refl _) (h1 _ (k+1) (p.symm.trans (Gj q2 (dq q4))))))
 ·have q':d.length<=a+k:=Int.ofNat_le.mp (Int.not_lt.mp (ml q));have p:=vN q'▸p;show kN f_ (Aa (hX (.refl _) (h2 p.symm _ _)) λq3=>?_);show cy (Int.ofNat_le.mpr q') (ml q3)
end
end
section
variable {w:bQ} {qt:aN}
theorem sE {α:Type} {d x y:ah α} (h:d.drop a=x++y):d.drop (a+x.length)=y:=by
 exists List.drop_drop.symm;exists h;exists ajK;rfl
theorem uU {α:Type} {d x:ah α} (h:d.drop a=x):x.length=d.length - a:=by exists h.symm;exists Fy;rfl
theorem Gv (n:ar):0 < (du n).length:=by
 by_cases h:n<=127
 ·exists rf h;show F8 _
 ·exists uM h;show F8 _
theorem TG:∀l:ah ar,l.length<=(gB l).length
 |[]=>eY _
 |c::l=>by exists Dl;exists cb;exists cY;have:=TG l;have:=Gv c;lia
theorem Nn:gB (l++r)=gB l++gB r:=by unfold gB;exists dz;exists VU;rfl
theorem Rl (h:(i:aq)<=j):(if j < (i:aq) then j else (i:aq))=(i:aq):=bo (Int.not_lt.mpr h)
theorem Us {n x p d a:ar} (ha:a<=d) (e:x+p=d - a) (h:n<=x):(n:aq)<=(d:aq) - a+1:=by
 exists (ajL ha).symm;exists e.symm;show dH (Int.ofNat_le.mpr (aK h (eC x p))) (ajM ⋯)
section
variable {H:aj} {n:ar} {Q:PQ} {X:PX}
theorem ad0 {d post:ah b_} {l:ah ar} {j jm:aq} {a:ar} (ej:j=(a:aq)) (em:jm=(l.length:aq)) (hz:d.length<=8000000) (ha:a<=d.length) (hd:d.drop a=gB l++post) (hl:∀c∈l,c<=1114111) (hn:l.length<=90000) (h:Q (.tup [.str ⟨l.toArray⟩,.int ((a+(gB l).length:ar):aq)]) H):
  bq (cx w ai) (n+4) (.ref 309) [.bytes d,.int j,.int jm] H Q X:=by
 subst ej em;have f_:d.length<=1099511627776:=aK hz ⋯;have hle:=uU hd;replace hle:=cb▸hle;have Iw:=TG l;show fn 20 20 age rfl λK XK hK J hX=>?_;intro m D hD;show ⟨rfl,kN f_ (Gf rfl ?_)⟩;show (Rl (Us ha hle Iw)).symm▸?_;show (aP (by lia) (by lia) (zt l.length (λ_ (s:ah ar×ah ar)=>(QX "spot" "signs" "many" "at" "data" (.int ((a+(gB s.1).length:ar):aq)) (.ref D) (.int (l.length:aq)) (.int (a:aq)) (.bytes d))) (λJ s=>H.set D (.list ((s.1.map λc=>(⟨#[c]⟩:ak)).map .str))) (λi s=>s.1++s.2=l/\s.1.length=i) (λs p=>?_) (λi s hi p K' dU hr=>?_) ([],l) ⟨rfl,rfl⟩))
 ·rcases s with ⟨s1,s2⟩
  have e:s1=l:=by
   have h1:s1++s2=l:=p.1;have h2:s1.length=l.length:=p.2
   have:s2=[]:=by
    have:=bD mj h1;rw [cb] at this;show ajN (by lia)
   rw [this,fW] at h1;show h1
  exists e;show Ra (.inr (ao D rfl (aj.aW ..))) ?_ (hK (nM hD (by simp)) ?_)
  ·rewrite [Qo];show (?_:_+_*0<=_);lia
  ·show (?_:Q (.tup [.str (Vv ("":ak) _),_]) H)
   rewrite [OI];show h
 ·rcases s with ⟨s1,s2⟩
  have h1:s1++s2=l:=p.1;have h2:s1.length=i:=p.2
  obtain ⟨c,r,rfl⟩:∃c r,s2=c::r:=by
   induction s2 using c6 with
   |nil=>rw [fW] at h1;exfalso;lia
   |cons c r=>show (jF c r rfl)
  have lq:d.drop (a+(gB s1).length)=du c++(gB r++post):=by
   show sE ?_;exists hd;exists h1.symm;exists Nn;exists Dl;rewrite [gh,gh];rfl
  have hc:=hl c (h1▸iy _ (.head _));show tG rfl hz (λv k e=>?_) λe=>by rw [lq,l3] at e;injection e
  rw [lq,l3] at e;injection e with ct;injection ct with et sj;subst et;subst sj
  show ki (λq=>by have:=fi q;exfalso;lia)<|?_
  show (ao _ (aj.aW ..) (Uc (by lia) (by lia) (vh (aj.aW ..) ?_ ?_)))
  ·rewrite [bp,bp];exists fH;have:=bD mj h1;lia
  ·rewrite [cV]
   have e1:(s1.map λc=>(⟨#[c]⟩:ak)).map AV.str++[.str ⟨#[((c:ar):aq).toNat]⟩]=((s1++[c]).map λc=>(⟨#[c]⟩:ak)).map AV.str:=by exists dz;exists dz;rfl
   exists e1;show dU (s1++[c],r) _ ⟨by rewrite [gh];show h1,by exists cb;show bD (λx=>x+1) h2⟩ trivial (lW ?_ rfl rfl rfl rfl trivial);have e2:a+(gB s1).length+(du c).length=a+(gB (s1++[c])).length:=by exists Nn;exists cb;exists Dl;exists cb;rewrite [<-ix];rfl
   show bD (λk:ar=>ae (AV.int (k:aq))) e2
end
end
section
variable {w:bQ} {qt:aN}
def Nr (w:bQ) (k:ar) (v:AV):Prop:=∀{d post:ah b_} {a:ar} {j dep:aq},j=(a:aq)->d.drop a=c7 v++post->d.length<=8000000->dep+(k:aq)<=21->
 PF w ai (2*k+5) 323 [.bytes d,.int j,.int dep] (.tup [v,.int ((a+(c7 v).length:ar):aq)])
theorem Rv.pos (r:Rv k v):0 < (c7 v).length:=by
 cases r <;> show F8 _
theorem SH:∀{l:ah AV},(∀a∈l,0 < (c7 a).length)->l.length<=(iX l).length
 |[],_=>i0 _
 |a::l,h=>by
  simp only [wW,xH,cb,cY];have:=SH λb hb=>h b (.tail _ hb);have:=h a (.head _);lia
theorem Pp:iX (l++r)=iX l++iX r:=by rewrite [y5,y5,y5];exists dz;exists VU;rfl
theorem Ĭ:iX [a]=c7 a:=by simp only [wW,xH,fW]
section
variable {H:aj} {n:ar} {Q:PQ} {X:PX}
theorem aba {d post:ah b_} {l:ah AV} {k:ar} {j jm dep:aq} {a:ar} (ih:∀v∈l,Nr w k v) (pos:∀v∈l,0 < (c7 v).length) (ej:j=(a:aq)) (em:jm=(l.length:aq)) (hz:d.length<=8000000) (ha:a<=d.length) (hd:d.drop a=iX l++post) (hn:l.length<=90000) (ZH:dep<=20) (hk:dep+1+(k:aq)<=21):
  PF w ai (2*k+6) 316 [.bytes d,.int j,.int jm,.int dep] (.tup [.tup l,.int ((a+(iX l).length:ar):aq)]):=λ{n H Q X} h=>by
 subst ej em;have f_:d.length<=1099511627776:=aK hz ⋯;have hle:=uU hd;replace hle:=cb▸hle;have Iw:=SH pos;show fn (n:=n+(2*k+5)) 20 20 WH rfl λK XK hK J hX=>?_;intro m;show br (λq=>cy (fi q) (Int.not_lt.mpr ZH)) λJ D hD=>?_;show ⟨rfl,kN f_ (Gf rfl ?_)⟩;show (Rl (Us ha hle Iw)).symm▸?_;show (aP (by lia) (by lia) (zt l.length (λ_ (s:ah AV×ah AV)=>(Hy "spot" "found" "depth" "many" "at" "data" (.int ((a+(iX s.1).length:ar):aq)) (.ref D) (.int dep) (.int (l.length:aq)) (.int (a:aq)) (.bytes d))) (λJ s=>H.set D (.list s.1)) (λi s=>s.1++s.2=l/\s.1.length=i) (λs p=>?_) (λi s hi p K' dU hr=>?_) ([],l) ⟨rfl,rfl⟩))
 ·rcases s with ⟨s1,s2⟩
  have e:s1=l:=by
   have h1:s1++s2=l:=p.1;have h2:s1.length=l.length:=p.2
   have:s2=[]:=by
    have:=bD mj h1;rw [cb] at this;show ajN (by lia)
   rw [this,fW] at h1;show h1
  exists e;show kH (.inr (ao D rfl (aj.aW ..))) (mC (aK hn ⋯)) (hK (nM hD (by simp)) h)
 ·rcases s with ⟨s1,s2⟩
  have h1:s1++s2=l:=p.1;have h2:s1.length=i:=p.2
  obtain ⟨c,r,rfl⟩:∃c r,s2=c::r:=by
   induction s2 using c6 with
   |nil=>rw [fW] at h1;exfalso;lia
   |cons c r=>show (jF c r rfl)
  have lq:d.drop (a+(iX s1).length)=c7 c++(iX r++post):=by
   show sE ?_;exists hd;exists h1.symm;exists Pp;simp only [wW,xH,gh]
  show ih c (h1▸iy _ (.head _)) rfl lq hz hk<|(ao _ (aj.aW ..) (vh (aj.aW ..) ?_ ?_))
  ·have:=bD mj h1;exists fH;lia
  ·rewrite [cV]
   show dU (s1++[c],r) _ ⟨by rewrite [gh];show h1,by exists cb;show bD (λx=>x+1) h2⟩ trivial (sg ?_ rfl rfl rfl rfl rfl trivial);have e2:a+(iX s1).length+(c7 c).length=a+(iX (s1++[c])).length:=by exists Pp;exists cb;exists Ĭ;rewrite [<-ix];rfl
   show bD (λk:ar=>ae (AV.int (k:aq))) e2
theorem agV:xh (kO i)=i:=by
 have h2:∀x:aq,x.fmod 2=x % 2:=λx=>LM _ ⋯;have h3:∀x:aq,x.fdiv 2=x / 2:=λx=>F0 _ ⋯;unfold xh kO;simp only [h2,h3,beq_iff_eq];split <;> split <;> lia
theorem DN {G:Prop} (h:a < n) (q:decide ((n:aq)<=(a:aq))=ai):G:=cy (Int.ofNat_le.mp (fi q)) (Nat.not_le.mpr h)
theorem Wj {G:Prop} (e:x+(y+p)=n) (q:decide ((n:aq) < (x:aq)+(y:aq))=ai):G:=cy (Int.ofNat_lt.mp (fi q)) (Nat.not_lt.mpr (e▸ix x y p▸eC ..))
theorem gZ {a c t:ar}:a+1+c+t=a+(c+t+1):=by rewrite [ix,ix,lB 1];rfl
theorem DC {d post:ah b_} {a k:ar} {b:b_} {x:ah b_} (hd:d.drop a=b::(du k++x)++post):a < d.length/\d[a]?=ae b/\d.drop (a+1)=du k++(x++post)/\d.drop (a+1+(du k).length)=x++post/\a+1+(du k).length+(x.length+post.length)=d.length:=by
 have h1:a < d.length:=by
  rcases KS a d.length with h|h
  ·show h
  ·rw [vN h] at hd;injection hd
 show aA (Qi h1) λb' e1 e2=>?_;have e2:=hd▸e2;simp only [ajO,VI,gh] at e2;have h4:=uU (sE e2.2.symm);have h5:=uU e2.2.symm;simp only [cb] at h4 h5;show (f9 h1 (e2.1▸e1) e2.2.symm (sE e2.2.symm) (by rewrite [ix (a+1)];exists h5;show ajP h1))
theorem IG {α:Type} {d x y:ah α} (h:d.drop p=x++y):cut d (ae p) (ae (p+x.length))=x:=by
 show (?_:(d.take (p+x.length)).drop p=x);exists aiH;exists h;rewrite [ajQ];exists ajR;rfl
noncomputable def ET:ah aq:=[105,116,111,114]
theorem Ľ {k:ar} {v:AV} (r:Rv k v):Nr w k v:=by
 induction r with
 |int k i hi=>
  intro d post a j dep ej hd hz hk n H Q X h;subst ej;have f_:d.length<=1099511627776:=aK hz ⋯;have hd2:d.drop a=(105::(du (kO i).toNat++[]))++post:=by rewrite [fW];show hd
  show jr (DC hd2) λh1 h2 h3 h4 h5=>fn (n:=n+(2*k+4)) 30 30 Ey rfl λK XK hK J hX=>?_;intro m;show kN f_ (br (DN h1) λJ=>?_);show rg rfl f_ h2 (DX (xs:=ET) (br (λq=>cy q ⋯) λJ=>?_));show tG (a:=a+1) (n:=n+(2*k+1)) rfl hz (λv k' e=>?_) λe=>by rw [h3,l3] at e;injection e
  rw [h3,l3] at e;injection e with ct;injection ct with et sj;subst et;subst sj
  have e1:xh (((kO i).toNat:ar):aq)=i:=by exists Pb.symm;show agV
  have e2:a+1+(du (kO i).toNat).length=a+(c7 (.int i)).length:=by rewrite [mL];exists cY;rewrite [ix,lB 1];rfl
  rw [<-e2] at h;show Wy (n:=n+(2*k+3)) (hK (.refl _) ?_);exists e1;show h
 |str k x hx hl=>
  intro d post a j dep ej hd hz hk n H Q X h;subst ej;have f_:d.length<=1099511627776:=aK hz ⋯;show jr (DC hd) λh1 h2 h3 h4 h5=>fn (n:=n+(2*k+4)) 30 30 Ey rfl λK XK hK J hX=>?_;intro m;show kN f_ (br (DN h1) λJ=>?_);show rg rfl f_ h2 (DX (xs:=ET) (br (λq=>cy q ⋯) λJ=>?_));show tG (a:=a+1) (n:=n+(2*k+1)) rfl hz (λv k' e=>?_) λe=>by rw [h3,l3] at e;injection e
  rw [h3,l3] at e;injection e with eR;injection eR with fD AD;subst fD;subst AD
  have e2:a+1+(du x.length).length+(gB x.cps.toList).length=a+(c7 (.str x)).length:=by simp only [mL,m9,mS,mq,cY,cb];show gZ
  rw [<-e2] at h;show ad0 rfl (bD (λk:ar=>(k:aq)) (jx (xs:=x.cps)).symm) hz (h5▸eC ..) h4 hx (hl) (hK (.refl _) h)
 |bytes k b hl=>
  intro d post a j dep ej hd hz hk n H Q X h;subst ej;have f_:d.length<=1099511627776:=aK hz ⋯;rw [mS] at hd;show jr (DC hd) λh1 h2 h3 h4 h5=>fn (n:=n+(2*k+4)) 30 30 Ey rfl λK XK hK J hX=>?_;intro m;show kN f_ (br (DN h1) λJ=>?_);show rg (b:=111) rfl f_ h2 (DX (xs:=ET) (br (λq=>cy q ⋯) λJ=>?_));show tG (a:=a+1) (n:=n+(2*k+1)) rfl hz (λv k' e=>?_) λe=>by rw [h3,l3] at e;injection e
  rw [h3,l3] at e;injection e with jb;injection jb with j9 Hj;subst j9;subst Hj
  have e2:a+1+(du b.length).length+b.length=a+(c7 (.bytes b)).length:=by simp only [mL,m9,mS,mq,cY,cb];show gZ
  have h:=(e2).symm▸h;show kN f_ (br (Wj h5) λJ=>?_);show (ao _ rfl (ao _ rfl (zQ (by exists fH;lia) (CC (hK (.refl _) ?_)))));exists IG h4;show h
 |tup k l hl hn ih=>
  intro d post a j dep ej hd hz hk n H Q X h;subst ej;have f_:d.length<=1099511627776:=aK hz ⋯;rw [mq] at hd;show jr (DC hd) λh1 h2 h3 h4 h5=>fn (n:=n+(2*k+6)) 30 30 Ey rfl λK XK hK J hX=>?_;intro m;show kN f_ (br (DN h1) λJ=>?_);show rg (b:=114) rfl f_ h2 (DX (xs:=ET) (ki (λq=>cy q ⋯)<|?_));show tG (a:=a+1) (n:=n+(2*k+3)) rfl hz (λv k' e=>?_) λe=>by rw [h3,l3] at e;injection e
  rw [h3,l3] at e;injection e with jC;injection jC with mH Ts;subst mH;subst Ts
  have e2:a+1+(du l.length).length+(iX l).length=a+(c7 (.tup l)).length:=by simp only [mL,m9,mS,mq,cY,cb];show gZ
  rw [<-e2] at h;show aba (λv hv=>ih v hv) (λv hv=>(hl v hv).pos) (n:=n) rfl rfl hz (h5▸eC ..) h4 hn (by lia) (by lia) (hK (.refl _) h)
theorem aeT (rv:Rv k (.tup (.str x::r))) (hk:k<=20) (hr:r.length<=80000) (hz:(c7 (.tup (.str x::r))).length<=8000000):PF w ai (2*k+6) 344 [.bytes (c7 (.tup (.str x::r)))] (.tup (.str x::r)):=λ{n H Q X} h=>by
 show fn (n:=n+(2*k+5)) 20 20 ahd rfl λK XK hK J hX=>?_;intro m;show Ľ rv rfl (fW _).symm hz (by lia)<|kN (aK hz ⋯) (ki (λq=>by have:=fi q;exfalso;lia)<|?_)
 show Pc (n:=n+(2*k+4)) hr (hK (.refl _) h)
end
end
section
variable {w:bQ} {qt:aN}
theorem Cp (f k:ar) (hk:jc sc cls=ai) (hg:hV (cx w qt).K cls (.ref D)=ai) (hD:kg (cx w qt).K D=ai) (hm:qI (cx w qt).K D (.ref D)=ae ai)
  (h:vS vk f k sc body ⟨cx w qt,n⟩ ρ H Q (λx H'=>x.C=D/\vS vk f k sc (ql::rD) ⟨cx w au,n⟩ [] H' Q X)):
  cP (cx w qt) n sc (.Try body [.ExceptHandler (ae (.Name cls p)) none (ql::rD) t8] [] [] pos) ρ H Q (λx J H'=>X x H'):=
 QZ hk hg hD (rt fO f k h) λx aO H' q=> .inl ⟨by exists q.1;show hm,WS.aax (λJ J e=>by injection e) (rt fO f k q.2)⟩
section
variable {H:aj} {n:ar} {Q:PQ} {X:PX}
theorem ahb {G:Prop} (ha:a<=n) (h:c+(4+(e+p))=n - a) (q:decide ((n:aq) < ((a+c:ar):aq)+4+(e:aq))=ai):G:=
 cy (Int.ofNat_lt.mp (fi q)) (Nat.not_lt.mpr (by
  exists (ajP ha).symm;exists h.symm;rewrite [ix,ix];show iJ (iJ (iJ (eC ..) _) _) _))
theorem ë {d post:ah b_} {x:ak} {r:ah AV} {k a:ar} {j:aq} (ej:j=(a:aq)) (hd:d.drop a=dg (.tup (.str x::r))++post) (hz:d.length<=8000000) (rv:Rv k (.tup (.str x::r))) (hk:k<=20) (hr:r.length<=80000):
  PF w ai (2*k+7) 372 [.bytes d,.int j] (.tup [.tup (.str x::r),.int ((a+(dg (.tup (.str x::r))).length:ar):aq)]):=λ{n H Q X} h=>by
 exists ej;have f_:d.length<=1099511627776:=aK hz ⋯;have hs:d.length<=bY:=by exists fH;lia
 rw [dg,gh,gh] at hd
 have ha:a < d.length:=by
  rcases KS a d.length with h|h
  ·show h
  ·rw [vN h] at hd;show cy (Gv (c7 (.tup (.str x::r))).length) (by exists (List.append_eq_nil_iff.mp hd.symm).1;decide)
 have h0:=uU hd;have h2:=sE hd;have h3:=sE h2;simp only [cb,s7] at h0;rw [s7] at h3;have c1:=IG h2;rw [s7] at c1;have e2:a+(du (c7 (.tup (.str x::r))).length).length+4+(c7 (.tup (.str x::r))).length=a+(dg (.tup (.str x::r))).length:=by rewrite [dg];exists cb;exists cb;exists s7;lia
 rw [<-e2] at h;show fn (n:=n+(2*k+6)) 30 30 ON rfl λK XK hK J hX=>?_;intro m;show Cp (D:=64) 30 28 rfl (by ext) (by ext) (by ext)<|tG (n:=n+(2*k+3)) rfl hz (λv k' e=>?_) λe=>by rw [hd,l3] at e;injection e
 rw [hd,l3] at e;injection e with ct;injection ct with et sj;subst et;subst sj
 show kN f_ (br (ahb (iK ha) h0) λJ=>?_);show (ao _ rfl (ao _ rfl (zQ hs (CC ?_))));exists IG h3;show (ao _ rfl (ao _ rfl (zQ hs (CC (Tt (n:=n+(2*k+5)) (SQ (n:=n+(2*k+5)) (IY ?_)))))));exists c1;show ki (λq=>?_)<|?_
 ·rw [Bb] at q;injection q
 show aeT rv hk hr (by lia) (hK (.refl _) h)
theorem adq {d:ah b_} {v:AV} {a i:ar} {j:aq} (ej:j=(a:aq)) (ha:a<=d.length) (hd:d.drop a=(dg v).take i) (hi:i < (dg v).length) (hz:d.length<=8000000):
  PF w ai 6 372 [.bytes d,.int j] .none:=λ{n H Q X} h=>by
 exists ej;have f_:d.length<=1099511627776:=aK hz ⋯;show fn 30 30 ON rfl λK XK hK J hX=>?_;intro m;show Cp (D:=64) 30 28 rfl (by ext) (by ext) (by ext) ?_;have h0:=uU hd;rw [dg,List.take_append] at hd;by_cases q:i < (du (c7 v).length).length
 ·have hn:uE (d.drop a)=none:=by
   exists hd;exists Vt (iK q);exists VV;rewrite [fW];show aaQ _ _ _ _ (ac5 _ _ q)
  show tG rfl hz (λv k' e=>by rw [hn] at e;injection e) λe J J=>⟨rfl,hK (.refl _) h⟩
 ·have hd:=Lf (Nat.not_lt.mp q)▸hd;rw [dg] at hi h0;simp only [FA,cb,s7] at hi h0;show tG rfl hz (λv' k' e=>?_) λe=>by rw [hd,l3] at e;injection e
  rw [hd,l3] at e;injection e with eR;injection eR with fD AD;subst fD;subst AD
  show kN f_ (Aa (hK (.refl _) h) λq=>?_);rw [Le (iK hi)] at h0;show cy hi (Nat.not_lt.mpr (h0▸Nat.le_sub_of_add_le (by rewrite [lB,<-ix,<-ix];show Int.ofNat_le.mp (Int.not_lt.mp (ml q)))))
end
end
section
variable {w:bQ} {qt:aN}
noncomputable def ŏ:ah ak:=["boxes","subscribed","next_validity"]
set_option genInjectivity false in
structure Slot where
 b:Bx
 B:aF
 dx:aF
 L:aF
noncomputable def fj (l:ah Slot):ah (ak×AV):=l.map λt=>(t.b.name,.ref t.B)
set_option genInjectivity false in
structure bc where
 bs:ah Bx
 subs:ah ak
 nv:aq
noncomputable def iz (l:ah Slot):cW:= .dict ((fj l).map λp=>(.s p.1,p.2))
noncomputable def rR (dS Dd:aF) (s:bc):cW:= .inst 462 dS ŏ [.ref Dd,.lst (s.subs.map .str),.int s.nv]
inductive cA (H:aj) (S dS Dd:aF) (l:ah Slot) (s:bc):Prop
 |mk (hs:H S=ae (rR dS Dd s)) (hd:H Dd=ae (iz l)) (pm:(l.map (λx=>x.b)).Perm s.bs) (nd:(l.map (λx=>x.b.name)).Nodup) (at_:∀t∈l,dE H t.B t.dx t.L t.b) (ln:(l.map (λx=>x.L)).Nodup)
def jQ (S Dd:aF) (l:ah Slot) (x:aF):Prop:=x=S\/x=Dd\/∃t∈l,x=t.B\/x=t.L
inductive gW (H:aj) (S:aF) (F:aF->Prop) (s:bc):Prop
 |mk (ex:∃dS Dd l,cA H S dS Dd l s/\∀x,jQ S Dd l x->F x)
theorem s9:(fj l).map (λx=>x.1)=l.map (λx=>x.b.name):=by unfold fj;exists cZ;rfl
theorem rd (nd:(l.map (λx=>x.b.name)).Nodup) (h:t∈l):iO (fj l) t.b.name=ae (.ref t.B):=by
 induction l with
 |nil=>cases h
 |cons a l ih=>
  rw [dX,oA] at nd;unfold iO fj;exists dX;rcases List.mem_cons.mp h with rfl|h
  ·exists VN (by simp);rfl
  ·rw [VO (λe=>nd.1 (by exists (show a.b.name=t.b.name from fi e);show List.mem_map.mpr (ao t h rfl)))];show ih nd.2 h
theorem Hm (h:(iO (fj l) x).isSome=ai):∃t∈l,t.b.name=x:=by
 unfold iO fj at h;rw [Ly,VP] at h;show aA h λp hp e=>aA (List.mem_map.mp hp) λt ht bC=>?_;subst bC;show (ao t ht (fi e))
noncomputable def c5 (bs:ah Bx) (x:ak):aR Bx:=bs.find? λb=>b.name==x
theorem qa (nd:(bs.map (λx=>x.name)).Nodup) (h:b∈bs):c5 bs b.name=ae b:=by
 induction bs with
 |nil=>cases h
 |cons a l ih=>
  rw [dX,oA] at nd;unfold c5;rcases List.mem_cons.mp h with rfl|h
  ·exists VN (by simp);rfl
  ·rw [VO (λe=>nd.1 (by exists (show a.name=b.name from eq_of_beq e);show List.mem_map.mpr (ao b h rfl)))];show ih nd.2 h
theorem qi (h:c5 bs x=ae b):b∈bs/\b.name=x:=⟨ajF h,eq_of_beq (VT (p:=λb:Bx=>b.name==x) h)⟩
theorem Qa (h:∀b∈bs,b.name≠x):c5 bs x=none:=by
 unfold c5;rewrite [ajC];intro b hb;simpa using h b hb
noncomputable def sP (bs:ah Bx) (x:ak):AV:=match c5 bs x with
 |some b=>b.told
 |none=> .none
noncomputable def bc.names (s:bc):ah ak:=iq (s.bs.map (λx=>x.name))
noncomputable def bc.told (s:bc):AV:= .tup [.int s.nv,.tup (s.subs.map .str),.tup (s.names.map (sP s.bs))]
theorem acP (p:l.Perm m):iq l=iq m:=Es Jc ((ke fZ l).trans (p.trans (ke fZ m).symm)) (tj xW uO l) (tj xW uO m)
noncomputable def jw:ah ak:=["\\Seen","\\Deleted","key","\\Flagged","Key"]
inductive gR (s:bc):Prop
 |mk (gV:s.bs.length<=50) (bx:∀b∈s.bs,jo b/\b.gone.length<=900/\b.name.length<=30000) (num:∀b∈s.bs,b.lts.length<=30/\b.top<=1000000/\b.nu<=1000000/\∀u∈bT b.lts,u < b.nu) (un:∀b∈s.bs,∀x∈b.lts,∀t∈x.flags,t∈jw) (sub:s.subs.length<=50) (sn:∀x∈s.subs,x.length<=80000)
section
variable {H:aj} {S dS Dd:aF} {l:ah Slot} {s:bc} {n:ar} {Q:PQ} {X:PX}
theorem cA.names (a:cA H S dS Dd l s):iq (l.map (λx=>x.b.name))=s.names:=by
 have:=acP (a.3.map (λx=>x.name));rw [cZ] at this;show this
theorem cA.wz (a:cA H S dS Dd l s):(s.bs.map (λx=>x.name)).Nodup:=by
 have:=(a.3.map (λx=>x.name)).nodup_iff.mp (aa cZ a.4);show this
theorem cA.mem (a:cA H S dS Dd l s) (h:t∈l):t.b∈s.bs:=a.3.mem_iff.mp (List.mem_map.mpr (ao t h rfl))
theorem cA.slot (a:cA H S dS Dd l s) (h:b∈s.bs):∃t∈l,t.b=b:=List.mem_map.mp (a.3.mem_iff.mpr h)
theorem cA.len (a:cA H S dS Dd l s):l.length=s.bs.length:=by have:=a.3.length_eq;rwa [bp] at this
theorem rK:(fj l).length=l.length:=bp ..
theorem rA (a:cA H S dS Dd l s) (hz:x.length<=90000) (h1:∀t∈l,t.b.name=dN x->c5 s.bs (dN x)=ae t.b->Q (.ref t.B) H) (h2:(∀t∈l,t.b.name≠dN x)->c5 s.bs (dN x)=none->∀x i,X ⟨76,.str x,.int i⟩ H):
  bq (cx w ai) (n+3) (.ref 447) [.ref S,.str x] H Q X:=by
 have nd:((fj l).map (λx=>x.1)).Nodup:=s9▸a.4;show fn 20 20 ag3 rfl λK XK hK J hX=>?_;intro m;show Gg hz (bK.mk a.1 (HF (Y:=gQ m.c) l6 a.2 nd (br (λq=>?_) λq=>?_)))
 ·have Um:∀t∈l,t.b.name≠dN x:=λt ht e=>by
   have:=rd a.4 ht;rw [e] at this;rw [this] at q;injection q
  show hX (.refl _) (h2 Um (Qa λb hb e=>?_) _ _);show aA (a.slot hb) λt ht bW=>?_;subst bW;show Um t ht e
 ·show aA (Hm (iB q)) λt ht e=>(bK.mk a.1 (Qd (Y:=gQ m.c) a.2 nd (e▸rd a.4 ht) (hK (.refl _) (h1 t ht e (e▸qa a.wz (a.mem ht))))))
theorem RN (a:cA H S dS Dd l s) (hl:s.bs.length<=50) (h:Q (.lst (s.names.map .str)) H):bq (cx w qt) (n+1) (.ref 454) [.ref S] H Q X:=by
 have nd:((fj l).map (λx=>x.1)).Nodup:=s9▸a.4;show fn 20 20 aaj rfl λK XK hK J hX=>?_;intro m;show (bK.mk a.1 (B9 (Y:=gQ m.c) l6 a.2 nd (by exists rK;exists a.len;show cH hl) ?_));have e:(fj l).map (λp=>(gQ m.c).av p.1)=(l.map (λx=>x.b.name)).map .str:=by exists cZ;exists cZ;rfl
 exists e;show D3 (.inl rfl) (by rewrite [bp];exists a.len;lia) (hK (.refl _) ?_);exists a.names;show h
theorem IS (a:cA H S dS Dd l s) (f:gR s) (h:Q s.told H):bq (cx w qt) (n+4) (.ref 459) [.ref S] H Q X:=by
 have nd:((fj l).map (λx=>x.1)).Nodup:=s9▸a.4;have nl:s.names.length=s.bs.length:=by unfold bc.names iq;rewrite [qk,bp];rfl
 show fn 20 20 aex rfl λK XK hK J hX=>?_;intro m;show (bK.mk a.1 (RN a f.1 ?_));show fY s.names EL (λJ=>ai) (sP s.bs) (λJ=>cL) (cH (nl▸f.1)) trivial (λx hx H' hH=>(aP rfl rfl (λJ=>?_))) λJ=>?_
 ·rw [<-a.names] at hx;show aA (List.mem_map.mp ((ke fZ _).mem_iff.mp hx)) λt ht e=>(bK.mk (hH _ _ a.1) (Qd (Y:=gQ m.c) (av:= .ref t.B) (hH _ _ a.2) nd (e▸rd a.4 ht) (bK.mk (hH _ _ (a.5 t ht).1) (ö ⟨hH _ _ (a.5 t ht).1,hH _ _ (a.5 t ht).2⟩ (f.2 _ (a.mem ht)).1.1 (aK (f.2 _ (a.mem ht)).2.1 ⋯) (aP ?_ rfl trivial)))));unfold sP;exists e.symm;exists qa a.wz (a.mem ht);rfl
 ·rewrite [ja]
  show kH (.inl rfl) (by rewrite [bp];exists nl;show cH f.1) (ao _ a.1 (ao _ a.1 (kH (.inl rfl) (by rewrite [bp];show cH f.5) (hK (.refl _) h))))
end
end
section
variable {w:bQ} {qt:aN}
def yM (m:Cn) (sc:bA) (t:bR) (bd:Rh->aj->PS->Prop) (TO:aF) (Q:PS):ah (AV×AV)->Rh->aj->Prop
 |[],ρ,H=>Q .next ρ H
 |p::l,ρ,H=>iC (vl m sc t (.tup [p.1,p.2])) λbs=>bd (rk bs ρ) (H.set TO (.otup [p.1,p.2])) λf aO H'=>f= .next/\∃aG iS,H'=aG.set TO (.otup [p.1,p.2])/\aG TO=none/\Sb iS aO/\yM m sc t bd TO Q l iS aG
theorem aby (hb:∀{ρ H Q},bd ρ H Q->WS m.c m.n sc body ρ H Q (λJ J J=>dV)) (items:ah (AV×AV)) (ρ:Rh) (H:aj) (h:yM m sc t bd TO Q items ρ H):LZ m.c m.n sc t body TO Q X items ρ H:=by
 induction items generalizing ρ H with
 |nil=>show h
 |cons a l ih=>
  rcases a with ⟨u,v⟩
  show aA (kc h) λbs e h=>Gh e (WS.wk ((hb h).mono (λf aO H' q=>?_) λJ J J z=>z.elim));show aM q λe0 q=>vd q λaG iS e1 e2 sb q=>aa e0 (ao iS sb.sub (bV aG e1 e2 (ih iS aG q)))
theorem Oy {α σ:Type} (f:α->AV×AV) (R:σ->Rh) (HH:σ->aj) (P:ah α->σ->Prop) (nil:∀s,P [] s->Q .next (R s) (HH s))
  (step:∀x r s,P (x::r) s->∀K:PS,(∀s' aO H',P r s'->H'=(HH s').set TO (.otup [(f x).1,(f x).2])->(HH s') TO=none->Sb (R s') aO->K .next aO H')->iC (vl m sc t (.tup [(f x).1,(f x).2])) λbs=>bd (rk bs (R s)) ((HH s).set TO (.otup [(f x).1,(f x).2])) K)
  (l:ah α) (s:σ) (p:P l s):yM m sc t bd TO Q (l.map f) (R s) (HH s):=by
 induction l generalizing s with
 |nil=>show nil s p
 |cons x r ih=>show step x r s p _ λs' aO H' p' e n b=>⟨rfl,_,_,e,n,b,ih s' p'⟩
theorem RD (ok:VK.Ok vk m.c) (f k:ar) (c8:m.c.qt=ai) (hg:jc sc "zip"=ai) (hv:hV m.c.K "zip" (.ty "zip")=ai) (hs:gy [e1,e2]=ai)
  (h:qS vk f sc [e1,e2] m ρ H (λl aw=>∃a b xs ys,l=[a,b]/\rp m.c a aw xs/\rp m.c b aw ys/\xs.length=ys.length/\∀TO,aw TO=none->yM m sc (.Tuple elts k0 gF) (λaO H' Q'=>vS vk f k sc body m aO H' Q' (λJ J=>dV)) TO Q (xs.zip ys) ρ aw) X):
  cP m.c m.n sc (.For (.Tuple elts k0 gF) (.Call (.Name "zip" p) [e1,e2] [] xO) body [] pos) ρ H Q (λx J H'=>X x H'):=
 agP c8 hg hv hs (((g_ ok f).7 xO hs h).post λl aw x'=>BY x' λa b xs ys e i1 i2 hl q=>(zY a b xs ys e i1 i2 hl (λTO sM=>aby (λq=>rt ok f k q) _ _ _ (q TO sM))))
theorem EO {α:Type} {l:ah α}:(l.map λJ=>ai).all id=ai:=by
 rewrite [oq];intro b hb;show aA (List.mem_map.mp hb) λJ J bC=>?_;exists bC;rfl
section
variable {H:aj} {n:ar} {Q:PQ} {X:PX}
theorem za:PF w qt 1 473 [.int i] (.bool ai):=λ{n H Q X} h=>by
 show fn 20 20 Ď rfl λK XK hK J J=>?_;intro m;show fx rfl (fx rfl (hK (.refl _) h))
theorem NI (hn:l.length<=1000):PF w ai 1 478 [eF l] (.bool ai):=λ{n H Q X} h=>by
 show fn 20 20 aca rfl λK XK hK J J=>?_;intro m;show fx rfl (fY l EL (λJ=>ai) (λJ=> .bool ai) (λJ=>cL) (mC (aK hn ⋯)) trivial (λx J H' J=>(aP rfl rfl (λJ=>fx rfl (aP rfl rfl trivial)))) λJ=>?_)
 rewrite [ja]
 have e:(l.map λJ=>AV.bool ai)=(l.map λJ=>ai).map .bool:=by exists cZ;rfl
 exists e;show El rfl (.inl rfl) ?_;exists EO;show hK (.refl _) h
theorem GR {l:ah aq} (hn:l.length<=1000):PF w ai 2 483 [.tup (l.map .int)] (.bool ai):=λ{n H Q X} h=>by
 show fn 20 20 afL rfl λK XK hK J J=>?_;intro m;show fx rfl (fY l rL (λJ=>ai) (λJ=> .bool ai) (λJ=>cL) (mC (aK hn ⋯)) trivial (λx J H' J=>(aP rfl rfl (λJ=>za (aP rfl rfl trivial)))) λJ=>?_)
 rewrite [ja]
 have e:(l.map λJ=>AV.bool ai)=(l.map λJ=>ai).map .bool:=by exists cZ;rfl
 exists e;show El rfl (.inl rfl) ?_;exists EO;show hK (.refl _) h
inductive ma:AV->ar->Prop
 |t (x:ak):ma (.str x) 116
 |n (i:aq):ma (.int i) 110
 |o (b:ah b_):ma (.bytes b) 111
 |f (l:ah ak) (h:l.length<=1000):ma (eF l) 102
 |u (l:ah aq) (h:l.length<=1000):ma (.tup (l.map .int)) 117
 |r (l:ah AV):ma (.tup l) 114
theorem afw (f:ma v k):PF w ai 3 490 [v,.str ⟨#[k]⟩] (.bool ai):=λ{n H Q X} h=>by
 show fn 20 20 WQ rfl λK XK hK J J=>?_;intro m;cases f with
 |t x=>show fx rfl (hK (.refl _) h)
 |n i=>show za (hK (.refl _) h)
 |o b=>show fx rfl (hK (.refl _) h)
 |f l hl=>show NI hl (hK (.refl _) h)
 |u l hl=>show GR hl (hK (.refl _) h)
 |r l=>show fx rfl (hK (.refl _) h)
end
end
section
variable {w:bQ} {qt:aN}
noncomputable def nN:ah (ak×ak):=[("create","tn"),("delete","t"),("rename","tt"),("append","tfno"),("flags","tnf"),("store","tutfn"),("expunge","tu"),("copy","tut"),("move","tut"),("subscribe","t"),("unsubscribe","t"),("forget","tn"),("snapshot","nfr")]
noncomputable def km (p:ak×ak):ak:=p.1++(":":ak)++p.2
theorem ω:yr ("create:tn delete:t rename:tt append:tfno flags:tnf store:tutfn expunge:tu copy:tut move:tut subscribe:t unsubscribe:t forget:tn snapshot:nfr":ak) (" ":ak)=nN.map km:=by ext
noncomputable def DH (p:ak×ak):aN:=yr (km p) (":":ak)==[p.1,p.2] && yp p.2=="str_ascii_iterator" && nN.all (λq=>p.1 !=q.1||p.2==q.2) && ie (km p).length 100 &&
 ie (FG (km p) (tX (km p) (":":ak) 0 (km p).length ((km p).length+1)) (":":ak).length).length 100
theorem Α:nN.all DH=ai:=by ext
theorem afZ {α:Type} {a:α} {l:ah α}:cut (a::l) (ae 1) none=l:=by
 show (?_:((a::l).take (a::l).length).drop 1=l);exists Bl;rfl
theorem abE {vs:ah (AV×ar)}:(vs.map (λx=>x.1)).zip ((vs.map (λx=>x.2)).map λk=>AV.str ⟨#[k]⟩)=vs.map λp=>(p.1,.str ⟨#[p.2]⟩):=by
 induction vs with
 |nil=>rfl
 |cons p l ih=>(exists dX;exists dX;exists dX;exists LA;exists ih;rfl) <;> rfl
theorem O_ (h:ie n 100=ai):n<=bY:=aK (Nat.ble_eq.mp h) ⋯
section
variable {H:aj} {n:ar} {Q:PQ} {X:PX}
theorem afM {vs:ah (AV×ar)} (ht:(word,shape)∈nN) (hs:shape.cps.toList=vs.map (λx=>x.2)) (hf:∀p∈vs,ma p.1 p.2) (hn:vs.length<=100):PF w ai 4 497 [.tup (.str word::vs.map (λx=>x.1))] .none:=λ{n H Q X} h=>by
 have hl:(AV.str word::vs.map (λx=>x.1)).length<=90000:=by exists cY;rewrite [bp];lia
 have Nt:shape.length=vs.length:=by have:=bD mj hs;rw [bp,jx] at this;show this
 show fn 30 30 aha rfl λK XK hK hN hX=>?_;intro m;show fx rfl (rC (e9 hl) (fx rfl ?_));show Gz rfl (by exists fH;decide+kernel) (by exists fH;decide+kernel) ?_;rw [ω,show (nN.map km).map AV.str=nN.map λp=> .str (km p) by (exists cZ;rfl) <;> rfl];have hT:∀p∈nN,DH p=ai:=λp=>List.all_eq_true.mp Α p
 have hU:∀p∈nN,p.1=word->p.2=shape:=λp hp q=>by
  have ok:=hT p hp;simp only [DH,d9] at ok;have:=List.all_eq_true.mp ok.1.1.2 (word,shape) ht;simp only [A5,bne_iff_ne,beq_iff_eq] at this;show this.elim (λz=>cy q z) id
 have hT:∀p∈nN,yr (km p) (":":ak)=[p.1,p.2]/\yp p.2="str_ascii_iterator"/\ie (km p).length 100=ai/\ie (FG (km p) (tX (km p) (":":ak) 0 (km p).length ((km p).length+1)) (":":ak).length).length 100=ai:=λp hp=>by
  have ok:=hT p hp;simp only [DH,d9,beq_iff_eq] at ok;show (iT ok.1.1.1.1 ok.1.1.1.2 ok.1.2 ok.2)
 generalize nN=T at ht hT hU ⊢;show jX (λp=>AV.str (km p)) (λ_:gv=>([("row",.tup (.str word::vs.map (λx=>x.1)))]:Rh)) (λJ=>H) (λr J=>(word,shape)∈r/\∀p∈r,p∈T) (λJ p=>by cases p.1) (λp r J hp K' dU hr=>?_) T () ⟨ht,λJ h=>h⟩;show m_ (hT p (hp.2 p (.head _))) λo1 o2 o4 o5=>Gz rfl (O_ o4) (O_ o5) ?_;show (o1).symm▸?_;show br (λq=>?_) λq=>?_
 ·have q:p.1=word:=eq_of_beq q;have e2:p.2=shape:=hU p (hp.2 p (.head _)) q;rw [e2] at o2 ⊢;show rC (e9 hl) (wm (e9 (by lia)) (br (λq=>?_) λJ=>?_))
  ·have:=bne_iff_ne.mp q;rw [cY,bp,Nt] at this;show cy rfl this
  show RD fO 30 25 rfl rfl (by ext) rfl (ao 1 rfl (yZ (aK hl ⋯) ?_));show (afZ).symm▸?_;show (zY _ _ _ _ rfl Ws (ė o2) ?_ (λTO sM=>?_))
  ·unfold j6;rewrite [bp,bp];show Nt.symm
  unfold j6;exists hs;exists abE;show Oy (λp=>(p.1,.str ⟨#[p.2]⟩)) (λ_:gv=>(vb "shape" "word" "entry" "row" (.str shape) (.str p.1) (.str (km p)) (.tup (.str word::vs.map (λx=>x.1))))) (λJ=>H) (λr J=>∀p∈r,ma p.1 p.2) (λJ J=>?_) (λv r J hv K2 Ha=>?_) vs () hf
  ·show hr (hK (.refl _) h)
  ·show afw (hv v (.head _)) (Ha () _ _ (λp hp=>hv p (.tail _ hp)) rfl sM (f9 rfl rfl rfl rfl trivial))
 ·show dU () _ ⟨?_,λx hx=>hp.2 x (.tail _ hx)⟩ trivial ⟨rfl,trivial⟩;rcases List.mem_cons.mp hp.1 with e|e
  ·subst e;rw [kZ] at q;injection q
  ·show e
end
end
section
variable {w:bQ} {qt:aN}
theorem aah {n:ar} {sc:bA} {ρ:Rh} {H:aj} {Q:PS} {X:PX} {body:ah fc} {cls oV nm:ak} {p p2 p3 p4 p5 p6 p7 p8 t8 pos:fU} {D D2:aF} (f k:ar) (hk:jc sc cls=ai) (hg:hV (cx w qt).K cls (.ref D)=ai) (hD:kg (cx w qt).K D=ai) (f6:jc sc oV=ai) (Ss:vk.ex oV=ae D2)
  (hn:2<=n) (hs:(sc.names.lookup nm==ae .local)=ai) (hl:ni sc nm=ai) (f1:rF (cx w qt).K D "what"=ai) (f2:rF (cx w qt).K D "at"=ai) (hm:qI (cx w qt).K D (.ref D)=ae ai)
  (h:vS vk f k sc body ⟨cx w qt,n⟩ ρ H Q (λx H'=>x.C=D/\∃u i,x.jt= .str u/\x.at_= .int i/\X ⟨D2,.str u,.int i⟩ H')):
  cP (cx w qt) n sc (.Try body [.ExceptHandler (ae (.Name cls p)) (ae nm) [.Raise (ae (.Call (.Name oV p2) [.Attribute (.Name nm p3) "what" p4,.Attribute (.Name nm p5) "at" p6] [] p7)) none p8] t8] [] [] pos) ρ H Q (λx J H'=>X x H'):=by
 show m_ ((fO (w:=w) (qt:=au)).6 Ss) λg1 g2 g3 pz=>?_;show rl pz λJ J J g4=>?_;show aaB hk hg hD f6 g1 g2 g3 g4 hn hs hl f1 f2 (rt fO f k h) λx aO H' x'=>aM x' λe gA=>cQ gA λu i e1 e2 q=>(aP e hm (cI u i e1 e2 (λJ=>q)))
noncomputable def cT (x:ak):aR ak:=if iU (dN x).cps.toList 0 0 then ae (dN x) else none
theorem I5:(dN x).length<=x.length+5:=by
 unfold dN;split
 ·rewrite [s6];have:=(Ju (x:=x)).2;show (?_:5+_<=_);lia
 ·show (eC ..)
theorem xx {x:ak} (hz:x.length<=80000):PO w ai 4 504 [.str x] 76 .str (cT x):=λ{n H Q X} hq hx=>by
 have ju:(dN x).length<=90000:=aK I5 (aK (tO hz 5) ⋯);show fn 20 20 ac1 rfl λK XK hK hN hX=>?_;intro m;show Gg (aK ‹_› ⋯)<|aah (D:=52) 20 16 rfl (by ext) (by ext) rfl rfl (by show (?_:2<=n+3);lia) rfl rfl (by ext) (by ext) (by ext) ?_
 show YY ju (λv e=>?_) λe u i=>⟨rfl,u,i,rfl,rfl,hX (.refl _) (hx ?_ u i)⟩
 ·show hK (.refl _) (hq (dN x) ?_);split at e
  ·rename_i q;show bN q
  ·injection e
 ·unfold cT;split at e
  ·injection e
  ·rename_i q;show bo q
theorem ach (hz:y.length<=90000):PF w ai 1 419 [.str x,.str y] (.bool (Lp x (y++("/":ak)))):=λ{n H Q X} h=>by
 show fn 20 20 abf rfl λK XK hK J J=>?_;intro m;show ⟨?_,agh (hK (.refl _) h)⟩
 rewrite [s6];show mC (by show (?_:_+1<=_);lia)
section
variable {H:aj} {B dx L S dS Dd:aF} {b:Bx} {l:ah Slot} {s:bc} {n:ar} {Q:PQ} {X:PX}
theorem xJ (a:dE H B dx L b) (ht:b.top+k<=9223372036854775807) (h:Q .none H):bq (cx w qt) (n+2) (.ref 511) [.ref B,.int k] H Q X:=by
 show fn 20 20 afo rfl λK XK hK hN hX=>?_;intro m;show (bK.mk a.1 (ki (λq=>?_)<|hN (.refl _) h));have:=fi q;exfalso;lia
theorem PN (a:dE H B dx L b) (ht:b.top+(k+1)<=9223372036854775807) (hu:b.nu+k - 1<=4294967295) (h:Q .none H):bq (cx w qt) (n+3) (.ref 518) [.ref B,.int k] H Q X:=by
 show fn 20 20 ago rfl λK XK hK hN hX=>?_;intro m;show xJ a ht (bK.mk a.1 (ki (λq=>cy (fi q) (Int.not_lt.mpr hu))<|hN (.refl _) h))
noncomputable def gu (s:bc) (x:ak):aN:=(c5 s.bs x).isSome
theorem cA.has (a:cA H S dS Dd l s):(iO (fj l) x).isSome=gu s x:=by
 rewrite [pM]
 constructor
 ·intro h;show aA (Hm h) λt ht e=>?_;unfold gu;exists e.symm;exists qa a.wz (a.mem ht);rfl
 ·intro h;unfold gu at h;cases q:c5 s.bs x with
  |none=>rw [q] at h;injection h
  |some b=>
   show aM (qi q) λh1 h2=>aA (a.slot h1) λt ht bW=>?_;subst bW;exists h2.symm;exists rd a.4 ht;rfl
theorem cA.nZ (a:cA H S dS Dd l s):((fj l).map (λx=>x.1)).Nodup:=s9▸a.4
theorem I2 (a:cA H S dS Dd l s) (h1:gu s x=au->Q .none H) (h2:gu s x=ai->∀x i,X ⟨76,.str x,.int i⟩ H):bq (cx w qt) (n+3) (.ref 525) [.ref S,.str x] H Q X:=by
 show fn 20 20 Ĺ rfl λK XK hK hN hX=>?_;intro m;show (bK.mk a.1 (DE (Y:=gQ m.c) l6 a.2 a.nZ (br (λq=>hX (.refl _) (h2 (a.has.symm.trans q) _ _)) λq=>hN (.refl _) (h1 (a.has.symm.trans q)))))
noncomputable def qT (s:bc) (v:aq):aN:=decide (s.nv<=v) && decide (v < 4294967295)
theorem TK (a:cA H S dS Dd l s) (h1:qT s v=ai->Q .none H) (h2:qT s v=au->∀x i,X ⟨76,.str x,.int i⟩ H):bq (cx w qt) (n+3) (.ref 532) [.ref S,.int v] H Q X:=by
 show fn 20 20 ahx rfl λK XK hK hN hX=>?_;intro m;show (bK.mk a.1 (br (λq=>br (λq2=>hX (.refl _) (h2 ((dI q).trans (jD q2)) _ _)) λq2=>hN (.refl _) (h1 ((dI q).trans (iB q2)))) λq=>hX (.refl _) (h2 (dq q) _ _)))
noncomputable def DF (b:Bx) (us:ah aq):aN:=(sortI (cM us)).all λu=>(h_ b.lts u).isSome
theorem aeU (a:dE H B dx L b) (f:jo b) (hn:us.length<=50) (h1:DF b us=ai->Q (.lst ((sortI (cM us)).map .int)) H) (h2:DF b us=au->∀x i,X ⟨76,.str x,.int i⟩ H):bq (cx w ai) (n+4) (.ref 537) [.ref B,.tup (us.map .int)] H Q X:=by
 have hs:=Dg hn;have hd:(cM us).length<=50:=aK (pS us) hn;show fn 20 20 aeC rfl λK XK hK hN hX=>?_;intro m;show BP (fy m.c) fO 20 rfl rfl (Cd us ER Hq id (λJ=>cL) (cH hn) trivial (λu J H' J=>(aP rfl rfl trivial)) λJ D hD=>?_)
 rewrite [Bo]
 have F:=nM (o:=cj (fy m.c) (dh (cM us))) hD (by simp [cj]);show B9 l6 (aj.aW ..) z9 (aa qd (cH hd)) ?_;have e:((dh (cM us)).map λp=>(fy m.c).av p.1)=(cM us).map .int:=by unfold dh;exists cZ;rfl
 exists e;show Ei (.inl rfl) (iw hd ⋯) ?_;have a':dE (H.set D (cj (fy m.c) (dh (cM us)))) B dx L b:=⟨aY (bU a.1 hD) a.1,aY (bU a.2 hD) a.2⟩;generalize H.set D (cj (fy m.c) (dh (cM us)))=aw at F a';show jX AV.int (λ_:gv=>(DM "found" "uids" "box" (.lst ((sortI (cM us)).map .int)) (.tup (us.map .int)) (.ref B))) (λJ=>aw) (λr J=>DF b us=r.all λu=>(h_ b.lts u).isSome) (λJ e=>hK F (h1 e)) (λu r J e K' dU hr=>?_) _ () rfl;show (bK.mk a'.1 (Qw a' f (λx ex=>?_) λex=>hX F (h2 (e.trans (dq (bD ajS ex))) _ _)));show dU () _ (e.trans (dI (bD ajS ex))) trivial (iT rfl rfl rfl trivial)
end
end
section
variable {w:bQ} {qt:aN}
noncomputable def kd:cW->ar
 | .list _=>0
 | .dict _=>1
 | .barr _=>2
 | .priv=>3
 | .otup _=>4
 | .inst C _ _ _=>C+5
theorem eA {H:aj} {a b:aF} {o o':cW} (h:H a=ae o) (k:H b=ae o') (n:(kd o==kd o')=au):a≠b:=λe=>by
 subst e;rw [h] at k;injection k with ct;subst ct;rw [kZ] at n;injection n
inductive hJ (H:aj) (S:aF) (F:aF->Prop) (s':bc) (H':aj):Prop
 |mk (ex:∃F',gW H' S F' s'/\∀x,F' x->F x\/H x=none) (kp:∀x o,¬F x->H x=ae o->H' x=ae o)
theorem hJ.refl (h:gW H S F s):hJ H S F s H:=⟨(ao F h (λJ k=> .inl k)),λJ J J e=>e⟩
theorem hJ.trans (h1:∀x,Xj x->F x\/H x=none) (k1:∀x o,¬F x->H x=ae o->aw x=ae o) (p:hJ aw S Xj s' aG):hJ H S F s' aG:=by
 rcases p with ⟨⟨F',a,b⟩,c⟩
 show ⟨(ao F' a (λx hx=>?_)),λx o n e=>c x o (λz=>?_) (k1 x o n e)⟩
 ·rcases b x hx with h|h
  ·show h1 x h
  ·by_cases f:F x
   ·show .inl f
   ·cases e:H x with
    |none=>show .inr rfl
    |some o=>rw [k1 x o f e] at h;injection h
 ·rcases h1 x z with h|h
  ·show n h
  ·injection (h).symm.trans e
noncomputable def ve (bs:ah Bx) (b:Bx):ah Bx:=bs.map λx=>if x.name==b.name then b else x
section
variable {H H':aj} {S dS Dd:aF} {l:ah Slot} {s s':bc} {t:Slot} {F:aF->Prop} {b':Bx} {L':aF}
theorem cA.frame (a:cA H S dS Dd l s) (k:∀x o,jQ S Dd l x->H x=ae o->H' x=ae o):cA H' S dS Dd l s:=
 ⟨k _ _ (.inl rfl) a.1,k _ _ (.inr (.inl rfl)) a.2,a.3,a.4,λt ht=>⟨k _ _ (.inr (.inr (ao t ht (.inl rfl)))) (a.5 t ht).1,k _ _ (.inr (.inr (ao t ht (.inr rfl)))) (a.5 t ht).2⟩,a.6⟩
theorem gW.frame (a:gW H S F s) (k:∀x o,F x->H x=ae o->H' x=ae o):gW H' S F s:=by
 show eV a.1 λdS Dd l b c=>⟨_,_,l,b.frame λx o hx e=>k x o (c x hx) e,c⟩
theorem abp (a:cA H S dS Dd l s) (h:jQ S Dd l x):∃o,H x=ae o:=by
 rcases h with rfl|rfl|⟨t,ht,rfl|rfl⟩
 ·show ⟨_,a.1⟩
 ·show ⟨_,a.2⟩
 ·show ⟨_,(a.5 t ht).1⟩
 ·show ⟨_,(a.5 t ht).2⟩
theorem AE {α β:Type} {f:α->β} {l1 l2:ah α} {t:α} (h:((l1++t::l2).map f).Nodup):(∀u∈l1++l2,f u≠f t)/\((l1++l2).map f).Nodup:=by
 have p:(l1++t::l2).Perm (t::(l1++l2)):=ajT;have h:=(p.map f).nodup_iff.mp h;rw [dX,oA] at h;show ⟨λu hu e=>h.1 (e▸List.mem_map.mpr (ao u hu rfl)),h.2⟩
theorem cA.upd (a:cA H S dS Dd (l1++t::l2) s) (hn:b'.name=t.b.name) (at':dE H' t.B t.dx L' b') (k:∀x,x≠t.B->x≠t.L->x≠L'->H' x=H x) (hL:L'=t.L\/H L'=none):
  cA H' S dS Dd (l1++⟨b',t.B,t.dx,L'⟩::l2) {s with bs:=ve s.bs b'}:=by
 have tm:t∈l1++t::l2:=iy _ (.head _);have at_:=a.5 t tm
 have old:∀x o,H x=ae o->x≠t.B->x≠t.L->H' x=ae o:=λx o e n1 n2=>(k x n1 n2 λz=>by
  rcases hL with h|h
  ·show n2 (z.trans h)
  ·rw [z,h] at e;injection e).trans e
 have e1:fj (l1++⟨b',t.B,t.dx,L'⟩::l2)=fj (l1++t::l2):=by unfold fj;exists dz;exists dz;exists dX;exists dX;exists hn;rfl
 show aM (AE a.4) λn1 n2=>aM (AE a.6) λm1 m2=>?_
 have afi:∀u∈l1++l2,u.L≠L':=λu hu e=>by
  rcases hL with h|h
  ·show m1 u hu (e.trans h)
  ·have:=(a.5 u ((List.mem_append.mp hu).elim (mm _) λz=>iy _ (.tail _ z))).2;rw [e,h] at this;injection this
 show ⟨old _ _ a.1 (eA a.1 at_.1 rfl) (eA a.1 at_.2 rfl),?_,?_,?_,λu hu=>?_,?_⟩
 ·unfold iz;exists e1;show old _ _ a.2 (eA a.2 at_.1 rfl) (eA a.2 at_.2 rfl)
 ·show ajU (VW ?_) (a.3.map λx:Bx=>if x.name==b'.name then b' else x)
  have other:∀r:ah Slot,(∀u∈r,u.b.name≠t.b.name)->(r.map (λx=>x.b)).map (λx:Bx=>if x.name==b'.name then b' else x)=r.map (λx=>x.b):=λr hr=>by
   exists cZ;show r_ λu hu=>bo (by exists hn;simpa using hr u hu)
  exists dz;exists dX;exists dz;exists dz;exists dX;exists other l1 λu hu=>n1 u (mm _ hu);exists other l2 λu hu=>n1 u (iy _ hu);rw [bN (aa hn (kZ _))]
 ·have e2:(l1++⟨b',t.B,t.dx,L'⟩::l2).map (λx=>x.b.name)=(l1++t::l2).map (λx=>x.b.name):=by exists dz;exists dz;exists dX;exists dX;exists hn;rfl
  exists e2;show a.4
 ·have key:u=⟨b',t.B,t.dx,L'⟩\/u∈l1++l2:=by
   rcases List.mem_append.mp hu with h|h
   ·show .inr (mm _ h)
   ·rcases List.mem_cons.mp h with h|h
    ·show .inl h
    ·show .inr (iy _ h)
  rcases key with rfl|h
  ·show at'
  ·have hm:u∈l1++t::l2:=(List.mem_append.mp h).elim (mm _) λz=>iy _ (.tail _ z);have hu:=a.5 u hm;show ⟨old _ _ hu.1 (λe=>n1 u h ?_) (eA hu.1 at_.2 rfl),old _ _ hu.2 (eA hu.2 at_.1 rfl) (m1 u h)⟩;have:=hu.1;rw [e,at_.1] at this;have:=bZ this;injection this with _ _ _ this
   injection this with this
   injection this with this
   show this.symm
 ·have p:(l1++(⟨b',t.B,t.dx,L'⟩:Slot)::l2).Perm (⟨b',t.B,t.dx,L'⟩::(l1++l2)):=ajT;show (p.map (λx=>x.L)).nodup_iff.mpr ?_;exists dX;rewrite [oA];show ⟨λh=>?_,m2⟩;show aA (List.mem_map.mp h) λu hu e=>afi u hu e
theorem cA.OL (a:cA H S dS Dd (l1++t::l2) s) (hF:∀x,jQ S Dd (l1++t::l2) x->F x) (hn:b'.name=t.b.name) (at':dE H' t.B t.dx L' b') (k:∀x,x≠t.B->x≠t.L->x≠L'->H' x=H x) (hL:L'=t.L\/H L'=none):
  hJ H S F {s with bs:=ve s.bs b'} H':=by
 have tm:t∈l1++t::l2:=iy _ (.head _);show ⟨(ao (λx=>F x\/x=L') ⟨_,_,_,a.upd hn at' k hL,λx hx=>?_⟩ (λx hx=>?_)),λx o n e=>?_⟩
 ·rcases hx with rfl|rfl|⟨u,hu,hx⟩
  ·show .inl (hF _ (.inl rfl))
  ·show .inl (hF _ (.inr (.inl rfl)))
  ·rcases List.mem_append.mp hu with h|h
   ·show .inl (hF _ (.inr (.inr (ao u (mm _ h) hx))))
   ·rcases List.mem_cons.mp h with h|h
    ·subst h;rcases hx with rfl|rfl
     ·show .inl (hF _ (.inr (.inr (ao t tm (.inl rfl)))))
     ·show .inr rfl
    ·show .inl (hF _ (.inr (.inr (ao u (iy _ (.tail _ h)) hx))))
 ·rcases hx with h|rfl
  ·show .inl h
  ·rcases hL with rfl|h
   ·show .inl (hF _ (.inr (.inr (ao t tm (.inr rfl)))))
   ·show .inr h
 ·show (k x (λz=>n (z▸hF _ (.inr (.inr (ao t tm (.inl rfl)))))) (λz=>n (z▸hF _ (.inr (.inr (ao t tm (.inr rfl)))))) λz=>?_).trans e;rcases hL with h|h
  ·show n (z▸h▸hF _ (.inr (.inr (ao t tm (.inr rfl)))))
  ·rw [z,h] at e;injection e
end
end
section
variable {w:bQ} {qt:aN}
def mD (w:bQ) (k:ar) (g:aF) (args:ah AV) (H:aj) (S:aF) (F:aF->Prop) (s:bc) (r:aR (bc×AV)):Prop:=∀{n:ar} {Q:PQ} {X:PX},(∀H' s' v,r=ae (s',v)->hJ H S F s' H'->Q v H')->(r=none->∀H' x i,hJ H S F s H'->X ⟨76,.str x,.int i⟩ H')->bq (cx w ai) (n+k) (.ref g) args H Q X
section
variable {H H':aj} {S dS Dd:aF} {l:ah Slot} {s s':bc} {t:Slot} {F:aF->Prop}
theorem cA.mk' (a:cA H S dS Dd l s) (hs:H' S=ae (rR dS Dd s')) (hd:H' Dd=ae (iz l)) (hb:s'.bs=s.bs) (k:∀x,x≠S->x≠Dd->H' x=H x):cA H' S dS Dd l s':=
 ⟨hs,hd,hb▸a.3,a.4,λt ht=>⟨(k _ (eA (a.5 t ht).1 a.1 rfl) (eA (a.5 t ht).1 a.2 rfl)).trans (a.5 t ht).1,(k _ (eA (a.5 t ht).2 a.1 rfl) (eA (a.5 t ht).2 a.2 rfl)).trans (a.5 t ht).2⟩,a.6⟩
theorem cA.fld (a:cA H S dS Dd l s) (hF:∀x,jQ S Dd l x->F x) (hb:s'.bs=s.bs):hJ H S F s' (H.set S (rR dS Dd s')):=
 ⟨(ao F ⟨_,_,_,a.mk' (aj.aW ..) (aY (eA a.2 a.1 rfl) a.2) hb λx n1 J=>aj.eQ _ _ n1,hF⟩ (λJ h=> .inl h)),λx o n e=>aY (λz=>n (aa z (hF _ (.inl rfl)))) e⟩
theorem cA.Nm (a:cA H S dS Dd l s) (hs:H' S=ae (rR dS Dd s')) (hd:H' Dd=ae (iz (l++[t]))) (hb:s'.bs=s.bs++[t.b]) (hn:∀u∈l,u.b.name≠t.b.name) (at':dE H' t.B t.dx t.L t.b) (fB:H t.B=none) (fL:H t.L=none)
  (k:∀x,x≠S->x≠Dd->x≠t.B->x≠t.L->H' x=H x):cA H' S dS Dd (l++[t]) s':=by
 have old:∀x o,H x=ae o->x≠S->x≠Dd->H' x=ae o:=λx o e n1 n2=>(k x n1 n2 (bU e fB) (bU e fL)).trans e;show ⟨hs,hd,?_,?_,λu hu=>?_,?_⟩
 ·show aa dz<|aa hb<|a.3.append_right _
 ·exists dz;rewrite [tZ]
  show (aP a.4 (by simp) (λx hx y hy e=>by
   show aA (List.mem_map.mp hx) λu hu bC=>?_;subst bC;have:y=t.b.name:=by simpa using hy
   show hn u hu (e.trans this)))
 ·rcases List.mem_append.mp hu with h|h
  ·have:=a.5 u h;show ⟨old _ _ this.1 (eA this.1 a.1 rfl) (eA this.1 a.2 rfl),old _ _ this.2 (eA this.2 a.1 rfl) (eA this.2 a.2 rfl)⟩
  ·have:u=t:=by simpa using h
   show aa this<|at'
 ·exists dz;rewrite [tZ]
  show (aP a.6 (by simp) (λx hx y hy e=>by
   show aA (List.mem_map.mp hx) λu hu bW=>?_;subst bW;have:y=t.L:=by simpa using hy
   show bU (a.5 u hu).2 fL (e.trans this)))
def Jl (F:aF->Prop) (t:Slot) (x:aF):Prop:=F x\/x=t.B\/x=t.L
theorem Rt (hF:∀x,jQ S Dd l x->F x):∀x,jQ S Dd (l++[t]) x->Jl F t x:=λx hx=>by
 rcases hx with rfl|rfl|⟨u,hu,hx⟩
 ·show .inl (hF _ (.inl rfl))
 ·show .inl (hF _ (.inr (.inl rfl)))
 ·rcases List.mem_append.mp hu with h|h
  ·show .inl (hF _ (.inr (.inr (ao u h hx))))
  ·have:u=t:=by simpa using h
   show aa this.symm<| .inr hx
theorem MW (fB:H t.B=none) (fL:H t.L=none):∀x,Jl F t x->F x\/H x=none:=λx hx=>by
 rcases hx with h|rfl|rfl
 ·show .inl h
 ·show .inr fB
 ·show .inr fL
theorem N4 (a:cA H S dS Dd l s) (hF:∀x,jQ S Dd l x->F x) (fB:H t.B=none) (fL:H t.L=none) (k:∀x,x≠S->x≠Dd->x≠t.B->x≠t.L->H' x=H x):∀x o,¬F x->H x=ae o->H' x=ae o:=
 λx o n e=>(k x (λz=>n (aa z (hF _ (.inl rfl)))) (λz=>n (aa z (hF _ (.inr (.inl rfl))))) (bU e fB) (bU e fL)).trans e
theorem cA.add (a:cA H S dS Dd l s) (hF:∀x,jQ S Dd l x->F x) (hs:H' S=ae (rR dS Dd s')) (hd:H' Dd=ae (iz (l++[t]))) (hb:s'.bs=s.bs++[t.b]) (hn:∀u∈l,u.b.name≠t.b.name) (at':dE H' t.B t.dx t.L t.b) (fB:H t.B=none) (fL:H t.L=none)
  (k:∀x,x≠S->x≠Dd->x≠t.B->x≠t.L->H' x=H x):hJ H S F s' H':=
 ⟨(ao (Jl F t) ⟨_,_,_,a.Nm hs hd hb hn at' fB fL k,Rt hF⟩ (MW fB fL)),N4 a hF fB fL k⟩
theorem B4 (hn:∀u∈l,u.b.name≠t.b.name):jh (fj l) t.b.name (.ref t.B)=fj (l++[t]):=by
 unfold jh
 exists (bo λh=>by
  show aA (List.any_eq_true.mp h) λp hp e=>aA (List.mem_map.mp hp) λu hu dD=>?_;subst dD;show hn u hu (fi e))
 unfold fj;exists dz;rfl
theorem Q8:sy (fj l) x=fj (l.filter λu=>decide (u.b.name≠x)):=by
 unfold sy fj;exists LJ;rfl
theorem cA.del (a:cA H S dS Dd l s) (hF:∀x,jQ S Dd l x->F x):hJ H S F {s with bs:=s.bs.filter λb=>decide (b.name≠x)} (H.set Dd (iz (l.filter λu=>decide (u.b.name≠x)))):=by
 have sb:∀u∈l.filter (λu=>decide (u.b.name≠x)),u∈l:=λu hu=>(List.mem_filter.mp hu).1;show ⟨(ao F ⟨dS,Dd,_,⟨aY (eA a.1 a.2 rfl) a.1,aj.aW ..,?_,?_,λu hu=>?_,?_⟩,λy hy=>?_⟩ (λJ h=> .inl h)),λy o n e=>aY (λz=>n (aa z (hF _ (.inr (.inl rfl))))) e⟩
 ·have:=a.3.filter λb:Bx=>decide (b.name≠x);rw [LJ] at this;show this
 ·show a.4.sublist ((oB ..).map _)
 ·have:=a.5 u (sb u hu);show ⟨aY (eA this.1 a.2 rfl) this.1,aY (eA this.2 a.2 rfl) this.2⟩
 ·show a.6.sublist ((oB ..).map _)
 ·rcases hy with rfl|rfl|⟨u,hu,hy⟩
  ·show hF _ (.inl rfl)
  ·show hF _ (.inr (.inl rfl))
  ·show hF _ (.inr (.inr (ao u (sb u hu) hy)))
end
theorem Pz:∀u,(gQ c).knd.is k u=ai->(keyPart u).isSome=ai:=λu h=>by
 show bj (VA h) λt d7=>aa d7 ?_;rfl
section
variable {H:aj} {S:aF} {F:aF->Prop} {s:bc}
noncomputable def qx (s:bc) (x:ak) (v:aq):aR (bc×AV):=(cT x).bind λf=>if gu s f then none else if qT s v then ae (⟨s.bs++[fQ f v],s.subs,v+1⟩,.int v) else none
theorem abh (h:cT x=ae f) (h2:gu s f=ai):qx s x v=none:=by unfold qx;show aa h<|if_pos h2
theorem Yl (h:cT x=ae f) (h2:gu s f=au) (h3:qT s v=au):qx s x v=none:=by unfold qx;show aa h<|(bo (by exists h2;decide)).trans (bo (by exists h3;decide))
theorem Xm (h:cT x=ae f) (h2:gu s f=au) (h3:qT s v=ai):qx s x v=ae (⟨s.bs++[fQ f v],s.subs,v+1⟩,.int v):=by unfold qx;show aa h<|(bo (by exists h2;decide)).trans (bN h3)
theorem DQ (a:cA H S dS Dd l s) (h:gu s f=au):∀u∈l,u.b.name≠f:=λu hu e=>by
 unfold gu at h;rw [<-e,qa a.wz (a.mem hu)] at h;injection h
theorem adk (a:gW H S F s) (sf:gR s) (hz:x.length<=80000):mD w 5 544 [.ref S,.str x,.int v] H S F s (qx s x v):=λ{n Q X} h1 h2=>by
 show eV a.1 λdS Dd l al hF=>fn 20 20 ZO rfl λK XK hK hN hX=>?_;intro m;show xx hz (λf ef=>?_) λef u i=>hX (.refl _) (h2 (by unfold qx;exists ef;rfl) _ u i (.refl a));show I2 al (λq=>?_) λq u i=>hX (.refl _) (h2 (abh ef q) _ u i (.refl a));show TK al (λq2=>?_) λq2 u i=>hX (.refl _) (h2 (Yl ef q q2) _ u i (.refl a));show Cz λB dx L hB hL ru=>?_;have S1:=bU al.1 hB;have S2:=bU al.1 hL;have D1:=bU al.2 hB;have D2:=bU al.2 hL;have DS:=eA al.2 al.1 rfl;show (bK.mk (aY S2 (aY S1 al.1)) (uW (Y:=gQ m.c) (aY D2 (aY D1 al.2)) al.nZ (aa rK<|aa al.len<|cH sf.1) ?_));show (bK.mk (aY (bI DS) (aY S2 (aY S1 al.1))) (hK (.refl _) (h1 _ _ _ (Xm ef q q2) (al.add hF (aj.aW ..) (aY DS ((aj.aW ..).trans (bD (λe=>ae (cj (gQ m.c) e)) (B4 (t:=⟨fQ f v,B,dx,L⟩) (DQ al q))))) rfl (DQ al q) ⟨aY (bI S1) (aY (bI D1) (aY ru (aj.aW ..))),aY (bI S2) (aY (bI D2) (aj.aW ..))⟩ hB hL λy n1 n2 n3 n4=>?_))));show (aj.eQ _ _ n1).trans ((aj.eQ _ _ n2).trans ((aj.eQ _ _ n4).trans (aj.eQ _ _ n3)))
noncomputable def wo (s:bc) (x:ak):aR (bc×AV):=(c5 s.bs (dN x)).bind λb=>if b.name==("INBOX":ak) then none else ae ({s with bs:=s.bs.filter λu=>decide (u.name≠b.name)},.int b.val)
theorem ŧ (a:gW H S F s) (sf:gR s) (hz:x.length<=80000):mD w 4 551 [.ref S,.str x] H S F s (wo s x):=λ{n Q X} h1 h2=>by
 show eV a.1 λdS Dd l al hF=>fn 20 20 afA rfl λK XK hK hN hX=>?_;intro m;show ⟨_,al.1,rA al (aK hz ⋯) (λt ht e eg=>?_) λJ eg u i=>hX (.refl _) (h2 (by unfold wo;exists eg;rfl) _ u i (.refl a))⟩;have at_:=al.5 t ht;show (bK.mk at_.1 (br (λq=>hX (.refl _) (h2 ?_ _ _ _ (.refl a))) λq=>?_))
 ·unfold wo;show aa eg<|if_pos q
 ·show (bK.mk al.1 (bK.mk al.2 (bK.mk at_.1 (RM al.2 al.nZ (aa rK<|aa al.len<|cH sf.1) Pz (rd al.4 ht) ?_))));show (bK.mk (aY (eA at_.1 al.2 rfl) at_.1) (hK (.refl _) (h1 _ {s with bs:=s.bs.filter λu=>decide (u.name≠t.b.name)} _ ?_ ?_)))
  ·unfold wo;show aa eg<|if_neg (by exists q;decide)
  ·have:=al.del hF (x:=t.b.name);show aa Q8<|this
noncomputable def wc (s:bc) (x:ak):aR (bc×AV):=(cT x).map λf=>if s.subs.contains f then (s,.bool au) else ({s with subs:=iq (s.subs++[f])},.bool ai)
theorem aeV (a:gW H S F s) (sf:gR s) (hz:x.length<=80000):mD w 5 610 [.ref S,.str x] H S F s (wc s x):=λ{n Q X} h1 h2=>by
 show eV a.1 λdS Dd l al hF=>fn 20 20 aar rfl λK XK hK hN hX=>?_;intro m;show xx hz (λf ef=>?_) λef u i=>hX (.refl _) (h2 (by unfold wc;exists ef;rfl) _ u i (.refl a));show (bK.mk al.1 (abU (.inl rfl) (br (λq=>hK (.refl _) (h1 _ s _ ?_ (.refl a))) λq=>?_)))
 ·unfold wc;show aa ef<|congrArg ae (bN q)
 ·show (bK.mk al.1 (O2 (.inl rfl) (.inl rfl) (by rewrite [bp];exists fH;have:=sf.5;simp only [cY,jL];lia) ?_));have e:s.subs.map AV.str++[.str f]=(s.subs++[f]).map .str:=by exists dz;rfl
  show aa e<|D3 (.inl rfl) (by exists cb;have:=sf.5;simp only [cY,jL];lia) (bK.mk al.1 (hK (.refl _) (h1 _ {s with subs:=iq (s.subs++[f])} _ ?_ ?_)))
  ·unfold wc;show aa ef<|congrArg ae (bo (by exists q;decide))
  ·show al.fld hF rfl
noncomputable def Jw (s:bc) (x:ak):aR (bc×AV):=if s.subs.contains (dN x) then ae ({s with subs:=s.subs.filter λu=>u !=dN x},.bool ai) else none
theorem agM (a:gW H S F s) (sf:gR s) (hz:x.length<=80000):mD w 3 615 [.ref S,.str x] H S F s (Jw s x):=λ{n Q X} h1 h2=>by
 show eV a.1 λdS Dd l al hF=>bq.shift (fn 20 20 ag7 rfl λK XK hK hN hX=>?_);intro m;show Gg (aK ‹_› ⋯) (bK.mk al.1 (Oc (.inl rfl) (br (λq=>hX (.refl _) (h2 (bo (by exists jD q;decide)) _ _ _ (.refl a))) λq=>?_)));show EN fO 20 rfl rfl rfl (bK.mk al.1 (fY s.subs EL (λu=>u !=dN x) .str (λJ=>cL) (cH sf.5) trivial (λu J H' J=>(aP rfl rfl (λJ=>(aP rfl rfl trivial)))) λJ D hD=>?_));have nS:=bU al.1 hD;show (bK.mk (aY nS al.1) (hK (.refl _) (ao _ (.field (i:=1) (vs:=[.ref Dd,.ref D,.int s.nv]) (aj.aW ..) (aY (bI nS) (aj.aW ..)) rfl) (h1 _ {s with subs:=s.subs.filter λu=>u !=dN x} _ (bN (iB q)) ?_))));show cast (bD (hJ H S F _) (funext λy=>?_)) (al.fld hF rfl);by_cases y1:y=D
 ·exists y1;simp [aj.set,aj.del,bI nS,hD]
 ·by_cases y2:y=S
  ·exists y2;simp [aj.set,aj.del,nS,rR];rfl
  ·simp [aj.set,aj.del,y1,y2]
end
end
section
inductive Canon (l:ah ak):Prop
 |mk (f:∀t∈l,i6 t=ae t) (nd:l.Nodup) (so:l.Pairwise λa b=>fZ a b=ai)
theorem agY:sU.all (λs=>i6 s==ae s)=ai:=by decide+kernel
theorem aa9 {t f:ak} {l:ah ak} (k:∀s∈l,i6 s=ae s) (h:uf t l=ae f) (e:uf t sU=uf t l):i6 f=ae f:=by
 induction l with
 |nil=>show (Ds h).elim (λz=>bZ z.2▸e.trans (bN z.1)) λz=>f5 z.2
 |cons s r ih=>show (Ds h).elim (λz=>bZ z.2▸k _ (.head _)) λz=>ih (λs hs=>k s (.tail _ hs)) z.2 (e.trans (bo z.1))
theorem ť {t f:ak} (h:i6 t=ae f):i6 f=ae f:=aa9 (λs hs=>eq_of_beq (List.all_eq_true.mp agY s hs)) h rfl
theorem Đ {l acc:ah ak} (h:∀t∈l,i6 t=ae t) (nd:l.Nodup) (d:∀t∈l,t∉acc):lM l acc=ae (acc++l):=by
 induction l generalizing acc with
 |nil=>show bD ae (fW _).symm
 |cons t r ih=>
  rw [oA] at nd;show Option.bind_eq_some_iff.mpr ⟨t,h t (.head _),?_⟩;show aa (bo λq=>d t (.head _) (List.contains_iff_mem.mp q)) ((ih (λs hs=>h s (.tail _ hs)) nd.2 λs hs q=>?_).trans (bD ae (gh ..)));show (List.mem_append.mp q).elim (d s (.tail _ hs)) λq=>nd.1 (List.mem_singleton.mp q▸hs)
theorem SS (h:l.Pairwise λa b=>fZ a b=ai):iq l=l:=Es Jc (ke fZ l) (tj xW uO l) h
theorem Canon.flags {l:ah ak} (h:Canon l):de l=ae l:=by
 unfold de;exists Đ h.1 h.2 (by simp);show (?_:ae (iq l)=_);exists SS h.3;rfl
theorem Ŕ {α:Type} {l:ah α} {a:α} (nd:l.Nodup) (h:a∉l):(l++[a]).Nodup:=List.nodup_append.mpr (aP nd (Lo ..) λx hx y hy e=>h (List.mem_singleton.mp hy▸e▸hx))
theorem acq {l acc fl:ah ak} (h:lM l acc=ae fl) (k:∀t∈acc,i6 t=ae t) (nd:acc.Nodup):(∀t∈fl,i6 t=ae t)/\fl.Nodup:=by
 induction l generalizing acc with
 |nil=>show bZ h▸⟨k,nd⟩
 |cons t r ih=>
  show aA (Option.bind_eq_some_iff.mp h) λf hf h=>ih h (λs hs=>(DO hs).elim (k s) λe=>e▸ť hf) ?_;by_cases q:acc.contains f=ai
  ·show aa (bN q) nd
  ·show aa (bo q) (Ŕ nd λz=>q (List.contains_iff_mem.mpr z))
theorem nY {l fl:ah ak} (h:de l=ae fl):Canon fl:=by
 show aA (Option.map_eq_some_iff.mp h) λacc e bC=>?_;exists bC.symm;show aM (acq e ⋯ .nil) λh1 h2=>?_;have p:=ke fZ acc;show ⟨λt ht=>h1 t (p.mem_iff.mp ht),p.nodup_iff.mpr h2,tj xW uO acc⟩
theorem acI {l acc:ah ak} (h:∀t∈l,i6 t=ae t):∃fl,lM l acc=ae fl:=by
 induction l generalizing acc with
 |nil=>show ⟨acc,rfl⟩
 |cons t r ih=>show bj (ih (acc:=if acc.contains t then acc else acc++[t]) λs hs=>h s (.tail _ hs)) λfl e=>⟨fl,Option.bind_eq_some_iff.mpr ⟨t,h t (.head _),e⟩⟩
theorem Canon.filter (h:Canon l) (p:ak->aN):Canon (l.filter p):=⟨λt ht=>h.1 t (List.mem_filter.mp ht).1,h.2.sublist (oB ..),h.3.sublist (oB ..)⟩
theorem ag6 {l acc fl:ah ak} (h:lM l acc=ae fl) (k:∀t∈l,i6 t=ae t) (s:ak) (hs:s∈fl):s∈acc\/s∈l:=by
 induction l generalizing acc with
 |nil=>show .inl (bZ h▸hs)
 |cons t r ih=>show aA (Option.bind_eq_some_iff.mp h) λf hf h=>(ih h λu hu=>k u (.tail _ hu)).elim (λz=>(DO z).imp id λe=>(show t=s from (bZ ((k t (.head _)).symm.trans hf)).trans (Eq.symm e))▸.head _) λz=> .inr (.tail _ z)
theorem Ru {α:Type} [ji α] {l m:ah α} (nd:l.Nodup) (h:∀x∈l,x∈m):l.length<=m.length:=by
 induction l generalizing m with
 |nil=>show i0 _
 |cons a l ih=>
  rw [oA] at nd;have ha:=h a (.head _);have:=ih nd.2 λx hx=>(List.mem_erase_of_ne (λe:x=a=>nd.1 (e▸hx))).mpr (h x (.tail _ hx));rw [List.length_erase_of_mem ha] at this;show aK (tO this 1) (iL (Nat.sub_add_cancel (List.length_pos_of_mem ha)))
theorem acg:∀t∈jw,jP t:=by
 have:jw.all (λt=>ie t.length 90000 && ie (tY t).length 90000)=ai:=by decide+kernel
 intro t ht;have h:=List.all_eq_true.mp this t ht;simp only [d9,FY] at h;show ⟨h.1,aK h.2 ⋯⟩
theorem v8 (h:Canon l) (k:∀t∈l,t∈jw):gX l:=⟨λt ht=>acg t (k t ht),aK (Ru h.2 k) ⋯⟩
theorem ND {x:Lt} {way:ak} {g:ah ak} (hx:de x.flags=ae x.flags) (ux:∀t∈x.flags,t∈jw) (hg:de g=ae g) (ug:∀t∈g,t∈jw) (hw:way="+"\/way="-"\/way="="):uP way g x/\∀t∈jk x.flags way g,t∈jw:=by
 have cx:=nY hx;have cg:=nY hg;have kx:=v8 cx ux
 have key:∃r,ny x.flags way g=ae r/\de r=ae r/\(∀t∈r,t∈jw)/\gX r:=by
  by_cases q:(way==("+":ak))=ai
  ·exists Gu hg q;show bj (acI (acc:=[]) λt ht=>(List.mem_append.mp ht).elim (cx.1 t) (cg.1 t)) λacc e=>?_;have e2:de (x.flags++g)=ae (iq acc):=by unfold de;exists e;rfl
   have u:∀t∈iq acc,t∈jw:=λt ht=>by
    rcases ag6 e (λt ht=>(List.mem_append.mp ht).elim (cx.1 t) (cg.1 t)) t ((ke fZ acc).mem_iff.mp ht) with h|h
    ·show jl h
    ·show (List.mem_append.mp h).elim (ux t) (ug t)
   show (i_ _ e2 ((nY e2).flags) u (v8 (nY e2) u))
  ·have q:=Vu _▸q;by_cases q2:(way==("-":ak))=ai
   ·show (wu _ (PV hg q q2) ((cx.filter _).flags) (λt ht=>ux t (List.mem_filter.mp ht).1) (λt ht=>kx.1 t (List.mem_filter.mp ht).1) (aK (lI ..) kx.2))
   ·have q2:=Vu _▸q2;show (i_ g ((HV hg q q2).trans (bN ?_)) hg ug (v8 cg ug));rcases hw with rfl|rfl|rfl
    ·show mA q
    ·show mA q2
    ·rfl
 show eO key λr e1 e2 e4 e3=>?_;have:jk x.flags way g=r:=by unfold jk;exists e1;rfl
 show ⟨⟨this.symm▸e1,this.symm▸e2,this.symm▸e3,kx⟩,this.symm▸e4⟩
end
section
variable {w:bQ} {qt:aN}
section
variable {H:aj} {S:aF} {F:aF->Prop} {s:bc}
theorem cA.dJ (al:cA H S dS Dd (l1++t::l2) s) (hF:∀x,jQ S Dd (l1++t::l2) x->F x) (hn:b'.name=t.b.name):hJ H S F {s with bs:=ve s.bs b'} (dJ H t.B t.dx t.L b'):=by
 show al.OL hF hn (.up (al.5 t (iy _ (.head _))).ne) (λx n1 n2 J=>(aj.eQ _ _ n2).trans (aj.eQ _ _ n1)) (.inl rfl)
noncomputable def jT (s:bc) (b:Bx):bc:={s with bs:=ve s.bs b}
noncomputable def wa (s:bc) (x:ak) (fl:ah ak) (inst:aq) (oct:ah b_):aR (bc×AV):=(c5 s.bs (dN x)).bind λb=>(de fl).map λg=>(jT s (jU b oct g inst),.tup [.int b.val,.int b.nu])
theorem adN {x:ak} {fl:ah ak} {inst:aq} {oct:ah b_} (a:gW H S F s) (sf:gR s) (hz:x.length<=80000) (hf:gX fl):mD w 6 577 [.ref S,.str x,eF fl,.int inst,.bytes oct] H S F s (wa s x fl inst oct):=λ{n Q X} h1 h2=>by
 show eV a.1 λdS Dd l al hF=>fn 20 20 adF rfl λK XK hK hN hX=>?_;intro m;show ⟨_,al.1,rA al (aK hz ⋯) (λt ht e eg=>?_) λJ eg u i=>hX (.refl _) (h2 (by unfold wa;exists eg;rfl) _ u i (.refl a))⟩;have nb:=sf.3 _ (al.mem ht);show PN (al.5 t ht) (by lia) (by lia)<|NJ (al.5 t ht) hf.1 (aK hf.2 ⋯) (aK nb.1 ⋯) (λg kP=>?_) λkP u i=>hX (.refl _) (h2 (by unfold wa;exists eg;rewrite [ou];exists kP;rfl) _ u i (.refl a))
 show dP (tU ht) λl1 l2 bC=>?_;rcases bC with rfl
 show ⟨_,(dE.up (al.5 t ht).ne).1,hK (.refl _) (h1 _ _ _ (by unfold wa;exists eg;rewrite [ou];exists kP;rfl) (al.dJ hF rfl))⟩
noncomputable def uT (s:bc) (x:ak) (u:aq) (fl:ah ak):aR (bc×AV):=(c5 s.bs (dN x)).bind λb=>(de fl).bind λg=>(h_ b.lts u).map λy=>if y.flags==g then (s,.bool au) else (jT s (kR b u y g),.bool ai)
theorem ae3 (a:gW H S F s) (sf:gR s) (hz:x.length<=80000) (hf:gX fl):mD w 6 584 [.ref S,.str x,.int u,eF fl] H S F s (uT s x u fl):=λ{n Q X} h1 h2=>by
 show eV a.1 λdS Dd l al hF=>fn 20 20 aaV rfl λK XK hK hN hX=>?_;intro m;show ⟨_,al.1,rA al (aK hz ⋯) (λt ht e eg=>?_) λJ eg u i=>hX (.refl _) (h2 (by unfold uT;exists eg;rfl) _ u i (.refl a))⟩;have nb:=sf.3 _ (al.mem ht);show xJ (al.5 t ht) (by lia)<|SW (al.5 t ht) (sf.2 _ (al.mem ht)).1 hf.1 (aK hf.2 ⋯) (λe u i=>hX (.refl _) (h2 ?_ _ u i (.refl a))) (λg y e1 e2 q=>hK (.refl _) (h1 _ s _ ?_ (.refl a))) λg y e1 e2 q=>?_
 ·unfold uT;exists eg;rcases e with e|e
  ·exists e;rfl
  ·cases de fl with
   |none=>rfl
   |some g=>rewrite [ou];exists e;rfl
 ·unfold uT;exists eg;rewrite [ou];exists e1;exists e2;show bD ae (bN q)
 ·show dP (tU ht) λl1 l2 bW=>?_;rcases bW with rfl
  show hK (.refl _) (h1 _ (jT s (kR t.b u y g)) _ ?_ (al.dJ hF rfl));unfold uT;exists eg;exists e1;rewrite [ou];exists e2;show bD ae (bo (by exists q;decide))
noncomputable def qp (s:bc) (b:Bx) (us:ah aq):bc:=if lk b us=[] then s else jT s (j8 b us)
noncomputable def kI (s:bc) (x:ak) (us:ah aq):aR (bc×AV):=(c5 s.bs (dN x)).map λb=>(qp s b us,.tup ((lk b us).map .int))
theorem cA.exp (al:cA H S dS Dd (l1++t::l2) s) (hF:∀x,jQ S Dd (l1++t::l2) x->F x) (hL:H L'=none):
  hJ H S F (jT s (j8 t.b us)) ((H.set t.B (gE t.dx L' (j8 t.b us))).set L' (gM (j8 t.b us).lts)):=by
 show al.OL hF rfl ⟨aY (bU (al.5 t (iy _ (.head _))).1 hL) (aj.aW ..),aj.aW ..⟩ (λx n1 n2 n3=>(aj.eQ _ _ n3).trans (aj.eQ _ _ n1)) (.inr hL)
theorem ú (a:gW H S F s) (sf:gR s) (hz:x.length<=80000) (hu:us.length<=50):mD w 6 598 [.ref S,.str x,.tup (us.map .int)] H S F s (kI s x us):=λ{n Q X} h1 h2=>by
 show eV a.1 λdS Dd l al hF=>fn 20 20 Ğ rfl λK XK hK hN hX=>?_;intro m;show ⟨_,al.1,rA al (aK hz ⋯) (λt ht e eg=>?_) λJ eg u i=>hX (.refl _) (h2 (by unfold kI;exists eg;rfl) _ u i (.refl a))⟩;have nb:=sf.3 _ (al.mem ht);show xJ (al.5 t ht) (by lia)<|RC (.inl rfl) (al.5 t ht) (sf.2 _ (al.mem ht)).1 hu (aK (sf.2 _ (al.mem ht)).2.1 ⋯) (λe=>?_) λe L' qc=>?_
 ·show kH (.inl rfl) (i0 _) (hK (.refl _) (h1 _ s _ ?_ (.refl a)));unfold kI qp;exists eg;show ae (if _ then _ else _,_)=_;exists e;rfl
 ·show dP (tU ht) λl1 l2 dD=>?_;rcases dD with rfl
  show kH (.inl rfl) (by rewrite [bp];show cH (OH (sf.2 _ (al.mem ht)).1)) (hK (.refl _) (h1 _ (jT s (j8 t.b us)) _ ?_ (al.exp hF qc)));unfold kI qp;exists eg;show ae (if _ then _ else _,_)=_;exists bo e;rfl
noncomputable def xN (s:bc) (x:ak) (ms:aq):aR (bc×AV):=(c5 s.bs (dN x)).map λb=>if decide (oR b ms<=b.floor) then (s,.int 0) else (jT s (Ay b ms),.int ((b.gone.length:aq) - ((yD b ms).length:aq)))
end
end
section
variable {w:bQ} {qt:aN}
section
variable {H:aj} {S:aF} {F:aF->Prop} {s:bc}
noncomputable def mw (i:aq):aR aq:=if i < 0 then none else ae i
noncomputable def wQ (s:bc) (x:ak) (us:ah aq) (way:ak) (fl:ah ak) (i:aq):aR (bc×AV):=(c5 s.bs (dN x)).bind λb=>(de fl).map λg=>
 (jT s (ph b us (mw i) way g).1,.tup [.lst ((ph b us (mw i) way g).2.map .int),.lst (((nP b us).filter (rJ (mw i))).map λx=> .int x.uid)])
theorem ŵ {un:aR aq} {way:ak} {g:ah ak} (ch:ah Lt) (s:Bx×ah aq):(ch.foldl (ik un way g) s).1.name=s.1.name:=by
 induction ch generalizing s with
 |nil=>rfl
 |cons x r ih=>show (ih _).trans (Rk (P:=λs'=>s'.1.name=s.1.name) rfl λJ J=>rfl)
theorem Xi {way:ak} (hw:way="+"\/way="-"\/way="="):(!(["+","-","="]:ah ak).contains way)=au:=by
 rcases hw with rfl|rfl|rfl <;> decide
theorem Č {x way:ak} {us:ah aq} {fl:ah ak} {i:aq} (a:gW H S F s) (sf:gR s) (hz:x.length<=80000) (hu:us.length<=50) (hw:way="+"\/way="-"\/way="=") (hf:gX fl) (hU:∀g,de fl=ae g->∀t∈g,t∈jw):
  mD w 7 591 [.ref S,.str x,.tup (us.map .int),.str way,eF fl,.int i] H S F s (wQ s x us way fl i):=λ{n Q X} h1 h2=>by
 show eV a.1 λdS Dd l al hF=>fn 30 30 agv rfl λK XK hK hN hX=>?_;intro m;show ⟨_,al.1,rA al (aK hz ⋯) (λt ht e eg=>?_) λJ eg u i=>hX (.refl _) (h2 (by unfold wQ;exists eg;rfl) _ u i (.refl a))⟩;have nb:=sf.3 _ (al.mem ht);show rC (by rewrite [bp];show e9 (nQ hu)) (xJ (al.5 t ht) (by rewrite [bp];lia) ?_);show Pq (xs:=["+","-","="]) ?_;show (Xi hw).symm▸?_;show xS hf.1 (aK hf.2 ⋯) (λg kP=>?_) λkP u i=>hX (.refl _) (h2 (by unfold wQ;exists eg;rewrite [ou];exists kP;rfl) _ u i (.refl a));have ok:∀y∈t.b.lts,uP way g y:=λy hy=>(ND ((sf.2 _ (al.mem ht)).1.4 y hy) ((sf.4 _ (al.mem ht)) y hy) (nY kP).flags (hU g kP) hw).1;show dP (tU ht) λl1 l2 bC=>?_;subst bC;have key:∀{Q':PQ} {X':PX},Q' (.tup [.lst ((ph t.b us (mw i) way g).2.map .int),.lst (((nP t.b us).filter (rJ (mw i))).map λx=> .int x.uid)]) (dJ H t.B t.dx t.L (ph t.b us (mw i) way g).1)->bq (cx w ai) (n+6) (.ref 250) [.ref t.B,.tup (us.map .int),.str way,eF g,DG (mw i)] H Q' X':=λq=>Ņ (al.5 t ht) (sf.2 _ (al.mem ht)).1 hu (v8 (nY kP) (hU g kP)) ok q
 have fin:Q (.tup [.lst ((ph t.b us (mw i) way g).2.map .int),.lst (((nP t.b us).filter (rJ (mw i))).map λx=> .int x.uid)]) (dJ H t.B t.dx t.L (ph t.b us (mw i) way g).1):=
  h1 _ (jT s (ph t.b us (mw i) way g).1) _ (by unfold wQ;exists eg;rewrite [ou];exists kP;rfl) (al.dJ hF (ŵ _ _))
 show br (λq=>?_) λq=>?_
 ·have e:mw i=none:=bN (fi q);rw [e] at key fin;show key (hK (.refl _) fin)
 ·have e:mw i=ae i:=bo (ml q);rw [e] at key fin;show key (hK (.refl _) fin)
theorem Pf (ch:ah Lt) (g:Bx):(gp g ch).name=g.name:=by
 induction ch generalizing g with
 |nil=>rfl
 |cons x r ih=>show ih _
inductive RR (g g':Bx) (k:ar):Prop
 |mk (f:jo g') (gone:g'.gone=g.gone) (nu:g'.nu=g.nu+k) (lt:∀u∈bT g'.lts,u < g'.nu) (old:∀x∈g'.lts,x∈g.lts\/g.nu<=x.uid)
theorem Ū {g:Bx} {oct:ah b_} {fl:ah ak} {inst:aq} (f:jo g) (lt:∀u∈bT g.lts,u < g.nu) (gV:g.lts.length+1<=50) (ok:gX fl) (sm:de fl=ae fl):RR g (jU g oct fl inst) 1:=by
 have mem:∀x∈(jU g oct fl inst).lts,x∈g.lts\/x=⟨g.nu,oct,fl,inst,g.top+1⟩:=λx hx=>(List.mem_append.mp hx).imp id List.mem_singleton.mp;have e:bT (jU g oct fl inst).lts=bT g.lts++[g.nu]:=by unfold bT jU;exists dz;rfl
 show ⟨⟨?_,?_,λx hx=>?_,λx hx=>?_⟩,rfl,rfl,λu hu=>?_,λx hx=>?_⟩
 ·exists cb;show gV
 ·exists e;rewrite [VX];show (aP f.2 (Lo ..) (λu hu v hv=>by exists List.mem_singleton.mp hv;show lt u hu))
 ·rcases mem x hx with h|rfl
  ·show f.3 x h
  ·show ok
 ·rcases mem x hx with h|rfl
  ·show f.4 x h
  ·show sm
 ·rw [e] at hu;show (?_:u < g.nu+1);rcases List.mem_append.mp hu with h|h
  ·have:=lt u h;lia
  ·exists List.mem_singleton.mp h;lia
 ·rcases mem x hx with h|rfl
  ·show .inl h
  ·show .inr (ig _)
theorem aee (ch:ah Lt) {g:Bx} (f:jo g) (lt:∀u∈bT g.lts,u < g.nu) (gV:g.lts.length+ch.length<=50) (ok:∀x∈ch,gX x.flags/\de x.flags=ae x.flags):RR g (gp g ch) ch.length:=by
 induction ch generalizing g with
 |nil=>show ⟨f,rfl,(VY _).symm,lt,λx hx=> .inl hx⟩
 |cons x r ih=>
  have R6:g.lts.length+1+r.length<=50:=aK (iL (yi ..)) gV;have a1:=Ū (oct:=x.oct) (inst:=x.inst) f lt (aK (eC ..) R6) (ok x (.head _)).1 (ok x (.head _)).2;have a2:=ih a1.1 a1.4 (show (_++[_]).length+_<=50 from aa cb R6) λy hy=>ok y (.tail _ hy);show ⟨a2.1,a2.2.trans a1.2,(show (gp (jU g x.oct x.flags x.inst) r).nu=_ from aa a2.3 (aa a1.3 (aa cY ?_))),a2.4,λy hy=>(a2.5 y hy).elim (a1.5 y) λh=> .inr ?_⟩
  ·have:=a1.3;lia
  ·lia
end
end
section
variable {w:bQ} {qt:aN}
theorem NN {α β:Type} {f:α->β} {l:ah α} {a b:α} (nd:(l.map f).Nodup) (ha:a∈l) (hb:b∈l) (e:f a=f b):a=b:=by
 induction l with
 |nil=>show nomatch ha
 |cons c l ih=>
  rw [dX,oA] at nd;show (List.mem_cons.mp ha).elim (λha=>(List.mem_cons.mp hb).elim (λhb=>ha.trans hb.symm) λhb=>?_) λha=>(List.mem_cons.mp hb).elim (λhb=>?_) (ih nd.2 ha)
  ·show (nd.1 (ha▸e▸yk hb)).elim
  ·show (nd.1 (hb▸e▸yk ha)).elim
noncomputable def pe (b g:Bx) (ch:ah Lt):Bx:=if b.name==g.name then gp g ch else b
noncomputable def rz (s:bc) (b g:Bx) (ch:ah Lt) (mv:aN):bc:=if mv then qp (jT s (gp g ch)) (pe b g ch) ((ij ch g.nu).map (λx=>x.1)) else jT s (gp g ch)
section
variable {H:aj} {S dS Dd:aF} {F:aF->Prop} {s:bc} {l:ah Slot} {t u:Slot} {n:ar} {Q:PQ} {X:PX}
theorem cA.Sw (al:cA H S dS Dd l s) (hF:∀x,jQ S Dd l x->F x) (ht:t∈l) (hu:u∈l):
  ∃l',cA (Mine.Internal.dJ H u.B u.dx u.L (gp u.b ch)) S dS Dd l' (jT s (gp u.b ch))/\(∀x,jQ S Dd l' x->F x)/\(∀x o,¬F x->H x=ae o->(Mine.Internal.dJ H u.B u.dx u.L (gp u.b ch)) x=ae o)/\(⟨pe t.b u.b ch,t.B,t.dx,t.L⟩:Slot)∈l'/\(⟨gp u.b ch,u.B,u.dx,u.L⟩:Slot)∈l':=by
 show dP (tU hu) λk1 k2 bC=>?_;subst bC;show (wu _ (al.upd (Pf ch u.b) (.up (al.5 u hu).ne) (λx n1 n2 J=>(aj.eQ _ _ n2).trans (aj.eQ _ _ n1)) (.inl rfl)) (λx hx=>hF x ?_) (al.dJ hF (Pf ch u.b)).2 ?_ (iy _ (.head _)))
 ·rcases hx with h|h|⟨v,hv,hx⟩
  ·show .inl h
  ·show .inr (.inl h)
  ·rcases List.mem_append.mp hv with h|h
   ·show .inr (.inr (ao v (mm _ h) hx))
   ·rcases List.mem_cons.mp h with h|h
    ·subst h;show .inr (.inr (ao u hu hx))
    ·show .inr (.inr (ao v (iy _ (.tail _ h)) hx))
 ·unfold pe;by_cases q:(t.b.name==u.b.name)=ai
  ·have e:t=u:=NN al.4 ht hu (eq_of_beq q);exists bN q;exists e;show iy _ (.head _)
  ·exists bo q;rcases List.mem_append.mp ht with h|h
   ·show mm _ h
   ·rcases List.mem_cons.mp h with h|h
    ·subst h;show cy (kZ _) q
    ·show iy _ (.tail _ h)
theorem Ma (al:cA H S dS Dd l s) (ft:jo t.b) (fu:jo u.b) (lt:∀v∈bT u.b.lts,v < u.b.nu) (hF:∀x,jQ S Dd l x->F x) (ht:t∈l) (hu:u∈l) (hn:u.b.lts.length+us.length<=50) (hg:t.b.gone.length<=900) (zC:t.b.name=u.b.name->u.b.gone.length<=900)
  (h:∀H',hJ H S F (rz s t.b u.b (dA t.b us) ai) H'->(∃mB L' g',H' u.B=ae (gE mB L' g')/\g'.val=u.b.val)->Q (.lst (nX (ij (dA t.b us) u.b.nu))) H'):bq (cx w ai) (n+7) (.ref 232) [.ref t.B,.lst (us.map .int),.ref u.B] H Q X:=by
 show BX (al.Sw hF ht hu (ch:=dA t.b us)) λl' u6 qw kp mt mu=>?_;have hc:(dA t.b us).length<=us.length:=z7
 have mem:∀x∈dA t.b us,x∈t.b.lts:=λx hx=>by
  show aA (List.mem_filterMap.mp hx) λJ J e=>?_;show uX e
 have ok:=aee (dA t.b us) fu lt (by lia) λx hx=>⟨ft.3 x (mem x hx),ft.4 x (mem x hx)⟩
 have f3:jo (pe t.b u.b (dA t.b us))/\(pe t.b u.b (dA t.b us)).gone.length<=1000:=by
  unfold pe;split
  ·rename_i q;show ⟨ok.1,by exists ok.2;have:=zC (eq_of_beq q);lia⟩
  ·show ⟨ft,by lia⟩
 have vu:=(u6.5 _ mu).1;have am:=u6.5 ⟨pe t.b u.b (dA t.b us),t.B,t.dx,t.L⟩ mt
 have val:∀ch:ah Lt,∀g:Bx,(gp g ch).val=g.val:=λch=>by
  induction ch with
  |nil=>show λJ=>rfl
  |cons x r ih=>show λg=>(ih _).trans rfl
 show YZ (.inl rfl) (al.5 t ht) ft (al.5 u hu) (by lia) (by lia) rfl rfl (b':=pe t.b u.b (dA t.b us)) am f3.1 f3.2 (λe=>h _ ?_ (wX _ _ _ vu (val _ _))) λe L' hL=>h _ ?_ ?_
 ·unfold rz qp;exists bN e;show ⟨(ao F ⟨_,_,_,u6,qw⟩ (λJ h=> .inl h)),kp⟩
 ·unfold rz qp;exists bo e;show dP (tU mt) λm1 m2 bW=>?_;subst bW;show hJ.trans (λJ h=> .inl h) kp (u6.exp (us:=(ij (dA t.b us) u.b.nu).map (λx=>x.1)) qw hL)
 ·by_cases q:u.B=t.B
  ·show (wX _ _ _ (aY (bU vu hL) (aa q (aj.aW ..))) ?_);have e2:=am.1;rw [<-q,vu] at e2;have e3:=bZ e2;injection e3 with _ _ _ e3
   injection e3 with _ e3
   injection e3 with e3
   have e4:(pe t.b u.b (dA t.b us)).val=(gp u.b (dA t.b us)).val:=by injection e3 with e3;show e3.symm
   show e4.trans (val _ _)
  ·show (wX _ _ _ (aY (bU vu hL) (aY q vu)) (val _ _))
theorem Qz:∀(ch:ah Lt) (g:Bx),(gp g ch).val=g.val
 |[],_=>rfl
 |x::r,g=>(Qz r _).trans rfl
theorem ada (al:cA H S dS Dd l s) (sf:gR s) (hF:∀x,jQ S Dd l x->F x) (ht:t∈l) (hu:u∈l) (hn:us.length<=15)
  (h:∀H',hJ H S F (rz s t.b u.b (dA t.b us) au) H'->(∃mB L' g',H' u.B=ae (gE mB L' g')/\g'.val=u.b.val)->Q (.lst (nX (ij (dA t.b us) u.b.nu))) H'):bq (cx w ai) (n+6) (.ref 227) [.ref t.B,.lst (us.map .int),.ref u.B] H Q X:=by
 have nu:=sf.3 _ (al.mem hu);show BX (al.Sw hF ht hu (ch:=dA t.b us)) λl' u6 qw kp mt mu=>Oz (.inl rfl) (al.5 t ht) (sf.2 _ (al.mem ht)).1 (al.5 u hu) (aK ‹_› ⋯) (by omega) (h _ ?_ (wX _ _ _ ((u6.5 _ mu).1) (Qz _ _)));show ⟨(ao F ⟨_,_,_,u6,qw⟩ (λJ h=> .inl h)),kp⟩
end
section
variable {H:aj} {S:aF} {F:aF->Prop} {s:bc}
noncomputable def OU (s:bc) (b g:Bx) (us:ah aq) (mv:aN):bc×AV:=(rz s b g (dA b us) mv,.tup [.int g.val,.tup ((ij (dA b us) g.nu).map λp=> .int p.1),.tup ((ij (dA b us) g.nu).map λp=> .int p.2)])
noncomputable def rx (s:bc) (x:ak) (us:ah aq) (y:ak) (mv:aN):aR (bc×AV):=(c5 s.bs (dN x)).bind λb=>(c5 s.bs (dN y)).bind λg=>if DF b us then ae (OU s b g (sortI (cM us)) mv) else none
theorem Ud (a:gW H S F s) (sf:gR s) (hx:x.length<=80000) (hy:y.length<=80000) (hu:us.length<=15):mD w 8 603 [.ref S,.str x,.tup (us.map .int),.str y,.bool mv] H S F s (rx s x us y mv):=λ{n Q X} h1 h2=>by
 show eV a.1 λdS Dd l al hF=>?_;have hs:(sortI (cM us)).length<=15:=aK (iL (qk _)) (aK (pS us) hu);show fn 30 30 ag4 rfl λK XK hK hN hX=>?_;intro m;show ⟨_,al.1,rA al (aK hx ⋯) (λt ht e eg=>?_) λJ eg u i=>hX (.refl _) (h2 (by unfold rx;exists eg;rfl) _ u i (.refl a))⟩;show ⟨_,al.1,rA al (aK ‹_› ⋯) (λu xj e2 kP=>?_) λJ kP u i=>hX (.refl _) (h2 (by unfold rx;exists eg;rewrite [ou];exists kP;rfl) _ u i (.refl a))⟩;have nt:=sf.3 _ (al.mem ht);have nu:=sf.3 _ (al.mem xj);show aeU (al.5 t ht) (sf.2 _ (al.mem ht)).1 (aK ‹_› ⋯) (λq=>?_) λq u i=>hX (.refl _) (h2 (by unfold rx;exists eg;rewrite [ou];exists kP;rewrite [ou];show bo (by exists q;decide)) _ u i (.refl a));show xJ (al.5 t ht) (by lia) (rr (.inl rfl) (by rewrite [bp];show e9 (aK ‹_› ⋯)) (PN (al.5 u xj) (by rewrite [bp];lia) (by rewrite [bp];lia) ?_));have hc:(ij (dA t.b (sortI (cM us))) u.b.nu).length<=15:=by exists JW;show aK z7 hs
 have ef:rx s x us y mv=ae (OU s t.b u.b (sortI (cM us)) mv):=by unfold rx;exists eg;exists kP;show bN q
 show br (λq2=>?_) λq2=>?_
 ·subst q2;show Ma al (sf.2 _ (al.mem ht)).1 (sf.2 _ (al.mem xj)).1 nu.2.2.2 hF ht xj (by lia) (sf.2 _ (al.mem ht)).2.1 (λJ=>(sf.2 _ (al.mem xj)).2.1) λH' p x'=>eV x' λmB L' g' eb ev=>(ao _ eb (fY (ij (dA t.b (sortI (cM us))) u.b.nu) tC (λJ=>ai) (λp=> .int p.1) (λJ=>cL) (cH (by lia)) trivial (λx J H' J=>(aP rfl rfl (λJ=>(aP rfl rfl trivial)))) λJ=>?_));show kH (.inl rfl) (by rewrite [ja,bp];show cH (by lia)) ?_;show fY (ij (dA t.b (sortI (cM us))) u.b.nu) tC (λJ=>ai) (λp=> .int p.2) (λJ=>cL) (cH (by lia)) trivial (λx J H' J=>(aP rfl rfl (λJ=>(aP rfl rfl trivial)))) λJ=>kH (.inl rfl) (by rewrite [ja,bp];show cH (by lia)) (hK (.refl _) ?_)
  rewrite [ja];exists ev
  show h1 _ _ _ ef p
 ·subst q2;show ada al sf hF ht xj hs λH' p x'=>eV x' λmB L' g' eb ev=>(ao _ eb (fY (ij (dA t.b (sortI (cM us))) u.b.nu) tC (λJ=>ai) (λp=> .int p.1) (λJ=>cL) (cH (by lia)) trivial (λx J H' J=>(aP rfl rfl (λJ=>(aP rfl rfl trivial)))) λJ=>?_));show kH (.inl rfl) (by rewrite [ja,bp];show cH (by lia)) ?_;show fY (ij (dA t.b (sortI (cM us))) u.b.nu) tC (λJ=>ai) (λp=> .int p.2) (λJ=>cL) (cH (by lia)) trivial (λx J H' J=>(aP rfl rfl (λJ=>(aP rfl rfl trivial)))) λJ=>kH (.inl rfl) (by rewrite [ja,bp];show cH (by lia)) (hK (.refl _) ?_)
  rewrite [ja];exists ev
  show h1 _ _ _ ef p
end
end
section
variable {w:bQ} {qt:aN}
theorem Pa {α σ:Type} (Ä:VK.Ok vk m.c) (f:ar) (g:α->AV) (HH:σ->aj) (out:σ->ah AV) (P:ah α->σ->Prop) (sz:∀s r,P r s->(out s).length+r.length<=bY) (nil:∀s,P [] s->Q (.list (out s)) (HH s))
  (step:∀x r s,P (x::r) s->iC (oP sc' t (g x)) λbs=>∀D C,HH s D=none->HH s C=none->D≠C->vE vk f sc' elt m (bs++aO) (HD D (.list (out s)) C (HH s)) (λv aw=>∃s',P r s'/\aw=HD D (.list (out s)) C (HH s')/\HH s' D=none/\HH s' C=none/\out s'=out s++[v]) (λJ J=>dV)):
  ∀(l:ah α) s,P l s->LC m.c m.n sc' t [] (p_ elt) aO (λJ=>cL) Q X (l.map g) (.list (out s)) (HH s):=by
 intro l;induction l with
 |nil=>show nil
 |cons x r ih=>
  intro s p;have hz:=sz s _ p;simp only [cY] at hz;show aA (kc (step x r s p)) λbs e h=>(ao bs e (λD C hD hC eB=>?_));show my.post (Q:=λb aw=>b=ai/\aw=HD D (.list (out s)) C (HH s)) ⟨rfl,rfl⟩ λb aw q=>aM q ?_;clear q;intro bC bW;rcases bC with rfl;rcases bW with rfl
  exists bN rfl;show PU eB (by lia) (((g_ Ä f).1 (h D C hD hC eB)).mono (λv aw q=>?_) λJ J z=>z.elim);show BX q λs' p' e1 nD nC e2=>(ew _ _ (.refl _ _) (ao (HH s') e1 (LN.mk (acc:= .list (out s')) (aa e2 rfl) nD nC trivial (λJ J J J q=>nomatch q) (λq=>nomatch q) (ih s' p'))))
def NW (x:ak) (ρ:Rh) (Q:PS):cW->aj->Prop:=λacc aG=>∀D,aG D=none->AF.next= .next/\∃D' l aV,(x,AV.ref D)::ρ=(x,.ref D')::ρ/\aG.set D acc=aV.set D' (.list l)/\aV D'=none/\Q .next ((x,.lst l)::ρ) aV
theorem Κ (h:Q .next ((x,.lst l)::ρ) H):NW x ρ Q (.list l) H:=λD hD=>⟨rfl,D,l,H,rfl,rfl,hD,h⟩
theorem Xl (ok:VK.Ok vk m.c) (f:ar) (HW:(sc.kind== .function)=ai) (hk:lr sc x=ai) (iN:mr sc scope=ai) (c8:(xf t||m.c.qt)=ai) (hn:sh it=ai) (hs:CP sc scope x q p'=ai)
  (h:vI vk f sc it m ρ H (λitems ok aw=>LC m.c m.n (gY scope sc) t [] (p_ elt) (ip (gY scope sc) ρ) ok (NW x ρ Q) X items (.list []) aw) X):
  cP m.c m.n sc (.Assign [.Name x q] (.ListComp elt [⟨t,it,[],0⟩] scope p') p) ρ H Q (λx J H'=>X x H'):=
 Ua (QQ hk iN (yI c8) ((g_ ok f).2 h) (λenv e=>by exists IX HW env e;exists hs;rfl) (uQ hn))
end
section
variable {w:bQ} {qt:aN}
noncomputable def pf (nm old:ak):aN:=nm==old||Lp nm (old++("/":ak))
noncomputable def mF (nm old:ak):ak:=qJ nm (iF (ae old.length)) (iF none)
noncomputable def lO (new old:ak):ah ak->aR (ah (ak×ak))
 |[]=>ae []
 |nm::r=>if pf nm old then (cT (new++mF nm old)).bind λg=>(lO new old r).map (λx=>(nm,g)::x) else lO new old r
noncomputable def mQ (s:bc) (old new:ak):aR (ah (ak×ak)):=(lO new old s.names).bind λps=>if ps.any (λp=>gu s p.2) then none else ae ps
noncomputable def jI (p:ak×ak):AV:= .tup [.str p.1,.str p.2]
section
variable {nm old new g:ak} {r:ah ak}
theorem HY (h:pf nm old=au):lO new old (nm::r)=lO new old r:=bo (by exists h;decide)
theorem Jr (h:pf nm old=ai) (k:cT (new++mF nm old)=none):lO new old (nm::r)=none:=(bN h).trans (by exists k;rfl)
theorem JH (h:pf nm old=ai) (k:cT (new++mF nm old)=ae g):lO new old (nm::r)=(lO new old r).map (λx=>(nm,g)::x):=(bN h).trans (by exists k;rfl)
theorem Yw:(mF nm old).length<=nm.length:=slice_le
end
inductive qY (s:bc) (old new:ak) (r:ah ak) (acc:ah (ak×ak)):Prop
 |mk (e:lO new old s.names=(lO new old r).map (λx=>acc++x)) (l:∀x∈r,x.length<=30000) (k:acc.length+r.length<=50)
theorem qY.skip {acc:ah (ak×ak)} (p:qY s old new (nm::r) acc) (h:pf nm old=au):qY s old new r acc:=
 ⟨p.1.trans (by exists HY h;rfl),λx hx=>p.2 x (.tail _ hx),aK (iJ (kX _) _) p.3⟩
theorem qY.go {acc:ah (ak×ak)} (p:qY s old new (nm::r) acc) (h:pf nm old=ai) (k:cT (new++mF nm old)=ae g):qY s old new r (acc++[(nm,g)]):=
 ⟨p.1.trans (by exists JH h k;rewrite [Option.map_map];congr 1;funext x;simp),λx hx=>p.2 x (.tail _ hx),by have:=p.3;simp only [cb,cY,jL] at this ⊢;lia⟩
theorem qY.bad {acc:ah (ak×ak)} (p:qY s old new (nm::r) acc) (h:pf nm old=ai) (k:cT (new++mF nm old)=none):mQ s old new=none:=by
 unfold mQ;exists p.1;exists Jr h k;rfl
section
variable {H:aj} {S dS Dd:aF} {F:aF->Prop} {s:bc} {l:ah Slot} {n:ar} {Q:PQ} {X:PX}
theorem cA.set (al:cA H S dS Dd l s) (hD:H D=none):cA (H.set D o) S dS Dd l s:=al.frame λx o J e=>aY (bU e hD) e
theorem agt (al:cA H S dS Dd l s) (sf:gR s) (ho:old.length<=40000) (hn:new.length<=40000) (h1:∀ps,mQ s old new=ae ps->Q (.lst (ps.map jI)) H) (h2:mQ s old new=none->∀x i,X ⟨76,.str x,.int i⟩ H):
  bq (cx w ai) (n+6) (.ref 558) [.ref S,.str old,.str new] H Q X:=by
 show bq.Tv (fn 30 30 Þ rfl λK XK hK hN hX=>?_);intro m D hD;have nl:s.names.length<=50:=by unfold bc.names iq;rewrite [qk,bp];show sf.1
 have aa4:∀x∈s.names,x.length<=30000:=λx hx=>by
  show aA (List.mem_map.mp ((ke fZ _).mem_iff.mp hx)) λb hb bC=>?_;exists bC.symm;show (sf.2 b hb).2.2
 have F1:∀{o:cW},o≠.priv->Sub H (H.set D o):=λho=>uN hD ho;show (bK.mk ((al.set hD).1) (RN (al.set hD) sf.1 ?_));show jX AV.str (λ_:ah (ak×ak)=>(vb "pairs" "new" "old" "store" (.ref D) (.str new) (.str old) (.ref S))) (λacc=>H.set D (.list (acc.map jI))) (qY s old new) (λacc p=>?_) (λnm r acc p K' dU hr=>?_) s.names [] ⟨by simp,aa4,by simpa using nl⟩
 ·have e:lO new old s.names=ae acc:=p.1.trans (by show (?_:ae (acc++[])=_);rewrite [fW];rfl);show (ao _ (aj.aW ..) ?_);have eP:mQ s old new=if acc.any (λp=>gu s p.2) then none else ae acc:=by unfold mQ;exists e;rfl
  show jX jI (λ_:gv=>(vb "pairs" "new" "old" "store" (.ref D) (.str new) (.str old) (.ref S))) (λJ=>H.set D (.list (acc.map jI))) (λr J=>acc.any (λp=>gu s p.2)=r.any λp=>gu s p.2) (λJ q=>?_) (λp r J q K' dU hr=>?_) acc () rfl
  ·show hK (.refl _) (i5 D H _ rfl rfl hD (h1 _ (eP.trans (bo (by exists q;show jJ)))))
  ·show I2 (al.set hD) (λq2=>dU () _ (q.trans (qm q2)) (aj.aW ..) (f9 rfl rfl rfl rfl trivial)) λq2 u i=>hX (F1 (by simp)) (h2 (eP.trans (bN (q.trans (vj q2)))) u i)
 ·have hl:=p.2 nm (.head _);have tl:(mF nm old).length<=30000:=aK Yw hl;show br (λq=>?_) λq=>ach (aK ‹_› ⋯) (br (λq2=>?_) λq2=>dU acc _ (p.skip ((qm q).trans q2)) trivial (f9 rfl rfl rfl rfl trivial))
  all_goals
   have hb:pf nm old=ai:=by first|show vj q|show (qm q).trans q2
   show (bK.mk (aj.aW ..) (wm (e9 (aK ‹_› ⋯)) (ao _ rfl (G_ (mC (aK ‹_› ⋯)) ⟨?_,xx (x:=new++mF nm old) ?_ (λg eg=>?_) λeg u i=>hX (F1 (by simp)) (h2 (p.bad hb eg) u i)⟩))))
   ·show (?_:(new++mF nm old).length<=_);rewrite [s6];show mC (by lia)
   ·rewrite [s6];lia
   ·have e5:∀o,(H.set D o).set D (.list (acc.map jI++[.tup [.str nm,.str g]]))=H.set D (.list ((acc++[(nm,g)]).map jI)):=λo=>by rewrite [cV];exists dz;rfl
    show vh (aj.aW ..) (by rewrite [bp];show cH (aK (eC _ _) p.3)) ?_
    rewrite [e5]
    show dU _ _ (p.go hb eg) trivial (f9 rfl rfl rfl rfl trivial)
end
end
section
variable {w:bQ} {qt:aN}
noncomputable def yS (s:bc) (b:Bx) (f:ak):bc:=rz ⟨s.bs++[fQ f s.nv],s.subs,s.nv+1⟩ b (fQ f s.nv) (dA b (bT b.lts)) ai
section
variable {H:aj} {S dS Dd:aF} {F:aF->Prop} {s:bc} {l:ah Slot} {t:Slot} {n:ar} {Q:PQ} {X:PX}
theorem adp (al:cA H S dS Dd l s) (sf:gR s) (hF:∀x,jQ S Dd l x->F x) (ht:t∈l) (hf:gu s f=au) (h1:qT s s.nv=ai->∀H',hJ H S F (yS s t.b f) H'->Q (.lst [jI ("INBOX",f)]) H') (h2:qT s s.nv=au->∀x i,X ⟨76,.str x,.int i⟩ H):
  bq (cx w ai) (n+8) (.ref 570) [.ref S,.ref t.B,.str f] H Q X:=by
 have nt:=sf.3 _ (al.mem ht);show fn 20 20 Ź rfl λK XK hK hN hX=>?_;intro m;show (ao _ al.1 (TK al (λq=>?_) λq u i=>hX (.refl _) (h2 q u i)));show xJ (al.5 t ht) (by omega) (ao _ al.1 (Cz λB dx L hB hL ru=>?_));have S1:S≠B:=bU al.1 hB;have S2:S≠L:=bU al.1 hL;have D1:Dd≠B:=bU al.2 hB;have D2:Dd≠L:=bU al.2 hL;have DS:Dd≠S:=eA al.2 al.1 rfl;show (ao _ (aY S2 (aY S1 al.1)) (uW (Y:=gQ m.c) (aY D2 (aY D1 al.2)) al.nZ (by exists rK;exists al.len;show cH sf.1) ?_));show (ao _ (aY (bI DS) (aY S2 (aY S1 al.1))) (ao _ (aY (bI DS) (aY S2 (aY S1 al.1))) ?_));have fr:∀y,y≠S->y≠Dd->y≠B->y≠L->((((H.set B (gE dx L (fQ f s.nv))).set L (gM [])).set Dd (cj (gQ m.c) (jh (fj l) f (.ref B)))).set S (rR dS Dd ⟨s.bs++[fQ f s.nv],s.subs,s.nv+1⟩)) y=H y:=λy n1 n2 n3 n4=>(aj.eQ _ _ n1).trans ((aj.eQ _ _ n2).trans ((aj.eQ _ _ n4).trans (aj.eQ _ _ n3)));have a1:=al.Nm (s':=⟨s.bs++[fQ f s.nv],s.subs,s.nv+1⟩) (t:=⟨fQ f s.nv,B,dx,L⟩) (aj.aW ..) (aY DS ((aj.aW ..).trans (bD (λe=>ae (cj (gQ m.c) e)) (B4 (t:=⟨fQ f s.nv,B,dx,L⟩) (DQ al hf))))) rfl (DQ al hf) ⟨aY (bI S1) (aY (bI D1) (aY ru (aj.aW ..))),aY (bI S2) (aY (bI D2) (aj.aW ..))⟩ hB hL fr;have m1:t∈l++[⟨fQ f s.nv,B,dx,L⟩]:=mm _ ht;have m2:(⟨fQ f s.nv,B,dx,L⟩:Slot)∈l++[⟨fQ f s.nv,B,dx,L⟩]:=iy _ (.head _);show (ao _ (a1.5 t m1).1 (JM (n:=n+6) (a1.5 t m1) (by omega) ?_));show Ma (n:=n) a1 (sf.2 _ (al.mem ht)).1 ⟨i0 _,.nil,λx hx=>(by cases hx),λx hx=>(by cases hx)⟩ (λv hv=>by cases hv) (Rt (t:=⟨fQ f s.nv,B,dx,L⟩) hF) m1 m2 (by show (?_:0+_<=50);exists Qx;omega) (sf.2 _ (al.mem ht)).2.1 (λJ=>i0 _) λH' p J=>?_;show hK (.refl _) (h1 q H' (p.trans (MW (F:=F) (t:=⟨fQ f s.nv,B,dx,L⟩) hB hL) (N4 (t:=⟨fQ f s.nv,B,dx,L⟩) al hF hB hL fr)))
end
end
section
variable {w:bQ} {qt:aN}
noncomputable def lQ (ps:ah (ak×ak)) (b:Bx):Bx:=match ps.lookup b.name with
 |some g=>{b with name:=g}
 |none=>b
noncomputable def uw (s:bc) (ps:ah (ak×ak)):bc:={s with bs:=s.bs.map (lQ ps)}
abbrev RS:=ah (Slot×ak)
noncomputable def iD (r:Slot×ak):ak×ak:=(r.1.b.name,r.2)
noncomputable def bG (r:Slot×ak):Bx:={r.1.b with name:=r.2}
noncomputable def lZ (r:Slot×ak):Slot:=⟨bG r,r.1.B,r.1.dx,r.1.L⟩
noncomputable def bH (H:aj) (q:RS):aj:=q.foldl (λh r=>h.set r.1.B (gE r.1.dx r.1.L (bG r))) H
noncomputable def eW (c:ah Slot) (x:Slot×ak):ah Slot:=c.filter λu=>decide (u.b.name≠x.1.b.name)
theorem RB:bH H (q++[r])=(bH H q).set r.1.B (gE r.1.dx r.1.L (bG r)):=by unfold bH;exists List.foldl_append;rfl
theorem yE {H:aj} {x:aF}:∀{q:RS},(∀r∈q,x≠r.1.B)->(bH H q) x=H x:=by
 intro q;induction q generalizing H with
 |nil=>show λJ=>rfl
 |cons r q ih=>show λh=>(ih λy hy=>h y (.tail _ hy)).trans (aj.eQ _ _ (h r (.head _)))
theorem Yz {H:aj} {r:Slot×ak}:∀{q:RS},(q.map (λx=>x.1.B)).Nodup->r∈q->(bH H q) r.1.B=ae (gE r.1.dx r.1.L (bG r)):=by
 intro q;induction q generalizing H with
 |nil=>intro J h;cases h
 |cons a q ih=>
  intro nd h;rw [dX,oA] at nd;rcases List.mem_cons.mp h with rfl|h
  ·show (yE λy hy e=>nd.1 (List.mem_map.mpr (ao y hy e.symm))).trans (aj.aW ..)
  ·show ih nd.2 h
theorem Φ {c:ah Slot} {x:Slot×ak} (h:x.1∈c) (nd:(c.map (λx=>x.b.name)).Nodup):c.Perm (eW c x++[x.1]):=by
 show dP (tU h) λc1 c2 bC=>?_;subst bC;show aM (AE nd) λn1 J=>?_
 have e:eW (c1++x.1::c2) x=c1++c2:=by
  unfold eW
  rewrite [List.filter_append];exists List.filter_cons_of_neg (by simp);exists List.filter_eq_self.mpr λu hu=>lJ (n1 u (mm _ hu));exists List.filter_eq_self.mpr λu hu=>lJ (n1 u (iy _ hu));rfl
 exists e;show List.perm_middle.trans (ajV (l₁:=[x.1]))
theorem acJ {r:RS} {c:ah Slot} (h:∀x∈r,x.1∈c) (nd:(c.map (λx=>x.b.name)).Nodup) (nr:(r.map (λx=>x.1.b.name)).Nodup):c.Perm (r.foldl eW c++r.map (λx=>x.1)):=by
 induction r generalizing c with
 |nil=>show (fW c).symm▸.refl _
 |cons x r ih=>
  rw [dX,oA] at nr;show (Φ (h x (.head _)) nd).trans (((ih (c:=eW c x) (λy hy=>List.mem_filter.mpr ⟨h y (.tail _ hy),lJ λe=>nr.1 (e▸List.mem_map.mpr (ao y hy rfl))⟩) (nd.sublist ((oB ..).map _)) nr.2).append_right _).trans ?_);exists yB;exists dX;rewrite [gh];show akY _ (ajV)
theorem Dp {r:RS} {c:ah Slot} {u:Slot} (h:u∈r.foldl eW c):u∈c/\∀x∈r,u.b.name≠x.1.b.name:=by
 induction r generalizing c with
 |nil=>show ⟨h,λx hx=>nomatch hx⟩
 |cons x r ih=>show aM (ih (c:=eW c x) h) λh1 h2=>aM (List.mem_filter.mp h1) λh3 h4=>⟨h3,λy hy=>(List.mem_cons.mp hy).elim (λe=>e▸fi h4) (h2 y)⟩
inductive zi (l:ah Slot) (s:bc) (rs:RS):Prop
 |mk (m:∀r∈rs,r.1∈l) (nd:(rs.map (λx=>x.1.b.name)).Nodup) (ng:(rs.map (λx=>x.2)).Nodup) (new:∀r∈rs,∀u∈l,u.b.name≠r.2)
section
variable {H:aj} {S dS Dd:aF} {F:aF->Prop} {s:bc} {l:ah Slot} {rs:RS}
theorem cA.M1 (al:cA H S dS Dd l s) (ht:t∈l) (hu:u∈l) (e:t.B=u.B):t.b.name=u.b.name:=by
 have h1:=(al.5 t ht).1;rw [e,(al.5 u hu).1] at h1;have h1:=bZ h1;injection h1 with _ _ _ h1
 injection h1 with h1
 injection h1 with h1
 show h1.symm
theorem zi.xR (al:cA H S dS Dd l s) (o:zi l s rs):(rs.map (λx=>x.1.B)).Nodup:=by
 show List.pairwise_map.mpr ((List.pairwise_map.mp o.2).imp_of_mem λ{a b} ha hb n e=>n (al.M1 (o.1 a ha) (o.1 b hb) e))
theorem Ys {r:Slot×ak}:∀{q:RS},(q.map (λx=>x.1.b.name)).Nodup->r∈q->(q.map iD).lookup r.1.b.name=ae r.2:=by
 intro q;induction q with
 |nil=>intro J h;cases h
 |cons a q ih=>
  intro nd h;rw [dX,oA] at nd;show (?_:(match r.1.b.name==a.1.b.name with|true=>ae a.2|false=>(q.map iD).lookup r.1.b.name)=_);rcases List.mem_cons.mp h with rfl|h
  ·rewrite [kZ];rfl
  ·have:(r.1.b.name==a.1.b.name)=au:=beq_eq_false_iff_ne.mpr λe=>nd.1 (e▸List.mem_map.mpr (ao r h rfl));exists this;show ih nd.2 h
theorem YG {x:ak}:∀{q:RS},(∀r∈q,x≠r.1.b.name)->(q.map iD).lookup x=none:=by
 intro q;induction q with
 |nil=>show λJ=>rfl
 |cons a q ih=>
  intro h;show (?_:(match x==a.1.b.name with|true=>ae a.2|false=>(q.map iD).lookup x)=_);exists beq_eq_false_iff_ne.mpr (h a (.head _));show ih λr hr=>h r (.tail _ hr)
noncomputable def hZ (H:aj) (Dd:aF) (rest:ah Slot) (q:RS):aj:=(bH H q).set Dd (iz (rest++q.map lZ))
theorem cA.si (al:cA H S dS Dd l s) (o:zi l s rs):cA (hZ H Dd (rs.foldl eW l) rs) S dS Dd (rs.foldl eW l++rs.map lZ) (uw s (rs.map iD)):=by
 have pm:=acJ o.1 al.4 o.2;have DP:((rs.foldl eW l++rs.map (λx=>x.1)).map (λx=>x.b.name)).Nodup:=(pm.map _).nodup_iff.mp al.4;have nB:∀x ob,H x=ae ob->(∀r∈rs,x≠r.1.B)->x≠Dd->(hZ H Dd (rs.foldl eW l) rs) x=ae ob:=λx ob e n1 n2=>aY n2 ((yE n1).trans e);show ⟨nB _ _ al.1 (λr hr=>eA al.1 (al.5 _ (o.1 r hr)).1 rfl) (eA al.1 al.2 rfl),aj.aW ..,?_,?_,λu hu=>?_,?_⟩
 ·have p:=(pm.map (λx=>x.b)).symm.trans al.3;show ajU (VW ?_) (p.map (lQ (rs.map iD)));exists dz;exists dz;exists dz;congr 1
  ·exists cZ;show r_ λu hu=>?_;show (?_:u.b=lQ (rs.map iD) u.b);unfold lQ;exists YG λr hr=>(Dp hu).2 r hr;rfl
  ·exists cZ;exists cZ;exists cZ;show r_ λr hr=>?_;show (?_:bG r=lQ (rs.map iD) r.1.b);unfold lQ;exists Ys o.2 hr;rfl
 ·exists dz;rewrite [tZ];rw [dz,tZ] at DP;show (aP DP.1 (aa cZ o.3) (λx hx y hy e=>?_));show aA (List.mem_map.mp hx) λu hu bW=>?_;subst bW;replace hy:=cZ▸hy;show aA (List.mem_map.mp hy) λr hr dD=>?_;subst dD;show o.4 r hr u (Dp hu).1 e
 ·rcases List.mem_append.mp hu with h|h
  ·show aM (Dp h) λh1 h2=>?_;have a:=al.5 u h1;show ⟨nB _ _ a.1 (λr hr e=>h2 r hr (al.M1 h1 (o.1 r hr) e)) (eA a.1 al.2 rfl),nB _ _ a.2 (λr hr=>eA a.2 (al.5 _ (o.1 r hr)).1 rfl) (eA a.2 al.2 rfl)⟩
  ·show aA (List.mem_map.mp h) λr hr d7=>?_;exists d7.symm;have a:=al.5 _ (o.1 r hr);show ⟨aY (eA a.1 al.2 rfl) (Yz (o.xR al) hr),nB _ _ a.2 (λr' u5=>eA a.2 (al.5 _ (o.1 r' u5)).1 rfl) (eA a.2 al.2 rfl)⟩
 ·have e:(rs.foldl eW l++rs.map lZ).map (λx=>x.L)=(rs.foldl eW l++rs.map (λx=>x.1)).map (λx=>x.L):=by exists dz;exists dz;exists cZ;exists cZ;rfl
  exists e;show (pm.map (λx=>x.L)).nodup_iff.mp al.6
theorem cA.aaL (al:cA H S dS Dd l s) (hF:∀x,jQ S Dd l x->F x) (o:zi l s rs):hJ H S F (uw s (rs.map iD)) (hZ H Dd (rs.foldl eW l) rs):=by
 show ⟨(ao F ⟨_,_,_,al.si o,λx hx=>hF x ?_⟩ (λJ h=> .inl h)),λx ob n e=>aY (λz=>n (z▸hF _ (.inr (.inl rfl)))) ((yE (x:=x) λr hr z=>n (z▸hF _ (.inr (.inr (ao r.1 (o.1 r hr) (.inl rfl)))))).trans e)⟩;rcases hx with h|h|⟨u,hu,hx⟩
 ·show .inl h
 ·show .inr (.inl h)
 ·rcases List.mem_append.mp hu with h|h
  ·show .inr (.inr (ao u ((Dp h).1) hx))
  ·show aA (List.mem_map.mp h) λr hr eM=>?_;subst eM;show .inr (.inr (ao r.1 (o.1 r hr) hx))
end
end
section
variable {w:bQ} {qt:aN}
theorem Dx {new old:ak} {l:ah ak} {ps:ah (ak×ak)} (h:lO new old l=ae ps):(ps.map (λx=>x.1)).Sublist l:=by
 induction l generalizing ps with
 |nil=>show bZ h▸.slnil
 |cons nm r ih=>
  cases hb:pf nm old with
  |false=>rw [HY hb] at h;show .cons _ (ih h)
  |true=>
   cases hs:cT (new++mF nm old) with
   |none=>rw [Jr hb hs] at h;show nomatch h
   |some g=>
    rw [JH hb hs] at h;show aA (Option.map_eq_some_iff.mp h) λqs e z=>z▸.cons_cons _ (ih e)
theorem afp {l:ah Slot} {ps:ah (ak×ak)} (h:∀p∈ps,∃t∈l,t.b.name=p.1):∃rs:RS,ps=rs.map iD/\∀r∈rs,r.1∈l:=by
 induction ps with
 |nil=>show ao [] rfl λr hr=>nomatch hr
 |cons p ps ih=>
  show aA (ih λq hq=>h q (.tail _ hq)) λrs e k=>aA (h p (.head _)) λt ht e2=>ao ((t,p.2)::rs) ?_ λr hr=>(List.mem_cons.mp hr).elim (λe=>e▸ht) (k r);exists dX;exists e.symm;unfold iD;exists e2;rfl
section
variable {H:aj} {S dS Dd:aF} {F:aF->Prop} {s:bc} {l:ah Slot} {t:Slot} {n:ar} {Q:PQ} {X:PX}
theorem aek (al:cA H S dS Dd l s) {old new:ak} {ps:ah (ak×ak)} (h:mQ s old new=ae ps) (ng:(ps.map (λx=>x.2)).Nodup):∃rs,ps=rs.map iD/\zi l s rs/\rs.length<=s.bs.length:=by
 show aA (Option.bind_eq_some_iff.mp h) λqs e h=>?_;split at h
 ·injection h
 rename_i hh;cases (h);have pn:s.names.Perm (l.map (λx=>x.b.name)):=by exists al.names.symm;show ke fZ _
 obtain ⟨rs,e2,k⟩:=afp λp hp=>by
  have:=pn.mem_iff.mp ((Dx e).subset (List.mem_map.mpr (ao p hp rfl)));show aA (List.mem_map.mp this) λt ht e=>(ao t ht e)
 subst e2;have nd:((rs.map iD).map (λx=>x.1)).Nodup:=(pn.nodup_iff.mpr al.4).sublist (Dx e);show (bV rs rfl ⟨k,by rw [cZ] at nd;show nd,by rw [cZ] at ng;show ng,λr hr u hu e=>?_⟩ ?_)
 ·show hh (List.any_eq_true.mpr (ao (iD r) (List.mem_map.mpr (ao r hr rfl)) ?_));unfold gu;exists e.symm;exists qa al.wz (al.mem hu);rfl
 ·have:=(Dx e).length_le;rw [bp,bp,pn.length_eq,bp,al.len] at this;show this
inductive yC (l:ah Slot) (rs r:RS) (s:ah Slot×ah AV):Prop
 |mk (m:∀x∈r,x.1∈s.1) (nd:(s.1.map (λx=>x.b.name)).Nodup) (nr:(r.map (λx=>x.1.b.name)).Nodup) (e:r.foldl eW s.1=rs.foldl eW l) (k:s.1.length<=50) (o:s.2++r.map (λx=>AV.ref x.1.B)=rs.map λx=>AV.ref x.1.B)
theorem yC.go {rs r:RS} {x:Slot×ak} {s:ah Slot×ah AV} (p:yC l rs (x::r) s):yC l rs r (eW s.1 x,s.2++[.ref x.1.B]):=by
 have nr:=p.3;rw [dX,oA] at nr;show ⟨λy hy=>List.mem_filter.mpr ⟨p.1 y (.tail _ hy),lJ λe=>nr.1 (e▸List.mem_map.mpr (ao y hy rfl))⟩,p.2.sublist ((oB ..).map _),nr.2,p.4,aK (lI ..) p.5,by rewrite [gh];show p.6⟩
theorem Nw (n1:a≠D) (n2:a≠C):(HD D acc C H).set a o=HD D acc C (H.set a o):=by
 exists rT _ _ _ (bI n2);exists rT _ _ _ (bI n1);rfl
theorem Gm (e:H a=ae o) (hD:H D=none) (hC:H C=none):(HD D acc C H) a=ae o:=aY (bU e hC) (aY (bU e hD) e)
theorem acf {rs:RS}:(rs.map λr=>AV.ref r.1.B).zip (rs.map λr=>jI (iD r))=rs.map λr=>(.ref r.1.B,jI (iD r)):=by
 induction rs with
 |nil=>rfl
 |cons r q ih=>exists dX;exists dX;exists dX;exists LA;exists ih;rfl
theorem ý {Dd B TO:aF} {d d' o t:cW} {h:aj} (n1:B≠Dd) (n2:TO≠B) (n3:TO≠Dd):(((h.set Dd d).set TO t).set B o).set Dd d'=((h.set B o).set Dd d').set TO t:=funext λy=>by
 by_cases y1:y=Dd
 ·exists y1;simp [aj.set,bI n3]
 ·by_cases y2:y=B
  ·exists y2;simp [aj.set,y1,bI n2]
  ·by_cases y3:y=TO
   ·simp [aj.set,y1,y2]
   ·simp [aj.set,y1,y2,y3]
noncomputable def n8 (s:bc) (x y:ak):aR (bc×AV):=(c5 s.bs (dN x)).bind λb=>(cT y).bind λf=>if gu s f then none else if b.name==("INBOX":ak) then (if qT s s.nv then ae (yS s b f,.lst [jI ("INBOX",f)]) else none) else (mQ s b.name f).map λps=>(uw s ps,.lst (ps.map jI))
section
variable {x y f:ak} {b:Bx}
theorem rb0 (h1:c5 s.bs (dN x)=ae b) (h2:cT y=none):n8 s x y=none:=by unfold n8;exists h1;exists h2;rfl
theorem rb1 (h1:c5 s.bs (dN x)=ae b) (h2:cT y=ae f) (h3:gu s f=ai):n8 s x y=none:=by unfold n8;exists h1;exists h2;show bN h3
theorem T9 (h1:c5 s.bs (dN x)=ae b) (h2:cT y=ae f) (h3:gu s f=au) (h4:(b.name==("INBOX":ak))=ai):n8 s x y=if qT s s.nv then ae (yS s b f,.lst [jI ("INBOX",f)]) else none:=by
 unfold n8;exists h1;exists h2;show (bo (by exists h3;show jJ)).trans (bN h4)
theorem Oe (h1:c5 s.bs (dN x)=ae b) (h2:cT y=ae f) (h3:gu s f=au) (h4:(b.name==("INBOX":ak))=au):n8 s x y=(mQ s b.name f).map λps=>(uw s ps,.lst (ps.map jI)):=by
 unfold n8;exists h1;exists h2;show (bo (by exists h3;show jJ)).trans (bo (by exists h4;show jJ))
end
end
section
variable {H:aj} {S:aF} {F:aF->Prop} {s:bc}
theorem adb {x y:ak} (a:gW H S F s) (sf:gR s) (hx:x.length<=80000) (hy:y.length<=30000) (ng:∀b f ps,c5 s.bs (dN x)=ae b->cT y=ae f->mQ s b.name f=ae ps->(ps.map (λx=>x.2)).Nodup):mD w 9 563 [.ref S,.str x,.str y] H S F s (n8 s x y):=λ{n Q X} h1 h2=>by
 show eV a.1 λdS Dd l al hF=>fn 30 30 ae8 rfl λK XK hK hN hX=>?_;intro m;show ⟨_,al.1,rA al (aK hx ⋯) (λt ht e eg=>?_) λJ eg u i=>hX (.refl _) (h2 (by unfold n8;exists eg;rfl) _ u i (.refl a))⟩;have ft:=sf.2 _ (al.mem ht);show xx (aK ‹_› ⋯) (λf ef=>?_) λef u i=>hX (.refl _) (h2 (rb0 eg ef) _ u i (.refl a))
 have hf:f.length<=30005:=by
  unfold cT at ef;split at ef
  ·injection ef with et;subst et;have:=I5 (x:=y);lia
  ·injection ef
 show I2 (n:=n+5) al (λq=>?_) λq u i=>hX (.refl _) (h2 (rb1 eg ef q) _ u i (.refl a));show (bK.mk (al.5 t ht).1 (br (λq2=>?_) λq2=>?_))
 ·show adp (n:=n) al sf hF ht q (λq3 H' p=>hK (.refl _) (h1 _ _ _ ?_ p)) λq3 u i=>hX (.refl _) (h2 ?_ _ u i (.refl a))
  ·exists T9 eg ef q q2;show bN q3
  ·exists T9 eg ef q q2;show bo (by exists q3;show jJ)
 show (bK.mk (al.5 t ht).1 (agt (n:=n+2) al sf (by lia) (aK ‹_› ⋯) (λps Af=>?_) λAf u i=>hX (.refl _) (h2 (by exists Oe eg ef q q2;exists Af;rfl) _ u i (.refl a))));show cR (aek al Af (ng _ _ _ eg ef Af)) λrs bW ok hl=>?_;subst bW;have gV:=sf.1;have DS:Dd≠S:=eA al.2 al.1 rfl;show Xl fO 30 rfl rfl rfl rfl rfl rfl ?_;have e0:H=H.set Dd (iz l):=(v7 al.2).symm;have st:yC l rs rs (l,[]):=⟨ok.1,al.4,ok.2,rfl,by exists al.len;show gV,rfl⟩;have ep:(rs.map iD).map jI=rs.map λr=>jI (iD r):=by exists cZ;rfl
 exists ep;exists e0;show Pa fO 30 (λr:Slot×ak=>jI (iD r)) (λs:ah Slot×ah AV=>H.set Dd (iz s.1)) (λs=>s.2) (yC l rs) (λs r p=>?_) (λs p=>Κ ?_) (λr r' s p=>?_) rs (l,[]) st
 ·have:=bD mj p.6;rw [cb,bp,bp] at this;exists fH;lia
 ·rcases s with ⟨c,o⟩
  have e1:o=rs.map λr=>AV.ref r.1.B:=by have:=p.6;simpa using this
  have e2:c=rs.foldl eW l:=p.4;subst e1 e2;show RD fO 30 27 rfl rfl (by ext) rfl (zY _ _ _ _ rfl NV NV (by rewrite [bp,bp];rfl) (λTO sM=>?_));show (acf).symm▸?_;have eZ:H.set Dd (iz (rs.foldl eW l))=hZ H Dd (rs.foldl eW l) []:=by unfold hZ;exists FJ;rewrite [fW];rfl
  have sM:(H.set Dd (iz (rs.foldl eW l))) TO=none:=sM;show (?_:yM _ _ _ _ TO _ _ _ (H.set Dd (iz (rs.foldl eW l))));rw [eZ] at sM ⊢;show Oy (λr:Slot×ak=>(AV.ref r.1.B,jI (iD r))) (λ_:RS=>(YS "taken" "pairs" "found" "box" "new" "old" "store" (.lst (rs.map λr=> .ref r.1.B)) (.lst (rs.map λr=>jI (iD r))) (.str f) (.ref t.B) (.str y) (.str x) (.ref S))) (λq=>hZ H Dd (rs.foldl eW l) q) (λr q=>q++r=rs/\(hZ H Dd (rs.foldl eW l) q) TO=none) (λq p=>?_) (λr rem q p K2 Ha=>?_) rs [] ⟨rfl,sM⟩
  ·have e:q=rs:=by have:=p.1;rwa [fW] at this
   subst e;show hK (.refl _) (h1 _ (uw _ (q.map iD)) _ ?_ (al.aaL hF ok));exists Oe eg ef ‹_› q2;exists Af;exists ep.symm;rfl
  ·show aM p λeq hT=>?_;have rm:r∈rs:=eq▸iy _ (.head _);have bn:=ok.xR al;have nd:=(al.si ok).4;rw [<-eq] at bn nd;have nB:∀x∈q,r.1.B≠x.1.B:=λx hx e=>(AE (f:=λx:Slot×ak=>x.1.B) bn).1 x (mm _ hx) e.symm;have nd:((rs.foldl eW l++q.map lZ)++lZ r::rem.map lZ).map (λx=>x.b.name)=((rs.foldl eW l++(q++r::rem).map lZ).map (λx=>x.b.name))/\cL:=⟨by exists (dz (l₁:=q));exists dX;rewrite [gh];rfl,trivial⟩;have Bv:(((rs.foldl eW l++q.map lZ)++lZ r::rem.map lZ).map (λx=>x.b.name)).Nodup:=by exists nd.1;exists eq;show (al.si ok).4
   have nZ:((fj (rs.foldl eW l++q.map lZ)).map (λx=>x.1)).Nodup:=by exists s9;show Bv.sublist ((List.sublist_append_left ..).map _)
   have BD:r.1.B≠Dd:=eA (al.5 _ (ok.1 r rm)).1 al.2 rfl;have BS:S≠r.1.B:=eA al.1 (al.5 _ (ok.1 r rm)).1 rfl;have vB:(hZ H Dd (rs.foldl eW l) q) r.1.B=ae (gE r.1.dx r.1.L r.1.b):=aY BD ((yE nB).trans (al.5 _ (ok.1 r rm)).1);have vS:(hZ H Dd (rs.foldl eW l) q) S=ae (rR dS Dd s):=aY (bI DS) ((yE λx hx=>eA al.1 (al.5 _ (ok.1 x (eq▸mm _ hx))).1 rfl).trans al.1);have vD:(hZ H Dd (rs.foldl eW l) q) Dd=ae (iz (rs.foldl eW l++q.map lZ)):=aj.aW ..;have TB:TO≠r.1.B:=bI (bU vB hT);have TD:TO≠Dd:=bI (bU vD hT);have TS:TO≠S:=bI (bU vS hT);show (bK.mk (aY (bI TB) vB) (bK.mk (aY BS (aY (bI TS) vS)) (uW (Y:=gQ m.c) (k:=r.2) (av:= .ref r.1.B) (aY (bI BD) (aY (bI TD) vD)) nZ ?_ ?_)))
   ·exists rK;have:=(al.si ok).len;have e3:=bD mj eq;rw [cb,bp] at this ⊢;rw [cb,cY] at e3;show cH ?_;have e4:(uw s (rs.map iD)).bs.length=s.bs.length:=bp ..;lia
   ·have fr:(hZ H Dd (rs.foldl eW l) (q++[r])) TO=none:=by
     unfold hZ;exists RB;show (aj.eQ _ _ TD).trans ((aj.eQ _ _ TB).trans ((aj.eQ _ _ TD).symm.trans hT))
    show Ha (q++[r]) _ _ ⟨by rewrite [gh];show eq,?_⟩ ?_ ?_ (z0 rfl rfl rfl rfl rfl rfl rfl trivial)
    ·show fr
    ·unfold hZ;exists ý BD TB TD;exists RB;exists (show jh (fj (rs.foldl eW l++q.map lZ)) r.2 (.ref r.1.B)=_ from B4 (t:=lZ r) (λu hu=>(AE Bv).1 u (mm _ hu)));exists dz;rewrite [<-gh];rfl
    ·show fr
 ·intro D C hD hC eB;have DP:((fj s.1).map (λx=>x.1)).Nodup:=s9▸p.2;have gS:(HD D (.list s.2) C (H.set Dd (iz s.1))) S=_:=Gm (aY (bI DS) al.1) hD hC;have gD:(HD D (.list s.2) C (H.set Dd (iz s.1))) Dd=_:=Gm (aj.aW ..) hD hC;show (bK.mk gS (bK.mk gD (RM (Y:=gQ m.c) (k:=r.1.b.name) gD DP (aa rK (cH p.5)) Pz (rd p.2 (p.1 r (.head _))) ?_)));show (wu (eW s.1 r,s.2++[.ref r.1.B]) p.go ?_ (aY (bI (cw hD).2) (cw hD).1) (aY (bI (cw hC).2) (cw hC).1) rfl);exists Nw (cw hD).2 (cw hC).2;rewrite [cV];exists Q8;rfl
end
end
section
variable {w:bQ} {qt:aN}
theorem ae1 {x:Lt} (hx:x.flags.length<=1000):PF w ai 2 622 [x.told] (.bool ai):=λ{n H Q X} h=>by
 show fn 20 20 ĥ rfl λK XK hK J J=>?_;intro m;show fx rfl (rC (e9 (n:=5) ⋯) (fx rfl (NI hx ?_)));show za (za (za (hK (.refl _) h)))
theorem aa3 {b:Bx} (gV:b.lts.length<=50) (fg:b.gone.length<=1000) (fl:∀x∈b.lts,x.flags.length<=1000):PF w ai 3 627 [b.told] (.bool ai):=λ{n H Q X} h=>by
 show fn 30 30 Pj rfl λK XK hK J J=>?_;intro m;show fx rfl (rC (e9 (n:=7) ⋯) (fx rfl (ao 1 rfl (ao 5 rfl (yZ (cH (n:=7) ⋯) ?_)))));show GR (l:=[b.val,b.nu,b.top,b.floor]) (dY 4 996) (fx rfl ?_);show fY b.lts Lt.Mk (λJ=>ai) (λJ=> .bool ai) (λJ=>cL) (cH gV) trivial (λx hx H' J=>(aP rfl rfl (λJ=>ae1 (fl x hx) (aP rfl rfl trivial)))) λJ=>?_;have e:∀{α:Type} {l:ah α},(l.map λJ=>AV.bool ai)=(l.map λJ=>ai).map .bool:=λ{α l}=>by exists cZ;rfl
 exists e;show El rfl (.inl rfl) ?_;show (EO).symm▸?_;show fx rfl<|fY (g:=sx) b.gone tC (λJ=>ai) (λJ=> .bool ai) (λJ=>cL) (by exists fH;lia) trivial (λp J H' J=>(aP rfl rfl (λJ=>GR (l:=[p.1,p.2]) (dY 2 998) (rC (e9 (n:=2) ⋯) (aP rfl rfl trivial))))) λJ=>?_
 exists e;show El rfl (.inl rfl) ?_;exists EO;show hK (.refl _) h
theorem aga (hl:l.length≠7) (hz:l.length<=1000):PF w ai 3 627 [.tup l] (.bool au):=λ{n H Q X} h=>by
 show fn 30 30 Pj rfl λK XK hK J J=>?_;intro m;show fx rfl (rC (e9 (aK ‹_› ⋯)) (Aa (hK (.refl _) h) λq=>?_));have:((l.length:ar):aq)=7:=by simpa using q
 exfalso;lia
noncomputable def iE (b:Bx) (nv:aq):aN:=(cT b.name==ae b.name) && (te 1 nv b.val && (nj b && b.lts.all λx=>de x.flags==ae x.flags))
section
variable {H:aj} {B dx L:aF} {b:Bx} {n:ar} {Q:PQ} {X:PX}
theorem af4 (a:dE H B dx L b) (gV:b.lts.length<=50) (fg:b.gone.length<=1000) (fl:∀x∈b.lts,gX x.flags) (hz:b.name.length<=80000) (hu:b.nu<=4294967296) (ht:b.top<=9223372036854775807) (h1:iE b nv=ai->Q .none H) (h2:iE b nv=au->∀x i,X ⟨76,.str x,.int i⟩ H):
  bq (cx w ai) (n+5) (.ref 634) [.ref B,.int nv] H Q X:=by
 show fn 30 30 ahv rfl λK XK hK hN hX=>?_;intro m;have P4:cT b.name≠ae b.name->iE b nv=au:=λe=>dq (by simpa using e);show (ao _ a.1 (xx hz (λf ef=>(ao _ a.1 (br (λq=>hX (.refl _) (h2 (P4 λe=>?_) _ _)) λq=>?_))) λef u i=>hX (.refl _) (h2 (P4 (by exists ef;show nofun)) u i)))
 ·rw [ef] at e;injection e with ct;subst ct;rw [Bb] at q;injection q
 have e1:iE b nv=_:=dI (by exists ef;simpa using q);show (ao _ a.1 (br (λq2=>?_) λq2=>hX (.refl _) (h2 (e1.trans (dq (dq q2))) _ _)));show br (λq3=>hX (.refl _) (h2 (e1.trans (dq ((dI q2).trans (jD q3)))) _ _)) λq3=>?_;have e2:=e1.trans (dI ((dI q2).trans (iB q3)));show afl a gV fg (br (λq4=>hX (.refl _) (h2 (e2.trans (dq (jD q4))) _ _)) λq4=>?_);show (ao _ a.1 (ao _ a.2 (jX Lt.av (λ_:gv=>(xl "next_validity" "box" (.int nv) (.ref B))) (λJ=>H) (λr J=>iE b nv=(r.all λx=>de x.flags==ae x.flags)/\∀x∈r,gX x.flags) (λJ p=>?_) (λx r J p K' hn hr=>?_) b.lts () ⟨(e2.trans (dI (iB q4))),fl⟩)))
 ·show (ao _ a.1 (br (λq=>?_) λJ=>(ao _ a.1 (ki (λq=>?_)<|hN (.refl _) (h1 p.1)))))
  ·have:=fi q;exfalso;lia
  ·have:=fi q;exfalso;lia
 ·show xS (p.2 x (.head _)).1 (aK (p.2 x (.head _)).2 ⋯) (λg eg=>wq (cK.Ou (d:=0)) ⋯ (br (λq=>hX (.refl _) (h2 (p.1.trans (dq ?_)) _ _)) λq=>?_)) λeg u i=>hX (.refl _) (h2 (p.1.trans (dq (show (de x.flags==ae x.flags)=au by exists eg;rfl))) u i)
  ·show (?_:(de x.flags==ae x.flags)=au);exists eg;show (jD q)
  ·show hn () _ ⟨p.1.trans (dI (show (de x.flags==ae x.flags)=ai by exists eg;simpa using (iB q))),λy hy=>p.2 y (.tail _ hy)⟩ a.2 (aP rfl rfl trivial)
end
end
section
variable {w:bQ} {qt:aN}
theorem Sub.upd (s:Sub H X) (h:H a=none) (ho:o≠.priv):Sub H (X.set a o):=
 ⟨λx p e=>aY (bU e h) (s.1 x p e),λx e=>by
  unfold aj.set at e;split at e
  ·show cy (bZ e) ho
  ·show s.2 x e⟩
noncomputable def mz (bad:ah AV):aR Bx->AV
 |some b=>b.told
 |none=> .tup bad
inductive qR (b:Bx):Prop
 |mk (gV:b.lts.length<=50) (gn:b.gone.length<=1000) (fl:∀x∈b.lts,gX x.flags) (nm:b.name.length<=80000) (nu:b.nu<=4294967296) (top:b.top<=9223372036854775807)
noncomputable def o7 (acc:ah Bx) (b:Bx):aN:=(acc.any λx=>x.name==b.name)||acc.any λx=>x.val==b.val
noncomputable def iM (nv:aq):ah (aR Bx)->ah Bx->aR (ah Bx)
 |[],acc=>ae acc
 |none::_,_=>none
 |some b::r,acc=>if iE b nv then (if o7 acc b then none else iM nv r (acc++[b])) else none
noncomputable def Ae:ah ak->aR (ah ak)
 |[]=>ae []
 |x::r=>(cT x).bind λf=>(Ae r).map (λx=>f::x)
noncomputable def sZ (s:bc) (nv:aq) (bs:ah Bx):aN:=(c5 bs "INBOX").isSome && tI s.nv 4294967295 nv
noncomputable def pQ (subs:ah ak):aN:=match Ae subs with
 |some ns=>iq (cM ns)==subs
 |none=>au
noncomputable def lx (s:bc) (nv:aq) (subs:ah ak) (os:ah (aR Bx)):aR (bc×AV):=(iM nv os []).bind λbs=>if sZ s nv bs && pQ subs then ae (⟨bs,subs,nv⟩,.int bs.length) else none
theorem acG {l:ah ak} {x:ak} (h:x∈l) (e:cT x=none):Ae l=none:=by
 induction l with
 |nil=>show nomatch h
 |cons y l ih=>
  show (?_:(cT y).bind _=none);show (List.mem_cons.mp h).elim (λh=>aa h.symm (aa e rfl)) λh=>?_;cases cT y with
  |none=>rfl
  |some f=>show aa (ou ..) (aa (ih h) rfl)
theorem P9 {l:ah ak} (h:∀x∈l,(cT x).isSome=ai):Ae l=ae (l.map λx=>(cT x).getD x):=by
 induction l with
 |nil=>rfl
 |cons y l ih=>
  show (?_:(cT y).bind _=_);show bj (Option.isSome_iff_exists.mp (h y (.head _))) λf e=>?_;exists dX
  rewrite [e,ou,ih λx hx=>h x (.tail _ hx)];rfl
noncomputable def vD (l:ah Slot):cW:= .dict ((dh (l.map (λx=>x.b.val))).map λp=>(.i p.1,p.2))
section
variable {H:aj} {S dS Dd Db Dv:aF} {F:aF->Prop} {s:bc} {l:ah Slot} {n:ar} {Q:PQ} {X:PX}
inductive Du (H:aj) (Db Dv:aF) (nv:aq) (os r:ah (aR Bx)) (s:aj×ah Slot):Prop
 |mk (e:iM nv r (s.2.map (λx=>x.b))=iM nv os []) (sub:Sub H s.1) (db:s.1 Db=ae (iz s.2)) (dv:s.1 Dv=ae (vD s.2)) (at_:∀t∈s.2,dE s.1 t.B t.dx t.L t.b) (nd:(s.2.map (λx=>x.b.name)).Nodup) (nv:(s.2.map (λx=>x.b.val)).Nodup) (ln:(s.2.map (λx=>x.L)).Nodup) (fr:∀t∈s.2,H t.B=none/\H t.L=none) (k:s.2.length+r.length<=50) (bi:∀b,ae b∈r->qR b)
theorem Jx:o7 (l.map (λx=>x.b)) b=((iO (fj l) b.name).isSome||(iO (dh (l.map (λx=>x.b.val))) b.val).isSome):=by
 unfold o7;congr 1
 ·unfold iO fj;exists Ly;rewrite [pM,FO,VP];constructor
  ·rintro ⟨x,hx,e⟩;show aA (List.mem_map.mp hx) λt ht bC=>?_;subst bC;show ⟨_,List.mem_map.mpr ⟨t,ht,rfl⟩,lJ (eq_of_beq e)⟩
  ·rintro ⟨x,hx,e⟩;show aA (List.mem_map.mp hx) λt ht bW=>?_;subst bW;show ⟨_,List.mem_map.mpr ⟨t,ht,rfl⟩,by simpa using e⟩
 ·exists zS;rewrite [pM,FO];exists vY;constructor
  ·rintro ⟨x,hx,e⟩;show aA (List.mem_map.mp hx) λt ht dD=>?_;subst dD;show List.mem_map.mpr ⟨t,ht,eq_of_beq e⟩
  ·intro h;show aA (List.mem_map.mp h) λt ht e=>⟨t.b,List.mem_map.mpr ⟨t,ht,rfl⟩,by simpa using e⟩
theorem Du.go {nv:aq} {os r:ah (aR Bx)} {s:aj×ah Slot} {b:Bx} (p:Du H Db Dv nv os (ae b::r) s) (hb:H Db=none) (hv:H Dv=none) (bv:Db≠Dv) {B dx L:aF} (fB:s.1 B=none) (fL:s.1 L=none) (BL:B≠L) (h1:iE b nv=ai) (h2:(iO (fj s.2) b.name).isSome=au) (h3:(iO (dh (s.2.map (λx=>x.b.val))) b.val).isSome=au) {d v:cW} (ed:d=iz (s.2++[Slot.mk b B dx L])) (ev:v=vD (s.2++[Slot.mk b B dx L])):
  Du H Db Dv nv os r (((((s.1.set B (gE dx L b)).set L (gM b.lts)).set Db d).set Dv v),s.2++[Slot.mk b B dx L]):=by
 subst ed ev
 have nB:∀{x:aF},s.1 x=none->H x=none:=λ{x} e=>by
  cases q:H x with
  |none=>rfl
  |some o=>injection (p.2.1 _ _ q).symm.trans e
 have DB:Db≠B:=bU p.3 fB;have DL:Db≠L:=bU p.3 fL;have VB:Dv≠B:=bU p.4 fB;have VL:Dv≠L:=bU p.4 fL;have old:∀x o,s.1 x=ae o->x≠Db->x≠Dv->((((s.1.set B (gE dx L b)).set L (gM b.lts)).set Db (iz (s.2++[Slot.mk b B dx L]))).set Dv (vD (s.2++[Slot.mk b B dx L]))) x=ae o:=λx o e n1 n2=>aY n2 (aY n1 (aY (bU e fL) (aY (bU e fB) e)));have nn:∀t∈s.2,t.b.name≠b.name:=λt ht e=>by rw [<-e,rd p.6 ht] at h2;injection h2
 have Io:∀t∈s.2,t.b.val≠b.val:=λt ht e=>by
  rw [zS,<-e,lJ (List.mem_map.mpr ⟨t,ht,rfl⟩)] at h3;injection h3
 have one:∀{β:Type} {f:Slot->β} {x:β},x∈([Slot.mk b B dx L]:ah Slot).map f->x=f (Slot.mk b B dx L):=λh=>by simpa using h
 have snoc:∀{β:Type} {f:Slot->β},(s.2.map f).Nodup->(∀t∈s.2,f t≠f (Slot.mk b B dx L))->((s.2++[Slot.mk b B dx L]).map f).Nodup:=λ{β f} nd h=>by
  exists dz;rewrite [tZ]
  show ⟨nd,by simp,λx hx y hy e=>by
   show aA (List.mem_map.mp hx) λt ht d7=>?_;subst d7;show h t ht (e.trans (one hy))⟩
 show ⟨?_,(((p.2.upd (nB fB) (by simp [gE])).upd (nB fL) (by simp [gM])).upd hb (by simp [iz])).upd hv (by simp [vD]),aY bv (aj.aW ..),aj.aW ..,λt ht=>?_,snoc p.6 nn,snoc p.7 Io,snoc p.8 λt ht=>bU (p.5 t ht).2 fL,λt ht=>?_,?_,λx hx=>p.11 x (.tail _ hx)⟩
 ·exists p.1.symm;show (?_:_=if iE b nv=ai then _ else _);rw [bN h1,bo (by exists Jx;exists h2;exists h3;decide),dz];rfl
 ·rcases List.mem_append.mp ht with h|h
  ·have a:=p.5 t h;show ⟨old _ _ a.1 (eA a.1 p.3 rfl) (eA a.1 p.4 rfl),old _ _ a.2 (eA a.2 p.3 rfl) (eA a.2 p.4 rfl)⟩
  ·have:t=Slot.mk b B dx L:=by simpa using h
   exists this;show ⟨aY (bI VB) (aY (bI DB) (aY BL (aj.aW ..))),aY (bI VL) (aY (bI DL) (aj.aW ..))⟩
 ·rcases List.mem_append.mp ht with h|h
  ·show p.9 t h
  ·have:t=Slot.mk b B dx L:=by simpa using h
   exists this;show ⟨nB fB,nB fL⟩
 ·have:=p.10;simp only [cb,cY,jL] at this ⊢;omega
end
end
section
variable {w:bQ} {qt:aN}
section
variable {H:aj} {S:aF} {F:aF->Prop} {s:bc}
theorem CO (nd:(l.map (λx=>x.b.name)).Nodup):(iO (fj l) "INBOX").isSome=(c5 (l.map (λx=>x.b)) "INBOX").isSome:=by
 rewrite [pM]
 constructor
 ·intro h;show aA (Hm h) λt ht e=>?_;rw [<-e,qa (by exists cZ;show nd) (List.mem_map.mpr (ao t ht rfl))];rfl
 ·intro h;show bj (Option.isSome_iff_exists.mp h) λb e=>aM (qi e) λh1 h2=>aA (List.mem_map.mp h1) λt ht bC=>?_;subst bC;exists h2.symm;exists rd nd ht;rfl
theorem B5 {os:ah (aR Bx)} (h:iM nv os []=none):lx s nv subs os=none:=by unfold lx;exists h;rfl
theorem Ī {os:ah (aR Bx)} (h:iM nv os []=ae bs) (k:(sZ s nv bs && pQ subs)=au):lx s nv subs os=none:=by unfold lx;exists h;show bo (by exists k;decide)
theorem Ω {os:ah (aR Bx)} (h:iM nv os []=ae bs) (k:(sZ s nv bs && pQ subs)=ai):lx s nv subs os=ae (⟨bs,subs,nv⟩,.int bs.length):=by unfold lx;exists h;show bN k
theorem adD {r:ah (aR Bx)} (h:iE b nv=au):iM nv (ae b::r) acc=none:=bo (by exists h;decide)
theorem N2 {r:ah (aR Bx)} (h:iE b nv=ai) (k:o7 acc b=ai):iM nv (ae b::r) acc=none:=(bN h).trans (bN k)
theorem abc (x:ak):strOf (.str x)=x:=rfl
theorem agE {os:ah (aR Bx)} (a:gW H S F s) (hb:bad.length≠7) (hbz:bad.length<=1000) (ho:os.length<=50) (bi:∀b,ae b∈os->qR b) (hs:subs.length<=50) (hz:∀x∈subs,x.length<=80000):mD w 6 639 [.ref S,.int nv,eF subs,.tup (os.map (mz bad))] H S F s (lx s nv subs os):=λ{n Q X} h1 h2=>by
 show eV a.1 λdS Dd l al hF=>fn 30 30 Ě rfl λK XK hK hN hX=>?_;intro m Db Bz Dv I8;have bv:Db≠Dv:=(cw I8).2;have Za:Sub H ((H.set Db (iz [])).set Dv (vD [])):=((Sub.refl H).upd Bz (by simp [iz])).upd (cw I8).1 nofun;have zT:lx s nv subs os=none->∀{Hc:aj},Sub H Hc->∀u i,XK ⟨76,.str u,.int i⟩ Hc:=λe J sb u i=>hX sb (h2 e H u i (.refl a));show jX (mz bad) (λ_:aj×ah Slot=>(Hy "validities" "boxes" "told" "subscribed" "next_validity" "store" (.ref Dv) (.ref Db) (.tup (os.map (mz bad))) (eF subs) (.int nv) (.ref S))) (λs=>s.1) (Du H Db Dv nv os) (λc p=>?_) (λo r c p K' hn hr=>?_) os ((H.set Db (iz [])).set Dv (vD []),[]) ⟨rfl,Za,aY bv (aj.aW ..),aj.aW ..,λt ht=>(by cases ht),.nil,.nil,.nil,λt ht=>(by cases ht),by simpa using ho,bi⟩
 ·rcases c with ⟨Hc,lc⟩
  have eo:iM nv os []=ae (lc.map (λx=>x.b)):=p.1.symm;have kl:lc.length<=50:=p.10;have nZ:((fj lc).map (λx=>x.1)).Nodup:=s9▸p.6;have hS:=p.2.1 _ _ al.1;have no:(sZ s nv (lc.map (λx=>x.b)) && pQ subs)=au->∀{Hc:aj},Sub H Hc->∀u i,XK ⟨76,.str u,.int i⟩ Hc:=λk=>zT (Ī eo k);show HF (Y:=gQ m.c) l6 p.3 nZ (br (λq=>no (dq (dq ?_)) p.2 _ _) λq=>(bK.mk hS (br (λq2=>br (λq3=>no (dq ((dI ?_).trans ((dI q2).trans (jD q3)))) p.2 _ _) λq3=>?_) λq2=>no (dq ((dI ?_).trans (dq q2))) p.2 _ _)))
  ·exists (CO p.6).symm;show jD q
  ·exists (CO p.6).symm;show iB q
  ·have iU:sZ s nv (lc.map (λx=>x.b))=ai:=(dI ((CO p.6).symm.trans (iB q))).trans ((dI q2).trans (iB q3));show BP (gQ m.c) fO 30 rfl rfl (Cd subs strOf abc (λx=>(cT x).getD x) (λx=>(cT x).isSome=ai) (cH hs) trivial (λx hx H' J=>xx (hz x hx) (λf e=>⟨by exists e;rfl,rfl,by exists e;rfl⟩) λe u i=>⟨rfl,no ((dI iU).trans (by unfold pQ;exists acG hx e;rfl)) p.2 u i⟩) λhP D hD=>?_);have eN:=P9 hP;have Gr:(subs.map λx=>(cT x).getD x).length<=50:=by rewrite [bp];show hs
   have sb:Sub H (Hc.set D (cj (gQ m.c) (dh (cM (subs.map λx=>(cT x).getD x))))):=p.2.trans (uN hD (by simp [cj]));generalize (subs.map λx=>(cT x).getD x)=ns at eN Gr sb;show B9 l6 (aj.aW ..) z9 (aa qd (cH (aK (pS _) Gr))) ?_;have e1:((dh (cM ns)).map λp=>(gQ m.c).av p.1)=(cM ns).map .str:=by unfold dh;exists cZ;rfl
   exists e1;show D3 (.inl rfl) (iw (aK (pS _) Gr) ⋯) ?_;have zv:pQ subs=(iq (cM ns)==subs):=by unfold pQ;exists eN;rfl
   show XC (.inr rfl) (by rewrite [bp];show cH hs) (CS (.inl rfl) (.inl rfl) (cK.Ũ (d:=0)) ⋯ (br (λq4=>no ((dI iU).trans (zv.trans (jD q4))) sb _ _) λq4=>?_));have e4:iq (cM ns)=subs:=eq_of_beq (iB q4);have gS:(Hc.set D (cj (gQ m.c) (dh (cM ns)))) S=_:=aY (bU hS hD) hS;have gD:(Hc.set D (cj (gQ m.c) (dh (cM ns)))) Db=_:=aY (bU p.3 hD) p.3;have SD:Db≠S:=bI (bU al.1 Bz);exists e4;show (bK.mk gS (bK.mk (aj.aW ..) (bK.mk (aj.aW ..) ?_)));show Hu (Y:=gQ m.c) l6 (aY SD (aY SD (aY SD gD))) nZ (e9 (aK (iL rK) (nQ kl))) (hK (.refl _) ?_)
   rewrite [cV,cV];exists rK;exists (bp (f:=(λx=>x.b))).symm
   show h1 _ _ _ (Ω eo ((dI iU).trans (zv.trans (iB q4))))<|⟨(ao (λx=>F x\/H x=none) ⟨dS,Db,lc,⟨aj.aW ..,aY SD gD,.refl _,p.6,λt ht=>?_,p.8⟩,λx hx=>?_⟩ (λJ h=>h)),λx o n e=>?_⟩
   ·have a:=p.5 t ht;show ⟨aY (eA a.1 hS rfl) (aY (bU a.1 hD) a.1),aY (eA a.2 hS rfl) (aY (bU a.2 hD) a.2)⟩
   ·rcases hx with rfl|rfl|⟨t,ht,rfl|rfl⟩
    ·show .inl (hF _ (.inl rfl))
    ·show .inr Bz
    ·show .inr (p.9 t ht).1
    ·show .inr (p.9 t ht).2
   ·show aY (λz=>n (z▸hF _ (.inl rfl))) (aY (bU (p.2.1 _ _ e) hD) (p.2.1 _ _ e))
  ·exists (CO p.6).symm;show iB q
 ·induction o using eL with
  |none=>show aga hb hbz (zT (B5 (p.1.symm.trans rfl)) p.2 _ _)
  |some b=>
   have bb:=p.11 b (.head _);show aa3 bb.1 bb.2 (λx hx=>aK (bb.3 x hx).2 ⋯)<|X2 (n:=n+2) bb.1 bb.2 λB dx L fB fL BL=>?_
   have DB:Db≠B:=bU p.3 fB;have DL:Db≠L:=bU p.3 fL;have VB:Dv≠B:=bU p.4 fB;have VL:Dv≠L:=bU p.4 fL
   have nB:∀{x:aF},c.1 x=none->H x=none:=λ{x} e=>by
    cases q:H x with
    |none=>rfl
    |some o=>injection (p.2.1 _ _ q).symm.trans e
   have a1:dE ((c.1.set B (gE dx L b)).set L (gM b.lts)) B dx L b:=⟨aY BL (aj.aW ..),aj.aW ..⟩;have d1:((c.1.set B (gE dx L b)).set L (gM b.lts)) Db=ae (iz c.2):=aY DL (aY DB p.3);have v1:((c.1.set B (gE dx L b)).set L (gM b.lts)) Dv=ae (vD c.2):=aY VL (aY VB p.4);have s1:Sub H ((c.1.set B (gE dx L b)).set L (gM b.lts)):=(p.2.upd (nB fB) (by simp [gE])).upd (nB fL) (by simp [gM]);show af4 (n:=n) a1 bb.1 bb.2 bb.3 bb.4 bb.5 bb.6 (λq=>?_) λq u i=>zT (B5 (p.1.symm.trans (adD q))) s1 u i;have nZ:((fj c.2).map (λx=>x.1)).Nodup:=s9▸p.6;have RQ:((dh (c.2.map (λx=>x.b.val))).map (λx=>x.1)).Nodup:=by exists v9;show p.7
   show (bK.mk a1.1 (DE (Y:=gQ m.c) l6 d1 nZ (br (λq2=>zT (B5 (p.1.symm.trans (N2 q (Jx.trans (vj q2))))) s1 _ _) λq2=>?_)));show (bK.mk a1.1 (DE (Y:=fy m.c) l6 v1 RQ (br (λq3=>zT (B5 (p.1.symm.trans (N2 q (Jx.trans ((qm q2).trans q3))))) s1 _ _) λq3=>?_)));have kl:c.2.length<=50:=aK (eC _ _) p.10;show (bK.mk a1.1 (uW (Y:=gQ m.c) (k:=b.name) (av:= .ref B) d1 nZ (aa rK (cH kl)) ?_));show (bK.mk (aY (bI DB) a1.1) (uW (Y:=fy m.c) (k:=b.val) (av:= .bool ai) (aY (bI bv) v1) RQ (by exists qd;rewrite [bp];show cH kl) ?_));have nn:∀t∈c.2,t.b.name≠b.name:=λt ht e=>by rw [<-e,rd p.6 ht] at q2;injection q2
   show hn _ _ (p.go Bz (cw I8).1 bv fB fL BL q q2 q3 (bD (cj (gQ m.c)) (B4 (t:=Slot.mk b B dx L) nn)) ?_) trivial ⟨rfl,rfl,rfl,rfl,rfl,rfl,trivial⟩;exists BQ
   have:h9 (c.2.map (λx=>x.b.val)) b.val=(c.2++[Slot.mk b B dx L]).map (λx=>x.b.val):=by
    unfold h9;rw [zS] at q3;exists bo (ml q3);exists dz;rfl
   exists this;rfl
end
end
section
variable {w:bQ} {qt:aN}
set_option genInjectivity false in
set_option genCtorIdx false in
inductive cD where
 |create (x:ak) (v:aq)
 |delete (x:ak)
 |rename (x y:ak)
 |append (x:ak) (fl:ah ak) (i:aq) (o:ah b_)
 |flags (x:ak) (u:aq) (fl:ah ak)
 |store (x:ak) (us:ah aq) (way:ak) (fl:ah ak) (i:aq)
 |expunge (x:ak) (us:ah aq)
 |copy (x:ak) (us:ah aq) (y:ak)
 |move (x:ak) (us:ah aq) (y:ak)
 |sub (x:ak)
 |unsub (x:ak)
 |forget (x:ak) (ms:aq)
 |snap (nv:aq) (subs:ah ak) (os:ah (aR Bx)) (bad:ah AV)
noncomputable def cD.word:cD->ak×ak
 | .create ..=>("create","tn")
 | .delete ..=>("delete","t")
 | .rename ..=>("rename","tt")
 | .append ..=>("append","tfno")
 | .flags ..=>("flags","tnf")
 | .store ..=>("store","tutfn")
 | .expunge ..=>("expunge","tu")
 | .copy ..=>("copy","tut")
 | .move ..=>("move","tut")
 | .sub ..=>("subscribe","t")
 | .unsub ..=>("unsubscribe","t")
 | .forget ..=>("forget","tn")
 | .snap ..=>("snapshot","nfr")
noncomputable def xT (us:ah aq):AV:= .tup (us.map .int)
noncomputable def cD.vs:cD->ah (AV×ar)
 | .create x v=>[(.str x,116),(.int v,110)]
 | .delete x=>[(.str x,116)]
 | .rename x y=>[(.str x,116),(.str y,116)]
 | .append x fl i o=>[(.str x,116),(eF fl,102),(.int i,110),(.bytes o,111)]
 | .flags x u fl=>[(.str x,116),(.int u,110),(eF fl,102)]
 | .store x us way fl i=>[(.str x,116),(xT us,117),(.str way,116),(eF fl,102),(.int i,110)]
 | .expunge x us=>[(.str x,116),(xT us,117)]
 | .copy x us y=>[(.str x,116),(xT us,117),(.str y,116)]
 | .move x us y=>[(.str x,116),(xT us,117),(.str y,116)]
 | .sub x=>[(.str x,116)]
 | .unsub x=>[(.str x,116)]
 | .forget x ms=>[(.str x,116),(.int ms,110)]
 | .snap nv subs os bad=>[(.int nv,110),(eF subs,102),(.tup (os.map (mz bad)),114)]
noncomputable def cD.row (d:cD):AV:= .tup (.str d.word.1::d.vs.map (λx=>x.1))
noncomputable def fk (s:bc):cD->aR (bc×AV)
 | .create x v=>qx s x v
 | .delete x=>wo s x
 | .rename x y=>n8 s x y
 | .append x fl i o=>wa s x fl i o
 | .flags x u fl=>uT s x u fl
 | .store x us way fl i=>wQ s x us way fl i
 | .expunge x us=>kI s x us
 | .copy x us y=>rx s x us y au
 | .move x us y=>rx s x us y ai
 | .sub x=>wc s x
 | .unsub x=>Jw s x
 | .forget x ms=>xN s x ms
 | .snap nv subs os _=>lx s nv subs os
def cD.ok (s:bc):cD->Prop
 | .create x _=>x.length<=30000
 | .delete x=>x.length<=30000
 | .rename x y=>x.length<=30000/\y.length<=30000/\∀b f ps,c5 s.bs (dN x)=ae b->cT y=ae f->mQ s b.name f=ae ps->(ps.map (λx=>x.2)).Nodup
 | .append x fl _ _=>x.length<=30000/\gX fl
 | .flags x _ fl=>x.length<=30000/\gX fl
 | .store x us way fl _=>x.length<=30000/\us.length<=15/\(way="+"\/way="-"\/way="=")/\gX fl/\∀g,de fl=ae g->∀t∈g,t∈jw
 | .expunge x us=>x.length<=30000/\us.length<=15
 | .copy x us y=>x.length<=30000/\us.length<=15/\y.length<=30000
 | .move x us y=>x.length<=30000/\us.length<=15/\y.length<=30000
 | .sub x=>x.length<=30000
 | .unsub x=>x.length<=30000
 | .forget x _=>x.length<=30000
 | .snap _ subs os bad=>bad.length≠7/\bad.length<=1000/\os.length<=50/\(∀b,ae b∈os->qR b)/\subs.length<=50/\∀x∈subs,x.length<=30000
theorem O5 (d:cD):(d.word.1,d.word.2)∈nN:=by
 induction d using cD.casesOn <;> repeat (first|show List.Mem.head _|show List.Mem.tail _ ?_)
theorem aaA (d:cD):d.word.2.cps.toList=d.vs.map (λx=>x.2):=by induction d using cD.casesOn <;> rfl
theorem mx:∀p∈([]:ah (AV×ar)),ma p.1 p.2:=λJ h=>nomatch h
theorem fK {l:ah (AV×ar)} (h:ma a b) (t:∀p∈l,ma p.1 p.2):∀p∈(a,b)::l,ma p.1 p.2:=λp q=>by
 cases q with
 |head=>show h
 |tail _ q=>show t p q
theorem İ {s:bc} {d:cD} (ok:d.ok s):∀p∈d.vs,ma p.1 p.2:=by
 induction d using cD.casesOn
 ·show fK (.t _) (fK (.n _) mx)
 ·show fK (.t _) mx
 ·show fK (.t _) (fK (.t _) mx)
 ·show fK (.t _) (fK (.f _ (aK ok.2.2 ⋯)) (fK (.n _) (fK (.o _) mx)))
 ·show fK (.t _) (fK (.n _) (fK (.f _ (aK ok.2.2 ⋯)) mx))
 ·show fK (.t _) (fK (.u _ (aK ok.2.1 ⋯)) (fK (.t _) (fK (.f _ (aK ok.2.2.2.1.2 ⋯)) (fK (.n _) mx))))
 ·show fK (.t _) (fK (.u _ (aK ok.2 ⋯)) mx)
 ·show fK (.t _) (fK (.u _ (aK ok.2.1 ⋯)) (fK (.t _) mx))
 ·show fK (.t _) (fK (.u _ (aK ok.2.1 ⋯)) (fK (.t _) mx))
 ·show fK (.t _) mx
 ·show fK (.t _) mx
 ·show fK (.t _) (fK (.n _) mx)
 ·show fK (.n _) (fK (.f _ (aK ok.2.2.2.2.1 ⋯)) (fK (.r _) mx))
theorem AK (d:cD):d.vs.length<=100:=by induction d using cD.casesOn <;> show Nat.le_of_ble_eq_true rfl
theorem Oh (d:cD) (ok:d.ok s):PF w ai 4 497 [d.row] .none:=λ{n H Q X} h=>afM (O5 d) (aaA d) (İ ok) (AK d) h
theorem Sh {l:ah aq} (h:l.length<=15):l.length<=50:=aK h ⋯
theorem lY {x:ak} (h:x.length<=30000):x.length<=80000:=aK h ⋯
section
variable {H:aj} {S:aF} {F:aF->Prop} {s:bc}
theorem JL (d:cD) (a:gW H S F s) (sf:gR s) (ok:d.ok s):mD w 10 653 [.ref S,d.row] H S F s (fk s d):=λ{n Q X} h1 h2=>by
 show fn 40 40 XQ rfl λK XK hK hN hX=>?_;intro m;show Oh d ok ?_;have o:∀{k g as},mD w k g as H S F s (fk s d)->∀{j},bq (cx w ai) (j+k) (.ref g) as H (λa H'=>Q a H') (λx H'=>X x H'):=λh j=>h h1 h2;have JX:∀{r aO H'},Q r H'->K (.ret r) aO H':=hK (.refl _);have M3:∀{x H'},X x H'->XK x H':=hX (.refl _);have k:∀{g as},bq (cx w ai) (n+9) (.ref g) as H (λa H'=>Q a H') (λx H'=>X x H')->∀{ρ},bq (cx w ai) (n+9) (.ref g) as H (λa aw=>K (.ret a) ρ aw) XK:=λh ρ=>h.mono (λa H' q=>(ew a H' (.refl _ _) (JX q))) λx H' q=>M3 q;induction d using cD.casesOn with
 |create x v=>show k (o (adk a sf (lY ok)))
 |delete x=>show k (o (ŧ a sf (lY ok)))
 |rename x y=>show k (o (adb a sf (lY ok.1) ok.2.1 ok.2.2))
 |append x fl i oc=>show k (o (adN a sf (lY ok.1) ok.2))
 |flags x u fl=>show k (o (ae3 a sf (lY ok.1) ok.2))
 |store x us way fl i=>show k (o (Č a sf (lY ok.1) (Sh ok.2.1) ok.2.2.1 ok.2.2.2.1 ok.2.2.2.2))
 |expunge x us=>show k (o (ú a sf (lY ok.1) (Sh ok.2)))
 |copy x us y=>show k (o (Ud a sf (lY ok.1) (lY ok.2.2) ok.2.1))
 |move x us y=>show k (o (Ud a sf (lY ok.1) (lY ok.2.2) ok.2.1))
 |sub x=>show k (o (aeV a sf (lY ok)))
 |unsub x=>show k (o (agM a sf (lY ok)))
 |forget x ms=>
  show eV a.1 λdS Dd l al hF=>⟨_,al.1,rA al (aK ok ⋯) (λt ht e eg=>?_) λJ eg u i=>M3 (h2 (by show (?_:xN s x ms=none);unfold xN;exists eg;rfl) _ u i (.refl a))⟩;have ef:fk s (.forget x ms)=ae (if decide (oR t.b ms<=t.b.floor) then (s,.int 0) else (jT s (Ay t.b ms),.int ((t.b.gone.length:aq) - ((yD t.b ms).length:aq)))):=by show (?_:xN s x ms=_);unfold xN;exists eg;rfl
  show ahg (al.5 t ht) (aK (sf.2 _ (al.mem ht)).2.1 ⋯) (λq=>JX (h1 _ s _ (ef.trans (bD ae (bN q))) (.refl a))) λq=>dP (tU ht) λl1 l2 bC=>?_;subst bC;show JX (h1 _ _ _ (ef.trans (bD ae (bo (by exists q;show jJ)))) (al.dJ hF rfl))
 |snap nv subs os bad=>show k (o (agE a ok.1 ok.2.1 ok.2.2.1 ok.2.2.2.1 ok.2.2.2.2.1 λx hx=>lY (ok.2.2.2.2.2 x hx)))
end
end
section
variable {w:bQ} {qt:aN}
theorem Ř {K:Type} [ji K] (Y:KY m.c K) (ok:VK.Ok vk m.c) (f:ar)
  (h:∀d,H d=none->vE vk f sc k m ρ (H.set d (cj Y [])) (λa aw=>∃key,a=Y.av key/\vE vk f sc v m ρ aw (λb aG=>aG d=ae (cj Y [])/\Q (.ref d) (aG.set d (cj Y [(key,b)]))) X) X):WE m.c m.n sc (.Dict [ae k] [v] pos) ρ H Q X:=
 WM Y λd hd=>((g_ ok f).1 (h d hd)).post λa aw x'=>aA x' λkey e q=>(ao key e ((g_ ok f).1 q))
noncomputable def jd:bc:=⟨[fQ "INBOX" 1],[],2⟩
section
variable {H:aj} {S dS Dd:aF} {F:aF->Prop} {s:bc} {l:ah Slot} {n:ar} {Q:PQ} {X:PX}
theorem Ug (h:∀S H' F',gW H' S F' jd->(∀x,F' x->H x=none)->(∀x o,H x=ae o->H' x=ae o)->Q (.ref S) H'):bq (cx w qt) (n+4) (.ref 462) [] H Q X:=by
 show bq.shift (BO (fI:=433) (by ext) λS dS hS J=>?_);show GK 20 20 aen rfl λK XK J hN J=>?_;intro m;show Ř (gQ m.c) fO 20 λd hd=>(ao _ rfl (Cz λB dx L hB hL ru=>?_));have Sd:S≠d:=bU (aj.aW ..) hd;have dB:d≠B:=bU (aj.aW ..) hB;have dL:d≠L:=bU (aj.aW ..) hL;have SB:=bU (aY Sd (aj.aW ..)) hB;have SL:=bU (aY Sd (aj.aW ..)) hL;show ⟨aY dL (aY dB (aj.aW ..)),_,aY Sd (aY SL (aY SB (aY Sd (aj.aW ..)))),λD hD=>?_⟩;have SD:=bU (aj.aW ..) hD;show (bK.mk (aY SD (aj.aW ..)) (bK.mk (aj.aW ..) (hN ?_)));show ⟨rfl,_,.field (i:=1) (aj.aW ..) (aY (bI SD) (aY (bI SD) (aj.aW ..))) rfl,?_⟩;show h S _ (λx=>H x=none) ⟨dS,d,[⟨fQ "INBOX" 1,B,dx,L⟩],⟨?_,?_,.refl _,by simp,λt ht=>?_,by simp⟩,λx hx=>?_⟩ (λJ h=>h) λx o e=>?_
 ·simp [aj.set,aj.del,SD];rfl
 ·simp [aj.set,aj.del,bI Sd,(cw (cw hD).1).2];rfl
 ·have:t=⟨fQ "INBOX" 1,B,dx,L⟩:=by simpa using ht
  exists this;show ⟨by simp [aj.set,aj.del,bI SB,bI dB,(cw (cw (cw (cw hD).1).1).1).2,ru],by simp [aj.set,aj.del,bI SL,bI dL,(cw (cw (cw hD).1).1).2];rfl⟩
 ·rcases hx with rfl|rfl|⟨t,ht,hx⟩
  ·show hS
  ·show ((cw hd).1)
  ·have:t=⟨fQ "INBOX" 1,B,dx,L⟩:=by simpa using ht
   subst this;rcases hx with rfl|rfl
   ·show ((cw (cw hB).1).1)
   ·show ((cw (cw hL).1).1)
 ·simp [aj.set,aj.del,bU e hS,bU e ((cw hd).1),bU e ((cw (cw hB).1).1),bU e ((cw (cw hL).1).1),bU e (cw (cw (cw (cw (cw (cw hD).1).1).1).1).1).1,e]
end
noncomputable def eu (s:bc):cD:= .snap s.nv s.subs (s.names.map (c5 s.bs)) []
theorem ų (al:cA H S dS Dd l s):(eu s).row= .tup [.str "snapshot",.int s.nv,.tup (s.subs.map .str),.tup (s.names.map (sP s.bs))]:=by
 have e:(s.names.map (c5 s.bs)).map (mz [])=s.names.map (sP s.bs):=by
  exists cZ;show r_ λx hx=>?_;rw [<-al.names] at hx;show aA (List.mem_map.mp ((ke fZ _).mem_iff.mp hx)) λt ht e=>?_;show (?_:mz [] (c5 s.bs x)=sP s.bs x);unfold sP;exists e.symm;exists qa al.wz (al.mem ht);rfl
 show (?_:AV.tup [.str "snapshot",.int s.nv,eF s.subs,.tup ((s.names.map (c5 s.bs)).map (mz []))]=_);exists e;rfl
theorem QM (a:gW H S F s) (sf:gR s) (h:Q (.lst [(eu s).row]) H):bq (cx w ai) (n+5) (.ref 646) [.ref S] H Q X:=by
 show eV a.1 λdS Dd l al hF=>?_;rw [ų al] at h;show fn 20 20 ab9 rfl λK XK hK hN hX=>?_;intro m;show (bK.mk al.1 (IS al sf (hK (.refl _) h)))
end
section
variable {w:bQ} {qt:aN}
noncomputable def aff:ah ak:=["store","data"]
noncomputable def q8 (dK S:aF) (d:ah b_):cW:= .inst 692 dK aff [.ref S,.bytes d]
inductive pB (s s':bc):Prop
 |mk (bs:s.bs.Perm s'.bs) (subs:s.subs=s'.subs) (nv:s.nv=s'.nv)
theorem pB.refl (s:bc):pB s s:=⟨.refl _,rfl,rfl⟩
theorem pB.trans (a:pB s t) (b:pB t u):pB s u:=⟨a.1.trans b.1,a.2.trans b.2,a.3.trans b.3⟩
theorem gW.eqv (e:pB s s') (a:gW H S F s):gW H S F s':=by
 show eV a.1 λdS Dd l al hF=>⟨dS,Dd,l,⟨?_,al.2,al.3.trans e.1,al.4,al.5,al.6⟩,hF⟩;have:=al.1;unfold rR at this ⊢;exists e.2.symm;exists e.3.symm;show this
theorem hJ.eqv (e:pB s s') (p:hJ H S F s H'):hJ H S F s' H':=by
 rcases p with ⟨⟨F',a,h⟩,k⟩;show ⟨(ao F' (a.eqv e) h),k⟩
inductive Runs:bc->ah cD->bc->Prop
 |nil (s:bc):Runs s [] s
 |perm {s s' gw:bc} {ds:ah cD} (e:pB s s') (h:Runs s' ds gw):Runs s ds gw
 |cons {s s' gw:bc} {d:cD} {v:AV} {r:ah cD} (e:fk s d=ae (s',v)) (sf:gR s) (ok:d.ok s) (rv:Rv 6 d.row) (h:Runs s' r gw):Runs s (d::r) gw
theorem Runs.abX {s sN:bc} {l:ah cD} (h:Runs s l sN):l=[]->pB s sN:=by
 induction h with
 |nil s=>show λJ=> .refl s
 |perm e _ ih=>show λh=>e.trans (ih h)
 |cons=>intro h;injection h
theorem Runs.Tz {s sN:bc} {l:ah cD} (h:Runs s l sN):∀{d r},l=d::r->∃s1 s' v,pB s s1/\fk s1 d=ae (s',v)/\gR s1/\d.ok s1/\Rv 6 d.row/\Runs s' r sN:=by
 induction h with
 |nil s=>intro J J h;injection h
 |perm e _ ih=>
  intro d r h;show eV (ih h) λs1 s' v e1 x=>(wX s1 s' v (e.trans e1) x)
 |cons e sf ok rv h ih=>intro d r hh;injection hh with ct YO;subst ct;subst YO;show (xo _ _ _ (.refl _) e sf ok rv h)
noncomputable def frames (ds:ah cD):ah b_:=(ds.map λd=>dg d.row).flatten
theorem Jt:frames (d::r)=dg d.row++frames r:=rfl
noncomputable def QK (r:ah cD) (a:ar):AV:=match r with
 |[]=> .none
 |d::_=> .tup [d.row,.int ((a+(dg d.row).length:ar):aq)]
theorem H8:(c7 v).length<=(dg v).length:=by unfold dg;exists cb;exists cb;show aK (dY ..) (dY ..)
theorem y_ (v:AV):0 < (dg v).length:=by unfold dg;exists cb;show r5 (Gv _) (eC ..)
inductive ReI (H:aj) (S:aF) (F:aF->Prop) (sN:bc) (ds:ah cD) (data t:ah b_) (s:aj×bc×ah cD×ar):Prop
 |mk (run:Runs s.2.1 s.2.2.1 sN) (d:data.drop s.2.2.2=frames s.2.2.1++t) (l:s.2.2.2+(frames s.2.2.1).length=(frames ds).length) (p:hJ H S F s.2.1 s.1)
section
variable {H:aj} {S k dK:aF} {F:aF->Prop} {s sN:bc} {ds:ah cD} {n:ar} {Q:PQ} {X:PX}
theorem QC {data:ah b_} {v:AV} {i a:ar} {j:aq} {r:ah cD} (ej:j=(a:aq)) (hz:data.length<=8000000) (ha:a<=data.length) (hi:i < (dg v).length) (hd:data.drop a=frames r++(dg v).take i) (run:Runs s r sN) (h:Q (QK r a) H):bq (cx w ai) (n+19) (.ref 372) [.bytes data,.int j] H Q X:=by
 induction r using c6 with
 |nil=>show adq ej ha hd hi hz h
 |cons d r=>
  show AA (run.Tz rfl) λJ J J J J J J rv J=>?_;rw [Jt,gh] at hd;show ë ej hd hz rv ⋯ (by rewrite [bp];show aK (AK _) ⋯) h
theorem Į {d0 data:ah b_} {v:AV} {i:ar} (hk:H k=ae (q8 dK S d0)) (a:gW H S F s) (nk:¬F k) (run:Runs s ds sN) (hd:data=frames ds++(dg v).take i) (hi:i < (dg v).length) (hz:data.length<=8000000)
  (h:∀H',hJ H S F sN H'->Q .none (H'.set k (q8 dK S (frames ds)))):bq (cx w ai) (n+20) (.ref 675) [.ref k,.bytes data] H Q X:=by
 show fn 30 30 Wr rfl λK XK hK hN hX=>?_;intro m;show QC rfl hz (i0 _) hi hd run<|wh fO 30 30 (λs:aj×bc×ah cD×ar=>(vb "found" "end" "data" "self" (QK s.2.2.1 s.2.2.2) (.int (s.2.2.2:aq)) (.bytes data) (.ref k))) (λs=>s.1) (ReI H S F sN ds data ((dg v).take i)) (λs=>s.2.2.1.length) (H,s,ds,0) ⟨run,hd,Lz _,.refl a⟩ (f9 rfl rfl rfl rfl trivial) rfl λ⟨Hc,sc,r,e⟩ p K' hn hr=>?_
 rcases p with ⟨run',pd,pl,pp⟩
 simp only at run' pd pl pp;have gk:Hc k=ae (q8 dK S d0):=pp.2 _ _ nk hk;induction r using c6 with
 |nil=>
  show (ao _ rfl (zQ (by exists fH;lia) (bK.mk gk (hN (.refl _) ?_))));have ee:e=(frames ds).length:=by simpa [frames] using pl
  have ec:cut data none (ae e)=frames ds:=by
   show (?_:(data.take e).drop 0=_);exists Ln;exists ee;exists hd;exists ajR;rfl
  exists ec;show h _ (pp.eqv (run'.abX rfl))
 |cons d r=>
  show AA (run'.Tz rfl) λs1 s' av es ea sf ok rv run'=>?_;rcases pp.eqv es with ⟨⟨F',aH,qw⟩,kp⟩
  show Cp (D:=76) 30 26 rfl (by ext) (by ext) (by ext)<|(bK.mk gk (JL d aH sf ok (λH' s2 v2 e2 p2=>?_) λe2=>by injection (ea).symm.trans e2))
  replace e2:=ea▸e2;injection e2 with et;injection et with eR GG;subst eR
  rw [Jt,gh] at pd;rw [Jt,cb] at pl;have fp:=y_ d.row;have dl:=uU pd;rw [cb] at dl;show QC (a:=e+(dg d.row).length) rfl hz (by lia) hi (sE pd) run'<|hn (H',s',r,e+(dg d.row).length) _ ⟨run',(sE pd),by show (?_:e+(dg d.row).length+(frames r).length=_);lia,p2.trans qw kp⟩ (U2 _) (f9 rfl rfl rfl rfl trivial)
end
end
section
variable {w:bQ} {qt:aN}
inductive hM (H:aj) (k:aF) (F:aF->Prop) (s:bc) (d:ah b_):Prop
 |mk (ex:∃dK S je,H k=ae (q8 dK S d)/\gW H S je s/\¬je k/\F k/\∀x,je x->F x)
inductive sF (H:aj) (k:aF) (F:aF->Prop) (s:bc) (d:ah b_) (H':aj):Prop
 |mk (ex:∃F',hM H' k F' s d/\∀x,F' x->F x\/H x=none) (kp:∀x o,¬F x->H x=ae o->H' x=ae o)
theorem sF.of (hk:H k=ae (q8 dK S d0)) (nk:¬je k) (Fk:F k) (sub:∀x,je x->F x) (p:hJ H S je s' H'):sF H k F s' d (H'.set k (q8 dK S d)):=by
 rcases p with ⟨⟨F',a,hF⟩,kp⟩
 have N6:¬F' k:=λh=>(hF k h).elim nk λe=>by injection (hk).symm.trans e
 show ⟨(ao (λx=>F' x\/x=k) ⟨dK,S,F',aj.aW ..,a.frame λx o hx e=>aY (λz=>N6 (z▸hx)) e,N6,.inr rfl,λJ h=> .inl h⟩ (λx hx=>?_)),λx o n e=>aY (λz=>n (z▸Fk)) (kp x o (λz=>n (sub x z)) e)⟩;rcases hx with h|rfl
 ·show (hF x h).imp (sub x) id
 ·show .inl Fk
section
variable {H:aj} {k:aF} {F:aF->Prop} {s sN:bc} {d0:ah b_} {ds:ah cD} {n:ar} {Q:PQ} {X:PX}
theorem D7 (ha:(args=[]/\data=[])\/args=[.bytes data]) (run:Runs jd ds sN) (hd:data=frames ds++(dg v).take i) (hi:i < (dg v).length) (hz:data.length<=8000000)
  (h:∀k H' F',hM H' k F' sN (frames ds)->(∀x,F' x->H x=none)->(∀x o,H x=ae o->H' x=ae o)->Q (.ref k) H'):bq (cx w ai) (n+22) (.ref 692) args H Q X:=by
 show BO (fI:=668) (by ext) λk dK hk J=>Ã (ρ:=[("data",.bytes data),("self",.ref k)]) (by
  rcases ha with ⟨rfl,rfl⟩|rfl
  ·show .inr (ao _ rfl rfl)
  ·show .inl (ew _ _ rfl rfl)) ?_
 show rt (m:=⟨cx w ai,n+20⟩) fO 30 30<|Ug λS H1 je a fr kp=>?_
 have nk:¬je k:=λz=>by have:=fr k z;rw [aj.aW] at this;injection this
 show (bK.mk (kp _ _ (aj.aW ..)) (bK.mk (aj.aW ..) (bK.mk (aj.aW ..) (CC ?_))))
 rewrite [cV]
 have a1:gW (H1.set k (q8 dK S [])) S je jd:=a.frame λx o hx e=>aY (λz=>nk (z▸hx)) e;show Į (aj.aW ..) a1 nk run hd hi hz λH' p=>⟨rfl,?_⟩;have q:=sF.of (F:=λx=>je x\/x=k) (d:=frames ds) (aj.aW ..) nk (.inr rfl) (λJ h=> .inl h) p;rcases q with ⟨⟨F',b,qw⟩,Xp⟩
 have keep:∀x o,H x=ae o->(H1.set k (q8 dK S [])) x=ae o:=λx o e=>aY (bU e hk) (kp x o (aY (bU e hk) e))
 have afT:∀x,(H1.set k (q8 dK S [])) x=none->H x=none:=λx e=>by
  cases q:H x with
  |none=>rfl
  |some o=>rw [keep x o q] at e;injection e
 show h k _ F' b (λx hx=>?_) λx o e=>Xp x o (λz=>?_) (keep x o e)
 ·rcases qw x hx with (h|rfl)|h
  ·show (cw (fr x h)).1
  ·show hk
  ·show afT x h
 ·rcases z with z|rfl
  ·injection ((cw (fr x z)).1).symm.trans e
  ·injection (hk).symm.trans e
theorem afz (d:cD) (a:hM H k F s d0) (sf:gR s) (ok:d.ok s) (rv:Rv 6 d.row) (hz:d0.length+(dg d.row).length<=8000000) (h1:∀s' v,fk s d=ae (s',v)->∀H',sF H k F s' (d0++dg d.row) H'->Q v H') (h2:fk s d=none->∀H' x i,sF H k F s d0 H'->X ⟨76,.str x,.int i⟩ H'):
  bq (cx w ai) (n+12) (.ref 682) [.ref k,d.row] H Q X:=by
 show j3 a.1 λdK S je hk st nk Fk sub=>?_;have he:(c7 d.row).length<=(dg d.row).length:=H8;show fn 30 30 acZ rfl λK XK hK hN hX=>?_;intro m;show Oh d ok (Jz rv ⋯ (by rewrite [bp];show aK (AK d) ⋯) (aK he (aK (dY _ _) hz)) (bK.mk hk (JL d st sf ok (λH' s' v e p=>?_) λe H' u i p=>?_)))
 ·show (ao _ (p.2 _ _ nk hk) ⟨by exists fH;show (?_:d0.length+(dg d.row).length<=_);lia,_,(p.2 _ _ nk hk),hK (.refl _) (h1 s' v e _ (.of hk nk Fk sub p))⟩)
 ·show hX (.refl _) (h2 e H' u i ?_);have:=sF.of (d:=d0) hk nk Fk sub p
  rwa [v7 (p.2 _ _ nk hk)] at this
theorem rP (a:hM H k F s d0) (sf:gR s) (h:Q s.told H):bq (cx w qt) (n+5) (.ref 689) [.ref k] H Q X:=by
 show j3 a.1 λdK S je hk st nk Fk sub=>eV st.1 λdS Dd l al hF=>fn 20 20 ψ rfl λK XK hK hN hX=>?_;intro m;show (bK.mk hk (bK.mk al.1 (IS al sf (hK (.refl _) h))))
theorem Yd (a:hM H k F s d0) (sf:gR s) (rv:Rv 6 (eu s).row) (hz:(dg (eu s).row).length<=8000000) (h:Q (.bytes (dg (eu s).row)) H):bq (cx w ai) (n+12) (.ref 701) [.ref k] H Q X:=by
 show j3 a.1 λdK S je hk st nk Fk sub=>?_;have he:(c7 (eu s).row).length<=(dg (eu s).row).length:=H8;show fn 30 30 Wu rfl λK XK hK hN hX=>?_;intro m;show (bK.mk hk (QM st sf ?_));show ⟨cH (n:=1) ⋯,trivial,λJ=>ai,λJ=> .bytes (dg (eu s).row),λJ=>cL,λr hr H' J=>(aP rfl rfl (λJ=>?_)),λJ=>?_⟩
 ·have:r=(eu s).row:=by simpa using hr
  exists this;show Jz rv ⋯ (by rewrite [bp];show aK (AK _) ⋯) (aK he hz) (aP rfl rfl trivial)
 ·show P5 (ps:=[dg (eu s).row]) (.inl rfl) (by exists Bq;exists VZ;rewrite [fW];exists fH;lia) (hK (.refl _) ?_);exists Bq;exists VZ;rewrite [fW];show h
end
end
section
variable {w:bQ} {qt:aN}
noncomputable def Av (cs:ah aq) (gr st:aq) (pl:ar):ah AV:=[.lst (cs.map .int),.int gr,.int st,.int (pl:aq)]
inductive Dr (N:ar) (o:cW):Prop
 |mk (ex:∃cs gr st pl,o= .list (Av cs gr st pl)/\0<=gr/\0<=st/\st < 2147483647/\pl+N<=1000/\cs.length<=63)
theorem pU {a b:aq} (h:0 < b):0<=a.fmod b/\a.fmod b < b:=by
 exists LM _ (mZ h);show ⟨ajH _ (ajW h),ajI _ h⟩
theorem PJ (h:x.natAbs < 2 ^ 64):Be x<=64:=intBits_le_iff.mpr h
theorem agN {st:aq} (h0:0<=st) (h1:st < 2147483647):(Be (st.fdiv 3):aq)*3<=2 ^ 27:=by
 have:Be (st.fdiv 3)<=64:=PJ (by exists F0 _ ⋯;exists ajX h0;show iw (Nat.div_le_self ..) (FZ (Int.ofNat_lt.mp (ajX h0▸h1)) ⋯));omega
section
variable {H:aj} {b:aF} {o:cW} {N n:ar} {Q:PQ} {X:PX}
theorem Ml (h:pl+(N+1)<=1000):pl+1+N<=1000:=by rewrite [ix,lB 1];show h
theorem jn {lim:aq} (hb:H b=ae o) (d:Dr (N+1) o) (h0:0 < lim) (h1:lim < 1000000) (h:∀v o',0<=v->v < lim->Dr N o'->Q (.int v) (H.set b o')):bq (cx w ai) (n+1) (.ref 713) [.ref b,.int lim] H Q X:=by
 show AB d.1 λcs gr st pl bC g0 s0 s1 p1 cl=>?_;subst bC;have hl:lim≠0:=ajW h0;have nop:∀{x:aq},La x lim=au:=LI (FZ ((Nat.log2_lt (k:=20) (λe=>hl (Int.natAbs_eq_zero.mp e))).mpr (Int.ofNat_lt.mp (aa (ajY (mZ h0)) (LH h1 ⋯)))) ⋯);show fn 30 30 abw rfl λK XK hK hN hX=>?_;intro m;show gG (k:=3) (av:= .int (pl:aq)) (.inr (ao b rfl hb)) rfl ⋯ rfl<|CJ (i:=3) hb (eY 4) ⋯ ?_
 have we:=aj.aW H b (.list ((Av cs gr st pl).set 3 (.int ((pl:aq)+1))));show gG (.inr (ao b rfl we)) rfl ⋯ rfl (br (λq=>?_) λq=>?_)
 ·show gG (.inr (ao b rfl we)) rfl ⋯ rfl (mR hl ?_);show gG (.inr (ao b rfl we)) rfl ⋯ rfl (uY hl nop ?_);show CJ we (dY 2 2) ⋯ (hK (.refl _) ?_)
  rewrite [cV]
  show h _ _ (pU h0).1 (pU h0).2 ⟨cs,gr.fdiv lim,st,pl+1,rfl,?_,s0,s1,Ml p1,cl⟩;exists F0 _ (mZ h0);show Int.ediv_nonneg g0 (mZ h0)
 ·show gG (.inr (ao b rfl we)) rfl ⋯ rfl (oZ (.of_right ⋯) (oZ (.of_left (PJ (iw (aK (eC pl (N+1)) p1) ⋯))) (mR ⋯ ?_)));show CJ (i:=2) we (dY 3 1) ⋯ ?_;have sr:=pU (a:=st*16807+(pl:aq)*pl+29) (b:=2147483647) ⋯;generalize (st*16807+(pl:aq)*pl+29).fmod 2147483647=vi at sr;have d':∀{o'},o'= .list (Av cs gr vi (pl+1))->Dr N o':=λe=>⟨cs,gr,vi,pl+1,e,g0,sr.1,sr.2,Ml p1,cl⟩
  rewrite [cV]
  have mJ:=aj.aW H b (.list (((Av cs gr st pl).set 3 (.int ((pl:aq)+1))).set 2 (.int vi)));show gG (k:=0) (av:= .lst (cs.map .int)) (.inr (ao b rfl mJ)) rfl ⋯ rfl (rr (.inl rfl) (by rewrite [bp];show e9 (aK ‹_› ⋯)) (br (λq=>?_) λq=>?_))
  ·have q:=fi q;rw [bp] at q;have q:pl < cs.length:=Int.ofNat_lt.mp q;show gG (k:=0) (av:= .lst (cs.map .int)) (.inr (ao b rfl mJ)) rfl ⋯ rfl (gG (k:=pl) (av:= .int cs[pl]) (.inl rfl) rfl (e9 (by lia)) (by simp [q]) (mR hl (hK (.refl _) ?_)));show h _ _ (pU h0).1 (pU h0).2 (d' rfl)
  ·show gG (k:=2) (av:= .int vi) (.inr (ao b rfl mJ)) rfl ⋯ rfl (uY ⋯ (LI ⋯) (Jm ⋯ (agN sr.1 sr.2) (mR hl (hK (.refl _) ?_))));show h _ _ (pU h0).1 (pU h0).2 (d' rfl)
end
end
section
variable {w:bQ} {qt:aN}
theorem Dr.le (d:Dr N o) (h:M<=N):Dr M o:=by
 show AB d.1 λcs gr st pl e g s0 s1 p c=>⟨cs,gr,st,pl,e,g,s0,s1,aK (iJ h _) p,c⟩
noncomputable def fT:ah ak:=["INBOX","a","a/b","b","a/b/c","inbox/d","Inbox","a//b","b%"]
theorem GP {α:Type} {l:ah α} {v:aq} (h0:0<=v) (h1:v < l.length) (hs:l.length<=1000):∃x,l[v.toNat]?=ae x/\x∈l/\v=(v.toNat:aq)/\(v.toNat:aq) < 2 ^ 63:=by
 have hl:v.toNat < l.length:=(V0 h0).mpr h1;show (i_ (l[v.toNat]) (by simp [hl]) (Lu hl) (by lia) (by lia))
section
variable {H:aj} {b:aF} {o:cW} {N n:ar} {Q:PQ} {X:PX}
theorem DJ (hb:H b=ae o) (d:Dr (N+1) o) (h:∀x o',x∈fT->Dr N o'->Q (.str x) (H.set b o')):bq (cx w ai) (n+2) (.ref 720) [.ref b] H Q X:=by
 show fn 30 30 aeq rfl λK XK hK hN hX=>?_;intro m;show jn hb d ⋯ ⋯ λv o' v0 v1 d'=>eO (GP (l:=fT) v0 v1 ⋯) λx e hm ev hz=>gG (l:=fT.map .str) (.inl rfl) ev hz (by exists mi;exists e;rfl) (hK (.refl _) (h x o' hm d'))
noncomputable def th:ah ak:=["\\Seen","no flag"]
noncomputable def l_:ah ak:=["\\Seen","\\deleted","key","\\FLAGGED","Key"]
noncomputable def xv (mask:aq) (i:ar):aN:=vR (mask.fdiv (2 ^ ((i:aq)).toNat)) 1==1
noncomputable def uv (mask:aq):ah ak:=((jj 5).filter (xv mask)).map λi=>(l_[4 - i]?).getD ""
theorem SI (x y:ar) (h:AV.int (x:aq)=AV.int (y:aq)):x=y:=by injection h with h;show ajx h
theorem HA (hb:H b=ae o) (d:Dr (N+1) o) (h:∀(fl:ah ak) o',(fl=th\/∃mask,fl=uv mask)->Dr N o'->Q (eF fl) (H.set b o')):bq (cx w ai) (n+2) (.ref 725) [.ref b] H Q X:=by
 show fn 30 30 Xd rfl λK XK hK hN hX=>?_;intro m;show jn hb d ⋯ ⋯ λv o' v0 v1 d'=>?_;intro D hD;have F:=nM (o:= .list (l_.map .str)) hD (by simp);show jE (hK F (h th o' (.inl rfl) d'))<|(iT rfl ⋯ ⋯ ?_)
 show fY (g:=λi:ar=>AV.int (i:aq)) (jj 5) SI (xv v) (λi=> .str ((l_[4 - i]?).getD "")) (λJ=>cL) (cH ⋯) trivial (λi hi H' hH=>?_) λJ=>?_
 ·have hi:i < 5:=List.mem_range.mp hi;show zM (by lia) (wb (aP rfl rfl (λJ=>?_)));show gG (l:=l_.map .str) (k:=4 - i) (av:= .str ((l_[4 - i]?).getD "")) (.inr (ao D rfl (hH _ _ (aj.aW ..)))) (ajL (LF hi)).symm (Int.ofNat_lt.mpr (iw (Lg 4 i) ⋯)) ?_ (aP rfl rfl trivial);have:4 - i < l_.length:=iw (Lg 4 i) ⋯;exists mi;exists qH this;rfl
 ·show kH (.inl rfl) (by rewrite [bp];show cH (aK (lI ..) ⋯)) (hK F ?_);have e:((jj 5).filter (xv v)).map (λi=>AV.str ((l_[4 - i]?).getD ""))=(uv v).map .str:=by unfold uv;exists cZ;rfl
  exists e;show h (uv v) o' (.inr ⟨v,rfl⟩) d'
noncomputable def iA (mask:aq):ah aq:=((jj 4).filter (xv mask)).map λi:ar=>4 - (i:aq)
theorem C9 (hb:H b=ae o) (d:Dr (N+1) o) (h:∀mask o',Dr N o'->Q (xT (iA mask)) (H.set b o')):bq (cx w ai) (n+2) (.ref 730) [.ref b] H Q X:=by
 show fn 30 30 Ā rfl λK XK hK hN hX=>?_;intro m;show jn hb d ⋯ ⋯ λv o' v0 v1 d'=>(iT rfl ⋯ ⋯ ?_);show fY (g:=λi:ar=>AV.int (i:aq)) (jj 4) SI (xv v) (λi:ar=> .int (4 - (i:aq))) (λJ=>cL) (cH ⋯) trivial (λi hi H' hH=>zM (by lia) (wb (aP rfl rfl (λJ=>(aP rfl rfl trivial))))) λJ=>kH (.inl rfl) (by rewrite [bp];show cH (aK (lI ..) ⋯)) (hK (.refl _) ?_);have e:((jj 4).filter (xv v)).map (λi:ar=>AV.int (4 - (i:aq)))=(iA v).map .int:=by unfold iA;exists cZ;rfl
 exists e;show h v o' d'
end
end
section
variable {w:bQ} {qt:aN}
def qj (fl:ah ak):Prop:=fl=th\/∃mask,fl=uv mask
inductive Drawn (s:bc):cD->Prop
 |create (x:ak) (v:aq) (hx:x∈fT) (h0:s.nv - 1<=v) (h1:v<=s.nv+3):Drawn s (.create x v)
 |delete (x:ak) (hx:x∈fT):Drawn s (.delete x)
 |rename (x y:ak) (hx:x∈fT) (hy:y∈fT):Drawn s (.rename x y)
 |append (x:ak) (fl:ah ak) (i:aq) (oc:ah b_) (hx:x∈fT) (hf:qj fl) (hi:i.natAbs<=1000) (ho:oc.length<=2):Drawn s (.append x fl i oc)
 |flags (x:ak) (u:aq) (fl:ah ak) (hx:x∈fT) (hf:qj fl) (hu:u.natAbs<=4):Drawn s (.flags x u fl)
 |store (x:ak) (k:aq) (way:ak) (fl:ah ak) (i:aq) (hx:x∈fT) (hw:way="+"\/way="-"\/way="=") (hf:qj fl) (hi:i.natAbs<=10):Drawn s (.store x (iA k) way fl i)
 |expunge (x:ak) (k:aq) (hx:x∈fT):Drawn s (.expunge x (iA k))
 |copy (x:ak) (k:aq) (y:ak) (hx:x∈fT) (hy:y∈fT):Drawn s (.copy x (iA k) y)
 |move (x:ak) (k:aq) (y:ak) (hx:x∈fT) (hy:y∈fT):Drawn s (.move x (iA k) y)
 |sub (x:ak) (hx:x∈fT):Drawn s (.sub x)
 |unsub (x:ak) (hx:x∈fT):Drawn s (.unsub x)
 |forget (x:ak) (ms:aq) (hx:x∈fT) (h:ms.natAbs<=8):Drawn s (.forget x ms)
theorem lcE (ok:VK.Ok vk m.c) (f:ar) (iN:mr sc scope=ai) (c8:(xf t||m.c.qt)=ai) (hn:sh it=ai)
  (h:vI vk f sc it m ρ H (λitems ok aw=>LC m.c m.n (gY scope sc) t [] (p_ elt) (ip (gY scope sc) ρ) ok (λacc aG=>∀D,aG D=none->Q (.ref D) (aG.set D acc)) X items (.list []) aw) X):WE m.c m.n sc (.ListComp elt [⟨t,it,[],0⟩] scope p) ρ H Q X:=
 JO iN (yI c8) ((g_ ok f).2 h) (uQ hn)
section
variable {H:aj} {b S:aF} {F:aF->Prop} {s:bc} {o:cW} {N n:ar} {Q:PQ} {X:PX}
theorem GZ {x:aq} {B:ar} (h0: -(B:aq)<=x) (h1:x<=B):x.natAbs<=B:=by omega
theorem Od {x y:aq} {B:ar} (h0:0<=x) (h1:x < y) (k:aq) (hk: -(B:aq)<=0 - k) (hy:y - k<=B):(x - k).natAbs<=B:=GZ (dH hk (V1 h0 k)) (dH (V1 (mZ h1) k) hy)
theorem i2 {v:aq} (h0:0<=v) (h1:v < 1+1):v=0\/v=1:=(ajZ (LP h1)).imp (λh:v < 0+1=>Int.le_antisymm (LP h) h0) id
theorem ahF {α:Type} {P:α->Prop} {a c d:α} {v:aq} (h0:0<=v) (h1:v < 3) (k0:v=0->P a) (k1:v=1->P c) (k2:v=2->P d):∃x,([a,c,d]:ah α)[v.toNat]?=ae x/\P x:=by
 rcases (ajZ (LP (b:=2) h1)).imp (i2 h0) id with (rfl|rfl)|rfl
 ·show (ao a rfl (k0 rfl))
 ·show (ao c rfl (k1 rfl))
 ·show (ao d rfl (k2 rfl))
theorem Ov (hb:H b=ae o) (d:Dr (N+10) o) (bS:S≠b) (a:gW H S F s) (h:∀dd o',Drawn s dd->Dr N o'->Q dd.row (H.set b o')):bq (cx w ai) (n+3) (.ref 735) [.ref b,.ref S] H Q X:=by
 show eV a.1 λdS Dd l al hF=>fn 40 40 ag2 rfl λK XK hK hN hX=>?_;intro m;show jn hb d ⋯ ⋯ λway o1 w0 w1 d1=>?_
 suffices rest:∀x o',x∈fT->Dr (N+8) o'->vS vk 40 38 (fS (aQ 110)) ((fB (aQ 110)).drop 2) m [("name",.str x),("way",.int way),("store",.ref S),("box",.ref b)] ((H.set b o1).set b o') K XK by
  show Aa (DJ (aj.aW H b o1) d1 rest) λq=>jn (aj.aW H b o1) d1 ⋯ ⋯ λv o' v0 v1 d'=>eO (GP (l:=(["INBOX","a","b"]:ah ak)) v0 v1 ⋯) λx e hm ev hz=>gG (l:=(["INBOX","a","b"]:ah ak).map .str) (.inl rfl) ev hz (by exists mi;exists e;rfl) (rest x o' ?_ d');simp only [yq,EU,K9] at hm;rcases hm with rfl|rfl|rfl <;> simp [fT]
 intro x o2 hx d2
 rewrite [cV]
 have mJ:=aj.aW H b o2;have gS:(H.set b o2) S=_:=aY bS al.1;have fin:∀{dd o'},Drawn s dd->Dr N o'->∀{ρ},K (.ret dd.row) ρ (H.set b o'):=λh1 h2=>hK (.refl _) (h _ _ h1 h2);show ki (λq=>(ao _ gS (jn mJ d2 ⋯ ⋯ λv o3 v0 v1 d3=>?_)))<|?_
 ·show eO (GP (l:=([0,3,0,-1]:ah aq)) v0 v1 ⋯) λk e hk ev hz=>gG (l:=([0,3,0,-1]:ah aq).map .int) (.inl rfl) ev hz (by exists mi;exists e;rfl) ?_
  rewrite [cV]
  show fin (dd:= .create x (s.nv+k)) (.create x _ hx ?_ ?_) (d3.le (eC ..))
  all_goals
   simp only [yq,EU,K9] at hk;rcases hk with rfl|rfl|rfl|rfl <;> show V2 ⋯ s.nv
 show jE (fin (.delete x hx) (d2.le (eC ..)))<|?_
 have si:∀{Q':PQ} {X':PX},(∀y o3,y∈fT->Dr N o3->Q' (.str y) (H.set b o3))->bq (cx w ai) (n+2) (.ref 720) [.ref b] (H.set b o2) Q' X':=λg=>DJ mJ d2 λy o3 hy d3=>by rewrite [cV];show g y o3 hy (d3.le (eC ..))
 show jE (si λy o3 hy d3=>fin (.rename x y hx hy) d3)<|jE (si λy o3 hy d3=>fin (.rename x y hx hy) d3)<|?_
 clear si;show ki (λq=>jn mJ d2 ⋯ ⋯ λv o3 v0 v1 d3=>HA (aj.aW ..) d3 λfl o4 hf d4=>?_)<|?_
 ·rewrite [cV,cV]
  show fin (dd:= .flags x (1+v) fl) (.flags x _ fl hx hf (GZ (dH ⋯ (V2 v0 1)) (dH (V2 (LP (b:=3) v1) 1) ⋯))) (d4.le (eC ..))
 show ki (λq=>C9 mJ d2 λmask o3 d3=>jn (aj.aW ..) d3 ⋯ ⋯ λv o4 v0 v1 d4=>?_)<|?_
 ·show aA (ahF (P:=λcp:ar=>(⟨#[cp]⟩:ak)="+"\/(⟨#[cp]⟩:ak)="-"\/(⟨#[cp]⟩:ak)="=") v0 v1 (λJ=> .inl rfl) (λJ=> .inr (.inl rfl)) λJ=> .inr (.inr rfl)) λcp e hc=>Sp (k:=v.toNat) (cp:=cp) (KU v0).symm (Int.ofNat_lt.mpr (FZ ((V0 (n:=3) v0).mpr v1) ⋯)) ?_ ?_
  ·exists (yo).symm;show e
  show HA (aj.aW ..) d4 λfl o5 hf d5=>jn (aj.aW ..) d5 ⋯ ⋯ λu o6 u0 u1 d6=>?_
  rewrite [cV,cV,cV,cV]
  show fin (dd:= .store x (iA mask) ⟨#[cp]⟩ fl (u - 3)) (.store x mask _ fl _ hx hc hf (Od u0 u1 3 ⋯ ⋯)) (d6.le (eC ..))
 show ki (λq=>C9 mJ d2 λmask o3 d3=>?_)<|?_
 ·rewrite [cV]
  show fin (dd:= .expunge x (iA mask)) (.expunge x mask hx) (d3.le (eC ..))
 show ki (λq=>jn (n:=n+1) mJ d2 ⋯ ⋯ λv o3 v0 v1 d3=>?_)<|?_
 ·rcases (i2 v0 v1) with rfl|rfl
  ·show gG (l:=[.str "copy",.str "move"]) (k:=0) (av:= .str "copy") (.inl rfl) rfl ⋯ rfl<|C9 (N:=N+6) (n:=n) (aj.aW ..) d3 λmask o4 d4=>DJ (N:=N+5) (n:=n) (aj.aW ..) d4 λy o5 hy d5=>?_
   rewrite [cV,cV,cV]
   show fin (dd:= .copy x (iA mask) y) (.copy x mask y hx hy) (d5.le (eC ..))
  ·show gG (l:=[.str "copy",.str "move"]) (k:=1) (av:= .str "move") (.inl rfl) rfl ⋯ rfl<|C9 (N:=N+6) (n:=n) (aj.aW ..) d3 λmask o4 d4=>DJ (N:=N+5) (n:=n) (aj.aW ..) d4 λy o5 hy d5=>?_
   rewrite [cV,cV,cV]
   show fin (dd:= .move x (iA mask) y) (.move x mask y hx hy) (d5.le (eC ..))
 show ki (λq=>jn (N:=N+7) (n:=n+1) mJ d2 ⋯ ⋯ λv o3 v0 v1 d3=>?_)<|?_
 ·rcases (i2 v0 v1) with rfl|rfl
  ·show gG (l:=[.str "subscribe",.str "unsubscribe"]) (k:=0) (av:= .str "subscribe") (.inl rfl) rfl ⋯ rfl ?_
   rewrite [cV]
   show fin (dd:= .sub x) (.sub x hx) (d3.le (eC ..))
  ·show gG (l:=[.str "subscribe",.str "unsubscribe"]) (k:=1) (av:= .str "unsubscribe") (.inl rfl) rfl ⋯ rfl ?_
   rewrite [cV]
   show fin (dd:= .unsub x) (.unsub x hx) (d3.le (eC ..))
 show ki (λq=>jn (N:=N+7) (n:=n+1) mJ d2 ⋯ ⋯ λv o3 v0 v1 d3=>?_)<|?_
 ·rewrite [cV]
  show fin (dd:= .forget x v) (.forget x v hx (GZ (dH ⋯ v0) (dH (mZ v1) ⋯))) (d3.le (eC ..))
 show jE ((ao _ gS (fin (dd:= .create x s.nv) (.create x _ hx (by lia) (by lia)) (d2.le (eC ..)))))<|lcE fO 40 rfl rfl rfl ⟨rfl,jn (N:=N+7) (n:=n+1) mJ d2 ⋯ ⋯ λv o3 v0 v1 d3=>(aP (dH ⋯ v0) (LH v1 ⋯) ?_)⟩
 rewrite [cV]
 show Pa fO 40 (λi:ar=>AV.int (i:aq)) (λs:cW×ah aq=>H.set b s.1) (λs=>s.2.map .int) (λr s=>Dr (N+5+r.length) s.1/\s.2.length+r.length<=2/\∀x∈s.2,0<=x/\x < 256) (λs r p=>?_) (λs p D hD=>?_) (λi r s p=>?_) (jj v.toNat) (o3,[]) (aP (d3.le (by exists aj0;lia)) (by exists aj0;show (?_:0+_<=2);lia) (λx hx=>(by cases hx)))
 ·rewrite [bp];exists fH;have:=p.2.1;show (aK ‹_› ⋯)
 ·have hl:s.2.length<=2:=p.2.1;show Nj (ns:=s.2) rfl (.inr (ao D rfl (aj.aW ..))) p.2.2 (by exists fH;show aK hl ⋯) ?_;show HA (N:=N+4) (n:=n) (aY (bU (aj.aW ..) hD) (aj.aW ..)) p.1 λfl o4 hf d4=>jn (N:=N+3) (n:=n+1) (aj.aW ..) d4 ⋯ ⋯ λu o5 u0 u1 d5=>?_
  rewrite [cV]
  show hK (H'':=H.set b o5) (Kg (D:=D) (o:= .list (s.2.map .int)) ?_ (aY (bI (bU (aj.aW ..) hD)) (cw hD).1) (by simp)) (h (.append x fl (u - 1000) (s.2.map λn:aq=>n.toNat.toUInt8)) o5 (.append x fl _ _ hx hf (Od u0 u1 1000 ⋯ ⋯) (by rewrite [bp];show hl)) (d5.le (eC ..)));exists rT _ _ _ (bI (bU (aj.aW ..) hD));rewrite [cV];rfl
 ·intro D C hD hC eB;show jn (N:=N+5+r.length) (n:=n+1) (Gm (aj.aW ..) hD hC) p.1 ⋯ ⋯ λu o4 u0 u1 d4=>(wu (o4,s.2++[u]) (aP d4 ?_ (λy hy=>?_)) ?_ (aY (bI (cw hD).2) (cw hD).1) (aY (bI (cw hC).2) (cw hC).1) ?_)
  ·have:=p.2.1;simp only [cb,cY,jL] at this ⊢;lia
  ·rcases List.mem_append.mp hy with h|h
   ·show p.2.2 y h
   ·exists List.mem_singleton.mp h;show ⟨u0,u1⟩
  ·exists Nw (cw hD).2 (cw hC).2;rewrite [cV];rfl
  ·show (?_:(s.2++[u]).map AV.int=_);exists dz;rfl
end
end
section
variable {w:bQ} {qt:aN}
section
variable {H:aj} {k:aF} {F:aF->Prop} {s:bc} {d0:ah b_} {n:ar} {Q:PQ} {X:PX}
noncomputable def Ec (r:aR (bc×AV)):AV:=match r with
 |some p=> .tup [.str "done",p.2]
 |none=> .tup [.str "refused",.int 0]
noncomputable def uo (s:bc) (r:aR (bc×AV)):bc:=match r with
 |some p=>p.1
 |none=>s
noncomputable def uZ (d0:ah b_) (d:cD) (r:aR (bc×AV)):ah b_:=match r with
 |some _=>d0++dg d.row
 |none=>d0
theorem J5 (d:cD) (a:hM H k F s d0) (sf:gR s) (ok:d.ok s) (rv:Rv 6 d.row) (hz:d0.length+(dg d.row).length<=8000000) (h:∀H',sF H k F (uo s (fk s d)) (uZ d0 d (fk s d)) H'->Q (Ec (fk s d)) H'):
  bq (cx w ai) (n+13) (.ref 742) [.ref k,d.row] H Q X:=by
 show j3 a.1 λdK S je hk st nk Fk sub=>fn 30 30 Ð rfl λK XK hK hN hX=>?_;intro m;show Cp 30 28 rfl (by ext) (by ext) (by ext) (ao _ hk (afz d a sf ok rv hz (λs' v e H' p=>hK (.refl _) ?_) λe H' x i p=>⟨rfl,hK (.refl _) ?_⟩))
 ·rw [e] at h;show h H' p
 ·rw [e] at h;show h H' p
theorem Ik {α:Type} {l:ah α}:cut l none (ae i)=l.take i:=by show (?_:(l.take i).drop 0=_);exists Ln;rfl
theorem adl {α:Type} {l:ah α}:cut l (ae i) none=l.drop i:=by show (?_:(l.take l.length).drop i=_);exists Bl;rfl
theorem fC {l:ah AV} {i:ar} {v:AV} (hi:i < l.length) (hz:l.length<=1000) (h:Q (.tup (l.set i v)) H):bq (cx w qt) (n+1) (.ref 749) [.tup l,.int (i:aq),v] H Q X:=by
 have e:l.take i++[v]++l.drop (i+1)=l.set i v:=by exists List.set_eq_take_append_cons_drop;exists bN hi;rewrite [gh];rfl
 have sz:∀{k:ar},k<=3000->k<=bY:=λh=>mC (aK h ⋯);show fn 30 30 agm rfl λK XK hK hN hX=>?_;intro m;have Gb:i<=1000:=aK (iK hi) hz;have hm:min i l.length+(0+1)<=1001:=tO (aK (Vj ..) Gb) 1;show (ao i rfl (yZ (sz (aK hz ⋯)) ?_));show (Ik).symm▸?_;show ⟨sz (by exists FA;show aK hm ⋯),i+1,rfl,yZ (sz (aK hz ⋯)) ?_⟩;exists adl;show ⟨sz (by exists cb;exists FA;exists Fy;show aK (tP hm (aK (Lg ..) hz)) ⋯),hK (.refl _) ?_⟩;exists e;show h
end
theorem ahG:(10:aq) ^ (260:aq).toNat≠0:=by decide+kernel
theorem ξ:0 < (10:aq) ^ (260:aq).toNat:=by decide+kernel
section
variable {H:aj} {n:ar} {Q:PQ} {X:PX}
noncomputable def Ht (cs ns:ah aq) (gr:aq):aN->Rh
 |true=>[("great",.int gr),("great",.int 0),("cells",.lst (cs.map .int)),("script",.lst (ns.map .int))]
 |false=>[("great",.int gr),("cells",.lst (cs.map .int)),("script",.lst (ns.map .int))]
theorem YN {a:AV} {ns:ah aq} (ha:a= .lst (ns.map .int)) (hn:ns.length<=63) (h:∀b o,H b=none->Dr 200 o->o≠.priv->Q (.ref b) (H.set b o)):bq (cx w ai) (n+1) (.ref 706) [a] H Q X:=by
 exists ha;have hl:(ns.take 48).length<=63:=aK (List.length_take_le' ..) hn;show fn 40 40 acs rfl λK XK hK hN hX=>?_;intro m;show (ao 48 rfl (Ν (.inl rfl) (by rewrite [bp];exists fH;lia) ?_));exists Ik;exists List.map_take.symm;show fY (ns.take 48) rL (λJ=>ai) .int (λJ=>cL) (mC (aK ‹_› ⋯)) trivial (λi J H' J=>(aP rfl rfl (λJ=>abZ (aP rfl rfl trivial)))) λJ=>?_
 rewrite [ja]
 generalize ns.take 48=cs at hl
 suffices rest:∀gr:aq,0<=gr->∀ex:aN,vS vk 40 37 (fS (aQ 105)) ((fB (aQ 105)).drop 3) m (Ht cs ns gr ex) H K XK by
  show ŝ (.inl rfl) (by rewrite [bp];show e9 (aK ‹_› ⋯)) (ki (λq=>?_)<|rest 0 (ig _) au);induction cs using c6 with
  |nil=>injection q
  |cons c r=>
   show gG (.inl rfl) rfl ⋯ rfl (M4 (Jm ⋯ (by decide+kernel) (ki (λq=>?_)<|rest 0 (ig _) au)));show gG (.inl rfl) rfl ⋯ rfl (M4 (uY ⋯ Dc (Jm ⋯ (by decide+kernel) (mR ahG ?_))));show rest _ (pU ξ).1 ai
 intro gr g0 ex;have fin:∀{st:aq},0<=st/\st < 2147483647->∀aO b,H b=none->K (.ret (.ref b)) aO (H.set b (.list (Av cs gr st 0))):=λp aO b hb=>hK (.refl _) (h b _ hb ⟨cs,gr,_,0,rfl,g0,p.1,p.2,by decide,hl⟩ (by simp));induction ex using ez with
 |false=>
  show jX AV.int (λst:aq=>(("state",.int st)::Ht cs ns gr au:Rh)) (λJ=>H) (λJ st=>0<=st/\st < 2147483647) (λst p=>λb hb=>fin p _ b hb) (λi r st p K' dU hr=>?_) cs 1 ⟨by decide,by decide⟩;show oZ (.of_right ⋯) (mR ⋯ (mR ⋯ (dU _ _ (pU ⋯) trivial (f9 rfl rfl rfl rfl trivial))))
 |true=>
  show jX AV.int (λs:aN×aq=>(("state",.int s.2)::Ht cs ns gr s.1:Rh)) (λJ=>H) (λJ s=>0<=s.2/\s.2 < 2147483647) (λs p=>?_) (λi r s p K' dU hr=>?_) cs (ai,1) ⟨by decide,by decide⟩
  ·rcases s with ⟨f,st⟩
   induction f using ez <;> show λb hb=>fin p _ b hb
  ·rcases s with ⟨f,st⟩
   induction f using ez <;> show oZ (.of_right ⋯) (mR ⋯ (mR ⋯ ((λaO=>dU (au,(st*48271+i.fmod 2147483647+389).fmod 2147483647) aO (pU ⋯) trivial) _ (f9 rfl rfl rfl rfl trivial))))
end
end
section
variable {w:bQ} {qt:aN}
noncomputable def B6 (nv:aq) (subs:ah ak) (l:ah AV):AV:= .tup [.str "snapshot",.int nv,eF subs,.tup l]
inductive i7 (nv:aq) (subs:ah ak) (e8 ot:ah Bx) (i:Bx):cD->Prop
 |w0:i7 nv subs e8 ot i (.snap nv subs (ot.map ae) [])
 |w1 (v:aq) (h0:0<=v) (h1:v < 2):i7 nv subs e8 ot i (.snap v subs (e8.map ae) [])
 |w2 (v:aq) (h0:0<=v) (h1:v < 3):i7 nv subs e8 ot i (.snap nv subs ((ot++[{i with val:=nv+v}]).map ae) [])
 |w3:i7 nv subs e8 ot i (.snap nv subs ((e8++[i]).map ae) [])
 |w4:i7 nv subs e8 ot i (.snap nv subs ((e8++[{i with name:="zz"}]).map ae) [])
 |w5:i7 nv subs e8 ot i (.snap nv ["b","a"] (e8.map ae) [])
 |w6:i7 nv subs e8 ot i (.snap nv ["a%"] (e8.map ae) [])
 |w7:i7 nv subs e8 ot i (.snap nv subs ((ot++[{i with lts:=[⟨i.nu,[],[],0,i.top⟩]}]).map ae) [])
 |w8:i7 nv subs e8 ot i (.snap nv subs ((ot++[{i with nu:=i.nu+1,lts:=[⟨i.nu,[],[],0,i.top+2⟩]}]).map ae) [])
 |w9 (v:aq) (h0:0<=v) (h1:v < 9):i7 nv subs e8 ot i (.snap nv subs ((ot++[{i with floor:=i.top+1+v}]).map ae) [])
 |w10:i7 nv subs e8 ot i (.snap nv subs ((ot++[{i with gone:=[(i.nu,i.top)]}]).map ae) [])
 |w11:i7 nv subs e8 ot i (.snap nv subs ((ot++[{i with nu:=i.nu+1,top:=i.top+1,lts:=[⟨i.nu,[],["b","a"],0,i.top+1⟩]}]).map ae) [])
 |w12:i7 nv subs e8 ot i (.snap nv subs ((ot++[{i with nu:=i.nu+1,top:=i.top+1,lts:=[⟨i.nu,[],["\\seen"],0,i.top+1⟩]}]).map ae) [])
 |w13:i7 nv subs e8 ot i (.snap nv subs ((ot++[{i with name:="inbox"}]).map ae) [])
 |w14 (bad:ah AV) (hb:bad=[.str i.name,.int i.val,.int i.nu,.int i.top,.int i.floor,.tup (i.lts.map Lt.told)]):i7 nv subs e8 ot i (.snap nv subs (ot.map ae++[none]) bad)
 |w15:i7 nv subs e8 ot i (.snap nv subs ((e8++[{i with name:="q//r",val:=nv - 1}]).map ae) [])
theorem y7 {l:ah Bx} {bad:ah AV}:(l.map ae).map (mz bad)=l.map Bx.told:=by exists cZ;rfl
theorem oK {nv:aq} {subs:ah ak} {l:ah Bx} {a:AV} {e:AV} (he:a=B6 nv subs (l.map Bx.told++[e])) {b:Bx} (hb:e=b.told):a=(cD.snap nv subs ((l++[b]).map ae) []).row:=by
 subst he hb;show (?_:_=AV.tup [.str "snapshot",.int nv,eF subs,.tup (((l++[b]).map ae).map (mz []))]);exists y7;exists dz;rfl
noncomputable def Ki:AV->ak
 | .tup (.str x::_)=>x
 |_=>""
theorem Mu {l:ah Bx} {p:ak->aN}:((l.map Bx.told).filter λa=>p (Ki a)).map id=(l.filter λb=>p b.name).map Bx.told:=by
 rewrite [Bo];exists LJ;rfl
section
variable {H:aj} {b:aF} {o:cW} {N n:ar} {Q:PQ} {X:PX}
theorem Yb {nv:aq} {subs:ah ak} {e8 r:ah Bx} {i:Bx} (hb:H b=ae o) (d:Dr (N+2) o) (hl:e8.length<=50) (hi:(e8.filter λb=>b.name==("INBOX":ak))=i::r)
  (h:∀dd o',i7 nv subs e8 (e8.filter λb=>b.name !=("INBOX":ak)) i dd->Dr N o'->Q dd.row (H.set b o')):bq (cx w ai) (n+2) (.ref 754) [.ref b,B6 nv subs (e8.map Bx.told)] H Q X:=by
 show fn 60 60 Z9 rfl λK XK hK hN hX=>?_;intro m;show jn hb d ⋯ ⋯ λway o1 w0 w1 d1=>?_;have sz:(e8.map Bx.told).length<=bY:=by rewrite [bp];show cH hl
 show ⟨sz,trivial,λa=>Ki a==("INBOX":ak),id,λJ=>cL,λa ha=>?_,λJ=>?_⟩
 ·show aA (List.mem_map.mp ha) λc J bC=>?_;rcases bC with rfl
  show λH' J=>(aP rfl rfl (λJ=>(aP rfl rfl trivial)))
 exists (Mu (p:=λx=>x==("INBOX":ak)));exists hi;show gG (.inl rfl) rfl ⋯ rfl<|⟨sz,trivial,λa=>Ki a !=("INBOX":ak),id,λJ=>cL,λa ha=>?_,λJ=>?_⟩
 ·show aA (List.mem_map.mp ha) λc J bW=>?_;rcases bW with rfl
  show λH' J=>(aP rfl rfl (λJ=>(aP rfl rfl trivial)))
 exists (Mu (p:=λx=>x !=("INBOX":ak)));have ol:(e8.filter λb=>b.name !=("INBOX":ak)).length<=50:=aK (lI ..) hl;generalize (e8.filter λb=>b.name !=("INBOX":ak))=ot at h ol;show kH (.inl rfl) (by rewrite [bp];show cH ol) ?_;have fin:∀{dd a},i7 nv subs e8 ot i dd->a=dd.row->∀{ρ},K (.ret a) ρ (H.set b o1):=λh1 e=>e▸hK (.refl _) (h _ _ h1 (d1.le (kX _)));have so:(ot.map Bx.told).length+[AV.none].length<=bY:=by rewrite [bp];exists fH;simp only [cY,jL];lia
 have sb:(e8.map Bx.told).length+[AV.none].length<=bY:=by rewrite [bp];exists fH;simp only [cY,jL];lia
 have It:∀{dd a o2},i7 nv subs e8 ot i dd->a=dd.row->Dr N o2->∀{ρ},K (.ret a) ρ ((H.set b o1).set b o2):=λh1 e d2=>by rewrite [cV];show e▸hK (.refl _) (h _ _ h1 d2)
 have l4:∀{a c d e:AV},[a,c,d,e].length<=1000:=dY 4 996;have l7:∀{a c d e f g h:AV},[a,c,d,e,f,g,h].length<=1000:=dY 7 993
 have e0:∀{l:ah Bx} {v:aq} {subs:ah ak},AV.tup [.str "snapshot",.int v,eF subs,.tup (l.map Bx.told)]=(cD.snap v subs (l.map ae) []).row:=λ{l v subs}=>by
  show (?_:_=AV.tup [.str "snapshot",.int v,eF subs,.tup ((l.map ae).map (mz []))]);exists y7;rfl
 show jE (fC (eY 4) l4 (fin .w0 e0))<|jE (jn (aj.aW H b o1) d1 ⋯ ⋯ λv o2 v0 v1 d2=>fC (dY 2 2) l4 (It (.w1 v v0 v1) e0 d2))<|jE (jn (aj.aW H b o1) d1 ⋯ ⋯ λv o2 v0 v1 d2=>fC (dY 2 5) l7 ⟨so,fC (eY 4) l4 (It (.w2 v v0 v1) (oK rfl rfl) d2)⟩)<|jE (⟨sb,fC (eY 4) l4 (fin .w3 (oK rfl rfl))⟩)<|jE (fC (dY 1 6) l7 (fC (dY 2 5) l7 ⟨sb,fC (eY 4) l4 (fin .w4 (oK rfl rfl))⟩))<|jE (fC (dY 3 1) l4 (fin .w5 e0))<|jE (fC (dY 3 1) l4 (fin .w6 e0))<|jE (fC (dY 6 1) l7 ⟨so,fC (eY 4) l4 (fin .w7 (oK rfl rfl))⟩)<|jE (fC (dY 3 4) l7 (fC (dY 6 1) l7 ⟨so,fC (eY 4) l4 (fin .w8 (oK rfl rfl))⟩))<|jE (jn (aj.aW H b o1) d1 ⋯ ⋯ λv o2 v0 v1 d2=>fC (dY 5 2) l7 ⟨so,fC (eY 4) l4 (It (.w9 v v0 v1) (oK rfl rfl) d2)⟩)<|jE (fC (dY 7 0) l7 ⟨so,fC (eY 4) l4 (fin .w10 (oK rfl rfl))⟩)<|jE (fC (dY 3 4) l7 (fC (dY 4 3) l7 (fC (dY 6 1) l7 ⟨so,fC (eY 4) l4 (fin .w11 (oK rfl rfl))⟩)))<|jE (fC (dY 3 4) l7 (fC (dY 4 3) l7 (fC (dY 6 1) l7 ⟨so,fC (eY 4) l4 (fin .w12 (oK rfl rfl))⟩)))<|jE (fC (dY 1 6) l7 ⟨so,fC (eY 4) l4 (fin .w13 (oK rfl rfl))⟩)<|ki (λq=>(ao 6 rfl (yZ (cH (n:=7) ⋯) ⟨so,fC (eY 4) l4 (fin (.w14 _ rfl) ?_)⟩)))<|?_
 ·show (?_:AV.tup [.str "snapshot",.int nv,eF subs,.tup (ot.map Bx.told++[_])]=AV.tup [.str "snapshot",.int nv,eF subs,.tup ((ot.map ae++[none]).map (mz _))]);exists dz;exists y7;rfl
 show fC (dY 1 6) l7 (fC (dY 2 5) l7 ⟨sb,fC (eY 4) l4 (fin .w15 (oK rfl rfl))⟩)
end
end
section
inductive xV (b:Bx) (x:Lt):Prop
 |mk (u0:1<=x.uid) (u1:x.uid < b.nu) (m0:1 < x.ms) (m1:x.ms<=b.top) (fs:de x.flags=ae x.flags) (fu:∀t∈x.flags,t∈jw) (oc:x.oct.length<=2) (ins:x.inst.natAbs<=1000)
def u7 (x:ak):Prop:=cT x=ae x/\∀c∈x.cps.toList,c<=1114111
inductive kf (m:ar) (nv:aq) (b:Bx):Prop
 |mk (nm:u7 b.name) (nl:b.name.length<=20*m) (v0:1<=b.val) (v1:b.val < nv) (gZ:(bT b.lts).Pairwise (λx y=>x < y)) (lt:∀x∈b.lts,xV b x) (ĺ:(b.lts.map (λx=>x.ms)).Nodup) (gs:(b.gone.map (λx=>x.2)).Pairwise (λx y=>x<=y)) (g:∀p∈b.gone,1<=p.1/\p.1 < b.nu/\p.1∉bT b.lts/\b.floor < p.2/\p.2<=b.top) (f0:0<=b.floor) (f1:b.floor<=b.top) (n1:1<=b.nu) (t1:1<=b.top) (ll:b.lts.length<=4*m) (gl:b.gone.length<=100*m) (tl:b.top<=100*(m:aq)) (ul:b.nu<=100*(m:aq))
inductive Inv (m:ar) (s:bc):Prop
 |mk (nd:(s.bs.map (λx=>x.name)).Nodup) (vnd:(s.bs.map (λx=>x.val)).Nodup) (SV:∃b∈s.bs,b.name="INBOX") (bx:∀b∈s.bs,kf m s.nv b) (len:s.bs.length<=m) (Wt:2<=s.nv) (Xo:s.nv<=100*(m:aq)) (sub:∀x∈s.subs,u7 x/\x.length<=20) (sl:s.subs.length<=m) (so:s.subs.Pairwise λa b=>fZ a b=ai) (snd:s.subs.Nodup)
theorem Inv.mono (i:Inv m s):Inv (m+1) s:=by
 show ⟨i.1,i.2,i.3,λb hb=>?_,by have:=i.5;lia,i.6,by have:=i.7;lia,i.8,by have:=i.9;lia,i.10,i.11⟩;have x:=i.4 b hb;show ⟨x.1,by have:=x.2;lia,x.3,x.4,x.5,x.6,x.7,x.8,x.9,x.10,x.11,x.12,x.13,by have:=x.14;lia,by have:=x.15;lia,by have:=x.16;lia,by have:=x.17;lia⟩
noncomputable def fJ (s:bc):ah Bx:=s.names.filterMap (c5 s.bs)
noncomputable def Nd (s:bc):bc:=⟨fJ s,s.subs,s.nv⟩
inductive TP:Prop
 |mk (start:Inv 1 jd) (sf:∀{m s},m<=7->Inv m s->gR s) (akd:∀{m s d},m<=7->Inv m s->Drawn s d->d.ok s/\Rv 6 d.row/\(dg d.row).length<=10000) (step:∀{m s d},m<=6->Inv m s->Drawn s d->Inv (m+1) (uo s (fk s d))) (dat:∀{s d},Drawn s d->Dat 6 (Ec (fk s d))) (told:∀{s:bc},Dat 6 s.told) (names:∀{m s},Inv m s->s.names.map (c5 s.bs)=(fJ s).map ae/\(fJ s).Perm s.bs) (snap:∀{m s},m<=7->Inv m s->(∃v,fk jd (eu s)=ae (Nd s,v))/\(eu s).ok jd/\Rv 6 (eu s).row/\(dg (eu s).row).length<=900000) (akj:∀{m s},Inv m s->∃i r,((fJ s).filter λb=>b.name==("INBOX":ak))=i::r) (akc:∀{m s i r dd},m<=7->Inv m s->((fJ s).filter λb=>b.name==("INBOX":ak))=i::r->i7 s.nv s.subs (fJ s) ((fJ s).filter λb=>b.name !=("INBOX":ak)) i dd->∀s2,dd.ok s2/\fk s2 dd=none)
end
section
theorem TY {l:ah ak} {d:ar}:Dat (d+1) (.tup (l.map .str)):= .tup _ _ λa h=>by show aA (List.mem_map.mp h) λx J bC=>?_;exists bC.symm;show .str _ _
theorem abt {l:ah aq} {d:ar}:Dat (d+1) (.tup (l.map .int)):= .tup _ _ λa h=>by show aA (List.mem_map.mp h) λx J bW=>?_;exists bW.symm;show .int _ _
theorem Y_ {l:ah aq} {d:ar}:Dat (d+1) (.lst (l.map .int)):= .lst _ _ λa h=>by show aA (List.mem_map.mp h) λx J dD=>?_;exists dD.symm;show .int _ _
theorem fq (h:Dat d a) (k:∀b∈l,Dat d b):∀b∈a::l,Dat d b:=λb hb=>(List.mem_cons.mp hb).elim (λe=>e▸h) (k b)
theorem oQ:∀b∈([]:ah AV),Dat d b:=λb hb=>by show jl hb
theorem Ê {l:ah (aq×aq)}:∀a∈jV l,Dat (d+1) a:=λa h=>by
 show aA (List.mem_map.mp h) λp J d7=>?_;exists d7.symm;show .tup _ _ (fq (.int _ _) (fq (.int _ _) oQ))
theorem aau {x:Lt} {d:ar}:Dat (d+2) x.told:= .tup _ _ (fq (.int _ _) (fq (.bytes _ _) (fq TY (fq (.int _ _) (fq (.int _ _) oQ)))))
theorem afr {b:Bx} {d:ar}:Dat (d+4) b.told:= .tup _ _ (fq (.str _ _) (fq (.int _ _) (fq (.int _ _) (fq (.int _ _) (fq (.int _ _) (fq (.tup _ _ λa h=>by show aA (List.mem_map.mp h) λx J eM=>?_;rcases eM with rfl;show aau) (fq (.tup _ _ Ê) oQ)))))))
theorem aer {s:bc}:Dat 6 s.told:= .tup _ _ (fq (.int _ _) (fq TY (fq (.tup _ _ λa h=>by
 show aA (List.mem_map.mp h) λx J i9=>?_;exists i9.symm;unfold sP;generalize c5 _ _=r;induction r using eL with
 |none=>show .none _
 |some=>show afr) oQ)))
theorem agJ {r:aR (bc×AV)} (h:∀p,r=ae p->Dat 5 p.2):Dat 6 (Ec r):=by
 induction r using eL with
 |none=>show .tup _ _ (fq (.str _ _) (fq (.int _ _) oQ))
 |some p=>show .tup _ _ (fq (.str _ _) (fq (h p rfl) oQ))
theorem R_ {l:ah (ak×ak)}:Dat 5 (.lst (l.map jI)):= .lst _ _ λa h=>by
 show aA (List.mem_map.mp h) λp J jH=>?_;exists jH.symm;show .tup _ _ (fq (.str _ _) (fq (.str _ _) oQ))
def OD {α:Type} (P:α->Prop) (o:aR α):Prop:=∀p,o=ae p->P p
theorem OD.bind {α β:Type} {P:β->Prop} {o:aR α} {f:α->aR β} (k:∀a,OD P (f a)):OD P (o.bind f):=λp h=>aA (Option.bind_eq_some_iff.mp h) λa J h=>k a p h
theorem OD.map {α β:Type} {P:β->Prop} {o:aR α} {f:α->β} (k:∀a,P (f a)):OD P (o.map f):=λp h=>aA (Option.map_eq_some_iff.mp h) λa J h=>h▸k a
theorem OD.none {α:Type} {P:α->Prop}:OD P none:=λp h=>nomatch h
theorem OD.some {α:Type} {P:α->Prop} {a:α} (h:P a):OD P (ae a):=λp e=>bZ e▸h
theorem BW {α:Type} {P:α->Prop} {c:Prop} [vp c] {a b:α} (h1:P a) (h2:P b):P (if c then a else b):=(ajD c).elim (λq=>aa (bN q) h1) λq=>aa (bo q) h2
theorem OD.ite {α:Type} {P:α->Prop} {c:Prop} [vp c] {a b:aR α} (h1:OD P a) (h2:OD P b):OD P (if c then a else b):=BW h1 h2
theorem aeo (hd:Drawn s d):OD (λp=>Dat 5 p.2) (fk s d):=by
 have pr:∀{f:aq×aq->aq} {l:ah (aq×aq)},Dat 4 (.tup (l.map λx=> .int (f x))):= .tup _ _ λa h=>aA (List.mem_map.mp h) λx J e=>e▸.int _ _;cases hd with
 |create x v=>show .bind λf=> .ite .none (.ite (.some (Dat.int _ _)) .none)
 |delete x=>show .bind λf=> .ite .none (.some (Dat.int _ _))
 |rename x y=>show .bind λf=> .bind λg=> .ite .none (.ite (.ite (.some (R_ (l:=[("INBOX",g)]))) .none) (.map λps=>R_))
 |append x fl i oc=>show .bind λf=> .map λps=>Dat.tup _ _ (fq (.int _ _) (fq (.int _ _) oQ))
 |flags x u fl=>show .bind λf=> .bind λg=> .map λps=>BW (P:=λp:bc×AV=>Dat 5 p.2) (Dat.bool _ _) (Dat.bool _ _)
 |store x k way fl i=>show .bind λf=> .map λps=>Dat.tup _ _ (fq Y_ (fq (.lst _ _ λa h=>aA (List.mem_map.mp h) λx J e=>e▸.int _ _) oQ))
 |expunge x k=>show .map λf=>abt
 |copy x k y=>show .bind λf=> .bind λg=> .ite (OD.some (P:=λp:bc×AV=>Dat 5 p.2) (Dat.tup _ _ (fq (.int _ _) (fq (pr (f:=aj1)) (fq (pr (f:=aj2)) oQ))))) .none
 |move x k y=>show .bind λf=> .bind λg=> .ite (OD.some (P:=λp:bc×AV=>Dat 5 p.2) (Dat.tup _ _ (fq (.int _ _) (fq (pr (f:=aj1)) (fq (pr (f:=aj2)) oQ))))) .none
 |sub x=>show .map λf=>BW (P:=λp:bc×AV=>Dat 5 p.2) (Dat.bool _ _) (Dat.bool _ _)
 |unsub x=>show .ite (.some (Dat.bool _ _)) .none
 |forget x ms=>show .map λf=>BW (P:=λp:bc×AV=>Dat 5 p.2) (Dat.int _ _) (Dat.int _ _)
theorem agg {α β:Type} {f:α->aR β} {l:ah α} (h:∀x∈l,(f x).isSome=ai):l.map f=(l.filterMap f).map ae:=by
 induction l with
 |nil=>rfl
 |cons x l ih=>
  show bj (Option.isSome_iff_exists.mp (h x (.head _))) λy e=>?_;show aa dX (aa Bn (aa e (aa (ih λz hz=>h z (.tail _ hz)) rfl)))
theorem Jj (s:bc):s.names.Perm (s.bs.map (λx=>x.name)):=ke fZ _
theorem BJ (nd:(s.bs.map (λx=>x.name)).Nodup):s.names.map (c5 s.bs)=(fJ s).map ae/\(fJ s).Perm s.bs:=by
 show ⟨agg λx hx=>?_,?_⟩
 ·show aA (List.mem_map.mp ((Jj s).mem_iff.mp hx)) λb hb GI=>?_;exists GI.symm;exists qa nd hb;rfl
 ·show ((Jj s).filterMap (c5 s.bs)).trans (VW ?_);exists Lm
  have:∀l:ah Bx,(∀b∈l,c5 s.bs b.name=ae b)->l.filterMap (c5 s.bs∘λx=>x.name)=l:=λl=>by
   induction l with
   |nil=>show λJ=>rfl
   |cons b l ih=>
    intro h;have e:(c5 s.bs∘λx=>x.name) b=ae b:=h b (.head _);exists Bn;exists e;exists ih λc hc=>h c (.tail _ hc);rfl
  show this s.bs λb hb=>qa nd hb
theorem aeZ (i:Inv m s):∃b r,((fJ s).filter λb=>b.name==("INBOX":ak))=b::r:=by
 show aA i.3 λb hb e=>?_;have:b∈(fJ s).filter λb=>b.name==("INBOX":ak):=List.mem_filter.mpr ⟨(BJ i.1).2.mem_iff.mpr hb,by exists e;show kZ _⟩;cases q:(fJ s).filter λb=>b.name==("INBOX":ak) with
 |nil=>rw [q] at this;show jl this
 |cons c r=>show (jF c r rfl)
theorem YW (hm:m<=7) (i:Inv m s):gR s:=by
 show ⟨by have:=i.5;lia,λb hb=>?_,λb hb=>?_,λb hb x hx=>((i.4 b hb).6 x hx).6,by have:=i.9;lia,λx hx=>aK (i.8 x hx).2 ⋯⟩
 ·have x:=i.4 b hb;show (aP ⟨by have:=x.14;lia,x.5,λy hy=>?_,λy hy=>(x.6 y hy).5⟩ (by have:=x.15;lia) (by have:=x.2;lia));show v8 (nY (x.6 y hy).5) (x.6 y hy).6
 ·have x:=i.4 b hb;show (iT (by have:=x.14;lia) (by have:=x.16;lia) (by have:=x.17;lia) (λu hu=>?_));show aA (List.mem_map.mp hu) λy hy Hf=>?_;exists Hf.symm;show (x.6 y hy).2
theorem ē:Inv 1 jd:=by
 show ⟨by simp [jd],by simp [jd],(ao _ (.head _) rfl),λb hb=>?_,eY _,by decide,by decide,λx hx=>(by show jl hx),i0 _,.nil,.nil⟩;have:b=fQ "INBOX" 1:=by simpa [jd] using hb
 exists this;show ⟨⟨by decide+kernel,by decide+kernel⟩,by decide+kernel,by decide,by decide,.nil,λx hx=>(by show jl hx),.nil,.nil,λp hp=>(jl hp),by decide,by decide,by decide,by decide,by decide,by decide,by decide,by decide⟩
end
section
noncomputable abbrev e7 (x:ak):ah ar:=x.cps.toList
theorem sC (h:e7 x=e7 y):x=y:=by
 obtain ⟨a⟩:=x;obtain ⟨b⟩:=y;show bD Str.mk (Array.toList_inj.mp h)
theorem kF (x y:ak):e7 (x++y)=e7 x++e7 y:=Array.toList_append
noncomputable def tw (l:ah ar):ah ar:=l.takeWhile (λx=>x !=47)
noncomputable def dw (l:ah ar):ah ar:=l.dropWhile (λx=>x !=47)
theorem Ë {l:ah ar} {i:ar} (h:l[i]?=ae 47) (hn:∀k,k < i->l[k]?≠ae 47):tw l=l.take i/\dw l=l.drop i:=by
 induction l generalizing i with
 |nil=>show f5 h
 |cons k r ih=>
  induction i using AZ with
  |zero=>rw [show k=47 from bZ h];show ⟨List.takeWhile_cons_of_neg ⋯,List.dropWhile_cons_of_neg ⋯⟩
  |succ i=>
   have h1:(k !=47)=ai:=bne_iff_ne.mpr λe=>hn 0 (F8 _) (bD ae e);show aM (ih (i:=i) h λj hj=>hn (j+1) (Nat.succ_lt_succ hj)) λe1 e2=>⟨(LQ (p:=(λx=>x !=47)) h1).trans (bD (λx=>k::x) e1),(F9 (p:=(λx=>x !=47)) h1).trans e2⟩
theorem Ι (h:47∉l):tw l=l/\dw l=[]:=by
 induction l with
 |nil=>show ⟨rfl,rfl⟩
 |cons k r ih=>
  have h1:k≠47:=λe=>h (e▸.head _);obtain ⟨e1,e2⟩:=ih λm=>h (.tail _ m);unfold tw dw at*;exists LQ (by simp [h1]);exists F9 (by simp [h1]);exists e1;exists e2;show ⟨rfl,rfl⟩
theorem C5 (x:ak):e7 (jg x).1=tw (e7 x)/\e7 (jg x).2=dw (e7 x):=by
 rcases find_whole x ("/":ak) with ⟨h,hn⟩|⟨i,h,hi,hn⟩
 ·have e:=Ι λm=>by
   obtain ⟨j,hj⟩:=List.getElem?_of_mem m;show hn j ((V3 x 47 j).mpr hj)
  exists OK (by lia);exists e.1;exists e.2;show ⟨rfl,rfl⟩
 ·have hm:=(V3 x 47 i).mp hi;have e:=Ë hm λk hk e=>hn k hk ((V3 x 47 k).mpr e);have hl:i < x.length:=by have:=(List.getElem?_eq_some_iff.mp hm).1;show this
  unfold jg;exists h;exists e.1;exists e.2;constructor
  ·show (?_:e7 (qJ x none (ae (i:aq)))=_);exists (beq_iff_eq.mp (slice_closes_toL (j:=(i:aq)) (FD i) (by lia)));rfl
  ·show (?_:e7 (qJ x (ae (i:aq)) none)=_);exists (aj3 (i:=(i:aq)) (b:=(x.length:aq)) (by lia) (by lia) rfl);have:((x.length:aq) - (i:aq)).toNat=(x.cps.toList.drop i).length:=by exists Fy;exists jx;show Ll _ _
   simp only [e7,vL,this,Bl]
def Tl (t:ak):Prop:=e7 t=[]\/∃r,e7 t=47::r
theorem aeY (l:ah ar):dw l=[]\/∃r,dw l=47::r:=by
 induction l with
 |nil=>show .inl rfl
 |cons k r ih=>
  unfold dw at*;by_cases h:k=47
  ·exists h;show .inr ⟨r,rfl⟩
  ·exists F9 (by simp [h]);show ih
theorem PL (h:r=[]\/∃q,r=47::q):tw (l++r)=tw l/\dw (l++r)=dw l++r:=by
 induction l with
 |nil=>
  rcases h with rfl|⟨q,rfl⟩
  ·show ⟨rfl,rfl⟩
  ·show ⟨rfl,rfl⟩
 |cons k l ih=>
  unfold tw dw at*;by_cases h:k=47
  ·exists h;show ⟨rfl,rfl⟩
  ·exists ajO;exists LQ (by simp [h]);exists LQ (by simp [h]);exists F9 (by simp [h]);exists F9 (by simp [h]);exists ih.1;exists ih.2;show ⟨rfl,rfl⟩
theorem Nh (hz:dN z=z) (ht:Tl t):dN (z++t)=z++t:=by
 have a:=C5 (z++t);rw [kF] at a;have e1:(jg (z++t)).1=(jg z).1:=sC (by exists a.1;exists (PL ht).1;exists (C5 z).1;rfl);have e2:(jg (z++t)).2=(jg z).2++t:=sC (by exists a.2;exists (PL ht).2;rewrite [kF];exists (C5 z).2;rfl);cases q:(qL (jg z).1==("INBOX":ak)) with
 |true=>
  rw [D0 (aa e1 q),e2];rw [D0 q] at hz;show sC ?_;have:=bD e7 hz;rw [kF] at this
  rewrite [kF,kF,kF,<-gh];exists this;rfl
 |false=>show CV (aa e1 q)
theorem ab2 (x:ak):dN (dN x)=dN x:=by
 cases q:(qL (jg x).1==("INBOX":ak)) with
 |false=>exists CV q;show CV q
 |true=>
  exists D0 q;show Nh (by decide+kernel) ?_;have:=aeY (e7 x);have this:=((C5 x).2).symm▸this;show this
theorem Al (h:cT x=ae f):dN x=f:=by
 unfold cT at h;split at h <;> cases (h);rfl
theorem BR (h:cT x=ae f):cT f=ae f:=by
 have e:=Al h;unfold cT at h;split at h <;> (first|(injection h with ct;subst ct)|show f5 h);rename_i q;unfold cT;rewrite [ab2];exists bN q;rfl
theorem QP (h:cT f=ae f):dN f=f:=Al h
theorem aa6 (h:pf nm old=ai):∃t,nm=old++t/\mF nm old=t/\Tl t:=by
 have sl:∀t,nm=old++t->mF nm old=t:=λt e=>by
  show sC ?_;have hl:nm.length=old.length+t.length:=by exists e;rewrite [s6];rfl
  show (?_:e7 (qJ nm (ae (old.length:aq)) none)=_);exists (aj3 (i:=(old.length:aq)) (b:=(nm.length:aq)) (by lia) (by lia) rfl);have:((nm.length:aq) - (old.length:aq)).toNat=(e7 t).length:=by rewrite [e7];exists jx;show (?_:_=t.length);exists hl;show (Ll _ _).trans (ajQ ..)
  exists this
  have e2:nm.cps.toList.drop old.length=e7 t:=by
   have:=kF old t;rw [<-e] at this;show (?_:(e7 nm).drop _=_);rw [this,show old.length=(e7 old).length by rewrite [e7];exists jx;rfl,ajK]
  exists e2;show Bl
 rcases Bool.or_eq_true_iff.mp h with h|h
 ·have e:nm=old++("":ak):=(eq_of_beq h).trans (sC (by rewrite [kF];show (fW _).symm));show (bV ("") e (sl _ e) (.inl rfl))
 ·unfold Lp at h;rw [d9,vY] at h;have h2:=h.2;rw [StrLaws.subAt_eq] at h2;have h2:=eq_of_beq h2;rw [Ln] at h2
  have e:nm=old++⟨(47::(e7 nm).drop (old++("/":ak)).length).toArray⟩:=sC (by
   rewrite [kF]
   have h3:=List.take_append_drop (old++("/":ak)).length (e7 nm);rw [h2] at h3;have h4:(old++("/":ak)).cps.toList=e7 old++[47]:=kF old "/";rw [h4,gh] at h3;show h3.symm)
  show (bV _ e (sl _ e) (.inr ⟨_,rfl⟩))
theorem HT {new old:ak} (hn:dN new=new) {l:ah ak} {ps:ah (ak×ak)} (h:lO new old l=ae ps) (p:ak×ak) (hp:p∈ps):∃t,p.1=old++t/\p.2=new++t/\cT p.2=ae p.2/\Tl t:=by
 induction l generalizing ps with
 |nil=>show jl ((bZ h).symm▸hp:p∈[])
 |cons nm r ih=>
  cases hb:pf nm old with
  |false=>rw [HY hb] at h;show ih h hp
  |true=>
   obtain ⟨t,e1,e2,e3⟩:=aa6 hb;cases hs:cT (new++mF nm old) with
   |none=>rw [Jr hb hs] at h;show f5 h
   |some g=>
    rw [JH hb hs] at h;have eg:=Al hs;rw [e2] at eg;have key:∃t,(nm,g).1=old++t/\(nm,g).2=new++t/\cT (nm,g).2=ae (nm,g).2/\Tl t:=i_ t e1 (eg.symm.trans (Nh hn e3)) (BR hs) e3;show aA (Option.map_eq_some_iff.mp h) λqs e e'=>(List.mem_cons.mp (show p∈(nm,g)::qs from e'▸hp)).elim (λq=>by rw [q];show key) λhp=>ih e hp
theorem Qf {a s t:ak} (h:a++s=a++t):s=t:=sC (by
 have:=bD e7 h;rw [kF,kF] at this;show List.append_cancel_left this)
theorem Wo {s:bc} {new old:ak} {ps:ah (ak×ak)} (nd:(s.bs.map (λx=>x.name)).Nodup) (hn:dN new=new) (h:lO new old s.names=ae ps):(ps.map (λx=>x.2)).Nodup:=by
 have h1:(ps.map (λx=>x.1)).Nodup:=((Jj s).nodup_iff.mpr nd).sublist (Dx h);show List.pairwise_map.mpr ((List.pairwise_map.mp h1).imp_of_mem λ{a b} ha hb n e=>n ?_);obtain ⟨t,t1,t2,_⟩:=(HT hn h) a ha;obtain ⟨u,u1,u2,_⟩:=(HT hn h) b hb;rw [t2,u2] at e;exists t1;exists u1;exists Qf e;rfl
end
section
theorem uG (h:n < 2097152):(du n).length<=3:=by
 by_cases h1:n<=127
 ·exists rf h1;simp
 ·show aa (uM h1)<|aa cY ?_
  by_cases h2:n / 128<=127
  ·exists rf h2;simp
  ·show aa (uM h2)<|aa cY<|aa (rf (by lia)) ?_;simp
theorem L_:∀{l:ah ar},(∀c∈l,c<=1114111)->(gB l).length<=3*l.length
 |[],_=>eY _
 |c::l,h=>by
  exists Dl;exists cb;exists cY;have:=L_ λd hd=>h d (.tail _ hd);have:=uG (n:=c) (by have:=h c (.head _);lia);lia
inductive Rz (k B:ar) (a:AV):Prop
 |mk (rv:Rv k a) (sz:(c7 a).length<=B)
theorem Rz.le (h:Rz k B a) (l:B<=C):Rz k C a:=⟨h.1,aK h.2 l⟩
theorem Hn (h:i.natAbs<=1000000):Rz k 4 (.int i):=⟨.int _ _ (by lia),by
 simp only [mL,m9,mS,mq,cY];have:(kO i).toNat < 2097152:=iw (Me h) ⋯;have:=uG this;lia⟩
theorem oF (h0:0<=i) (h1:i<=B) (hB:B<=1000000):Rz k 4 (.int i):=Hn (Int.ofNat_le.mp (aa (ajY h0) (dH h1 hB)))
inductive tB (B:ar) (x:ak):Prop
 |mk (l:x.length<=B) (c:∀c∈e7 x,c<=1114111)
theorem sd (hB:B<=90000) (h:tB B x):Rz k (4+3*B) (.str x):=⟨.str _ _ h.2 (aK h.1 hB),by
 simp only [mL,m9,mS,mq,cY,cb];have h1:=uG (n:=x.length) (by have:=h.1;lia);have h2:=L_ h.2;have h3:(e7 x).length=x.length:=jx;have h4:=h.1;lia⟩
theorem P2 (h:b.length<=90000):Rz k (4+b.length) (.bytes b):=⟨.bytes _ _ h,by
 simp only [mL,m9,mS,mq,cY,cb];have h1:=uG (n:=b.length) (by lia);lia⟩
theorem tA (hl:l.length<=90000) (h:∀a∈l,Rz k B a):Rz (k+1) (4+l.length*B) (.tup l):=by
 show ⟨.tup _ _ (λa ha=>(h a ha).1) hl,?_⟩;simp only [mL,m9,mS,mq,cY,cb];have h1:=uG (n:=l.length) (by lia)
 have h2:∀m:ah AV,(∀a∈m,Rz k B a)->(iX m).length<=m.length*B:=λm=>by
  induction m with
  |nil=>show λJ=>i0 _
  |cons a m ih=>
   intro h;simp only [wW,xH,cb,cY];have:=(h a (.head _)).2;have:=ih λc hc=>h c (.tail _ hc);lia
 have:=h2 l h;lia
noncomputable def CQ (B:ar) (x:ak):aN:=ie x.length B && (e7 x).all λc=>ie c 1114111
theorem ue {l:ah ak} (h:l.all (CQ B)=ai):∀x∈l,tB B x:=λx hx=>by
 have:=List.all_eq_true.mp h x hx;simp only [CQ,d9,oq,FY] at this;show ⟨this.1,this.2⟩
theorem Js:∀x∈fT,tB 7 x:=ue (by decide+kernel)
theorem ı:∀x∈l_++th,tB 10 x:=ue (by decide+kernel)
theorem Qn:∀t∈uv k,t∈l_:=λt h=>by
 show aA (List.mem_map.mp h) λi hi bC=>aa bC.symm ?_;have hi:=List.mem_range.mp (List.mem_filter.mp hi).1;have:4 - i < l_.length:=by show (?_:4 - i < 5);omega
 exists qH this;show Lu this
theorem Iu (h:qj fl):(∀t∈fl,t∈l_++th)/\fl.length<=5:=by
 rcases h with rfl|⟨k,rfl⟩
 ·show ⟨λt h=>iy _ h,by decide⟩
 ·show ⟨λt h=>mm _ (Qn t h),?_⟩;unfold uv;rewrite [bp];show aK (lI ..) ⋯
theorem ab1:∀t∈l_++th,jP t:=by
 have:(l_++th).all (λt=>ie t.length 90000 && ie (tY t).length 90000)=ai:=by decide+kernel
 intro t ht;have h:=List.all_eq_true.mp this t ht;simp only [d9,FY] at h;show ⟨h.1,aK h.2 ⋯⟩
theorem HM (h:qj fl):gX fl:=⟨λt ht=>ab1 t ((Iu h).1 t ht),aK (Iu h).2 ⋯⟩
theorem afg (h:lM l acc=ae fl) (s:ak) (hs:s∈fl):s∈acc\/∃t∈l,i6 t=ae s:=by
 induction l generalizing acc with
 |nil=>show .inl (bZ h▸hs)
 |cons t r ih=>show aA (Option.bind_eq_some_iff.mp h) λf hf h=>(ih h).elim (λz=>(DO z).imp id λe:s=f=>ao t (.head _) (aa e hf)) λz=>aA z λu hu e=> .inr (ao u (.tail _ hu) e)
theorem CY (h:qj fl) (e:de fl=ae g):∀t∈g,t∈jw:=by
 rcases h with rfl|⟨k,rfl⟩
 ·have:de th=none:=by decide+kernel
  injection e
 ·show aA (Option.map_eq_some_iff.mp e) λacc ea bW=>aa bW.symm ?_;have key:l_.all (λt=>match i6 t with|some f=>jw.contains f|none=>au)=ai:=by decide+kernel
  intro t ht;rcases afg ea t ((ke fZ acc).mem_iff.mp ht) with h|⟨u,hu,e⟩
  ·cases h
  ·have:=List.all_eq_true.mp key u (Qn u hu);rw [e] at this;show List.contains_iff_mem.mp this
theorem H0 (h:qj fl):Rz (k+1) 200 (eF fl):=by
 have hm:=Iu h;show (tA (B:=34) (by rewrite [bp];lia) λa ha=>?_).le (by rewrite [bp];lia);show aA (List.mem_map.mp ha) λt ht dD=>?_;subst dD;show sd ⋯ (ı t (hm.1 t ht))
theorem En:(iA k).length<=4:=by unfold iA;rewrite [bp];show aK (lI ..) ⋯
theorem NL:∀u∈iA k,1<=u/\u<=4:=λu h=>by
 show aA (List.mem_map.mp h) λi hi d7=>(d7)▸?_;have hi:=List.mem_range.mp (List.mem_filter.mp hi).1;lia
theorem B2:Rz (k+1) 200 (xT (iA m)):=by
 have hl:=En (k:=m);show (tA (B:=4) (by rewrite [bp];lia) λa ha=>?_).le (by rewrite [bp];lia);show aA (List.mem_map.mp ha) λt ht eM=>aa eM.symm<|oF (dH ⋯ (NL t ht).1) (NL t ht).2 ⋯
theorem lh (h:x∈fT):Rz k 200 (.str x):=(sd ⋯ (Js x h)).le ⋯
theorem DT (h:i.natAbs<=1000000):Rz k 200 (.int i):=(Hn h).le ⋯
theorem fX (h:Rz k B a) (t:∀b∈l,Rz k B b):∀b∈a::l,Rz k B b:=λb hb=>(List.mem_cons.mp hb).elim (λe=>aa e h) (t b)
theorem nU:∀b∈([]:ah AV),Rz k B b:=λb hb=>by cases hb
theorem afq (d:cD):tB 11 d.word.1:=by
 have:(nN.map (λx=>x.1)).all (CQ 11)=ai:=by decide+kernel
 show ue this _ (List.mem_map.mpr (ao _ (O5 d) rfl))
theorem NY (h:(c7 v).length<=1000000):(dg v).length<=10+(c7 v).length:=by
 show aa cb<|aa cb<|aa s7 ?_
 have:=uG (n:=(c7 v).length) (by lia);lia
theorem vs5 (d:cD):d.vs.length<=5:=by induction d using cD.casesOn <;> (unfold cD.vs;simp)
theorem nJ {d:cD} (h:∀a∈d.vs.map (λx=>x.1),Rz 5 200 a):Rv 6 d.row/\(dg d.row).length<=10000:=by
 have hl:=vs5 d;have r:Rz 6 (4+(AV.str d.word.1::d.vs.map (λx=>x.1)).length*200) d.row:=tA (by simp only [cY,bp];lia) (fX ((sd ⋯ (afq d)).le ⋯) h);have:=r.2;simp only [cY,bp] at this;show ⟨r.1,aK (NY (by lia)) (by lia)⟩
theorem abj (hm:m<=7) (i:Inv m s) (hd:Drawn s d):d.ok s/\Rv 6 d.row/\(dg d.row).length<=10000:=by
 have n3:∀{x:ak},x∈fT->x.length<=30000:=λh=>aK (Js _ h).1 ⋯;have v0:=i.6;have v1:=i.7;have us:∀{k:aq},(iA k).length<=15:=aK En ⋯;cases hd with
 |create x v hx h0 h1=>show ⟨n3 hx,nJ (fX (lh hx) (fX ((oF (dH (dH (by decide:(0:aq)<=2 - 1) (V1 v0 1)) h0) (dH h1 (Int.add_le_add_right (dH v1 (LR (Int.ofNat_le.mpr hm) ⋯)) 3)) ⋯).le ⋯) nU))⟩
 |delete x hx=>show ⟨n3 hx,nJ (fX (lh hx) nU)⟩
 |rename x y hx hy=>
  show ⟨(aP (n3 hx) (n3 hy) (λb f ps J ef ep=>?_)),nJ (fX (lh hx) (fX (lh hy) nU))⟩;show aA (Option.bind_eq_some_iff.mp ep) λqs e h=>?_;split at h <;> (first|(injection h with et;subst et)|injection h);show Wo i.1 (QP (BR ef)) e
 |append x fl j oc hx hf hj ho=>show ⟨⟨n3 hx,HM hf⟩,nJ (fX (lh hx) (fX (H0 hf) (fX (DT (aK ‹_› ⋯)) (fX ((P2 (aK ‹_› ⋯)).le (by lia)) nU))))⟩
 |flags x u fl hx hf hu=>show ⟨⟨n3 hx,HM hf⟩,nJ (fX (lh hx) (fX (DT (aK ‹_› ⋯)) (fX (H0 hf) nU)))⟩
 |store x k way fl j hx hw hf hj=>
  show ⟨(f9 (n3 hx) us hw (HM hf) (λg e=>CY hf e)),nJ (fX (lh hx) (fX B2 (fX ?_ (fX (H0 hf) (fX (DT (aK ‹_› ⋯)) nU)))))⟩;have:(["+","-","="]:ah ak).all (CQ 1)=ai:=by decide+kernel
  show (sd ⋯ (ue this way (by rcases hw with rfl|rfl|rfl <;> simp))).le ⋯
 |expunge x k hx=>show ⟨⟨n3 hx,us⟩,nJ (fX (lh hx) (fX B2 nU))⟩
 |copy x k y hx hy=>show ⟨(aP (n3 hx) us (n3 hy)),nJ (fX (lh hx) (fX B2 (fX (lh hy) nU)))⟩
 |move x k y hx hy=>show ⟨(aP (n3 hx) us (n3 hy)),nJ (fX (lh hx) (fX B2 (fX (lh hy) nU)))⟩
 |sub x hx=>show ⟨n3 hx,nJ (fX (lh hx) nU)⟩
 |unsub x hx=>show ⟨n3 hx,nJ (fX (lh hx) nU)⟩
 |forget x ms hx h=>show ⟨n3 hx,nJ (fX (lh hx) (fX (DT (aK ‹_› ⋯)) nU))⟩
end
section
theorem i4 {c n m:ar} (h:n<=c*m):n<=c*(m+1):=aK h (Bp _ (kX m))
theorem rO {c x:aq} {m:ar} (h:x<=c*(m:aq)) (hc:0<=c):x<=c*((m+1:ar):aq):=dH h (LR (Int.ofNat_le.mpr (kX m)) hc)
theorem EB {c x k:aq} {m:ar} (h:x<=c*(m:aq)) (hc:k<=c):x+k<=c*((m+1:ar):aq):=by
 rewrite [Int.natCast_add,Int.mul_add];show Int.add_le_add h (dH hc (Int.le_of_eq (Ft c).symm))
theorem jS {x y k:aq} (h:x<=y) (hk:0<=k):x<=y+k:=dH h (ajM hk)
inductive iu (nv:aq) (b:Bx):Prop
 |mk (nm:u7 b.name) (v0:1<=b.val) (v1:b.val < nv) (gZ:(bT b.lts).Pairwise (λx y=>x < y)) (lt:∀x∈b.lts,xV b x) (ĺ:(b.lts.map (λx=>x.ms)).Nodup) (gs:(b.gone.map (λx=>x.2)).Pairwise (λx y=>x<=y)) (g:∀p∈b.gone,1<=p.1/\p.1 < b.nu/\p.1∉bT b.lts/\b.floor < p.2/\p.2<=b.top) (f0:0<=b.floor) (f1:b.floor<=b.top) (n1:1<=b.nu) (t1:1<=b.top)
inductive IM (m:ar) (b:Bx):Prop
 |mk (nl:b.name.length<=20*m) (ll:b.lts.length<=4*m) (gl:b.gone.length<=100*m) (tl:b.top<=100*(m:aq)) (ul:b.nu<=100*(m:aq))
theorem kf.s (x:kf m nv b):iu nv b:=⟨x.1,x.3,x.4,x.5,x.6,x.7,x.8,x.9,x.10,x.11,x.12,x.13⟩
theorem kf.z (x:kf m nv b):IM m b:=⟨x.2,x.14,x.15,x.16,x.17⟩
theorem iu.ok (x:iu nv b) (z:IM m b):kf m nv b:=⟨x.1,z.1,x.2,x.3,x.4,x.5,x.6,x.7,x.8,x.9,x.10,x.11,x.12,z.2,z.3,z.4,z.5⟩
theorem xV.up (h:xV b x) (n:b.nu<=b'.nu) (t:b.top<=b'.top):xV b' x:=⟨h.1,aj4 h.2 n,h.3,dH h.4 t,h.5,h.6,h.7,h.8⟩
theorem agd (h:x∈l):x.uid∈bT l:=List.mem_map.mpr (ao x h rfl)
theorem XF (hf:u7 f) (h0:1<=v) (h1:v < nv):iu nv (fQ f v):=
 ⟨hf,h0,h1,.nil,λx hx=>(by cases hx),.nil,.nil,λp hp=>(by cases hp),ig _,(by show (?_:(0:aq)<=1);decide),ig _,ig _⟩
theorem RI {nv:aq} {b:Bx} {oct:ah b_} {fl:ah ak} {inst:aq} (x:iu nv b) (hf:de fl=ae fl) (hu:∀t∈fl,t∈jw) (ho:oct.length<=2) (hi:inst.natAbs<=1000):iu nv (jU b oct fl inst):=by
 have t1:=x.12;have n1:=x.11;have e:bT (jU b oct fl inst).lts=bT b.lts++[b.nu]:=by unfold bT jU;exists dz;rfl
 have mem:∀y∈(jU b oct fl inst).lts,y∈b.lts\/y=⟨b.nu,oct,fl,inst,b.top+1⟩:=λy hy=>(List.mem_append.mp hy).imp id List.mem_singleton.mp;have lt:∀u∈bT b.lts,u < b.nu:=λu hu=>by show aA (List.mem_map.mp hu) λy hy bC=>?_;exists bC.symm;show (x.5 y hy).2
 show ⟨x.1,x.2,x.3,?_,λy hy=>?_,?_,x.7,λp hp=>?_,x.9,jS x.10 ⋯,jS x.11 ⋯,jS x.12 ⋯⟩
 ·exists e;rewrite [VX];show (aP x.4 (Lo ..) (λu hu v hv=>by exists List.mem_singleton.mp hv;show lt u hu))
 ·rcases mem y hy with h|rfl
  ·show (x.5 y h).up (jS (ig _) ⋯) (jS (ig _) ⋯)
  ·show ⟨n1,V4 _ ⋯,V5 x.12,ig _,hf,hu,ho,hi⟩
 ·exists dz;rewrite [tZ];show (aP x.6 (by simp) (λa ha c hc e=>?_));show aA (List.mem_map.mp ha) λy hy bW=>?_;exists bW;have:c=b.top+1:=by simpa using hc
  have:=(x.5 y hy).4;lia
 ·show jr (x.8 p hp) λg1 g2 g3 g4 g5=>(f9 g1 (LH g2 (V4 _ ⋯)) ?_ g4 (jS g5 ⋯));exists e;rewrite [ajE,VG];rintro (h|h)
  ·show g3 h
  ·lia
inductive M8 (x:Lt):Prop
 |mk (fs:de x.flags=ae x.flags) (fu:∀t∈x.flags,t∈jw) (oc:x.oct.length<=2) (ins:x.inst.natAbs<=1000)
theorem Sr {nv:aq} (ch:ah Lt) {b:Bx} (x:iu nv b) (h:∀x∈ch,M8 x):iu nv (gp b ch)/\(gp b ch).lts.length=b.lts.length+ch.length/\(gp b ch).top=b.top+ch.length/\(gp b ch).nu=b.nu+ch.length/\(gp b ch).gone=b.gone/\(gp b ch).floor=b.floor/\(gp b ch).val=b.val/\(gp b ch).name=b.name:=by
 induction ch generalizing b with
 |nil=>show z0 x rfl ((VY _).symm) ((VY _).symm) rfl rfl rfl rfl
 |cons y r ih=>
  have c:=h y (.head _);have e:∀z:aq,z+1+(r.length:aq)=z+((r.length+1:ar):aq):=λz=>(ajJ ..).trans (bD _ (Int.add_comm ..));show xp (ih (RI x c.1 c.2 c.3 c.4) λz hz=>h z (.tail _ hz)) λk1 k2 k3 k4 k5 k6 k7 k8=>z0 k1 (k2.trans ?_) (k3.trans (e _)) (k4.trans (e _)) k5 k6 k7 k8;show (bD (λx=>x+r.length) cb).trans (yi ..)
theorem M0 (h:y∈putL l u x):y=x\/(y∈l/\y.uid≠u):=by
 show aA (List.mem_map.mp h) λz hz e=>?_;split at e
 ·show .inl e.symm
 ·rename_i q;exists e.symm;show .inr ⟨hz,by simpa using q⟩
theorem agS {t u:aq} {x:Lt} (hx:x.ms=t+1) {l:ah Lt} (p:(bT l).Pairwise (λx y=>x < y)) (h:∀y∈l,y.ms<=t) (nd:(l.map (λx=>x.ms)).Nodup):((putL l u x).map (λx=>x.ms)).Nodup:=by
 induction l with
 |nil=>show .nil
 |cons a l ih=>
  have p':(a.uid::bT l).Pairwise (λx y=>x < y):=p;rw [dX,oA] at nd;show List.nodup_cons.mpr ⟨λhm=>?_,ih (LK p') (λy hy=>h y (.tail _ hy)) nd.2⟩;show aA (List.mem_map.mp hm) λy (hy:y∈putL l u x) e=>?_;have e:y.ms=(if (a.uid==u)=ai then x else a).ms:=e;by_cases q:(a.uid==u)=ai
  ·rw [bN q] at e;have no:∀z∈l,z.uid≠u:=λz hz e=>by have:=F5 p' (agd hz);have:=eq_of_beq q;lia
   rw [Tx no] at hy;have:=h y (.tail _ hy);lia
  ·replace e:=bo q▸e;rcases M0 hy with rfl|⟨hy,_⟩
   ·have:=h a (.head _);lia
   ·show nd.1 (e▸yk hy)
theorem R9 (h:h_ l u=ae x):x.uid=u:=eq_of_beq (VT (p:=λx:Lt=>x.uid==u) h)
theorem Pn {nv u:aq} {b:Bx} {y:Lt} {fl:ah ak} (x:iu nv b) (hy:h_ b.lts u=ae y) (hf:de fl=ae fl) (hu:∀t∈fl,t∈jw):iu nv (kR b u y fl):=by
 have ly:=x.5 y (uX hy);have t1:=x.12;have mem:∀z∈(kR b u y fl).lts,z=⟨u,y.oct,fl,y.inst,b.top+1⟩\/z∈b.lts:=λz hz=>(M0 hz).imp id And.left;show ⟨x.1,x.2,x.3,by exists Ej;show x.4,λz hz=>?_,agS rfl x.4 (λz hz=>(x.5 z hz).4) x.6,x.7,λp hp=>?_,x.9,jS x.10 ⋯,x.11,jS x.12 ⋯⟩
 ·rcases mem z hz with rfl|h
  ·show ⟨(R9 hy)▸ly.1,(R9 hy)▸ly.2,V5 x.12,ig _,hf,hu,ly.7,ly.8⟩
  ·show (x.5 z h).up (ig _) (jS (ig _) ⋯)
 ·show jr (x.8 p hp) λg1 g2 g3 g4 g5=>(f9 g1 g2 (aa Ej g3) g4 (jS g5 ⋯))
theorem CI (x:iu nv b):iu nv (j8 b us):=by
 have t1:=x.12;have f1:=x.10;have sub:(bT (j8 b us).lts).Sublist (bT b.lts):=(oB ..).map _;show ⟨x.1,x.2,x.3,x.4.sublist sub,λz hz=>?_,x.6.sublist ((oB ..).map _),?_,λp hp=>?_,x.9,jS x.10 ⋯,x.11,jS x.12 ⋯⟩
 ·show (x.5 z (List.mem_filter.mp hz).1).up (ig _) (jS (ig _) ⋯)
 ·exists dz;exists cZ;rewrite [VX];show (aP x.7 ?_ (λa ha c hc=>?_))
  ·show List.pairwise_map.mpr (List.pairwise_of_forall λJ J=>ig _)
  ·show aA (List.mem_map.mp ha) λp hp dD=>?_;exists dD.symm;show aA (List.mem_map.mp hc) λu hu d7=>?_;exists d7.symm;have:=(x.8 p hp).2.2.2.2;show (?_:p.2<=b.top+1);lia
 ·rcases List.mem_append.mp hp with h|h
  ·show jr (x.8 p h) λg1 g2 g3 g4 g5=>(f9 g1 g2 (λz=>g3 (sub.subset z)) g4 (jS g5 ⋯))
  ·show aA (List.mem_map.mp h) λu hu eM=>?_;show (eM)▸?_;show aM (List.mem_filter.mp hu) λh1 h2=>aA (List.mem_map.mp h1) λy hy i9=>?_;subst i9;show (f9 ((x.5 y hy).1) ((x.5 y hy).2) (λz=>?_) (V5 x.10) (ig _));show aA (List.mem_map.mp z) λv hv e=>?_;have hv:=(List.mem_filter.mp hv).2;rw [e] at hv;rw [lC,decide_eq_false_iff_not] at hv;show hv (fi h2)
theorem af1 (x:iu nv b) (h:decide (oR b ms<=b.floor)=au):iu nv (Ay b ms):=by
 have h:=ml h;have f0:=x.9;have bt:oR b ms<=b.top:=by unfold oR;split <;> lia
 show ⟨x.1,x.2,x.3,x.4,λz hz=>(x.5 z hz).up (ig _) (ig _),x.6,x.7.sublist ((oB ..).map _),λp hp=>?_,by show (?_:0<=oR b ms);lia,bt,x.11,x.12⟩;show aM (List.mem_filter.mp hp) λh1 h2=>jr (x.8 p h1) λg1 g2 g3 g4 g5=>(f9 g1 g2 g3 (fi h2) g5)
theorem afm (h:iu nv s.1) (ok:uP way g x) (hu:∀t∈jk x.flags way g,t∈jw):iu nv (ik un way g s x).1/\(ik un way g s x).1.lts.length=s.1.lts.length/\(ik un way g s x).1.top<=s.1.top+1/\(ik un way g s x).1.nu=s.1.nu/\(ik un way g s x).1.gone=s.1.gone/\(ik un way g s x).1.val=s.1.val/\(ik un way g s x).1.name=s.1.name:=
 Rk (P:=λz=>iu nv z.1/\z.1.lts.length=s.1.lts.length/\z.1.top<=s.1.top+1/\z.1.nu=s.1.nu/\z.1.gone=s.1.gone/\z.1.val=s.1.val/\z.1.name=s.1.name) (sg h rfl (jS (ig _) ⋯) rfl rfl rfl rfl)
  λy hy=>sg (Pn h hy ok.2 hu) (bp _) (ig _) rfl rfl rfl rfl
theorem aab (ch:ah Lt) (s:Bx×ah aq) (h:iu nv s.1) (ok:∀x∈ch,uP way g x/\∀t∈jk x.flags way g,t∈jw):
  iu nv (ch.foldl (ik un way g) s).1/\(ch.foldl (ik un way g) s).1.lts.length=s.1.lts.length/\(ch.foldl (ik un way g) s).1.top<=s.1.top+ch.length/\(ch.foldl (ik un way g) s).1.nu=s.1.nu/\(ch.foldl (ik un way g) s).1.gone=s.1.gone/\(ch.foldl (ik un way g) s).1.val=s.1.val/\(ch.foldl (ik un way g) s).1.name=s.1.name:=by
 induction ch generalizing s with
 |nil=>show sg h rfl (jS (ig _) ⋯) rfl rfl rfl rfl
 |cons x r ih=>
  show u9 (afm (un:=un) (s:=s) h (ok x (.head _)).1 (ok x (.head _)).2) λa1 a2 a3 a4 a5 a6 a7=>u9 (ih (ik un way g s x) a1 λy hy=>ok y (.tail _ hy)) λb1 b2 b3 b4 b5 b6 b7=>?_;show sg b1 (b2.trans a2) (dH b3 (by rewrite [cY];lia)) (b4.trans a4) (b5.trans a5) (b6.trans a6) (b7.trans a7)
end
section
set_option linter.unusedSectionVars false
theorem iu.up (x:iu nv b) (h:nv<=Io):iu Io b:=⟨x.1,x.2,aj4 x.3 h,x.4,x.5,x.6,x.7,x.8,x.9,x.10,x.11,x.12⟩
theorem wG (h:gu s f=au):∀b∈s.bs,b.name≠f:=λb hb e=>by
 unfold gu c5 at h;have:(s.bs.find? λb=>b.name==f).isSome=ai:=List.find?_isSome.mpr (ao b hb (aa e (kZ _)));injection (h).symm.trans this
theorem pR (i:Inv M s) (hb:b∈s.bs) (hn:b'.name=b.name) (hv:b'.val=b.val) (ok:kf M s.nv b'):Inv M (jT s b'):=by
 have e1:(ve s.bs b').map (λx=>x.name)=s.bs.map (λx=>x.name):=by
  exists cZ;show r_ λx J=>?_;show (?_:(if (x.name==b'.name)=ai then b' else x).name=x.name);split
  ·rename_i q;show (eq_of_beq q).symm
  ·rfl
 have e2:(ve s.bs b').map (λx=>x.val)=s.bs.map (λx=>x.val):=by
  exists cZ;show r_ λx hx=>?_;show (?_:(if (x.name==b'.name)=ai then b' else x).val=x.val);split
  ·rename_i q;have:x=b:=NN i.1 hx hb ((eq_of_beq q).trans hn);exists hv;exists this;rfl
  ·rfl
 show ⟨by exists e1;show i.1,by exists e2;show i.2,?_,λx hx=>?_,by show (?_:(Bc _ _).length<=M);rewrite [bp];show i.5,i.6,i.7,i.8,i.9,i.10,i.11⟩
 ·show aA i.3 λc hc e=>?_;have:c.name∈(ve s.bs b').map (λx=>x.name):=by exists e1;show List.mem_map.mpr (ao c hc rfl)
  show aA (List.mem_map.mp this) λd hd e'=>?_;show (ao d hd (e'.trans e))
 ·show aA (List.mem_map.mp hx) λy hy e=>?_;split at e
  ·subst e;show ok
  ·subst e;show i.4 y hy
theorem TF (hb:b∈s.bs) (hn:b.name≠b'.name):b∈(jT s b').bs:=List.mem_map.mpr (ao b hb (bo (by simpa using hn)))
theorem aaW (hb:b∈s.bs) (hn:b.name=b'.name):b'∈(jT s b').bs:=List.mem_map.mpr (ao b hb (bN (by simpa using hn)))
theorem T5 (i:Inv m s) (hn:∀c∈s.bs,c.name≠b.name) (hv:s.nv<=b.val) (ok:kf (m+1) nv b) (h0:s.nv<=nv) (h1:nv<=100*((m+1:ar):aq)):Inv (m+1) ⟨s.bs++[b],s.subs,nv⟩:=by
 have j:=i.mono;show ⟨?_,?_,?_,λx hx=>?_,by exists cb;have:=i.5;simp only [cY,jL];lia,by have:=i.6;show (?_:2<=nv);lia,h1,j.8,j.9,j.10,j.11⟩
 ·exists dz;rewrite [tZ]
  show (aP i.1 (by simp) (λa ha c hc e=>by
   show aA (List.mem_map.mp ha) λx hx bC=>?_;subst bC;show hn x hx (e.trans (by simpa using hc))))
 ·exists dz;rewrite [tZ]
  show (aP i.2 (by simp) (λa ha c hc e=>by
   show aA (List.mem_map.mp ha) λx hx bW=>?_;exists bW;have:c=b.val:=by simpa using hc
   have:=(i.4 x hx).4;lia))
 ·show aA i.3 λc hc e=>?_;show (ao c (mm _ hc) e)
 ·rcases List.mem_append.mp hx with h|h
  ·show ((j.4 x h).s.up h0).ok (j.4 x h).z
  ·exists List.mem_singleton.mp h;show ok
theorem BB (hx:x∈fT) (h:cT x=ae f):f.length<=12:=by
 exists (Al h).symm;have:=I5 (x:=x);have:=(Js x hx).1;lia
theorem n9:∀x∈fT.map dN,tB 12 x:=ue (by decide+kernel)
theorem By (hx:x∈fT) (h:cT x=ae f):u7 f:=⟨BR h,by exists (Al h).symm;show (n9 _ (List.mem_map.mpr (ao x hx rfl))).2⟩
theorem MO (hf:u7 f) (hl:f.length<=12) (h0:1<=v) (h1:v < nv):kf (m+1) nv (fQ f v):=
 (XF hf h0 h1).ok ⟨by show (?_:f.length<=_);lia,i0 _,i0 _,by show (?_:(1:aq)<=_);lia,by show (?_:(1:aq)<=_);lia⟩
theorem Rq (x:kf m nv b):∀y∈dA b us,M8 y:=λy hy=>by
 show aA (List.mem_filterMap.mp hy) λJ J e=>?_;have l:=x.6 y (uX e);show ⟨l.5,l.6,l.7,l.8⟩
section
variable {m:ar} {s:bc} (hm:m<=6) (i:Inv m s)
include hm i
theorem Z4 (hx:x∈fT) (h1:v<=s.nv+3):∀p,qx s x v=ae p->Inv (m+1) p.1:=by
 intro p h;show aA (Option.bind_eq_some_iff.mp (show (cT x).bind _=_ from h)) λf ef h=>?_;split at h;show f5 h;rename_i q;split at h <;> (first|(injection h with ct;subst ct)|injection h);rename_i q2;have vr:s.nv<=v:=fi (Bool.and_eq_true_iff.mp q2).1;have a0:=i.6;have a1:=i.7;have q:gu s f=au:=by simpa using q
 show T5 i (wG q) vr (MO (By hx ef) (BB hx ef) (by lia) (by lia)) (by lia) (by lia)
theorem ģ:∀p,wo s x=ae p->Inv (m+1) p.1:=by
 intro p h;show aA (Option.bind_eq_some_iff.mp (show (c5 _ _).bind _=_ from h)) λb eb h=>?_;split at h <;> (first|(injection h with et;subst et)|show f5 h);rename_i q;have j:=i.mono;show ⟨j.1.sublist ((oB ..).map _),j.2.sublist ((oB ..).map _),?_,λx hx=>j.4 x (List.mem_filter.mp hx).1,aK (lI ..) j.5,j.6,j.7,j.8,j.9,j.10,j.11⟩;show aA i.3 λc hc e=>?_;show (ao c (List.mem_filter.mpr ⟨hc,lJ λz=>q (by exists z.symm;exists e;rfl)⟩) e)
theorem XN (hf:qj fl) (hj:j.natAbs<=1000) (ho:oc.length<=2):∀p,wa s x fl j oc=ae p->Inv (m+1) p.1:=by
 intro p h;show aA (Option.bind_eq_some_iff.mp (show (c5 _ _).bind _=_ from h)) λb eb h=>?_;show aA (Option.map_eq_some_iff.mp h) λg eg dD=>?_;exists dD.symm;have hb:=(qi eb).1;have z:=(i.4 b hb).z;show pR i.mono hb rfl rfl ((RI (i.4 b hb).s (nY eg).flags (CY hf eg) ho hj).ok ⟨i4 z.1,?_,i4 z.3,EB z.4 ⋯,EB z.5 ⋯⟩);exists cb;have:=z.2;simp only [cY,jL];lia
theorem abu (hf:qj fl):∀p,uT s x u fl=ae p->Inv (m+1) p.1:=by
 intro p h;show aA (Option.bind_eq_some_iff.mp (show (c5 _ _).bind _=_ from h)) λb eb h=>?_;show aA (Option.bind_eq_some_iff.mp h) λg eg h=>?_;show aA (Option.map_eq_some_iff.mp h) λy ey d7=>?_;exists d7.symm;split
 ·show i.mono
 ·have hb:=(qi eb).1;have z:=(i.4 b hb).z;show pR i.mono hb rfl rfl ((Pn (i.4 b hb).s ey (nY eg).flags (CY hf eg)).ok ⟨i4 z.1,?_,i4 z.3,EB z.4 ⋯,rO z.5 ⋯⟩);show (?_:(Bc _ _).length<=_);rewrite [bp];have:=z.2;lia
theorem abq {x way:ak} {k j:aq} {fl:ah ak} (hf:qj fl) (hw:way="+"\/way="-"\/way="="):∀p,wQ s x (iA k) way fl j=ae p->Inv (m+1) p.1:=by
 intro p h;show aA (Option.bind_eq_some_iff.mp (show (c5 _ _).bind _=_ from h)) λb eb h=>?_;show aA (Option.map_eq_some_iff.mp h) λg eg eM=>?_;exists eM.symm;have hb:=(qi eb).1;have x:=i.4 b hb;have z:=x.z;have hc:(nP b (iA k)).length<=4:=aK (VQ ..) (aK (iL (qk _)) (aK (pS _) En))
 obtain ⟨a1,a2,a3,a4,a5,a6,a7⟩:=aab (nP b (iA k)) (b,[]) x.s λy hy=>by
  show aA (List.mem_filterMap.mp hy) λJ J e=>?_;have l:=x.6 y (uX e);show ND l.5 l.6 (nY eg).flags (CY hf eg) hw
 simp only at a2 a3 a4 a5 a6 a7;show pR i.mono hb a7 a6 (a1.ok ⟨by exists a7;show i4 z.1,by exists a2;show i4 z.2,by exists a5;show i4 z.3,by have:=z.4;lia,by exists a4;show rO z.5 ⋯⟩)
theorem CG (h1:b.name.length<=20*(m+1)) (h2:b.lts.length<=4*(m+1)) (h3:b.gone.length<=100*m) (h4:b.top<=100*(m:aq)+50) (h5:b.nu<=100*((m+1:ar):aq)):IM (m+1) (j8 b us):=by
 have ht:(lk b us).length<=b.lts.length:=aK (lI ..) (by rewrite [bT,bp];show eY _);show ⟨h1,aK (lI ..) h2,?_,by show (?_:b.top+1<=_);lia,h5⟩;exists cb;rewrite [bp];lia
theorem Ē:∀p,kI s x us=ae p->Inv (m+1) p.1:=by
 intro p h;show aA (Option.map_eq_some_iff.mp (show (c5 _ _).map _=_ from h)) λb eb i9=>?_;exists i9.symm;have hb:=(qi eb).1;have z:=(i.4 b hb).z;show (?_:Inv (m+1) (qp s b us));unfold qp;split
 ·show i.mono
 ·show pR i.mono hb rfl rfl ((CI (i.4 b hb).s).ok (CG hm i (i4 z.1) (i4 z.2) z.3 (by have:=z.4;lia) (rO z.5 ⋯)))
theorem Ue:∀p,rx s x (iA k) y mv=ae p->Inv (m+1) p.1:=by
 intro p h;show aA (Option.bind_eq_some_iff.mp (show (c5 _ _).bind _=_ from h)) λb eb h=>?_;show aA (Option.bind_eq_some_iff.mp h) λg eg h=>?_;split at h <;> (first|(injection h with eR;subst eR)|show f5 h);have hb:=(qi eb).1;have hg:=(qi eg).1;have x:=i.4 b hb;have z:=x.z;have u:=(i.4 g hg).z;have hc:(dA b (sortI (cM (iA k)))).length<=4:=aK z7 (aK (iL (qk _)) (aK (pS _) En));show xp (Sr (dA b (sortI (cM (iA k)))) (i.4 g hg).s (Rq x)) λa1 a2 a3 a4 a5 a6 a7 a8=>?_;have j1:Inv (m+1) (jT s (gp g (dA b (sortI (cM (iA k)))))):=pR i.mono hg a8 a7 (a1.ok ⟨by exists a8;show i4 u.1,by have:=u.2;exists a2;lia,by exists a5;show i4 u.3,by have:=u.4;lia,by have:=u.5;lia⟩);show (?_:Inv (m+1) (rz s b g _ mv));unfold rz;split
 ·unfold qp;split
  ·show j1
  ·unfold pe;split
   ·rename_i q;show pR j1 (aaW hg (by exists a8;rfl)) rfl rfl ((CI a1).ok (CG hm i (aa a8 (i4 u.1)) (by have:=u.2;exists a2;lia) (aa a5 u.3) (by have:=u.4;lia) (by have:=u.5;lia)))
   ·rename_i q;show pR j1 (TF hb (by exists a8;simpa using q)) rfl rfl ((CI x.s).ok (CG hm i (i4 z.1) (i4 z.2) z.3 (by have:=z.4;lia) (rO z.5 ⋯)))
 ·show j1
theorem Yt:∀p,xN s x ms=ae p->Inv (m+1) p.1:=by
 intro p h;show aA (Option.map_eq_some_iff.mp (show (c5 _ _).map _=_ from h)) λb eb jH=>?_;exists jH.symm;split
 ·show i.mono
 ·rename_i q;have hb:=(qi eb).1;have z:=(i.4 b hb).z;show pR i.mono hb rfl rfl ((af1 (i.4 b hb).s (by simpa using q)).ok ⟨i4 z.1,i4 z.2,aK (lI ..) (i4 z.3),rO z.4 ⋯,rO z.5 ⋯⟩)
theorem X8 (hx:x∈fT):∀p,wc s x=ae p->Inv (m+1) p.1:=by
 intro p h;show aA (Option.map_eq_some_iff.mp (show (cT _).map _=_ from h)) λf ef mI=>?_;exists mI.symm;have j:=i.mono;split
 ·show j
 ·rename_i q;have pm:(iq (s.subs++[f])).Perm (s.subs++[f]):=ke fZ _;show ⟨j.1,j.2,j.3,j.4,j.5,j.6,j.7,λy hy=>?_,?_,tj xW uO _,?_⟩
  ·rcases List.mem_append.mp (pm.mem_iff.mp hy) with h|h
   ·show i.8 y h
   ·exists List.mem_singleton.mp h;show ⟨By hx ef,aK (BB hx ef) ⋯⟩
  ·exists pm.length_eq;exists cb;have:=i.9;simp only [cY,jL];lia
  ·show pm.nodup_iff.mpr (List.nodup_append.mpr (aP i.11 (by simp) (λa ha c hc e=>q ?_)));rw [List.mem_singleton.mp hc] at e;exists e.symm;simpa using ha
theorem ŉ:∀p,Jw s x=ae p->Inv (m+1) p.1:=by
 intro p h;have h:(if _ then _ else _)=ae p:=h;split at h <;> (first|(injection h with fD;subst fD)|show f5 h);have j:=i.mono;show ⟨j.1,j.2,j.3,j.4,j.5,j.6,j.7,λy hy=>j.8 y (List.mem_filter.mp hy).1,aK (lI ..) j.9,j.10.sublist (oB ..),j.11.sublist (oB ..)⟩
end
end
section
set_option linter.unusedSectionVars false
theorem aaN {l:ah (ak×ak)} (h:l.lookup x=ae g):(x,g)∈l:=Cw h
theorem zg (ps:ah (ak×ak)) (b:Bx):lQ ps b=b\/∃g,(b.name,g)∈ps/\lQ ps b={b with name:=g}:=by
 unfold lQ;generalize h:ps.lookup b.name=r;induction r using eL with
 |none=>show .inl rfl
 |some g=>show .inr (ao g (aaN h) rfl)
theorem ż (x:kf m nv b) (hg:u7 g) (hl:g.length<=b.name.length+12):kf (m+1) nv {b with name:=g}:=by
 have z:=x.z;show ⟨hg,by show (?_:g.length<=_);have:=z.1;lia,x.3,x.4,x.5,λy hy=>(x.6 y hy).up (ig _) (ig _),x.7,x.8,x.9,x.10,x.11,x.12,x.13,i4 z.2,i4 z.3,rO z.4 ⋯,rO z.5 ⋯⟩
theorem aeH {ps:ah (ak×ak)} (hn:dN new=new) (h:mQ s old new=ae ps):(∀p∈ps,∃t,p.1=old++t/\p.2=new++t/\cT p.2=ae p.2/\Tl t)/\∀p∈ps,gu s p.2=au:=by
 show aA (Option.bind_eq_some_iff.mp h) λqs e h=>?_;split at h
 ·show f5 h
 rename_i hh;injection h with et;exists et.symm
 show ⟨HT hn e,λp hp=>by cases q:gu s p.2 with
  |false=>rfl
  |true=>show cy (List.any_eq_true.mpr (ao p hp q)) hh⟩
theorem acv {ps:ah (ak×ak)} (i:Inv m s) (hp:∀p∈ps,∃t,p.1=old++t/\p.2=new++t/\cT p.2=ae p.2/\Tl t) (hh:∀p∈ps,gu s p.2=au) (ha:a∈s.bs) (hb:b∈s.bs) (n:a.name≠b.name):(lQ ps a).name≠(lQ ps b).name:=by
 intro e;rcases zg ps a with h1|⟨g,g1,h1⟩ <;> rcases zg ps b with h2|⟨k,k1,h2⟩ <;> rw [h1,h2] at e
 ·show n e
 ·show wG (hh _ k1) a ha e
 ·show wG (hh _ g1) b hb e.symm
 ·have e:g=k:=e;show cR (hp _ g1) λt t1 t2 J=>?_;show cR (hp _ k1) λu u1 u2 J=>?_;show n (t1.trans (Eq.trans ?_ u1.symm));exists Qf (t2.symm.trans (e.trans u2));rfl
theorem YB (ps:ah (ak×ak)) (b:Bx):(lQ ps b).val=b.val:=by
 rcases zg ps b with h|⟨g,_,h⟩ <;> (exists h;rfl)
theorem aeJ {ps:ah (ak×ak)} (i:Inv m s) (hy:y∈fT) (ef:cT y=ae f) (hb:b∈s.bs) (q:(b.name==("INBOX":ak))=au) (h:mQ s b.name f=ae ps):Inv (m+1) (uw s ps):=by
 have j:=i.mono;show aM (aeH (QP (BR ef)) h) λhp hh=>?_;show ⟨?_,?_,?_,λx hx=>?_,by show (?_:(Bc _ _).length<=_);rewrite [bp];show j.5,j.6,j.7,j.8,j.9,j.10,j.11⟩
 ·exists cZ;show List.pairwise_map.mpr ((List.pairwise_map.mp i.1).imp_of_mem λha hb n=>acv i hp hh ha hb n)
 ·exists cZ;have:(Bx.val∘lQ ps)=Bx.val:=funext λb=>YB ps b;exists this;show i.2
 ·show aA i.3 λc hc e=>?_;show (ao (lQ ps c) (List.mem_map.mpr (ao c hc rfl)) ?_);rcases zg ps c with h1|⟨g,g1,h1⟩
  ·exists h1;show e
  ·show eO (hp _ g1) λt t1 J J t4=>?_;have t1:c.name=b.name++t:=t1;have t1:=e▸t1;exfalso;rcases t4 with z|⟨r,z⟩
   ·have:b.name=("INBOX":ak):=sC (by exists t1;rewrite [kF];exists z;show (fW _).symm);have q:=this▸q;show mA q
   ·have:47∈e7 ("INBOX":ak):=by exists t1;rewrite [kF];exists z;show iy _ (.head _)
    revert this;decide
 ·show aA (List.mem_map.mp hx) λc hc bC=>?_;exists bC.symm;rcases zg ps c with h1|⟨g,g1,h1⟩
  ·exists h1;show j.4 c hc
  ·exists h1;show eO (hp _ g1) λt t1 t2 t3 J=>?_;have t1:c.name=b.name++t:=t1;have t2:g=f++t:=t2;show ż (i.4 c hc) ⟨t3,λd hd=>?_⟩ ?_
   ·have hd:d∈e7 f++e7 t:=by rewrite [<-kF];exists t2.symm;show hd
    rcases List.mem_append.mp hd with hd|hd
    ·show (By hy ef).2 d hd
    ·show (i.4 c hc).1.2 d (show d∈e7 c.name by exists t1;rewrite [kF];show iy _ hd)
   have l1:c.name.length=b.name.length+t.length:=by exists (show c.name=_ from t1);rewrite [s6];rfl
   have l2:g.length=f.length+t.length:=by exists (show g=_ from t2);rewrite [s6];rfl
   have:=BB hy ef;lia
theorem aaK (hm:m<=6) (i:Inv m s) (hy:y∈fT):∀p,n8 s x y=ae p->Inv (m+1) p.1:=by
 intro p h;show aA (Option.bind_eq_some_iff.mp (show (c5 _ _).bind _=_ from h)) λb eb h=>?_;show aA (Option.bind_eq_some_iff.mp h) λf ef h=>?_;have hb:=(qi eb).1;split at h;show f5 h;rename_i qf;have qf:gu s f=au:=by simpa using qf
 split at h
 ·split at h <;> (first|(injection h with eR;subst eR)|injection h);have Wt:=i.6;have Xo:=i.7;have nw:kf (m+1) (s.nv+1) (fQ f s.nv):=MO (By hy ef) (BB hy ef) (dH ⋯ i.6) (V4 _ ⋯);have j:Inv (m+1) ⟨s.bs++[fQ f s.nv],s.subs,s.nv+1⟩:=T5 i (wG qf) (ig _) nw (jS (ig _) ⋯) (EB i.7 ⋯);have x:=i.4 b hb;have z:=x.z;have hc:(dA b (bT b.lts)).length<=4*m:=aK z7 (by rewrite [bT,bp];show z.2);show xp (Sr (dA b (bT b.lts)) nw.s (Rq x)) λa1 a2 a3 a4 a5 a6 a7 a8=>?_
  have j1:Inv (m+1) (jT ⟨s.bs++[fQ f s.nv],s.subs,s.nv+1⟩ (gp (fQ f s.nv) (dA b (bT b.lts)))):=by
   show pR j (iy _ (.head _)) a8 a7 (a1.ok ⟨?_,?_,?_,?_,?_⟩)
   ·exists a8;show nw.2
   ·exists a2;show (?_:0+_<=_);lia
   ·exists a5;show i0 _
   ·exists a3;show (?_:(1:aq)+_<=_);lia
   ·exists a4;show (?_:(1:aq)+_<=_);lia
  show (?_:Inv (m+1) (yS s b f));unfold yS rz;exists bN rfl;have em:pe b (fQ f s.nv) (dA b (bT b.lts))=b:=bo (by simpa using (show b.name≠(fQ f s.nv).name from (wG qf) b hb));exists em;unfold qp;split
  ·show j1
  ·show pR j1 (TF (mm _ hb) (aa a8 ((wG qf) b hb))) rfl rfl ((CI (x.s.up (jS (ig _) ⋯:s.nv<=s.nv+1))).ok ?_);show CG hm i (i4 z.1) (i4 z.2) z.3 (by have:=z.4;lia) (rO z.5 ⋯)
 ·rename_i q;show aA (Option.map_eq_some_iff.mp h) λps e bW=>?_;exists bW.symm;show aeJ i hy ef hb (by simpa using q) e
theorem ahD {r:aR (bc×AV)} (i:Inv m s) (h:∀p,r=ae p->Inv (m+1) p.1):Inv (m+1) (uo s r):=by
 induction r using eL with
 |none=>show i.mono
 |some p=>show h p rfl
theorem Xg (hm:m<=6) (i:Inv m s) (hd:Drawn s d):Inv (m+1) (uo s (fk s d)):=by
 show ahD i ?_;cases hd with
 |create x v hx h0 h1=>show Z4 hm i hx h1
 |delete x hx=>show ģ hm i
 |rename x y hx hy=>show aaK hm i hy
 |append x fl j oc hx hf hi ho=>show XN hm i hf hi ho
 |flags x u fl hx hf hu=>show abu hm i hf
 |store x k way fl j hx hw hf hi=>show abq hm i hf hw
 |expunge x k hx=>show Ē hm i
 |copy x k y hx hy=>show Ue hm i
 |move x k y hx hy=>show Ue hm i
 |sub x hx=>show X8 hm i hx
 |unsub x hx=>show ŉ hm i
 |forget x ms hx h=>show Yt hm i
end
section
set_option linter.unusedSectionVars false
theorem acU (h:l.Pairwise (λx y=>x < y)):sortI l=l:=(NS (.refl l) (h.imp λh=>mZ h)).symm
theorem agp {K:Type} [ji K] {l ks:ah K} (h:(ks++l).Nodup):l.foldl h9 ks=ks++l:=by
 induction l generalizing ks with
 |nil=>show (fW _).symm
 |cons a l ih=>
  have e:ks++a::l=(ks++[a])++l:=(gh ks [a] l).symm;have n:a∉ks:=λm=>(List.nodup_append.mp h).2.2 a m a (.head _) rfl;show aa yB (aa (show h9 ks a=ks++[a] from bo n) (aa e (ih (e▸h))))
theorem QE {K:Type} [ji K] {l:ah K} (h:l.Nodup):cM l=l:=agp h
theorem Q5 {α:Type} {l:ah α} {p:α->aN} (h:∀x∈l,p x=au):(l.filter p).isEmpty=ai:=by
 rewrite [ajv,aju];intro x hx;exists h x hx;show jJ
theorem cS (h:a=ai) (k:b=ai):(a && b)=ai:=by subst h;show k
theorem Th (h:a=au):(!a)=ai:=by subst h;rfl
theorem IF {lo hi x:aq} (h:lo<=x) (k:x < hi):te lo hi x=ai:=cS (lJ h) (lJ k)
theorem aeQ {lo hi x:aq} (h:lo < x) (k:x<=hi):zd lo hi x=ai:=cS (lJ h) (lJ k)
theorem GC {lo hi x:aq} (h:lo<=x) (k:x<=hi):tI lo hi x=ai:=cS (lJ h) (lJ k)
theorem Si {K:Type} [ji K] {l:ah K} (h:l.Nodup):(!(((cM l).length:aq) !=(l.length:aq)))=ai:=by exists QE h;simp
theorem ļ {b:Bx} {r:ah (aq×aq)} {last:aq} (h:(r.map (λx=>x.2)).Pairwise (λx y=>x<=y)) (l:∀p∈r,last<=p.2) (g:∀p∈r,1<=p.1/\p.1 < b.nu/\p.1∉bT b.lts/\b.floor < p.2/\p.2<=b.top):qO b r last=ai:=by
 induction r generalizing last with
 |nil=>rfl
 |cons p r ih=>
  show jr (g p (.head _)) λg1 g2 g3 g4 g5=>?_;have h':(p.2::r.map (λx=>x.2)).Pairwise (λx y=>x<=y):=h;show cS (IF g1 g2) (cS (Th ?_) (cS (GC (l p (.head _)) g5) (cS (Th (ow (by lia))) (ih (LK h') (λq hq=>F5 h' (yk hq)) λq hq=>g q (.tail _ hq)))));cases q:(bT b.lts).contains p.1 with
  |false=>rfl
  |true=>show cy (List.contains_iff_mem.mp q) g3
theorem κ (x:iu nv b):nj b=ai:=by
 have nd:(bT b.lts).Nodup:=x.4.imp λh=>F6 h;show cS (aa (acU x.4) (kZ _)) (cS (Si nd) (cS (Q5 λu hu=>?_) (cS (Si x.6) (cS (Q5 λu hu=>?_) (cS (ļ x.7 (λp hp=>?_) x.8) (GC x.9 x.10))))))
 ·show aA (List.mem_map.mp hu) λy hy bC=>?_;exists bC.symm;exists IF (x.5 y hy).1 (x.5 y hy).2;rfl
 ·show aA (List.mem_map.mp hu) λy hy bW=>?_;exists bW.symm;exists aeQ (x.5 y hy).3 (x.5 y hy).4;rfl
 ·have:=(x.8 p hp).2.2.2.1;lia
theorem aft (x:iu nv b):iE b nv=ai:=
 cS (aa x.1.1 (kZ _)) (cS (IF x.2 x.3) (cS (κ x) (List.all_eq_true.mpr λy hy=>by exists (x.5 y hy).5;show kZ _)))
theorem adP (h:∀c∈l,c.name≠b.name) (k:∀c∈l,c.val≠b.val):o7 l b=au:=by
 unfold o7
 rewrite [Fh]
 constructor
 ·rewrite [UO];intro c hc;simpa using h c hc
 ·rewrite [UO];intro c hc;simpa using k c hc
theorem Ζ {nv:aq} {l acc:ah Bx} (h:∀b∈l,iE b nv=ai) (n:((acc++l).map (λx=>x.name)).Nodup) (v:((acc++l).map (λx=>x.val)).Nodup):iM nv (l.map ae) acc=ae (acc++l):=by
 induction l generalizing acc with
 |nil=>show bD ae (fW _).symm
 |cons b l ih=>
  have e:acc++b::l=(acc++[b])++l:=(gh acc [b] l).symm;have n1:∀c∈acc,c.name≠b.name:=λc hc=>(List.pairwise_append.mp (List.pairwise_map.mp n)).2.2 c hc b (.head _);have v1:∀c∈acc,c.val≠b.val:=λc hc=>(List.pairwise_append.mp (List.pairwise_map.mp v)).2.2 c hc b (.head _);show (?_:(if iE b nv then (if o7 acc b then none else iM nv (l.map ae) (acc++[b])) else none)=_)
  rewrite [bN (h b (.head _)),adP n1 v1,e]
  show ih (λc hc=>h c (.tail _ hc)) (e▸n) (e▸v)
theorem abK (i:Inv m s):pQ s.subs=ai:=by
 have e:Ae s.subs=ae s.subs:=by
  rw [P9 λx hx=>by exists (i.8 x hx).1.1;rfl];show bD ae (Eq.trans (r_ λx hx=>?_) (Bo _));exists (i.8 x hx).1.1;rfl
 unfold pQ;exists e;show (?_:(iq (cM s.subs)==s.subs)=ai);exists QE i.11;exists SS i.10;show kZ _
inductive Cm (k B:ar) (l:ah AV):Prop
 |mk (rv:∀a∈l,Rv k a) (sz:(iX l).length<=B)
theorem DI:Cm k 0 []:=⟨λa h=>(by cases h),by simp [wW,xH]⟩
theorem j0 (h:Rz k B a) (t:Cm k C l):Cm k (B+C) (a::l):=
 ⟨λb hb=>(List.mem_cons.mp hb).elim (λe=>e▸h.1) (t.1 b),by simp only [wW,xH,cb];show tP h.2 t.2⟩
theorem D8 (hl:l.length<=90000) (h:Cm k B l):Rz (k+1) (4+B) (.tup l):=⟨.tup _ _ h.1 hl,by
 simp only [mL,m9,mS,mq,cY,cb];have h1:=uG (n:=l.length) (by lia);have:=h.2;lia⟩
theorem ā:∀x∈jw,tB 10 x:=ue (by decide+kernel)
theorem Λ (h:xV b x) (hu:b.nu<=1000) (ht:b.top<=1000):Rz (k+2) 300 x.told:=by
 have c:=Ru (nY h.5).2 h.6;have c:x.flags.length<=5:=aK c ⋯
 have f:Rz (k+1) (4+(x.flags.map AV.str).length*34) (eF x.flags):=tA (by rewrite [bp];lia) λa ha=>by
  show aA (List.mem_map.mp ha) λt q dD=>?_;exists dD.symm;show sd ⋯ (ā t (h.6 t q))
 have:=h.7;show (D8 (dY ..) (j0 (oF (dH ⋯ h.1) (dH (mZ h.2) hu) ⋯) (j0 (P2 (aK h.7 ⋯)) (j0 f (j0 (Hn (aK h.8 ⋯)) (j0 (oF (dH ⋯ (mZ h.3)) (dH h.4 ht) ⋯) DI)))))).le (by rewrite [bp];lia)
theorem WC (hm:m<=7) (hv:nv<=1000) (x:kf m nv b):Rz (k+4) 20000 b.told:=by
 have hB:(100*m:aq)<=1000:=dH (LR (Int.ofNat_le.mpr hm) ⋯) ⋯;have hC:(1000:aq)<=1000000:=by decide
 have z:=x.z;have:=z.1;have l1:=z.2;have l2:=z.3;have:=z.4;have:=z.5;have:=x.3;have:=x.4;have:=x.10;have:=x.11;have:=x.12;have:=x.13
 have a1:Rz (k+3) (4+(b.lts.map Lt.told).length*300) (.tup (b.lts.map Lt.told)):=tA (by rewrite [bp];lia) λa ha=>by
  show aA (List.mem_map.mp ha) λy hy d7=>?_;exists d7.symm;show Λ (x.6 y hy) (dH x.17 (dH hB ⋯)) (dH x.16 (dH hB ⋯))
 have a2:Rz (k+3) (4+(jV b.gone).length*12) (.tup (jV b.gone)):=tA (by unfold jV;rewrite [bp];lia) λa ha=>by
  show aA (List.mem_map.mp ha) λp hp eM=>?_;exists eM.symm;show jr (x.9 p hp) λg1 g2 g3 g4 g5=>(D8 (dY ..) (j0 (oF (dH ⋯ g1) (dH (mZ g2) (dH x.17 hB)) hC) (j0 (oF (dH x.10 (mZ g4)) (dH g5 (dH x.16 hB)) hC) DI))).le (eY _)
 rw [bp] at a1;unfold jV at a2;rw [bp] at a2;show (D8 (dY ..) (j0 (sd (B:=140) ⋯ ⟨by lia,x.1.2⟩) (j0 (oF (dH ⋯ x.3) (dH (mZ x.4) hv) hC) (j0 (oF (dH ⋯ x.12) (dH x.17 hB) hC) (j0 (oF (dH ⋯ x.13) (dH x.16 hB) hC) (j0 (oF x.10 (dH x.11 (dH x.16 hB)) hC) (j0 a1 (j0 a2 DI)))))))).le (by lia)
theorem Wl:tB 11 ("snapshot":ak):=ue (l:=["snapshot"]) (by decide+kernel) _ (.head _)
theorem OF (hm:m<=7) (x:kf m nv b):qR b:=by
 have z:=x.z;show ⟨by have:=z.2;lia,by have:=z.3;lia,λy hy=>v8 (nY (x.6 y hy).5) (x.6 y hy).6,by have:=z.1;lia,by have:=z.5;lia,by have:=z.4;lia⟩
theorem adW {m:ar} {s:bc} (hm:m<=7) (i:Inv m s):(∃v,fk jd (eu s)=ae (Nd s,v))/\(eu s).ok jd/\Rv 6 (eu s).row/\(dg (eu s).row).length<=900000:=by
 show aM (BJ i.1) λe pm=>?_;have bx:∀b∈fJ s,kf m s.nv b:=λb hb=>i.4 b (pm.mem_iff.mp hb);have bl:(fJ s).length<=7:=by exists pm.length_eq;show aK i.5 hm
 have sl:s.subs.length<=7:=aK i.9 hm;have n1:=i.7
 have rows:Rz 5 (4+((fJ s).map Bx.told).length*20000) (.tup ((s.names.map (c5 s.bs)).map (mz []))):=by
  exists e;exists y7
  show tA (by rewrite [bp];lia) λa ha=>by
   show aA (List.mem_map.mp ha) λb hb i9=>?_;exists i9.symm;show WC hm (by lia) (bx b hb)
 have subs:Rz 5 (4+(s.subs.map AV.str).length*64) (eF s.subs):=tA (by rewrite [bp];lia) λa ha=>by
  show aA (List.mem_map.mp ha) λx hx jH=>?_;exists jH.symm;show sd ⋯ ⟨(i.8 x hx).2,(i.8 x hx).1.2⟩
 have row:Rz 6 200000 (eu s).row:=by
  rw [bp] at rows subs;show (D8 (dY ..) (j0 (sd ⋯ Wl) (j0 (oF (dH ⋯ i.6) n1 (dH (LR (Int.ofNat_le.mpr hm) ⋯) ⋯)) (j0 subs (j0 rows DI))))).le (by lia)
 show (iT ⟨.int (fJ s).length,?_⟩ (lW ⋯ (by simp) (by exists e;rewrite [bp];lia) (λb hb=>?_) (aK ‹_› ⋯) (λx hx=>aK (i.8 x hx).2 ⋯)) row.1 (by have:=row.2;show aK (NY (aK ‹_› ⋯)) (by lia)))
 ·show (?_:lx jd s.nv s.subs (s.names.map (c5 s.bs))=_);unfold lx;exists e;exists Ζ (λb hb=>aft (bx b hb).s) (((pm.map _).nodup_iff).mpr i.1) (((pm.map _).nodup_iff).mpr i.2)
  have SV:(c5 (fJ s) "INBOX").isSome=ai:=by
   show aA i.3 λb hb q=>?_;exists q.symm;exists qa (((pm.map _).nodup_iff).mpr i.1) (pm.mem_iff.mpr hb);rfl
  have ck:sZ jd s.nv (fJ s)=ai:=cS SV (GC (show jd.nv<=s.nv from i.6) (by lia));show bN (cS ck (abK i))
 ·replace hb:=e▸hb;show aA (List.mem_map.mp hb) λc hc q=>?_;injection q with ct;subst ct
  show OF hm (bx _ hc)
end
section
set_option linter.unusedSectionVars false
theorem fN (h:b=au):(a && b)=au:=by subst h;induction a using ez <;> rfl
theorem mG {os:ah (aR Bx)} (h:iM nv os []=none):lx s nv subs os=none:=by unfold lx;exists h;rfl
theorem J8 {os:ah (aR Bx)} (h:∀bs,iM nv os []=ae bs->(sZ s nv bs && pQ subs)=au):lx s nv subs os=none:=by
 unfold lx;cases e:iM nv os [] with
 |none=>rfl
 |some bs=>show bo (by exists h bs e;show jJ)
theorem Ai {P:aR (ah Bx)->Prop} {nv:aq} {b:Bx} {r:ah (aR Bx)} {acc:ah Bx} (h0:(iE b nv=au\/o7 acc b=ai)->P none) (h1:iE b nv=ai->o7 acc b=au->P (iM nv r (acc++[b]))):P (iM nv (ae b::r) acc):=by
 show (?_:P (if iE b nv then (if o7 acc b then none else iM nv r (acc++[b])) else none));cases q:iE b nv with
 |false=>show h0 (.inl q)
 |true=>cases z:o7 acc b with
  |true=>show h0 (.inr z)
  |false=>show h1 q z
theorem pW {nv:aq} {b:Bx} (hn:iE b nv=au) {os:ah (aR Bx)} {acc:ah Bx} (h:ae b∈os):iM nv os acc=none:=by
 induction os generalizing acc with
 |nil=>show jl h
 |cons o r ih=>
  induction o using eL with
  |none=>rfl
  |some c=>show Ai (P:=(λx=>x=none)) (λJ=>rfl) λq J=>(List.mem_cons.mp h).elim (λe=>(jJ (hn.symm.trans ((bD (λx=>iE x nv) (bZ e)).trans q))).elim) λh=>ih h
theorem Zr {nv:aq} {os:ah (aR Bx)} {acc:ah Bx} (h:none∈os):iM nv os acc=none:=by
 induction os generalizing acc with
 |nil=>show jl h
 |cons o r ih=>
  induction o using eL with
  |none=>rfl
  |some c=>show Ai (P:=(λx=>x=none)) (λJ=>rfl) λq J=>ih ((List.mem_cons.mp h).resolve_left f5)
theorem Q_ {nv:aq} {c:Bx} {l acc:ah Bx} (h:∃a∈acc++l,a.name=c.name\/a.val=c.val):iM nv ((l++[c]).map ae) acc=none:=by
 induction l generalizing acc with
 |nil=>
  show Ai (P:=(λx=>x=none)) (λJ=>rfl) λJ z=>aA h λa ha h=>?_;rw [fW] at ha;show nomatch z.symm.trans (Bool.or_eq_true_iff.mpr (h.imp (λh=>List.any_eq_true.mpr (ao a ha (beq_iff_eq.mpr h))) λh=>List.any_eq_true.mpr (ao a ha (beq_iff_eq.mpr h))))
 |cons b l ih=>show Ai (P:=(λx=>x=none)) (λJ=>rfl) λJ J=>ih (aa (gh ..) h)
theorem af0 {nv:aq} {l acc r:ah Bx} (h:iM nv (l.map ae) acc=ae r):r=acc++l:=by
 revert h;induction l generalizing acc with
 |nil=>show λh=>(bZ h).symm.trans (fW _).symm
 |cons b l ih=>show Ai (P:=λo=>o=ae r->r=acc++b::l) (λJ h=>f5 h) λJ J h=>(ih h).trans (gh ..)
theorem yH {s:bc} {nv:aq} {subs:ah ak} {l:ah Bx} (hl:l.length<=50) (h:∀b∈l,qR b) (sl:subs.length<=50) (sn:∀x∈subs,x.length<=30000):(cD.snap nv subs (l.map ae) []).ok s:=
 (lW ⋯ (dY ..) (by rewrite [bp];show hl) (λb hb=>by show aA (List.mem_map.mp hb) λc hc q=>?_;injection q with eR;subst eR;show h _ hc) sl sn)
theorem o_ {s:bc} {nv:aq} {subs:ah ak} {l:ah Bx} {x:Bx} (hl:l.length<=7) (h:∀b∈l,qR b) (hx:qR x) (sl:subs.length<=50) (sn:∀x∈subs,x.length<=30000):(cD.snap nv subs ((l++[x]).map ae) []).ok s:=
 yH (by exists cb;simp only [cY,jL];lia) (λb hb=>(List.mem_append.mp hb).elim (h b) λe=>by exists List.mem_singleton.mp e;show hx) sl sn
theorem rQ:ae x∈(l++[x]).map ae:=List.mem_map.mpr (ao x (iy _ (.head _)) rfl)
theorem Tp (h:(cT b.name==ae b.name)=au):iE b nv=au:=dq h
theorem RH (h:te 1 nv b.val=au):iE b nv=au:=fN (dq h)
theorem Eg (h:nj b=au):iE b nv=au:=fN (fN (dq h))
theorem Nv (h:(b.lts.all λx=>de x.flags==ae x.flags)=au):iE b nv=au:=fN (fN (fN h))
theorem IC (h:(l.all (λt=>ie t.length 90000 && ie (tY t).length 90000) && ie l.length 30)=ai):gX l:=by
 simp only [d9,FY,oq] at h;show ⟨λt ht=>⟨(h.1 t ht).1,aK (h.1 t ht).2 ⋯⟩,h.2⟩
theorem Ű:gX ["b","a"]:=IC (by decide+kernel)
theorem RE:gX []:=IC (by decide+kernel)
theorem ĸ:gX ["\\seen"]:=IC (by decide+kernel)
theorem À {m:ar} {s:bc} {i:Bx} {r:ah Bx} {dd:cD} (hm:m<=7) (v:Inv m s) (hi:((fJ s).filter λb=>b.name==("INBOX":ak))=i::r) (hd:i7 s.nv s.subs (fJ s) ((fJ s).filter λb=>b.name !=("INBOX":ak)) i dd) (s2:bc):dd.ok s2/\fk s2 dd=none:=by
 show aM (BJ v.1) λe pm=>?_;have bx:∀b∈fJ s,kf m s.nv b:=λb hb=>v.4 b (pm.mem_iff.mp hb);have A:∀b∈fJ s,qR b:=λb hb=>OF hm (bx b hb);have bl:(fJ s).length<=7:=by exists pm.length_eq;show aK v.5 hm
 have uI:=List.mem_filter.mp (show i∈(fJ s).filter λb=>b.name==("INBOX":ak) by exists hi;show .head _);have io:=bx i uI.1;have ib:=A i uI.1;have zz:=io.z;have v0:=io.3;have v1:=io.4;have u0:=io.12;have t0:=io.13;have ul:=zz.5;have tl:=zz.4;have o1:∀b∈(fJ s).filter λb=>b.name !=("INBOX":ak),qR b:=λb hb=>A b (List.mem_filter.mp hb).1;have o2:((fJ s).filter λb=>b.name !=("INBOX":ak)).length<=7:=aK (lI ..) bl;have sl:s.subs.length<=50:=by have:=v.9;lia
 have sn:∀x∈s.subs,x.length<=30000:=λx hx=>aK (v.8 x hx).2 ⋯;have o3:∀b∈(fJ s).filter λb=>b.name !=("INBOX":ak),b.name≠"INBOX":=λb hb=>by simpa using (List.mem_filter.mp hb).2
 generalize ((fJ s).filter λb=>b.name !=("INBOX":ak))=ot at*;cases hd with
 |w0=>
  show ⟨yH (aK ‹_› ⋯) o1 sl sn,J8 λbs h=>dq ?_⟩;exists af0 h;rewrite [ajt];unfold sZ;exists Qa o3;rfl
 |w1 v h0 h1=>
  show ⟨yH (by lia) A sl sn,mG (pW (RH ?_) (List.mem_map.mpr (ao i uI.1 rfl)))⟩;show fN (ow (by lia))
 |w2 v h0 h1=>
  show ⟨o_ o2 o1 ⟨ib.1,ib.2,ib.3,ib.4,ib.5,ib.6⟩ sl sn,mG (pW (RH ?_) rQ)⟩;show fN (ow (show ¬s.nv+v < s.nv by lia))
 |w3=>show ⟨o_ bl A ib sl sn,mG (Q_ (ao i uI.1 (.inl rfl)))⟩
 |w4=>show ⟨o_ bl A ⟨ib.1,ib.2,ib.3,by show (?_:("zz":ak).length<=_);decide,ib.5,ib.6⟩ sl sn,mG (Q_ (ao i uI.1 (.inr rfl)))⟩
 |w5=>show ⟨yH (by lia) A ⋯ (by decide+kernel),J8 λbs h=>fN (by decide+kernel)⟩
 |w6=>show ⟨yH (by lia) A ⋯ (by decide+kernel),J8 λbs h=>fN (by decide+kernel)⟩
 |w7=>
  show ⟨o_ o2 o1 ⟨by show (?_:1<=50);decide,ib.2,λx hx=>?_,ib.4,ib.5,ib.6⟩ sl sn,mG (pW (Eg ?_) rQ)⟩
  ·exists List.mem_singleton.mp hx;show RE
  ·show fN (fN (dq ?_));have:te 1 i.nu i.nu=au:=fN (ow (by lia));show (?_:(VJ (λu=> !te 1 i.nu u) [i.nu]).isEmpty=au);exists vO;exists this;rfl
 |w8=>
  show ⟨o_ o2 o1 ⟨by show (?_:1<=50);decide,ib.2,λx hx=>?_,ib.4,by show (?_:i.nu+1<=_);lia,ib.6⟩ sl sn,mG (pW (Eg ?_) rQ)⟩
  ·exists List.mem_singleton.mp hx;show RE
  ·show fN (fN (fN (fN (dq ?_))));have:zd 1 i.top (i.top+2)=au:=fN (ow (by lia));show (?_:(VJ (λu=> !zd 1 i.top u) [i.top+2]).isEmpty=au);exists vO;exists this;rfl
 |w9 v h0 h1=>
  show ⟨o_ o2 o1 ⟨ib.1,ib.2,ib.3,ib.4,ib.5,ib.6⟩ sl sn,mG (pW (Eg ?_) rQ)⟩;show fN (fN (fN (fN (fN (fN (fN (ow (show ¬i.top+1+v<=i.top by lia))))))))
 |w10=>
  show ⟨o_ o2 o1 ⟨ib.1,by show (?_:1<=1000);decide,ib.3,ib.4,ib.5,ib.6⟩ sl sn,mG (pW (Eg ?_) rQ)⟩;show fN (fN (fN (fN (fN (dq ?_)))));show dq (fN (ow (show ¬i.nu < i.nu by lia)))
 |w11=>
  show ⟨o_ o2 o1 ⟨by show (?_:1<=50);decide,ib.2,λx hx=>?_,ib.4,by show (?_:i.nu+1<=_);lia,by show (?_:i.top+1<=_);lia⟩ sl sn,mG (pW (Nv ?_) rQ)⟩
  ·exists List.mem_singleton.mp hx;show Ű
  ·show dq (show (de ["b","a"]==ae (["b","a"]:ah ak))=au by decide+kernel)
 |w12=>
  show ⟨o_ o2 o1 ⟨by show (?_:1<=50);decide,ib.2,λx hx=>?_,ib.4,by show (?_:i.nu+1<=_);lia,by show (?_:i.top+1<=_);lia⟩ sl sn,mG (pW (Nv ?_) rQ)⟩
  ·exists List.mem_singleton.mp hx;show ĸ
  ·show dq (show (de ["\\seen"]==ae (["\\seen"]:ah ak))=au by decide+kernel)
 |w13=>
  show ⟨o_ o2 o1 ⟨ib.1,ib.2,ib.3,by show (?_:("inbox":ak).length<=_);decide,ib.5,ib.6⟩ sl sn,mG (pW (Tp ?_) rQ)⟩;show (?_:(cT "inbox"==ae "inbox")=au);decide+kernel
 |w14 bad hb=>
  show ⟨(lW (aa hb ((by decide:6≠7))) (aa hb ((by decide:6<=1000))) (by simp only [cb,bp,cY,jL];lia) (λb h=>?_) sl sn),mG (Zr (iy _ (.head _)))⟩;rcases List.mem_append.mp h with h|h
  ·show aA (List.mem_map.mp h) λc hc q=>?_;injection q with fD;exists fD.symm;show o1 _ hc
  ·simp at h
 |w15=>
  show ⟨o_ bl A ⟨ib.1,ib.2,ib.3,by show (?_:("q//r":ak).length<=_);decide,ib.5,ib.6⟩ sl sn,mG (pW (Tp ?_) rQ)⟩;show (?_:(cT "q//r"==ae "q//r")=au);decide+kernel
theorem ſ:TP:=⟨ē,YW,abj,Xg,λhd=>agJ (aeo hd),aer,λi=>BJ i.1,adW,aeZ,À⟩
end
section
variable {w:bQ} {qt:aN}
theorem aev {n:ar} {sc:bA} {ρ:Rh} {H:aj} {Q:PS} {X:PX} {e:bR} {rest rD:ah fc} {ql:fc} {cls:ak} {ep p t8 pos:fU} {D:aF} (f k:ar) (hk:jc sc cls=ai) (hg:hV (cx w qt).K cls (.ref D)=ai) (hD:kg (cx w qt).K D=ai) (hm:qI (cx w qt).K D (.ref D)=ae ai) (hc:oO e=au)
  (h:vE vk f sc e ⟨cx w qt,n⟩ ρ H (λJ J=>dV) (λx H'=>x.C=D/\vS vk f k sc (ql::rD) ⟨cx w au,n⟩ ρ H' Q X)):
  cP (cx w qt) n sc (.Try (.Expr e ep::rest) [.ExceptHandler (ae (.Name cls p)) none (ql::rD) t8] [] [] pos) ρ H Q (λx J H'=>X x H'):=
 QZ (XB:=λx aO H'=>aO=ρ/\x.C=D/\vS vk f k sc (ql::rD) ⟨cx w au,n⟩ ρ H' Q X) hk hg hD (WS.cons (Sx (WE.mono ((g_ (m:=⟨cx w qt,n⟩) fO f).1 h) (λJ J z=>z.elim) λx H' q=>⟨rfl,q⟩) λenv=>wH hc _ _ _))
  λx aO H' q=> .inl ⟨by exists q.2.1;show hm,by show fP q ?_;clear q;intro bC J q;rcases bC with rfl;show rt (m:=⟨cx w au,n⟩) fO f k q⟩
theorem hM.frame {H H':aj} {k:aF} {F:aF->Prop} {s:bc} {d:ah b_} (a:hM H k F s d) (h:∀x o,F x->H x=ae o->H' x=ae o):hM H' k F s d:=by
 show j3 a.1 λdK S je hk st nk Fk sub=>⟨dK,S,je,h _ _ Fk hk,st.frame λx o hx e=>h x o (sub x hx) e,nk,Fk,sub⟩
theorem hM.shrink {H:aj} {k:aF} {F:aF->Prop} {s:bc} {d:ah b_} (a:hM H k F s d):hM H k (λx=>F x/\H x≠none) s d:=by
 show j3 a.1 λdK S je hk st nk Fk sub=>eV st.1 λdS Dd l al hF=>⟨dK,S,λx=>je x/\H x≠none,hk,⟨dS,Dd,l,al,λx hx=>⟨hF x hx,?_⟩⟩,λh=>nk h.1,⟨Fk,by exists hk;simp⟩,λx h=>⟨sub x h.1,h.2⟩⟩;show bj (abp al hx) λo e=>?_;exists e;simp
theorem Runs.snoc {s sN s':bc} {ds:ah cD} {d:cD} {v:AV} (r:Runs s ds sN) (e:fk sN d=ae (s',v)) (sf:gR sN) (ok:d.ok sN) (rv:Rv 6 d.row):Runs s (ds++[d]) s':=by
 induction r with
 |nil s=>show .cons e sf ok rv (.nil _)
 |perm e1 _ ih=>show .perm e1 (ih e sf ok)
 |cons e1 ź oN rv1 _ ih=>show .cons e1 ź oN rv1 (ih e sf ok)
inductive L4 (b k:aF) (i:ar) (s:aj×bc×ah b_):Prop
 |mk (ex:∃F o,hM s.1 k F s.2.1 s.2.2/\s.1 b=ae o/\Dr (200 - 10*i) o/\¬F b) (inv:Inv (1+i) s.2.1) (d:s.2.2.length<=10000*i)
inductive L6 (b k k2:aF) (s0:bc) (i:ar) (s:aj×bc×ah b_×ah cD):Prop
 |mk (ex:∃F1 F2 o,hM s.1 k F1 s.2.1 s.2.2.1/\hM s.1 k2 F2 s.2.1 (frames (eu s0::s.2.2.2))/\s.1 b=ae o/\Dr (130 - 10*i) o/\¬F1 b/\¬F2 b/\(∀x,F1 x->¬F2 x)/\(∀x,F1 x->s.1 x≠none)/\∀x,F2 x->s.1 x≠none) (inv:Inv (5+i) s.2.1) (run:Runs jd (eu s0::s.2.2.2) s.2.1) (d1:s.2.2.1.length<=50000+10000*i) (d2:(frames (eu s0::s.2.2.2)).length<=900000+10000*i)
theorem L4.el {b k:aF} {i:ar} {Hc:aj} {u:bc} {dt:ah b_} {G:Prop} (p:L4 b k i (Hc,u,dt))
  (h:∀F o,hM Hc k F u dt->Hc b=ae o->Dr (200 - 10*i) o->¬F b->Inv (1+i) u->dt.length<=10000*i->G):G:=
 vd p.1 λF o a1 a2 a3 a4=>h F o a1 a2 a3 a4 p.2 p.3
theorem L6.el {b k k2:aF} {s0:bc} {i:ar} {Hc:aj} {u:bc} {dt:ah b_} {ds:ah cD} {G:Prop} (p:L6 b k k2 s0 i (Hc,u,dt,ds))
  (h:∀F1 F2 o,hM Hc k F1 u dt->hM Hc k2 F2 u (frames (eu s0::ds))->Hc b=ae o->Dr (130 - 10*i) o->¬F1 b->¬F2 b->(∀x,F1 x->¬F2 x)->(∀x,F1 x->Hc x≠none)->(∀x,F2 x->Hc x≠none)->
   Inv (5+i) u->Runs jd (eu s0::ds) u->dt.length<=50000+10000*i->(frames (eu s0::ds)).length<=900000+10000*i->G):G:=
 agG p.1 λF1 F2 o a1 a2 a3 a4 a5 a6 a7 a8 a9=>h F1 F2 o a1 a2 a3 a4 a5 a6 a7 a8 a9 p.2 p.3 p.4 p.5
theorem CH {d:cD}:frames [d]=dg d.row:=by unfold frames;exists dX;exists FJ;exists Bq;exists VZ;rewrite [fW];rfl
theorem Ξ {w:bQ} (d:cD) (rv:Rv 6 d.row) (hz:(c7 d.row).length<=8000000):PF w ai 11 365 [d.row] (.bytes (dg d.row)):=λ{n H Q X} h=>Jz (k:=6) rv ⋯ (by rewrite [bp];show aK (AK d) ⋯) hz (n:=n) h
noncomputable def Ia (ds:ah cD) (d:cD) (r:aR (bc×AV)):ah cD:=match r with
 |some _=>ds++[d]
 |none=>ds
theorem QB {x d:cD} {ds:ah cD} {r:aR (bc×AV)}:uZ (frames (x::ds)) d r=frames (x::Ia ds d r):=by
 induction r using eL with
 |none=>rfl
 |some p=>
  show (?_:frames (x::ds)++dg d.row=frames (x::(ds++[d])));unfold frames;exists dX;exists dX;exists dz;exists Bq;exists Bq;exists VU;rewrite [gh];congr 1;congr 1;show CH.symm
theorem agj {s u:bc} {x d:cD} {ds:ah cD} (r:Runs s (x::ds) u) (sf:gR u) (ok:d.ok u) (rv:Rv 6 d.row):Runs s (x::Ia ds d (fk u d)) (uo u (fk u d)):=by
 cases e:fk u d with
 |none=>show r
 |some p=>show r.snoc (d:=d) (s':=p.1) (v:=p.2) e sf ok rv
theorem M6 {d0:ah b_} {d:cD} {r:aR (bc×AV)}:(uZ d0 d r).length<=d0.length+(dg d.row).length:=by
 induction r using eL with
 |none=>show eC _ _
 |some p=>show iL (cb ..)
theorem adn (r:aR (bc×AV)):∃l,Ec r= .tup l:=by induction r using eL <;> show ⟨_,rfl⟩
section
variable {H:aj} {n:ar} {Q:PQ} {X:PX}
theorem xR {i x y B C N:ar} (hi:i < N) (h:x<=B+10000*i) (g:y<=10000) (hB:B+10000*N+10000<=C):x+y<=C:=
 aK (tP h g) (aK (tO (iJ (Bp _ (iK hi)) _) _) hB)
theorem P7 {i x y z B:ar} (t:z<=x+y) (h:x<=B+10000*i) (g:y<=10000):z<=B+10000*(i+1):=
 aK t (aK (tP h g) (iL rfl))
theorem agx:∀i < 2,130 - 10*(i+1)+10<=130 - 10*i:=by decide
theorem Xw:∀i < 4,200 - 10*(i+1)+10<=200 - 10*i:=by decide
theorem ad3 (cf:TP) {a:AV} {ns:ah aq} (ha:a= .lst (ns.map .int)) (hn:ns.length<=63) (h:∀H',Q (.bool ai) H'):bq (cx w ai) (n+30) (.ref 761) [a] H Q X:=by
 show fn 60 60 Ę rfl λK XK hK hN hX=>?_;intro m;show YN (n:=n+28) ha hn λb o hb d0 op=>D7 (n:=n+7) (v:= .none) (i:=0) (.inl ⟨rfl,rfl⟩) (.nil jd) rfl (y_ _) ⋯ λk H1 F1 a1 fr1 ś=>?_;have b1:H1 b=ae o:=ś _ _ (aj.aW ..);have Dq:¬F1 b:=λz=>by have:=fr1 b z;rw [aj.aW] at this;injection this
 show (iT rfl ⋯ ⋯ (zt 4 (λJ J=>(DM "keeper" "box" "script" (.ref k) (.ref b) a)) (λJ s=>s.1) (L4 b k) (λs p=>?_) (λi s hi p K' dU hr=>?_) (H1,jd,[]) ⟨(s8 F1 o a1 b1 d0 Dq),cf.1,i0 _⟩))
 ·rcases s with ⟨Hc,s,dt⟩;show L4.el p ?_;intro F' o ka hb dd nb' inv dl
  have ka:=ka.shrink;have nb:¬(F' b/\Hc b≠none):=λz=>nb' z.1;generalize zq:(λx=>F' x/\Hc x≠none)=F at ka;have Ow:∀x,F x->Hc x≠none:=λx hx=>by rw [<-zq] at hx;show hx.2
  have nb:¬F b:=λz=>by rw [<-zq] at z;show nb z
  have sf:=cf.2 ⋯ inv;show m_ (cf.8 ⋯ inv) λbW sok Ja u3=>?_;show bj bW λsv es=>?_;show aM (cf.7 inv) λen ep=>?_;have he:(c7 (eu s).row).length<=(dg (eu s).row).length:=H8;show Yd (n:=n+17) ka sf Ja (aK u3 ⋯)<|j3 ka.1 λdK S je hk st nk Fk sub=>(bK.mk hk (QM (n:=n+24) st sf (rr (.inl rfl) (e9 (n:=1) ⋯) ?_)))
  show gG (k:=0) (av:=(eu s).row) (.inl rfl) rfl ⋯ rfl (Ξ (eu s) Ja (aK he (aK u3 ⋯)) (n:=n+18) (IY (br (λq=>by rw [Bb] at q;injection q) λJ=>?_)));have run:Runs jd [eu s] s:= .cons es (cf.2 ⋯ cf.1) sok Ja (.perm ⟨ep,rfl,rfl⟩ (.nil s));show D7 (n:=n+7) (v:= .none) (i:=0) (.inr rfl) run (by exists CH;exists VV;rewrite [fW];rfl) (y_ _) (aK u3 ⋯) λk2 H2 RW a2 fr2 uL=>?_;have J0:hM H2 k F s dt:=ka.frame λx p hx e=>uL x p e;have b2:H2 b=ae o:=uL _ _ hb;have a2:=a2.shrink;generalize zq:(λx=>RW x/\H2 x≠none)=F2 at a2;have ahC:∀x,F2 x->H2 x≠none:=λx hx=>by rw [<-zq] at hx;show hx.2
  have Ph:∀x,F2 x->Hc x=none:=λx hx=>by rw [<-zq] at hx;show fr2 x hx.1
  have yG:¬F2 b:=λz=>by injection (Ph b z).symm.trans hb
  show j3 a2.1 λdK2 S2 G2 f6 st2 nk2 Fk2 akg=>eV J0.1 λJ J J Jf J=>(ao _ f6 (rP (n:=n+24) a2 sf (bK.mk Jf (rP (n:=n+24) J0 sf (wq (cK.refl cf.6) ⋯ ?_)))));show (ao _ f6 (IY (br (λq=>by rw [CH,Bb] at q;injection q) λJ=>?_)));have fp:=y_ (eu s).row;show kN (aK u3 ⋯) (jn (N:=150) (n:=n+28) b2 (dd.le ⋯) (Int.ofNat_lt.mpr fp) (Int.ofNat_lt.mpr (iw u3 ⋯)) λv o3 v0 v1 d3=>(ao v.toNat (bD AV.int (KU v0).symm) (zQ (aK u3 ⋯) ?_)));show (Ik).symm▸?_;show D7 (n:=n+7) (v:=(eu s).row) (i:=v.toNat) (.inr rfl) (.nil jd) rfl ((V0 v0).mpr v1) (aa FA (aK (Lb ..) (aK u3 ⋯))) λk3 H3 F3 a3 fr3 M_=>?_;show eV a3.1 λJ J J Wk J=>(ao _ Wk (rP (n:=n+24) a3 (cf.2 ⋯ cf.1) (Ug (n:=n+25) λS4 H4 F4 a4 W2 tf=>?_)));show eV a4.1 λJ J J Rd J=>(ao _ Rd.1 (IS (n:=n+25) Rd (cf.2 ⋯ cf.1) (wq (cK.refl cf.6) ⋯ ?_)));have up:∀x p,x≠b->H2 x=ae p->H4 x=ae p:=λx p hx e=>tf _ _ (M_ _ _ (aY hx e));have b4:H4 b=ae o3:=tf _ _ (M_ _ _ (aj.aW ..));have k1:hM H4 k F s dt:=J0.frame λx p hx e=>up x p (λz=>nb (z▸hx)) e;have k2':hM H4 k2 F2 s (frames [eu s]):=a2.frame λx p hx e=>up x p (λz=>yG (z▸hx)) e;have dj:∀x,F x->¬F2 x:=λx h1 h2=>Ow x h1 (Ph x h2)
  have Yu:∀x,F x->H4 x≠none:=λx hx=>by
   cases e:Hc x with
   |none=>show cy e (Ow x hx)
   |some p=>exists up x p (λz=>nb (z▸hx)) (uL _ _ e);simp
  have al2:∀x,F2 x->H4 x≠none:=λx hx=>by
   cases e:H2 x with
   |none=>show cy e (ahC x hx)
   |some p=>exists up x p (λz=>yG (z▸hx)) e;simp
  show (iT rfl ⋯ ⋯ (zt 2 (λJ J=>(Hy "other" "rows" "short" "keeper" "box" "script" (.ref k2) (.lst [(eu s).row]) (.bytes (dg (eu s).row)) (.ref k) (.ref b) a)) (λJ t=>t.1) (L6 b k k2 s) (λt p=>?_) (λi t hi p K' dU hr=>?_) (H4,s,dt,[]) ⟨(TL F F2 o3 k1 k2' b4 (d3.le ⋯) nb yG dj Yu al2),inv,run,by show (?_:dt.length<=_);show aK dl ⋯,by exists CH;omega⟩))
  ·rcases t with ⟨Hc,u,dt,ds⟩;show L6.el p ?_;intro F1 F2 o ka kb hb dd n1 n2 dj l1 l2 acB run e1 e2
   have rN:=cf.2 ⋯ acB;show eV ka.1 λJ J J II J=>eV kb.1 λJ J J C6 J=>(bK.mk C6 (D7 (n:=n+7) (v:= .none) (i:=0) (.inr rfl) run (by exists VV;rewrite [fW];rfl) (y_ _) (aK e2 ⋯) λk4 H4 F4 a4 W2 tf=>?_));have Gq:=kb.frame λx q J e=>tf x q e;have hb4:H4 b=ae o:=tf _ _ hb;show eV a4.1 λJ J J Ym J=>(bK.mk Ym (rP (n:=n+24) a4 rN (bK.mk (tf _ _ II) (rP (n:=n+24) (ka.frame λx q J e=>tf x q e) rN (wq (cK.refl cf.6) ⋯ ?_)))));show (bK.mk (tf _ _ C6) (rP (n:=n+24) Gq rN ?_));show j3 Gq.1 λdK5 S5 G5 MD st5 nk5 Fk5 akf=>dP (cf.9 inv) λib ir ei=>?_;have sb:(fJ s).length<=50:=by exists ep.length_eq;show aK inv.5 ⋯
   have er:(eu s).row=B6 s.nv s.subs ((fJ s).map Bx.told):=by
    show (?_:AV.tup [.str "snapshot",.int s.nv,eF s.subs,.tup ((s.names.map (c5 s.bs)).map (mz []))]=_);exists en;exists y7;rfl
   show aev (D:=76) 60 45 rfl (by ext) (by ext) (by ext) rfl (bK.mk MD (gG (k:=0) (av:=B6 s.nv s.subs ((fJ s).map Bx.told)) (.inl rfl) rfl ⋯ (by exists er;rfl) (Yb (N:=10) (n:=n+27) hb4 (dd.le ⋯) sb ei λbd o5 hB d5=>?_)));show aM (cf.10 ⋯ inv ei hB u) λbok ğ=>?_;have kb5:hM (H4.set b o5) k2 F2 u (frames (eu s::ds)):=Gq.frame λx p hx e=>aY (λz=>n2 (z▸hx)) e;show j3 kb5.1 λdK6 S6 G6 HE Ġ MT YU abv=>?_
   have eS:S5=S6:=by
    have:=aY (o:=o5) (λz:k2=b=>n2 (z▸Fk5)) MD;rw [HE] at this;have:=bZ this;injection this with _ _ _ this
    injection this with this
    injection this with this
    show this.symm
   exists eS;show JL bd Ġ rN bok (n:=n+19) (λH' s' v e p=>by injection (ğ).symm.trans e) λe H' x i p=>⟨rfl,?_⟩;have q:=sF.of (d:=frames (eu s::ds)) HE MT YU abv p;rw [v7 (p.2 _ _ MT HE)] at q;show aA q.1 λF7 Uj J=>eV Uj.1 λJ J J YJ J=>(bK.mk YJ (rP (n:=n+24) Uj rN (Mz (cK.refl cf.6) ⋯ (hK (.refl _) (h _)))))
  ·rcases t with ⟨Hc,u,dt,ds⟩;show L6.el p ?_;intro F1 F2 o ka kb hb dd n1 n2 dj l1 l2 inv run e1 e2
   have rN:=cf.2 (iJ (iK hi) 5) inv;show j3 ka.1 λdK S je hk st nk Fk sub=>eV st.1 λdS Dd l al hF=>?_;have bS:S≠b:=λz=>n1 (z▸sub _ (hF _ (.inl rfl)));show (bK.mk hk (Ov (N:=130 - 10*(i+1)) (n:=n+26) hb (dd.le (agx i hi)) bS st λd o' hd d'=>?_));show fP (cf.3 (iJ (iK hi) 5) inv hd) λok rv fl=>?_;have De:hM (Hc.set b o') k F1 u dt:=ka.frame λx p hx e=>aY (λz=>n1 (z▸hx)) e;have Pr:hM (Hc.set b o') k2 F2 u (frames (eu s::ds)):=kb.frame λx p hx e=>aY (λz=>n2 (z▸hx)) e;have Jq:=aj.aW Hc b o';have OP:∀x,F2 x->(Hc.set b o') x≠none:=λx hx=>by exists (aj.eQ _ _ λz:x=b=>n2 (z▸hx));show l2 x hx
   generalize Hc.set b o'=Hd at De Pr Jq OP;show J5 (n:=n+16) d De rN ok rv (xR hi e1 fl ⋯) λH' pK=>J5 (n:=n+16) d (Pr.frame λx q hx e=>pK.2 x q (λz=>dj x z hx) e) rN ok rv (xR hi e2 fl ⋯) λH'' pO=>?_;have HB:=cf.4 (iJ (LF hi) 5) inv hd;have dat:=cf.5 (s:=u) hd;show bj (adn (fk u d)) λhl el=>?_;rw [el] at dat ⊢;show wq (cK.refl dat) ⋯<|aA pK.1 λF1' XO h1=>aA pO.1 λRW kb1 h2=>?_
   have uL:=pO.2;have Hr:∀x,F1' x/\H' x≠none->¬F2 x:=λx hx z=>(h1 x hx.1).elim (λy=>dj x y z) λy=>OP x z y;have Hl:=XO.shrink.frame λx q hx e=>uL x q (Hr x hx) e;have CN:=kb1.shrink;have qA:H' b=ae o':=pK.2 _ _ n1 Jq;have agO:H'' b=ae o':=uL _ _ n2 qA;show eV Hl.1 λJ J J II J=>eV CN.1 λJ J J C6 J=>(bK.mk II (rP (n:=n+24) Hl (cf.2 (iJ hi 5) HB) (bK.mk C6 (rP (n:=n+24) CN (cf.2 (iJ hi 5) HB) (wq (cK.refl cf.6) ⋯ ?_)))));rw [QB] at CN;show dU (H'',uo u (fk u d),uZ dt d (fk u d),Ia ds d (fk u d)) _ ⟨(TL _ _ o' Hl CN agO d' (λz=>(h1 b z.1).elim n1 λy=>(by rw [Jq] at y;injection y)) (λz=>(h2 b z.1).elim n2 λy=>(by rw [qA] at y;injection y)) (λx hx z=>(h2 x z.1).elim (Hr x hx) hx.2) (λx hx=>?_) (λx hx=>hx.2)),HB,agj run rN ok rv,?_,?_⟩ trivial (sg rfl rfl rfl rfl rfl rfl trivial)
   ·cases e:H' x with
    |none=>show cy e hx.2
    |some q=>show (?_:H'' x≠none);exists uL x q (Hr x hx) e;simp
   ·have:=M6 (d0:=dt) (d:=d) (r:=fk u d);show (?_:(uZ dt d (fk u d)).length<=_);show P7 this e1 fl
   ·exists QB.symm;have:=M6 (d0:=frames (eu s::ds)) (d:=d) (r:=fk u d);show P7 this e2 fl
 ·rcases s with ⟨Hc,s,dt⟩;show L4.el p ?_;intro F o ka hb dd nb inv dl
  show j3 ka.1 λdK S je hk st nk Fk sub=>eV st.1 λdS Dd l al hF=>?_;have bS:S≠b:=λz=>nb (z▸sub _ (hF _ (.inl rfl)));show (bK.mk hk (Ov (N:=200 - 10*(i+1)) (n:=n+26) hb (dd.le (Xw i hi)) bS st λd o' hd d'=>?_));have De:hM (Hc.set b o') k F s dt:=ka.frame λx p hx e=>aY (λz=>nb (z▸hx)) e;show fP (cf.3 (aK (iJ (iK hi) 1) ⋯) inv hd) λok rv fl=>J5 (n:=n+16) d De (cf.2 (aK (iJ (iK hi) 1) ⋯) inv) ok rv (xR (B:=0) hi (aK dl (dY ..)) fl ⋯) λH' p=>aA p.1 λF' kb qw=>dU (H',uo s (fk s d),uZ dt d (fk s d)) _ ⟨(s8 F' o' kb (p.2 _ _ nb (aj.aW ..)) d' (λz=>?_)),?_,?_⟩ trivial (iT rfl rfl rfl trivial)
  ·rcases qw b z with h|h
   ·show nb h
   ·rw [aj.aW] at h;injection h
  ·have:=cf.4 (aK (iJ (iK hi) 1) ⋯) inv hd
   rwa [ix] at this
  ·show (?_:(uZ dt d (fk s d)).length<=_);cases fk s d with
   |none=>show (?_:dt.length<=_);show aK dl (Bp _ (kX i))
   |some x=>exists cb;show tP dl fl
end
end
section
set_option maxHeartbeats 0
open PySem PySem.W PyProof.Rows PySem.Calls PySem.Challenge
noncomputable def o11:eU:=LU (lE "tuple") none (Data.seq #[] 0) #[]
noncomputable def o12:eU:=LU kC none (aj5 #[]) #[]
noncomputable def ZL:eU:=LU (lE "code") none (aj5
   #[r7 (Str.ofString "<module>") 182,r7 (Str.ofString "<module>") 183,
    r7 (Str.ofString "/claim/cut.py") 184,r8 1 0,r8 0 0,r8 0 0,r8 0 0,
    r8 0 0,dp 11,U6 au,r8 181 0,dp 12,kC,kC,
    kC,kC,r8 185 0,r8 1 0,r7 (Str.ofString "/claim/cut.py") 186]) #[]
noncomputable def o14:eU:=LU (lE "frame") none Data.plain
  #[ae (dp 13),ae (dp 3),ae (dp 3),none,ae (r7 (Str.ofString "__main__") 164),
   none,ae (dp 0)]
noncomputable def T0 (P:kV):BT:=
 (((((((((((((((BT.nil.ins 0 (boot_o_0 P)).ins 1 (boot_o_1 P)).ins 2 (boot_o_2 P)).ins 3 (boot_o_3 P)).ins 4 (boot_o_4 P)).ins 5 (boot_o_5 P)).ins 6 (boot_o_6 P)).ins 7 (boot_o_7 P)).ins 8 (boot_o_8 P)).ins 9 (boot_o_9 P)).ins 10 (boot_o_10 P)).ins 11 o11).ins 12 o12).ins 13 ZL).ins 14 o14)
noncomputable def S0 (w:bQ) (os:pG):SharedT:=⟨T0 w.params,15,{},#[],{},187,os⟩
noncomputable def CU:eJ:=Env.mk pw.main.scope LV LV [] Str.empty none (.ref 13) (ae 14) 0
noncomputable def c0:AM:= .body (Br pw) CU
noncomputable def p0:fU:=⟨0,0,0,0⟩
noncomputable abbrev sL:aR aI:=ae (.ref 6)
noncomputable def Ah (n:ar) (b:ah fc) (w:bQ) (os:pG):=Fast.tw10110043849684766642 Fast.tw14364793385576792824 pw w 11 sL 1 n (S0 w os) ⟨(Fast.tw12563942051412417395 b CU).wrap doneF deadEnd id id,c0,p0,[F_ p0]⟩
theorem adf:opening pw=plainProg pw.main.scope.names:=by ext
theorem ą (s:aU):fenceModules? pw s=ae s:=by rfl
theorem afO (w:bQ):((vZ w.params).isNs pI && (Array.mk ([]:ah Vf)).size==0,(vZ w.params).objs.size,(vZ w.params).nsMap pI "__annotations__")=(ai,11,sL):=by ext
theorem Ė (w:bQ) (os:pG):topGo qK pw w 11 sL 12 ⟨vZ w.params,#[],V6,V7,os⟩ (LW pw)=ae ((S0 w os).abs,⟨V8 qK c0,c0,p0,[F_ p0]⟩):=by ext
theorem acM (w:bQ) (s:aU) (c:AM) (p:fU):LY qK pw w 11 sL 2 s ⟨doneF .next,c,p,[F_ p0]⟩=ae s:=by rfl
end
section
set_option maxHeartbeats 0
set_option tactic.hygienic true
open PySem PySem.W PyProof.Rows PySem.Calls PySem.Challenge
noncomputable def Jy:ah ar:=[0,1,2,3,22,28,29,35,36,38,39,51,52,63,64,75,76,84,85,91,92,98,99,105,106,119,120,126,127,133,134,136,137,154,155,161,162,166,167,171,172,174,175,183,184,190,191,197,198,204,205,211,212,216,217,221,222,226,227,231,232,236,237,243,244,245,249,250,256,257,261,262,268,269,275,276,282,283,289,290,296,297,301,302,308,309,315,316,322,323,329,330,336,337,343,344,350,351,357,358,364,365,371,372,376,377,383,384,390,391,397,398,404,405,411,412,418,419,432,433,439,440,446,447,453,454,458,459,461,462,472,473,477,478,482,483,489,490,496,497,503,504,510,511,517,518,524,525,531,532,536,537,543,544,550,551,557,558,562,563,569,570,576,577,583,584,590,591,597,598,602,603,609,610,614,615,621,622,626,627,633,634,638,639,645,646,652,653,661,667,668,674,675,681,682,688,689,691,692,700,701,705,706,712,713,719,720,724,725,729,730,734,735,741,742,748,749,753,754,760,761]
noncomputable def qv:rU:={pw with main:={pw.main with body:=[aQ 114]}}
noncomputable def lo:ah ak:=pw.boundNames.filter λn=>n !=("law":ak)
noncomputable def yf (s:aU):ah (aR eU)×ar:=(Jy.map λa=>s.heap.get? a,s.heap.objs.size)
noncomputable def ya (w:bQ):ah (aR eU)×ar:=((KK w.params).map λx=>ae x.2,762)
noncomputable def Y8 (w:bQ) (s:aU):aN:=V9 (Bs pw.main.body) (vZ w.params) s.heap && V_ pw s.heap && Wa s && Wb (vZ w.params) s.heap
theorem XY (P:kV):(KK P).map (λx=>x.1)=Jy:=by rfl
theorem ahH (w:bQ) (os:pG):(Ah 4848 (Br pw) w os).map (λr=>(r.1,r.2.2.1,Y8 w r.2.1.abs,openSeen qv lo (Bs pw.main.body) (λ_=>ai) ai r.2.1.abs,yf r.2.1.abs))=ae (.next,c0,ai,openGood qv lo,ya w):=by ext
end
section
set_option maxHeartbeats 0
open PySem PySem.W PyProof.Rows PySem.Calls PySem.Challenge
theorem Ń (n:ar) (b:ah fc) (w:bQ) (os:pG):Ah n b w os=segRunT qK pw w 11 sL 1 n (S0 w os) (piecesOf b CU c0 p0 [F_ p0]):=by
 unfold Ah;exists Fast.te10110043849684766642.symm;exists Fast.te14364793385576792824.symm;exists Fast.te12563942051412417395.symm;rfl
theorem Ĥ (w:bQ) (os:pG):segRun qK pw w 11 sL 1 1 (S0 w os).abs (blockOf (Br pw) CU c0 p0 [F_ p0])=ae (.next,(S0 w os).abs,c0,p0):=by ext
theorem aaa {w:bQ} {os:pG} {s':SharedT} {p:fU} (h:Ah 4848 (Br pw) w os=ae (.next,s',c0,p)):LY qK pw w 11 sL (12+(1+(4848+2))) ⟨vZ w.params,#[],V6,V7,os⟩ (LW pw)=ae s'.abs:=by
 rw [Ń] at h;have k:=piece_app (rest:=[]) (segRun_of h) (piece_nil (acM w s'.abs c0 p));show go_top (Ė w os) (piece_block (Ĥ w os) k)
theorem Η {p q:rU} {loose:ah ak} {Xt:aU->aN} {α:Type} {Yf:aU->α} {Ya:bQ->α} {N:ar} {h0:kV->bF} {gs:dm Vf} {d:PySem.Drawn} {k m:ar} {ann:aR aI}
  (ho:∀w:bQ,(fencedOpening qK p w N).map (λs=>(s.heap,s.gens,s.drawn,s.toks))=ae (h0 w.params,gs,d,k))
  (hz:∀w:bQ,((h0 w.params).isNs pI && gs.size==0,(h0 w.params).objs.size,(h0 w.params).nsMap pI "__annotations__")=(ai,m,ann))
  (hr:∀(w:bQ) (os:pG),∃s,LY qK p w m ann N ⟨h0 w.params,gs,d,k,os⟩ (LW p)=ae s/\(V9 (Bs p.main.body) (h0 w.params) s.heap && V_ p s.heap && Wa s && Wb (h0 w.params) s.heap)=ai/\openSeen q loose (Bs p.main.body) Xt ai s=openGood q loose/\Yf s=Ya w):LeftO p q loose Xt Yf Ya N:=λw=>by
 rcases Option.map_eq_some_iff.mp (ho w) with ⟨⟨h,g',d',k',os⟩,e,e'⟩
 simp only [Wc] at e';show m_ e' ?_;clear e';intro bC bW dD d7;subst bC;subst bW;subst dD;subst d7;show eO (hr w os) λs r v3 v4 v5=>?_;have z:=hz w;simp only [Wc] at z;show fP z λz1 z2 z3=>?_
 have t:Wd qK p w N ⟨h0 w.params,g',d',k',os⟩=ae s:=by
  unfold Wd;exists z1;exists z2;exists z3;exists r;show (?_:(match V9 (Bs p.main.body) (h0 w.params) s.heap && V_ p s.heap && Wa s && Wb (h0 w.params) s.heap with|true=>_|false=>_)=_);exists v3;rfl
 unfold openEnds;exists e;show (?_:(Wd qK p w N _).map _=_);exists t;show bD ae (VS v4 v5)
theorem Yo {w:bQ} {os:pG} {F:aU->aN} {G:Type} {g:aU->G} {A:Type} {y:aU->A} {gg:G} {ay:A} (h:(Ah 4848 (Br pw) w os).map (λr=>(r.1,r.2.2.1,F r.2.1.abs,g r.2.1.abs,y r.2.1.abs))=ae (.next,c0,ai,gg,ay)):∃s,LY qK pw w 11 sL (12+(1+(4848+2))) ⟨vZ w.params,#[],V6,V7,os⟩ (LW pw)=ae s/\F s=ai/\g s=gg/\y s=ay:=by
 rcases Option.map_eq_some_iff.mp h with ⟨⟨f,s',c,p⟩,hr,hv⟩
 simp only [Wc] at hv;show jr hv ?_;clear hv;intro eM i9 v3 v4 v5;subst eM;subst i9;show (i_ s'.abs (aaa hr) v3 v4 v5)
theorem left:LeftO pw qv lo (λJ=>ai) yf ya (12+(1+(4848+2))):=Η (boot_open adf ⋯ ą) afO λw os=>Yo (ahH w os)
theorem ae5 {P:kV} {f:ar->aR eU} (h:Jy.map f=(KK P).map λx=>ae x.2) (a:ar) (o:eU) (e:(KK P).lookup a=ae o):f a=ae o:=by
 rw [<-XY P,cZ] at h;show List.map_inj_left.mp h _ (Cw e)
theorem acD {w:bQ} {s:aU} (h:yf s=ya w):(KK w.params).In s.heap/\s.heap.objs.size=762:=⟨λa o e=>ae5 (f:=λa=>s.heap.get? a) (bD (λx=>x.1) h) a o e,bD (λx=>x.2) h⟩
end
section
open PySem PySem.W PyProof.Rows PySem.Calls PySem.Challenge
noncomputable abbrev lP:OpenRow:=rw_no0394_01.row
noncomputable abbrev uB:ClaimW:=lP.toRowW.claim
theorem Τ {prog:rU} {w:bQ} {t:cC Fin} {s:aU} {R:vo->aU->Prop} (hz:s.asleep)
  (h:aE (bB prog w) Bt t (λfin s'=>∃f,fin= .done f/\(R (.ok f) s'/\aj6 s'.gens=au)) (λe s'=>R (.error e) s'/\aj6 s'.gens=au) s):
  ∃n r s' gw,runN (V8 pF) prog w n s ⟨t,.builtin "claim.caller" {},default,[]⟩= .halted (L7 r) s'/\
   schedN (V8 pF) prog w n (.single s ⟨t,.builtin "claim.caller" {},default,[]⟩)= .halted (L7 r) s'/\s'.forget=gw.forget/\R r gw:=by
 have h2:=h ⟨.builtin "claim.caller" {},none,none,[],none⟩ default caller_in (by decide+kernel) (λx hx=>(by show jl hx));show Ad (wp_halts_full (M:=bB prog w) (R:=R) hz (EV _ _ t (λfin p' s' x'=>aA x' λf e hf=>(by subst e;show hf)) (λJ J J h'=>h') default s h2)) λn r s1 s2 hs hn Iv hR=>?_;show (J7 n r s2 s1 hn hs Iv hR)
theorem Uq {R:WRecords} {cl:ak->aR aF} {P:kV} {ord:ah kz->ah kz}:∀(ns:ah aq) (s:aU),∃vs t,We R cl P ord (ns.map .int) s=ae (vs,{s with toks:=t})/\∀Pd h,aZ Pd h (ns.map .int) vs
 |[],s=>(ew [] s.toks rfl (λJ J=>rfl))
 |n::ns,s=>by
  show d8 (Uq (R:=R) (cl:=cl) (P:=P) (ord:=ord) ns {s with toks:=s.toks+1}) λvs t e k=>?_;show (ew (.int n s.toks::vs) t ?_ (λPd h=>(cI _ _ rfl ⟨_,rfl⟩ (k Pd h))));show (?_:(match We R cl P ord (ns.map .int) {s with toks:=s.toks+1} with|some r=>ae (r8 n s.toks::r.1,r.2)|none=>none)=_);exists e;rfl
theorem items_int:∀{xs:ah WData},aj7 [] xs .int=ai->∃ns:ah aq,xs=ns.map .int
 |[],_=>⟨[],rfl⟩
 |x::xs,h=>by
  have h:(WShape.has [] x .int && aj7 [] xs .int)=ai:=h;show aM (Bool.and_eq_true_iff.mp h) λh1 h2=>?_;show bj (items_int h2) λns bC=>?_;rcases bC with rfl
  show bj (hasW_int h1) λi bW=>?_;rcases bW with rfl
  show ⟨i::ns,rfl⟩
noncomputable def WV (d:aN):aN:=WTm.holds [] (.and (.not (.lit (.bool d))) (.lit (.bool ai))) {args:=[]}
theorem Zp {args:ah WData} (h:uB.pre args=ai):∃ns:ah aq,args=[.list (ns.map .int)]/\ns.length<=63:=by
 show aM (pre_splitW h) λh1 h2=>?_;show cQ (hasAllW_cons (e:= .list .int) (es:=[]) h1) λd r dD hd hr=>?_;subst dD;obtain rfl:=hasAllW_nil hr;show aA (hasW_list hd) λxs d7 hi=>?_;subst d7;show bj (items_int hi) λns eM=>?_;subst eM;show (ao ns rfl ?_);have h3:WV (decide ((63:aq) < ((ns.map WData.int).length:aq)))=ai:=h2;rw [bp] at h3;cases q:decide ((63:aq) < (ns.length:aq)) with
 |true=>rw [q] at h3;show cy h3 (by decide+kernel)
 |false=>have:=ml q;omega
theorem ahn (ns:ah aq):uB.post [.list (ns.map .int)] (.bool ai) [.list (ns.map .int)]=ai:=by ext
theorem Y0 {w:bQ} {bE aC:aU} {args:ah WData} {vs:ah aI} {as:ah aF} (Y:(KK w.params).In aC.heap) (hz:bE.heap.objs.size=762) (C3:uB.pre args=ai) (L:Laid [] w bE aC args vs as):
  aE (bB pw w) Bt (Wf (.ref 761) vs) (λv s'=>GoodWG uB (Wg bE.heap) (ExcName.means bE.heap) args aC (.ok (.ret v)) s') (λJ J=>dV) aC:=by
 show aA (Zp C3) λns i9 hn=>?_;subst i9;show aA L.laid λord J hl=>?_;show d8 (Uq (R:=[]) (cl:=Wg bE.heap) (P:=w.params) (ord:=ord) ns bE) λus t e k=>?_
 have hl:ae ([dp bE.heap.objs.size],{bE with toks:=t,heap:=bE.heap.push {cls:= .type "list",data:= .seq us.toArray}})=ae (vs,aC):=by
  exists hl.symm;show (?_:_=(match (match We [] (Wg bE.heap) w.params ord (ns.map .int) bE with|some r=>ae (dp r.2.heap.objs.size,{r.2 with heap:=r.2.heap.push {cls:= .type "list",data:= .seq r.1.toArray}})|none=>none) with|some a=>ae (a.1::[],a.2)|none=>none));exists e;rfl
 show aM (Fo (bZ hl)) λe1 e2=>?_
 have g:aC.heap.get? 762=ae ⟨.type "list",none,.seq us.toArray 0,#[]⟩:=by
  exists e2.symm;exists hz.symm;show fG _ rfl
 have sz:aC.heap.objs.size=763:=by exists e2.symm;show (?_:(bE.heap.objs.push _).size=_);rewrite [aiX];exists hz;rfl
 have no:∀b,¬mc (λJ=>none) b:=λb q=>by
  rcases q with q|⟨_,_,_,_,q⟩
  ·show q rfl
  ·show f5 q
 have Rp:cN (cx w ai) (λJ=>none) aC.heap:=⟨Y,agl w.params,nofun,nofun,nofun,nofun⟩;have C:CT (cx w ai) 130 Bt (λJ=>none) aC.heap:=⟨Rp,⟨[],rfl,λJ h=>(jl h)⟩,⟨by decide,by decide⟩,HK.none,λJ=>rfl⟩;have x:=ad3 (w:=w) (H:=λJ=>none) (n:=100) (Q:=λa J=>a= .bool ai) (X:=λJ J=>dV) ſ (a:= .lst (ns.map .int)) rfl hn (λJ=>rfl) Bt aC vs C (by exists e1.symm;exists hz;show (cI _ _ rfl (i5 _ _ _ rfl (no _) g (k _ _)) rfl));show cq x (λv s' x'=>aA x' λH' S gA=>aA gA λav y q=>?_) λe s' x'=>EP.el x' λH' x S _ z=>z;subst q;obtain rfl:v= .bool ai:=y;show (iT (.inl (Cv (.bool ai) (.bool ai) [] rfl (λJ=>rfl) (.bool ai) ?_ (λJ=>⟨.nil,nofun⟩))) ⟨λb o e=> .inl ?_,S.6⟩ S.3 ?_)
 ·show ahn ns
 ·show fR.el ((S.5 b o e).2.2 (.inl (no b))) λo' g' J J z=>?_
  have fr:kJ b o=au:=by
   by_cases q:b=762
   ·subst q;injection (g).symm.trans e with ct;exists ct.symm;rfl
   ·have l1:b < 763:=sz▸pJ e;unfold kJ
    rewrite [Bool.and_eq_false_iff]
    show .inr ?_;cases q2:ie yL b with
    |false=>rfl
    |true=>show cy (Nat.ble_eq.mp q2) (Nat.not_le.mpr (VM (LF l1) q))
  exists g';exists (z id).2 fr;rfl
 ·exists S.1;exists L.gens;show .empty
end
section
set_option maxHeartbeats 0
open PySem PySem.W PyProof.Rows PySem.Calls PySem.Challenge
theorem P8:(defOf qv "law").isSome=ai:=by ext
noncomputable def dl:DefRec×ah (ak×bR):=(defOf qv "law").get P8
theorem ahq:defOf qv "law"=ae (dl.1,dl.2):=(Option.some_get P8).symm
theorem ľ:pw.theDef "law"=ae (dl.1.params,dl.1.body,dl.1.scope):=by ext
theorem ZG:kwWritten? dl.1.params.kwonlyargs dl.1.params.kw_defaults=ae dl.2:=by ext
theorem To:chainsOk qv=ai:=by ext
theorem abB:pw.bare:=⟨rfl,rfl,rfl,rfl,rfl,by decide+kernel⟩
theorem af5:opensWell pw=ai:=by ext
theorem XA (P:kV):Fc (KK P) LV "law"=ae (ae (.ref 761)):=by ext
theorem abb:frees lP.toRowW=ai:=by ext
theorem MG:lP.toRowW.promised:=⟨[.list []],by decide+kernel,by decide+kernel⟩
end
section
set_option maxHeartbeats 0
open PySem PySem.W PyProof.Rows PySem.Calls PySem.Challenge
noncomputable abbrev lw:OpenLaw:=rw_no0394_01
theorem b2:decide (lw.foot<=(Br lw.prog).length)=ai:=by ext
theorem b3:lw.footing.all footLine=ai:=by ext
theorem b4:noClassBlock lw.prog lw.footing=ai:=by ext
theorem b5:lw.most.all (λn=>decide (63<=n))=ai:=by ext
theorem b5b:lw.bound.all (λn=>decide (2 ^ 63<=n))=ai:=by ext
theorem b6:noRoadLSs {strict:=ai,foot:=ae lw.bound',writes:=lw.writes,may:=lw.may} lw.footing=ai:=by ext
theorem b7:defStands lw.about lw.above=ai:=by ext
theorem b8:lw.namesIt=ai:=by ext
theorem b9:(["type","isinstance","issubclass","getattr","hasattr"]:ah ak).all (λn=>lw.about !=[n])=ai:=by ext
theorem b10:lw.bound'.all (λn=> !builtinNamed n||lw.about==[n]|| !lw.reads n)=ai:=by ext
theorem χ:(!lw.writes||(lw.prog.main.body.flatMap aj8).all λn=> !lw.reads n)=ai:=by ext
theorem Ă:(lw.prog.main.body.flatMap aj8).all (λn=> !lw.reads n||(drawsOf n lw.prog.main.body).all λmn=>mn.2 !=("attrgetter":ak) && mn.2 !=("methodcaller":ak))=ai:=by ext
theorem Ŋ:L8 lw.prog lw.footing (λsc n=>(!(["type","isinstance","issubclass","getattr","hasattr"]:ah ak).contains n||sc.names.lookup n==ae .globalImplicit) &&
  (lw.may !=ae n||sc.kind== .module||sc.names.lookup n==ae .globalImplicit))=ai:=by ext
theorem b14:lw.own.contains lw.name=ai:=by ext
theorem ã:(lw.own.eraseDups.length==lw.own.length)=ai:=by ext
theorem b16:lw.own.all (λn=> !builtinNamed n)=ai:=by ext
theorem XM:L8 lw.prog lw.above (λJ n=> !lw.own.contains n)=ai:=by ext
theorem Yq:L8 lw.prog lw.footing (λsc n=>sc.kind== .module||sc.names.lookup n !=ae .globalExplicit)=ai:=by ext
theorem ZU:lP.toRowW.solid=ai:=by ext
theorem b20:lP.prog.boundNames.contains lP.name=ai:=by ext
theorem b21:(!startupNames.contains lP.name)=ai:=by ext
theorem a1:sreFenced pw.main=ai:=by ext
theorem a2:((moduleNames pw.main.body).isEmpty||lookedIntoSs (moduleNames pw.main.body) pw.main.body)=ai:=by ext
theorem a3:namesResolve pw=ai:=by ext
theorem a4:pw.boundNames.all (λn=> !worldNames.contains n)=ai:=by ext
theorem a5:noRoadLSs {strict:= !(Bs pw.main.body).all cThrough.contains,foot:=none,bare:=(["vars","dir","locals"]:ah ak).filter (readsOut pw pw.main.body)} pw.main.body=ai:=by ext
theorem a6:L8 pw pw.main.body (λJ n=>attrL n)=ai:=by ext
theorem agF:looksOpen pw=ai:=cS (cS (cS (cS (cS a1 a2) a3) a4) a5) a6
theorem ae0:lP.partSaid=ai:=cS (cS (cS (cS (cS (cS (cS (cS (cS (cS (cS (cS (cS agF rfl) rfl) rfl) rfl) ⋯) rfl) ZU) rfl) rfl) rfl) rfl) rfl) rfl
theorem MC:lP.wellSaid=ai:=cS (cS ae0 b20) b21
theorem abJ:lw.wellSaid=ai:=cS (cS (cS (cS (cS (cS (cS (cS (cS (cS (cS (cS (cS (cS (cS (cS (cS (cS MC b2) b3) b4) b5) b5b) b6) b7) b8) b9) b10) χ) Ă) Ŋ) b14) ã) b16) XM) Yq
theorem akm (h:lP.wellSaid=ai->lP.Holds):rw_no0394_01.Holds:=⟨abJ,h MC⟩
end
section
set_option maxHeartbeats 0
open PySem PySem.W PyProof.Rows PySem.Calls PySem.Challenge
noncomputable def afD (vs:ah aI):cC Fin:=do
 match <-nsGet LV ("law":ak) with
 |some f=>do ret (<-Wf f vs)
 |none=>Uv "claim.caller:no-such-global"
theorem ack {w:bQ} {s:aU} {vs:ah aI} {Q:aI->aU->Prop} {E:aI->aU->Prop} (Y:(KK w.params).In s.heap) (h:aE (bB pw w) Bt (Wf (.ref 761) vs) Q E s):aE (bB pw w) Bt (afD vs) (λfin s'=>∃v,fin= .done (.ret v)/\Q v s') E s:=by
 show aS (up ((Kt Y (XA w.params)).here ?_));show aS (cq h (λv s' q=>bw (ao v rfl q)) λJ J z=>z)
theorem abO {w:bQ} {s:aU} {mg mb:ak->aR aI} {free:aF->Prop} {gens:Prop} {kept:bF->Prop} (hk:∀h,kept h) (G:Ground qv lo [] (λJ J=>cL) w s mg mb s.heap) (hz:s.asleep) (hg:s.gens=#[]) (Y:(KK w.params).In s.heap) (hn:s.heap.objs.size=762):
  uB.CallFrom (callStub "law") w free gens kept s:=by
 intro args C3 Β ord Qm;show bj (Option.isSome_iff_exists.mp (layAllW_isSome (P:=w.params) (ord:=ord) G.has args lP.args s (pre_splitW C3).1)) λp Ap=>?_;rcases p with ⟨vs,aC⟩
 have keeps:=layAllW_keeps _ _ _ Ap;have Dt:=layAllW_rest _ _ _ Ap;show cR (reads_layAllW Qm _ _ _ Ap Β aC.heap (λJ J e=>e)) λas Ĳ uI hold=>?_;have L:Laid [] w s aC args vs as:=⟨(ao ord Qm Ap),Ĳ,uI,hold,keeps,Dt.1.trans hg,Dt.2.2.1⟩;have Qh:(KK w.params).In aC.heap:=λa o e=>keeps a o (Y a o e);have h:=ack Qh (Y0 Qh hn C3 L);show jr (frees_parts abb) λß hu ha ű J=>?_;have hi:=ident_freeW hu ha ű
 show BY (Τ (R:=λr s'=>uB.Ends s args vs aC r s'/\s'.os=s.os) (Shared.asleep_of_life Dt.2.2.2 hz)
  (cq h (λfin s' x=>aA x λv e g=>fP (g.laid (c:=uB) ß rfl hi L) λg1 g2 g3=>(bV _ e ⟨g1,g2⟩ (leftWithCleanup_false_of_bare g3))) λJ J z=>z.elim)) λk r s' gw Xf Z1 Iv Iq Qb=>?_
 show jr (Shared.forget_eq Iv) λeh J J eo J=>?_;have Iq:=Iq.congr eh;rw [<-eo] at Qb;have Š:s'.heap.life=s.heap.life:=(runN_life _ _ _ Xf).trans Dt.2.2.2;show ew vs aC Ap (xo k _ s' Z1 ?_ (λJ i x hx=>by rw [hg] at hx;simp at hx) (hk _) (aa Š rfl) (Shared.rest_eq Qb));show Iq.elim (λx=>SO x λv e d1 d2 d3 d4 d5=> .inl (abG v (bD L7 e) d1 d2 d3 (λb o y J=>d4 b o y) d5)) λx=>AA x λe ob cls e' d1 d2 d3 d4 d5=> .inr (xo e ob cls (bD L7 e') d1 d2 d3 d4 (λb o y J=>d5 b o y))
theorem akk (adv:lP.wellSaid=ai):lP.Holds:=by
 show (f9 adv MG (aP abB af5 rfl) MG.witness (λw=>⟨(left.behind (XP:=λJ J=>cL) (λJ J=>trivial) To w).1,λs' l8=>?_⟩));show cR ((left.behind (XP:=λJ J=>cL) (λJ J=>trivial) To w).2 s' l8) λbE hf hg0 pz=>?_;show SO pz λs hT hz agB hg G y=>?_;show aM (acD y) λY hn=>?_;show (bV bE hf hg0 (wu s hT (λn hn=>?_) nofun nofun (abO (λh z=>by show lU z) G hz (Vi (beq_iff_eq.mp agB)) Y hn)));obtain rfl:n=("law":ak):=List.mem_singleton.mp hn;show pinned_of_view hg G ahq ľ ZG
end
end Mine.Internal
end
theorem PySem.Challenge.cw_no0394_01_holds : PySem.Challenge.rw_no0394_01.Holds :=
 Mine.Internal.akm Mine.Internal.akk
