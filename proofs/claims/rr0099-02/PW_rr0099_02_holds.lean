import PyProof.Rows.All
import Wide.All
import OpenK.AllK
import Wide.FinOn
import Lean
import PySem.Challenge.RW_rr0099_02
set_option linter.all false
set_option autoImplicit false
set_option tactic.hygienic false
set_option maxRecDepth 100000
set_option maxHeartbeats 8000000
set_option genSizeOf false
open And renaming intro->B8
open Array renaming any_toList->Rk,forIn_toList->Rl,getD->yK,getD_eq_getD_getElem?->yL,getElem?_eq_getElem->yM,getElem?_eq_none->v1,getElem?_eq_some_iff->v2,getElem?_setIfInBounds_self_of_lt->Rm,getElem?_toList->lK,length_toList->t2,mem_iff_getElem->Rn,mem_of_getElem?->HG,mem_toList_iff->Ro,toList_inj->Rp,toList_push->HH
open Bool renaming and_eq_true->gW,and_eq_true_iff->gk,and_false->Rq,and_true->HK,eq_false_iff->t3,eq_iff_iff->yO,false_eq_true->pB,false_ne_true->Ca,false_or->Rr,noConfusion->pC,not_eq_true'->pD,or_eq_false_iff->Rs,or_eq_true->Cb,or_eq_true_iff->Rt,or_false->Ru,or_true->pE,true_and->Rv,true_eq_false->Rw,true_or->Rx
open Classical renaming byContradiction->lM,em->yP,epsilon->akd,epsilon_spec->ake
open Decidable renaming em->HQ,not_and_iff_not_or_not->Cd,not_not->akf
open Eq renaming symm->sj,trans->t4
open Except renaming casesOn->RH
open ForInStep renaming yield->pH
open Function renaming comp->aki
open Iff renaming rfl->R0
open Int renaming emod_lt_of_pos->R2,emod_nonneg->R3,le_trans->R4,lt_trans->yX,natCast_nonneg->R5,not_lt->R6,not_ofNat_neg->R7,ofNat_le->Cj,ofNat_lt->HT,toNat_lt->R8,toNat_natCast->wf
open List renaming all_cons->Sd,all_eq_true->i8,any_cons->yZ,append_assoc->fF,append_nil->iK,casesOn->HY,cons_append->Sf,cons_ne_nil->Cp,contains_cons->HZ,countP_cons->Sg,countP_mono_left->Sh,drop_eq_nil_iff->Cq,drop_nil->H0,eq_of_mem_singleton->y0,eraseIdx_eq_take_drop_succ->H1,ext_getElem->Si,filterMap->H2,filterMap_cons->y1,filterMap_cons_none->H3,filterMap_cons_some->H4,filter_congr->y2,filter_cons->Sj,filter_eq_nil_iff->y3,filter_sublist->Cr,find?_cons->H5,find?_isSome->Sk,flatMap_cons->ua,flatMap_eq_nil_iff->H6,foldl_cons->Cs,forIn_cons->wk,forIn_nil->y4,getD->y5,getElem?_append->Sl,getElem?_append_left->jv,getElem?_append_right->Sm,getElem?_concat_length->eM,getElem?_eq_getElem->lN,getElem?_eq_none->Sn,getElem?_eq_none_iff->So,getElem?_eq_some_iff->gt,getElem?_map->h1,getElem?_of_mem->pK,getElem?_set_ne->k',getElem?_set_self->H7,getElem?_set_self'->Ct,getElem?_take_of_lt->Sp,getElem?_toArray->Sq,getElem?_zip_eq_some->H8,getElem_mem->H9,length->kr,length_append->fN,length_cons->ks,length_eq_one_iff->H',length_eq_zero_iff->y6,length_eraseIdx_of_lt->Sr,length_filterMap_le->Ia,length_filter_le->sr,length_map->dC,length_nil->y7,length_range->wl,length_set->la,length_take->Ss,length_zip->Ib,lookup_cons->kt,lookup_eq_none_iff->Su,map->Ic,map_append->oH,map_cons->iL,map_eq_nil_iff->wm,map_flatMap->Cu,map_inj_left->mB,map_map->lO,map_snd_zip->Sv,mem_append->ip,mem_append_left->pL,mem_append_right->wo,mem_cons->dU,mem_cons_of_mem->Sw,mem_cons_self->y8,mem_filter->q3,mem_filterMap->wq,mem_flatMap->q4,mem_map->gY,mem_map_of_mem->Sx,mem_of_getElem?->fG,mem_of_mem_take->Ie,mem_range->Cv,mem_singleton->gu,nodup_append->y9,nodup_cons->mC,nodup_nil->ub,not_mem_nil->hK,of_mem_zip->Cw,pairwise_cons->wr,perm_middle->Sy,range->iM,rec->ss,replicate->ku,reverse_cons->ws,set_append_left->y',set_set->su,size_toArray->oI,take_append_drop->Sz,take_left->SA,take_nil->SD,zipWith->pM,zipWith_cons_cons->If,zip_cons_cons->SE
open List.Nodup renaming sublist->akr
open List.Pairwise renaming map->aks,sublist->Co
open List.Perm renaming append_left->akt,cons->aku,refl->akv
open List.cons renaming inj->Se,injEq->sq
open Nat renaming add_add_add_comm->SI,add_assoc->Il,add_comm->za,add_le_add->pO,add_le_add_right->Cz,add_mul->SJ,add_pos_left->Im,add_right_comm->SK,beq->Io,ble->pP,casesOn->CA,eq_of_le_of_lt_succ->Ip,eq_zero_or_pos->Iq,le_add_right->pQ,le_add_right_of_le->wv,le_antisymm->h2,le_of_ble_eq_true->q7,le_of_eq->dI,le_of_lt_succ->CB,le_of_not_lt->gv,le_of_succ_le->oJ,le_refl->eN,le_succ->pR,le_trans->da,lt_add_right->zb,lt_irrefl->kw,lt_mul_div_succ->CC,lt_of_add_right_lt->CD,lt_of_le_of_lt->e2,lt_of_le_of_ne->zc,lt_of_lt_of_eq->SM,lt_of_lt_of_le->oK,lt_of_not_le->lb,lt_or_gt_of_ne->hg,lt_succ_of_le->zd,lt_succ_self->ud,lt_trans->lP,min_eq_left->SN,min_le_left->CE,mod_lt->CF,mul_add->SO,mul_assoc->Ir,mul_comm->SP,mul_div_le->ww,mul_le_mul->SQ,mul_le_mul_left->SR,mul_le_mul_right->ze,ne_of_gt->sw,ne_of_lt->ho,not_lt->lQ,not_lt_zero->q8,not_succ_le_self->SS,one_le_of_lt->It,one_mul->Iu,pow_le_pow_right->Iv,pow_succ'->SU,rec->SV,sub_le->wx,sub_one_lt_of_lt->Iw,sub_self->SW,succ_add_eq_add_succ->Ix,succ_le_of_lt->SX,succ_le_succ->Iy,succ_mul->SY,succ_ne_zero->S0,succ_pos->S1,zero_add->nD,zero_le->iq,zero_lt_succ->CG,zero_mul->CH
open Nat.succ renaming inj->zf
open Ne renaming symm->sx
open Option renaming bind->S3,bind_eq_some_iff->mF,bind_some->IC,eq_none_iff_forall_ne_some->zg,getD_some->CJ,isSome_iff_exists->zh,isSome_map->S4,join_eq_some_iff->S5,map->CK,map_eq_some_iff->hL,ne_none_iff_exists'->ID,none->nF
open Option.some renaming inj->dq,injEq->akA
open Or renaming inl->IE,inr->IF
open PUnit renaming unit->CO
open Prod renaming ext->S7,fst->S8,snd->S9
open Prod.mk renaming injEq->CR
open Pure renaming pure->zm
open PyProof renaming noPylong_small->Tc
open PyProof.Rows renaming SortKind->IQ,args_list_sort->TR,args_sorted1->TV,arrOf->Dd,bubble->akE,bubble_perm->UH,entry_list_sort->WV,entry_sorted->WZ,exec_Assign->Tb,failedOf->Ek,floordiv_int->akF,get?_update_seq->Yn,kind_sorted->abn,listUpdate_at->abI,mod_int'->akG,plain_sorted->adI,seqEpoch_at->aeE,seqObj->mo,slot_list_sort->ae7,subscriptTail->BB
open PyProof.Rows.F renaming entry_set_update_loop->akC,plain_set_update_loop->akD
open PySem renaming Addr->aa,Arg->hY,Around->cv,BoolOp->i4,Builtin->ms,ClassData->HN,CmpOp->nu,Code->qV,Comprehension->io,Const->oA,DictEntry->iI,Drawn->oC,Env->bo,Flow->mw,FuncData->fV,GenState->pI,Heap->aV,IsRangeIter->R9,IsTupleKey->HU,ItemsOf->Ck,Keyword->HW,Model->pN,NameKind->b4,Obj->cV,Operator->nE,OsState->kx,Pairs->q',Params->oL,Pos->bu,Program->mI,Reads->CW,Result->lT,Scope->fa,Sem->dh,SetFound->IL,SetTable->hy,Shared->ay,Stmt->ey,Str->I,Tok->j3,Value->ab,Walks->zt,World->i9,ZipApart->zx,aRefKeyMayBeTheName_at->Tv,argsOk->wK,arm_eval_Slice->TX,assignEach->Dk,assignInOrder->Ub,assignStores->Jl,atKey->us,attributeBase->Jo,backTo->iQ,binaryOp->uv,bindName->Dx,boolOp->zM,bootBuiltins->rn,builtinLookup_eq_fast->UI,builtinsNs->sL,cLine->hO,cStatics->ux,callGetattribute->Vt,callWith->p2,callerA->DF,carriedByValue->Vy,cellsFrom->lj,checkBuiltinCall->JN,codeAny->gy,codeAny_builtin->p4,codeAny_call_builtin->DQ,codeAny_mono->nU,codeAny_of_tree->uy,collect->JR,compPost->zU,compTurn->uz,compareOp->sO,comprehension->V1,concat_meets->DV,denote->wV,entryFor->uG,entryFor_alias->WT,entryFor_of_tree->Km,eval->fb,evalEach->wY,excClassObj->KL,exec_Assign_Name->XJ,execs->sR,fenceModules?->X0,firstArgMember->Em,foldedSetIterable->Ag,getAttrByItsOwn->Yo,getItem->K8,getMethod->uO,hashByValue->YM,importedModules->AM,interactive->aaY,isInstance->xz,isSubtype_stop->aa6,isTrue->th,keeperOf->tj,keywordEach->abc,ks_codeAny_call_bound->abr,ks_wpAt_execs_cons->abs,letOwnedTupleGo->FH,letTemporaryGo->abG,loadGlobal->Nj,mainGlobals->gh,map_store_of_not_mem->ab2,markedBehindIn_of_false->ab3,model->a1,newEnv->A7,newExc->F2,newFields->NS,newFunctionEnv->A8,newList->F3,noFill_tuple_add->N5,noteFrame->F',ofAClassStatement->Om,opaqueClassAbove->ac',pastItsLine_dict->adr,pickOrder->rV,plainId_quiet->tE,pushCells->OU,pushCells_keeps->OV,pyIter->ly,pyNext->jk,raiseNew->O0,rawInt->fS,recursionLimit->vw,refuseLoop_ref->O5,relabel->lz,searchCouldBeSeen->aeA,seq_tuple_add->Pt,setField->r0,setNext->PB,setSearchFrom->vz,signature?_of->ae2,sizeLine->e7,sizeLine_eq->jU,size_of_entries->GZ,sliceBounds->yh,slot_list_getitem->ae6,spliced->yk,standAt->kn,starEach->ii,storeName->ym,stored->k3,storedH->r2,swappedStores->vF,swapsWith->Qj,sysModules->on,treeTable->BK,tupleKind->BO,typeLookup->vM,typeLookup_type->agZ,valueAt->qM,wants->yz,wpAny->a9,wpAny_Name->BQ,wpAny_alloc->ahq,wpAny_askSetting->vS,wpAny_assign_Name->ahr,wpAny_attempt->BR,wpAny_bind->aE,wpAny_bindName->QW,wpAny_call->r9,wpAny_callSpecial?_slot->QX,wpAny_call_entry->oo,wpAny_comprehension_free->aht,wpAny_dictEntries->BS,wpAny_dictEpoch->Hn,wpAny_eqBool_str->QZ,wpAny_eqIsQuiet_tuple->ahu,wpAny_execs_cons->ahv,wpAny_field->vT,wpAny_fieldsOf->Q0,wpAny_forIn_list->ahw,wpAny_handled->ahx,wpAny_holding->gL,wpAny_isInstance->BU,wpAny_isOneOf_keyiter->ahy,wpAny_isSubtype_exc->Q1,wpAny_ite_false->BV,wpAny_ite_split->r',wpAny_letTemporaryGo->ahz,wpAny_list_append_plain->ahA,wpAny_load->Ho,wpAny_loadName_free->ahB,wpAny_loadName_local->yC,wpAny_loadPart->BW,wpAny_loadPart_at->yD,wpAny_lookBehind->ahC,wpAny_mkText->Hp,wpAny_mono->fx,wpAny_newList->BX,wpAny_newObj_type->nl,wpAny_newTuple->Q2,wpAny_notOrdered_dict->Hq,wpAny_nsGet->ahD,wpAny_of_eq->sa,wpAny_pure->bj,wpAny_pyIter_keyiter->ahE,wpAny_pyIter_list->Q5,wpAny_pyIter_slot->Q6,wpAny_pyIter_zip->ahF,wpAny_pyNext_list_end->Q7,wpAny_pyNext_list_item->Q8,wpAny_release->ahG,wpAny_richCompare_same_room->ahH,wpAny_rule->yE,wpAny_runOwn->ahI,wpAny_runValue->Q9,wpAny_seqItems->Hr,wpAny_setEntries_of->ahJ,wpAny_setEpoch_of->Q',wpAny_setField->BY,wpAny_setField_rec->yF,wpAny_setState_of->nn,wpAny_specialOf->Hs,wpAny_standAt->np,wpAny_storeName_local->ahK,wpAny_throw->ahL,wpAny_truthy_bool->Ra,wpAny_typeNameOfWhole_keyiter->Ht,wpAny_typeOf->vU,wpAny_updatePart->ahO,wpAny_updateSeq->ahP,wpAt_of_wpAny->Hu
open PySem.Builtin renaming divisionGoesByPylong->RB
open PySem.Builtin.Dict renaming pairItems->aj6,samePairs->Ry,showsAll->HL,updateFrom->aj7
open PySem.Builtin.Dict_items renaming ownsTuple->Rz
open PySem.Builtin.Frozenset renaming updateFrom->aj8
open PySem.Builtin.List renaming listExtendWith->aj9,listLengthHint->aj',listSameRef->RA,listUpdate->aka
open PySem.Builtin.PlaceNodes renaming calledBy->akb
open PySem.Builtin.Range renaming rangeSize->akc
open PySem.Calls renaming Name_function_global->SH,call_function_entry->RD
open PySem.Code renaming quiet_builtin->HO
open PySem.Data renaming seq->RE
open PySem.DictEntry renaming refKey->akg
open PySem.EntryCells renaming newEntry->akh
open PySem.Env renaming kindOf->pG
open PySem.F renaming ks_slot_super_ga->HR,slot_list_getattribute->Cg
open PySem.Flow renaming next->wb
open PySem.Heap renaming ExtBut->RV,NewAttrErr->RW,SameBut->hw,get?_none_of_le->RX,get?_push_of_some->dM,get?_push_size->eS,get?_update_ne->RY,get?_update_other->my,get?_update_self->nz,lt_size->eF,size_push->oG
open PySem.Heap.FunFrames renaming cons->akj
open PySem.Heap.IsList renaming push->akk,typeIs->akl
open PySem.Heap.SameBut renaming refl->akm,update->sl
open PySem.Keeper renaming boundFrame->sn,frame->so,machine->sp
open PySem.Manifest renaming canonical->akw,owners->akx,sig_set_iterator->aky
open PySem.MeetsSeq renaming list_remove->akz
open PySem.NameKind renaming cell->jw,free->kv
open PySem.Obj renaming cls_mapFields->IA,data_mapFields->wz,isFreed_of_fields->CI,mapFields->mE,mapSeq->lR,putName->S2,putSet->IB
open PySem.PyData renaming canLayAll0->S',depthAll->Ta,eqv->CS,keyHash->jy,strOk->fy
open PySem.ScopeKind renaming function->Tj
open PySem.Sem renaming wp->CZ,wp_bind'->Tk
open PySem.SeqAt.EqAt renaming int_str->akH,str_int->akI
open PySem.SetTable renaming Probe->IM,Probe->zl,below->h6,below->zo,bits->uw,fill->Tl,fits->akJ,gaveWay->akK,grown->akL,has->o0,insertAt->j1,mask->ib,rec->dp,runEnd->GN,sameMemory->akM,slot->Tm,slot->iE,toList_insertAt->IN,tooFull->akN,turns->IP
open PySem.SetTable.below renaming go->Dp
open PySem.SetTable.probe renaming go->OS
open PySem.Shared renaming TypeIs->C0
open PySem.Str renaming empty->IT,length->Tn,ofString->pT
open PySem.Txt renaming slice->C4
open PySem.Value renaming bool->IW,builtin->Ts,isStr->Tt,isStrOf->kD,isStrOf_shape->zs,none->g0,ref->hq,type->oP
open PySem.Value.type renaming inj->C5
open PySem.W renaming Frag->cb,KasT->t',Looks->iN,SharedT->pS,absHeap->I4,any_some->Jb,boot_drawn->zN,boot_heap->j8,boot_toks->zO,callWith_of->DE,clsIn->ro,dictOf->h8,drawn->nW,emptyDict->iT,findIn->jE,findObj_own->X3,fnIn->w2,gensDone->K7,hasDictIn->s1,hashAt->o1,instObj->md,kas_asc->qr,kas_bin->FE,kas_count->AR,kas_desc->iA,kas_descPart->pb,kas_place->oc,kas_rev->hS,kas_sort->xC,kas_tail3->AS,kat_nil->MO,keepIn->u9,ks_superIn->pc,laidKept->M2,looks_clsIn->xL,looks_findIn->AZ,looks_mroIn->FN,looks_nsIn->Nk,looks_opaque->abP,methodObj->ts,mroIn->m4,namesBound->NO,nsIn->ha,plainGet_of->ON,putL->jS,putN->x2,putName_dict->Gz,set_plain->PE,staticsOk->P5,takerIn->r3,through->Qs,topFrom->Qx,topStub->vH,typeIn->pv
open PySem.W.Fast renaming tw10156331382660048174->RL,tw11892475500146522536->RM,tw14364793385576792824->RN,tw4187177175401517315->RO,tw6613529449190102663->RP
open PySem.W.KasT renaming ret->mA
open PySem.W.Looks renaming ld->SF,of_pure->Ig
open PySem.W.RowW renaming records->Tg
open PySem.pickOrder renaming go->OI
open Std.Legacy.Range renaming forIn_eq_forIn_range'->akO,size->akP
open String renaming splitOn->To,splitOnAux->Tp
namespace Mine.Internal
theorem a3{bL:Sort _}{P:bL->Prop}{G:Prop}(h:∃aj,P aj)(k:∀aj,P aj->G):G:=h.elim k
theorem bk{bL:Sort _}{P:bL->Prop}(aj:bL)(h:P aj):∃aj,P aj:=⟨aj,h⟩
theorem a4{bL:Sort _}{cn:Sort _}{P:bL->cn->Prop}{G:Prop}(h:∃aj aq,P aj aq)(k:∀aj aq,P aj aq->G):G:=h.elim λaj h=>a3 h (k aj)
theorem b2{bL:Sort _}{cn:Sort _}{P:bL->cn->Prop}(aj:bL)(aq:cn)(h:P aj aq):∃aj aq,P aj aq:=⟨aj,bk aq h⟩
theorem cI{bL:Sort _}{cn:Sort _}{dv:Sort _}{P:bL->cn->dv->Prop}{G:Prop}(h:∃aj aq aF,P aj aq aF)(k:∀aj aq aF,P aj aq aF->G):G:=h.elim λaj h=>a4 h (k aj)
theorem fo{bL:Sort _}{cn:Sort _}{dv:Sort _}{P:bL->cn->dv->Prop}(aj:bL)(aq:cn)(aF:dv)(h:P aj aq aF):∃aj aq aF,P aj aq aF:=⟨aj,b2 aq aF h⟩
theorem eV{bL:Sort _}{cn:Sort _}{dv:Sort _}{fU:Sort _}{P:bL->cn->dv->fU->Prop}{G:Prop}(h:∃aj aq aF bh,P aj aq aF bh)(k:∀aj aq aF bh,P aj aq aF bh->G):G:=h.elim λaj h=>cI h (k aj)
theorem hC{bL:Sort _}{cn:Sort _}{dv:Sort _}{fU:Sort _}{P:bL->cn->dv->fU->Prop}(aj:bL)(aq:cn)(aF:dv)(bh:fU)(h:P aj aq aF bh):∃aj aq aF bh,P aj aq aF bh:=⟨aj,fo aq aF bh h⟩
theorem g4{bL:Sort _}{cn:Sort _}{dv:Sort _}{fU:Sort _}{qS:Sort _}{P:bL->cn->dv->fU->qS->Prop}{G:Prop}(h:∃aj aq aF bh cO,P aj aq aF bh cO)(k:∀aj aq aF bh cO,P aj aq aF bh cO->G):G:=h.elim λaj h=>eV h (k aj)
theorem nX{bL:Sort _}{cn:Sort _}{dv:Sort _}{fU:Sort _}{qS:Sort _}{yJ:Sort _}{P:bL->cn->dv->fU->qS->yJ->Prop}{G:Prop}(h:∃aj aq aF bh cO c6,P aj aq aF bh cO c6)(k:∀aj aq aF bh cO c6,P aj aq aF bh cO c6->G):G:=h.elim λaj h=>g4 h (k aj)
theorem oU{bL:Sort _}{cn:Sort _}{dv:Sort _}{fU:Sort _}{qS:Sort _}{yJ:Sort _}{HB:Sort _}{P:bL->cn->dv->fU->qS->yJ->HB->Prop}{G:Prop}(h:∃aj aq aF bh cO c6 c7,P aj aq aF bh cO c6 c7)(k:∀aj aq aF bh cO c6 c7,P aj aq aF bh cO c6 c7->G):G:=h.elim λaj h=>nX h (k aj)
theorem dL{bA bI:Prop}{G:Prop}(h:bA∧bI)(k:bA->bI->G):G:=k h.1 h.2
theorem qQ{bA bI ca:Prop}{G:Prop}(h:bA∧bI∧ca)(k:bA->bI->ca->G):G:=k h.1 h.2.1 h.2.2
theorem tZ{bA bI ca cU:Prop}{G:Prop}(h:bA∧bI∧ca∧cU)(k:bA->bI->ca->cU->G):G:=k h.1 h.2.1 h.2.2.1 h.2.2.2
theorem ahQ{bA bI ca cU ep:Prop}{G:Prop}(h:bA∧bI∧ca∧cU∧ep)(k:bA->bI->ca->cU->ep->G):G:=k h.1 h.2.1 h.2.2.1 h.2.2.2.1 h.2.2.2.2
theorem B0{bA bI ca cU ep gV k8 qU:Prop}{G:Prop}(h:bA∧bI∧ca∧cU∧ep∧gV∧k8∧qU)(k:bA->bI->ca->cU->ep->gV->k8->qU->G):G:=k h.1 h.2.1 h.2.2.1 h.2.2.2.1 h.2.2.2.2.1 h.2.2.2.2.2.1 h.2.2.2.2.2.2.1 h.2.2.2.2.2.2.2
theorem bz{bL:Sort _}{bA:bL->Prop}{G:Prop}(h:∃aj,bA aj)(k:∀aj,bA aj->G):G:=a3 h λaj q=>k aj q
theorem aU{bL:Sort _}{bA bI:bL->Prop}{G:Prop}(h:∃aj,bA aj∧bI aj)(k:∀aj,bA aj->bI aj->G):G:=a3 h λaj q=>k aj q.1 q.2
theorem bx{bL:Sort _}{bA bI:bL->Prop}(aj:bL)(bQ:bA aj)(ai:bI aj):∃aj,bA aj∧bI aj:=bk aj ⟨bQ,ai⟩
theorem cr{bL:Sort _}{bA bI ca:bL->Prop}{G:Prop}(h:∃aj,bA aj∧bI aj∧ca aj)(k:∀aj,bA aj->bI aj->ca aj->G):G:=a3 h λaj q=>k aj q.1 q.2.1 q.2.2
theorem fK{bL:Sort _}{bA bI ca:bL->Prop}(aj:bL)(bQ:bA aj)(ai:bI aj)(am:ca aj):∃aj,bA aj∧bI aj∧ca aj:=bk aj ⟨bQ,ai,am⟩
theorem ij{bL:Sort _}{bA bI ca cU:bL->Prop}{G:Prop}(h:∃aj,bA aj∧bI aj∧ca aj∧cU aj)(k:∀aj,bA aj->bI aj->ca aj->cU aj->G):G:=a3 h λaj q=>k aj q.1 q.2.1 q.2.2.1 q.2.2.2
theorem FR{bL:Sort _}{bA bI ca cU:bL->Prop}(aj:bL)(bQ:bA aj)(ai:bI aj)(am:ca aj)(a6:cU aj):∃aj,bA aj∧bI aj∧ca aj∧cU aj:=bk aj ⟨bQ,ai,am,a6⟩
theorem lH{bL:Sort _}{bA bI ca cU ep:bL->Prop}{G:Prop}(h:∃aj,bA aj∧bI aj∧ca aj∧cU aj∧ep aj)(k:∀aj,bA aj->bI aj->ca aj->cU aj->ep aj->G):G:=a3 h λaj q=>k aj q.1 q.2.1 q.2.2.1 q.2.2.2.1 q.2.2.2.2
theorem qw{bL:Sort _}{bA bI ca cU ep:bL->Prop}(aj:bL)(bQ:bA aj)(ai:bI aj)(am:ca aj)(a6:cU aj)(c2:ep aj):∃aj,bA aj∧bI aj∧ca aj∧cU aj∧ep aj:=bk aj ⟨bQ,ai,am,a6,c2⟩
theorem sb{bL:Sort _}{bA bI ca cU ep gV:bL->Prop}{G:Prop}(h:∃aj,bA aj∧bI aj∧ca aj∧cU aj∧ep aj∧gV aj)(k:∀aj,bA aj->bI aj->ca aj->cU aj->ep aj->gV aj->G):G:=a3 h λaj q=>k aj q.1 q.2.1 q.2.2.1 q.2.2.2.1 q.2.2.2.2.1 q.2.2.2.2.2
theorem xM{bL:Sort _}{bA bI ca cU ep gV:bL->Prop}(aj:bL)(bQ:bA aj)(ai:bI aj)(am:ca aj)(a6:cU aj)(c2:ep aj)(fc:gV aj):∃aj,bA aj∧bI aj∧ca aj∧cU aj∧ep aj∧gV aj:=bk aj ⟨bQ,ai,am,a6,c2,fc⟩
theorem ik{bL:Sort _}{cn:Sort _}{bA:bL->cn->Prop}{G:Prop}(h:∃aj aq,bA aj aq)(k:∀aj aq,bA aj aq->G):G:=a4 h λaj aq q=>k aj aq q
theorem A0{bL:Sort _}{cn:Sort _}{bA:bL->cn->Prop}(aj:bL)(aq:cn)(bQ:bA aj aq):∃aj aq,bA aj aq:=b2 aj aq bQ
theorem k5{bL:Sort _}{cn:Sort _}{bA bI:bL->cn->Prop}{G:Prop}(h:∃aj aq,bA aj aq∧bI aj aq)(k:∀aj aq,bA aj aq->bI aj aq->G):G:=a4 h λaj aq q=>k aj aq q.1 q.2
theorem qx{bL:Sort _}{cn:Sort _}{bA bI:bL->cn->Prop}(aj:bL)(aq:cn)(bQ:bA aj aq)(ai:bI aj aq):∃aj aq,bA aj aq∧bI aj aq:=b2 aj aq ⟨bQ,ai⟩
theorem eL{bL:Sort _}{cn:Sort _}{bA bI ca:bL->cn->Prop}{G:Prop}(h:∃aj aq,bA aj aq∧bI aj aq∧ca aj aq)(k:∀aj aq,bA aj aq->bI aj aq->ca aj aq->G):G:=a4 h λaj aq q=>k aj aq q.1 q.2.1 q.2.2
theorem kV{bL:Sort _}{cn:Sort _}{bA bI ca:bL->cn->Prop}(aj:bL)(aq:cn)(bQ:bA aj aq)(ai:bI aj aq)(am:ca aj aq):∃aj aq,bA aj aq∧bI aj aq∧ca aj aq:=b2 aj aq ⟨bQ,ai,am⟩
theorem nt{bL:Sort _}{cn:Sort _}{bA bI ca cU:bL->cn->Prop}{G:Prop}(h:∃aj aq,bA aj aq∧bI aj aq∧ca aj aq∧cU aj aq)(k:∀aj aq,bA aj aq->bI aj aq->ca aj aq->cU aj aq->G):G:=a4 h λaj aq q=>k aj aq q.1 q.2.1 q.2.2.1 q.2.2.2
theorem abV{bL:Sort _}{cn:Sort _}{bA bI ca cU:bL->cn->Prop}(aj:bL)(aq:cn)(bQ:bA aj aq)(ai:bI aj aq)(am:ca aj aq)(a6:cU aj aq):∃aj aq,bA aj aq∧bI aj aq∧ca aj aq∧cU aj aq:=b2 aj aq ⟨bQ,ai,am,a6⟩
theorem k6{bL:Sort _}{cn:Sort _}{bA bI ca cU ep:bL->cn->Prop}{G:Prop}(h:∃aj aq,bA aj aq∧bI aj aq∧ca aj aq∧cU aj aq∧ep aj aq)(k:∀aj aq,bA aj aq->bI aj aq->ca aj aq->cU aj aq->ep aj aq->G):G:=a4 h λaj aq q=>k aj aq q.1 q.2.1 q.2.2.1 q.2.2.2.1 q.2.2.2.2
theorem m3{bL:Sort _}{cn:Sort _}{bA bI ca cU ep:bL->cn->Prop}(aj:bL)(aq:cn)(bQ:bA aj aq)(ai:bI aj aq)(am:ca aj aq)(a6:cU aj aq)(c2:ep aj aq):∃aj aq,bA aj aq∧bI aj aq∧ca aj aq∧cU aj aq∧ep aj aq:=b2 aj aq ⟨bQ,ai,am,a6,c2⟩
theorem sc{bL:Sort _}{cn:Sort _}{dv:Sort _}{bA:bL->cn->dv->Prop}{G:Prop}(h:∃aj aq aF,bA aj aq aF)(k:∀aj aq aF,bA aj aq aF->G):G:=cI h λaj aq aF q=>k aj aq aF q
theorem k7{bL:Sort _}{cn:Sort _}{dv:Sort _}{bA bI:bL->cn->dv->Prop}{G:Prop}(h:∃aj aq aF,bA aj aq aF∧bI aj aq aF)(k:∀aj aq aF,bA aj aq aF->bI aj aq aF->G):G:=cI h λaj aq aF q=>k aj aq aF q.1 q.2
theorem tq{bL:Sort _}{cn:Sort _}{dv:Sort _}{bA bI:bL->cn->dv->Prop}(aj:bL)(aq:cn)(aF:dv)(bQ:bA aj aq aF)(ai:bI aj aq aF):∃aj aq aF,bA aj aq aF∧bI aj aq aF:=fo aj aq aF ⟨bQ,ai⟩
theorem jq{bL:Sort _}{cn:Sort _}{dv:Sort _}{bA bI ca:bL->cn->dv->Prop}{G:Prop}(h:∃aj aq aF,bA aj aq aF∧bI aj aq aF∧ca aj aq aF)(k:∀aj aq aF,bA aj aq aF->bI aj aq aF->ca aj aq aF->G):G:=cI h λaj aq aF q=>k aj aq aF q.1 q.2.1 q.2.2
theorem rR{bL:Sort _}{cn:Sort _}{dv:Sort _}{bA bI ca:bL->cn->dv->Prop}(aj:bL)(aq:cn)(aF:dv)(bQ:bA aj aq aF)(ai:bI aj aq aF)(am:ca aj aq aF):∃aj aq aF,bA aj aq aF∧bI aj aq aF∧ca aj aq aF:=fo aj aq aF ⟨bQ,ai,am⟩
theorem py{bL:Sort _}{cn:Sort _}{dv:Sort _}{bA bI ca cU:bL->cn->dv->Prop}{G:Prop}(h:∃aj aq aF,bA aj aq aF∧bI aj aq aF∧ca aj aq aF∧cU aj aq aF)(k:∀aj aq aF,bA aj aq aF->bI aj aq aF->ca aj aq aF->cU aj aq aF->G):G:=cI h λaj aq aF q=>k aj aq aF q.1 q.2.1 q.2.2.1 q.2.2.2
theorem Nw{bL:Sort _}{cn:Sort _}{dv:Sort _}{bA bI ca cU:bL->cn->dv->Prop}(aj:bL)(aq:cn)(aF:dv)(bQ:bA aj aq aF)(ai:bI aj aq aF)(am:ca aj aq aF)(a6:cU aj aq aF):∃aj aq aF,bA aj aq aF∧bI aj aq aF∧ca aj aq aF∧cU aj aq aF:=fo aj aq aF ⟨bQ,ai,am,a6⟩
theorem Rb{bL:Sort _}{cn:Sort _}{dv:Sort _}{bA bI ca cU ep:bL->cn->dv->Prop}{G:Prop}(h:∃aj aq aF,bA aj aq aF∧bI aj aq aF∧ca aj aq aF∧cU aj aq aF∧ep aj aq aF)(k:∀aj aq aF,bA aj aq aF->bI aj aq aF->ca aj aq aF->cU aj aq aF->ep aj aq aF->G):G:=cI h λaj aq aF q=>k aj aq aF q.1 q.2.1 q.2.2.1 q.2.2.2.1 q.2.2.2.2
theorem vV{bL:Sort _}{cn:Sort _}{dv:Sort _}{bA bI ca cU ep gV:bL->cn->dv->Prop}{G:Prop}(h:∃aj aq aF,bA aj aq aF∧bI aj aq aF∧ca aj aq aF∧cU aj aq aF∧ep aj aq aF∧gV aj aq aF)(k:∀aj aq aF,bA aj aq aF->bI aj aq aF->ca aj aq aF->cU aj aq aF->ep aj aq aF->gV aj aq aF->G):G:=cI h λaj aq aF q=>k aj aq aF q.1 q.2.1 q.2.2.1 q.2.2.2.1 q.2.2.2.2.1 q.2.2.2.2.2
theorem abW{bL:Sort _}{cn:Sort _}{dv:Sort _}{bA bI ca cU ep gV:bL->cn->dv->Prop}(aj:bL)(aq:cn)(aF:dv)(bQ:bA aj aq aF)(ai:bI aj aq aF)(am:ca aj aq aF)(a6:cU aj aq aF)(c2:ep aj aq aF)(fc:gV aj aq aF):∃aj aq aF,bA aj aq aF∧bI aj aq aF∧ca aj aq aF∧cU aj aq aF∧ep aj aq aF∧gV aj aq aF:=fo aj aq aF ⟨bQ,ai,am,a6,c2,fc⟩
theorem yG{bL:Sort _}{cn:Sort _}{dv:Sort _}{bA bI ca cU ep gV k8:bL->cn->dv->Prop}{G:Prop}(h:∃aj aq aF,bA aj aq aF∧bI aj aq aF∧ca aj aq aF∧cU aj aq aF∧ep aj aq aF∧gV aj aq aF∧k8 aj aq aF)(k:∀aj aq aF,bA aj aq aF->bI aj aq aF->ca aj aq aF->cU aj aq aF->ep aj aq aF->gV aj aq aF->k8 aj aq aF->G):G:=cI h λaj aq aF q=>k aj aq aF q.1 q.2.1 q.2.2.1 q.2.2.2.1 q.2.2.2.2.1 q.2.2.2.2.2.1 q.2.2.2.2.2.2
theorem tr{bL:Sort _}{cn:Sort _}{dv:Sort _}{bA bI ca cU ep gV k8:bL->cn->dv->Prop}(aj:bL)(aq:cn)(aF:dv)(bQ:bA aj aq aF)(ai:bI aj aq aF)(am:ca aj aq aF)(a6:cU aj aq aF)(c2:ep aj aq aF)(fc:gV aj aq aF)(f6:k8 aj aq aF):∃aj aq aF,bA aj aq aF∧bI aj aq aF∧ca aj aq aF∧cU aj aq aF∧ep aj aq aF∧gV aj aq aF∧k8 aj aq aF:=fo aj aq aF ⟨bQ,ai,am,a6,c2,fc,f6⟩
theorem yH{bL:Sort _}{cn:Sort _}{dv:Sort _}{fU:Sort _}{bA bI:bL->cn->dv->fU->Prop}{G:Prop}(h:∃aj aq aF bh,bA aj aq aF bh∧bI aj aq aF bh)(k:∀aj aq aF bh,bA aj aq aF bh->bI aj aq aF bh->G):G:=eV h λaj aq aF bh q=>k aj aq aF bh q.1 q.2
theorem Nx{bL:Sort _}{cn:Sort _}{dv:Sort _}{fU:Sort _}{bA bI:bL->cn->dv->fU->Prop}(aj:bL)(aq:cn)(aF:dv)(bh:fU)(bQ:bA aj aq aF bh)(ai:bI aj aq aF bh):∃aj aq aF bh,bA aj aq aF bh∧bI aj aq aF bh:=hC aj aq aF bh ⟨bQ,ai⟩
theorem ahV{bL:Sort _}{cn:Sort _}{dv:Sort _}{fU:Sort _}{bA bI ca:bL->cn->dv->fU->Prop}{G:Prop}(h:∃aj aq aF bh,bA aj aq aF bh∧bI aj aq aF bh∧ca aj aq aF bh)(k:∀aj aq aF bh,bA aj aq aF bh->bI aj aq aF bh->ca aj aq aF bh->G):G:=eV h λaj aq aF bh q=>k aj aq aF bh q.1 q.2.1 q.2.2
theorem Hw{bL:Sort _}{cn:Sort _}{dv:Sort _}{fU:Sort _}{bA bI ca cU:bL->cn->dv->fU->Prop}{G:Prop}(h:∃aj aq aF bh,bA aj aq aF bh∧bI aj aq aF bh∧ca aj aq aF bh∧cU aj aq aF bh)(k:∀aj aq aF bh,bA aj aq aF bh->bI aj aq aF bh->ca aj aq aF bh->cU aj aq aF bh->G):G:=eV h λaj aq aF bh q=>k aj aq aF bh q.1 q.2.1 q.2.2.1 q.2.2.2
theorem yI{bL:Sort _}{cn:Sort _}{dv:Sort _}{fU:Sort _}{bA bI ca cU ep:bL->cn->dv->fU->Prop}{G:Prop}(h:∃aj aq aF bh,bA aj aq aF bh∧bI aj aq aF bh∧ca aj aq aF bh∧cU aj aq aF bh∧ep aj aq aF bh)(k:∀aj aq aF bh,bA aj aq aF bh->bI aj aq aF bh->ca aj aq aF bh->cU aj aq aF bh->ep aj aq aF bh->G):G:=eV h λaj aq aF bh q=>k aj aq aF bh q.1 q.2.1 q.2.2.1 q.2.2.2.1 q.2.2.2.2
theorem Ny{bL:Sort _}{cn:Sort _}{dv:Sort _}{fU:Sort _}{bA bI ca cU ep:bL->cn->dv->fU->Prop}(aj:bL)(aq:cn)(aF:dv)(bh:fU)(bQ:bA aj aq aF bh)(ai:bI aj aq aF bh)(am:ca aj aq aF bh)(a6:cU aj aq aF bh)(c2:ep aj aq aF bh):∃aj aq aF bh,bA aj aq aF bh∧bI aj aq aF bh∧ca aj aq aF bh∧cU aj aq aF bh∧ep aj aq aF bh:=hC aj aq aF bh ⟨bQ,ai,am,a6,c2⟩
theorem Rc{bL:Sort _}{cn:Sort _}{dv:Sort _}{fU:Sort _}{bA bI ca cU ep gV k8 qU v0:bL->cn->dv->fU->Prop}{G:Prop}(h:∃aj aq aF bh,bA aj aq aF bh∧bI aj aq aF bh∧ca aj aq aF bh∧cU aj aq aF bh∧ep aj aq aF bh∧gV aj aq aF bh∧k8 aj aq aF bh∧qU aj aq aF bh∧v0 aj aq aF bh)(k:∀aj aq aF bh,bA aj aq aF bh->bI aj aq aF bh->ca aj aq aF bh->cU aj aq aF bh->ep aj aq aF bh->gV aj aq aF bh->k8 aj aq aF bh->qU aj aq aF bh->v0 aj aq aF bh->G):G:=eV h λaj aq aF bh q=>k aj aq aF bh q.1 q.2.1 q.2.2.1 q.2.2.2.1 q.2.2.2.2.1 q.2.2.2.2.2.1 q.2.2.2.2.2.2.1 q.2.2.2.2.2.2.2.1 q.2.2.2.2.2.2.2.2
theorem abX{bL:Sort _}{cn:Sort _}{dv:Sort _}{fU:Sort _}{bA bI ca cU ep gV k8 qU v0:bL->cn->dv->fU->Prop}(aj:bL)(aq:cn)(aF:dv)(bh:fU)(bQ:bA aj aq aF bh)(ai:bI aj aq aF bh)(am:ca aj aq aF bh)(a6:cU aj aq aF bh)(c2:ep aj aq aF bh)(fc:gV aj aq aF bh)(f6:k8 aj aq aF bh)(jc:qU aj aq aF bh)(jd:v0 aj aq aF bh):∃aj aq aF bh,bA aj aq aF bh∧bI aj aq aF bh∧ca aj aq aF bh∧cU aj aq aF bh∧ep aj aq aF bh∧gV aj aq aF bh∧k8 aj aq aF bh∧qU aj aq aF bh∧v0 aj aq aF bh:=hC aj aq aF bh ⟨bQ,ai,am,a6,c2,fc,f6,jc,jd⟩
theorem ahW{bL:Sort _}{cn:Sort _}{dv:Sort _}{fU:Sort _}{qS:Sort _}{bA bI ca cU:bL->cn->dv->fU->qS->Prop}{G:Prop}(h:∃aj aq aF bh cO,bA aj aq aF bh cO∧bI aj aq aF bh cO∧ca aj aq aF bh cO∧cU aj aq aF bh cO)(k:∀aj aq aF bh cO,bA aj aq aF bh cO->bI aj aq aF bh cO->ca aj aq aF bh cO->cU aj aq aF bh cO->G):G:=g4 h λaj aq aF bh cO q=>k aj aq aF bh cO q.1 q.2.1 q.2.2.1 q.2.2.2
theorem ahX{bL:Sort _}{cn:Sort _}{dv:Sort _}{fU:Sort _}{qS:Sort _}{yJ:Sort _}{HB:Sort _}{bA bI ca cU:bL->cn->dv->fU->qS->yJ->HB->Prop}{G:Prop}(h:∃aj aq aF bh cO c6 c7,bA aj aq aF bh cO c6 c7∧bI aj aq aF bh cO c6 c7∧ca aj aq aF bh cO c6 c7∧cU aj aq aF bh cO c6 c7)(k:∀aj aq aF bh cO c6 c7,bA aj aq aF bh cO c6 c7->bI aj aq aF bh cO c6 c7->ca aj aq aF bh cO c6 c7->cU aj aq aF bh cO c6 c7->G):G:=oU h λaj aq aF bh cO c6 c7 q=>k aj aq aF bh cO c6 c7 q.1 q.2.1 q.2.2.1 q.2.2.2
end Mine.Internal
section
open Nat.Internal.Linear (Expr)
namespace Mine.Internal.Ln
noncomputable def Oj(c:List Nat):Nat->Nat:= @List.rec Nat (λo=>Nat->Nat) (λo=>0) (λx o aJ i=> @Nat.casesOn (λo=>Nat) i x aJ) c
noncomputable def b'(c:List Nat)(e:Expr):Nat:= @Expr.rec (λo=>Nat) (λk=>k) (λi=>Oj c i) (λo o a b=>a+b) (λk o a=>k*a) (λo k a=>a*k) e
noncomputable def p7(e:Expr):Nat:= @Expr.rec (λo=>Nat) (λk=>k) (λo=>0) (λo o a b=>a+b) (λk o a=>k*a) (λo k a=>a*k) e
noncomputable def bp(j:Nat)(e:Expr):Nat:= @Expr.rec (λo=>Nat) (λo=>0) (λi=>cond (Nat.beq i j) 1 0) (λo o a b=>a+b) (λk o a=>k*a) (λo k a=>a*k) e
noncomputable def ih(c:List Nat):(Nat->Nat)->Nat:= @List.rec Nat (λo=>(Nat->Nat)->Nat) (λo=>0) (λx o aJ f=>f 0*x+aJ λi=>f (i+1)) c
noncomputable def ok(c:List Nat)(a b:Expr):Nat->Bool:= @List.rec Nat (λo=>Nat->Bool) (λo=>Nat.blt (p7 b) (p7 a)) (λo o aJ i=>and (Nat.ble (bp i b) (bp i a)) (aJ (i+1))) c
theorem PO(c:List Nat):ih c (λo=>0)=0:=by
 induction c with
 |nil=>rfl
 |cons x r aJ=>exact(congrArg (0*x + ·) aJ).trans (Nat.zero_mul x)
theorem ae9(f g:Nat->Nat)(c:List Nat):ih c (λi=>f i+g i)=ih c f+ih c g:=by
 induction c generalizing f g with
 |nil=>rfl
 |cons x r aJ=>exact(congrArg ((f 0+g 0)* x + ·) (aJ (λi=>f (i+1)) λi=>g (i+1))).trans ((congrArg (· + _) (Nat.add_mul ..)).trans (Nat.add_add_add_comm ..))
theorem PN(k:Nat)(f:Nat->Nat)(c:List Nat):ih c (λi=>k*f i)=k*ih c f:=by
 induction c generalizing f with
 |nil=>rfl
 |cons x r aJ=>exact(congrArg (k*f 0*x + ·) (aJ λi=>f (i+1))).trans ((congrArg (· + _) (Nat.mul_assoc ..)).trans (Nat.mul_add ..).symm)
theorem ae'(c:List Nat)(i:Nat):Oj c i=ih c (λj=>cond (Nat.beq i j) 1 0):=by
 induction c generalizing i with
 |nil=>rfl
 |cons x r aJ=>cases i with
  |zero=>exact((congrArg (1*x + ·) (PO r)).trans (Nat.one_mul x)).symm
  |succ i=>exact(aJ i).trans ((congrArg (· + ih r (λj=>cond (Nat.beq i j) 1 0)) (Nat.zero_mul x)).trans (Nat.zero_add _)).symm
theorem J9(c:List Nat)(e:Expr):b' c e=p7 e+ih c λj=>bp j e:=by
 induction e with
 |num k=>exact(congrArg (k + ·) (PO c)).symm
 |var i=>exact(ae' c i).trans (Nat.zero_add _).symm
 |add a b i j=>
  refine(congr (congrArg (· + ·) i) j).trans ((Nat.add_add_add_comm ..).trans ?_)
  exact congrArg (p7 a+p7 b + ·) (ae9 (λj=>bp j a) (λj=>bp j b) c).symm
 |mulL k a i=>exact(congrArg (k * ·) i).trans ((Nat.mul_add ..).trans (congrArg (k*p7 a + ·) (PN k (λj=>bp j a) c).symm))
 |mulR a k i=>
  refine(congrArg (· * k) i).trans ((Nat.add_mul ..).trans (congrArg (p7 a*k + ·) ((Nat.mul_comm ..).trans ((PN k (λj=>bp j a) c).symm.trans ?_))))
  exact congrArg (ih c) (funext λj=>Nat.mul_comm ..)
theorem ac2(c:List Nat)(a b:Expr)(i:Nat)(h:ok c a b i=true):p7 b<p7 a∧ih c (λj=>bp (i+j) b)<=ih c (λj=>bp (i+j) a):=by
 induction c generalizing i with
 |nil=>exact⟨Nat.blt_eq.mp h,Nat.le_refl _⟩
 |cons x r aJ=>
  have h:and (Nat.ble (bp i b) (bp i a)) (ok r a b (i+1))=true:=h
  have q:=aJ (i+1) (Bool.and_eq_true_iff.mp h).2
  have e:∀y,ih r (λj=>bp (i+1+j) y)=ih r (λj=>bp (i+(j+1)) y):=λy=>congrArg (ih r) (funext λj=>congrArg (bp · y) (Nat.add_right_comm i 1 j))
  exact⟨q.1,Nat.add_le_add (Nat.mul_le_mul_right x (Nat.le_of_ble_eq_true (Bool.and_eq_true_iff.mp h).1)) (Eq.mp (congr (congrArg LE.le (e b)) (e a)) q.2)⟩
theorem no(c:List Nat)(a b:Expr)(h:ok c a b 0=true):b' c b<b' c a:=by
 have q:=ac2 c a b 0 h
 refine J9 c a▸J9 c b▸Nat.add_lt_add_of_lt_of_le q.1 ?_
 have e:∀y,ih c (λj=>bp (0+j) y)=ih c (λj=>bp j y):=λy=>congrArg (ih c) (funext λj=>congrArg (bp · y) (Nat.zero_add j))
 exact e a▸e b▸q.2
theorem fI(c:List Nat)(k:Nat)(a b m r:Expr)(h:ok c (.add m (.mulL k (.add b (.num 1)))) (.add r (.mulL k a)) 0=true)(q:b' c m<=b' c r):b' c a<=b' c b:=
 Nat.le_of_not_lt λn=>Nat.lt_irrefl _ (Nat.lt_of_lt_of_le (no c _ _ h) (Nat.add_le_add q (Nat.mul_le_mul_left k n)))
theorem mk(c:List Nat)(k:Nat){m r:Expr}(q:b' c m<=b' c r):b' c (.mulL k m)<=b' c (.mulL k r):=Nat.mul_le_mul_left k q
theorem ad(c:List Nat){m r gS eP:Expr}(q:b' c m<=b' c r)(dZ:b' c gS<=b' c eP):b' c (.add m gS)<=b' c (.add r eP):=Nat.add_le_add q dZ
end Mine.Internal.Ln
namespace Mine.Internal
open Mine.Internal.Ln
theorem hJ(c:List Nat)(a b:Expr)(h:ok c (.add (.num 0) (.mulL 1 (.add b (.num 1)))) (.add (.num 0) (.mulL 1 a)) 0=true):b' c a<=b' c b:=fI c 1 a b (.num 0) (.num 0) h (Nat.le_refl 0)
theorem b6(c:List Nat)(k:Nat)(a b:Expr)(bk:Nat)(bW ez:Expr)(h:ok c (.add (.mulL bk bW) (.mulL k (.add b (.num 1)))) (.add (.mulL bk ez) (.mulL k a)) 0=true)(b0:b' c bW<=b' c ez):b' c a<=b' c b:=fI c k a b _ _ h (mk c bk b0)
theorem cf(c:List Nat)(k:Nat)(a b:Expr)(bk:Nat)(bW ez:Expr)(b2:Nat)(ct ft:Expr)(h:ok c (.add (.add (.mulL bk bW) (.mulL b2 ct)) (.mulL k (.add b (.num 1)))) (.add (.add (.mulL bk ez) (.mulL b2 ft)) (.mulL k a)) 0=true)(b0:b' c bW<=b' c ez)(bO:b' c ct<=b' c ft):b' c a<=b' c b:=fI c k a b _ _ h (ad c (mk c bk b0) (mk c b2 bO))
theorem gl(c:List Nat)(k:Nat)(a b:Expr)(bk:Nat)(bW ez:Expr)(b2:Nat)(ct ft:Expr)(fo:Nat)(cH gf:Expr)(h:ok c (.add (.add (.mulL bk bW) (.add (.mulL b2 ct) (.mulL fo cH))) (.mulL k (.add b (.num 1)))) (.add (.add (.mulL bk ez) (.add (.mulL b2 ft) (.mulL fo gf))) (.mulL k a)) 0=true)(b0:b' c bW<=b' c ez)(bO:b' c ct<=b' c ft)(eJ:b' c cH<=b' c gf):b' c a<=b' c b:=fI c k a b _ _ h (ad c (mk c bk b0) (ad c (mk c b2 bO) (mk c fo eJ)))
theorem sm(c:List Nat)(k:Nat)(a b:Expr)(bk:Nat)(bW ez:Expr)(b2:Nat)(ct ft:Expr)(fo:Nat)(cH gf:Expr)(hC:Nat)(dc li:Expr)(h:ok c (.add (.add (.mulL bk bW) (.add (.mulL b2 ct) (.add (.mulL fo cH) (.mulL hC dc)))) (.mulL k (.add b (.num 1)))) (.add (.add (.mulL bk ez) (.add (.mulL b2 ft) (.add (.mulL fo gf) (.mulL hC li)))) (.mulL k a)) 0=true)(b0:b' c bW<=b' c ez)(bO:b' c ct<=b' c ft)(eJ:b' c cH<=b' c gf)(gH:b' c dc<=b' c li):b' c a<=b' c b:=fI c k a b _ _ h (ad c (mk c bk b0) (ad c (mk c b2 bO) (ad c (mk c fo eJ) (mk c hC gH))))
theorem akn(c:List Nat)(k:Nat)(a b:Expr)(bk:Nat)(bW ez:Expr)(b2:Nat)(ct ft:Expr)(fo:Nat)(cH gf:Expr)(hC:Nat)(dc li:Expr)(kO:Nat)(lW lZ:Expr)(h:ok c (.add (.add (.mulL bk bW) (.add (.mulL b2 ct) (.add (.mulL fo cH) (.add (.mulL hC dc) (.mulL kO lW))))) (.mulL k (.add b (.num 1)))) (.add (.add (.mulL bk ez) (.add (.mulL b2 ft) (.add (.mulL fo gf) (.add (.mulL hC li) (.mulL kO lZ))))) (.mulL k a)) 0=true)(b0:b' c bW<=b' c ez)(bO:b' c ct<=b' c ft)(eJ:b' c cH<=b' c gf)(gH:b' c dc<=b' c li)(kl:b' c lW<=b' c lZ):b' c a<=b' c b:=fI c k a b _ _ h (ad c (mk c bk b0) (ad c (mk c b2 bO) (ad c (mk c fo eJ) (ad c (mk c hC gH) (mk c kO kl)))))
theorem HV(c:List Nat)(k:Nat)(a b:Expr)(bk:Nat)(bW ez:Expr)(b2:Nat)(ct ft:Expr)(fo:Nat)(cH gf:Expr)(hC:Nat)(dc li:Expr)(kO:Nat)(lW lZ:Expr)(n':Nat)(rf rl:Expr)(h:ok c (.add (.add (.mulL bk bW) (.add (.mulL b2 ct) (.add (.mulL fo cH) (.add (.mulL hC dc) (.add (.mulL kO lW) (.mulL n' rf)))))) (.mulL k (.add b (.num 1)))) (.add (.add (.mulL bk ez) (.add (.mulL b2 ft) (.add (.mulL fo gf) (.add (.mulL hC li) (.add (.mulL kO lZ) (.mulL n' rl)))))) (.mulL k a)) 0=true)(b0:b' c bW<=b' c ez)(bO:b' c ct<=b' c ft)(eJ:b' c cH<=b' c gf)(gH:b' c dc<=b' c li)(kl:b' c lW<=b' c lZ)(qD:b' c rf<=b' c rl):b' c a<=b' c b:=fI c k a b _ _ h (ad c (mk c bk b0) (ad c (mk c b2 bO) (ad c (mk c fo eJ) (ad c (mk c hC gH) (ad c (mk c kO kl) (mk c n' qD))))))
theorem ako(c:List Nat)(k:Nat)(a b:Expr)(bk:Nat)(bW ez:Expr)(b2:Nat)(ct ft:Expr)(fo:Nat)(cH gf:Expr)(hC:Nat)(dc li:Expr)(kO:Nat)(lW lZ:Expr)(n':Nat)(rf rl:Expr)(td:Nat)(wJ rm:Expr)(h:ok c (.add (.add (.mulL bk bW) (.add (.mulL b2 ct) (.add (.mulL fo cH) (.add (.mulL hC dc) (.add (.mulL kO lW) (.add (.mulL n' rf) (.mulL td wJ))))))) (.mulL k (.add b (.num 1)))) (.add (.add (.mulL bk ez) (.add (.mulL b2 ft) (.add (.mulL fo gf) (.add (.mulL hC li) (.add (.mulL kO lZ) (.add (.mulL n' rl) (.mulL td rm))))))) (.mulL k a)) 0=true)(b0:b' c bW<=b' c ez)(bO:b' c ct<=b' c ft)(eJ:b' c cH<=b' c gf)(gH:b' c dc<=b' c li)(kl:b' c lW<=b' c lZ)(qD:b' c rf<=b' c rl)(GA:b' c wJ<=b' c rm):b' c a<=b' c b:=fI c k a b _ _ h (ad c (mk c bk b0) (ad c (mk c b2 bO) (ad c (mk c fo eJ) (ad c (mk c hC gH) (ad c (mk c kO kl) (ad c (mk c n' qD) (mk c td GA)))))))
theorem akp(c:List Nat)(k:Nat)(a b:Expr)(bk:Nat)(bW ez:Expr)(b2:Nat)(ct ft:Expr)(fo:Nat)(cH gf:Expr)(hC:Nat)(dc li:Expr)(kO:Nat)(lW lZ:Expr)(n':Nat)(rf rl:Expr)(td:Nat)(wJ rm:Expr)(Fo:Nat)(I3 zG:Expr)(h:ok c (.add (.add (.mulL bk bW) (.add (.mulL b2 ct) (.add (.mulL fo cH) (.add (.mulL hC dc) (.add (.mulL kO lW) (.add (.mulL n' rf) (.add (.mulL td wJ) (.mulL Fo I3)))))))) (.mulL k (.add b (.num 1)))) (.add (.add (.mulL bk ez) (.add (.mulL b2 ft) (.add (.mulL fo gf) (.add (.mulL hC li) (.add (.mulL kO lZ) (.add (.mulL n' rl) (.add (.mulL td rm) (.mulL Fo zG)))))))) (.mulL k a)) 0=true)(b0:b' c bW<=b' c ez)(bO:b' c ct<=b' c ft)(eJ:b' c cH<=b' c gf)(gH:b' c dc<=b' c li)(kl:b' c lW<=b' c lZ)(qD:b' c rf<=b' c rl)(GA:b' c wJ<=b' c rm)(adU:b' c I3<=b' c zG):b' c a<=b' c b:=fI c k a b _ _ h (ad c (mk c bk b0) (ad c (mk c b2 bO) (ad c (mk c fo eJ) (ad c (mk c hC gH) (ad c (mk c kO kl) (ad c (mk c n' qD) (ad c (mk c td GA) (mk c Fo adU))))))))
noncomputable abbrev al:Expr:=.var 0
noncomputable abbrev ax:Expr:=.var 1
noncomputable abbrev aT:Expr:=.var 2
noncomputable abbrev cs:Expr:=.var 3
noncomputable abbrev fA:Expr:=.var 4
noncomputable abbrev i':Expr:=.var 5
noncomputable abbrev zu:Expr:=.var 6
noncomputable abbrev zv:Expr:=.var 7
noncomputable abbrev akS:Expr:=.var 8
noncomputable abbrev akT:Expr:=.var 9
noncomputable abbrev akQ:Expr:=.var 10
noncomputable abbrev akR:Expr:=.var 11
noncomputable abbrev en:Expr:=.num 0
noncomputable abbrev ek:Expr:=.num 1
noncomputable abbrev Ns(e:Expr):Expr:=.add e ek
theorem fM{a b:Nat}(h:b<=a):a-b+b<=a:=Nat.le_of_eq (Nat.sub_add_cancel h)
theorem akq{a b:Nat}(h:a<=b):a-b<=0:=Nat.le_of_eq (Nat.sub_eq_zero_of_le h)
theorem fW(a b:Nat):a<=a-b+b:=Nat.sub_le_iff_le_add.mp (Nat.le_refl _)
theorem i7{a b:Nat}(h:a=b):b<=a:=Nat.le_of_eq h.symm
theorem nB(h:1<=0):False:=Nat.not_succ_le_zero 0 h
end Mine.Internal
end
open PySem PySem.W PySem.Calls PyProof.Rows
namespace Mine.Internal
noncomputable def pm(p:mI)(w:i9)(m7:Nat)(rh:Option ab)(n:Nat):pS->Thread->Option pS:=
 @SV (λ_=>pS->Thread->Option pS) (λ_ _=>none)
  (λ_ aJ s t=>match Qs t with
   |true=>some s
   |false=>match RP m7 rh t with
    |false=>none
    |true=>match RL (RM RN) p w s t with
     |some (ah,c9)=>aJ ah c9
     |none=>none) n
theorem Pj{p:mI}{w:i9}{m7:Nat}{rh:Option ab}:∀{n:Nat}{s r:pS}{t:Thread},pm p w m7 rh n s t=some r->topRun BK p w m7 rh n s.abs t=some r.abs
 |0,_,_,_,h=>by cases h
 |n+1,s,r,t,h=>by
  unfold topRun
  rw[show pm p w m7 rh (n+1) s t=(match Qs t with
   |true=>some s
   |false=>match RP m7 rh t with
    |false=>none
    |true=>match RL (RM RN) p w s t with
     |some (ah,c9)=>pm p w m7 rh n ah c9
     |none=>none) from rfl,<-Fast.te6613529449190102663,<-Fast.te10156331382660048174,<-Fast.te11892475500146522536,<-Fast.te14364793385576792824] at h
  cases bn:Qs t with
  |true=>rw[bn] at h;cases h;rfl
  |false=>
   rw[bn] at h
   cases aM:stepOk m7 rh t with
   |false=>rw[aM] at h;cases h
   |true=>
    rw[aM] at h
    cases aP:stepT (wV BK) p w s t with
    |none=>rw[aP] at h;cases h
    |some q=>obtain⟨cR,gT⟩:=q;rw[aP] at h;rw[stepT_spec aP];exact Pj h
noncomputable def ach(m:List cV):BT×Nat:=m.foldl (λa A=>(a.1.ins a.2 A,a.2+1)) (.nil,0)
noncomputable def DB(P:oL):BT:=(ach (j8 P).objs.toList).1
theorem boot_abs(P:oL):I4 (DB P) 11 (j8 P).life=j8 P:=by kernel_rfl
noncomputable def ra(w:i9)(os:kx):pS:=⟨DB w.params,11,(j8 w.params).life,#[],zN,zO,os⟩
noncomputable abbrev sK(w:i9):Option ab:=(j8 w.params).nsMap gh "__annotations__"
theorem UF(P:oL):((j8 P).isNs gh,(j8 P).objs.size)=(true,11):=by kernel_rfl
theorem LeftO.acZ{p q:mI}{vc:List I}{IZ:ay->Bool}{ap cw:Nat}{w4:Bool}
 (e:opening p=plainProg p.main.scope.names) (f:∀s,X0 p s=some s) (fu:pP 600 ap=true) (le:pP cw ap=true)
 (run:∀(w:i9)(os:kx),(pm p w 11 (sK w) cw (ra w os) (vH p)).map (λs=>((P5 (AM p.main.body) (j8 w.params) s.abs.heap&&NO p s.abs.heap&&K7 s.abs&&M2 (j8 w.params) s.abs.heap),
  RO q vc (AM p.main.body) IZ w4 s.abs))=some (true,openGood q vc))
 {α:Type} {I1:ay->α} {I0:i9->α} (bD:∀(w:i9)(os:kx)(s:pS),pm p w 11 (sK w) cw (ra w os) (vH p)=some s->I1 s.abs=I0 w):LeftO p q vc IZ I1 I0 ap w4:=λw=>by
 obtain⟨⟨h,kL,d,k,os⟩,e,cm⟩:=hL.mp (boot_open e fu f w)
 obtain⟨rfl,rfl,rfl,rfl⟩:h=j8 w.params∧kL= #[]∧d=zN∧k=zO:=by simpa using cm
 obtain⟨s,oi,m⟩:=hL.mp (run w os)
 obtain⟨cQ,cM⟩:_∧_:=by simpa only[CR] using m
 have abx:=bD w os s oi
 have r:=topRun_mono (ap-cw) _ _ _ _ (Pj oi)
 rw[show cw+(ap-cw)=ap by have:=q7 le;omega] at r
 have b7:(ra w os).abs=⟨j8 w.params,#[],zN,zO,os⟩:=by
  show(⟨I4 (DB w.params) 11 (j8 w.params).life,#[],zN,zO,os⟩:ay)=_
  rw[boot_abs]
 rw[b7] at r
 have z:=UF w.params
 obtain⟨qR,i3⟩:_∧_:=by simpa only[CR] using z
 have t:Qx BK p w ap ⟨j8 w.params,#[],zN,zO,os⟩=some s.abs:=by
  unfold Qx
  dsimp only
  rw[qR,i3,show(true&&(#[]:Array pI).size==0)=true from rfl]
  dsimp only
  rw[r]
  show(match P5 (AM p.main.body) (j8 w.params) s.abs.heap&&NO p s.abs.heap&&K7 s.abs&&M2 (j8 w.params) s.abs.heap with |true=>_ |false=>_)=_
  rw[cQ]
 unfold openEnds
 rw[e]
 show(Qx BK p w ap _).map _=_
 rw[t]
 rw[<-Fast.te4187177175401517315] at cM
 exact congrArg some (S7 cM abx)
def oY(t:BT)(n:Nat):cb:=(iM n).map λa=>(a,(t.get a).getD default)
def aaZ:Option cV->Bool
 |some ⟨_,_,.freed,_⟩=>false
 |some _=>true
 |none=>false
def C9(t:BT)(n:Nat):Bool:=(iM n).all λa=>aaZ (t.get a)
theorem Yg{s:pS}{n:Nat}(aO:n<=s.n)(e:C9 s.tree n=true):(oY s.tree n).In s.abs.heap:=by
 have g:∀a,a<n->s.abs.heap.get? a=some ((s.tree.get a).getD default):=by
  intro a ar
  have:=i8.mp e a (Cv.mpr ar)
  cases q:s.tree.get a with
  |none=>rw[q] at this;cases this
  |some A=>
   rw[q] at this
   show(I4 s.tree s.n s.life).get? a=_
   rw[abs_get (oK ar aO) q]
   obtain⟨c,d,D5,e8⟩:=A
   cases D5 <;> first |rfl |cases this
 intro a A az
 have gR:∀m:List Nat,(m.map λa=>(a,(s.tree.get a).getD default)).lookup a=some A->a∈m∧A=(s.tree.get a).getD default:=by
  intro m
  induction m with
  |nil=>intro e;cases e
  |cons x r aJ=>
   intro e
   rw[iL,kt] at e
   split at e
   ·rename_i q
    have:=beq_iff_eq.mp q
    subst this
    cases e
    exact⟨.head _,rfl⟩
   ·exact⟨.tail _ (aJ e).1,(aJ e).2⟩
 obtain⟨hm,az⟩:=gR _ az
 rw[az];exact g a (Cv.mp hm)
def aey(F:cb->Prop):Hook where
 α:=Prop
 obs s:=∃K:cb,K.In s.heap∧F K
 val _:=True
 says _ h:=∃K:cb,K.In h∧F K
 of _ _ e:=of_eq_true e
 keeps _ _ _:=fun⟨K,x,e⟩k=>⟨K,x.keeps k,e⟩
def C1(p:mI)(cw n:Nat){α:Type}(f:cb->α)(r:α):Prop:=
 ∀(w:i9)(os:kx),(pm p w 11 (sK w) cw (ra w os) (vH p)).map (λs=>(pP n s.n&&C9 s.tree n,f (oY s.tree n)))=some (true,r)
theorem C1.of{p:mI}{cw n:Nat}{α:Type}{f:cb->α}{r:α}(x:C1 p cw n f r){w:i9}{os:kx}{s:pS}(e:pm p w 11 (sK w) cw (ra w os) (vH p)=some s):(oY s.tree n).In s.abs.heap∧f (oY s.tree n)=r:=by
 have:=x w os
 rw[e] at this
 obtain⟨a,b⟩:=Prod.mk.inj (dq this)
 obtain⟨bW,ct⟩:=gk.mp a
 exact⟨Yg (q7 bW) ct,b⟩
noncomputable def aH:mI:=PySem.Challenge.pw_rr0099_02
def wa(w:i9):Prop:=∀(pw:i9)(os:kx)(s:pS),pm aH pw 11 (sK pw) 4400 (ra pw os) (vH aH)=some s->∀(bd:ay)(tt jj:I->Option ab)(uL a:aa)(T:List ab)(ns:List Int)(vc:List I)(NF:ExcName->Option ab)(view:mI)(an aA:ab->ay->Prop),
 (oY s.tree 638).In bd.heap->Top view vc NF tt jj bd.heap->bd.heap.NoSeer->tt "law"=some (.ref uL)->bd.heap.IsList a T.toArray->IntsAre T ns->ns.length<=63->
 (∀ah,(∀b A,bd.heap.get? b=some A->ah.heap.get? b=some A)->ah.os=bd.os->ah.gens=bd.gens->an (.bool true) ah)->a9 (a1 aH w) DF (call (.ref uL) [.ref a]) an aA bd
noncomputable def w:i9:= @akd i9 ⟨{draws:=λ_ _=>0,params:={strHash:=λ_=>0,shareClass:=λ_=>0,mergeTok:=id,idOf:=λ_=>0,idOfShared:=λ_ _=>0,followText:=λ_=>false,idOfImm:=λ_=>0}}⟩ λw=>¬wa w
theorem TM(h:wa w)(v:i9):wa v:=lM λn=>ake (p:=λw=>¬wa w) ⟨v,n⟩ h
section
set_option genCtorIdx false
theorem ge{G:Prop}(h:∀P:Prop,(G->P)->P):G:=h G id
inductive L where
 |none
 |bool (b:Bool)
 |int (i:Int)
 |str (x:I)
 |tup (m:List L)
 |loc (n:Nat)
 |val (v:ab)
noncomputable def L.ctorIdx(a:L):Nat:= @L.casesOn (λo=>Nat) a 0 (λo=>1) (λo=>2) (λo=>3) (λo=>4) (λo=>5) λo=>6
theorem c1{α:Type}{x:Option α}{a:α}{P:Prop}(h:x=some a)(k:x=none):P:=by cases h.symm.trans k
noncomputable def ut{α:Type}(d:α)(Ad:Int->α)(kd:I->α)(k:L):α:= @L.casesOn (λo=>α) k d (λo=>d) Ad kd (λo=>d) (λo=>d) λo=>d
noncomputable def iw:L->Option Int:=ut none some λo=>none
noncomputable def pX:L->Option I:=ut none (λo=>none) some
noncomputable def kF(k:L):Option (List L):= @L.casesOn (λo=>Option (List L)) k none (λo=>none) (λo=>none) (λo=>none) some (λo=>none) λo=>none
noncomputable def rj(k:L):Option Nat:= @L.casesOn (λo=>Option Nat) k none (λo=>none) (λo=>none) (λo=>none) (λo=>none) some λo=>none
theorem uq{a:L}{x:Int}:iw a=some x->a=.int x:= @L.casesOn (λa=>iw a=some x->a=.int x) a (λh=>c1 h rfl) (λo h=>c1 h rfl) (λo h=>congrArg L.int (dq h)) (λo h=>c1 h rfl) (λo h=>c1 h rfl) (λo h=>c1 h rfl) (λo h=>c1 h rfl)
theorem sH{a:L}{x:I}:pX a=some x->a=.str x:= @L.casesOn (λa=>pX a=some x->a=.str x) a (λh=>c1 h rfl) (λo h=>c1 h rfl) (λo h=>c1 h rfl) (λo h=>congrArg L.str (dq h)) (λo h=>c1 h rfl) (λo h=>c1 h rfl) (λo h=>c1 h rfl)
theorem rk{a:L}{x:List L}:kF a=some x->a=.tup x:= @L.casesOn (λa=>kF a=some x->a=.tup x) a (λh=>c1 h rfl) (λo h=>c1 h rfl) (λo h=>c1 h rfl) (λo h=>c1 h rfl) (λo h=>congrArg L.tup (dq h)) (λo h=>c1 h rfl) (λo h=>c1 h rfl)
theorem wL{a:L}{x:Nat}:rj a=some x->a=.loc x:= @L.casesOn (λa=>rj a=some x->a=.loc x) a (λh=>c1 h rfl) (λo h=>c1 h rfl) (λo h=>c1 h rfl) (λo h=>c1 h rfl) (λo h=>c1 h rfl) (λo h=>congrArg L.loc (dq h)) (λo h=>c1 h rfl)
noncomputable def De(k:L):Option Bool:= @L.casesOn (λo=>Option Bool) k nF some (λo=>nF) (λo=>nF) (λo=>nF) (λo=>nF) (λo=>nF)
theorem T0{a:L}{x:Bool}:De a=some x->a=.bool x:= @L.casesOn (λa=>De a=some x->a=.bool x) a (λh=>c1 h rfl) (λo h=>congrArg L.bool (dq h)) (λo h=>c1 h rfl) (λo h=>c1 h rfl) (λo h=>c1 h rfl) (λo h=>c1 h rfl) (λo h=>c1 h rfl)
noncomputable def Dh(k:L):Option ab:= @L.casesOn (λo=>Option ab) k nF (λo=>nF) (λo=>nF) (λo=>nF) (λo=>nF) (λo=>nF) some
theorem T6{a:L}{x:ab}:Dh a=some x->a=.val x:= @L.casesOn (λa=>Dh a=some x->a=.val x) a (λh=>c1 h rfl) (λo h=>c1 h rfl) (λo h=>c1 h rfl) (λo h=>c1 h rfl) (λo h=>c1 h rfl) (λo h=>c1 h rfl) (λo h=>congrArg L.val (dq h))
noncomputable def p8{α bq:Type} [DecidableEq bq]{f:α->Option bq}{a:α}{x:bq}(h:f a=some x)(k:∀{b},f b=some x->b=a)(b:α):Decidable (a=b):=decidable_of_iff (f b=some x) ⟨λe=>(k e).symm,λe=>e▸h⟩
noncomputable def L.eq(a:L):∀b:L,Decidable (a=b):=
 @L.rec (λa=>∀b,Decidable (a=b)) (λm=>∀N,Decidable (m=N))
  (@L.casesOn (λb=>Decidable (L.none=b)) · (.isTrue rfl) (λo=>.isFalse λe=>by cases e) (λo=>.isFalse λe=>by cases e) (λo=>.isFalse λe=>by cases e) (λo=>.isFalse λe=>by cases e) (λo=>.isFalse λe=>by cases e) λo=>.isFalse λe=>by cases e)
  (λx=> @p8 L Bool _ De (.bool x) x rfl T0)
  (λx=> @p8 L Int _ iw (.int x) x rfl uq) (λx=> @p8 L I _ pX (.str x) x rfl sH)
  (λm aJ b=> @Option.rec _ (λA=>kF b=A->Decidable (.tup m=b)) (λh=>.isFalse λe=>by subst e;cases h) (λN h=> @decidable_of_iff (.tup m=b) (m=N) ⟨λe=>e▸(rk h).symm,λe=>by subst e;exact dq h⟩ (aJ N)) (kF b) rfl)
  (λx=> @p8 L Nat _ rj (.loc x) x rfl wL)
  (λx=> @p8 L ab _ Dh (.val x) x rfl T6)
  (λN=> @HY _ (λN=>Decidable ([]=N)) N (.isTrue rfl) λo o=>.isFalse λe=>by cases e)
  (λa r i j N=> @HY _ (λN=>Decidable (a::r=N)) N (.isFalse λe=>by cases e) λb t=> @decidable_of_iff _ (a=b∧r=t) (sq ..▸R0) (@instDecidableAnd _ _ (i b) (j t))) a
noncomputable instance:DecidableEq L:=L.eq
inductive aQ where
 |list (m:List L)
 |cj (m:List (I×L))
 |b5 (m:List (List L×L))
 |inst (Q:aa) (d:Nat)
noncomputable def aQ.ctorIdx(A:aQ):Nat:= @aQ.casesOn (λo=>Nat) A (λo=>0) (λo=>1) (λo=>2) λo o=>3
noncomputable def zC(A:aQ):Option (List L):= @aQ.casesOn (λo=>Option (List L)) A some (λo=>none) (λo=>none) λo o=>none
noncomputable def Dg(A:aQ):Option (List (I×L)):= @aQ.casesOn (λo=>Option (List (I×L))) A (λo=>none) some (λo=>none) λo o=>none
noncomputable def wM(A:aQ):Option (List (List L×L)):= @aQ.casesOn (λo=>Option (List (List L×L))) A (λo=>none) (λo=>none) some λo o=>none
noncomputable def Df(A:aQ):Option (aa×Nat):= @aQ.casesOn (λo=>Option (aa×Nat)) A (λo=>none) (λo=>none) (λo=>none) λQ d=>some (Q,d)
theorem Ji{A:aQ}{m:List L}:zC A=some m->A=.list m:= @aQ.casesOn (λA=>zC A=some m->A=.list m) A (λ_  h=>congrArg aQ.list (dq h)) (λ_  h=>c1 h rfl) (λ_  h=>c1 h rfl) (λ_ _  h=>c1 h rfl)
theorem T5{A:aQ}{m:List (I×L)}:Dg A=some m->A=.cj m:= @aQ.casesOn (λA=>Dg A=some m->A=.cj m) A (λ_  h=>c1 h rfl) (λ_  h=>congrArg aQ.cj (dq h)) (λ_  h=>c1 h rfl) (λ_ _  h=>c1 h rfl)
theorem Jj{A:aQ}{m:List (List L×L)}:wM A=some m->A=.b5 m:= @aQ.casesOn (λA=>wM A=some m->A=.b5 m) A (λ_  h=>c1 h rfl) (λ_  h=>c1 h rfl) (λ_  h=>congrArg aQ.b5 (dq h)) (λ_ _  h=>c1 h rfl)
theorem T4{A:aQ}{m:aa×Nat}:Df A=some m->A=.inst m.1 m.2:= @aQ.casesOn (λA=>Df A=some m->A=.inst m.1 m.2) A (λ_  h=>c1 h rfl) (λ_  h=>c1 h rfl) (λ_  h=>c1 h rfl) (λ_ _  h=>congrArg (λp:aa×Nat=>aQ.inst p.1 p.2) (dq h))
noncomputable instance:DecidableEq aQ:=λa=> @aQ.casesOn (λa=>∀b,Decidable (a=b)) a (λo=>p8 (f:=zC) rfl Ji) (λo=>p8 (f:=Dg) rfl T5) (λo=>p8 (f:=wM) rfl Jj) λQ d=>p8 (f:=Df) (x:=(Q,d)) rfl T4
noncomputable abbrev St:=List aQ
noncomputable abbrev aI:=List (Option L)
inductive ao(α:Type)where
 |ok (a:α) (l:St)
 |exc (cq:L) (l:St)
 |fail
noncomputable def ao.ctorIdx{α:Type}(a:ao α):Nat:= @ao.casesOn α (λo=>Nat) a (λo o=>0) (λo o=>1) 2
noncomputable def ao.bind{α bq:Type}(r:ao α)(f:α->St->ao bq):ao bq:=match r with
 |.ok a l=>f a l
 |.exc s l=>.exc s l
 |.fail=>.fail
@[simp] theorem ao.nS {α bq:Type} (a:α) (l:St) (f:α->St->ao bq):(ao.ok a l).bind f=f a l:=rfl
noncomputable def ao.g'{α:Type}:ao α->ao α
 |.ok a l=>.ok a l
 |_=>.fail
inductive dg where
 |next
 |ret (v:L)
noncomputable def dg.ctorIdx(a:dg):Nat:= @dg.casesOn (λo=>Nat) a 0 λo=>1
inductive e3 where
 |one (i:Nat)
 |many (m:List Nat)
noncomputable def e3.ctorIdx(a:e3):Nat:= @e3.casesOn (λo=>Nat) a (λo=>0) λo=>1
noncomputable def L.isVal:L->Bool
 |.val _=>true
 |_=>false
set_option genInjectivity false in
mutual
inductive bB where
 |const (a:L)
 |var (i:Nat)
 |glob (x:I) (a:L)
 |bin (op:nE) (a b:bB)
 |not (a:bB)
 |fm (op:i4) (T:dH)
 |ji (t a b:bB)
 |cmp (op:nu) (a b:bB)
 |tuple (af:dH)
 |list (af:dH)
 |km (aY:List I) (af:dH)
 |hX
 |idx (a i:bB)
 |slice (a lo aR:bB)
 |attr (a:bB) (name:I) (Q:aa)
 |call (x:I) (f:aa) (as:dH)
 |d2 (A:bB) (name:I) (Q f:aa) (as:dH)
 |super (name:I) (Q f:aa) (as:dH)
 |new (x:I) (Q f:aa) (as:dH)
 |bi (x:I) (a:bB)
 |qI (a:bB)
 |jQ (A a:bB)
 |vf (A a:bB)
 |comp (pure:Bool) (bZ:bB) (t:e3) (it:iH) (dK:dH)
 |l0 (pure:Bool) (bZ:bB) (t:e3) (it:iH) (c9:e3) (me:iH) (fR:dH)
 |mS (alA:dH)
 |c5 (e:bB)
inductive dH where
 |nil
 |cons (e:bB) (r:dH)
inductive iH where
 |ex (e:bB)
 |range (e:bB)
 |zip (a b:bB)
end
set_option genInjectivity false in
mutual
inductive mu where
 |assign (i:Nat) (e:bB)
 |unpack (is:List Nat) (e:bB)
 |jV (is:List Nat) (af:dH)
 |setItem (A k v:bB)
 |setAttr (A:bB) (name:I) (Q:aa) (v:bB)
 |expr (e:bB)
 |iff (t:bB) (a b:ec)
 |for (pure:Bool) (t:e3) (it:iH) (body:ec)
 |while (t:bB) (body:ec)
 |ret (e:bB)
 |raise (text cq:bB)
 |r7 (e:bB) (c:L)
inductive ec where
 |nil
 |cons (s:mu) (r:ec)
 |any
end
noncomputable def un{α bq:Type}(f:α->Option bq)(m:List α):Option (List bq):= @ss _ (λo=>Option (List bq)) (some []) (λa o aJ=>(f a).bind λx=>aJ.map (x :: ·)) m
noncomputable def tL(m:List L):Bool:=m.all (ut false (λo=>true) λo=>true)
noncomputable def kQ:List L->Option (List I):=un pX
noncomputable def tg:List L->Option (List (List I)):=un λa=>(kF a).bind kQ
noncomputable def ig(a b:I):Bool:=decide (a.cps.toList<b.cps.toList)
noncomputable def e0:List I->List I->Bool
 |[],[]=>false
 |[],_::_=>true
 |_::_,[]=>false
 |a::r,b::t=>if a=b then e0 r t else ig a b
noncomputable def tf{α:Type}(lt:α->α->Bool)(x:α):List α->List α
 |[]=>[x]
 |y::r=>if lt x y then x::y::r else y::tf lt x r
noncomputable def eE{α:Type}(lt:α->α->Bool):List α->List α
 |[]=>[]
 |x::r=>tf lt x (eE lt r)
noncomputable def nd(m:List L):Option (List L):=
 if 63<m.length then none else
 match kQ m with
 |some Y=>some ((eE ig Y).map .str)
 |none=>match tg m with
  |some cE=>if cE.all (λr=> !r.isEmpty) then some ((eE e0 cE).map λr=>.tup (r.map .str)) else none
  |none=>none
noncomputable def eU{α:Type} [DecidableEq α]:List α->List α
 |[]=>[]
 |x::r=>if x∈r then eU r else x::eU r
noncomputable def dm(l:St):L->Option (List L×Option (Nat×aQ))
 |.tup m=>some (m,none)
 |.loc n=>match l[n]? with
  |some (.list m)=>some (m,some (n,.list m))
  |some (.cj m)=>some (m.map (λp=>.str p.1),some (n,.cj m))
  |some (.b5 m)=>some (m.map (λp=>.tup p.1),some (n,.b5 m))
  |_=>none
 |_=>none
noncomputable def ob(l:St):L->Option (List L×Option (Nat×aQ))
 |.str x=>if x.cps.all (· < 128) then some (x.cps.toList.map λc=>.str ⟨#[c]⟩,none) else none
 |a=>dm l a
noncomputable def gP(l:St):Option (Nat×aQ)->Bool
 |none=>true
 |some (n,A)=>decide (l[n]? =some A)
noncomputable def jP:Option (Nat×aQ)->Bool
 |none |some (_,.list _)=>true
 |_=>false
noncomputable def oh:Nat->L->Bool
 |_,.none |_,.bool _ |_,.int _ |_,.str _=>true
 |n+1,.tup m=>m.all (oh n)
 |_,_=>false
noncomputable def na(a:L):Bool:=oh 6 a
noncomputable def iY(m:List L):Bool:=m.all (oh 5)
noncomputable def b8:Nat:=100000
noncomputable def Bq:Nat:=4
mutual
noncomputable def kS:L->L->Bool
 |.bool _,.int _=>false
 |.int _,.bool _=>false
 |.tup a,.tup b=>rO a b
 |_,_=>true
noncomputable def rO:List L->List L->Bool
 |a::r,b::t=>kS a b&&rO r t
 |_,_=>true
end
noncomputable def h5(l:St):L->Option (List L)
 |.loc n=>(match l[n]? with
  |some (.list m)=>some m
  |_=>none)
 |_=>none
noncomputable def sQ:aQ->aQ->Option Bool
 |.list x,A=>(zC A).bind λy=>if iY x&&iY y&&rO x y then some (decide (x=y)) else none
 |.b5 x,A=>(wM A).bind λy=>if y=[] then some (decide (x=[])) else if x=[] then some false else none
 |_,_=>none
noncomputable def h9(l:St)(a b:L):Option Bool:=
 if na a&&na b&&kS a b then some (decide (a=b)) else(rj a).bind λi=>(rj b).bind λj=>(l[i]?).bind λx=>(l[j]?).bind λy=>sQ x y
noncomputable def Fs(a:L)(m:List L):Option Bool:=if na a&&iY m&&m.all (λy=>kS y a) then some (decide (a∈m)) else none
noncomputable def AN(a:L):aQ->Option Bool
 |.list m=>Fs a m
 |.cj m=>(pX a).bind λx=>some (decide (x∈m.map (·.1)))
 |.b5 m=>(kF a).bind λk=>if tL k then some (decide (k∈m.map (·.1))) else none
 |.inst _ _=>none
noncomputable def o9(l:St)(a b:L):Option Bool:=
 match b with
 |.tup m=>Fs a m
 |b=>(rj b).bind λn=>(l[n]?).bind (AN a)
noncomputable def wT(l:St)(op:nu)(a b:L):Option L:=
 match op with
 |.Eq=>(h9 l a b).map .bool
 |.NotEq=>(h9 l a b).map λr=>.bool (!r)
 |.Lt=>(iw a).bind λi=>(iw b).bind λj=>some (.bool (decide (i<j)))
 |.LtE=>(iw a).bind λi=>(iw b).bind λj=>some (.bool (decide (i<=j)))
 |.Gt=>(iw a).bind λi=>(iw b).bind λj=>some (.bool (decide (i>j)))
 |.Is=>if b=.none∧a.isVal=false then some (.bool (decide (a=.none))) else none
 |.IsNot=>if b=.none∧a.isVal=false then some (.bool (!decide (a=.none))) else none
 |.In=>(o9 l a b).map .bool
 |.NotIn=>(o9 l a b).map λr=>.bool (!r)
 |.GtE=>none
noncomputable def intOp:nE->Int->Int->Option Int
 |.Sub,i,j=>some (i-j)
 |.Mult,i,j=>if i.natAbs<b8*b8 then some (i*j) else none
 |.Mod,i,j=>if 0<j∧j<10000*b8 then some (i.emod j) else none
 |.FloorDiv,i,j=>if 0<j∧j<10000*b8 then some (i.ediv j) else none
 |_,_,_=>none
noncomputable def kW(l:St)(A:aQ):L×St:=(.loc l.length,l++[A])
noncomputable def zy(l:St):L->L->Option (L×St)
 |.int i,b=>(match b with
  |.int j=>some (.int (i+j),l)
  |_=>none)
 |.str x,b=>(match b with
  |.str y=>if x.cps.size+y.cps.size<b8 then some (.str (x++y),l) else none
  |_=>none)
 |.tup x,b=>(match b with
  |.tup y=>if x.length+y.length<b8 then some (.tup (x++y),l) else none
  |_=>none)
 |a,b=>(h5 l a).bind λx=>(h5 l b).bind λy=>if x.length+y.length<b8 then some (kW l (.list (x++y))) else none
noncomputable def wR(l:St):nE->L->L->Option (L×St)
 |.Add,a,b=>zy l a b
 |op,a,b=>(iw a).bind λi=>(iw b).bind λj=>(intOp op i j).map λk=>(.int k,l)
noncomputable def j6{α:Type}(m:List α)(i:Int):Option α:=
 if 0<=i then m[i.toNat]? else none
noncomputable def Uj{α:Type}(f:List L->α)(g:Nat->α)(d:α)(k:L):α:= @L.casesOn (λo=>α) k d (λo=>d) (λo=>d) (λo=>d) f g λo=>d
noncomputable def te(i:L)(A:aQ):Option L:= @aQ.casesOn (λo=>Option L) A (λm=>(iw i).bind (j6 m)) (λm=>(pX i).bind λx=>m.lookup x) (λo=>none) λo o=>none
noncomputable def AI(l:St)(a i:L):Option L:=Uj (λm=>(iw i).bind (j6 m)) (λn=>(l[n]?).bind (te i)) none a
noncomputable def kk{α:Type}(j:Int)(Y:List α):List α:=(sliceRange (yh none (some j) none Y.length).1 (yh none (some j) none Y.length).2.1 (yh none (some j) none Y.length).2.2).filterMap (Y[·]?)
noncomputable def yg(l:St)(a lo aR:L):Option (L×St):=(pX a).bind λx=>(iw aR).bind λj=>if lo=.none∧fy (C4 x none (some j))=true∧x.cps.size<b8 then some (.str (C4 x none (some j)),l) else none
noncomputable def rK(l:St)(Q:aa):L->Option (Nat×Nat)
 |.loc n=>(match l[n]? with
  |some (.inst kq d)=>if kq=Q then some (n,d) else none
  |_=>none)
 |_=>none
noncomputable def nc(l:St)(d:Nat):Option (List (I×L)):=match l[d]? with
 |some (.cj m)=>some m
 |_=>none
noncomputable def wO(l:St)(a:L)(x:I)(Q:aa):Option L:=(rK l Q a).bind λp=>(nc l p.2).bind λm=>(m.lookup x).bind λv=>cond v.isVal none (some v)
noncomputable def e6{cp:Type} [DecidableEq cp](k:cp)(v:L):List (cp×L)->List (cp×L)
 |[]=>[(k,v)]
 |p::r=>if p.1=k then(k,v):: r else p::e6 k v r
mutual
noncomputable def f0:L->Bool
 |.loc _=>false
 |.tup m=>xR m
 |_=>true
noncomputable def xR:List L->Bool
 |[]=>true
 |a::r=>f0 a&&xR r
end
noncomputable def hP(aC n:Nat)(v:L):Bool:=decide (aC<=n)|| f0 v
noncomputable def putIn:aQ->L->L->Option aQ
 |.cj m,k,v=>(pX k).bind λx=>if m.length<b8 then some (.cj (e6 x v m)) else none
 |.b5 m,k,v=>(kF k).bind λt=>if tL t=true∧m.length<b8 then some (.b5 (e6 t v m)) else none
 |_,_,_=>none
noncomputable def lA(aC:Nat)(l:St)(A k v:L):Option St:=(rj A).bind λn=>if hP aC n v=false then none else(l[n]?).bind λc3=>(putIn c3 k v).map (l.set n)
noncomputable def ye(aC:Nat)(l:St)(A:L)(x:I)(Q:aa)(v:L):Option St:=(rK l Q A).bind λp=>(nc l p.2).bind λm=>if m.length<100∧hP aC p.2 v=true then some (l.set p.2 (.cj (e6 x v m))) else none
noncomputable def tn(l:St):L->Option Nat
 |.tup m=>some m.length
 |.loc n=>(match l[n]? with
  |some (.list m)=>some m.length
  |some (.cj m)=>some m.length
  |_=>none)
 |_=>none
noncomputable def Qv:L->Option Int
 |.int i=>some i
 |.bool b=>some (cond b 1 0)
 |_=>none
noncomputable def MA(a:L):Option (L×L):=(kF a).bind λm=>match m with
 |[]=>none
 |a::r=>(match r with
  |[]=>none
  |b::t=>cond t.isEmpty (some (a,b)) none)
noncomputable def Fy:List L->Option (List (L×L)):=un MA
noncomputable def FW(m:List L):Option (List (I×L)):=if b8<=m.length then none else(Fy m).bind λd6=>(kQ (d6.map (·.1))).map λaY=>(aY.zip (d6.map (·.2))).foldl (λd q=>e6 q.1 q.2 d) []
noncomputable def hA(l:St)(x:I)(a:L):Option (L×St):=
 if x=("len":I) then(tn l a).map λn=>(.int n,l)
 else if x=("int":I) then(Qv a).map λi=>(.int i,l)
 else if x=("sorted":I) then(dm l a).bind λp=>(nd p.1).map λr=>kW l (.list r)
 else if x=("tuple":I) then(dm l a).bind λp=>if jP p.2 then some (.tup p.1,l) else none
 else if x=("list":I) then(dm l a).map λp=>kW l (.list p.1)
 else if x=("dictS":I) then(h5 l a).bind λm=>(FW m).map λd=>kW l (.cj d)
 else none
noncomputable def ht:List Nat->List L->aI->Option aI
 |[],[],C=>some C
 |i::is,a::as,C=>ht is as (C.set i (some a))
 |_,_,_=>none
noncomputable def nR(t:e3)(v:L)(C:aI):Option aI:=
 match t,v with
 |.one i,v=>some (C.set i (some v))
 |.many is,.tup m=>ht is m C
 |_,_=>none
noncomputable def e3.slots:e3->List Nat
 |.one i=>[i]
 |.many m=>m
noncomputable def kb(is:List Nat)(C:aI):aI:=is.foldl (λC i=>C.set i none) C
noncomputable def opt{α:Type}(A:Option α)(l:St):ao α:=match A with |some a=>.ok a l |none=>.fail
noncomputable def eC{α:Type}(A:Option (α×St)):ao α:=match A with |some (a,l)=>.ok a l |none=>.fail
noncomputable def oQ(aC:Nat)(x v:L)(l:St):ao L:=match x with
 |.loc n=>(match l[n]? with
  |some (.list m)=>if m.length<b8∧hP aC n v=true then .ok .none (l.set n (.list (m++[v]))) else .fail
  |_=>.fail)
 |_=>.fail
noncomputable def tI(x v:L)(l:St):ao L:=match v with
 |.str y=>(match x with
  |.loc n=>(match l[n]? with
   |some (.list m)=>if (kQ m).isSome∧.str y∈m then .ok .none (l.set n (.list (m.erase (.str y)))) else .fail
   |_=>.fail)
  |_=>.fail)
 |_=>.fail
structure cS where
 bp:Nat->aa->List L->St->ao L
 aC:Nat
noncomputable def cS.call(X:cS)(f:aa)(Y:List L)(l:St):ao L:=X.bp X.aC f Y l
noncomputable def cS.up(X:cS)(n:Nat):cS:=⟨X.bp,n⟩
noncomputable def ao.cut(n:Nat):ao L->ao L
 |.ok v l=>if f0 v=true then .ok v (l.take n) else .fail
 |.exc v l=>if f0 v=true then .exc v (l.take n) else .fail
 |.fail=>.fail
noncomputable def j9(f:L->St->ao (List L))(g:Option (Nat×aQ)):List L->St->ao (List L)
 |[],l=>if gP l g then .ok [] l else .fail
 |a::r,l=>if gP l g then(f a l).g'.bind λx ak=>(j9 f g r ak).g'.bind λy=>.ok (x++y) else .fail
noncomputable def pieceOf:L->Option I
 |.str x=>if x.cps.size<b8 then some x else none
 |.int i=>if 0<=i∧i<10 then some (pT (toString i)) else none
 |_=>none
noncomputable def sM:List L->Option I
 |[]=>some ⟨#[]⟩
 |a::r=>(pieceOf a).bind λx=>(sM r).bind λy=>if x.cps.size+y.cps.size<b8 then some (x++y) else none
noncomputable def L.u4{α:Type}(t:ao α):L->ao α
 |.str _=>t
 |_=>.fail
noncomputable def L.hD{α:Type}(t e:ao α):L->ao α
 |.bool b=>cond b t e
 |_=>.fail
noncomputable def L.mc{α:Type}(t:ao α):L->ao α
 |.none=>t
 |_=>.fail
noncomputable def xO(l:St)(Q:aa)(name:I)(v:L):Option L:=(rK l Q v).bind λp=>(nc l p.2).bind λm=>if m.lookup name=none then some (.loc p.1) else none
noncomputable def yc(C:aI)(l:St)(Q:aa):Option L:=(C[0]?.join:Option L).bind λv=>(rK l Q v).map λp=>.loc p.1
noncomputable def rX(A:aQ)(l:St):ao L:=.ok (.loc l.length) (l++[A])
noncomputable def od(Y:List L)(l:St):ao L:=if Y.length<b8 then rX (.list Y) l else .fail
noncomputable def vy(m:List L):Option (List L):=(tg m).bind λcE=>if (eU cE).length<=Bq∧cE.all (λr=> !r.isEmpty) then some ((eE e0 (eU cE)).map λr=>.tup (r.map .str)) else none
noncomputable def x7(x:L):Option (List L×Option (Nat×aQ)):=(iw x).bind λi=>if 0<=i∧i<b8 then some ((iM i.toNat).map λk=>L.int (k:Nat),none) else none
noncomputable def B6(x y:L):Option (List L×Option (Nat×aQ)):=(kF x).bind λm=>(kF y).bind λN=>if m.length=N.length∧(m.length=1∨m.length=2) then some ((m.zip N).map λp=>.tup [p.1,p.2],none) else none
noncomputable def jn{α:Type}(t:e3)(C:aI)(k:aI->St->ao α)(a:L)(l:St):ao α:=(opt (nR t a C) l).bind k
noncomputable def iS(e5:aI->St->ao Bool)(ds:aI->St->ao L)(C:aI)(l:St):ao (List L):=(e5 C l).bind λb av=>if b then(ds C av).bind λx B7=>.ok [x] B7 else .ok [] av
noncomputable def ln(pure:Bool)(f:L->St->ao (List L))(p:List L×Option (Nat×aQ))(l:St):ao (List L):=if (jP p.2||pure)=false then .fail else j9 f p.2 p.1 l
mutual
noncomputable def aS:cS->bB->aI->St->ao L
 |X,.const a,_,l=>.ok a l
 |X,.var i,C,l=>opt (C[i]?.join) l
 |X,.glob _ a,_,l=>.ok a l
 |X,.bin op a b,C,l=>(aS X a C l).bind λx ak=>(aS X b C ak).bind λy a2=>eC (wR a2 op x y)
 |X,.not a,C,l=>(aS X a C l).bind λx ak=>x.hD (.ok (.bool false) ak) (.ok (.bool true) ak)
 |X,.fm op T,C,l=>uH X op T C l
 |X,.ji t a b,C,l=>(aS X t C l).bind λx ak=>x.hD (aS X a C ak) (aS X b C ak)
 |X,.cmp op a b,C,l=>(aS X a C l).bind λx ak=>(aS X b C ak).bind λy a2=>opt (wT a2 op x y) a2
 |X,.tuple af,C,l=>(fn X af C l).bind λY ak=>.ok (.tup Y) ak
 |X,.list af,C,l=>(fn X af C l).bind λY=>rX (.list Y)
 |X,.km aY af,C,l=>(fn X af C l).bind λY=>rX (.cj ((aY.zip Y).foldl (λd q=>e6 q.1 q.2 d) []))
 |X,.hX,_,l=>rX (.b5 []) l
 |X,.idx a i,C,l=>(aS X a C l).bind λx ak=>(aS X i C ak).bind λy a2=>opt (AI a2 x y) a2
 |X,.slice a lo aR,C,l=>(aS X a C l).bind λx ak=>(aS X lo C ak).bind λm a2=>(aS X aR C a2).bind λu f9=>eC (yg f9 x m u)
 |X,.attr a x Q,C,l=>(aS X a C l).bind λA ak=>opt (wO ak A x Q) ak
 |X,.call _ f as,C,l=>(fn X as C l).bind λY=>X.call f Y
 |X,.d2 A name Q f as,C,l=>(aS X A C l).bind λx ak=>(opt (xO ak Q name x) ak).bind λx ak=>(fn X as C ak).bind λY=>X.call f (x::Y)
 |X,.super _ Q f as,C,l=>(opt (yc C l Q) l).bind λx ak=>(fn X as C ak).bind λY=>X.call f (x::Y)
 |X,.new _ Q f as,C,l=>(fn X as C l).bind λY ak=>(X.call f (.loc (ak.length+1):: Y) (ak++[.cj []]++ [.inst Q ak.length])).bind λr a2=>r.mc (.ok (.loc (ak.length+1)) a2)
 |X,.bi x a,C,l=>(aS X a C l).bind λv ak=>eC (hA ak x v)
 |X,.qI a,C,l=>(aS X a C l).bind λv ak=>(opt ((h5 ak v).bind vy) ak).bind λm=>rX (.list m)
 |X,.jQ A a,C,l=>(aS X A C l).bind λx ak=>(opt (h5 ak x) ak).bind λo ak=>(aS X a C ak).bind (oQ X.aC x)
 |X,.vf A a,C,l=>(aS X A C l).bind λx ak=>(opt (h5 ak x) ak).bind λo ak=>(aS X a C ak).bind (tI x)
 |X,.comp pure bZ t it dK,C,l=>((l1 X it C l).g'.bind (ln pure (jn t (kb t.slots C) (iS (kJ X dK) (aS X bZ))))).bind od
 |X,.l0 pure bZ t it c9 me fR,C,l=>((l1 X it C l).g'.bind (ln pure (jn t (kb (t.slots++c9.slots) C) λbb l=>(l1 X me bb l).bind (ln pure (jn c9 bb (iS (kJ X fR) (aS X bZ))))))).bind od
 |X,.c5 e,C,l=>(aS (X.up l.length) e C l).cut l.length
 |X,.mS d6,C,l=>(fn X d6 C l).g'.bind λY ak=>opt ((sM Y).map .str) ak
noncomputable def fn:cS->dH->aI->St->ao (List L)
 |X,.nil,_,l=>.ok [] l
 |X,.cons e r,C,l=>(aS X e C l).bind λx ak=>(fn X r C ak).bind λY=>.ok (x::Y)
noncomputable def kJ:cS->dH->aI->St->ao Bool
 |X,.nil,_,l=>.ok true l
 |X,.cons e r,C,l=>(aS X e C l).bind λx ak=>x.hD (kJ X r C ak) (.ok false ak)
noncomputable def uH:cS->i4->dH->aI->St->ao L
 |X,_,.nil,_,_=>.fail
 |X,op,.cons e r,C,l=>(aS X e C l).bind λx ak=>match r with
  |.nil=>x.hD (.ok (.bool true) ak) (.ok (.bool false) ak)
  |.cons .. =>match op with
   |.And=>x.hD (uH X op r C ak) (.ok (.bool false) ak)
   |.Or=>x.hD (.ok (.bool true) ak) (uH X op r C ak)
noncomputable def l1:cS->iH->aI->St->ao (List L×Option (Nat×aQ))
 |X,.ex e,C,l=>(aS X e C l).bind λx ak=>opt (ob ak x) ak
 |X,.range e,C,l=>(aS X e C l).bind λx ak=>opt (x7 x) ak
 |X,.zip a b,C,l=>(aS X a C l).bind λx ak=>(aS X b C ak).bind λy a2=>opt (B6 x y) a2
end
noncomputable def dg.go{α:Type}(r:α)(f:L->α):dg->α
 |.next=>r
 |.ret v=>f v
noncomputable def jG(f:L->aI->St->ao (dg×aI))(g:Option (Nat×aQ)):List L->aI->St->ao (dg×aI)
 |[],C,l=>if gP l g then .ok (.next,C) l else .fail
 |a::r,C,l=>if gP l g then(f a C l).bind λp ak=>p.1.go (jG f g r p.2 ak) λv=>.ok (.ret v,p.2) ak
  else .fail
noncomputable def kK(t:e3)(bU:aI->St->ao (dg×aI))(a:L)(C:aI)(l:St):ao (dg×aI):=(opt (nR t a C) l).bind λbb l=>bU bb l
noncomputable def uM(pure:Bool)(t:e3)(bU:aI->St->ao (dg×aI))(C:aI)(p:List L×Option (Nat×aQ))(l:St):ao (dg×aI):=if (jP p.2||pure)=false then .fail else jG (kK t bU) p.2 p.1 C l
noncomputable def px(t:aI->St->ao L)(f:aI->St->ao (dg×aI)):Nat->aI->St->ao (dg×aI)
 |0,_,_=>.fail
 |n+1,C,l=>(t C l).g'.bind λv ak=>v.hD ((f C ak).g'.bind λp a2=>p.1.go (px t f n p.2 a2) λv=>.ok (.ret v,p.2) a2) (.ok (.next,C) ak)
noncomputable def ao.oT(c:L):ao L->ao (dg×aI)
 |.ok x ak=>.ok (.ret x,[]) ak
 |.exc s ak=>cond s.isVal .fail (.ok (.ret (.tup [c,s]),[]) ak)
 |.fail=>.fail
noncomputable def optN(C:aI):Option St->ao (dg×aI)
 |some l=>.ok (.next,C) l
 |none=>.fail
mutual
noncomputable def gz:cS->mu->aI->St->ao (dg×aI)
 |X,.assign i e,C,l=>(aS X e C l).bind λx=>.ok (.next,C.set i (some x))
 |X,.unpack is e,C,l=>(aS X e C l).bind λx ak=>(opt ((kF x).bind λm=>ht is m C) ak).bind λbb=>.ok (.next,bb)
 |X,.jV is af,C,l=>(fn X af C l).bind λY ak=>(opt (ht is Y C) ak).bind λbb=>.ok (.next,bb)
 |X,.setItem A k v,C,l=>(aS X v C l).bind λx ak=>(aS X A C ak).bind λy a2=>(aS X k C a2).bind λz f9=>optN C (lA X.aC f9 y z x)
 |X,.setAttr A x Q v,C,l=>(aS X v C l).bind λa ak=>(aS X A C ak).bind λy a2=>optN C (ye X.aC a2 y x Q a)
 |X,.expr e,C,l=>(aS X e C l).bind λx ak=>x.mc (.ok (.next,C) ak)
 |X,.iff t a b,C,l=>(aS X t C l).bind λx ak=>x.hD (ff X a C ak) (ff X b C ak)
 |X,.for pure t it body,C,l=>(l1 X it C l).bind (uM pure t (ff X body) C)
 |X,.while t body,C,l=>px (λC l=>aS X t C l) (λC l=>ff X body C l) 100 C l
 |X,.ret e,C,l=>(aS X e C l).bind λx=>.ok (.ret x,C)
 |X,.raise text cq,C,l=>(aS X text C l).bind λx ak=>(aS X cq C ak).bind λy a2=>x.u4 (.exc y a2)
 |X,.r7 e c,C,l=>(aS X e C l).oT c
noncomputable def ff:cS->ec->aI->St->ao (dg×aI)
 |X,.nil,C,l=>.ok (.next,C) l
 |X,.cons s r,C,l=>(gz X s C l).bind λp ak=>p.1.go (ff X r p.2 ak) λv=>.ok (.ret v,p.2) ak
 |X,.any,_,_=>.fail
end
structure ed where
 params:Nat
 slots:Nat
 body:ec
noncomputable def ed.run(X:cS)(dQ:ed)(args:List L)(l:St):ao L:=
 if args.length=dQ.params then
  (ff X dQ.body (args.map some++ku (dQ.slots-dQ.params) none) l).bind λp ak=>.ok (p.1.go .none id) ak
 else .fail
theorem zK{α bq:Type}{r:ao α}{f:α->St->ao bq}{y:bq}{av:St}(h:r.bind f=.ok y av):∃x l,r=.ok x l∧f x l=.ok y av:=by
 cases r with
 |ok x l=>exact⟨x,l,rfl,h⟩
 |_=>cases h
theorem F6{α bq:Type}{r:ao α}{f:α->St->ao bq}{y:bq}{av:St}(h:r.g'.bind f=.ok y av):r.bind f=.ok y av:=by
 cases r with
 |ok x l=>exact h
 |_=>cases h
end
section
mutual
noncomputable def ow(N:Nat):L->Prop
 |.loc n=>n<N
 |.tup m=>ox N m
 |_=>True
noncomputable def ox(N:Nat):List L->Prop
 |[]=>True
 |a::r=>ow N a∧ox N r
end
def v3{cp:Type}(N:Nat)(m:List (cp×L)):Prop:=∀p∈m,ow N p.2
noncomputable def yN(N:Nat):aQ->Prop
 |.list m=>ox N m
 |.cj m=>v3 N m
 |.b5 m=>v3 N m
 |.inst _ d=>d<N
def uj(N:Nat)(l:St):Prop:=∀n A,n<N->l[n]? =some A->yN N A
structure dw(aC:Nat)(l av:St):Prop where
 len:l.length<=av.length
 vx:∀N,N<=aC->aC<=l.length->uj N l->uj N av
noncomputable def ao.bv{α:Type}(aC:Nat)(l:St):ao α->Prop
 |.ok _ av=>dw aC l av
 |.exc _ av=>dw aC l av
 |.fail=>True
def oy(bp:Nat->aa->List L->St->ao L):Prop:=∀aC f Y l,(bp aC f Y l).bv aC l
section
variable{aC:Nat}{l ak a2:St}{α bq:Type}
theorem dw.refl:dw aC l l:=⟨eN _,λo o o h=>h⟩
theorem dw.trans(x:dw aC l ak)(y:dw aC ak a2):dw aC l a2:=⟨da x.len y.len,λN ai am h=>y.vx N ai (da am x.len) (x.vx N ai am h)⟩
theorem dw.push{A:aQ}:dw aC l (l++[A]):=⟨by simp,λN ai am h n ch aO e=>h n ch aO (by rw[<-e];exact(jv (oK aO (da ai am))).symm)⟩
theorem dw.put{n:Nat}{A:aQ}(h:aC<=n∨∀N,uj N l->n<N->yN N A):dw aC l (l.set n A):=⟨by simp,λN ai am aP k ch aM e=>by
 by_cases q:n=k
 ·subst q
  rcases h with h |h
  ·exact absurd aM (lQ.mpr (da ai h))
  ·have:=h N aP aM
   rw[Ct] at e
   cases z:l[n]? with
   |none=>rw[z] at e;cases e
   |some kY=>rw[z] at e;cases e;exact this
 ·rw[k' q] at e
  exact aP k ch aM e⟩
theorem MZ{r:ao α}(k:dw aC l ak)(h:r.bv aC ak):r.bv aC l:=by
 cases r with
 |ok a a2=>exact dw.trans k h
 |exc s a2=>exact dw.trans k h
 |fail=>trivial
theorem dj{r:ao α}{f:α->St->ao bq}(h:r.bv aC l)(k:∀a ak,(f a ak).bv aC ak):(r.bind f).bv aC l:=by
 cases r with
 |ok a ak=>exact MZ h (k a ak)
 |exc s ak=>exact h
 |fail=>trivial
theorem tl{r:ao α}(h:r.bv aC l):r.g'.bv aC l:=by cases r <;> first |exact h |exact trivial
theorem jN{A:Option α}:(opt A l).bv aC l:=by cases A <;> first |exact .refl |exact trivial
theorem m2{c:Prop} [Decidable c]{r eP:ao α}(h:r.bv aC l)(ae:eP.bv aC l):(if c then r else eP).bv aC l:=by split <;> assumption
theorem M0{c:Prop} [Decidable c]{r:ao α}(h:c->r.bv aC l):(if c then r else .fail).bv aC l:=by
 by_cases q:c
 ·rw[if_pos q];exact h q
 ·rw[if_neg q];trivial
theorem abq{r:ao L}(h:r.bv l.length l):(r.cut l.length).bv aC l:=by
 have gR:∀ak,dw l.length l ak->dw aC l (ak.take l.length):=λak k=>⟨by rw[Ss];exact Nat.le_min.mpr ⟨eN _,k.len⟩,λN ai am aP n A aO e=>k.vx N (da ai am) (eN _) aP n A aO (by rw[<-e,List.getElem?_take,if_pos (oK aO (da ai am))])⟩
 cases r with
 |ok a ak=>exact m2 (gR _ h) trivial
 |exc a ak=>exact m2 (gR _ h) trivial
 |fail=>trivial
theorem VT{f:L->St->ao (List L)}{g:Option (Nat×aQ)}(h:∀a l,(f a l).bv aC l):∀(m:List L)(l:St),(j9 f g m l).bv aC l:=λm=>by
 induction m with
 |nil=>exact λl=>m2 .refl trivial
 |cons a r aJ=>exact λl=>m2 (dj (tl (h a l)) λx ak=>dj (tl (aJ ak)) λy a2=>.refl) trivial
theorem DT{pure:Bool}{f:L->St->ao (List L)}{p:List L×Option (Nat×aQ)}(h:∀a l,(f a l).bv aC l):(ln pure f p l).bv aC l:=m2 trivial (VT h _ _)
theorem BF{t:e3}{C:aI}{k:aI->St->ao α}(h:∀C l,(k C l).bv aC l)(a:L)(l:St):(jn t C k a l).bv aC l:=dj jN λbb av=>h bb av
theorem Kl{e5:aI->St->ao Bool}{ds:aI->St->ao L}(h:∀C l,(e5 C l).bv aC l)(k:∀C l,(ds C l).bv aC l)(C:aI)(l:St):(iS e5 ds C l).bv aC l:=dj (h C l) λo av=>m2 (dj (k C av) λo o=>.refl) .refl
theorem Ev{f:dg}{r:ao α}{g:L->ao α}(h:r.bv aC l)(k:∀v,(g v).bv aC l):(f.go r g).bv aC l:=by cases f <;> first |exact h |exact k _
theorem rJ{x:L}{t e:ao α}(h:t.bv aC l)(k:e.bv aC l):(x.hD t e).bv aC l:=by
 cases x with
 |bool b=>cases b <;> assumption
 |_=>trivial
theorem Mo{x:L}{t:ao α}(h:t.bv aC l):(x.mc t).bv aC l:=by cases x <;> first |exact h |trivial
theorem aaq{x:L}{t:ao α}(h:t.bv aC l):(x.u4 t).bv aC l:=by cases x <;> first |exact h |trivial
theorem V4{b:Bool}{t e:ao α}(h:t.bv aC l)(k:e.bv aC l):(cond b t e).bv aC l:=by cases b <;> assumption
theorem Ya{f:L->aI->St->ao (dg×aI)}{g:Option (Nat×aQ)}(h:∀a C l,(f a C l).bv aC l):∀(m:List L)(C:aI)(l:St),(jG f g m C l).bv aC l:=λm=>by
 induction m with
 |nil=>exact λC l=>m2 .refl trivial
 |cons a r aJ=>exact λC l=>m2 (dj (h a C l) λp ak=>Ev (aJ _ _) λo=>.refl) trivial
theorem ahh{t:aI->St->ao L}{f:aI->St->ao (dg×aI)}(bn:∀C l,(t C l).bv aC l)(h:∀C l,(f C l).bv aC l):∀(n:Nat)(C:aI)(l:St),(px t f n C l).bv aC l:=λn=>by
 induction n with
 |zero=>exact λC l=>trivial
 |succ n aJ=>exact λC l=>dj (tl (bn C l)) λv ak=>rJ (dj (tl (h C ak)) λp a2=>Ev (aJ _ _) λo=>.refl) .refl
end
mutual
theorem A'{N:Nat}:∀{a:L},f0 a=true->ow N a
 |.none,_ |.bool _,_ |.int _,_ |.str _,_ |.val _,_=>trivial
 |.loc n,h=>by cases h
 |.tup m,h=>N8 h
theorem N8{N:Nat}:∀{m:List L},xR m=true->ox N m
 |[],_=>trivial
 |a::r,h=>have h:=gk.mp h;⟨A' h.1,N8 h.2⟩
end
theorem DG{aC n:Nat}{v:L}(h:hP aC n v=true):aC<=n∨∀N,ow N v:=by
 unfold hP at h
 by_cases q:aC<=n
 ·exact .inl q
 ·rw[decide_eq_false q,Rr] at h
  exact .inr λN=>A' h
theorem Do{cp:Type} [DecidableEq cp]{N:Nat}{k:cp}{v:L}(ck:ow N v):∀{m:List (cp×L)},v3 N m->v3 N (e6 k v m):=fun{m}=>by
 induction m with
 |nil=>exact λo p aL=>by rw[gu.mp aL];exact ck
 |cons q r aJ=>
  intro h p aL
  change p∈(if q.1=k then(k,v):: r else q::e6 k v r) at aL
  split at aL
  ·rcases dU.mp aL with rfl |aL
   ·exact ck
   ·exact h p (.tail _ aL)
  ·rcases dU.mp aL with rfl |aL
   ·exact h p (.head _)
   ·exact aJ (λp aL=>h p (.tail _ aL)) p aL
theorem Ut{N:Nat}{v:L}(ck:ow N v):∀{m:List L},ox N m->ox N (m++[v]):=fun{m}=>by
 induction m with
 |nil=>exact λo=>⟨ck,trivial⟩
 |cons a r aJ=>exact λh=>⟨h.1,aJ h.2⟩
theorem Dr{N:Nat}:∀{m:List L},ox N m↔∀a∈m,ow N a:=fun{m}=>by
 induction m with
 |nil=>exact⟨λo o h=>(by cases h),λo=>trivial⟩
 |cons a r aJ=>exact⟨λh b ag=>(dU.mp ag).elim (λe=>e▸h.1) (aJ.mp h.2 b),λh=>⟨h a (.head _),aJ.mpr λb ag=>h b (.tail _ ag)⟩⟩
section
variable{aC:Nat}{l av:St}
theorem ns{α:Type}{a:α}{G:Prop}(e:none=some a):G:=by cases e
theorem Bs{α:Type}{a b:α}{P:α->Prop}(e:some a=some b)(h:P a):P b:=dq e▸h
theorem gn{α bq:Type}{A:Option α}{f:α->Option bq}{b:bq}{G:Prop}(e:A.bind f=some b)(k:∀a,A=some a->f a=some b->G):G:=by
 cases A with
 |none=>cases e
 |some a=>exact k a rfl e
theorem A2{α bq:Type}{A:Option α}{f:α->bq}{b:bq}{P:bq->Prop}(e:A.map f=some b)(k:∀a,A=some a->P (f a)):P b:=by
 cases A with
 |none=>cases e
 |some a=>exact Bs e (k a rfl)
theorem FC{α:Type}{c:Prop} [Decidable c]{a b:α}{P:α->Prop}(e:(if c then some a else none)=some b)(k:c->P a):P b:=by
 by_cases h:c
 ·rw[if_pos h] at e;exact Bs e (k h)
 ·rw[if_neg h] at e;cases e
theorem C8{α bq:Type}{f:α->Option bq}{g:bq->α}(aG:∀{a b},f a=some b->a=g b):∀{m:List α}{Y:List bq},un f m=some Y->m=Y.map g:=fun{m}=>by
 induction m with
 |nil=>exact λh=>Bs (P:=λY=>[]=Ic g Y) h rfl
 |cons a r aJ=>exact λh=>gn h λx ex h=>A2 (P:=λY=>a::r=Ic g Y) h λbH fZ=>congr (congrArg List.cons (aG ex)) (aJ fZ)
theorem I9{α bq:Type}{f:α->Option bq}{g:bq->α}(aG:∀b,f (g b)=some b)(Y:List bq):un f (Y.map g)=some Y:=by
 induction Y with
 |nil=>rfl
 |cons x r aJ=>exact(congrArg (·.bind λx=>(un f (r.map g)).map (x :: ·)) (aG x)).trans (congrArg (·.map (x :: ·)) aJ)
theorem Fz{m:List L}{Y:List I}:kQ m=some Y->m=Y.map .str:=C8 sH
theorem MB{m:List L}{Y:List (List I)}:tg m=some Y->m=Y.map λr=>.tup (r.map .str):=C8 λh=>gn h λm cJ h=>Fz h▸rk cJ
inductive wA:aQ->L->L->aQ->Prop
 |cj {m:List (I×L)} {x:I} {v:L} (h:m.length<b8):wA (.cj m) (.str x) v (.cj (e6 x v m))
 |b5 {m:List (List L×L)} {t:List L} {v:L} (h:tL t=true∧m.length<b8):wA (.b5 m) (.tup t) v (.b5 (e6 t v m))
theorem adP{A ch:aQ}{k v:L}(e:putIn A k v=some ch):wA A k v ch:=by
 cases A with
 |cj m=>exact gn e λx ex e=>sH ex▸FC e λh=>.cj h
 |b5 m=>exact gn e λx ex e=>rk ex▸FC e λh=>.b5 h
 |_=>exact ns e
theorem PA{A k v:L}(e:lA aC l A k v=some av):∃n c3 ch,A=.loc n∧l[n]? =some c3∧wA c3 k v ch∧hP aC n v=true∧av=l.set n ch:=gn e λn cW e=>by
 cases aK:hP aC n v with
 |false=>rw[aK] at e;exact ns e
 |true=>
  rw[aK] at e
  exact gn e λc3 h e=>A2 (P:=λav=>∃n c3 ch,A=.loc n∧l[n]? =some c3∧wA c3 k v ch∧hP aC n v=true∧av=l.set n ch) e λch ae=>⟨n,c3,ch,wL cW,h,adP ae,aK,rfl⟩
theorem aeH{A k v:L}(e:lA aC l A k v=some av):dw aC l av:=by
 obtain⟨n,c3,ch,rfl,z,h,aK,rfl⟩:=PA e
 refine .put ((DG aK).imp_right λq N aP aO=>?_)
 have:=aP n _ aO z
 cases h with
 |cj _=>exact Do (q N) this
 |b5 _=>exact Do (q N) this
theorem aeF{A v:L}{x:I}{Q:aa}(e:ye aC l A x Q v=some av):dw aC l av:=
 gn e λp o e=>gn e λm h e=>FC e λq=>.put ((DG q.2).imp_right λq N aP aO=>Do (q N) (by
  unfold nc at h
  split at h
  ·rename_i z;exact dq h▸aP _ _ aO z
  ·exact ns h))
theorem ur{x:L}{m:List L}(h:h5 l x=some m):∃n,x=.loc n∧l[n]? =some (.list m):=by
 cases x with
 |loc n=>
  dsimp only[h5] at h
  cases z:l[n]? with
  |none=>rw[z] at h;exact ns h
  |some c3=>
   rw[z] at h
   cases c3 with
   |list gS=>exact⟨n,rfl,dq h▸z⟩
   |_=>exact ns h
 |_=>exact ns h
set_option tactic.hygienic true in
theorem TQ{x v:L}:(oQ aC x v l).bv aC l:=by
 unfold oQ
 split
 ·rename_i n
  split
  ·rename_i m z
   exact M0 λh=>dw.put ((DG h.2).imp_right λq N aP aO=>Ut (q N) (aP n _ aO z))
  ·trivial
 ·trivial
set_option tactic.hygienic true in
theorem ad8{x v:L}:(tI x v l).bv aC l:=by
 unfold tI
 split
 ·split
  ·rename_i n
   split
   ·rename_i m z
    exact M0 λh=>dw.put (.inr λN aP aO=>Dr.mpr λa ar=>Dr.mp (aP n _ aO z) a (List.mem_of_mem_erase ar))
   ·trivial
  ·trivial
 ·trivial
theorem ve{α:Type}{A:Option α}{f:α->L×St}(h:∀a,dw aC l (f a).2):(eC (A.map f)).bv aC l:=by
 cases A with
 |none=>trivial
 |some a=>exact h a
theorem p1{α:Type}{A:Option α}{f:α->Option (L×St)}(h:∀a,(eC (f a)).bv aC l):(eC (A.bind f)).bv aC l:=by
 cases A with
 |none=>trivial
 |some a=>exact h a
theorem oa{c:Prop} [Decidable c]{A ch:Option (L×St)}(h:(eC A).bv aC l)(k:(eC ch).bv aC l):(eC (if c then A else ch)).bv aC l:=by by_cases q:c;rw[if_pos q];exact h;rw[if_neg q];exact k
theorem Uz{op:nE}{a b:L}:(eC (wR l op a b)).bv aC l:=by
 have other:∀{A:nE},(eC ((iw a).bind λi=>(iw b).bind λj=>(intOp A i j).map λk=>(L.int k,l))).bv aC l:=p1 λi=>p1 λj=>ve λk=>.refl
 have FK:(eC ((h5 l a).bind λx=>(h5 l b).bind λy=>if x.length+y.length<b8 then some (kW l (.list (x++y))) else none)).bv aC l:=p1 λi=>p1 λj=>oa (dw.push:dw aC l (l++[aQ.list (i++j)])) trivial
 have kX:(eC (none:Option (L×St))).bv aC l:=trivial
 cases op with
 |Add=>
  cases a with
  |int i=>cases b <;> first |exact dw.refl |exact kX
  |str i=>cases b <;> first |exact oa dw.refl kX |exact kX
  |tup i=>cases b <;> first |exact oa dw.refl kX |exact kX
  |_=>exact FK
 |_=>exact other
theorem ae4{a b c:L}:(eC (yg l a b c)).bv aC l:=p1 λx=>p1 λj=>oa dw.refl trivial
theorem Uw{x:I}{a:L}:(eC (hA l x a)).bv aC l:=
 oa (ve λo=>.refl)<| oa (ve λo=>.refl)<| oa (p1 λo=>ve λo=>.push)<| oa (p1 λo=>oa dw.refl trivial)<| oa (ve λo=>.push)<| oa (p1 λo=>ve λo=>.push) trivial
end
mutual
theorem eG:∀(e:bB)(X:cS),oy X.bp->∀(C:aI)(l:St),(aS X e C l).bv X.aC l
 |.const a,X,h,C,l=>dw.refl
 |.var i,X,h,C,l=>jN
 |.glob _ a,X,h,C,l=>dw.refl
 |.bin op a b,X,h,C,l=>dj (eG a X h C l) λx ak=>dj (eG b X h C ak) λy a2=>Uz
 |.not a,X,h,C,l=>dj (eG a X h C l) λx ak=>rJ dw.refl dw.refl
 |.fm op T,X,h,C,l=>Kx T X h op C l
 |.ji t a b,X,h,C,l=>dj (eG t X h C l) λx ak=>rJ (eG a X h C ak) (eG b X h C ak)
 |.cmp op a b,X,h,C,l=>dj (eG a X h C l) λx ak=>dj (eG b X h C ak) λy a2=>jN
 |.tuple af,X,h,C,l=>dj (oW af X h C l) λx ak=>dw.refl
 |.list af,X,h,C,l=>dj (oW af X h C l) λx ak=>dw.push
 |.km aY af,X,h,C,l=>dj (oW af X h C l) λx ak=>dw.push
 |.hX,X,h,C,l=>dw.push
 |.idx a b,X,h,C,l=>dj (eG a X h C l) λx ak=>dj (eG b X h C ak) λy a2=>jN
 |.slice a b c,X,h,C,l=>dj (eG a X h C l) λx ak=>dj (eG b X h C ak) λy a2=>dj (eG c X h C a2) λz f9=>ae4
 |.attr a _ _,X,h,C,l=>dj (eG a X h C l) λx ak=>jN
 |.call _ f as,X,h,C,l=>dj (oW as X h C l) λx ak=>h X.aC f x ak
 |.d2 A name Q f as,X,h,C,l=>dj (eG A X h C l) λx ak=>dj jN λy ak=>dj (oW as X h C ak) λY a2=>h X.aC f _ a2
 |.super _ Q f as,X,h,C,l=>dj jN λy ak=>dj (oW as X h C ak) λY a2=>h X.aC f _ a2
 |.new _ Q f as,X,h,C,l=>dj (oW as X h C l) λY ak=>dj (MZ (dw.trans dw.push dw.push) (h X.aC f _ _)) λr a2=>Mo dw.refl
 |.bi _ a,X,h,C,l=>dj (eG a X h C l) λx ak=>Uw
 |.qI a,X,h,C,l=>dj (eG a X h C l) λx ak=>dj jN λm ak=>dw.push
 |.jQ A a,X,h,C,l=>dj (eG A X h C l) λx ak=>dj jN λo ak=>dj (eG a X h C ak) λv a2=>TQ
 |.vf A a,X,h,C,l=>dj (eG A X h C l) λx ak=>dj jN λo ak=>dj (eG a X h C ak) λv a2=>ad8
 |.comp pure bZ t it dK,X,h,C,l=>dj (dj (tl (z8 it X h C l)) λo o=>DT (BF (Kl (Ee dK X h) (eG bZ X h)))) λY a2=>m2 dw.push trivial
 |.l0 pure bZ t it c9 me fR,X,h,C,l=>dj (dj (tl (z8 it X h C l)) λo o=>DT (BF λbb l=>dj (z8 me X h bb l) λo o=>DT (BF (Kl (Ee fR X h) (eG bZ X h))))) λY a2=>m2 dw.push trivial
 |.mS d6,X,h,C,l=>dj (tl (oW d6 X h C l)) λY ak=>jN
 |.c5 e,X,h,C,l=>abq (eG e (X.up l.length) h C l)
theorem oW:∀(af:dH)(X:cS),oy X.bp->∀(C:aI)(l:St),(fn X af C l).bv X.aC l
 |.nil,X,h,C,l=>dw.refl
 |.cons e r,X,h,C,l=>dj (eG e X h C l) λx ak=>dj (oW r X h C ak) λY a2=>dw.refl
theorem Ee:∀(af:dH)(X:cS),oy X.bp->∀(C:aI)(l:St),(kJ X af C l).bv X.aC l
 |.nil,X,h,C,l=>dw.refl
 |.cons e r,X,h,C,l=>dj (eG e X h C l) λx ak=>rJ (Ee r X h C ak) dw.refl
theorem Kx:∀(af:dH)(X:cS),oy X.bp->∀(op:i4)(C:aI)(l:St),(uH X op af C l).bv X.aC l
 |.nil,X,h,op,C,l=>trivial
 |.cons e r,X,h,op,C,l=>dj (eG e X h C l) λx ak=>by
  have q:=Kx r X h op C ak
  cases r with
  |nil=>exact rJ dw.refl dw.refl
  |cons cm eP=>cases op <;> first |exact rJ q dw.refl |exact rJ dw.refl q
theorem z8:∀(it:iH)(X:cS),oy X.bp->∀(C:aI)(l:St),(l1 X it C l).bv X.aC l
 |.ex e,X,h,C,l=>dj (eG e X h C l) λx ak=>jN
 |.range e,X,h,C,l=>dj (eG e X h C l) λx ak=>jN
 |.zip a b,X,h,C,l=>dj (eG a X h C l) λx ak=>dj (eG b X h C ak) λy a2=>jN
end
theorem VC{aC:Nat}{l:St}{c:L}{r:ao L}(h:r.bv aC l):(r.oT c).bv aC l:=by
 cases r with
 |ok a ak=>exact h
 |exc a ak=>exact V4 trivial h
 |fail=>trivial
theorem OB{aC:Nat}{l:St}{C:aI}{A:Option St}(h:∀av,A=some av->dw aC l av):(optN C A).bv aC l:=by
 cases A with
 |none=>trivial
 |some av=>exact h av rfl
mutual
theorem XI:∀(s:mu)(X:cS),oy X.bp->∀(C:aI)(l:St),(gz X s C l).bv X.aC l
 |.assign i e,X,h,C,l=>dj (eG e X h C l) λx ak=>dw.refl
 |.unpack is e,X,h,C,l=>dj (eG e X h C l) λx ak=>dj jN λo o=>dw.refl
 |.jV is af,X,h,C,l=>dj (oW af X h C l) λx ak=>dj jN λo o=>dw.refl
 |.setItem A k v,X,h,C,l=>dj (eG v X h C l) λx ak=>dj (eG A X h C ak) λy a2=>dj (eG k X h C a2) λz f9=>OB λo=>aeH
 |.setAttr A n Q v,X,h,C,l=>dj (eG v X h C l) λx ak=>dj (eG A X h C ak) λy a2=>OB λo=>aeF
 |.expr e,X,h,C,l=>dj (eG e X h C l) λx ak=>Mo dw.refl
 |.iff t a b,X,h,C,l=>dj (eG t X h C l) λx ak=>rJ (uI a X h C ak) (uI b X h C ak)
 |.for pure t it body,X,h,C,l=>dj (z8 it X h C l) λp ak=>m2 trivial (Ya (λa C l=>BF (uI body X h) a l) _ _ _)
 |.while t body,X,h,C,l=>ahh (λC l=>eG t X h C l) (λC l=>uI body X h C l) 100 C l
 |.ret e,X,h,C,l=>dj (eG e X h C l) λx ak=>dw.refl
 |.raise a b,X,h,C,l=>dj (eG a X h C l) λx ak=>dj (eG b X h C ak) λy a2=>aaq dw.refl
 |.r7 e c,X,h,C,l=>VC (eG e X h C l)
theorem uI:∀(s:ec)(X:cS),oy X.bp->∀(C:aI)(l:St),(ff X s C l).bv X.aC l
 |.nil,X,h,C,l=>dw.refl
 |.cons s r,X,h,C,l=>dj (XI s X h C l) λp ak=>Ev (uI r X h _ ak) λo=>dw.refl
 |.any,X,h,C,l=>trivial
end
theorem aep{X:cS}(h:oy X.bp)(dQ:ed)(Y:List L)(l:St):(dQ.run X Y l).bv X.aC l:=m2 (dj (uI dQ.body X h _ l) λp ak=>dw.refl) trivial
end
section
structure bM where
 heap:aV
 cP:aa->Prop
mutual
noncomputable def bf(E:bM)(J:List aa)(h:aV):L->ab->Prop
 |.none,v=>v=.none
 |.bool b,v=>v=.bool b
 |.int i,v=>∃t,v=.int i t
 |.str x,v=>(∃t,v=.str x t)∧fy x=true
 |.tup m,v=>∃a T,v=.ref a∧¬E.cP a∧h.IsTuple a T.toArray∧T.length<=e7∧br E J h m T
 |.loc n,v=>∃a,J[n]? =some a∧v=.ref a
 |.val u,v=>v=u
noncomputable def br(E:bM)(J:List aa)(h:aV):List L->List ab->Prop
 |[],T=>T=[]
 |a::r,T=>∃v t,T=v::t∧bf E J h a v∧br E J h r t
end
section
variable{E:bM}
theorem br.nil{J:List aa}{h:aV}:br E J h [] []:=rfl
section
variable{J:List aa}{h:aV}{a:L}{v:ab}{m gS:List L}{T jW:List ab}
theorem br.cons(x:bf E J h a v)(y:br E J h m T):br E J h (a::m) (v::T):=kV v T rfl x y
theorem br.cons_inv(x:br E J h (a::m) T):∃v t,T=v::t∧bf E J h a v∧br E J h m t:=x
theorem br.nil_inv(x:br E J h [] T):T=[]:=x
theorem br.ind{P:List L->List ab->Prop}(n:P [] [])(c:∀{a v m T},bf E J h a v->br E J h m T->P m T->P (a::m) (v::T))(r:br E J h m T):P m T:=by
 induction m generalizing T with
 |nil=>exact r.nil_inv▸n
 |cons a m aJ=>exact eL r.cons_inv λv t e x y=>e▸c x y (aJ y)
theorem br.length(e:br E J h m T):T.length=m.length:=e.ind (P:=λm T=>T.length=m.length) rfl λo o=>congrArg (· + 1)
theorem br.append(e:br E J h m T)(k:br E J h gS jW):br E J h (m++gS) (T++jW):=e.ind (P:=λm T=>br E J h (m++gS) (T++jW)) k λx o y=>.cons x y
theorem br.snoc(x:br E J h m T)(y:bf E J h a v):br E J h (m++[a]) (T++[v]):=x.append (.cons y .nil)
theorem br.get(e:br E J h m T):∀{i:Nat}{a:L},m[i]? =some a->∃v,T[i]? =some v∧bf E J h a v:=e.ind (P:=λm T=>∀{i:Nat}{a:L},m[i]? =some a->∃v,T[i]? =some v∧bf E J h a v) (λk=>by cases k) λx o aJ i a k=>by
 cases i with
 |zero=>exact bx _ rfl (dq k▸x)
 |succ i=>exact aJ k
theorem br.get'(e:br E J h m T):∀{i:Nat}{v:ab},T[i]? =some v->∃a,m[i]? =some a∧bf E J h a v:=e.ind (P:=λm T=>∀{i:Nat}{v:ab},T[i]? =some v->∃a,m[i]? =some a∧bf E J h a v) (λk=>by cases k) λx o aJ i a k=>by
 cases i with
 |zero=>exact bx _ rfl (dq k▸x)
 |succ i=>exact aJ k
theorem br.take(e:br E J h m T):∀n:Nat,br E J h (m.take n) (T.take n):=e.ind (P:=λm T=>∀n:Nat,br E J h (m.take n) (T.take n)) (λn=>by rw[SD,SD];exact .nil) λx o aJ n=>CA n .nil λn=>.cons x (aJ n)
theorem br.drop(e:br E J h m T):∀n:Nat,br E J h (m.drop n) (T.drop n):=e.ind (P:=λm T=>∀n:Nat,br E J h (m.drop n) (T.drop n)) (λn=>by rw[H0,H0];exact .nil) λx y aJ n=>CA n (.cons x y) aJ
end
end
noncomputable def uu(k:L)(v:ab):Bool:=ut false (λi=>Value.isInt i v) (λx=>kD x v&&fy x) k
inductive B9:L->ab->Prop
 |int (i:Int) (t:j3):B9 (.int i) (.int i t)
 |str (x:I) (t:j3) (h:fy x=true):B9 (.str x) (.str x t)
theorem nN{k:L}{v:ab}(h:uu k v=true):B9 k v:=by
 cases k with
 |int i=>obtain⟨t,rfl⟩:=Value.isInt_shape h;exact .int i t
 |str x=>
  have h:=(gW _ _).mp h
  obtain⟨t,rfl⟩:=zs h.1
  exact .str x t h.2
 |_=>cases h
noncomputable def Uk(w:i9):L->Int:=ut 0 hashInt (hashStr w)
noncomputable def lY:KeyKind aH w L where
 is:=uu
 hash:=Uk w
 inj:=λv a b ar ag=>by
  cases nN ar with
  |int i t=>cases nN ag;rfl
  |str i t=>cases nN ag;rfl
 byValue:=λk v h=>by cases nN h <;> rfl
 pyHash:=λck h=>by
  cases nN ck with
  |int i t=>exact wpAny_pyHash_int h
  |str x t=>exact wpAny_pyHash_str h
 eqBool:=λeB ck h=>by
  cases nN eB with
  |int i t=>cases nN ck with
   |int j u=>
    refine wpAny_eqBool_int ?_
    have e:(i==j)=decide (i=j):=by by_cases q:i=j <;> simp[q]
    rw[e];simpa using h
   |str y u=>exact akH i t y u _ _ _ _ (by simpa using h)
  |str x t=>cases nN ck with
   |int j u=>exact akI x t j u _ _ _ _ (by simpa using h)
   |str y u=>exact QZ (by simpa using h)
 «strs»:=λk x t v h=>by
  cases nN h with
  |str _ _ aD=>exact((congrArg _ aD).trans (HK _)).trans ((PySem.strKind aH w).strs x x t v (by exact beq_self_eq_true x))
section
variable{E:bM}{J:List aa}{h:aV}
theorem MH{k:List L}{T:List ab}(r:br E J h k T):(∀a∈k,∀v,bf E J h a v->uu a v=true)->ItemsAre (lY) k T:=r.ind (P:=λk T=>(∀a∈k,∀v,bf E J h a v->uu a v=true)->ItemsAre (lY) k T) (λo=>.nil) λx o aJ p=>.cons (p _ (.head _) _ x) (aJ λa h=>p a (.tail _ h))
theorem Po{a:L}{v:ab}(q:ut false (λo=>true) (λo=>true) a=true)(r:bf E J h a v):uu a v=true:=by
 cases a with
 |int i=>obtain⟨t,rfl⟩:=r;exact beq_self_eq_true i
 |str x=>obtain⟨⟨t,rfl⟩,k⟩:=r;exact gk.mpr ⟨beq_self_eq_true x,k⟩
 |_=>cases q
theorem Pp{k:List L}{T:List ab}(q:tL k=true)(r:br E J h k T):ItemsAre (lY) k T:=MH r λa ar o=>Po (i8.mp q a ar)
end
section
noncomputable def f3(E:bM)(J:List aa)(h:aV):aQ->aa->Prop
 |.list m,a=>∃T,h.PlainList a T∧T.size<=e7∧br E J h m T.toList
 |.cj m,a=>∃bP,h.DictOf (strKind aH w) a bP∧bP.map (·.1)=m.map (·.1)∧m.length<=e7∧br E J h (m.map (·.2)) (bP.map (·.2))∧∀p∈m,fy p.1=true
 |.b5 m,a=>∃Y,h.DictOfH (BO (lY)) a Y∧Y.map (·.1)=m.map (·.1)∧m.length<=e7∧br E J h (m.map (·.2)) (Y.map (·.2.2))∧(∀p∈m,p.1.length<=e7)∧∀x∈Y,¬E.cP x.2.1
 |.inst Q d,a=>∃bC,J[d]? =some bC∧h.get? a=some (md Q bC)
structure a'(E:bM)(J:List aa)(l:St)(h:aV):Prop where
 len:J.length=l.length
 nodup:J.Nodup
 new:∀a∈J,E.heap.get? a=none
 base:E.heap.StaysIn h
 obj:∀(n:Nat)(a:aa)(A:aQ),J[n]? =some a->l[n]? =some A->f3 E J h A a
 pY:∀a,E.cP a->∃T,h.IsTuple a T
end
structure bG(D:Bool)(bT W:List aa)(J:List aa)(s:ay)(aw:List aa)(ah:ay):Prop where
 ext:∃hl,aw=J++hl∧∀a∈hl,s.heap.get? a=none
 keep:∀b A,b∉J->b∉W->s.heap.get? b=some A->ah.heap.get? b=some A∨(b∈bT∧∃e8,ah.heap.get? b=some {A with slots:=e8})
 live:∀a,s.heap.get? a≠none->ah.heap.get? a≠none
 same:ah.gens=s.gens∧ah.os=s.os
 lp:D=true->∀a∈J,∀A af a0,s.heap.get? a=some A->A.data=.dict af a0->ah.heap.get? a=some A
 lv:∀a N,a∉J->s.heap.Ns a N->∃de,ah.heap.Ns a de
theorem tw{h ae:aV}{a:aa}{N:I->Option ab}(e:h.Ns a N)(k:∀A,h.get? a=some A->ae.get? a=some A):ae.Ns a N:=by
 refine k7 e λA af a0 az r=>?_
 exact tq A af a0 (k A az) r
section
variable{D:Bool}{bT W J b3 eI aw:List aa}{s bd cR ah:ay}
theorem hF{P:aa->Prop}(a:aa)(h:a∈([]:List aa)):P a:=(hK h).elim
theorem bG.refl:bG D bT W J s J s:=
 ⟨⟨[],(iK J).symm,hF⟩,λo o o o e=>.inl e,λo e=>e,⟨rfl,rfl⟩,λo o o o o o e o=>e,λo N o e=>⟨N,e⟩⟩
theorem bG.get(x:bG D bT W J s aw ah){n:Nat}{a:aa}(e:J[n]? =some a):aw[n]? =some a:=
 aU x.ext λhl q o=>q▸(jv (gt.mp e).1).trans e
theorem bG.mj(x:bG D bT W J s aw ah){a:aa}(e:s.heap.get? a≠none)(hm:a∉J):a∉aw:=
 aU x.ext λhl q f h=>(ip.mp (q▸h)).elim hm λh=>e (f a h)
theorem vj{h:aV}{a:aa}{N:I->Option ab}(e:h.Ns a N):h.get? a≠none:=k7 e λA af a0 az r q=>c1 az q
theorem bG.trans(x:bG D bT W J s b3 bd)(y:bG D bT W b3 bd eI cR):bG D bT W J s eI cR where
 ext:=aU x.ext λhl e f=>aU y.ext λaj3 cm z'=>bx (hl++aj3) (cm.trans (e▸fF ..)) λa ar=>(ip.mp ar).elim (f a) λh=>lM λq=>x.live a q (z' a h)
 keep:=λb A ag bS e=>have gQ:=x.mj (e▸nofun) ag;(x.keep b A ag bS e).elim (y.keep b A gQ bS) λh=>.inr ⟨h.1,bz h.2 λe8 iV=>(y.keep b _ gQ bS iV).elim (λiW=>bk e8 iW) λh=>bz h.2 λe8 iW=>bk e8 iW⟩
 live:=λa e=>y.live a (x.live a e)
 same:=⟨y.same.1.trans x.same.1,y.same.2.trans x.same.2⟩
 lp:=λdy a ar A af a0 e hd=>y.lp dy a (bz (pK ar) λo q=>fG (x.get q)) A af a0 (x.lp dy a ar A af a0 e hd) hd
 lv:=λa N hm e=>bz (x.lv a N hm e) λde cm=>y.lv a de (x.mj (vj e) hm) cm
theorem bG.weaken{mN:List aa}(x:bG D bT W J s aw ah)(bS:∀a∈W,a∈mN):bG D bT mN J s aw ah:=
 ⟨x.ext,λb A ag aO e=>x.keep b A ag (λh=>aO (bS b h)) e,x.live,x.same,x.lp,x.lv⟩
theorem Ng{h ae:aV}{a:aa}(k:∀b A,h.get? b=some A->ae.get? b=some A)(e:h.get? a≠none):ae.get? a≠none:=λq=>e (zg.mpr λA z=>c1 (k a A z) q)
theorem bG.more{h:aV}{t:Nat}(k:∀b A,s.heap.get? b=some A->h.get? b=some A):bG D bT W J s J {s with heap:=h,toks:=t}:=
 ⟨⟨[],(iK J).symm,hF⟩,λb A o o e=>.inl (k b A e),λa e q=>Ng k e q,⟨rfl,rfl⟩,λo a o A o o e o=>k a A e,λa N o e=>⟨N,tw e (k a)⟩⟩
theorem bG.tok{t:Nat}:bG D bT W J s J {s with toks:=t}:=.more λo o e=>e
end
structure fq(E:bM)(J aw:List aa)(h ae:aV):Prop where
 loc:∀(n:Nat)(a:aa),J[n]? =some a->aw[n]? =some a
 tup:∀a T,¬E.cP a->h.IsTuple a T->ae.IsTuple a T
section
variable{E:bM}
theorem bf.mono{J aw:List aa}{h ae:aV}(x:fq E J aw h ae)(a:L):∀v,bf E J h a v->bf E aw ae a v:=
 @L.rec (λa=>∀v,bf E J h a v->bf E aw ae a v) (λm=>∀T,br E J h m T->br E aw ae m T) (λo e=>e) (λo o e=>e) (λo o e=>e) (λo o e=>e)
  (λm aJ v e=>k6 e λa T p bU k N n=>m3 a T p bU (x.tup a _ bU k) N (aJ T n)) (λn v e=>aU e λa p k=>bx a (x.loc n a p) k) (λo o e=>e)
  (λo e=>e) (λa r i j T e=>eL e λv t q y z=>kV v t q (i v y) (j t z)) a
theorem br.mono{J aw:List aa}{h ae:aV}(x:fq E J aw h ae)(m:List L)(T:List ab)(e:br E J h m T):br E aw ae m T:=e.ind (P:=br E aw ae) .nil λy o=>.cons (y.mono x _ _)
section
theorem agN{J aw:List aa}{h ae:aV}(x:fq E J aw h ae){k:List L}{a:aa}(n:¬E.cP a)(e:HU (lY) h k a):HU (lY) ae k a:=
 py e λA dm eY az aK hd aR=>cr (x.tup a dm n ⟨A,az,aK,eY,hd⟩) λch eA gq z=>bz z λacj eO=>Nw ch dm acj eA gq eO aR
theorem f3.mono{J aw:List aa}{h ae:aV}(x:fq E J aw h ae){a:aa}(k:∀A,h.get? a=some A->ae.get? a=some A){A:aQ}(r:f3 E J h A a):f3 E aw ae A a:=by
 cases A with
 |list m=>exact cr r λT p aP r=>fK T (p.at k) aP (r.mono x _ _)
 |cj m=>exact lH r λbP p e aP r z=>k7 p λA af a0 az q=>qw bP ⟨A,af,a0,k A az,q⟩ e aP (r.mono x _ _) z
 |b5 m=>exact sb r λY p e aP r z B5=>vV p λA af a0 az b0 bO eJ gH kl=>xM Y ⟨A,af,a0,k A az,b0,bO,eJ,λy bD=>agN x (B5 y bD) (gH y bD),kl⟩ e aP (r.mono x _ _) z B5
 |inst Q d=>exact aU r λbC e q=>bx bC (x.loc _ _ e) (k _ q)
theorem vi{s:String}{A:cV}(h:A.cls=.type s)(n:s≠"tuple"):A.cls≠.type "tuple":=λq=>n (C5 (h.symm.trans q))
theorem f3.obj{J:List aa}{h:aV}{a:aa}{A:aQ}(r:f3 E J h A a):∃c3,h.get? a=some c3∧c3.cls≠.type "tuple"∧∀v,c3.data≠.cell v:=by
 cases A with
 |list m=>exact cr r λfe z o o=>bz z λN e=>fK _ e (vi rfl (by decide)) λv q=>by cases q
 |cj m=>exact bz r λbP z=>py z.1 λA af a0 e aD hd o=>fK _ e (vi aD.1 (by decide)) λv q=>by cases hd.symm.trans q
 |b5 m=>exact bz r λbP z=>py z.1 λA af a0 e aD hd o=>fK _ e (vi aD.1 (by decide)) λv q=>by cases hd.symm.trans q
 |inst Q d=>exact aU r λbC o e=>fK _ e (λq=>by cases q) λv q=>by cases q
theorem f3.noTuple{J:List aa}{h:aV}{a:aa}{A:aQ}(r:f3 E J h A a)(T:Array ab)(x:h.IsTuple a T):False:=by
 refine cr r.obj λo e q o=>?_
 refine cr x λo az aK o=>?_
 exact q (dq (e.symm.trans az)▸aK)
theorem f3.there{J:List aa}{h:aV}{a:aa}{A:aQ}(r:f3 E J h A a):h.get? a≠none:=by
 exact aU r.obj λo e o q=>c1 e q
variable{J:List aa}{l:St}{h:aV}
theorem a'.at (S:a' E J l h){n:Nat}{A:aQ}(e:l[n]? =some A):∃a,J[n]? =some a∧f3 E J h A a:=by
 have aN:=(gt.mp e).1
 simp only[<-S.len] at aN
 exact bx (J[n]) (lN aN) (S.obj n _ A (lN aN) e)
theorem a'.mem(S:a' E J l h){a:aa}(ar:a∈J):∃(n:Nat)(A:aQ),J[n]? =some a∧l[n]? =some A∧f3 E J h A a:=by
 refine bz (pK ar) λi aR=>?_
 have aN:=(gt.mp aR).1
 simp only[S.len] at aN
 exact kV i (l[i]) aR (lN aN) (S.obj i a _ aR (lN aN))
theorem a'.vL(S:a' E J l h):∀a∈J,∀T,¬h.IsTuple a T:=λa ar=>by
 obtain⟨n,A,_,_,r⟩:=S.mem ar;exact r.noTuple
theorem a'.there(S:a' E J l h):∀a∈J,h.get? a≠none:=λa ar=>by
 obtain⟨n,A,_,_,r⟩:=S.mem ar;exact r.there
theorem a'.fresh(S:a' E J l h):h.objs.size∉J:=λar=>by
 cases q:h.get? h.objs.size with
 |none=>exact S.there _ ar q
 |some A=>exact absurd (eF q) (kw _)
theorem bG.rM{D:Bool}{bT W aw:List aa}{s ah:ay}(x:bG D bT W J s aw ah)(S:a' E J l s.heap)(bS:∀a∈W,∀T,¬s.heap.IsTuple a T):fq E J aw s.heap ah.heap where
 loc:=λn a e=>x.get e
 tup:=λa T o e=>by
  refine cr (id e) λA az aK ajF=>?_
  refine bz ajF λn hd=>?_
  rcases x.keep a A (λh=>S.vL a h T e) (λh=>bS a h T e) az with k |⟨_,e8,k⟩
  ·exact fK A k aK ⟨n,hd⟩
  ·exact fK _ k aK ⟨n,hd⟩
theorem fq.of{aw:List aa}{h ae:aV}(m:∀(n:Nat)(a:aa),J[n]? =some a->aw[n]? =some a)(k:∀b A,h.get? b=some A->ae.get? b=some A):fq E J aw h ae:=
 ⟨m,λa T _⟨A,az,r⟩=>bx A (k a A az) r⟩
theorem a'.free(S:a' E J l h){a:aa}(aO:h.get? a=none):¬E.cP a:=λag=>by
 exact k5 (S.pY a ag) λT A az o=>c1 az aO
theorem a'.FF{ae:aV}(S:a' E J l h)(k:∀a∈J,∀A,h.get? a=some A->ae.get? a=some A)(fd:∀a T,¬E.cP a->h.IsTuple a T->ae.IsTuple a T)(oe:∀a,E.cP a->(∃T,h.IsTuple a T)->∃T,ae.IsTuple a T)(bU:E.heap.StaysIn ae):a' E J l ae:=
 ⟨S.len,S.nodup,S.new,bU,λn a A iV iW=>(S.obj n a A iV iW).mono ⟨λo o e=>e,fd⟩ (k a (fG iV)),λa ag=>oe a ag (S.pY a ag)⟩
theorem a'.keep{ae:aV}(S:a' E J l h)(k:∀a∈J,∀A,h.get? a=some A->ae.get? a=some A)(fd:∀a T,h.IsTuple a T->ae.IsTuple a T)(bU:E.heap.StaysIn ae):a' E J l ae:=
 S.FF k (λa T o=>fd a T) (λa _⟨T,e⟩=>⟨T,fd a T e⟩) bU
theorem a'.more{ae:aV}(S:a' E J l h)(k:∀b A,h.get? b=some A->ae.get? b=some A):a' E J l ae:=
 S.keep (λa o=>k a) (λa T⟨A,az,r⟩=>bx A (k a A az) r) λb A e=>k b A (S.base b A e)
theorem sG{α:Type}{m:List α}{a b:α}{n:Nat}(e:(m++[a])[n]? =some b):m[n]? =some b∨n=m.length∧b=a:=by
 rw[Sl] at e
 split at e
 ·exact .inl e
 ·rename_i h
  obtain⟨q,r⟩:=gt.mp e
  rw[List.length_singleton,Nat.lt_one_iff] at q
  exact .inr ⟨h2 (Nat.sub_eq_zero_iff_le.mp q) (gv h),by rw[<-r,List.getElem_singleton]⟩
theorem a'.OW{ae:aV}{a:aa}{A:aQ}(S:a' E J l h)(k:∀b A,h.get? b=some A->ae.get? b=some A)(aO:a∉J)(bQ:E.heap.get? a=none)(r:f3 E (J++[a]) ae A a):
 a' E (J++[a]) (l++[A]) ae where
 len:=by rw[fN,fN,S.len];rfl
 nodup:=y9.mpr ⟨S.nodup,(by simp),λx aD y bD q=>aO (y0 bD▸q▸aD)⟩
 new:=λb ag=>(ip.mp ag).elim (S.new b) λq=>y0 q▸bQ
 base:=λb A e=>k b A (S.base b A e)
 obj:=λn b ch iV iW=>(sG iV).elim (λq=>(sG iW).elim (λdZ=>(S.obj n b ch q dZ).mono (.of (λn b e=>(jv (gt.mp e).1).trans e) k) (k b)) λz=>absurd (gt.mp q).1 (S.len▸z.1▸kw _))
  λz=>(sG iW).elim (λq=>absurd (gt.mp q).1 (S.len▸z.1▸kw _)) λil=>by cases z.2;cases il.2;exact r
 pY:=λb ag=>k5 (S.pY b ag) λT A az r=>qx T A (k b A az) r
theorem a'.push{ae:aV}{a:aa}{A:aQ}(S:a' E J l h)(k:∀b A,h.get? b=some A->ae.get? b=some A)(aO:h.get? a=none)(r:f3 E (J++[a]) ae A a):a' E (J++[a]) (l++[A]) ae:=
 S.OW k (λq=>S.there a q aO) (zg.mpr λA z=>c1 (S.base a A z) aO) r
theorem a'.set{ae:aV}{n:Nat}{a:aa}{A:aQ}(S:a' E J l h)(ar:J[n]? =some a)(ag:hw a h ae)(r:f3 E J ae A a):a' E J (l.set n A) ae:=
 have hm:=fG ar
 have fd:∀b T,h.IsTuple b T->ae.IsTuple b T:=λb T e=>aU (id e) λA az q=>bx A ((ag.2 b λz=>S.vL b (z▸hm) T e).trans az) q
 ⟨by rw[la];exact S.len,S.nodup,S.new,λb A e=>(ag.2 b λz=>c1 e (S.new b (z▸hm))).trans (S.base b A e),λN b ch iV iW=>by
  by_cases E4:n=N
  ·subst E4
   rw[H7 (S.len▸(gt.mp ar).1)] at iW
   exact dq iW▸dq (ar.symm.trans iV)▸r
  ·rw[k' E4] at iW
   exact(S.obj N b ch iV iW).mono ⟨λo o e=>e,λb T o=>fd b T⟩ λA q=>(ag.2 b λz=>E4 ((List.getElem?_inj (gt.mp ar).1 S.nodup).mp (ar.trans (z▸iV.symm)))).trans q,
  λb aO=>bz (S.pY b aO) λT e=>bk T (fd b T e)⟩
end
section
variable{D:Bool}{bT W J:List aa}{s:ay}
theorem bG.push{h:aV}{t:Nat}{a:aa}(k:∀b A,s.heap.get? b=some A->h.get? b=some A)(aO:s.heap.get? a=none):bG D bT W J s (J++[a]) {s with heap:=h,toks:=t}:=
 ⟨⟨[a],rfl,λb ag=>y0 ag▸aO⟩,λb A o o e=>.inl (k b A e),λa e q=>Ng k e q,⟨rfl,rfl⟩,λo a o A o o e o=>k a A e,λa N o e=>⟨N,tw e (k a)⟩⟩
theorem bG.set{h:aV}{t:Nat}{a:aa}(ag:hw a s.heap h)(ar:a∈J∨a∈W)(bn:h.get? a≠none)(dy:D=true->a∈J->∀A af a0,s.heap.get? a=some A->A.data≠.dict af a0)(gr:a∉J->∀N,s.heap.Ns a N->∃de,h.Ns a de):bG D bT W J s J {s with heap:=h,toks:=t}:=
 ⟨⟨[],(iK J).symm,hF⟩,λb A hm bS e=>.inl ((ag.2 b λq=>ar.elim (q▸hm) (q▸bS)).trans e),λb e=>(yP (b=a)).elim (λq=>q▸bn) λq z=>e ((ag.2 b q).symm.trans z),⟨rfl,rfl⟩,
  λd b hm A af a0 e hd=>(ag.2 b λq=>by cases q;exact dy d hm A af a0 e hd).trans e,λb N hm e=>(yP (b=a)).elim (λq=>by cases q;exact gr hm N e) λq=>⟨N,tw e λA e=>(ag.2 b q).trans e⟩⟩
end
end
end
theorem yf{α:Type}{m:List α}{i j:Nat}{a b:α}(h:(m.set i a)[j]? =some b):i=j∧b=a∨i≠j∧m[j]? =some b:=by
 by_cases e:i=j
 ·subst e
  rw[Ct] at h
  cases q:m[i]? with
  |none=>rw[q] at h;cases h
  |some A=>rw[q] at h;exact .inl ⟨rfl,(dq h).symm⟩
 ·rw[k' e] at h
  exact .inr ⟨e,h⟩
abbrev gm:=Bool×aa×cV
structure hn where
 n:Nat
 bE:Nat
 aY:List gm
structure gb(α:Type)where
 v:Except ab α
 cd:List Nat
 k:hn
 d6:List (aa×aa)
noncomputable def gb.and{α:Type}(m:List (aa×aa))(x:gb α):gb α:=⟨x.v,x.cd,x.k,m++x.d6⟩
noncomputable def pick{bq:Type}(cd:List Nat)(K:hn)(f:Nat->List Nat->gm->Option bq):Option bq:= @HY Nat (λo=>Option bq) cd none λi cd=>(K.aY[i]?).bind (f i cd)
section
variable{α:Type}
noncomputable def l2(bp:qV->List Nat->hn->Option (gb mw))(st:Setting)(t:dh α):List Nat->hn->Option (gb α):=
 @Sem.rec α (λo=>List Nat->hn->Option (gb α)) (λa cd K=>some ⟨.ok a,cd,K,[]⟩) (λe cd K=>some ⟨.error e,cd,K,[]⟩) (λo o o=>none) (λo o o=>none) (λo o aJ=>aJ ()) (λo o aJ=>aJ ())
  (λa o o aJ cd K=>pick cd K λo cd p=>(aJ p.2.2 cd K).map (.and [(a,p.2.1)])) (λa o f o aJ cd K=>pick cd K λi cd p=>cond (p.1 && !(f p.2.2).isFreed) ((aJ () cd ⟨K.n,K.bE,K.aY.set i (true,p.2.1,f p.2.2)⟩).map (.and [(a,p.2.1)])) none)
  (λA o aJ cd K=>cond A.isFreed none (aJ K.n cd ⟨K.n+1,K.bE,K.aY++[(true,K.n,A)]⟩)) (λo o o o o=>none) (λo o aJ=>aJ ()) (λo o o o o=>none) (λo aJ cd K=>aJ K.bE cd ⟨K.n,K.bE+1,K.aY⟩) (λo aJ=>aJ st) (λo o o o o o=>none) (λo o o o o o=>none)
  (λc h o o o aJ cd K=> @Option.casesOn ab (λo=>Option (gb α)) h ((bp c cd K).bind λx=>(aJ x.v x.cd x.k).map (.and x.d6)) λo=>none) (λA o aJ=>cond A (λo o=>none) (aJ none))
  (λo o o o o=>none) (λo o o o o=>none) (λo o o o o o o=>none) (λo o o o o o o=>none) (λo o o o=>none) (λo o o o o=>none) (λo o o o=>none) (λo o o o o o o o=>none) t
end
noncomputable def runC(st:Setting)(n:Nat):qV->List Nat->hn->Option (gb mw):=
 @SV (λo=>qV->List Nat->hn->Option (gb mw)) (λo o o=>none) (λo aJ c cd K=>(l2 aJ st (wV BK c) cd K).bind λx=> @RH ab PySem.Fin (λo=>Option (gb mw)) x.v (λe=>some ⟨.error e,x.cd,x.k,x.d6⟩) λf=> @PySem.Fin.casesOn (λo=>Option (gb mw)) f (λf=>some ⟨.ok f,x.cd,x.k,x.d6⟩) λdd=>cond dd.quiet ((aJ dd x.cd x.k).map (.and x.d6)) none) n
def gb.Ok{α:Type}(x:gb α):Prop:=∀p∈x.d6,p.1=p.2
structure oN(K:hn)(s:ay):Prop where
 n:s.heap.objs.size=K.n
 bE:s.toks=K.bE
 at_:∀{i:Nat}{p:gm},K.aY[i]? =some p->s.heap.get? p.2.1=some p.2.2
 apart:∀{i j:Nat}{p q:gm},K.aY[i]? =some p->K.aY[j]? =some q->i≠j->p.1=true->p.2.1≠q.2.1
structure nx(K:hn)(s:ay)(wh:hn)(ah:ay):Prop where
 keep:∀c A,(∀p∈K.aY,p.1=true->p.2.1≠c)->s.heap.get? c=some A->ah.heap.get? c=some A
 same:ah.gens=s.gens∧ah.drawn=s.drawn∧ah.os=s.os
 le:K.n<=wh.n
 addr:∀p∈wh.aY,p.1=true->(∃q∈K.aY,q.1=true∧q.2.1=p.2.1)∨K.n<=p.2.1
theorem nx.refl{K:hn}{s:ay}:nx K s K s:=⟨λo o o e=>e,⟨rfl,rfl,rfl⟩,eN _,λp h e=>.inl ⟨p,h,e,rfl⟩⟩
theorem nx.trans{K HX yY:hn}{s bd cR:ay}(R:oN K s)(x:nx K s HX bd)(y:nx HX bd yY cR):nx K s yY cR where
 keep:=λc A h e=>y.keep c A (λp aL bS z=>(x.addr p aL bS).elim (λw=>cr w λq ai am a6=>h q ai am (a6.trans z)) λm=>absurd (eF e) (lQ.mpr (R.n▸z▸m))) (x.keep c A h e)
 same:=⟨y.same.1.trans x.same.1,y.same.2.1.trans x.same.2.1,y.same.2.2.trans x.same.2.2⟩
 le:=da x.le y.le
 addr:=λp aL bS=>(y.addr p aL bS).elim (λw=>cr w λq ai am a6=>a6▸x.addr q ai am) λm=>.inr (da x.le m)
theorem ad9{K:hn}{s:ay}{A:cV}(R:oN K s)(az:A.isFreed=false):oN ⟨K.n+1,K.bE,K.aY++[(true,K.n,A)]⟩ {s with heap:=s.heap.push A}∧nx K s ⟨K.n+1,K.bE,K.aY++[(true,K.n,A)]⟩ {s with heap:=s.heap.push A}:=by
 have lt:∀{i:Nat}{p:gm},K.aY[i]? =some p->p.2.1<K.n:=λe=>R.n▸eF (R.at_ e)
 refine⟨⟨(oG ..).trans (congrArg (· + 1) R.n),R.bE,λe=>(sG e).elim (λe=>dM _ (R.at_ e)) λz=>z.2▸R.n▸eS _ az,λa3 a4 ne bS=>?_⟩,λc ch o e=>dM _ e,⟨rfl,rfl,rfl⟩,pR _,λp aL bS=>(ip.mp aL).imp (λh=>⟨p,h,bS,rfl⟩) λh=>by cases y0 h;exact eN _⟩
 exact(sG a3).elim (λa=>(sG a4).elim (λb=>R.apart a b ne bS) λb=>b.2▸ho (lt a)) λa=>(sG a4).elim (λb=>a.2▸sw (lt b)) λb=>absurd (a.1.trans b.1.symm) ne
theorem ad'{K:hn}{s:ay}{i:Nat}{p:gm}{f:cV->cV}(R:oN K s)(e:K.aY[i]? =some p)(bS:p.1=true)(aG:(f p.2.2).isFreed=false):oN ⟨K.n,K.bE,K.aY.set i (true,p.2.1,f p.2.2)⟩ {s with heap:=s.heap.update p.2.1 f}∧nx K s ⟨K.n,K.bE,K.aY.set i (true,p.2.1,f p.2.2)⟩ {s with heap:=s.heap.update p.2.1 f}:=by
 refine⟨⟨(Heap.size_after_update ..).trans R.n,R.bE,λcm=>(yf cm).elim (λz=>z.2▸nz f (R.at_ e) aG) λz=>(my _ f (R.apart e z.2 z.1 bS)).trans (R.at_ z.2),λa3 a4 ne ai=>?_⟩,
  λc A h cm=>(my _ f (h p (fG e) bS)).trans cm,⟨rfl,rfl,rfl⟩,eN _,λq a7 Z2=>.inl (bz (pK a7) λj mQ=>(yf mQ).elim (λz=>⟨p,fG e,bS,by rw[z.2]⟩) λz=>⟨q,fG z.2,Z2,rfl⟩)⟩
 exact(yf a3).elim (λa=>(yf a4).elim (λb=>absurd (a.1.symm.trans b.1) ne) λb=>by rw[a.2];show p.2.1≠_;exact R.apart e b.2 b.1 bS) λa=>(yf a4).elim (λb=>by rw[b.2];show _≠p.2.1;exact R.apart a.2 e (b.1▸ne) ai) λb=>R.apart a.2 b.2 ne ai
section
variable{α:Type}
theorem rS{r:gb α}{P:Prop}(e:none=some r):P:=by cases e
theorem A1{x:Option (gb α)}{m:List (aa×aa)}{r:gb α}{P:Prop}(e:x.map (.and m)=some r)(n:r.Ok)(k:∀y,x=some y->(∀p∈m,p.1=p.2)->y.Ok->y.v=r.v->y.k=r.k->P):P:=by
 cases x with
 |none=>exact rS e
 |some y=>cases e;exact k y rfl (λp h=>n p (pL _ h)) (λp h=>n p (wo _ h)) rfl rfl
theorem OH{bq:Type}{cd:List Nat}{K:hn}{f:Nat->List Nat->gm->Option bq}{r:bq}{P:Prop}(e:pick cd K f=some r)(k:∀i cd p,K.aY[i]? =some p->f i cd p=some r->P):P:=by
 cases cd with
 |nil=>cases e
 |cons i cd=>exact aU (mF.mp e) λp a0 e=>k i cd p a0 e
def II(an:α->ay->Prop)(aA:ab->ay->Prop)(v:Except ab α):ay->Prop:= @RH ab α (λo=>ay->Prop) v aA an
def HM(bp:qV->List Nat->hn->Option (gb mw)):Prop:=∀c cd K r s,bp c cd K=some r->r.Ok->oN K s->∀(M:cv)(R:lT->ay->Prop),M.handled=none->(∀ah,oN r.k ah->nx K s r.k ah->R r.v ah)->gy (a1 aH w) M c R s
theorem V2{b:Bool}{x:Option (gb α)}{r:gb α}{P:Prop}(e:cond b none x=some r)(k:b=false->x=some r->P):P:=by
 cases b with
 |true=>exact rS e
 |false=>exact k rfl e
theorem V3{b:Bool}{x:Option (gb α)}{r:gb α}{P:Prop}(e:cond b x none=some r)(k:b=true->x=some r->P):P:=by
 cases b with
 |true=>exact k rfl e
 |false=>exact rS e
theorem O9{x r:gb α}(e:some x=some r):x=r:=dq e
def RJ(bp:qV->List Nat->hn->Option (gb mw))(M:cv)(an:α->ay->Prop)(aA:ab->ay->Prop)(t:dh α):Prop:=∀(cd:List Nat)(K:hn)(r:gb α)(s:ay),l2 bp ⟨aH,w.params⟩ t cd K=some r->r.Ok->oN K s->(∀ah,oN r.k ah->nx K s r.k ah->II an aA r.v ah)->a9 (a1 aH w) M t an aA s
theorem Ab{bp:qV->List Nat->hn->Option (gb mw)}(l6:HM bp){M:cv}(cX:M.handled=none){an:α->ay->Prop}{aA:ab->ay->Prop}(t:dh α):RJ bp M an aA t:=by
 induction t with
 |pure a=>exact λcd K r s e n R h gj p g7=>by cases O9 (x:=⟨.ok a,cd,K,[]⟩) e;exact h s R .refl
 |raise a=>exact λcd K r s e n R h gj p g7=>by cases O9 (x:=⟨.error a,cd,K,[]⟩) e;exact h s R .refl
 |rule _ _ aJ |«at» _ _ aJ |point _ _ aJ=>exact λcd K r s e n R h gj p g7=>aJ () cd K r s e n R h gj _ g7
 |load a p k aJ=>exact λcd K r s e n R h gj p g7=>OH (cd:=cd) (K:=K) (f:=λo cd q=>(l2 bp ⟨aH,w.params⟩ (k q.2.2) cd K).map (gb.and [(a,q.2.1)])) e λi cd q eq e=>A1 e n λy fZ ar eY dY ea=>⟨q.2.2,(show a=q.2.1 from ar _ (.head _))▸R.at_ eq,aJ _ cd K y s fZ eY R (dY▸ea▸h) gj p g7⟩
 |update a p f k aJ=>exact λcd K r s e n R h gj p g7=>OH (cd:=cd) (K:=K) (f:=λi cd q=>cond (q.1 && !(f q.2.2).isFreed) ((l2 bp ⟨aH,w.params⟩ (k ()) cd ⟨K.n,K.bE,K.aY.set i (true,q.2.1,f q.2.2)⟩).map (gb.and [(a,q.2.1)])) none) e λi cd q eq e=>V3 e λaK e=>A1 e n λy fZ ar eY dY ea=>have aK:=gk.mp aK
  have o:=ad' R eq aK.1 ((pD _).mp aK.2)
  (show a=q.2.1 from ar _ (.head _))▸⟨Option.isSome_of_eq_some (R.at_ eq),aJ () cd _ y _ fZ eY o.1 (λah gZ X=>dY▸h ah (ea▸gZ) (ea▸o.2.trans R X)) gj p g7⟩
 |alloc A k aJ=>exact λcd K r s e n R h gj p g7=>V2 (x:=l2 bp ⟨aH,w.params⟩ (k K.n) cd ⟨K.n+1,K.bE,K.aY++[(true,K.n,A)]⟩) e λaK e=>have o:=ad9 R aK;aJ s.heap.objs.size cd ⟨K.n+1,K.bE,K.aY++[(true,K.n,A)]⟩ r {s with heap:=s.heap.push A} ((congrArg (λN=>l2 bp ⟨aH,w.params⟩ (k N) cd ⟨K.n+1,K.bE,K.aY++[(true,K.n,A)]⟩) R.n).trans e) n o.1 (λah gZ X=>h ah gZ (o.2.trans R X)) gj p g7
 |fresh k aJ=>exact λcd K r s e n R h gj p g7=>aJ s.toks cd ⟨K.n,s.toks+1,K.aY⟩ r {s with toks:=s.toks+1} (R.bE▸e) n ⟨R.n,rfl,R.at_,R.apart⟩ (λah gZ X=>h ah gZ ⟨X.keep,X.same,X.le,X.addr⟩) gj p g7
 |ask k aJ=>exact λcd K r s e n R h gj p g7=>aJ _ cd K r s e n R h gj p g7
 |call c hd g m k aJ=>
  intro cd K r s e n R h gj p g7
  cases hd with
  |some _=>exact rS e
  |none=>exact aU (mF.mp (show(bp c cd K).bind (λx=>(l2 bp ⟨aH,w.params⟩ (k x.v) x.cd x.k).map (gb.and x.d6))=some r from e)) λx ex cm=>A1 cm n λy fZ q eY dY ea=>l6 c cd K x s ex q R (M.mark none) (λeP ah=>CZ (a1 aH w) gj (k eP) (λa o ah=>an a ah) (λe o ah=>aA e ah) p ah) cX (λah gZ X=>aJ _ x.cd x.k y ah fZ eY gZ (λqG CT kE=>dY▸h qG (ea▸CT) (ea▸X.trans R kE)) gj p g7) _ p rfl (g7.enter c none p λz=>by cases z)
 |handled A k aJ=>cases A with
  |true=>exact λcd K r s e=>rS e
  |false=>exact λcd K r s e n R h gj p g7=>(show CZ _ gj (k gj.handled) _ _ _ _ from(g7.1.trans cX).symm▸aJ none cd K r s e n R h gj p g7)
 |_=>exact λcd K r s e=>rS e
theorem Ph(n:Nat):HM (runC ⟨aH,w.params⟩ n):=by
 induction n with
 |zero=>exact λc cd K r s e=>rS e
 |succ n aJ=>
  intro c cd K r s e aO R M P cX h
  refine aU (mF.mp e) λx ex cm=>?_
  replace ex:l2 (runC ⟨aH,w.params⟩ n) ⟨aH,w.params⟩ (wV table c) cd K=some x:=by rw[table_eq_tree];exact ex
  obtain⟨v,Qy,wh,d6⟩:=x
  cases v with
  |error x=>cases cm;exact uy (Ab aJ (by exact cX) (wV table c) cd K _ s ex aO R h)
  |ok f=>cases f with
   |done f=>cases cm;exact uy (Ab aJ (by exact cX) (wV table c) cd K _ s ex aO R h)
   |again dd=>
    dsimp only at cm
    cases q:dd.quiet with
    |false=>rw[q] at cm;exact rS cm
    |true=>
     rw[q] at cm
     exact A1 cm aO λy fZ fu eY dY ea=>uy (Ab aJ (by exact cX) (wV table c) cd K ⟨.ok (.again dd),Qy,wh,d6⟩ s ex fu R λah gZ X=>⟨q,aJ dd Qy wh y ah fZ eY gZ M P cX λqG CT kE=>dY▸h qG (ea▸CT) (ea▸X.trans R kE)⟩)
def Be(c:aa)(m:List gm):Prop:= @ss gm (λo=>Prop) True (λp o aJ=>cond p.1 (p.2.1≠c∧aJ) aJ) m
def apart1(p:gm)(m:List gm):Prop:= @ss gm (λo=>Prop) True (λq o aJ=>cond (p.1||q.1) (p.2.1≠q.2.1∧aJ) aJ) m
def zA(m:List gm):Prop:= @ss gm (λo=>Prop) True (λp r aJ=>apart1 p r∧aJ) m
def sI(h:aV)(m:List gm):Prop:= @ss gm (λo=>Prop) True (λp o aJ=>h.get? p.2.1=some p.2.2∧aJ) m
theorem ac0{c:aa}{m:List gm}(x:Be c m):∀p∈m,p.1=true->p.2.1≠c:=by
 induction m with
 |nil=>exact λp h=>(hK h).elim
 |cons q r aJ=>
  intro p h aL
  obtain⟨b,a,A⟩:=q
  cases b with
  |false=>exact(dU.mp h).elim (λe=>by subst e;cases aL) λh=>aJ x p h aL
  |true=>exact(dU.mp h).elim (λe=>e▸x.1) λh=>aJ x.2 p h aL
theorem Jc{p:gm}{m:List gm}(x:apart1 p m):∀q∈m,p.1=true∨q.1=true->p.2.1≠q.2.1:=by
 induction m with
 |nil=>exact λp h=>(hK h).elim
 |cons q r aJ=>
  intro u h aL
  change cond (p.1||q.1) (p.2.1≠q.2.1∧apart1 p r) (apart1 p r) at x
  cases ag:p.1||q.1 with
  |false=>rw[ag] at x;exact(dU.mp h).elim (λe=>by subst e;rw[(Cb _ _).mpr aL] at ag;cases ag) λh=>aJ x u h aL
  |true=>rw[ag] at x;exact(dU.mp h).elim (λe=>e▸x.1) λh=>aJ x.2 u h aL
theorem Jd{m:List gm}(x:zA m):∀{i j:Nat}{p q:gm},m[i]? =some p->m[j]? =some q->i≠j->p.1=true->p.2.1≠q.2.1:=by
 induction m with
 |nil=>exact λe=>by cases e
 |cons u r aJ=>
  intro i j p q a3 a4 ne aL
  cases i with
  |zero=>cases j with
   |zero=>exact absurd rfl ne
   |succ j=>cases a3;exact Jc x.1 q (fG a4) (.inl aL)
  |succ i=>cases j with
   |zero=>cases a4;exact(Jc x.1 p (fG a3) (.inr aL)).symm
   |succ j=>exact aJ x.2 a3 a4 (λz=>ne (congrArg _ z)) aL
theorem Jm{h:aV}{m:List gm}(x:sI h m):∀{i:Nat}{p:gm},m[i]? =some p->h.get? p.2.1=some p.2.2:=by
 induction m with
 |nil=>intro i p e;cases e
 |cons u r aJ=>
  intro i p e
  cases i with
  |zero=>cases e;exact x.1
  |succ i=>exact aJ x.2 e
theorem Uf{h:aV}{m:List gm}(x:∀p∈m,h.get? p.2.1=some p.2.2):sI h m:=by
 induction m with
 |nil=>trivial
 |cons u r aJ=>exact⟨x u (.head _),aJ λp aL=>x p (.tail _ aL)⟩
noncomputable def lf(b:Bool)(P:oL):oL:={P with followText:=λs=>if s="special-get-raises" then b else P.followText s}
theorem IH(P:oL):lf (P.followText "special-get-raises") P=P:=by
 have:(λs=>if s="special-get-raises" then P.followText "special-get-raises" else P.followText s)=P.followText:=by
  funext s
  by_cases h:s="special-get-raises"
  ·rw[if_pos h,h]
  ·rw[if_neg h]
 unfold lf
 rw[this]
noncomputable def seen(x:gb α):Except ab α×hn×List aa×List aa:=(x.v,x.k,x.d6.map (·.1),x.d6.map (·.2))
theorem Pr{r:gb α}{v:Except ab α}{K:hn}{aB:List aa}(e:seen r=(v,K,aB,aB)):r.v=v∧r.k=K∧r.Ok :=
 ⟨congrArg (·.1) e,congrArg (·.2.1) e,mB.mp ((congrArg (·.2.2.1) e).trans (congrArg (·.2.2.2) e).symm)⟩
theorem KO{K:hn}{s ah:ay}{aY:List gm}(R:oN K ah)(X:nx ⟨s.heap.objs.size,s.toks,aY⟩ s K ah){P:ay->Prop}(h:∀ae,ae.objs.size=K.n->sI ae K.aY->(∀c A,Be c aY->s.heap.get? c=some A->ae.get? c=some A)->P {s with heap:=ae,toks:=K.bE}):P ah:=by
 obtain⟨aL,g,d,t,os⟩:=ah
 cases X.same.1
 cases X.same.2.1
 cases X.same.2.2
 cases R.bE
 exact h aL R.n (Uf λp aL=>bz (pK aL) λo e=>R.at_ e) λc A aK=>X.keep c A (ac0 aK)
theorem Aa{M:cv}{t:dh α}{s:ay}{v:Except ab α}{K:hn}{aB:List aa}{an:α->ay->Prop}{aA:ab->ay->Prop}(n:Nat)(cd:List Nat)(aY:List gm)(e:∀b,(l2 (runC ⟨aH,lf b w.params⟩ n) ⟨aH,lf b w.params⟩ t cd ⟨s.heap.objs.size,s.toks,aY⟩).map seen=some (v,K,aB,aB))(cX:M.handled=none)(ar:sI s.heap aY)(aL:zA aY)
 (h:∀ae,ae.objs.size=K.n->sI ae K.aY->(∀c A,Be c aY->s.heap.get? c=some A->ae.get? c=some A)->II an aA v {s with heap:=ae,toks:=K.bE}):a9 (a1 aH w) M t an aA s:=by
 replace e:=e (w.params.followText "special-get-raises")
 rw[IH] at e
 exact aU (hL.mp e) λr iU eq=>have q:=Pr eq;Ab (Ph n) cX t cd _ r s iU q.2.2 ⟨rfl,rfl,Jm ar,Jd aL⟩ λah R X=>q.1▸KO (q.2.1▸R) (q.2.1▸X) h
theorem XS{M:cv}{c:qV}{s:ay}{v:Except ab mw}{K:hn}{aB:List aa}{R:lT->ay->Prop}(n:Nat)(cd:List Nat)(aY:List gm)(e:∀b,(runC ⟨aH,lf b w.params⟩ n c cd ⟨s.heap.objs.size,s.toks,aY⟩).map seen=some (v,K,aB,aB))(cX:M.handled=none)(ar:sI s.heap aY)(aL:zA aY)
 (h:∀ae,ae.objs.size=K.n->sI ae K.aY->(∀c A,Be c aY->s.heap.get? c=some A->ae.get? c=some A)->R v {s with heap:=ae,toks:=K.bE}):gy (a1 aH w) M c R s:=by
 replace e:=e (w.params.followText "special-get-raises")
 rw[IH] at e
 exact aU (hL.mp e) λr iU eq=>have q:=Pr eq;Ph n c cd _ r s iU q.2.2 ⟨rfl,rfl,Jm ar,Jd aL⟩ M R cX λah R X=>q.1▸KO (q.2.1▸R) (q.2.1▸X) h
end
noncomputable def ci(m:List bo):List aa:=m.filterMap (·.frame)
inductive mH(O:bo)(h:aV)(x:I)(v:Option ab):Prop
 |ns (k:O.kindOf x=some .local) (N:I->Option ab) (n:h.Ns O.locals N) (e:N x=v)
 |cell (k:O.kindOf x=some .cell∨O.kindOf x=some .free) (c:aa) (m:O.cells.lookup x=some c) (b:h.IsCell c v)
structure gM(E:bM)(J:List aa)(h:aV)(m:List bo):Prop where
 each:∀O∈m,O.scope.kind≠.module∧∃aB,O.frame=some aB∧E.heap.get? aB=none∧aB∉J∧∃N,h.Ns aB N
structure er(E:bM)(U:List (I×Nat))(O:bo)(J:List aa)(C:aI)(h:aV):Prop where
 ns:∃N,h.Ns O.locals N
 nm:O.locals∉J
 val:∀(x:I)(i:Nat),U.lookup x=some i->∃v,mH O h x v∧(∀a,C[i]? =some (some a)->∃u,v=some u∧bf E J h a u)
 apart:∀x y c,O.cells.lookup x=some c->O.cells.lookup y=some c->x=y
 pf:E.heap.get? O.locals=none
 m6:∀x c,O.kindOf x=some .cell->O.cells.lookup x=some c->E.heap.get? c=none
structure h0(names:List (I×b4))(O:bo):Prop where
 kind:O.scope.kind=.function
 names:O.scope.names=names
 globals:O.globals=gh
 builtins:O.builtins=sL
theorem h0.kindOf{names:List (I×b4)}{O:bo}(x:h0 names O)(n:I):O.kindOf n=names.lookup n:=by unfold pG;rw[x.names]
structure ov(E:bM)(m:List bo)(s:ay)(J:List aa)(b:aa):Prop where
 new:s.heap.get? b=none
 xP:E.heap.get? b=none
 nm:b∉J
 hU:b∉ci m
inductive oF(h:aV)(Q b7 bC:aa)(iF:ab):Prop
 |mk {rU:cV} {T:Array ab} (az:h.get? b7=some rU) (aK:rU.cls=.ref Q) (hd:rU.dict=some bC) (ck:rU.data=.fields T) (ai:T[1]? =some iF)
inductive oE(E:bM)(J:List aa)(h:aV)(a:L)(bC:aa):Prop
 |mk {bP:List (I×ab)} {v:ab} (d:h.DictOf (strKind aH w) bC bP) (s:qM bP ("spot":I)=some v) (r:bf E J h a v)
inductive q0(h:aV)(b1:aa):Prop
 |mk {ph:cV} {em:Array ab} {aC:ab} (az:h.get? b1=some ph) (aK:ph.cls=.type "traceback") (hd:ph.data=.fields em) (aG:em[3]? =some aC)
inductive Ch(E:bM)(m:List bo)(s:ay)(J:List aa)(h:aV)(b7 bC:aa):ab->Prop
 |none:Ch E m s J h b7 bC .none
 |be {b1:aa} (gN:ov E m s J b1) (ne:b1≠b7) (pe:b1≠bC) (t:q0 h b1):Ch E m s J h b7 bC (.ref b1)
inductive iJ(E:bM)(m:List bo)(s:ay)(aw:List aa)(h:aV)(a:L)(b7:aa):Prop
 |mk {Q bC:aa} {iF:ab} {N:I->Option ab} (gN:ov E m s aw b7) (hm:E.heap.Ns gh N) (aM:N "KindFault"=some (.ref Q)) (ka:ov E m s aw bC) (kH:bC≠b7) (A:oF h Q b7 bC iF) (d:oE E aw h a bC) (r:Ch E m s aw h b7 bC iF)
def mx(E:bM)(m:List bo)(s:ay)(aw:List aa)(ah:ay)(a:L)(e:ab):Prop:=∃b7,e=.ref b7∧iJ E m s aw ah.heap a b7
inductive zr(h:aV)(b7:aa):Prop
 |mk {rU:cV} {T:Array ab} {b1:aa} (az:h.get? b7=some rU) (ck:rU.data=.fields T) (ai:T[1]? =some (.ref b1)) (ne:b1≠b7) (t:q0 h b1)
theorem iJ.map{E:bM}{m gS:List bo}{s ah:ay}{J aw:List aa}{h:aV}{a:L}{b7:aa}(x:iJ E m s J h a b7)(f:∀b,ov E m s J b->ov E gS ah aw b)(g:∀v,bf E J h a v->bf E aw h a v):iJ E gS ah aw h a b7:=by
 cases x with |mk gN hm aM ka kH A d r=>
 refine .mk (f _ gN) hm aM (f _ ka) kH A (by cases d with |mk d s r=>exact .mk d s (g _ r)) ?_
 cases r with
 |none=>exact .none
 |be gN ne pe t=>exact .be (f _ gN) ne pe t
section
variable(E:bM)
structure wE(d:Nat)(M:cv)(m:List bo):Prop where
 a8:M.handled=none
 depth:M.depth+5*d<600
 units:M.units+40*d+400<hO
 frames:M.frames=some m
structure nG(d:Nat)(M:cv)(m:List bo):Prop where
 a8:M.handled=none
 depth:M.depth+5*d+3<600
 units:M.units+40*d+420<hO
 frames:M.frames=some m
theorem nG.He{d:Nat}{M:cv}{m:List bo}(R:nG d M m):wE d M m:=⟨R.a8,by have:=R.depth;exact CD this,by have:=R.units;exact b6 [_,_,_] 1 (Ns (.add (.add al (.mulL 40 ax)) (.num 400))) aT 1 (Ns (.add (.add al (.mulL 40 ax)) (.num 420))) aT rfl this,R.frames⟩
structure dN(names:List (I×b4))(U:List (I×Nat))(d:Nat)(M:cv)(m:List bo)(O:bo)(J:List aa)(C:aI)(l:St)(s:ay):Prop where
 room:nG d M m
 dJ:h0 names O
 lo:er E U O J C s.heap
 st:a' E J l s.heap
 fr:gM E J s.heap m
inductive lS(D:Bool){α bq:Type}(R:List aa->aV->α->bq->Prop)(m:List bo)(W J:List aa)(s:ay)(r:ao α)(v:bq)(ah:ay):Prop
 |mk (a:α) (av:St) (e:r=.ok a av) (aw:List aa) (S:a' E aw av ah.heap) (q:R aw ah.heap a v) (g:bG D (ci m) W J s aw ah)
inductive f'(D:Bool){α:Type}(m:List bo)(W J:List aa)(s:ay)(r:ao α)(v:ab)(ah:ay):Prop
 |mk (a:L) (av:St) (e:r=.exc a av) (aw:List aa) (S:a' E aw av ah.heap) (f:mx E m s aw ah a v) (g:bG D (ci m) W J s aw ah)
def a5(D:Bool){α bq:Type}(M:cv)(m:List bo)(W J:List aa)(s:ay)(N:dh bq)(R:List aa->aV->α->bq->Prop)(r:ao α):Prop:=
 r≠.fail->a9 (a1 aH w) M N (lS E D R m W J s r) (f' E D m W J s r) s
end
theorem mx.back{E:bM}{m:List bo}{s bd ah:ay}{aw:List aa}{a:L}{e:ab}(x:mx E m bd aw ah a e)(aN:∀b,s.heap.get? b≠none->bd.heap.get? b≠none):
 mx E m s aw ah a e:=by
 refine aU x λb7 z aC=>⟨b7,z,aC.map (λb w=>⟨?_,w.xP,w.nm,w.hU⟩) λo r=>r⟩
 cases q:s.heap.get? b with
 |none=>rfl
 |some A=>exact absurd w.new (aN b (by rw[q];nofun))
section
variable{D:Bool}{E:bM}{α bq im qT:Type}{M:cv}{m:List bo}{W J:List aa}{s:ay}
theorem bG.ns{bT W aw:List aa}{ah:ay}(x:bG D bT W J s aw ah){a:aa}{N:I->Option ab}(hm:a∉J)(bS:a∉W)(e:s.heap.Ns a N):ah.heap.Ns a N:=by
 refine jq e λA af a0 az hd r=>?_
 rcases x.keep a A hm bS az with q |⟨_,e8,q⟩
 ·exact rR A af a0 q hd r
 ·exact rR _ af a0 q hd r
theorem bG.cell{bT W aw:List aa}{ah:ay}(x:bG D bT W J s aw ah){c:aa}{v:Option ab}(hm:c∉J)(bS:c∉W)(e:s.heap.IsCell c v):ah.heap.IsCell c v:=by
 refine aU e λA az hd=>?_
 rcases x.keep c A hm bS az with q |⟨_,e8,q⟩
 ·exact bx A q hd
 ·exact bx _ q hd
theorem f3.xQ{a:aa}{v:Option ab}{h:aV}{A:aQ}(r:f3 E J h A a)(x:h.IsCell a v):False:=by
 refine cr r.obj λo e o q=>?_
 refine aU x λo az hd=>?_
 exact q v (dq (e.symm.trans az)▸hd)
theorem a'.xQ{l:St}{h:aV}(S:a' E J l h){a:aa}{v:Option ab}(e:h.IsCell a v):a∉J:=λar=>by
 obtain⟨n,A,_,_,r⟩:=S.mem ar;exact r.xQ e
theorem xS{h:aV}{a:aa}{N:I->Option ab}{v:Option ab}(x:h.Ns a N)(y:h.IsCell a v):False:=by
 refine jq x λA af a0 az hd o=>?_
 refine aU y λch eA eO=>?_
 rw[az] at eA;cases eA;rw[hd] at eO;cases eO
theorem pg{h:aV}{a:aa}{N:I->Option ab}{T:Array ab}(x:h.Ns a N)(y:h.IsTuple a T):False:=by
 refine jq x λA af a0 az hd o=>?_
 refine cr y λch eA o ajz=>?_
 obtain⟨n,eO⟩:=ajz
 rw[az] at eA;cases eA;rw[hd] at eO;cases eO
theorem JK{h:aV}{a:aa}{v:Option ab}{T:Array ab}(x:h.IsCell a v)(y:h.IsTuple a T):False:=by
 refine aU x λA az hd=>?_
 refine cr y λch eA o ajA=>?_
 obtain⟨n,eO⟩:=ajA
 rw[az] at eA;cases eA;rw[hd] at eO;cases eO
theorem Ns.but{h ae:aV}{a c:aa}{N:I->Option ab}(ag:hw c h ae)(ne:a≠c)(n:h.Ns a N):ae.Ns a N:=tw n λo q=>(ag.2 a ne).trans q
theorem zQ{h ae:aV}{a c:aa}{v:Option ab}(ag:hw c h ae)(ne:a≠c)(n:h.IsCell a v):ae.IsCell a v:=aU n λA q r=>bx A ((ag.2 a ne).trans q) r
theorem Oi{h:aV}{a:aa}{N de:I->Option ab}(n:h.Ns a N)(eY:h.Ns a de)(x:I):N x=de x:=py n λki ak3 akY aq aF o bh=>py eY λkY ak4 akZ ah1 vY o oq=>by
 cases aq.symm.trans ah1
 cases aF.symm.trans vY
 exact(bh x).symm.trans (oq x)
section
variable{O:bo}{h ae:aV}{x:I}{v:Option ab}
theorem mH.to(p:mH O h x v)(f:∀N,h.Ns O.locals N->ae.Ns O.locals N)(g:∀c,h.IsCell c v->ae.IsCell c v):mH O ae x v:=by
 cases p with
 |ns k N n e=>exact .ns k N (f N n) e
 |cell k c m b=>exact .cell k c m (g c b)
theorem mH.local(p:mH O h x v)(k:O.kindOf x=some .local):∃N,h.Ns O.locals N∧N x=v:=by
 cases p with
 |ns _ N n e=>exact bx N n e
 |cell q=>exact q.elim (λq=>by cases k.symm.trans q) λq=>by cases k.symm.trans q
theorem mH.wS(p:mH O h x v)(k:O.kindOf x=some .cell∨O.kindOf x=some .free):∃c,O.cells.lookup x=some c∧h.IsCell c v:=by
 cases p with
 |ns q=>exact k.elim (λk=>by cases k.symm.trans q) λk=>by cases k.symm.trans q
 |cell _ c m b=>exact bx c m b
theorem er.to{B:bM}{aw:List aa}{U:List (I×Nat)}{C:aI}(aB:er E U O J C h)(nm:O.locals∉aw)(f:∀N,h.Ns O.locals N->ae.Ns O.locals N)(g:∀c v,h.IsCell c v->ae.IsCell c v)(r:∀a u,bf E J h a u->bf B aw ae a u)(a8:B.heap=E.heap):er B U O aw C ae:=
 ⟨bz aB.ns λN n=>bk N (f N n),nm,λx i e=>aU (aB.val x i e) λv p q=>bx v (p.to f λc=>g c v) λa ar=>aU (q a ar) λu ai am=>bx u ai (r a u am),aB.apart,a8▸aB.pf,a8▸aB.m6⟩
end
theorem er.grow{bT aw:List aa}{ah:ay}{l:St}{U:List (I×Nat)}{O:bo}{C:aI}(aB:er E U O J C s.heap)(g:bG D bT [] J s aw ah)(S:a' E J l s.heap):er E U O aw C ah.heap:=
 aB.to (g.mj (bz aB.ns λo=>vj) aB.nm) (λN=>g.ns aB.nm hK) (λc v b=>g.cell (S.xQ b) hK b) (λa u r=>r.mono (g.rM S hF) _ _) rfl
theorem gM.grow{W aw bT:List aa}{ah:ay}(F:gM E J s.heap m)(g:bG D bT W J s aw ah)(bS:∀a∈W,∀N,s.heap.Ns a N->∃de,ah.heap.Ns a de):gM E aw ah.heap m where
 each:=λO bw=>by
  refine dL (F.each O bw) λk ajD=>?_
  refine ij ajD λaB a b c ajE=>?_
  refine bz ajE λN d=>?_
  refine⟨k,aB,a,b,g.mj (k7 d λA af a0 az o=>by refine az▸?_;simp) c,?_⟩
  by_cases q:aB∈W
  ·exact bS aB q N d
  ·exact⟨N,g.ns c q d⟩
theorem dN.grow{names:List (I×b4)}{U:List (I×Nat)}{d:Nat}{O:bo}{C:aI}{l av:St}{bT aw:List aa}{ah:ay}(P:dN E names U d M m O J C l s)
 (g:bG D bT [] J s aw ah) (cG:a' E aw av ah.heap):dN E names U d M m O aw C av ah:=
 ⟨P.room,P.dJ,P.lo.grow g P.st,cG,P.fr.grow g (by simp)⟩
theorem Hv{α:Type}{cw:pN}{M:cv}{t:dh α}{s:ay}{an:α->ay->Prop}{aA:ab->ay->Prop}(h:∀ir jY,(∀a ah,an a ah->ir a ah)->(∀e ah,aA e ah->jY e ah)->a9 cw M t ir jY s):a9 cw M t an aA s:=h an aA (λo o x=>x) λo o x=>x
theorem lS.back{R:List aa->aV->α->bq->Prop}{b3:List aa}{bd ah:ay}{r:ao α}{v:bq}(g:bG D (ci m) W J s b3 bd)(p:lS E D R m W b3 bd r v ah):lS E D R m W J s r v ah:=
 let ⟨a,av,e,aw,S,h,fB⟩:=p;⟨a,av,e,aw,S,h,g.trans fB⟩
theorem f'.back{b3:List aa}{bd ah:ay}{r:ao α}{e:ab}(g:bG D (ci m) W J s b3 bd)(p:f' E D m W b3 bd r e ah):f' E D m W J s r e ah:=
 let ⟨a,av,q,aw,S,h,fB⟩:=p;⟨a,av,q,aw,S,h.back g.live,g.trans fB⟩
theorem a5.back{R:List aa->aV->α->bq->Prop}{N:dh bq}{b3:List aa}{bd:ay}{r:ao α}(g:bG D (ci m) W J s b3 bd)(t:a5 E D M m W b3 bd N R r):
 r≠.fail->a9 (a1 aH w) M N (lS E D R m W J s r) (f' E D m W J s r) bd:=λaG=>fx (t aG) (λo o p=>p.back g) λo o p=>p.back g
theorem a5.bind{R:List aa->aV->α->bq->Prop}{gZ:List aa->aV->im->qT->Prop}{N:dh bq}{f:bq->dh qT}{r:ao α}{k:α->St->ao im}
 (t:a5 E D M m W J s N R r)
 (u:∀a av v ah aw,r=.ok a av->a' E aw av ah.heap->R aw ah.heap a v->bG D (ci m) W J s aw ah->a5 E D M m W aw ah (f v) gZ (k a av)):
 a5 E D M m W J s (N >>= f) gZ (r.bind k):=λaG=>by
 refine aE (fx (t λh=>by rw[h] at aG;exact aG rfl) (λv ah p=>?_) λe ah p=>?_)
 ·obtain⟨a,av,rfl,aw,S,h,g⟩:=p
  exact(u a av v ah aw rfl S h g).back g aG
 ·obtain⟨a,av,rfl,aw,S,h,g⟩:=p
  exact⟨a,av,rfl,aw,S,h,g⟩
theorem a5.nQ{R:List aa->aV->α->bq->Prop}{gZ:List aa->aV->im->qT->Prop}{N:dh bq}{f:bq->dh qT}{r:ao α}{k:α->St->ao im}
 (t:a5 E D M m [] J s N R r)
 (u:∀a av v ah aw,r=.ok a av->a' E aw av ah.heap->R aw ah.heap a v->bG D (ci m) [] J s aw ah->a5 E D M m W aw ah (f v) gZ (k a av)):
 a5 E D M m W J s (N >>= f) gZ (r.bind k):=λaG=>by
 refine aE (fx (t λh=>by rw[h] at aG;exact aG rfl) (λv ah p=>?_) λe ah p=>?_)
 ·obtain⟨a,av,rfl,aw,S,h,g⟩:=p
  exact(u a av v ah aw rfl S h g).back (g.weaken (by simp)) aG
 ·obtain⟨a,av,rfl,aw,S,h,g⟩:=p
  exact⟨a,av,rfl,aw,S,h,g.weaken (by simp)⟩
theorem a5.ok{R:List aa->aV->α->bq->Prop}{a:α}{av:St}{v:bq}(S:a' E J av s.heap)(h:R J s.heap a v):a5 E D M m W J s (pure v) R (.ok a av):=λo=>bj ⟨a,av,rfl,J,S,h,.refl⟩
theorem a5.skip{R:List aa->aV->α->bq->Prop}{N:dh Unit}{f:Unit->dh bq}{r:ao α}(h:∀an:Unit->ay->Prop,∀aA,an () s->a9 (a1 aH w) M N an aA s)(t:a5 E D M m W J s (f ()) R r):
 a5 E D M m W J s (N >>= f) R r:=λaG=>aE (h _ _ (t aG))
theorem a5.holding{R:List aa->aV->α->bq->Prop}{N:dh bq}{T:List ab}{r:ao α}(t:a5 E D M m W J s N R r):a5 E D M m W J s (PySem.holding T N) R r:=λaG=>gL (t aG)
theorem a5.gI{R:List aa->aV->α->bq->Prop}{p:bu}{f:Unit->dh bq}{r:ao α}(t:a5 E D M m W J s (f ()) R r):a5 E D M m W J s (kn p >>= f) R r:=
 .skip (λo o h=>np h) t
theorem a5.z4{R:List aa->aV->α->bq->Prop}{N:dh bq}{r eP:ao α}(t:a5 E D M m W J s N R r)(e:r=eP):a5 E D M m W J s N R eP:=e▸t
theorem a5.fail{R:List aa->aV->α->bq->Prop}{N:dh bq}:a5 E D M m W J s N R .fail:=λh=>(h rfl).elim
theorem Q4{cw:pN}{aA:ab->ay->Prop}{T:List ab}{N:dh ab}{an:ab->ay->Prop}(h:a9 cw M N an aA s):a9 cw M (PySem.operate T N) an aA s:=λgj p g7=>by
 simp only[Sem.wp_operate];exact h gj p g7
theorem a5.operate{R:List aa->aV->α->ab->Prop}{N:dh ab}{T:List ab}{r:ao α}(t:a5 E D M m W J s N R r):a5 E D M m W J s (PySem.operate T N) R r:=λaG=>Q4 (t aG)
end
structure ef(K:cb)(E:bM):Prop where
 X:K.In E.heap
 jj:∃jj,E.heap.Ns sL jj∧∀x:I,x≠"__name__"->jj x=rn x
 lim:E.heap.NoLimit
 mods:E.heap.get? on≠none
noncomputable def kP(names:List (I×b4))(x:I):Bool:=names.lookup x==some .globalImplicit
section
variable{D:Bool}{E:bM}{K:cb}{M:cv}{m:List bo}{W J:List aa}{s:ay}{names:List (I×b4)}{U:List (I×Nat)}{d:Nat}{O:bo}{C:aI}{l:St}{bp:aa->List L->St->ao L}
theorem adz{x:I}{v:ab}{an:ab->ay->Prop}{aA:ab->ay->Prop}(aM:O.scope.kind=.function)(p:mH O s.heap x (some v))(aK:(x==("__classdict__":I))=false)(h:an v s):
 a9 (a1 aH w) M (loadName O x) an aA s:=by
 cases p with
 |ns k N n e=>exact yC aM k n e h
 |cell k c a b=>exact k.elim (λq=>wpAny_loadName_cell aM q a b h) λq=>ahB aM q a b h aK
theorem QE{x:I}{pos:bu}{i:Nat}(P:dN E names U d M m O J C l s)(bn:U.lookup x=some i)(aK:(x==("__classdict__":I))=false)(hd:(x==("__debug__":I))=false):
 a5 E D M m [] J s (fb (.Name x pos) O) (bf E) (opt (C[i]?.join) l):=by
 cases e:(C[i]?.join:Option L) with
 |none=>exact .fail
 |some a=>
  refine aU (P.lo.val x i bn) λv p q=>?_
  refine aU (q a (S5.mp e)) λu aiz r=>?_
  subst aiz
  exact λo=>BQ (adz P.dJ.kind p aK ⟨a,l,rfl,J,P.st,r,.refl⟩) hd
theorem xK{x:I}{pos:bu}{v:ab}{an aA:ab->ay->Prop}(Z:ef K E)(ag:E.heap.StaysIn s.heap)(cW:h0 names O)(dR:kP names x=true)(e:ha K gh x=some (some v))(hd:(x==("__debug__":I))=false)(h:an v s):
 a9 (a1 aH w) M (fb (.Name x pos) O) an aA s:=by
 refine SH cW.kind (by rw[cW.kindOf];exact beq_iff_eq.mp dR) ?_ hd
 unfold Nj
 rw[cW.globals]
 refine aE ((Nk (Z.X.keeps ag) e).here ?_)
 exact bj h
theorem xJ{x:I}{pos:bu}{v:ab}{an aA:ab->ay->Prop}(Z:ef K E)(ag:E.heap.StaysIn s.heap)(cW:h0 names O)(dR:kP names x=true)(e:ha K gh x=some none)(ck:rn x=some v)(aO:x≠"__name__")
 (hd:(x==("__debug__":I))=false) (h:an v s):a9 (a1 aH w) M (fb (.Name x pos) O) an aA s:=by
 refine SH cW.kind (by rw[cW.kindOf];exact beq_iff_eq.mp dR) ?_ hd
 unfold Nj
 (refine cW.globals▸?_;refine cW.builtins▸?_)
 refine aE ((Nk (Z.X.keeps ag) e).here ?_)
 refine aU Z.jj λjj qm a7=>?_
 refine aE (ahD (qm.keeps ag) ?_)
 (refine(a7 x aO)▸?_;refine ck▸?_)
 exact bj h
inductive oB:oA->L->Prop
 |none:oB .none .none
 |bool {b:Bool}:oB (.bool b) (.bool b)
 |int {i:Int}:oB (.int i) (.int i)
 |str {x:I} (h:fy x=true):oB (.str x) (.str x)
theorem yt{c:oA}{k:Nat}{pos:bu}{a:L}(S:a' E J l s.heap)(h:oB c a):a5 E D M m W J s (fb (.Constant c k pos) O) (bf E) (.ok a l):=λo=>by
 cases h with
 |none=>exact wpAny_Constant_none ⟨_,l,rfl,J,S,rfl,.refl⟩
 |bool=>exact wpAny_Constant_bool ⟨_,l,rfl,J,S,rfl,.refl⟩
 |int=>exact wpAny_Constant_int ⟨_,l,rfl,J,S,⟨_,rfl⟩,.tok⟩
 |str h=>exact wpAny_Constant_str ⟨_,l,rfl,J,S,⟨⟨_,rfl⟩,h⟩,.tok⟩
theorem ags{x:I}{pos:bu}{i:Int}(Z:ef K E)(P:dN E names U d M m O J C l s)(dR:kP names x=true)(h:∃t,ha K gh x=some (some (.int i t)))(hd:(x==("__debug__":I))=false):
 a5 E D M m [] J s (fb (.Name x pos) O) (bf E) (.ok (.int i) l):=λo=>bz h λo e=>xK Z P.st.base P.dJ dR e hd ⟨_,l,rfl,J,P.st,⟨_,rfl⟩,.refl⟩
end
section
variable{D:Bool}{E:bM}{K:cb}{M:cv}{m:List bo}{W J:List aa}{s:ay}{names:List (I×b4)}{U:List (I×Nat)}{d:Nat}{O:bo}{C:aI}{l:St}{bp:aa->List L->St->ao L}
theorem mr{h:aV}{i:Int}{v:ab}(r:bf E J h (.int i) v):∃t,v=.int i t:=r
theorem jp{h:aV}{x:I}{v:ab}(r:bf E J h (.str x) v):(∃t,v=.str x t)∧fy x=true:=r
theorem qO{h:aV}{x:List L}{v:ab}(r:bf E J h (.tup x) v):∃a T,v=.ref a∧¬E.cP a∧h.IsTuple a T.toArray∧T.length<=e7∧br E J h x T:=r
theorem nk{h:aV}{x:List L}{v:ab}(r:bf E J h (.tup x) v):∃a T,v=.ref a∧h.IsTuple a T.toArray∧T.length<=e7∧br E J h x T:=
 eL (qO r) λa T e o k=>qx a T e k
theorem gK{h:aV}{n:Nat}{v:ab}(r:bf E J h (.loc n) v):∃a,J[n]? =some a∧v=.ref a:=r
theorem yy{h:aV}{b:Bool}{v:ab}(r:bf E J h (.bool b) v):v=.bool b:=r
theorem vP{h:aV}{v:ab}(r:bf E J h .none v):v=.none:=r
theorem Ly{h:aV}{a:L}{v:ab}(ck:a.isVal=false)(r:bf E J h a v):handedIn v=true:=by
 cases a with
 |none=>cases vP r;rfl
 |bool b=>cases yy r;rfl
 |int i=>exact bz (mr r) λt e=>by subst e;rfl
 |str x=>exact bz r.1 λt e=>by subst e;rfl
 |tup Y=>exact eL (nk r) λb T e o o=>by subst e;rfl
 |loc n=>exact aU (gK r) λb o e=>by subst e;rfl
 |val u=>cases ck
theorem BN{N:dh ab}{a:L}{v:ab}(S:a' E J l s.heap)(r:bf E J s.heap a v)
 (h:∀(an:ab->ay->Prop)(aA:ab->ay->Prop),(∀t,an v {s with toks:=t})->a9 (a1 aH w) M N an aA s):a5 E D M m W J s N (bf E) (.ok a l):=λo=>h _ _ λt=>⟨a,l,rfl,J,S,r,.tok⟩
theorem ps{N:dh ab}{i:Int}(S:a' E J l s.heap)
 (h:∀(an:ab->ay->Prop)(aA:ab->ay->Prop),(∀t u,an (.int i u) {s with toks:=t})->a9 (a1 aH w) M N an aA s):a5 E D M m W J s N (bf E) (.ok (.int i) l):=λo=>h _ _ λt u=>⟨_,l,rfl,J,S,⟨_,rfl⟩,.tok⟩
theorem agH{N:dh ab}{x:I}(S:a' E J l s.heap)(aD:fy x=true)
 (h:∀(an:ab->ay->Prop)(aA:ab->ay->Prop),(∀t u,an (.str x u) {s with toks:=t})->a9 (a1 aH w) M N an aA s):a5 E D M m W J s N (bf E) (.ok (.str x) l):=λo=>h _ _ λt u=>⟨_,l,rfl,J,S,⟨⟨_,rfl⟩,‹_›⟩,.tok⟩
theorem qL{N:dh ab}{b:Bool}(S:a' E J l s.heap)
 (h:∀(an:ab->ay->Prop)(aA:ab->ay->Prop),(∀t,an (.bool b) {s with toks:=t})->a9 (a1 aH w) M N an aA s):a5 E D M m W J s N (bf E) (.ok (.bool b) l):=λo=>h _ _ λt=>⟨_,l,rfl,J,S,rfl,.tok⟩
theorem BM{N:dh ab}{x:List L}{T:List ab}(S:a' E J l s.heap)(aD:br E J s.heap x T)(aN:T.length<=e7)
 (h:∀(an:ab->ay->Prop)(aA:ab->ay->Prop),(∀a ae t,¬E.cP a->ae.IsTuple a T.toArray->(∀b A,s.heap.get? b=some A->ae.get? b=some A)->an (.ref a) {s with heap:=ae,toks:=t})->a9 (a1 aH w) M N an aA s):
 a5 E D M m W J s N (bf E) (.ok (.tup x) l):=λo=>h _ _ λa ae t ag bn k=>⟨_,l,rfl,J,S.more k,by
  exact m3 a T rfl ag bn aN (aD.mono (.of (λo o e=>e) k) _ _),.more k⟩
theorem Hf{N:dh ab}{x:List L}{T:List ab}(S:a' E J l s.heap)(aD:br E J s.heap x T)(aN:T.length<=e7)
 (h:∀(an:ab->ay->Prop)(aA:ab->ay->Prop),(∀a ae t,s.heap.get? a=none->ae.PlainList a T.toArray->(∀b A,s.heap.get? b=some A->ae.get? b=some A)->an (.ref a) {s with heap:=ae,toks:=t})->
  a9 (a1 aH w) M N an aA s):a5 E D M m W J s N (bf E) (.ok (.loc l.length) (l++[.list x])):=λo=>h _ _ λa ae t aO aL k=>by
  have dP:fq E J (J++[a]) s.heap ae:=.of (λn b e=>by simp only[jv (gt.mp e).1,e]) k
  exact⟨_,_,rfl,J++[a],S.push k aO ⟨T.toArray,aL,by exact aN,by exact aD.mono dP _ _⟩,by exact bx a (by refine S.len▸?_;simp) rfl,.push k aO⟩
theorem hR{h:aV}:h.get? h.objs.size=none:=by
 cases q:h.get? h.objs.size with
 |none=>rfl
 |some A=>exact absurd (eF q) (kw _)
theorem nP{n:Nat}(h:n<b8):n<=e7:=by simp only[jU];unfold b8 at h;exact b6 [_] 1 al (.num 16777216) 1 (Ns al) (.num 100000) rfl h
theorem Qe{x y:I}(aD:fy x=true)(bD:fy y=true):fy (x++y)=true:=by
 unfold fy at *
 show((x.cps++y.cps).all _)=true
 simp only[Array.all_append,aD,bD];rfl
theorem afR{x:I}(h:(x.length==0)=true)(y:I):x++y=y:=by
 obtain⟨DY⟩:=x
 have:DY= #[]:=by simpa[Tn] using h
 subst this
 show(⟨#[]++ y.cps⟩:I)=y
 simp
theorem afS{x:I}(h:(x.length==0)=true)(y:I):y++x=y:=by
 obtain⟨DY⟩:=x
 have:DY= #[]:=by simpa[Tn] using h
 subst this
 show(⟨y.cps ++ #[]⟩:I)=y
 simp
theorem agx{op:nE}{i j k:Int}{t c9:j3}(S:a' E J l s.heap)(e:intOp op i j=some k):a5 E D M m W J s (uv op (.int i t) (.int j c9)) (bf E) (.ok (.int k) l):=by
 have st:∀{c:Prop} [Decidable c]{z:Int},(if c then some z else none)=some k->c∧z=k:=fun{c}_ z e=>by
  by_cases h:c
  ·rw[if_pos h] at e;exact⟨h,dq e⟩
  ·rw[if_neg h] at e;exact ns e
 cases op with
 |Sub=>cases e;exact ps S λan aA h=>P.sub_int (h _ _)
 |Mult=>
  obtain⟨ag,rfl⟩:=st e
  refine ps S λan aA h=>P.mul_int (h _ _) (.of_left (intBits_le_64 ?_ ?_))<;> (unfold b8 at ag;omega)
 |Mod=>
  obtain⟨cy,rfl⟩:=st e
  have aL:RB i j=false:=Tc (by unfold b8 at cy;omega)
  refine ps S λan aA h=>akG (by omega) ?_
  rw[Int.fmod_eq_emod_of_nonneg _ (by omega)];exact h _ _
 |FloorDiv=>
  obtain⟨cy,rfl⟩:=st e
  have aL:RB i j=false:=Tc (by unfold b8 at cy;omega)
  refine ps S λan aA h=>akF (hp:=.inl aL) (by omega) ?_
  rw[Int.fdiv_eq_ediv_of_nonneg _ (by omega)];exact h _ _
 |_=>exact ns e
theorem agj{i j:Nat}{x y:List L}{u v:ab}(S:a' E J l s.heap)(aD:bf E J s.heap (.loc i) u)(bD:bf E J s.heap (.loc j) v)(ex:l[i]? =some (.list x))(fZ:l[j]? =some (.list y))(ag:x.length+y.length<b8):
 a5 E D M m W J s (uv .Add u v) (bf E) (.ok (.loc l.length) (l++[.list (x++y)])):=by
 refine aU (gK aD) λa ar q=>?_
 subst q
 refine aU (gK bD) λb gQ q=>?_
 subst q
 refine cr (S.obj i a _ ar ex) λT kZ Pl c0=>?_
 refine cr (S.obj j b _ gQ fZ) λej xY GR fT=>?_
 obtain⟨n,az⟩:=kZ
 obtain⟨eb,qo⟩:=xY
 have aZ:T.size+ej.size<=e7:=by
  rw[<-t2,<-t2,c0.length,fT.length];exact nP ag
 refine Hf S (c0.append fT) (by rw[fN];exact aZ) λan aA h=>?_
 refine DV ⟨_,az,rfl⟩ ⟨_,qo,rfl⟩ noFill_list_add seq_list_add PySem.F.slot_list_add PySem.F.entry_list_add (PySem.F.args_list_add_2 _ _)
  (list_addW a b T ej n eb none none #[] #[] aZ) ⟨az,qo,?_⟩
 exact h _ _ _ hR ⟨0,by rw[eS _ rfl];simp⟩ λb A e=>dM _ e
theorem agl{x y:List L}{u v:ab}(S:a' E J l s.heap)(aD:bf E J s.heap (.tup x) u)(bD:bf E J s.heap (.tup y) v)(ag:x.length+y.length<b8):
 a5 E D M m W J s (uv .Add u v) (bf E) (.ok (.tup (x++y)) l):=by
 obtain⟨a,T,rfl,acl,ar,alb,c0⟩:=qO aD
 obtain⟨b,ej,rfl,hT,gQ,LN,fT⟩:=qO bD
 have aZ:T.length+ej.length<=e7:=by rw[c0.length,fT.length];exact nP ag
 refine BM S (c0.append fT) (by rw[fN];exact aZ) λan aA h=>?_
 obtain⟨⟨cls,eg,data,e8⟩,az,aK,n,hd⟩:=id ar
 obtain⟨⟨akV,D3,data2,G0⟩,qo,l5,eb,LC⟩:=id gQ
 simp only at aK hd l5 LC
 subst aK hd l5 LC
 by_cases ck:T=[]
 ·subst ck
  exact DV ⟨_,az,rfl⟩ ⟨_,qo,rfl⟩ N5 Pt PySem.F.slot_tuple_add PySem.F.entry_tuple_add (PySem.F.args_tuple_add_2 _ _)
   (tuple_addW0 a b _ ej.toArray n eb eg D3 e8 G0 rfl) ⟨az,qo,h b s.heap s.toks hT gQ λo o e=>e⟩
 ·by_cases bS:ej=[]
  ·subst bS
   exact DV ⟨_,az,rfl⟩ ⟨_,qo,rfl⟩ N5 Pt PySem.F.slot_tuple_add PySem.F.entry_tuple_add (PySem.F.args_tuple_add_2 _ _)
    (tuple_addW1 a b T.toArray _ n eb eg D3 e8 G0 (by simpa using ck) rfl) ⟨az,qo,h a s.heap s.toks acl (by rw[iK];exact ar) λo o e=>e⟩
  ·refine DV ⟨_,az,rfl⟩ ⟨_,qo,rfl⟩ N5 Pt PySem.F.slot_tuple_add PySem.F.entry_tuple_add (PySem.F.args_tuple_add_2 _ _)
    (tuple_addW2 a b T.toArray ej.toArray n eb eg D3 e8 G0 (by simpa using ck) (by simpa using bS) (by rw[oI,oI];exact aZ)) ⟨az,qo,?_⟩
   exact h _ _ _ (S.free hR) ⟨_,eS _ rfl,rfl,0,by simp⟩ λb A e=>dM _ e
theorem agk{x y:I}{u v:ab}(S:a' E J l s.heap)(aD:bf E J s.heap (.str x) u)(bD:bf E J s.heap (.str y) v)(ag:x.cps.size+y.cps.size<b8):
 a5 E D M m W J s (uv .Add u v) (bf E) (.ok (.str (x++y)) l):=by
 obtain⟨⟨t,rfl⟩,ai⟩:=jp aD
 obtain⟨⟨c9,rfl⟩,am⟩:=jp bD
 refine agH S (Qe ai am) λan aA h=>P.add_str ?_
 split
 ·rename_i e;show an _ _;rw[<-afR e y];exact h s.toks c9
 ·split
  ·rename_i e;show an _ _;rw[<-afS e x];exact h s.toks t
  ·exact⟨by rw[strLen_append];exact nP ag,h _ _⟩
theorem a5.opt{α:Type}{A:Option α}{f:α->Option (L×St)}{N:dh ab}{R:List aa->aV->L->ab->Prop}(h:∀a,A=some a->a5 E D M m W J s N R (eC (f a))):a5 E D M m W J s N R (eC (A.bind f)):=by
 cases A with
 |none=>exact .fail
 |some a=>exact h a rfl
theorem a5.Gg{α bq:Type}{A:Option α}{f:α->Option bq}{N:dh ab}{R:List aa->aV->bq->ab->Prop}(h:∀a,A=some a->a5 E D M m W J s N R (Mine.Internal.opt (f a) l)):a5 E D M m W J s N R (Mine.Internal.opt (A.bind f) l):=by
 cases A with
 |none=>exact .fail
 |some a=>exact h a rfl
theorem a5.Bh{α bq im:Type}{A:Option α}{f:α->St->ao bq}{N:dh im}{R:List aa->aV->bq->im->Prop}(h:∀a,A=some a->a5 E D M m W J s N R (f a l)):a5 E D M m W J s N R ((Mine.Internal.opt A l).bind f):=by
 cases A with
 |none=>exact .fail
 |some a=>exact h a rfl
theorem a5.map{α:Type}{A:Option α}{f:α->L×St}{N:dh ab}{R:List aa->aV->L->ab->Prop}(h:∀a,A=some a->a5 E D M m W J s N R (.ok (f a).1 (f a).2)):a5 E D M m W J s N R (eC (A.map f)):=by
 cases A with
 |none=>exact .fail
 |some a=>exact h a rfl
theorem a5.AP{c:Prop} [Decidable c]{x:L×St}{N:dh ab}{R:List aa->aV->L->ab->Prop}(h:c->a5 E D M m W J s N R (.ok x.1 x.2)):a5 E D M m W J s N R (eC (if c then some x else none)):=by
 by_cases q:c
 ·rw[if_pos q];exact h q
 ·rw[if_neg q];exact .fail
theorem agp{op:nE}{x y:L}{u v:ab}(S:a' E J l s.heap)(aD:bf E J s.heap x u)(bD:bf E J s.heap y v):
 a5 E D M m W J s (uv op u v) (bf E) (eC (wR l op x y)):=by
 have other:∀{A:nE},a5 E D M m W J s (uv A u v) (bf E) (eC ((iw x).bind λi=>(iw y).bind λj=>(intOp A i j).map λk=>(L.int k,l))):=.opt λi a3=>.opt λj a4=>.map λk e=>by
  obtain rfl:=uq a3
  obtain rfl:=uq a4
  obtain⟨t,rfl⟩:=mr aD
  obtain⟨c9,rfl⟩:=mr bD
  exact agx S e
 have FK:a5 E D M m W J s (uv .Add u v) (bf E) (eC ((h5 l x).bind λp=>(h5 l y).bind λq=>if p.length+q.length<b8 then some (kW l (.list (p++q))) else none)):=.opt λp a3=>.opt λq a4=>.AP λag=>by
  obtain⟨i,rfl,ex⟩:=ur a3
  obtain⟨j,rfl,fZ⟩:=ur a4
  exact agj S aD bD ex fZ ag
 cases op with
 |Add=>
  cases x with
  |int i=>
   cases y with
   |int j=>
    obtain⟨t,rfl⟩:=mr aD
    obtain⟨c9,rfl⟩:=mr bD
    exact ps S λan aA h=>P.add_int (h _ _)
   |_=>exact .fail
  |str i=>
   cases y with
   |str j=>exact .AP λag=>agk S aD bD ag
   |_=>exact .fail
  |tup i=>
   cases y with
   |tup j=>exact .AP λag=>agl S aD bD ag
   |_=>exact .fail
  |_=>exact FK
 |_=>exact other
end
section
theorem Ds{α:Type} [BEq α] [LawfulBEq α] [DecidableEq α](a b:α):(a==b)=decide (a=b):=by
 rw[yO];simp
mutual
noncomputable def nh:L->PyData
 |.none=>.none
 |.bool b=>.bool b
 |.int i=>.int i
 |.str x=>.str x
 |.tup m=>.tuple (ni m)
 |.loc _=>.none
 |.val _=>.none
noncomputable def ni:List L->List PyData
 |[]=>[]
 |a::r=>nh a::ni r
end
inductive lg:Nat->L->Prop
 |none {n:Nat}:lg n .none
 |bool {n:Nat} {b:Bool}:lg n (.bool b)
 |int {n:Nat} {i:Int}:lg n (.int i)
 |str {n:Nat} {x:I}:lg n (.str x)
 |tup {n:Nat} {m:List L} (h:∀x∈m,lg n x):lg (n+1) (.tup m)
theorem pi:∀{n:Nat}{a:L},oh n a=true->lg n a
 |_,.none,_=>.none
 |_,.bool _,_=>.bool
 |_,.int _,_=>.int
 |_,.str _,_=>.str
 |n+1,.tup m,h=>.tup λx aD=>pi (i8.mp h x aD)
 |0,.tup _,h=>by cases h
 |n,.loc _,h=>by cases n <;> cases h
 |n,.val _,h=>by cases n <;> cases h
theorem vs{n:Nat}{m:List L}(h:m.all (oh n)=true):∀x∈m,lg n x:=λx aD=>pi (i8.mp h x aD)
theorem GF{E:bM}{J:List aa}{h:aV}{n:Nat}:∀{m:List L}{T:List ab},(∀x∈m,∀v,bf E J h x v->CW h v (nh x) []∧(nh x).canLay0=true∧(nh x).depth<=n)->br E J h m T->ReadsAll h T (ni m) []∧S' (ni m)=true∧Ta (ni m)<=n
 |[],T,_,q=>by rw[q.nil_inv];exact⟨.nil,rfl,iq _⟩
 |a::r,T,p,q=>eL q.cons_inv λv t z x y=>by
  subst z
  have ar:=p a (.head _) v x
  have ba:=GF (λx aD=>p x (.tail _ aD)) y
  exact⟨.cons ar.1 ba.1,gk.mpr ⟨ar.2.1,ba.2.1⟩,Nat.max_le_of_le_of_le ar.2.2 ba.2.2⟩
theorem xZ{E:bM}{J:List aa}{h:aV}{n:Nat}{a:L}(p:lg n a):∀v,bf E J h a v->CW h v (nh a) []∧(nh a).canLay0=true∧(nh a).depth<=n:=by
 induction p with
 |none=>intro v r;subst r;exact⟨.none,rfl,iq _⟩
 |bool=>intro v r;subst r;exact⟨.bool _,rfl,iq _⟩
 |int=>intro v r;obtain⟨t,rfl⟩:=r;exact⟨.int _ _,rfl,iq _⟩
 |str=>intro v r;obtain⟨⟨t,rfl⟩,k⟩:=r;exact⟨.str _ _,k,iq _⟩
 |tup _ aJ=>
  intro v r
  refine k6 r λb T z o q aN cL=>?_
  subst z
  refine cr q λA az aK q=>bz q λN hd=>?_
  have c:=GF aJ cL
  exact⟨.tuple az aK hd c.1,c.2.1,Cz c.2.2 1⟩
theorem Bk{E:bM}{J:List aa}{h:aV}{n:Nat}{m:List L}{T:List ab}(p:∀x∈m,lg n x)(q:br E J h m T):ReadsAll h T (ni m) []∧S' (ni m)=true∧Ta (ni m)<=n:=GF (λx aD=>xZ (p x aD)) q
theorem zZ{α bq:Type} [DecidableEq α] [DecidableEq bq]{f:α->bq}(aG:∀x y,f x=f y->x=y)(a b:α):decide (a=b)=decide (f a=f b):=decide_eq_decide.mpr ⟨λe=>e▸rfl,aG a b⟩
theorem Ea{N:Nat}:∀{m t:List L},(∀x∈m,∀b,lg N b->kS x b=true->CS (nh x) (nh b)=decide (x=b))->(∀y∈t,lg N y)->rO m t=true->PyData.eqvAll (ni m) (ni t)=decide (m=t)
 |[],[],_,_,_=>rfl
 |[],_::_,_,_,_=>rfl
 |_::_,[],_,_,_=>rfl
 |a::r,b::t,p,q,k=>by
  have cg:=gk.mp k
  have ai:=p a (.head _) b (q b (.head _)) cg.1
  have am:=Ea (λz aZ=>p z (.tail _ aZ)) (λz aZ=>q z (.tail _ aZ)) cg.2
  refine(congr (congrArg and ai) am).trans ?_
  rw[<-Bool.decide_and]
  exact decide_eq_decide.mpr ⟨λe=>e.1▸e.2▸rfl,λe=>Se e⟩
theorem Eb{n N:Nat}{a:L}(p:lg n a):∀b,lg N b->kS a b=true->CS (nh a) (nh b)=decide (a=b):=by
 induction p generalizing N with
 |none=>intro b q k;cases q <;> first |rfl |exact(decide_eq_false (λe=>by cases e)).symm
 |bool=>intro b q k;cases q <;> first |exact(Ds _ _).trans (zZ (λx y e=>by cases e;rfl) _ _)| exact(decide_eq_false (λe=>by cases e)).symm |cases k
 |int=>intro b q k;cases q <;> first |exact(Ds _ _).trans (zZ (λx y e=>by cases e;rfl) _ _)| exact(decide_eq_false (λe=>by cases e)).symm |cases k
 |str=>intro b q k;cases q <;> first |exact(Ds _ _).trans (zZ (λx y e=>by cases e;rfl) _ _)| exact(decide_eq_false (λe=>by cases e)).symm |cases k
 |tup _ aJ=>intro b q k;cases q <;> first |exact(Ea (λx aD b ag=>aJ x aD b ag) ‹_› k).trans (zZ (λx y e=>by cases e;rfl) _ _)| exact(decide_eq_false (λe=>by cases e)).symm
section
variable{D:Bool}{E:bM}{K:cb}{M:cv}{m:List bo}{W J:List aa}{s:ay}{names:List (I×b4)}{U:List (I×Nat)}{d:Nat}{O:bo}{C:aI}{l:St}{bp:aa->List L->St->ao L}
theorem acN{cw:pN}{aA:ab->ay->Prop}{x c:ab}{an:ab->ay->Prop}(h:a9 cw M (sO .In x c) (λv ah=>∀b,v=.bool b->an (.bool (!b)) ah) aA s):a9 cw M (sO .NotIn x c) an aA s:=λgj p g7=>by
 have k:=h gj p g7
 change CZ cw gj (contains c x >>= λb=>pure (IW b)) _ _ p s at k
 change CZ cw gj (contains c x >>= λb=>pure (IW (!b))) _ _ p s
 simp only[Tk] at k |-
 exact Sem.wp_mono cw gj _ (λb bN ah z=>z b rfl) (λo o o z=>z) p s k
inductive v5(l:St):L->L->Bool->Prop
 |plain {a b:L} (h:na a=true∧na b=true∧kS a b=true):v5 l a b (decide (a=b))
 |list {i j:Nat} {x y:List L} (uE:l[i]? =some (.list x)) (mQ:l[j]? =some (.list y)) (h:iY x=true∧iY y=true∧rO x y=true):v5 l (.loc i) (.loc j) (decide (x=y))
 |b5 {i j:Nat} {x y:List (List L×L)} {b:Bool} (uE:l[i]? =some (.b5 x)) (mQ:l[j]? =some (.b5 y)):v5 l (.loc i) (.loc j) b
theorem sF{a b c:Bool}(h:(a&&b&&c)=true):a=true∧b=true∧c=true:=by
 have ai:=gk.mp h
 have am:=gk.mp ai.1
 exact⟨am.1,am.2,ai.2⟩
theorem u5{α:Type}{c:Prop} [Decidable c]{x y:α}(h:(if c then some x else none)=some y):c∧x=y:=by
 by_cases q:c
 ·exact⟨q,dq ((if_pos q).symm.trans h)⟩
 ·cases (if_neg q).symm.trans h
theorem W5{x y:aQ}{i j:Nat}{b:Bool}(uE:l[i]? =some x)(mQ:l[j]? =some y)(e:sQ x y=some b):v5 l (.loc i) (.loc j) b:=by
 cases x with
 |list m=>exact gn e λN h cm=>by cases Ji h;exact dL (u5 cm) λq z=>z▸.list uE mQ (sF q)
 |b5 m=>exact gn e λN h cm=>by cases Jj h;exact .b5 uE mQ
 |_=>cases e
theorem W4{x y:L}{b:Bool}(e:h9 l x y=some b):v5 l x y b:=by
 unfold h9 at e
 by_cases h:(na x&&na y&&kS x y)=true
 ·rw[if_pos h] at e;cases e;exact .plain (sF h)
 ·rw[if_neg h] at e
  exact gn e λi aR a3=>gn a3 λj cy a4=>gn a4 λA uE cI=>gn cI λch mQ eV=>by
   cases wL aR;cases wL cy;exact W5 uE mQ eV
theorem Kp{op:nu}{x y:L}{u v:ab}{b:Bool}(s':op=.Eq∨op=.NotEq)(S:a' E J l s.heap)(eB:M.units+100<hO)(aD:bf E J s.heap x u)(bD:bf E J s.heap y v)(e:h9 l x y=some b)
 (an:ab->ay->Prop) (aA:ab->ay->Prop) (h:an (.bool (if op=.Eq then b else !b)) s) (Zg:∀i j p q,x=.loc i->y=.loc j->l[i]? =some (.b5 p)->l[j]? =some (.b5 q)->a9 (a1 aH w) M (sO op u v) an aA s):
 a9 (a1 aH w) M (sO op u v) an aA s:=by
 have fI:∀bC zX as bs,CW s.heap u bC as->CW s.heap v zX bs->bC.canLay0=true->zX.canLay0=true->bC.depth<=20->CS bC zX=b->a9 (a1 aH w) M (sO op u v) an aA s:=by
  intro bC zX as bs c0 fT Jy JH eg WP
  subst WP
  rcases s' with rfl |rfl
  ·exact SeqAt.compareEq_reads c0 fT Jy JH (by omega) h
  ·exact SeqAt.compareNe_reads c0 fT Jy JH (by omega) h
 cases W4 e with
 |plain p=>
  have a:=xZ (pi p.1) u aD
  have c:=xZ (pi p.2.1) v bD
  exact fI _ _ _ _ a.1 c.1 a.2.1 c.2.1 (da a.2.2 (by decide)) (Eb (pi p.1) y (pi p.2.1) p.2.2)
 |list a0 eq p=>
  refine aU (gK aD) λa ar z=>?_
  subst z
  refine aU (gK bD) λj7 gQ z=>?_
  subst z
  refine cr (S.obj _ a _ ar a0) λT kZ Pl c0=>bz kZ λd9 kZ=>?_
  refine cr (S.obj _ j7 _ gQ eq) λej xY GR fT=>bz xY λeb xY=>?_
  have a:=Bk (vs p.1) c0
  have c:=Bk (vs p.2.1) fT
  exact fI _ _ _ _ (.list kZ rfl rfl a.1) (.list xY rfl rfl c.1) a.2.1 c.2.1 (da (Cz a.2.2 1) (by decide)) (Ea (λx aD=>Eb (vs p.1 x aD)) (vs p.2.1) p.2.2)
 |b5 a0 eq=>exact Zg _ _ _ _ rfl rfl a0 eq
theorem F9{a:aa}{n:Nat}(Z:ef K E)(S:a' E J l s.heap)(e:J[n]? =some a):(a==on)=false:=by
 rw[beq_eq_false_iff_ne]
 rintro rfl
 exact Z.mods (S.new _ (fG e))
theorem C'{n N:Nat}{a:L}(kZ:oh 6 a=true):∀(m:List L),(m.all (oh 5))=true->(m.all λy=>kS y a)=true->((ni m).any λy=>CS y (nh a))=decide (a∈m)
 |[],_,_=>rfl
 |b::r,p,k=>by
  simp only[Sd,gW] at p k
  simp only[ni,yZ]
  rw[C' (n:=n) (N:=N) kZ r p.2 k.2,Eb (pi p.1) a (pi kZ) k.1,yO]
  simp only[Cb,decide_eq_true_eq,dU]
  exact or_congr eq_comm R0
theorem ag7{cp:Type} [DecidableEq cp](bP:List (cp×ab))(k:cp):(qM bP k).isSome=decide (k∈bP.map (·.1)):=by
 rw[yO,decide_eq_true_eq]
 simp only[qM,S4,Sk,decide_eq_true_eq,gY]
theorem Ue{cp:Type} [DecidableEq cp](bP:List (cp×aa×ab))(k:cp):(us bP k).isSome=true↔k∈bP.map (·.1):=by
 simp only[us,S4,Sk,decide_eq_true_eq,gY]
inductive t8(l:St):L->L->Bool->Prop
 |tup {a:L} {m:List L} (h:na a=true∧iY m=true∧m.all (λy=>kS y a)=true):t8 l a (.tup m) (decide (a∈m))
 |list {a:L} {n:Nat} {m:List L} (cJ:l[n]? =some (.list m)) (h:na a=true∧iY m=true∧m.all (λy=>kS y a)=true):t8 l a (.loc n) (decide (a∈m))
 |cj {x:I} {n:Nat} {m:List (I×L)} (cJ:l[n]? =some (.cj m)):t8 l (.str x) (.loc n) (decide (x∈m.map (·.1)))
 |b5 {k:List L} {n:Nat} {m:List (List L×L)} (cJ:l[n]? =some (.b5 m)) (aM:tL k=true):t8 l (.tup k) (.loc n) (decide (k∈m.map (·.1)))
theorem aav{x:L}{A:aQ}{n:Nat}{b:Bool}(cJ:l[n]? =some A)(e:AN x A=some b):t8 l x (.loc n) b:=by
 cases A with
 |list m=>exact dL (u5 e) λh z=>z▸.list cJ (sF h)
 |cj m=>exact gn e λk h e=>by cases sH h;cases e;exact .cj cJ
 |b5 m=>exact gn e λk h e=>by cases rk h;exact dL (u5 e) λh z=>z▸.b5 cJ h
 |inst _ _=>cases e
theorem aau{x y:L}{b:Bool}(e:o9 l x y=some b):t8 l x y b:=by
 cases y with
 |tup m=>exact dL (u5 e) λh z=>z▸.tup (sF h)
 |loc n=>exact gn e λA cJ e=>aav cJ e
 |_=>cases e
set_option tactic.hygienic true in
theorem Mq{x y:L}{u v:ab}{b:Bool}(Z:ef K E)(S:a' E J l s.heap)(eB:M.units+100<hO)(aD:bf E J s.heap x u)(bD:bf E J s.heap y v)(e:o9 l x y=some b)
 (an:ab->ay->Prop) (aA:ab->ay->Prop) (h:∀t,an (.bool b) {s with toks:=t}):a9 (a1 aH w) M (sO .In u v) an aA s:=by
 cases aau e with
 |tup aL=>
  refine k6 bD λa T z o q aN r=>?_
  subst z
  refine cr q λA az aK q=>bz q λn hd=>?_
  have a:=xZ (pi aL.1) u aD
  have c:=Bk (vs aL.2.1) r
  refine SeqAt.in_tuple_reads (.tuple az aK hd c.1) a.1 c.2.1 a.2.1 (by omega) ?_
  rw[C' (n:=0) (N:=0) aL.1 _ aL.2.1 aL.2.2]
  exact h s.toks
 |list cJ aL=>
  refine aU (gK bD) λa ar z=>?_
  subst z
  refine cr (S.obj _ a _ ar cJ) λT kZ Pl r=>bz kZ λd9 kZ=>?_
  have a:=xZ (pi aL.1) u aD
  have c:=Bk (vs aL.2.1) r
  refine SeqAt.in_list_reads (.list kZ rfl rfl c.1) a.1 c.2.1 a.2.1 (by omega) ?_
  rw[C' (n:=0) (N:=0) aL.1 _ aL.2.1 aL.2.2]
  exact h s.toks
 |cj cJ=>
  refine aU (gK bD) λa ar z=>?_
  subst z
  refine dL (jp aD) λz aM=>?_
  obtain⟨t,rfl⟩:=z
  refine lH (S.obj _ a _ ar cJ) λbP hd hm aN r ok=>?_
  rename_i x n m
  refine wpAny_in_of (knd:=PySem.strKind aH w) (k:=x) (by simp[PySem.strKind,kD]) (F9 Z S ar) hd.mapOf ?_
  rw[ag7,hm]
  exact h _
 |b5 cJ aM=>
  rename_i k n m
  refine aU (gK bD) λa ar z=>?_
  subst z
  refine lH (S.obj _ a _ ar cJ) λbP hd hm aN r ok=>?_
  refine nt (nk aD) λc T z q o3 aee=>?_
  subst z
  refine cr q λA az aK q=>bz q λN gC=>?_
  refine wpAny_in_heap (knd:=BO (lY)) (show M.in1.units<hO by simp;exact b6 [_,_] 1 (Ns (Ns al)) ax 1 (Ns (.add al (.num 100))) ax rfl eB) ⟨A,T.toArray,N,az,aK,gC,Pp aM aee⟩ (F9 Z S ar) hd ?_
  refine(?_:(us bP k).isSome=decide (k∈m.map (·.1)))▸h _
  exact yO.mpr (((Ue bP k).trans (by rw[hm])).trans decide_eq_true_iff.symm)
theorem Pm{nm:String}{a b:aa}{tz c3:cV}{af kI:Array iI}{a0 W2:Nat}{aA:ab->ay->Prop}{an:Bool->ay->Prop}(ar:(a==on)=false)(ag:(b==on)=false)(o5:s.heap.get? a=some tz)(g6:tz.data=.dict af a0)(o6:s.heap.get? b=some c3)(As:c3.data=.dict kI W2)
 (aZ:af.size≠kI.size∨af.size=0) (h:an (af.size==kI.size) s):a9 (a1 aH w) M (Ry nm a b) an aA s:=by
 delta Ry HL
 rw[if_neg (show ¬(a==on)=true by rw[ar];exact Ca),if_neg (show ¬(b==on)=true by rw[ag];exact Ca)]
 refine aE (bj (aE (bj ?_)))
 refine aE (BS o5 g6 ?_)
 refine aE (BS o6 As ?_)
 by_cases e1:af.size=kI.size
 case neg=>
  rw[if_pos (by simpa using e1)]
  have YT:(af.size==kI.size)=false:=by simpa using e1
  replace h:=YT▸h
  exact aE (yE (bj h))
 case pos=>
  have bQ:af.size=0:=aZ.resolve_left λq=>q e1
  have mV:(af.size==kI.size)=true:=by simpa using e1
  rw[mV] at h
  rw[if_neg (by refine e1▸?_;simp)]
  refine aE (Hn o5 g6 ?_)
  refine aE ?_
  simp only[akO]
  simp only[akP,Nat.sub_zero,Nat.add_sub_cancel,Nat.div_one,bQ,List.range'_zero,y4]
  exact bj (bj h)
theorem Kr{op:nu}{x y:L}{u v:ab}{b:Bool}(Z:ef K E)(s':op=.Eq∨op=.NotEq)(S:a' E J l s.heap)(eB:M.units+100<hO)(aD:bf E J s.heap x u)(bD:bf E J s.heap y v)(e:h9 l x y=some b)
 (an:ab->ay->Prop) (aA:ab->ay->Prop) (h:an (.bool (if op=.Eq then b else !b)) s):∀i j p q,x=.loc i->y=.loc j->l[i]? =some (.b5 p)->l[j]? =some (.b5 q)->a9 (a1 aH w) M (sO op u v) an aA s:=by
 rintro i j p q rfl rfl a0 eq
 refine ge λdT cD=>?_
 refine aU (gK aD) λa ar aid=>?_
 subst aid
 refine aU (gK bD) λc aK aie=>?_
 subst aie
 refine cr (S.obj i a _ ar a0) λY aif ZI o=>?_
 refine Rb aif λtz af ak1 o5 Aq g6 Zx o=>?_
 refine cr (S.obj j c _ aK eq) λbH aig qm o=>?_
 refine Rb aig λc3 kI ak2 o6 Y3 As Zy o=>?_
 refine cD ?_
 clear cD dT
 have cQ:af.size=p.length:=by
  have ai:=GZ Zx
  have am:=congrArg kr ZI
  simp at ai am;lia
 have cM:kI.size=q.length:=by
  have ai:=GZ Zy
  have am:=congrArg kr qm
  simp at ai am;lia
 have Bd:∀{a:aa}{n:Nat},J[n]? =some a->(a==on)=false:=λe=>by
  rw[beq_eq_false_iff_ne]
  rintro rfl
  exact Z.mods (S.new _ (fG e))
 have fp:s.TypeIs (.ref a) "dict":=bx tz o5 Aq.1
 have be:s.TypeIs (.ref c) "dict":=bx c3 o6 Y3.1
 replace e:(l[i]?.bind λx=>(l[j]?).bind λy=>sQ x y)=some b:=e
 rw[a0,eq] at e
 dsimp only[S3,sQ,wM] at e
 have lu:(af.size≠kI.size∨af.size=0)∧(af.size==kI.size)=b:=by
  split at e
  ·rename_i a7
   simp at e
   subst a7
   simp only[y7] at cM
   (refine(cM).symm▸?_;refine e▸?_)
   refine⟨?_,?_⟩
   ·by_cases z:af.size=0
    ·exact .inr z
    ·exact .inl z
   ·refine cQ▸?_
    by_cases z:p=[]
    ·simp[z]
    ·have:p.length≠0:=λq=>z (y6.mp q)
     simp[z]
  ·rename_i a7
   split at e
   ·rename_i aL
    simp at e
    subst aL
    simp only[y7] at cQ
    have:q.length≠0:=λz=>a7 (y6.mp z)
    ((refine(cQ).symm▸?_;refine cM▸?_);refine e▸?_)
    exact⟨.inr rfl,by simpa using λz:0=q.length=>this z.symm⟩
   ·nomatch e
 refine dL lu λFQ Nv=>?_
 rcases s' with rfl |rfl
 ·refine ahH (op:=.Eq) fp be PySem.F.slot_dict_eq (oo PySem.F.slot_dict_eq fp PySem.F.entry_dict_eq ?_ (PySem.F.args_dict_eq_2 _ _)) (by omega)
  refine aE ?_
  refine aE (Hq fp ?_)
  refine bj ?_
  refine aE (BU (T:="dict") be PySem.F.sub_dict_dict ?_)
  refine aE (bj (aE (bj ?_)))
  refine aE (Pm (Bd ar) (Bd aK) o5 g6 o6 As FQ ?_)
  refine bj ⟨_,rfl,?_,?_⟩
  ·exact λx=>nomatch x
  ·rw[Nv];simpa using h
 ·refine ahH (op:=.NotEq) fp be PySem.F.slot_dict_ne (oo PySem.F.slot_dict_ne fp PySem.F.entry_dict_ne ?_ (PySem.F.args_dict_ne_2 _ _)) (by omega)
  refine aE ?_
  refine aE (Hq fp ?_)
  refine bj ?_
  refine aE (BU (T:="dict") be PySem.F.sub_dict_dict ?_)
  refine aE (bj (aE (bj ?_)))
  refine aE (Pm (Bd ar) (Bd aK) o5 g6 o6 As FQ ?_)
  refine bj ⟨_,rfl,?_,?_⟩
  ·exact λx=>nomatch x
  ·rw[Nv];simpa using h
theorem Od{x:L}{u:ab}{h:aV}(aD:bf E J h x u)(ck:x.isVal=false):(u == .none)=decide (x=.none):=by
 cases x with
 |none=>subst aD;rfl
 |bool=>subst aD;rfl
 |int=>obtain⟨t,rfl⟩:=aD;rfl
 |str=>obtain⟨⟨t,rfl⟩,_⟩:=aD;rfl
 |tup=>refine ik aD λa T z=>?_;rw[z.1];rfl
 |loc=>refine aU aD λa o z=>?_;rw[z];rfl
 |val=>cases ck
theorem vJ{x:L}{u:ab}{N:dh ab}{f:Int->Option L}(aD:bf E J s.heap x u)(h:∀i t,u=.int i t->a5 E D M m W J s N (bf E) (opt (f i) l)):a5 E D M m W J s N (bf E) (opt ((iw x).bind f) l):=by
 cases x with
 |int=>obtain⟨t,rfl⟩:=mr aD;exact h _ t rfl
 |_=>exact .fail
theorem QB{c:Prop} [Decidable c]{N:dh ab}{a:L}(h:c->a5 E D M m W J s N (bf E) (.ok a l)):a5 E D M m W J s N (bf E) (opt (if c then some a else none) l):=by
 by_cases q:c
 ·rw[if_pos q];exact h q
 ·rw[if_neg q];exact .fail
theorem Qz{op:nu}{x y:L}{u v:ab}(Z:ef K E)(S:a' E J l s.heap)(eB:M.units+100<hO)(aD:bf E J s.heap x u)(bD:bf E J s.heap y v):
 a5 E D M m W J s (sO op u v) (bf E) (opt (wT l op x y) l):=by
 cases op with
 |Eq=>
  change a5 _ _ _ _ _ _ _ _ _ (opt ((h9 l x y).map _) l)
  cases e:h9 l x y with
  |none=>exact .fail
  |some b=>exact qL S λan aA h=>Kp (.inl rfl) S eB aD bD e an aA (h s.toks) (Kr Z (.inl rfl) S eB aD bD e an aA (h s.toks))
 |NotEq=>
  change a5 _ _ _ _ _ _ _ _ _ (opt ((h9 l x y).map _) l)
  cases e:h9 l x y with
  |none=>exact .fail
  |some b=>exact qL S λan aA h=>Kp (.inr rfl) S eB aD bD e an aA (h s.toks) (Kr Z (.inr rfl) S eB aD bD e an aA (h s.toks))
 |LtE=>exact vJ aD λi t z=>vJ bD λj c9 il=>by cases z;cases il;exact qL S λan aA h=>P.le_int (h s.toks)
 |Lt=>exact vJ aD λi t z=>vJ bD λj c9 il=>by cases z;cases il;exact qL S λan aA h=>P.lt_int (h s.toks)
 |Gt=>exact vJ aD λi t z=>vJ bD λj c9 il=>by cases z;cases il;exact qL S λan aA h=>P.gt_int (h s.toks)
 |Is=>
  exact QB λq=>by
   obtain⟨rfl,ck⟩:=q
   rw[vP bD]
   exact qL S λan aA h=>is_none_gen (by rw[Od aD ck];exact h s.toks)
 |IsNot=>
  exact QB λq=>by
   obtain⟨rfl,ck⟩:=q
   rw[vP bD]
   exact qL S λan aA h=>isnot_none_gen (by rw[Od aD ck];exact h s.toks)
 |In=>
  change a5 _ _ _ _ _ _ _ _ _ (opt ((o9 l x y).map _) l)
  cases e:o9 l x y with
  |none=>exact .fail
  |some b=>exact qL S λan aA h=>Mq Z S eB aD bD e an aA h
 |NotIn=>
  change a5 _ _ _ _ _ _ _ _ _ (opt ((o9 l x y).map _) l)
  cases e:o9 l x y with
  |none=>exact .fail
  |some b=>exact qL S λan aA h=>acN (Mq Z S eB aD bD e _ aA λt c q=>by(injection q with q;subst q);exact h t)
 |_=>exact .fail
end
end
noncomputable def iP(r:ao L):ao Bool:=r.bind λx l=>x.hD (.ok true l) (.ok false l)
theorem Jg{α:Type}{r:ao L}{f g:St->ao α}:(iP r).bind (λc l=>cond c (f l) (g l))=r.bind λx l=>x.hD (f l) (g l):=by
 cases r with
 |ok x l=>
  cases x with
  |bool b=>cases b <;> rfl
  |_=>rfl
 |_=>rfl
theorem Jh{x:L}{f g:ao L}:iP (x.hD f g)=x.hD (iP f) (iP g):=by
 cases x with
 |bool b=>cases b <;> rfl
 |_=>rfl
def oM(J:List aa)(h:aV)(a b:Bool):Prop:=a=b
section
variable(E:bM)(D:Bool)(names:List (I×b4))(U:List (I×Nat))(d:Nat)
def dB(e:Expr)(C:aI)(k:St->ao L):Prop:=∀M m O J l s,dN E names U d M m O J C l s->a5 E D M m [] J s (fb e O) (bf E) (k l)
def jt(e:Expr)(C:aI)(k:St->ao L):Prop:=∀M m O J l s,dN E names U d M m O J C l s->a5 E D M m [] J s (th e O (fb e O)) oM (iP (k l))
def t5(op:i4)(af:List Expr)(C:aI)(k:St->ao L):Prop:=∀M m O J l s,dN E names U d M m O J C l s->a5 E D M m [] J s (allTrue op af O) oM (iP (k l))
def v6(op:i4)(af:List Expr)(C:aI)(k:St->ao L):Prop:=∀M m O J l s pos,dN E names U d M m O J C l s->a5 E D M m [] J s (zM pos op (wY af O)) (bf E) (k l)
def hv(af:List Expr)(C:aI)(k:St->ao (List L)):Prop:=∀M m O J l s pos,dN E names U d M m O J C l s->a5 E D M m [] J s (yk (iQ pos (ii af O))) (br E) (k l)
end
section
variable{D:Bool}{E:bM}{K:cb}{M:cv}{m:List bo}{W J:List aa}{s:ay}{names:List (I×b4)}{U:List (I×Nat)}{d:Nat}{O:bo}{C:aI}{l:St}{bp:aa->List L->St->ao L}
theorem nG.u{d:Nat}{M:cv}{m:List bo}(R:nG d M m):M.units+100<hO:=by have:=R.units;exact b6 [_,_,_] 1 (Ns (.add al (.num 100))) ax 1 (Ns (.add (.add al (.mulL 40 aT)) (.num 420))) ax rfl this
theorem bf.on{aw:List aa}{ah:ay}{bT:List aa}{a:L}{v:ab}(r:bf E J s.heap a v)(S:a' E J l s.heap)(g:bG D bT [] J s aw ah):bf E aw ah.heap a v:=r.mono (g.rM S (by simp)) _ _
theorem br.on{aw:List aa}{ah:ay}{bT:List aa}{a:List L}{v:List ab}(r:br E J s.heap a v)(S:a' E J l s.heap)(g:bG D bT [] J s aw ah):br E aw ah.heap a v:=r.mono (g.rM S (by simp)) _ _
theorem W9{op:nE}{a b:Expr}{pos:bu}{d1 bU:St->ao L}(ar:dB E D names U d a C d1)(ag:dB E D names U d b C bU):
 dB E D names U d (.BinOp a op b pos) C (λl=>(d1 l).bind λx ak=>(bU ak).bind λy a2=>eC (wR a2 op x y)):=λM m O J l s P=>by
 refine a5.bind (ar _ _ _ _ _ _ P) λx ak u bd b3 o bt cN bK=>?_
 refine a5.bind (a5.holding (ag _ _ _ _ _ _ (P.grow bK bt))) λy a2 v cR eI o di fj dE=>?_
 exact .gI (.operate (agp di (cN.on bt dE) fj))
structure gc(e:Expr):Prop where
 set:∀O x,Ag e O x=zm x
 behind:∀op,behindInMarks op e=false
 star:∀O r,ii (e::r) O=(false,fb e O):: ii r O
theorem GY{x:I}{p:bu}:gc (.Name x p):=⟨λo o=>rfl,λo=>rfl,λo o=>rfl⟩
theorem ae0{k:oA}{n:Nat}{p:bu}:gc (.Constant k n p):=⟨λo o=>rfl,λo=>rfl,λo o=>rfl⟩
theorem aeZ{A:Expr}{x:I}{p:bu}:gc (.Attribute A x p):=⟨λo o=>rfl,λo=>rfl,λo o=>rfl⟩
inductive fO:List Expr->Prop
 |nil:fO []
 |cons {e:Expr} {r:List Expr} (h:gc e) (t:fO r):fO (e::r)
theorem fO.hd{e:Expr}{r:List Expr}:fO (e::r)->gc e
 |.cons h _=>h
theorem fO.Qt{e:Expr}{r:List Expr}:fO (e::r)->fO r
 |.cons _ t=>t
theorem Xc{op:nu}{a b:Expr}{pos:bu}{d1 bU:St->ao L}(Z:ef K E)(aO:gc b)(ar:dB E D names U d a C d1)(ag:dB E D names U d b C bU):
 dB E D names U d (.Compare a [op] [b] pos) C (λl=>(d1 l).bind λx ak=>(bU ak).bind λy a2=>opt (wT a2 op x y) a2):=λM m O J l s P=>by
 rw[eval_Compare1,ab3 (aO.behind _)]
 refine a5.bind (ar _ _ _ _ _ _ P) λx ak u bd b3 o bt cN bK=>?_
 refine a5.bind (a5.holding (ag _ _ _ _ _ _ (P.grow bK bt))) λy a2 v cR eI o di fj dE=>?_
 exact .gI (.operate (Qz Z di P.room.u (cN.on bt dE) fj))
theorem zB(r:ao L)(f:L->St->ao L):iP (r.bind f)=r.bind λx l=>iP (f x l):=by cases r <;> rfl
theorem QD{x:L}{u:ab}(S:a' E J l s.heap)(r:bf E J s.heap x u):a5 E D M m W J s (truthy u) oM (iP (.ok x l)):=by
 cases x with
 |bool b=>rw[yy r];cases b <;> exact λo=>Ra ⟨_,l,rfl,J,S,rfl,.refl⟩
 |_=>exact .fail
theorem Xy{op:nu}{a b:Expr}{pos:bu}{d1 bU:St->ao L}(Z:ef K E)(aO:gc b)(ar:dB E D names U d a C d1)(ag:dB E D names U d b C bU):
 jt E D names U d (.Compare a [op] [b] pos) C (λl=>(d1 l).bind λx ak=>(bU ak).bind λy a2=>opt (wT a2 op x y) a2):=λM m O J l s P=>by
 rw[isTrue_Compare1,ab3 (aO.behind _),zB]
 refine a5.bind (ar _ _ _ _ _ _ P) λx ak u bd b3 o bt cN bK=>?_
 rw[zB]
 refine a5.bind (a5.holding (ag _ _ _ _ _ _ (P.grow bK bt))) λy a2 v cR eI o di fj dE=>?_
 refine .gI (a5.bind (gZ:=oM) (k:=λz f9=>iP (.ok z f9)) (.operate (Qz Z di P.room.u (cN.on bt dE) fj)) λz f9 alL jl sf o kC oj jb=>?_)
 exact .holding (QD kC oj)
def CQ(e:Expr):Prop:=∀O yB,th e O yB=(do let v <-yB;kn e.pos;holding [v] (truthy v))
theorem XC{e:Expr}{k:St->ao L}(aL:CQ e)(h:dB E D names U d e C k):jt E D names U d e C k:=λM m O J l s P=>by
 rw[aL]
 refine a5.bind (r:=k l) (k:=λz f9=>iP (.ok z f9)) (h _ _ _ _ _ _ P) λx ak u bd b3 o bt cN bK=>?_
 exact .gI (.holding (QD bt cN))
theorem a5.test{α bq:Type}{R:List aa->aV->α->bq->Prop}{e:Expr}{k:St->ao L}{f g:St->ao α}{N:Bool->dh bq}(h:jt E D names U d e C k)(P:dN E names U d M m O J C l s)
 (bn:∀ak bd b3,a' E b3 ak bd.heap->bG D (ci m) [] J s b3 bd->a5 E D M m [] b3 bd (N true) R (f ak)) (aG:∀ak bd b3,a' E b3 ak bd.heap->bG D (ci m) [] J s b3 bd->a5 E D M m [] b3 bd (N false) R (g ak)):
 a5 E D M m [] J s (th e O (fb e O)>>= N) R ((k l).bind λx ak=>x.hD (f ak) (g ak)):=by
 rw[<-Jg]
 refine a5.bind (h _ _ _ _ _ _ P) λx ak u bd b3 o bt cN bK=>?_
 cases (cN:x=u)
 cases x
 ·exact aG _ _ _ bt bK
 ·exact bn _ _ _ bt bK
theorem XB{e:Expr}{pos:bu}{k:St->ao L}(h:jt E D names U d e C k):jt E D names U d (.UnaryOp .Not e pos) C (λl=>(k l).bind λx ak=>x.hD (.ok (.bool false) ak) (.ok (.bool true) ak)):=λM m O J l s P=>by
 rw[zB]
 have:=a5.test (R:=oM) (f:=λl=>.ok false l) (g:=λl=>.ok true l) (N:=λb=>pure (!b)) h P (λak bd b3 S o=>.ok S rfl) λak bd b3 S o=>.ok S rfl
 simp only[Jh]
 exact this
theorem Xk{e:Expr}{pos:bu}{k:St->ao L}(h:dB E D names U d e C k):dB E D names U d (.UnaryOp .Not e pos) C (λl=>(k l).bind λx ak=>x.hD (.ok (.bool false) ak) (.ok (.bool true) ak)):=λM m O J l s P=>by
 refine a5.bind (h _ _ _ _ _ _ P) λx ak u bd b3 o bt cN bK=>?_
 cases x with
 |bool b=>
  rw[yy cN]
  refine .gI (.holding ?_)
  cases b <;> exact λo=>aE (Ra (bj ⟨_,ak,rfl,b3,bt,rfl,.refl⟩))
 |_=>exact .fail
theorem Xg{t a b:Expr}{pos:bu}{fd d1 bU:St->ao L}(bn:jt E D names U d t C fd)(ar:dB E D names U d a C d1)(ag:dB E D names U d b C bU):
 dB E D names U d (.IfExp t a b pos) C (λl=>(fd l).bind λx ak=>x.hD (d1 ak) (bU ak)):=λM m O J l s P=>a5.test (N:=λc=>if c=true then fb a O else fb b O) bn P (λak bd b3 S g=>ar _ _ _ _ _ _ (P.grow g S)) λak bd b3 S g=>ag _ _ _ _ _ _ (P.grow g S)
theorem XA{t a b:Expr}{pos:bu}{fd d1 bU:St->ao L}(bn:jt E D names U d t C fd)(ar:jt E D names U d a C d1)(ag:jt E D names U d b C bU):
 jt E D names U d (.IfExp t a b pos) C (λl=>(fd l).bind λx ak=>x.hD (d1 ak) (bU ak)):=λM m O J l s P=>by
 rw[zB]
 simp only[Jh]
 exact a5.test (N:=λc=>if c=true then th a O (fb a O) else th b O (fb b O)) bn P (λak bd b3 S g=>ar _ _ _ _ _ _ (P.grow g S)) λak bd b3 S g=>ag _ _ _ _ _ _ (P.grow g S)
theorem KI:hv E D names U d [] C (λl=>.ok [] l):=λM m O J l s pos P=>.ok P.st .nil
theorem yl{e:Expr}{r:List Expr}{O:bo}{pos:bu}(h:gc e):
 yk (iQ pos (ii (e::r) O))=(do let v <-fb e O;let t <-holding [v] (yk (iQ pos (ii r O)));pure (v::t)):=by
 rw[h.star]
 refine(?_:yk ((false,fb e O):: iQ pos (ii r O))=_)
 rfl
theorem Eh{e:Expr}{r:List Expr}{ds:St->ao L}{fg:St->ao (List L)}(aP:gc e)(bw:dB E D names U d e C ds)(ba:hv E D names U d r C fg):
 hv E D names U d (e::r) C (λl=>(ds l).bind λx ak=>(fg ak).bind λY a2=>.ok (x::Y) a2):=λM m O J l s pos P=>by
 rw[yl aP]
 refine a5.bind (bw _ _ _ _ _ _ P) λx ak u bd b3 o bt cN bK=>?_
 refine a5.bind (a5.holding (ba _ _ _ _ _ _ pos (P.grow bK bt))) λy a2 v cR eI o di fj dE=>?_
 exact .ok di (.cons (cN.on bt dE) fj)
theorem QA{x:List L}{T:List ab}(S:a' E J l s.heap)(r:br E J s.heap x T)(aN:T.length<=e7):a5 E D M m W J s (newTuple T) (bf E) (.ok (.tup x) l):=
 BM S r aN λan aA h=>Q2 (h _ _ _ (S.free hR) ⟨_,eS _ rfl,rfl,0,rfl⟩ λb A e=>dM _ e) aN
theorem agw{x:List L}{T:List ab}(S:a' E J l s.heap)(r:br E J s.heap x T)(aN:T.length<=e7):a5 E D M m W J s (F3 T) (bf E) (.ok (.loc l.length) (l++[.list x])):=
 Hf S r aN λan aA h=>BX (h _ _ _ hR ⟨0,eS _ rfl⟩ λb A e=>dM _ e) aN
theorem KC{af:List Expr}{eX:Nat}{pos:bu}{k:St->ao (List L)}(h:hv E D names U d af C k)(aM:∀l Y av,k l=.ok Y av->Y.length<b8):
 dB E D names U d (.Tuple af eX pos) C (λl=>(k l).bind λY ak=>.ok (.tup Y) ak):=λM m O J l s P=>by
 refine .gI (a5.bind (h _ _ _ _ _ _ pos P) λx ak u bd b3 e bt cN bK=>?_)
 exact QA bt cN (by rw[cN.length];exact nP (aM _ _ _ e))
theorem Xh{af:List Expr}{pos:bu}{k:St->ao (List L)}(h:hv E D names U d af C k)(aM:∀l Y av,k l=.ok Y av->Y.length<b8):
 dB E D names U d (.List af pos) C (λl=>(k l).bind λY ak=>.ok (.loc ak.length) (ak++[.list Y])):=λM m O J l s P=>by
 refine .gI (a5.bind (h _ _ _ _ _ _ pos P) λx ak u bd b3 e bt cN bK=>?_)
 exact agw bt cN (by rw[cN.length];exact nP (aM _ _ _ e))
end
section
variable{D:Bool}{E:bM}{K:cb}{M:cv}{m:List bo}{W J:List aa}{s:ay}{names:List (I×b4)}{U:List (I×Nat)}{d:Nat}{O:bo}{C:aI}{l:St}{bp:aa->List L->St->ao L}{aA:ab->ay->Prop}
set_option tactic.hygienic true in
theorem yo{eH slice:Expr}{A i:ab}{b1 id:String}{an:ab->ay->Prop}(d4:s.TypeIs A b1)(aN:vM (.type b1) "__getitem__"=pure (some (.builtin id)))
 (h:a9 (a1 aH w) M (K8 A i) an aA s):a9 (a1 aH w) M (BB eH slice A i) an aA s:=by
 refine aE ?_
 refine aE (Hs d4 aN ?_)
 have fI:∀vp,a9 (a1 aH w) M (operate vp (K8 A i)) (λr jl=>a9 (a1 aH w) M (abG eH A r >>= λo=>pure r) an aA jl) aA s:=λvp=>Q4 (fx h (λr jl ma=>aE (ahz (bj ma))) λo o x=>x)
 have:∃vp,subscripted slice false A i=operate vp (K8 A i):=by
  cases slice <;> first |exact⟨_,rfl⟩| skip
  rename_i a b c p
  cases c <;> exact⟨_,rfl⟩
 refine bz this λvp e=>?_
 refine bj (aE ?_)
 refine e▸?_
 exact fI vp
theorem Jf{eH slice:Expr}{pos:bu}:fb (.Subscript eH slice pos) O=(do
 let A <-fb eH O
 let i <-holding [A] (fb slice O)
 kn pos
 BB eH slice A i):=rfl
theorem wN{α:Type}{Y:List α}{k:Int}{x:α}(h:j6 Y k=some x):0<=k∧Y[k.toNat]? =some x:=by
 unfold j6 at h
 split at h
 ·exact⟨‹_›,h⟩
 ·nomatch h
theorem MJ{k:Int}{n:Nat}(bQ:0<=k)(h:k.toNat<n)(aO:n<=e7): -(2^63)<=k∧k<2^63∧seqIndex? k n=some k.toNat:=by
 simp only[jU] at aO
 refine⟨by lia,by lia,?_⟩
 unfold seqIndex?
 refine(if_neg (Int.not_lt_of_ge bQ))▸?_
 exact if_pos (gk.mpr ⟨decide_eq_true bQ,decide_eq_true (by lia)⟩)
theorem FP{J:List aa}{h:aV}{x:I}{v:L}:∀(m:List (I×L))(bP:List (I×ab)),bP.map (·.1)=m.map (·.1)->br E J h (m.map (·.2)) (bP.map (·.2))->m.lookup x=some v->∃u,qM bP x=some u∧bf E J h v u
 |[],_,_,_,e=>by simp at e
 |(k,a):: r,[],N,_,_=>by simp at N
 |(k,a):: r,(cg,b):: t,N,q,e=>by
  simp only[iL,sq] at N
  refine ge λdT cD=>?_
  obtain⟨rfl,N⟩:=N
  refine eL (br.cons_inv (by simpa only[iL] using q)) λyx tX a8 b0 bO=>?_
  refine cD ?_
  clear cD dT
  cases a8
  dsimp only[kt] at e
  by_cases aD:x=cg
  ·subst aD
   simp at e;subst e
   exact bx b (by simp[qM]) b0
  ·have:(x==cg)=false:=by simpa using aD
   rw[this] at e
   refine aU (FP r t N bO e) λu a3 a4=>?_
   refine bx u ?_ a4
   have rH:¬cg=x:=λe=>aD e.symm
   simpa[qM,H5,rH] using a3
section
variable{R:List aa->aV->L->ab->Prop}{N:dh ab}
theorem BL{α:Type}{A:Option α}{f:α->Option L}(h:∀a,A=some a->a5 E D M m W J s N R (opt (f a) l)):a5 E D M m W J s N R (opt (A.bind f) l):=by
 cases A with
 |none=>exact .fail
 |some a=>exact h a rfl
theorem Hg{A:Option L}(h:∀a,A=some a->a5 E D M m W J s N R (.ok a l)):a5 E D M m W J s N R (opt A l):=by
 cases A with
 |none=>exact .fail
 |some a=>exact h a rfl
end
theorem agt{eH slice:Expr}{x y:L}{u v:ab}(Z:ef K E)(S:a' E J l s.heap)(eB:M.units+100<hO)(aD:bf E J s.heap x u)(bD:bf E J s.heap y v):
 a5 E D M m W J s (BB eH slice u v) (bf E) (opt (AI l x y) l):=by
 cases x with
 |tup Y=>
  refine BL λk ea=>?_
  obtain rfl:=uq ea
  exact Hg λa e=>bz (mr bD) λt z=>nt (nk aD) λb T il ag LN fT=>aU (fT.get (wN e).2) λc aK rZ=>by
   subst z il
   have B:=MJ (wN e).1 (gt.mp aK).1 LN
   exact BN S rZ λan aA h=>yo ag.typeIs slot_tuple_getitem.lookup (getItem_tuple ag B.1 B.2.1 B.2.2 (Sq.trans aK) (h s.toks))
 |loc n=>
  refine BL λA ex=>?_
  cases A with
  |list Y=>
   refine BL λk ea=>?_
   obtain rfl:=uq ea
   exact Hg λa e=>bz (mr bD) λt z=>aU (gK aD) λb ag il=>cr (S.obj _ b _ ag ex) λT cZ aP fT=>aU (fT.get (wN e).2) λc aK rZ=>by
    subst z il
    have B:=MJ (wN e).1 (gt.mp aK).1 aP
    exact BN S rZ λan aA h=>yo cZ.isList.typeIs ae6.lookup (wpAny_getItem_list cZ.isList (wN e).1 B.2.1 (lK.symm.trans aK) (h s.toks))
  |cj Y=>
   refine BL λk ea=>?_
   obtain rfl:=sH ea
   exact Hg λa e=>bz (jp bD).1 λt z=>aU (gK aD) λb ag il=>lH (S.obj _ b _ ag ex) λbP hd hm aN r Bg=>aU (FP Y bP hm r e) λc aK rZ=>by
    subst z il
    exact BN S rZ λan aA h=>yo hd.typeIs slot_dict_getitem.lookup (wpAny_getItem_of (knd:=PySem.strKind aH w) (k:=k) (beq_self_eq_true k) hd.mapOf aK (h _))
  |_=>exact .fail
 |_=>exact .fail
end
section
variable{D:Bool}{E:bM}{K:cb}{M:cv}{m:List bo}{W J:List aa}{s:ay}{names:List (I×b4)}{U:List (I×Nat)}{d:Nat}{O:bo}{C:aI}{l:St}{bp:aa->List L->St->ao L}{aA:ab->ay->Prop}
theorem acL{h ae:aV}(k:∀b A,h.get? b=some A->ae.get? b=some A){a:aa}(e:ae.get? a=none):h.get? a=none:=by
 cases q:h.get? a with
 |none=>rfl
 |some A=>replace e:=(k a A q)▸e;cases e
theorem agD{p:bu}{eH slice:Expr}{x lo aR:L}{u vO vQ:ab}(S:a' E J l s.heap)(aD:bf E J s.heap x u)(E2:bf E J s.heap lo vO)(Zn:bf E J s.heap aR vQ):
 a5 E D M m W J s (do let i <-NS "slice" [vO,vQ,.none];kn p;BB eH slice u i) (bf E) (eC (yg l x lo aR)):=by
 have aM:∀b A,s.heap.get? b=some A->(s.heap.push {cls:=.type "slice",dict:=none,data:=.fields [vO,vQ,.none].toArray}).get? b=some A:=λb A e=>dM _ e
 have xt:(s.heap.push {cls:=.type "slice",dict:=none,data:=.fields [vO,vQ,.none].toArray}).IsSliceOf s.heap.objs.size vO vQ .none:=fK _ (eS _ rfl) rfl rfl
 refine .opt λY ex=>.opt λj mQ=>.AP λcy=>?_
 obtain rfl:=sH ex
 obtain rfl:=uq mQ
 obtain rfl:=cy.1
 replace cy:=cy.2
 refine dL (jp aD) λajm kf=>?_
 refine bz ajm λt ajn=>?_
 subst ajn
 rw[vP E2] at aM xt |-
 refine bz (mr Zn) λr4 ajo=>?_
 subst ajo
 refine λo=>?_
 refine aE (nl (aE (np ?_)) (by size_fits))
 refine yo (typeIs_str _ Y t) PySem.F.slot_str_getitem.lookup ?_
 refine wpAny_getItem_str_slice (l:=none) (u:=some (j,r4)) (st:=none) ⟨_,eS _ rfl,rfl,rfl⟩ rfl (post_val_or_str ⟨da (Txt.slice_le Y none (some j)) (nP cy.2),λc9 k=>?_⟩)
 exact(⟨_,l,rfl,J,S.more aM,⟨⟨_,rfl⟩,cy.1⟩,.more aM⟩:lS E D (bf E) m W J s (ao.ok (L.str (C4 Y none (some j))) l) (.str (C4 Y none (some j)) c9) _)
end
def lc(A:Expr):Prop:=∀attr O yB,Jo A attr O yB=yB
noncomputable def attrOk(K:cb)(Q:aa)(x:I):Bool:=plainGet K Q x&&s1 K Q&&jE K (.ref Q) x==some none
noncomputable def storeOk(K:cb)(Q:aa)(x:I):Bool:=
 jE K (.ref Q) "__setattr__" == some (some (.builtin "object.__setattr__"))&& plainOver K Q&&r3 K Q x==some none&&s1 K Q
theorem Gw{cp:Type} [DecidableEq cp](k:cp)(v:L)(m:List (cp×L)):(e6 k v m).length<=m.length+1:=by
 induction m with
 |nil=>exact eN 1
 |cons p r aJ=>
  by_cases e:p.1=k
  ·exact da (dI (congrArg kr (if_pos e))) (pR (r.length+1))
  ·exact da (dI (congrArg kr (if_neg e))) (Iy aJ)
theorem x1{cp:Type} [DecidableEq cp](k:cp)(v:L)(m:List (cp×L)):∀p∈e6 k v m,p.1=k∨∃q∈m,q.1=p.1:=by
 induction m with
 |nil=>exact λp aL=>.inl (congrArg (·.1) (gu.mp aL))
 |cons p r aJ=>
  intro q a7
  by_cases e:p.1=k
  ·rw[show e6 k v (p::r)=(k,v):: r from if_pos e] at a7
   exact(dU.mp a7).elim (λh=>.inl (congrArg (·.1) h)) λh=>.inr ⟨q,.tail _ h,rfl⟩
  ·rw[show e6 k v (p::r)=p::e6 k v r from if_neg e] at a7
   exact(dU.mp a7).elim (λh=>.inr ⟨p,.head _,congrArg (·.1) h.symm⟩) λh=>(aJ q h).imp id λz=>aU z λy bD e=>⟨y,.tail _ bD,e⟩
theorem Qc{cp:Type} [DecidableEq cp]{k:cp}{v:ab}{p:cp×ab}{r:List (cp×ab)}(h:p.1≠k):k3 (p::r) k v=p::k3 r k v:=by
 unfold k3
 simp only[yZ,h,decide_false,Rr,iL,if_false,Sf]
 split <;> rfl
theorem yn{E:bM}{J:List aa}{h:aV}{cp:Type} [DecidableEq cp]{k:cp}{a:L}{u:ab}(c0:bf E J h a u):∀(m:List (cp×L))(bP:List (cp×ab)),bP.map (·.1)=m.map (·.1)->(bP.map (·.1)).Nodup->br E J h (m.map (·.2)) (bP.map (·.2))->
 (k3 bP k u).map (·.1)=(e6 k a m).map (·.1)∧br E J h ((e6 k a m).map (·.2)) ((k3 bP k u).map (·.2))
 |[],[],_,_,_=>⟨rfl,by exact br.cons c0 .nil⟩
 |[],_::_,N,_,_=>by simp at N
 |_::_,[],N,_,_=>by simp at N
 |(cg,b):: r,(g8,v):: t,N,aO,q=>by
  simp only[iL,sq] at N
  obtain⟨rfl,N⟩:=N
  refine eL (br.cons_inv (by simpa only[iL] using q)) λyx tX a8 b0 bO=>?_
  cases a8
  simp only[iL,mC] at aO
  by_cases e:g8=k
  ·subst e
   have aP:k3 ((g8,v):: t) g8 u=(g8,u):: t:=by
    unfold k3
    simp only[yZ,decide_true,Rx,if_true,iL]
    rw[ab2 t g8 u aO.1]
   refine aP▸?_
   have aL:e6 g8 a ((g8,b):: r)=(g8,a):: r:=if_pos rfl
   rw[aL]
   exact⟨by simp[N],by exact br.cons c0 bO⟩
  ·rw[Qc e]
   have aL:e6 k a ((g8,b):: r)=(g8,b):: e6 k a r:=if_neg e
   refine aL▸?_
   refine dL (yn (k:=k) c0 r t N aO.2 bO) λbk b2=>?_
   exact⟨by simp[bk],by exact br.cons b0 b2⟩
theorem afM{cp:Type} [DecidableEq cp]{k:cp}{c:aa}{v:ab}{p:cp×aa×ab}{r:List (cp×aa×ab)}(h:p.1≠k):r2 (p::r) k c v=p::r2 r k c v:=by
 unfold r2
 have e:us (p::r) k=us r k:=by simp[us,H5,h]
 refine e▸?_
 split
 ·simp[putAt,h]
 ·rfl
theorem Qb{E:bM}{J:List aa}{h:aV}{cp:Type} [DecidableEq cp]{k:cp}{c:aa}{a:L}{u:ab}(c0:bf E J h a u):∀(m:List (cp×L))(bP:List (cp×aa×ab)),bP.map (·.1)=m.map (·.1)->(bP.map (·.1)).Nodup->br E J h (m.map (·.2)) (bP.map (·.2.2))->
 (r2 bP k c u).map (·.1)=(e6 k a m).map (·.1)∧br E J h ((e6 k a m).map (·.2)) ((r2 bP k c u).map (·.2.2))
 |[],[],_,_,_=>⟨rfl,by exact br.cons c0 .nil⟩
 |[],_::_,N,_,_=>by simp at N
 |_::_,[],N,_,_=>by simp at N
 |(cg,b):: r,(g8,v):: t,N,aO,q=>by
  simp only[iL,sq] at N
  obtain⟨rfl,N⟩:=N
  refine eL (br.cons_inv (by simpa only[iL] using q)) λyx tX a8 b0 bO=>?_
  cases a8
  simp only[iL,mC] at aO
  by_cases e:g8=k
  ·subst e
   have aP:r2 ((g8,v):: t) g8 c u=(g8,v.1,u):: t:=by
    unfold r2
    rw[if_pos (by simp[us])]
    simp only[iL,putAt,if_true]
    rw[map_putAt_of_not_mem t g8 u aO.1]
   refine aP▸?_
   have aL:e6 g8 a ((g8,b):: r)=(g8,a):: r:=if_pos rfl
   rw[aL]
   exact⟨by simp[N],by exact br.cons c0 bO⟩
  ·rw[afM e]
   have aL:e6 k a ((g8,b):: r)=(g8,b):: e6 k a r:=if_neg e
   refine aL▸?_
   refine dL (Qb (k:=k) (c:=c) c0 r t N aO.2 bO) λbk b2=>?_
   exact⟨by simp[bk],by exact br.cons b0 b2⟩
section
variable{D:Bool}{E:bM}{K:cb}{M:cv}{m:List bo}{W J:List aa}{s:ay}{names:List (I×b4)}{U:List (I×Nat)}{d:Nat}{O:bo}{C:aI}{l:St}{bp:aa->List L->St->ao L}{aA:ab->ay->Prop}
theorem Wo{h:aV}{a:aa}{bP:List (I×ab)}(hd:h.DictOf (PySem.strKind aH w) a bP):∃af a0,h.get? a=some (h8 af a0)∧KeysOf (PySem.strKind aH w) af.toArray∧q' (PySem.strKind aH w) af bP∧(bP.map (·.1)).Nodup:=by
 refine ge λdT cD=>?_
 refine vV hd λA af a0 az aih hd aM aL aO=>?_
 obtain⟨dO,d3,h7⟩:=aih
 refine cD ?_
 clear cD dT
 refine abV af.toList a0 ?_ (by exact aM) aL aO
 refine az▸?_
 obtain⟨c,d,D5,e8⟩:=A
 simp only at dO d3 h7 hd
 subst dO d3 h7 hd
 rfl
theorem MD(x:I)(v:ab):kD x v=v.isStr x:=by cases v <;> rfl
theorem K9{af:List iI}{bP:List (I×ab)}{x:I}{v:ab}(aL:q' (PySem.strKind aH w) af bP)(e:qM bP x=some v):getL x af=some (some v):=by
 have:=aL.find x
 rw[e] at this
 unfold getL
 have aG:(λe:iI=>(PySem.strKind aH w).is x e.key)=λe=>e.key.isStr x:=by funext e;exact MD x e.key
 replace this:=aG▸this
 cases q:af.find? (λe=>e.key.isStr x) with
 |none=>rw[q] at this;nomatch this
 |some cW=>rw[q] at this;simp at this;simp[this]
theorem N'{af:List iI}{bP:List (I×ab)}(aL:q' (PySem.strKind aH w) af bP):af.any (·.refKey)=false:=by
 induction aL with
 |nil=>rfl
 |cons ai _ _ aJ=>
  simp only[yZ,aJ,Ru]
  refine bz (zs ai) λt bn=>?_
  unfold akg
  rw[bn]
theorem Yp{af:List iI}{bP:List (I×ab)}{x:I}(aL:q' (PySem.strKind aH w) af bP)(e:qM bP x=none):getL x af=some none:=by
 have:=aL.find x
 rw[e] at this
 unfold getL
 have aG:(λe:iI=>(PySem.strKind aH w).is x e.key)=λe=>e.key.isStr x:=by funext e;exact MD x e.key
 rw[aG] at this
 cases q:af.find? (λe=>e.key.isStr x) with
 |some cW=>rw[q] at this;nomatch this
 |none=>refine(N' aL)▸?_;rfl
theorem Fx{n:Nat}{a:aa}{Q:aa}{N:Nat}{x:List (I×L)}(S:a' E J l s.heap)(ar:J[n]? =some a)(e:l[n]? =some (.inst Q N))(cm:l[N]? =some (.cj x)):
 ∃bC bP af a0,J[N]? =some bC∧s.heap.get? a=some (md Q bC)∧s.heap.get? bC=some (h8 af a0)∧InstAt s.heap a (md Q bC) Q (some (h8 af a0))∧s.heap.DictOf (PySem.strKind aH w) bC bP∧
  q' (PySem.strKind aH w) af bP∧KeysOf (PySem.strKind aH w) af.toArray∧(bP.map (·.1)).Nodup∧bP.map (·.1)=x.map (·.1)∧br E J s.heap (x.map (·.2)) (bP.map (·.2))∧(∀p∈x,fy p.1=true)∧x.length<=e7:=by
 refine aU (S.obj n a _ ar e) λbC g6 az=>?_
 refine lH (S.obj N bC _ g6 cm) λbP hd hm aN r ok=>?_
 refine nt (Wo hd) λaf a0 ai am a6 c2=>?_
 exact abX bC bP af a0 g6 az ai ⟨az,rfl,rfl,ai⟩ hd a6 am c2 ⟨hm,r,ok,aN⟩
theorem u8{Q:aa}{a:L}{p:Nat×Nat}(h:rK l Q a=some p):a=.loc p.1∧l[p.1]? =some (.inst Q p.2):=by
 cases a with
 |loc n=>
  dsimp only[rK] at h
  cases z:l[n]? with
  |none=>rw[z] at h;exact ns h
  |some c3=>
   rw[z] at h
   cases c3 with
   |inst kq d=>
    dsimp only at h
    by_cases q:kq=Q
    ·rw[if_pos q] at h;cases h;exact⟨rfl,q▸z⟩
    ·rw[if_neg q] at h;exact ns h
   |_=>exact ns h
 |_=>exact ns h
theorem GU{d:Nat}{m:List (I×L)}(h:nc l d=some m):l[d]? =some (.cj m):=by
 unfold nc at h
 cases z:l[d]? with
 |none=>rw[z] at h;exact ns h
 |some c3=>
  rw[z] at h
  cases c3 with
  |cj gS=>cases h;rfl
  |_=>exact ns h
theorem agn{x:I}{Q:aa}{a:L}{u:ab}{expr:Bool}(Z:ef K E)(S:a' E J l s.heap)(aD:bf E J s.heap a u)(ok:attrOk K Q x=true):
 a5 E D M m W J s (getAttr u x expr) (bf E) (opt (wO l a x Q) l):=by
 refine .Gg λp a3=>.Gg λY a4=>.Gg λv q=>?_
 obtain⟨rfl,nY⟩:=u8 a3
 replace a4:=GU a4
 refine aU (gK aD) λb ag aii=>?_
 subst aii
 refine Rc (Fx S ag nY a4) λbC bP af a0 ai am a6 c2 fc f6 jc jd aij=>?_
 refine tZ aij λje Ak w8 Al=>?_
 simp only[attrOk,gW,beq_iff_eq] at ok
 refine aU (FP Y bP je Ak q) λc aK rZ=>?_
 cases ck:v.isVal with
 |true=>exact .fail
 |false=>
  refine BN S rZ λan aA h=>get_value (Z.X.keeps S.base) c2 (ON ok.1.1).1 (X3 ok.1.2 ok.2 rfl (by exact K9 f6 aK)) ?_ (h _)
  exact Ly ck rZ
theorem W8{eH:Expr}{x:I}{Q:aa}{pos:bu}{k:St->ao L}(Z:ef K E)(aO:lc eH)(ok:attrOk K Q x=true)(h:dB E D names U d eH C k):
 dB E D names U d (.Attribute eH x pos) C (λl=>(k l).bind λA ak=>opt (wO ak A x Q) ak):=λM m O J l s P=>by
 simp only[arm_eval_Attribute,aO _ _ _]
 refine a5.bind (h _ _ _ _ _ _ P) λA ak u bd b3 o bt cN bK=>?_
 refine .gI ?_
 have:=a5.bind (D:=D) (gZ:=(bf E)) (k:=λz f9=>.ok z f9) (f:=λr=>(do abG eH u r;pure r)) (a5.holding (T:=[u]) (agn (M:=M) (m:=m) (W:=[]) (expr:=true) Z bt cN ok)) λz a2 v cR eI o di fj dE=>.skip (λo o h=>ahz h) (.ok di fj)
 refine this.z4 ?_
 cases wO ak A x Q <;> rfl
end
def gJ(U:List (I×Nat)):Prop:=∀x y i,U.lookup x=some i->U.lookup y=some i->x=y
noncomputable def m1(names:List (I×b4))(x:I):Bool:=names.lookup x==some .local||names.lookup x==some .cell
noncomputable def placeOf(O:bo)(x:I):aa:=if O.kindOf x=some .cell then(O.cells.lookup x).getD 0 else O.locals
section
variable{D:Bool}{E:bM}{K:cb}{M:cv}{m:List bo}{W J:List aa}{s:ay}{names:List (I×b4)}{U:List (I×Nat)}{d:Nat}{O:bo}{C:aI}{l:St}{bp:aa->List L->St->ao L}{aA:ab->ay->Prop}
theorem PC{C:aI}{i j:Nat}{a b:L}(h:(C.set i (some a))[j]? =some (some b)):(i=j∧a=b)∨(i≠j∧C[j]? =some (some b)):=by
 by_cases e:i=j
 ·subst e
  replace h:=(Ct)▸h
  cases q:C[i]? with
  |none=>rw[q] at h;cases h
  |some A=>rw[q] at h;simp at h;exact .inl ⟨rfl,h⟩
 ·rw[k' e] at h
  exact .inr ⟨e,h⟩
theorem a'.off{h ae:aV}{a:aa}(S:a' E J l h)(ag:hw a h ae)(ar:a∉J)(bQ:E.heap.get? a=none)(bn:∀T,¬h.IsTuple a T):a' E J l ae:=
 S.keep (λb hm A e=>(ag.2 b (by rintro rfl;exact ar hm)).trans e) (λb T⟨A,az,r⟩=>bx A ((ag.2 b (by rintro rfl;exact bn T ⟨A,az,r⟩)).trans az) r) λb A e=>by
  have:b≠a:=by rintro rfl;rw[bQ] at e;cases e
  exact(ag.2 b this).trans (S.base b A e)
theorem mi{h ae:aV}{a:aa}(ag:hw a h ae)(bn:∀T,¬h.IsTuple a T):fq E J J h ae:=
 ⟨λo o e=>e,λb T _⟨A,az,r⟩=>bx A ((ag.2 b (by rintro rfl;exact bn T ⟨A,az,r⟩)).trans az) r⟩
theorem OL{x:I}{c:aa}(k:O.kindOf x=some .cell)(h:O.cells.lookup x=some c):placeOf O x=c:=(if_pos k).trans (h▸rfl)
theorem OM{x:I}(k:O.kindOf x=some .local):placeOf O x=O.locals:=if_neg λq=>by cases k.symm.trans q
theorem er.put{h ae:aV}{x:I}{i:Nat}{a:L}{v:ab}(aB:er E U O J C h)(bn:gJ U)(aD:U.lookup x=some i)(r:bf E J ae a v)(dP:fq E J J h ae)(aL:mH O ae x (some v))(A:∀y u,y≠x->mH O h y u->mH O ae y u)
 (n:∃N,ae.Ns O.locals N):er E U O J (C.set i (some a)) ae:=
 ⟨n,aB.nm,λy j bD=>(yP (y=x)).elim (λe=>bx (some v) (e▸aL) λb ag=>(PC ag).elim (λz=>bx v rfl (z.2▸r)) λz=>absurd (dq (aD.symm.trans (e▸bD))) z.1)
  λe=>aU (aB.val y j bD) λu p q=>bx u (A y u e p) λb ag=>(PC ag).elim (λz=>absurd (bn y x i (z.1▸bD) aD) e) λz=>aU (q b z.2) λtX b0 bO=>bx tX b0 (bO.mono dP _ _),aB.apart,aB.pf,aB.m6⟩
theorem G4{x:I}{i:Nat}{a:L}{v:ab}(aM:O.scope.kind=.function)(aB:er E U O J C s.heap)(S:a' E J l s.heap)(bn:gJ U)(aD:U.lookup x=some i)
 (az:O.kindOf x=some .local∨O.kindOf x=some .cell) (r:bf E J s.heap a v) (an:Unit->ay->Prop)
 (h:∀ae t,a' E J l ae->er E U O J (C.set i (some a)) ae->hw (placeOf O x) s.heap ae->ae.get? (placeOf O x)≠none->placeOf O x∉J->
  (∀b N,s.heap.Ns b N->∃de,ae.Ns b de)->(∀T,¬s.heap.IsTuple (placeOf O x) T)->an () {s with heap:=ae,toks:=t}):
 a9 (a1 aH w) M (ym O x v) an aA s:=by
 refine bz aB.ns λN hm=>?_
 rcases az with az |az
 ·refine ahK az hm (λae s9 ag=>?_) (aM▸rfl)
  rw[OM az] at h
  have fz:∀T,¬s.heap.IsTuple O.locals T:=λT e=>pg hm e
  have dP:=mi (E:=E) (J:=J) ag fz
  exact h ae _ (S.off ag aB.nm aB.pf fz) (aB.put bn aD (r.mono dP _ _) dP (.ns az _ s9 (if_pos rfl)) (λy u ne p=>by
   cases p with
   |ns k FY n e=>exact .ns k _ s9 ((if_neg ne).trans ((Oi hm n y).trans e))
   |cell k c m b=>exact .cell k c m (zQ ag (λz=>xS hm (z▸b)) b)) (bk _ s9)) ag (vj s9) aB.nm (λb de n=>(yP (b=O.locals)).elim (λe=>e▸bk _ s9) λe=>bk de (Ns.but ag e n)) fz
 ·refine bz (aB.val x i aD) λu p=>aU (p.1.wS (.inl az)) λc aK qj=>?_
  refine wpAny_storeName_cell aM az aK qj λae gq ag=>?_
  rw[OL az aK] at h
  have fz:∀T,¬s.heap.IsTuple c T:=λT e=>JK qj e
  have dP:=mi (E:=E) (J:=J) ag fz
  have ne:∀{b N},s.heap.Ns b N->b≠c:=λn z=>xS n (z▸qj)
  exact h ae s.toks (S.off ag (S.xQ qj) (aB.m6 x c az aK) fz) (aB.put bn aD (r.mono dP _ _) dP (.cell (.inl az) c aK gq) (λy u acD p=>by
   cases p with
   |ns k FY n e=>exact .ns k FY (Ns.but ag (ne n) n) e
   |cell k dd m b=>exact .cell k dd m (zQ ag (λz=>acD (aB.apart y x dd m (z▸aK))) b)) (bk N (Ns.but ag (ne hm) hm))) ag (aU gq λA e o q=>c1 e q) (S.xQ qj) (λb de n=>bk de (Ns.but ag (ne n) n)) fz
end
noncomputable def fw(U:List (I×Nat))(O:bo):List aa:=O.locals::U.filterMap λp=>if O.kindOf p.1=some .cell then O.cells.lookup p.1 else none
inductive mJ(E:bM)(U:List (I×Nat))(O:bo)(J:List aa)(h:aV):dg×aI->mw->Prop
 |next {C:aI} (aB:er E U O J C h):mJ E U O J h (.next,C) .next
 |ret {C:aI} {a:L} {v:ab} (aB:er E U O J C h) (r:bf E J h a v):mJ E U O J h (.ret a,C) (.ret v)
def Te(E:bM)(U:List (I×Nat))(O:bo)(J:List aa)(h:aV)(C:aI)(_:Unit):Prop:=er E U O J C h
section
variable(E:bM)(D:Bool)(names:List (I×b4))(U:List (I×Nat))(d:Nat)
def kB(st:ey)(k:aI->St->ao (dg×aI)):Prop:=∀M m O J C l s,dN E names U d M (O::m) O J C l s->a5 E D M (O::m) (fw U O) J s (exec st O) (mJ E U O) (k C l)
def mL(st:List ey)(k:aI->St->ao (dg×aI)):Prop:=∀M m O J C l s,dN E names U d M (O::m) O J C l s->a5 E D M (O::m) (fw U O) J s (sR st O) (mJ E U O) (k C l)
end
section
variable{D:Bool}{E:bM}{K:cb}{M:cv}{m:List bo}{W J:List aa}{s:ay}{names:List (I×b4)}{U:List (I×Nat)}{d:Nat}{O:bo}{C:aI}{l:St}{bp:aa->List L->St->ao L}{aA:ab->ay->Prop}
theorem FO{α:Type}:∀{m:List (I×α)}{x:I}{c:α},(x,c)∈m->∃dd,m.lookup x=some dd
 |(k,v):: r,x,c,h=>by
  dsimp only[kt]
  cases ag:x==k with
  |true=>exact⟨v,rfl⟩
  |false=>
   rcases dU.mp h with e |e
   ·(injection e with e;subst e);simp at ag
   ·exact FO e
theorem ab9{a:aa}(ar:a∈fw U O):a=O.locals∨∃x i,U.lookup x=some i∧O.kindOf x=some .cell∧O.cells.lookup x=some a:=(dU.mp ar).imp_right λar=>aU (wq.mp ar) λz aL e=>by
 by_cases q:O.kindOf z.1=some .cell
 ·exact bz (FO aL) λj cy=>⟨z.1,j,cy,q,(if_pos q).symm.trans e⟩
 ·exact c1 e (if_neg q)
theorem Gi{h:aV}(aB:er E U O J C h):∀a∈fw U O,(a=O.locals∧∃N,h.Ns a N)∨∃v,h.IsCell a v:=λa ar=>(ab9 ar).elim (λe=>.inl ⟨e,e▸aB.ns⟩) λz=>.inr (eL z λx i cy aM e=>bz (aB.val x i cy) λv p=>aU (p.1.wS (.inl aM)) λc aK b=>bk v (dq (aK.symm.trans e)▸b))
theorem Gj{h:aV}(aB:er E U O J C h):∀a∈fw U O,∀T,¬h.IsTuple a T:=λa ar T e=>by
 rcases Gi aB a ar with⟨_,N,q⟩| ⟨v,q⟩
 ·exact pg q e
 ·exact JK q e
theorem Bj{x:I}{i:Nat}(aD:U.lookup x=some i)(aB:er E U O J C s.heap)(az:O.kindOf x=some .local∨O.kindOf x=some .cell):placeOf O x∈fw U O:=
 az.elim (λaz=>OM az▸.head _) λaz=>bz (aB.val x i aD) λv p=>aU (p.1.wS (.inl az)) λc aK o=>OL az aK▸.tail _ (wq.mpr ⟨(x,i),mem_of_lookup aD,(if_pos az).trans aK⟩)
theorem xE{x:I}(cW:h0 names O)(h:m1 names x=true):O.kindOf x=some .local∨O.kindOf x=some .cell:=cW.kindOf x▸((Cb _ _).mp h).imp beq_iff_eq.mp beq_iff_eq.mp
theorem dN.step{bb:aI}{av:St}{aw:List aa}{ah:ay}(P:dN E names U d M m O J C l s)(g:bG D (ci m) (fw U O) J s aw ah)(cG:a' E aw av ah.heap)(ju:er E U O aw bb ah.heap):
 dN E names U d M m O aw bb av ah:=
 ⟨P.room,P.dJ,ju,cG,P.fr.grow g λa ar N hm=>by
  rcases Gi P.lo a ar with⟨rfl,_⟩| ⟨v,q⟩
  ·exact ju.ns
  ·exact(xS hm q).elim⟩
theorem QC{x:I}{i:Nat}{a:L}{v:ab}(P:dN E names U d M m O J C l s)(bn:gJ U)(aD:U.lookup x=some i)(az:m1 names x=true)(r:bf E J s.heap a v):
 a5 E D M m (fw U O) J s (ym O x v) (Te E U O) (.ok (C.set i (some a)) l):=λo=>G4 P.dJ.kind P.lo P.st bn aD (xE P.dJ az) r _ λae t cG ju ag aO hm gr o=>⟨_,l,rfl,J,cG,ju,.set ag (.inr (Bj aD P.lo (xE P.dJ az))) aO (λo q=>absurd q hm) λo N e=>gr _ N e⟩
theorem afE:mL E D names U d [] (λC l=>.ok (.next,C) l):=λM m O J C l s P=>by
 exact .ok P.st (.next P.lo)
theorem P2{st:ey}{r:List ey}{k fg:aI->St->ao (dg×aI)}(h:kB E D names U d st k)(ba:mL E D names U d r fg):
 mL E D names U d (st::r) (λC l=>(k C l).bind λp ak=>p.1.go (fg p.2 ak) λv=>.ok (.ret v,p.2) ak):=λM m O J C l s P=>by
 refine a5.bind (h _ _ _ _ _ _ _ P) λp ak f bd b3 o bt cN bK=>?_
 cases cN with
 |next uc=>exact ba _ _ _ _ _ _ _ (P.step bK bt uc)
 |ret uc q=>exact .ok bt (.ret uc q)
theorem afF{e:Expr}{pos:bu}{k:aI->St->ao L}(h:∀C,dB E D names U d e C (k C)):kB E D names U d (.Return (some e) pos) (λC l=>(k C l).bind λx ak=>.ok (.ret x,C) ak):=λM m O J C l s P=>by
 refine .gI (a5.nQ (h C _ _ _ _ _ _ P) λx ak u bd b3 iV bt cN bK=>?_)
 exact .ok bt (.ret (P.lo.grow bK P.st) cN)
def jx(v:Expr):Prop:=∀t n O,Qj v t n O=pure false
theorem P1{x:I}{i:Nat}{e:Expr}{bN pos:bu}{k:aI->St->ao L}(aK:jx e)(bn:gJ U)(aD:U.lookup x=some i)(az:m1 names x=true)(h:∀C,dB E D names U d e C (k C)):
 kB E D names U d (.Assign [.Name x bN] e pos) (λC l=>(k C l).bind λa ak=>.ok (.next,C.set i (some a)) ak):=λM m O J C l s P=>by
 simp only[XJ O x bN e pos (aK _ _ _)]
 refine .gI (a5.nQ (h C _ _ _ _ _ _ P) λa ak u bd b3 iV bt cN bK=>.gI ?_)
 have hx:=P.grow bK bt
 have:=a5.bind (D:=D) (gZ:=mJ E U O) (k:=λbb a2=>.ok (.next,bb) a2) (f:=λo=>pure wb) (W:=fw U O) (M:=M) (m:=O::m) (N:=Dx O x u) (λaG=>QW (QC (D:=D) hx bn aD az cN aG))
  λbb a2 v cR eI o di fj dE=>.ok di (.next fj)
 exact this
theorem afB{e:Expr}{pos:bu}{k:aI->St->ao L}(aK:jx e)(h:∀C,dB E D names U d e C (k C)):
 kB E D names U d (.Expr e pos) (λC l=>(k C l).bind λx ak=>x.mc (.ok (.next,C) ak)):=λM m O J C l s P=>by
 (refine(exec_Expr O e pos (by dsimp only[aaY];simp[P.dJ.kind]) (aK _ _ _))▸?_)
 refine .gI (a5.nQ (h C _ _ _ _ _ _ P) λx ak u bd b3 iV bt cN bK=>?_)
 cases x with
 |none=>
  refine(vP cN)▸?_
  rw[dropValue_plain (by intro a h;cases h)]
  exact .ok bt (.next (P.lo.grow bK P.st))
 |_=>exact .fail
theorem afD{t:Expr}{a b:List ey}{pos:bu}{fd:aI->St->ao L}{d1 bU:aI->St->ao (dg×aI)}(bn:∀C,jt E D names U d t C (fd C))(ar:mL E D names U d a d1)(ag:mL E D names U d b bU):
 kB E D names U d (.If t a b pos) (λC l=>(fd C l).bind λx ak=>x.hD (d1 C ak) (bU C ak)):=λM m O J C l s P=>by
 refine a5.z4 ?_ (Jg (r:=fd C l) (f:=d1 C) (g:=bU C))
 refine .gI (a5.nQ (D:=D) (W:=fw U O) (gZ:=mJ E U O) (f:=λc=>if c=true then sR a O else sR b O) (bn C _ _ _ _ _ _ P) λx ak u bd b3 o bt cN bK=>?_)
 cases (cN:x=u)
 cases x
 ·exact ag _ _ _ _ _ _ _ (P.grow bK bt)
 ·exact ar _ _ _ _ _ _ _ (P.grow bK bt)
end
section
variable(E:bM)(D:Bool)
def i5(d:Nat)(f:aa)(Y:List L)(l:St)(r:ao L):Prop:=∀M m J s T,wE d M m->a' E J l s.heap->gM E J s.heap m->br E J s.heap Y T->r≠.fail->
 gy (a1 aH w) M (.call (.ref f) ⟨T,[]⟩) (λeP ah=>match eP with |.ok (.ret v)=>lS E D (bf E) m [] J s r v ah |.ok _=>False |.error e=>f' E D m [] J s r e ah) s
theorem i5.ys{E:bM}{D:Bool}{d:Nat}{f:aa}{Y:List L}{l:St}{r:ao L}(c:i5 E D d f Y l r){M:cv}{m:List bo}{J:List aa}{s:ay}{T:List ab}(R:wE d M m)(S:a' E J l s.heap)(F:gM E J s.heap m)(cL:br E J s.heap Y T):
 a5 E D M m [] J s (call (.ref f) T) (bf E) r:=λaG=>r9 (c M m J s T R S F cL aG)
end
section
variable{D:Bool}{E:bM}{K:cb}{M:cv}{m:List bo}{W J:List aa}{s:ay}{names:List (I×b4)}{U:List (I×Nat)}{d:Nat}{O:bo}{C:aI}{l:St}{bp:aa->List L->St->ao L}{aA:ab->ay->Prop}
theorem z9{cw:pN}{f:ab}{pos:bu}{an:Args->ay->Prop}:∀{args:List Expr},fO args->a9 cw M (yk (iQ pos (ii args O))) (λT ah=>an ⟨T,[]⟩ ah) aA s->
 a9 cw M (evalArgs f true (iQ pos (ii args O)) []) an aA s
 |[],_,h=>by
  refine aE (fx h (λT ah ae=>aE (bj ?_)) λo o x=>x)
  refine gL ?_
  exact aE (bj (aE (bj (bj ae))))
 |e::r,aP,h=>by
  cases aP with |cons ai _=>
  rw[ai.star] at h |-
  exact evalArgs_plain h
theorem Bb{pos:bu}:∀{args:List Expr},fO args->(iQ pos (ii args O)).any (·.1)=false
 |[],_=>rfl
 |e::r,aP=>by
  cases aP with |cons ai am=>
  rw[ai.star]
  exact Bb am
theorem DD{f:ab}{first:List ab}{args:List Expr}{pos:bu}{c0:St->ao (List L)}{an:ab->ay->Prop}(fY:aV->Prop)(aP:fO args)
 (aM:∀h,fY h->∃k,(k=so∨k=sp∨k=sn)∧iN (a1 aH w) h (tj f) k)
 (fp:hv E D names U d args C c0) (P:dN E names U d M m O J C l s) (aG:c0 l≠.fail)
 (u:∀Y av T ah aw,c0 l=.ok Y av->a' E aw av ah.heap->br E aw ah.heap Y T->bG D (ci m) [] J s aw ah->fY ah.heap∧a9 (a1 aH w) M (call f (first++T)) an aA ah)
 (x:∀e ah,f' E D m [] J s (c0 l) e ah->aA e ah):
 a9 (a1 aH w) M (p2 pos f first (iQ pos (ii args O)) []) an aA s:=by
 refine DE (P:=fY) (by rw[Bb aP];rfl) aM (z9 aP (fx (fp _ _ _ _ _ _ pos P aG) (λT ah p=>?_) λe ah p=>x e ah p))
 cases p with |mk a av e aw S h g=>exact u a av T ah aw e S h g
theorem UD{α bq:Type}{r:ao α}{k:α->St->ao bq}(h:r.bind k≠.fail):r≠.fail:=λe=>h (e▸rfl)
theorem f'.cast{α bq:Type}{mN:List aa}{r:ao α}{eP:ao bq}{v:ab}{ah:ay}(p:f' E D m W J s r v ah)(h:∀x av,r=.exc x av->eP=.exc x av)(bS:∀a∈W,a∈mN):f' E D m mN J s eP v ah:=by
 cases p with |mk a ak e aw S y g=>exact⟨a,ak,h a ak e,aw,S,y,g.weaken bS⟩
theorem f'.bind{α bq:Type}{r:ao α}{k:α->St->ao bq}{v:ab}{ah:ay}(p:f' E D m W J s r v ah):f' E D m W J s (r.bind k) v ah:=p.cast (λo o e=>e▸rfl) λo h=>h
theorem vI{f:ab}{first:List ab}{args:List Expr}{pos:bu}{c0:St->ao (List L)}{k:List L->St->ao L}(aP:fO args)
 (aM:∀h,E.heap.StaysIn h->∃k,(k=so∨k=sp∨k=sn)∧iN (a1 aH w) h (tj f) k)
 (fp:hv E D names U d args C c0) (P:dN E names U d M m O J C l s)
 (u:∀Y av T ah aw,a' E aw av ah.heap->br E aw ah.heap Y T->bG D (ci m) [] J s aw ah->a5 E D M m [] aw ah (call f (first++T)) (bf E) (k Y av)):
 a5 E D M m [] J s (p2 pos f first (iQ pos (ii args O)) []) (bf E) ((c0 l).bind k):=λaG=>DD (E.heap.StaysIn ·) aP aM fp P (UD aG) (λY av T ah aw e S h g=>⟨S.base,by rw[e] at aG |-;exact(u Y av T ah aw S h g).back g aG⟩) λo o p=>p.bind
theorem AV{f:aa}(Z:ef K E)(aG:u9 K (.ref f)=true):∀h,E.heap.StaysIn h->∃k,(k=so∨k=sp∨k=sn)∧iN (a1 aH w) h (tj (.ref f)) k:=
 λh ag=>keeps_K aG h (Z.X.keeps ag)
theorem tk{f:ab}(aG:∀a,f≠.ref a):∀h,E.heap.StaysIn h->∃k,(k=so∨k=sp∨k=sn)∧iN (a1 aH w) h (tj f) k:=λh o=>by
 refine bx .machine (.inr (.inl rfl)) ?_
 cases f <;> first |exact Ig rfl |exact absurd rfl (aG _)
noncomputable def zP(K:cb)(names:List (I×b4))(x:I)(f:aa):Bool:=kP names x&&ha K gh x==some (some (.ref f))&& u9 K (.ref f)&& !(x==("__debug__":I))
theorem Xb{x:I}{f:aa}{p pos:bu}{args:List Expr}{c0:St->ao (List L)}(Z:ef K E)(ok:zP K names x f=true)(aP:fO args)(fp:hv E D names U d args C c0)
 (l6:∀Y l,i5 E D d f Y l (bp f Y l)):dB E D names U d (.Call (.Name x p) args [] pos) C (λl=>(c0 l).bind λY ak=>bp f Y ak):=λM m O J l s P=>by
 simp only[zP,gW,pD,beq_iff_eq] at ok
 intro aG
 refine aE (xK Z P.st.base P.dJ ok.1.1.1 ok.1.1.2 ok.2 ?_)
 exact vI aP (AV Z ok.1.2) fp P (λY av T ah aw S h g=>(l6 Y av).ys P.room.He S (P.fr.grow g (by simp)) (by exact h)) aG
theorem acc{args:List Expr}{pos:bu}(aP:fO args)(aN:args.length<30):methodCallForm (args.length+([]:List HW).length) (iQ pos (ii args O)) (backToKw pos (abc [] O))=true:=
 gk.mpr ⟨gk.mpr ⟨i8.mpr λx aD=>(pD _).mpr (t3.mpr (List.any_eq_false.mp (Bb aP) x aD)),rfl⟩,decide_eq_true aN⟩
theorem aca{A:Expr}{name:I}{e4 pos:bu}{args:List Expr}{lw:ab}(aL:(e4.endLine==pos.line)=true)(aP:fO args)(aN:args.length<30):
 methodCall A name e4 pos O lw (args.length+([]:List HW).length) (iQ pos (ii args O)) (backToKw pos (abc [] O))=
  holding [lw] (uO lw name (do return (<-importBound A O).getD true))>>= λn0=>p2 pos n0.1 n0.2 (iQ pos (ii args O)) []:=by
 have E9:methodCallPos true A O e4 pos=pure pos:=if_pos aL
 unfold methodCall
 rw[acc aP aN,E9]
 rfl
theorem Je{A:Expr}{name:I}{e4 pos:bu}{args:List Expr}(aL:(e4.endLine==pos.line)=true)(aP:fO args)(aN:args.length<30):
 ∃cZ,fb (.Call (.Attribute A name e4) args [] pos) O=(do
  let lw <-Jo A name O (fb A O)
  kn e4.atName
  let n0 <-holding [lw] (uO lw name cZ)
  p2 pos n0.1 n0.2 (iQ pos (ii args O)) []):=
 ⟨_,(arm_eval_Call ..).trans (congrArg (Jo A name O (fb A O)>>= ·) (funext λlw=>congrArg (kn e4.atName >>= ·) (funext λo=>aca aL aP aN)))⟩
theorem Dc{A:Expr}{name:I}{e4 pos:bu}{args:List Expr}(aO:lc A)(aL:(e4.endLine==pos.line)=true)(aP:fO args)(aN:args.length<30):
 ∃cZ,fb (.Call (.Attribute A name e4) args [] pos) O=(do
  let lw <-fb A O
  kn e4.atName
  let n0 <-holding [lw] (uO lw name cZ)
  p2 pos n0.1 n0.2 (iQ pos (ii args O)) []):=bz (Je aL aP aN) λcZ e=>bk cZ (e.trans (congrArg (· >>= _) (aO ..)))
noncomputable def A4(K:cb)(Q f:aa)(name:I):Bool:=plainGet K Q name&&jE K (.ref Q) name==some (some (.ref f))&& isFn K (.ref f)&& u9 K (.ref f)
theorem Nm{x:I}:∀(m:List (I×L))(bP:List (I×ab)),bP.map (·.1)=m.map (·.1)->m.lookup x=none->qM bP x=none
 |[],[],_,_=>rfl
 |[],_::_,N,_=>by simp at N
 |_::_,[],N,_=>by simp at N
 |(k,a):: r,(cg,b):: t,N,e=>by
  simp only[iL,sq] at N
  obtain⟨rfl,N⟩:=N
  dsimp only[kt] at e
  by_cases aD:x=cg
  ·subst aD;simp at e
  ·have q:(x==cg)=false:=by simpa using aD
   rw[q] at e
   have rH:¬cg=x:=λe=>aD e.symm
   have:=Nm r t N e
   simpa[qM,H5,rH] using this
theorem ab'{Q:aa}{name:I}{v x:L}(h:xO l Q name v=some x):∃n N m,v=.loc n∧x=.loc n∧l[n]? =some (.inst Q N)∧l[N]? =some (.cj m)∧m.lookup name=none:=
 gn h λp e h=>gn h λm a4 h=>by
  by_cases q:m.lookup name=none
  ·rw[if_pos q] at h;exact⟨_,_,m,(u8 e).1,(dq h).symm,(u8 e).2,GU a4,q⟩
  ·rw[if_neg q] at h;exact ns h
theorem Xi{A:Expr}{name:I}{Q f:aa}{e4 pos:bu}{args:List Expr}{kh:St->ao L}{c0:St->ao (List L)}(Z:ef K E)(ok:A4 K Q f name=true)(aO:lc A)(aL:(e4.endLine==pos.line)=true)(aN:args.length<30)(aP:fO args)
 (az:dB E D names U d A C kh) (fp:hv E D names U d args C c0) (l6:∀Y l,i5 E D d f Y l (bp f Y l)):
 dB E D names U d (.Call (.Attribute A name e4) args [] pos) C (λl=>(kh l).bind λx ak=>(opt (xO ak Q name x) ak).bind λx ak=>(c0 ak).bind λY=>bp f (x::Y)):=λM m O J l s P=>by
 obtain⟨cZ,e⟩:=Dc (O:=O) (name:=name) aO aL aP aN
 refine e▸?_
 simp only[A4,gW,beq_iff_eq] at ok
 refine a5.bind (az _ _ _ _ _ _ P) λx ak u bd b3 o bt cN bK=>.gI (.Bh λnr ex=>?_)
 obtain⟨n,N,Y,rfl,rfl,nY,kI,qn⟩:=ab' ex
 refine aU (gK cN) λb ag ai2=>?_
 subst ai2
 refine Rc (Fx bt ag nY kI) λbC bP af a0 ai am a6 c2 fc f6 jc jd ai3=>?_
 refine tZ ai3 λje Ak w8 Al=>?_
 intro aG
 refine aE (gL (method_fn (Z.X.keeps bt.base) c2 (ON ok.1.1.1).1 (ON ok.1.1.1).2 ok.1.1.2 (beq_iff_eq.mp ok.1.2) (by show(lookIn name (h8 af a0)).map _=_;simp only[lookIn_dict,Yp f6 (Nm _ _ je qn)];rfl) ?_))
 refine vI aP (AV Z ok.2) fp (P.grow bK bt) (λvW av T ah aw S h g=>(l6 _ av).ys P.room.He S ((P.grow bK bt).fr.grow g (by simp)) ?_) aG
 exact .cons (by exact bx b (g.get ag) rfl) h
end
theorem KW{α bq:Type}{f g:α->Option bq}:∀(m:List α),(∀x∈m,f x=g x)->m.filterMap f=m.filterMap g
 |[],_=>rfl
 |a::r,h=>by
  rw[y1,y1,h a (.head _),KW r λx aD=>h x (.tail _ aD)]
theorem Rh:∀(ns:List I)(T:List ab),ns.Nodup->T.length=ns.length->ns.filterMap (λn=>((ns.zip T).lookup n).map (n, ·))=ns.zip T
 |[],[],_,_=>rfl
 |[],_::_,_,h=>by simp at h
 |_::_,[],_,h=>by simp at h
 |n::r,v::t,aO,aN=>by
  rw[mC] at aO
  dsimp only[SE,y1]
  simp only[kt,beq_self_eq_true,Option.map_some]
  congr 1
  refine t4 (KW r λx aD=>?_) (Rh r t aO.2 (by simpa using aN))
  have:(x==n)=false:=by rw[beq_eq_false_iff_ne];rintro rfl;exact aO.1 aD
  rw[this]
theorem ajU:∀(ns:List I)(T:List ab),T.length=ns.length->ns.filter (λn=>((ns.zip T).lookup n).isNone)=[]
 |[],[],_=>rfl
 |[],_::_,h=>by simp at h
 |_::_,[],h=>by simp at h
 |n::r,v::t,aN=>by
  rw[y3]
  intro x aD
  have:∃c,((n::r).zip (v::t)).lookup x=some c:=by
   refine bz (pK aD) λi aR=>?_
   have iz:=(gt.mp aR).1
   have:i<(v::t).length:=by simp only[aN];exact iz
   exact FO (c:=(v::t)[i]) (fG (i:=i) (by
    rw[H8]
    exact⟨aR,lN this⟩))
  refine bz this λc aK=>?_
  refine aK▸?_;simp
theorem ajR(ns:List I)(T:List ab)(aN:T.length=ns.length)(k:Nat):¬(!((ns.take k).filter (λn=>((ns.zip T).lookup n).isNone)).isEmpty)=true:=by
 rw[y3.mpr λx aD=>y3.mp (ajU ns T aN) x (Ie aD)]
 exact Ca
theorem acI{bq:Type}(m:List I)(k:Nat)(b:bq)(f:I×ab->bq->dh (ForInStep bq)):forIn (m.zip (([]:List ab).drop k)) b f=pure b:=by
 rw[H0,List.zip_nil_right];rfl
theorem Js{aX:fV}{as:List hY}{T:List ab}(aL:aX.params=⟨[],as,none,[],[],none,[]⟩)(hd:aX.defaults=.none)(aO:(as.map (·.arg)).Nodup)(aN:T.length=as.length):
 bindArgs aX ⟨T,[]⟩=pure ((as.map (·.arg)).zip T):=by
 have Ay:T.length=(as.map (·.arg)).length:=by simpa using aN
 cases aX
 subst aL
 subst hd
 refine(if_neg (by simp[aN])).trans ((if_neg (ajR _ _ Ay _)).trans ((congrArg (· >>= _) (acI _ _ _ _)).trans ?_))
 exact congrArg Sem.pure ((congrArg (H2 _) (iK (as.map λa:hY=>a.arg))).trans (Rh (as.map λa:hY=>a.arg) T aO Ay))
theorem DM:∀(names:List (I×b4))(n:Nat)(bc:List (I×aa))(x:I)(c:Nat),(lj n names bc).lookup x=some c->
 (bc.lookup x=some c∧¬(x,jw)∈names)∨((x,jw)∈names∧n<=c)
 |[],n,bc,x,c,h=>.inl ⟨h,(hK)⟩
 |(y,k):: r,n,bc,x,c,h=>by
  dsimp only[lj] at h
  split at h
  ·rename_i aM
   have s8:k=.cell:=beq_iff_eq.mp aM
   subst s8
   rcases DM r _ _ x c h with⟨ai,am⟩| ⟨ai,am⟩
   ·dsimp only[kt] at ai
    by_cases e:x=y
    ·subst e
     simp at ai
     subst ai
     exact .inr ⟨.head _,eN _⟩
    ·have q:(x==y)=false:=by simpa using e
     replace ai:=q▸ai
     exact .inl ⟨ai,by simp[e,am]⟩
   ·exact .inr ⟨.tail _ ai,by exact oJ am⟩
  ·rename_i aM
   rcases DM r _ _ x c h with⟨ai,am⟩| ⟨ai,am⟩
   ·refine .inl ⟨ai,?_⟩
    simp only[dU,CR,not_or]
    exact⟨λq=>aM (by refine q.2▸?_;rfl),am⟩
   ·exact .inr ⟨.tail _ ai,am⟩
theorem zR:∀(names:List (I×b4))(n:Nat)(bc:List (I×aa))(x:I),¬(x,jw)∈names->(lj n names bc).lookup x=bc.lookup x
 |[],n,bc,x,h=>rfl
 |(y,k):: r,n,bc,x,h=>by
  simp only[dU,CR,not_or] at h
  dsimp only[lj]
  split
  ·rename_i aM
   have s8:k=.cell:=beq_iff_eq.mp aM
   subst s8
   simp only[zR r _ _ x h.2,kt]
   have:(x==y)=false:=by
    rw[beq_eq_false_iff_ne]
    intro e
    exact h.1 ⟨e,rfl⟩
   rw[this]
  ·exact zR r _ _ x h.2
theorem JL:∀(names:List (I×b4))(n:Nat)(bc:List (I×aa))(x:I),(x,jw)∈names->∃c,(lj n names bc).lookup x=some c
 |(y,k):: r,n,bc,x,h=>by
  dsimp only[lj]
  by_cases ba:(x,jw)∈r
  ·split <;> exact JL r _ _ x ba
  ·rcases dU.mp h with e |e
   ·cases e
    rw[if_pos (by rfl),zR r _ _ _ ba]
    exact⟨n,by simp[kt]⟩
   ·exact absurd e ba
theorem DL:∀(names:List (I×b4))(n:Nat)(bc:List (I×aa)),(∀(x y:I)(c:Nat),bc.lookup x=some c->bc.lookup y=some c->x=y)->(∀(x:I)(c:Nat),bc.lookup x=some c->c<n)->
 ∀(x y:I)(c:Nat),(lj n names bc).lookup x=some c->(lj n names bc).lookup y=some c->x=y
 |[],n,bc,h,_=>h
 |(z,k):: r,n,bc,h,aN=>by
  dsimp only[lj]
  split
  ·refine DL r _ _ (λx y c aD bD=>?_) λx c aD=>?_
   ·dsimp only[kt] at aD bD
    by_cases e:x=z <;> by_cases f:y=z
    ·simp only[e,f]
    ·subst e
     have q:(y==x)=false:=by simpa using f
     simp[q] at aD bD
     subst aD
     exact absurd (aN _ _ bD) (kw _)
    ·subst f
     have q:(x==y)=false:=by simpa using e
     simp[q] at aD bD
     subst bD
     exact absurd (aN _ _ aD) (kw _)
    ·have q:(x==z)=false:=by simpa using e
     have dZ:(y==z)=false:=by simpa using f
     replace aD:=q▸aD;replace bD:=dZ▸bD
     exact h x y c aD bD
   ·dsimp only[kt] at aD
    by_cases e:x=z
    ·subst e;simp at aD;subst aD;exact ud _
    ·have q:(x==z)=false:=by simpa using e
     replace aD:=q▸aD
     have:=aN x c aD;exact zb 1 (aN x c aD)
  ·exact DL r _ _ h aN
theorem Gv:∀(names:List (I×b4))(h:aV)(bc:List (I×aa))(x:I)(c:Nat),(lj h.objs.size names bc).lookup x=some c->h.objs.size<=c->(∀(x:I)(c:Nat),bc.lookup x=some c->c<h.objs.size)->(OU h names).IsCell c none
 |[],h,bc,x,c,e,aK,aN=>by have:=aN x c e;lia
 |(y,k):: r,h,bc,x,c,e,aK,aN=>by
  dsimp only[lj] at e
  dsimp only[OU]
  split
  ·rename_i aM
   rw[if_pos aM] at e
   have e1:(h.push {cls:=.type "cell",data:=.cell none}).objs.size=h.objs.size+1:=oG ..
   by_cases gq:c=h.objs.size
   ·subst gq
    exact bx _ (OV r _ _ _ (eS _ rfl)) rfl
   ·refine Gv r _ ((y,h.objs.size):: bc) x c (by refine e1▸?_;exact e) ((hg gq).elim (λcT=>cf [_,_,_] 0 al ax 1 aT ax 1 (Ns ax) aT rfl aK cT) λcT=>cf [_,_,_] 1 al ax 1 al (Ns aT) 1 (Ns aT) ax rfl (dI e1) cT) λnr dd cm=>?_
    simp only[e1,kt] at *
    by_cases q:nr=y
    ·subst q;simp at cm;subst cm;exact ud _
    ·have dZ:(nr==y)=false:=by simpa using q
     rw[dZ] at cm
     have:=aN nr dd cm;exact zb 1 (aN nr dd cm)
  ·rename_i aM
   rw[if_neg aM] at e
   exact Gv r h bc x c e aK aN
structure mD(hs:fa)(jC:List (I×aa))(s:ay)(O:bo)(ae:aV):Prop where
 GS:O.scope=hs
 loc:s.heap.get? O.locals=none
 ns:ae.Ns O.locals λo=>none
 keep:∀b A,s.heap.get? b=some A->ae.get? b=some A
 inj:∀x y c,O.cells.lookup x=some c->O.cells.lookup y=some c->x=y
 cell:∀x,(x,jw)∈hs.names->∃c,O.cells.lookup x=some c∧s.heap.get? c=none∧c≠O.locals∧ae.IsCell c none
 old:∀x,¬(x,jw)∈hs.names->O.cells.lookup x=jC.lookup x
section
variable{cw:pN}{M:cv}{aA:ab->ay->Prop}{s:ay}
theorem NU{scope:fa}{globals:aa}{jC:List (I×aa)}{pk:I}{ry:Option aa}{code:ab}{around:Option bo}{builtins:aa}{an:bo->ay->Prop}
 (Ar:∀x y c,jC.lookup x=some c->jC.lookup y=some c->x=y) (iz:∀(x:I)(c:Nat),jC.lookup x=some c->c<s.heap.objs.size)
 (cY:∀O ae,mD scope jC s O ae->O=A7 scope O.locals globals O.cells pk ry code around builtins->an O {s with heap:=ae}):
 a9 cw M (A8 scope globals jC [] pk ry code around builtins) an aA s:=by
 have Oc:∀a:Nat,s.heap.objs.size<=a->s.heap.get? a=none:=λa ar=>by
  cases q:s.heap.get? a with
  |none=>rfl
  |some A=>exact absurd (eF q) (lQ.mpr ar)
 have lu:∀(c:cV)(z6:c.data=.dict #[]),
  mD scope jC s (A7 scope s.heap.objs.size globals (lj (s.heap.objs.size+1) scope.names jC) pk ry code around builtins) (OU (s.heap.push c) scope.names):=λc z6=>by
  have e1:(s.heap.push c).objs.size=s.heap.objs.size+1:=oG ..
  have xn:(A7 scope s.heap.objs.size globals (lj (s.heap.objs.size+1) scope.names jC) pk ry code around builtins).locals=s.heap.objs.size:=by cases around <;> rfl
  have n2:(A7 scope s.heap.objs.size globals (lj (s.heap.objs.size+1) scope.names jC) pk ry code around builtins).cells=lj (s.heap.objs.size+1) scope.names jC:=by cases around <;> rfl
  refine⟨by cases around <;> rfl,by refine(xn).symm▸?_;exact Oc _ (eN _),?_,λb A e=>OV _ _ b A (dM _ e),?_,λx aD=>?_,λx aD=>?_⟩
  ·refine(xn).symm▸?_
   exact Nw c (#[]) 0 (OV _ _ _ _ (eS _ (by obtain⟨_,_,D5,_⟩:=c;simp only at z6;subst z6;rfl))) z6 (λo h=>by simp at h) (λo=>rfl)
  ·refine(n2).symm▸?_
   exact DL _ _ _ Ar λx c e=>by have:=iz x c e;exact zb 1 (iz x c e)
  ·rw[n2,xn]
   refine bz (JL scope.names (s.heap.objs.size+1) jC x aD) λdd e=>?_
   have s6:s.heap.objs.size+1<=dd:=by
    rcases DM _ _ _ x dd e with⟨_,am⟩| ⟨_,am⟩
    ·exact absurd aD am
    ·exact am
   exact FR dd e (Oc _ (oJ s6)) (λq=>by simp only[q] at s6;exact absurd s6 (SS _)) (Gv scope.names _ jC x dd (by refine e1▸?_;exact e) (by refine e1▸?_;exact s6) λx c e=>by simp only[e1];have:=iz x c e;exact zb 1 (iz x c e))
  ·refine(n2).symm▸?_
   exact zR _ _ _ x aD
 refine aE (ahq ?_)
 refine aE (wpAny_layCells _ (λname kind cells=>by cases Aw:kind==jw <;> simp[Aw]) _ _ _ _ ?_)
 rw[show ∀A:cV,({s with heap:=s.heap.push A}:ay).heap.objs.size=s.heap.objs.size+1 from λA=>oG ..]
 cases around with
 |none=>exact aE (bj (bj (cY _ _ (lu {cls:=_,data:=.dict #[]} rfl) rfl)))
 |some alz=>exact aE (bj (bj (cY _ _ (lu {cls:=_,data:=.dict #[]} rfl) rfl)))
end
theorem Wp(f:Array ab->Array ab)(A:cV):(mE f A).dict=A.dict:=by unfold mE;split <;> rfl
structure Off(X bT:List aa)(h ae:aV):Prop where
 keep:∀b A,b∉X->h.get? b=some A->ae.get? b=some A∨(b∈bT∧∃e8,ae.get? b=some {A with slots:=e8})
 live:∀b,h.get? b≠none->ae.get? b≠none
section
variable{D:Bool}{E:bM}{cw:pN}{M:cv}{O:bo}{m:List bo}{W J aw X bT:List aa}{av:St}{s ah:ay}{a:L}{e:ab}{aA:ab->ay->Prop}{h ae:aV}{b7:aa}
theorem Off.tup(x:Off X bT h ae){b:aa}{T:Array ab}(ag:b∉X)(e:h.IsTuple b T):ae.IsTuple b T:=by
 refine cr e λA az aK i3=>?_
 refine bz i3 λn hd=>?_
 rcases x.keep b A ag az with k |⟨_,e8,k⟩
 ·exact fK A k aK ⟨n,hd⟩
 ·exact fK _ k aK ⟨n,hd⟩
theorem Off.P0(x:Off X bT h ae)(S:a' E aw av h)(h':∀b∈X,b∉aw∧E.heap.get? b=none∧∀T,¬h.IsTuple b T)(et:∀b∈bT,b∉aw∧E.heap.get? b=none):a' E aw av ae:=
 S.keep (λb hm A e=>(x.keep b A (λq=>(h' b q).1 hm) e).resolve_right λz=>(et b z.1).1 hm) (λb T e=>x.tup (λq=>(h' b q).2.2 T e) e) λb A e=>(x.keep b A (λq=>by rw[(h' b q).2.1] at e;nomatch e) (S.base b A e)).resolve_right λz=>by rw[(et b z.1).2] at e;nomatch e
theorem Off.cz(x:Off X bT h ae)(h':∀b∈X,∀T,¬h.IsTuple b T):fq E J J h ae:=⟨λo o e=>e,λb T o e=>x.tup (λq=>h' b q T e) e⟩
theorem Off.grow{t:Nat}(x:Off X (ci m) ah.heap ae)(g:bG D (ci m) W J s aw ah)(h':∀b∈X,s.heap.get? b=none)(hm:∀b∈ci m,b∉aw):bG D (ci m) W J s aw {ah with heap:=ae,toks:=t}:=by
 have kX:∀{b A},s.heap.get? b=some A->b∉X:=λe q=>c1 e (h' _ q)
 exact⟨g.ext,λb A ag bS e=>(g.keep b A ag bS e).elim (x.keep b A (kX e)) λz=>.inr ⟨z.1,bz z.2 λe8 q=>(x.keep b _ (kX e) q).elim (bk (P:=λe8=>ae.get? b=some {A with slots:=e8}) e8) λil=>il.2⟩,λb ag=>x.live b (g.live b ag),g.same,
  λdy b ag A af a0 e hd=>(x.keep b A (kX e) (g.lp dy b ag A af a0 e hd)).resolve_right λz=>hm b z.1 (bz (pK ag) λo q=>fG (g.get q)),
  λb N hm e=>yH (g.lv b N hm e) λde A af a0 az r=>(x.keep b A (k7 e λo o o q o=>kX q) az).elim (λz=>Nx de A af a0 z r) λz=>bz z.2 λe8 z=>Nx de _ af a0 z r⟩
theorem Off.dict(x:Off X bT h ae){b:aa}{bP:List (I×ab)}(ag:b∉X)(aG:b∉bT)(e:h.DictOf (strKind aH w) b bP):ae.DictOf (strKind aH w) b bP:=by
 refine k7 e λA af a0 az r=>?_
 exact tq A af a0 ((x.keep b A ag az).resolve_right λz=>aG z.1) r
theorem gM.Yt(F:gM E J s.heap m)(g:bG D bT W J s aw ah):gM E aw ah.heap m where
 each:=λO bw=>by
  refine dL (F.each O bw) λk aiy=>?_
  refine ij aiy λaB a b c aiA=>?_
  refine bz aiA λN d=>?_
  exact⟨k,aB,a,b,g.mj (k7 d λA af a0 az o=>by refine az▸?_;simp) c,g.lv aB N c d⟩
theorem Es(F:gM E J s.heap m)(g:bG D (ci m) W J s aw ah):ah.heap.FunFrames E.heap m∧∀b∈ci m,b∉aw∧E.heap.get? b=none∧s.heap.get? b≠none∧∀T,¬ah.heap.IsTuple b T:=by
 have qY:gM E aw ah.heap m:=F.Yt g
 refine⟨?_,λb ag=>?_⟩
 ·have:∀m:List bo,gM E aw ah.heap m->ah.heap.FunFrames E.heap m:=by
   intro m
   induction m with
   |nil=>intro _;trivial
   |cons e r aJ=>
    intro F
    refine ge λdT cD=>?_
    refine dL (F.each e (.head _)) λk aiY=>?_
    refine ij aiY λaB a b c aiZ=>?_
    refine bz aiZ λN d=>?_
    refine cD ?_
    clear cD dT
    exact akj k a d b (aJ ⟨λe bw=>F.each e (.tail _ bw)⟩)
  exact this m qY
 ·refine aU (wq.mp ag) λO bw aG=>?_
  refine ge λdT cD=>?_
  refine dL (qY.each O bw) λk ai0=>?_
  refine ij ai0 λaB a c d ai1=>?_
  obtain⟨N,ns⟩:=ai1
  refine cD ?_
  clear cD dT
  replace a:=aG▸a;(obtain rfl:=dq a)
  refine⟨d,c,?_,λT e=>pg ns e⟩
  refine dL (F.each O bw) λo ajp=>?_
  refine ij ajp λju iv o o ajy=>?_
  refine yH ajy λde A af a0 az o=>?_
  rw[aG] at iv;cases iv
  refine az▸?_;simp
theorem q0.Bc{b1:aa}(t:q0 h b1)(fe:Array ab):¬h.IsTuple b1 fe:=λx=>by
 cases t with |mk az aK hd aG=>exact cr x λch eA o z=>bz z λn eO=>by cases az.symm.trans eA;cases hd.symm.trans eO
theorem oF.Bc{Q bC:aa}{iF:ab}(t:oF h Q b7 bC iF)(fe:Array ab):¬h.IsTuple b7 fe:=λx=>by
 cases t with |mk az aK hd ck ai=>exact cr x λch eA o z=>bz z λn eO=>by cases az.symm.trans eA;cases ck.symm.trans eO
theorem oE.live{bC:aa}(d:oE E aw h a bC):h.get? bC≠none:=λq=>by
 cases d with |mk d s r=>exact k7 d λA af a0 az o=>by cases q.symm.trans az
theorem Off.KS{bC:aa}(x:Off X bT h ae)(ag:bC∉X)(aG:bC∉bT)(h':∀b∈X,∀T,¬h.IsTuple b T)(d:oE E aw h a bC):oE E aw ae a bC:=by
 cases d with |mk d s r=>exact .mk (x.dict ag aG d) s (r.mono (x.cz h') _ _)
structure Ii(E:bM)(m:List bo)(s ah:ay)(J:List aa)(bC b:aa):Prop where
 gN:ov E m s J b
 fz:∀fe,¬ah.heap.IsTuple b fe
 pe:b≠bC
theorem Off.one{b1:aa}{g:Array ab->Array ab}{ph:cV}{em:Array ab}(az:h.get? b1=some ph)(hd:ph.data=.fields em):Off [b1] bT h (h.update b1 (mE g)):=
 ⟨λb A ag e=>.inl ((my _ _ λq=>ag (gu.mpr q.symm)).trans e),λb ag q=>by
  by_cases z:b=b1
  ·rw[z,nz (mE g) az (CI (wz hd g))] at q;nomatch q
  ·exact ag ((my _ _ (sx z)).symm.trans q)⟩
theorem q0.put{b1:aa}(t:q0 h b1)(x:ab):q0 (h.update b1 (mE (·.setIfInBounds 3 x))) b1:=by
 cases t with |mk az aK hd aG=>exact .mk (nz (mE (·.setIfInBounds 3 x)) az (CI (wz hd _))) ((IA ..).trans aK) (wz hd _) (by rw[Rm (v2.mp aG).1])
theorem Of{an:Unit->ay->Prop}{aB Q bC:aa}{N:I->Option ab}{a8:aV}{X:List aa}{head iF:ab}{YK:Bool}(jL:M.frames=some (O::m))(n4:O.frame=some aB)(et:∀b∈ci (O::m),b∉aw∧E.heap.get? b=none∧s.heap.get? b≠none∧∀T,¬ah.heap.IsTuple b T)
 (gN:ov E (O::m) s aw b7) (hm:E.heap.Ns gh N) (aM:N "KindFault"=some (.ref Q)) (ka:ov E (O::m) s aw bC) (kH:bC≠b7) (d:oE E aw ah.heap a bC) (cG:a' E aw av ah.heap) (g:bG D (ci (O::m)) W J s aw ah)
 (h':∀b∈b7::X,Ii E (O::m) s ah aw bC b) (off:Off X (ci (O::m)) ah.heap a8) (A:oF a8 Q b7 bC iF) (o2:a8.FunFrames E.heap (O::m))
 (h:∀cC,a' E aw av cC->iJ E (O::m) s aw cC a b7->zr cC b7->bG D (ci (O::m)) W J s aw {ah with heap:=cC}->an () {ah with heap:=cC}):
 a9 cw M (do let fr <-frameOf O;let cZ <-entryPlaceOf aB YK;let b <-akh head fr .none (fS aB) .none cZ;r0 (.ref b7) 1 b) an aA {ah with heap:=a8}:=by
 cases A with |mk a3 a4 cI eV g4=>
 refine aE (wpAny_frameOf_fun (s:={ah with heap:=a8}) jL o2 n4 λbF jg=>?_)
 refine aE (wpAny_entryPlaceOf λcZ ta=>?_)
 refine aE (nl ?_ (ta.sizeOk5 _ _ _ _ _))
 have e1:=(v2.mp g4).1
 generalize o6:({cls:=.type "traceback",dict:=none,data:=.fields ([head,.ref aB,.none,fS aB,.none]++ (if cZ.isEmpty then ku 6 g0 else cZ)).toArray}:cV)=c3
 have acU:c3.cls=.type "traceback":=by rw[<-o6]
 have acV:∃em,c3.data=.fields em∧em[3]? =some (fS aB):=by rw[<-o6];exact⟨_,rfl,rfl⟩
 have acW:c3.isFreed=false:=by rw[<-o6];rfl
 clear o6
 have LH:bF.get? b7=some _:=(jg.2.1 b7 gN.hU).trans a3
 have LI:=dM (h:=bF) c3 LH
 refine BY LI eV e1 ?_
 have Nf:∀b,ah.heap.get? b≠none->bF.get? b≠none:=λb ag q=>by
  cases z:a8.get? b with
  |none=>exact off.live b ag z
  |some A=>exact bz (jg.2.2 b A z) λe8 e=>by cases q.symm.trans e
 have gone:∀b,bF.get? b=none->ah.heap.get? b=none:=λb ag=>lM λq=>Nf b q ag
 have d4:bF.get? bF.objs.size=none:=hR
 have af6:ov E (O::m) s aw bF.objs.size:=⟨lM λq=>g.live _ q (gone _ d4),lM λq=>absurd (gone _ d4) (ID.mp q |>.elim λA az z=>by cases (cG.base _ A az).symm.trans z),
  λq=>cG.there _ q (gone _ d4),λq=>(et _ q).2.2.1 (lM λz=>g.live _ z (gone _ d4))⟩
 have EA:bF.objs.size≠b7:=λq=>by rw[q] at d4;cases d4.symm.trans LH
 have aac:bF.objs.size≠bC:=λq=>d.live (gone _ (q▸d4))
 have ER:=wz eV (·.setIfInBounds 1 (hq bF.objs.size))
 have ES:=nz (mE (·.setIfInBounds 1 (hq bF.objs.size))) LI (CI ER)
 have Lw:q0 ((bF.push c3).update b7 (mE (·.setIfInBounds 1 (hq bF.objs.size)))) bF.objs.size:=
  aU acV λem ez ft=>.mk ((my _ _ (sx EA)).trans (eS bF acW)) acU ez ft
 have Lc:(Array.setIfInBounds _ 1 (hq bF.objs.size))[1]? =some (.ref bF.objs.size):=Rm e1
 have Gd:Off (b7::X) (ci (O::m)) ah.heap ((bF.push c3).update b7 (mE (·.setIfInBounds 1 (hq bF.objs.size)))):=by
  have AU:∀b A,b≠b7->bF.get? b=some A->((bF.push c3).update b7 (mE (·.setIfInBounds 1 (hq bF.objs.size)))).get? b=some A:=λb A ag e=>(my _ _ (sx ag)).trans (dM _ e)
  refine⟨λb A ag e=>?_,λb ag q=>?_⟩
  ·have EI:b≠b7:=λz=>ag (z▸.head _)
   rcases off.keep b A (λz=>ag (.tail _ z)) e with q |⟨aG,e8,q⟩
   ·by_cases z:b∈ci (O::m)
    ·exact bz (jg.2.2 b _ q) λe8 r=>.inr ⟨z,e8,AU b _ EI r⟩
    ·exact .inl (AU b _ EI ((jg.2.1 b z).trans q))
   ·exact bz (jg.2.2 b _ q) λae3 r=>.inr ⟨aG,ae3,AU b _ EI r⟩
  ·by_cases z:b=b7
   ·rw[z,ES] at q;cases q
   ·exact(ID.mp (Nf b ag)).elim λA az=>by cases q.symm.trans (AU b A z az)
 have Ti:=Gd.P0 cG (λb ag=>⟨(h' b ag).gN.nm,(h' b ag).gN.xP,(h' b ag).fz⟩) λb ag=>⟨(et b ag).1,(et b ag).2.1⟩
 exact h _ Ti (.mk gN hm aM ka kH (.mk ES ((IA ..).trans a4) ((Wp ..).trans cI) ER Lc) (Gd.KS (λag=>(h' bC ag).pe rfl) ka.hU (λb ag=>(h' b ag).fz) d) (.be af6 EA aac Lw)) (.mk ES ER Lc EA Lw)
  (Gd.grow g (λb ag=>(h' b ag).gN.new) λb ag=>(et b ag).1)
theorem Ga{an:Unit->ay->Prop}{aB:aa}(jL:M.frames=some (O::m))(n4:O.frame=some aB)(o2:ah.heap.FunFrames E.heap (O::m))(et:∀b∈ci (O::m),b∉aw∧E.heap.get? b=none∧s.heap.get? b≠none∧∀T,¬ah.heap.IsTuple b T)
 (jF:iJ E (O::m) s aw ah.heap a b7) (cG:a' E aw av ah.heap) (g:bG D (ci (O::m)) W J s aw ah)
 (h:∀cC,a' E aw av cC->iJ E (O::m) s aw cC a b7->zr cC b7->bG D (ci (O::m)) W J s aw {ah with heap:=cC}->an () {ah with heap:=cC}):a9 cw M (F' (.ref b7) O) an aA ah:=by
 cases jF with |mk gN hm aM ka kH A d r=>
 have cJ:Ii E (O::m) s ah aw _ b7:=⟨gN,A.Bc,kH.symm⟩
 dsimp only[F']
 simp only[n4]
 have ch:=A
 cases ch with |mk ai c2 fc f6 q=>
 refine aE (vT ai f6 q ?_)
 cases r with
 |none=>
  exact Of (X:=[]) jL n4 et gN hm aM ka kH d cG g (λb ag=>gu.mp ag▸cJ) ⟨λb A o e=>.inl e,λb ag=>ag⟩ A o2 h
 | @be b1 tW tV b5 t=>
  have c9:=t
  cases c9 with | @mk ph em aC tT af4 tS BD=>
  refine aE (vT tT tS BD ?_)
  by_cases ET:(aC==fS aB)=true
  ·rw[if_pos ET]
   exact bj (h ah.heap cG (.mk gN hm aM ka kH A d (.be tW tV b5 t)) (.mk ai f6 q tV t) g)
  ·rw[if_neg ET]
   refine aE (BY tT tS (v2.mp BD).1 ?_)
   refine Of (X:=[b1]) jL n4 et gN hm aM ka kH d cG g (λb ag=>?_) (Off.one tT tS) (.mk ((my _ _ tV).trans ai) c2 fc f6 q) (o2.of_keeps λb A az aO=>bx A ((my _ _ λz=>?_).trans az) rfl) h
   ·rcases dU.mp ag with z |z
    ·exact z▸cJ
    ·exact gu.mp z▸⟨tW,t.Bc,b5⟩
   ·subst z;cases tT.symm.trans az;exact aO em tS
theorem Ae{an:Unit->ay->Prop}{fr:Option aa}(et:∀b∈ci m,b∉aw∧E.heap.get? b=none)
 (jF:iJ E m s aw ah.heap a b7) (cd:zr ah.heap b7) (cG:a' E aw av ah.heap) (g:bG D (ci m) W J s aw ah)
 (h:∀cC,a' E aw av cC->iJ E m s aw cC a b7->zr cC b7->bG D (ci m) W J s aw {ah with heap:=cC}->an () {ah with heap:=cC}):a9 cw M (setFlight (.ref b7) fr) an aA ah:=by
 cases jF with |mk gN hm aM ka kH A d r=>
 cases cd with | @mk _ _ b1 eu eK qE tG alC=>
 cases A with |mk ai c2 fc f6 q=>
 cases ai.symm.trans eu
 cases f6.symm.trans eK
 cases q.symm.trans qE
 cases r with |be tW tV b5 t=>
 have c9:=t
 cases c9 with | @mk ph em aC tT af4 tS BD=>
 refine aE (vT ai f6 q (BY tT tS (v2.mp BD).1 ?_))
 have off:=Off.one (bT:=ci m) (g:=(·.setIfInBounds 3 (fr.elim g0 λf=>fS f))) tT tS
 have h':∀b∈[b1],b∉aw∧E.heap.get? b=none∧∀fe,¬ah.heap.IsTuple b fe:=λb ag=>gu.mp ag▸⟨tW.nm,tW.xP,t.Bc⟩
 have bw:=(my ah.heap (mE (·.setIfInBounds 3 (fr.elim g0 λf=>fS f))) tV).trans ai
 exact h _ (off.P0 cG h' et) (.mk gN hm aM ka kH (.mk bw c2 fc f6 q) (off.KS (λag=>b5 (gu.mp ag).symm) ka.hU (λb ag=>(h' b ag).2.2) d) (.be tW tV b5 (t.put _))) (.mk bw f6 q tV (t.put _))
  (off.grow g (λb ag=>gu.mp ag▸tW.new) λb ag=>(et b ag).1)
theorem Yh{b:aa}(h:b∈ci m):b∈ci (O::m):=by
 unfold ci at h |-
 rw[y1]
 cases O.frame with
 |none=>exact h
 |some aB=>exact .tail _ h
theorem iJ.out{h:aV}(x:iJ E (O::m) s aw h a b7):iJ E m s aw h a b7:=x.map (λo w=>⟨w.new,w.xP,w.nm,λq=>w.hU (Yh q)⟩) λo r=>r
theorem mx.leave{an:Unit->ay->Prop}(jL:M.frames=some (O::m))(F:gM E J s.heap (O::m))(jF:mx E (O::m) s aw ah a e)(cG:a' E aw av ah.heap)(g:bG D (ci (O::m)) W J s aw ah)
 (h:∀cC,a' E aw av cC->mx E m s aw {ah with heap:=cC} a e->bG D (ci (O::m)) W J s aw {ah with heap:=cC}->an () {ah with heap:=cC}):a9 cw M (leaving O e) an aA ah:=by
 refine aU jF λb7 ah3 aC=>?_
 subst ah3
 refine dL (Es F g) λo2 et=>?_
 refine dL (F.each O (.head _)) λo ah4=>?_
 refine aU ah4 λaB n4 o=>?_
 refine aE (Ga jL n4 o2 et aC cG g λbF bt sT jo bK=>?_)
 exact Ae (ah:={ah with heap:=bF}) (λb ag=>⟨(et b ag).1,(et b ag).2.1⟩) sT jo bt bK λdb di Et gT dE=>h db di ⟨b7,rfl,Et.out⟩ dE
theorem mx.around{aA jY:ab->ay->Prop}(jL:M.frames=some (O::m))(F:gM E J s.heap (O::m))(jF:mx E (O::m) s aw ah a e)(cG:a' E aw av ah.heap)(g:bG D (ci (O::m)) W J s aw ah)
 (h:∀cC,a' E aw av cC->mx E (O::m) s aw {ah with heap:=cC} a e->bG D (ci (O::m)) W J s aw {ah with heap:=cC}->aA e {ah with heap:=cC}):
 a9 cw M (F' e O) (λo qG=>cameBackBy cw M O aA e qG) jY ah:=by
 refine ge λdT cD=>?_
 refine aU jF λb7 ah5 aC=>?_
 subst ah5
 refine dL (Es F g) λo2 et=>?_
 refine dL (F.each O (.head _)) λo ah6=>?_
 refine aU ah6 λaB n4 o=>?_
 refine cD ?_
 clear cD dT
 refine Ga jL n4 o2 et aC cG g λbF bt sT jo bK=>?_
 have c9:=jo
 cases c9 with |mk eu eK qE _ _=>
 refine aE (vT (s:={ah with heap:=bF}) eu eK qE ?_)
 exact Ae (ah:={ah with heap:=bF}) (λb ag=>⟨(et b ag).1,(et b ag).2.1⟩) sT jo bt bK λdb di Et gT dE=>h db di ⟨b7,rfl,Et⟩ dE
end
section
variable{D:Bool}{E:bM}{K:cb}{M:cv}{m:List bo}{W J:List aa}{s:ay}{names:List (I×b4)}{U:List (I×Nat)}{d:Nat}{O:bo}{C:aI}{l:St}{bp:aa->List L->St->ao L}{aA:ab->ay->Prop}
theorem er.weaken{bb:aI}{h:aV}(aB:er E U O J C h)(bS:∀(i:Nat)a,bb[i]? =some (some a)->C[i]? =some (some a)):er E U O J bb h:=
 ⟨aB.ns,aB.nm,λx i e=>aU (aB.val x i e) λv p q=>bx v p (λa ar=>q a (bS i a ar)),aB.apart,aB.pf,aB.m6⟩
theorem acz{scope:fa}{globals:aa}{jC:List (I×aa)}{Jt:List (I×ab)}{pk:I}{ry:Option aa}{code:ab}{around:Option bo}{builtins:aa}:
 A8 scope globals jC Jt pk ry code around builtins=(do
  let O <-A8 scope globals jC [] pk ry code around builtins
  let _ <-forIn Jt CO (λx o=>do ym O x.1 x.2;pure (pH CO))
  pure O):=by
 dsimp only[A8]
 simp only[bind_assoc,y4,pure_bind]
theorem P'(aM:O.scope.kind=.function)(bn:gJ U):∀(bs:List (I×ab))(Y:List L)(j:Nat)(C:aI)(s:ay)(an:PUnit->ay->Prop),
 (∀(k:Nat)p,bs[k]? =some p->U.lookup p.1=some (j+k)∧(O.kindOf p.1=some .local∨O.kindOf p.1=some .cell))->er E U O J C s.heap->a' E J l s.heap->br E J s.heap Y (bs.map (·.2))->j+Y.length<=C.length->
 (∀ae t bb,a' E J l ae->er E U O J bb ae->(∀(i:Nat)a,i<j->C[i]? =some (some a)->bb[i]? =some (some a))->(∀(k:Nat)a,Y[k]? =some a->bb[j+k]? =some (some a))->
  (∀b A,b∉fw U O->s.heap.get? b=some A->ae.get? b=some A)->(∀b N,s.heap.Ns b N->∃de,ae.Ns b de)->an ⟨⟩ {s with heap:=ae,toks:=t})->
 a9 (a1 aH w) M (forIn bs CO (λx o=>do ym O x.1 x.2;pure (pH CO))) an aA s
 |[],Y,j,C,s,an,ag,aB,S,r,aN,h=>by
  have:Y=[]:=by have:=r.length;exact y6.mp (by exact this.symm)
  subst this
  exact bj (h s.heap s.toks C S aB (λo o o e=>e) (λk a e=>by cases e) (λo o o e=>e) λb N e=>⟨N,e⟩)
 |(n,v):: bs,Y,j,C,s,an,ag,aB,S,r,aN,h=>by
  cases Y with
  |nil=>have:=r.nil_inv;simp at this
  |cons x Y=>
   refine eL (br.cons_inv r) λyx tX a8 eu eK=>?_
   simp only[iL,sq] at a8
   refine ge λdT cD=>?_
   obtain⟨rfl,rfl⟩:=a8
   refine dL (ag 0 (n,v) rfl) λMb az=>?_
   refine cD ?_
   clear cD dT
   simp only[ks] at aN
   rw[wk]
   refine aE (aE (G4 aM aB S bn Mb az eu _ λae t cG ju L8 aO hm gr xr=>bj ?_))
   have dP:fq E J J s.heap ae:=mi L8 xr
   refine P' aM bn bs Y (j+1) (C.set j (some x)) {s with heap:=ae,toks:=t} an (λk p e=>?_) ju cG (eK.mono dP _ _) (by simp only[la];exact b6 [_,_,_] 1 (.add (Ns al) ax) aT 1 (.add al (Ns ax)) aT rfl aN) λcC c9 bb sB Sa a3 a4 cI eV=>?_
   ·have:=ag (k+1) p (by exact e)
    refine(show j+1+k=j+(k+1) by exact Ix j k)▸?_;exact this
   ·refine h cC c9 bb sB Sa (λi a aR e=>a3 i a (by exact zb 1 aR) (by refine(k' (by exact sx (ho aR))).symm▸?_;exact e)) (λk a e=>?_) (λb A gQ e=>cI b A gQ ?_) λb N e=>?_
    ·cases k with
     |zero=>
      simp at e;subst e
      exact a3 j x (by exact Nat.lt_add_one j) (by rw[H7 (by exact CD aN)])
     |succ k=>
      refine(show j+(k+1)=j+1+k by exact sj (Ix j k))▸?_
      exact a4 k a (by simpa using e)
    ·have:b≠placeOf O n:=by rintro rfl;exact gQ (Bj Mb aB az)
     exact(L8.2 b this).trans e
    ·refine bz (gr b N e) λde cm=>?_
     exact eV b de cm
structure wc(K:cb)(f:aa)(aX:fV)(as:List hY)(body:List ey)(U:List (I×Nat)):Prop where
 at_:∃f7 cc f8,K.lookup f=some ⟨f7,cc,.func aX,f8⟩
 params:aX.params=⟨[],as,none,[],[],none,[]⟩
 dflt:aX.defaults=.none
 body:aX.body=.stmts body
 kind:aX.scope.kind=.function
 co:aX.scope.isCoroutine=false
 gen:aX.scope.isGenerator=false
 glob:aX.globals=gh
 blt:aX.builtins=sL
 code:codeIn K aX.code aX.qualname=true
 nodup:(as.map (·.arg)).Nodup
 VJ:aX.closure.all (λp=>K.lookup p.2 |>.isSome)=true
 VK:aX.closure.length<=1
 table:gJ U
 own:∀x i,U.lookup x=some i->aX.scope.names.lookup x=some .local∨(aX.scope.names.lookup x=some .cell∧(x,jw)∈aX.scope.names)
 cells:∀x,aX.scope.names.lookup x=some .cell->(x,jw)∈aX.scope.names
 slots:∀(k:Nat)(a:hY),as[k]? =some a->U.lookup a.arg=some k
def zp(E:bM)(D:Bool)(f:aa)(aX:fV)(U:List (I×Nat))(d:Nat)(body:List ey)(bU:aI->St->ao (dg×aI)):Prop:=
 ∀M m O J C l s,dN E aX.scope.names U d M (O::m) O J C l s->O.func=some f->O.code=aX.code->(∀x,¬(x,jw)∈aX.scope.names->O.cells.lookup x=aX.closure.lookup x)->bU C l≠.fail->
  _root_.PySem.wpAt (a1 aH w) M (.func body O) (sR body O) (lS E D (mJ E U O) (O::m) (fw U O) J s (bU C l)) (f' E D (O::m) (fw U O) J s (bU C l)) s
theorem mL.at {aX:fV}{f:aa}{body:List ey}{bU:aI->St->ao (dg×aI)}(ag:mL E D aX.scope.names U d body bU):zp E D f aX U d body bU:=
 λM m O J C l s P o o o aG=>Hu (ag M m O J C l s P aG)
theorem one_inj{x y:I}{c:aa}:∀{dx:List (I×aa)},dx.length<=1->dx.lookup x=some c->dx.lookup y=some c->x=y
 |[],_,e,_=>by cases e
 |[_],_,e,cm=>congrArg (·.1) ((gu.mp (mem_of_lookup e)).trans (gu.mp (mem_of_lookup cm)).symm)
 |_::_::r,h,_,_=>absurd h (Nat.not_le_of_lt (Nat.succ_lt_succ (S1 _)))
theorem vh{h ae:aV}(k:h.StaysIn ae){a:aa}(e:ae.get? a=none):h.get? a=none:=by
 cases q:h.get? a with
 |none=>rfl
 |some A=>cases (k a A q).symm.trans e
theorem Nh{h ae:aV}(k:∀b A,h.get? b=some A->ae.get? b=some A){a:aa}(e:h.get? a≠none):ae.get? a≠none:=λq=>e (vh k q)
theorem F7{n i:Nat}{a:L}(h:(ku n (none:Option L))[i]? =some (some a)):False:=by
 rw[List.getElem?_replicate] at h
 by_cases q:i<n
 ·rw[if_pos q] at h;nomatch h
 ·rw[if_neg q] at h;nomatch h
theorem ae8{Y:List L}{n i:Nat}{a:L}(h:(Y.map some++ku n none)[i]? =some (some a)):Y[i]? =some a:=by
 rw[Sl] at h
 by_cases q:i<(Y.map some).length
 ·rw[if_pos q,h1] at h
  refine aU (hL.mp h) λb e z=>?_
  cases z;exact e
 ·rw[if_neg q] at h;exact(F7 h).elim
section
variable{f:aa}{aX:fV}{as:List hY}{body:List ey}{n:Nat}{bF db:aV}{dx:List (I×aa)}
theorem mD.kindOf(dD:mD aX.scope dx s O bF)(x:I):O.kindOf x=aX.scope.names.lookup x:=by unfold pG;rw[dD.GS]
theorem abS(aW:wc K f aX as body U)(dD:mD aX.scope dx s O bF)(S:a' E J l s.heap):er E U O J (ku n none) bF where
 ns:=⟨_,dD.ns⟩
 nm:=λh=>S.there _ h dD.loc
 val:=λx i e=>(aW.own x i e).elim (λh=>⟨none,.ns ((dD.kindOf x).trans h) _ dD.ns rfl,λa ar=>(F7 ar).elim⟩)
  λh=>ij (dD.cell x h.2) λc ai o o c2=>⟨none,.cell (.inl ((dD.kindOf x).trans h.1)) c ai c2,λa ar=>(F7 ar).elim⟩
 apart:=dD.inj
 pf:=vh S.base dD.loc
 m6:=λx c aM aK=>ij (dD.cell x (aW.cells x ((dD.kindOf x).symm.trans aM))) λdd ai am o o=>dq (ai.symm.trans aK)▸vh S.base am
theorem adi(aW:wc K f aX as body U)(dD:mD aX.scope dx s O bF):∀a∈fw U O,s.heap.get? a=none:=λa ar=>by
 rcases dU.mp ar with rfl |ar
 ·exact dD.loc
 ·refine aU (wq.mp ar) λz aL q=>?_
  obtain⟨x,i⟩:=z
  dsimp only at q
  split at q
  ·rename_i aM
   exact ij (dD.cell x (aW.cells x ((dD.kindOf x).symm.trans aM))) λc ai am o o=>dq (ai.symm.trans q)▸am
  ·cases q
theorem bG.out{aw:List aa}{ah:ay}{t:Nat}(aO:∀a∈fw U O,s.heap.get? a=none)(aN:s.heap.get? O.locals=none)(jL:O.frame=some O.locals)(k:∀b A,s.heap.get? b=some A->db.get? b=some A)
 (g:bG D (ci (O::m)) (fw U O) J {s with heap:=db,toks:=t} aw ah):bG D (ci m) [] J s aw ah where
 ext:=aU g.ext λhl a3 a4=>⟨hl,a3,λa ar=>vh (ae:=db) k (a4 a ar)⟩
 keep:=λb A ag o e=>(g.keep b A ag (λhm=>by cases (aO b hm).symm.trans e) (k b A e)).imp id λq=>⟨by
  have b0:=q.1
  unfold ci at b0 |-
  rw[y1,jL] at b0
  exact(dU.mp b0).resolve_left λz=>(by cases aN.symm.trans (z▸e)),q.2⟩
 live:=λa ar=>g.live a (Nh (ae:=db) k ar)
 same:=g.same
 lp:=λdy a ar A af a0 e hd=>g.lp dy a ar A af a0 (k a A e) hd
 lv:=λa N hm e=>g.lv a N hm (tw e (k a))
theorem ado(aW:wc K f aX as body U)(dD:mD aX.scope dx s O bF){T:List ab}(k:Nat)(p:I×ab)(e:((as.map (·.arg)).zip T)[k]? =some p):U.lookup p.1=some (0+k)∧(O.kindOf p.1=some .local∨O.kindOf p.1=some .cell):=by
 rw[H8,h1] at e
 refine aU (hL.mp e.1) λa ar YL=>?_
 have h:=aW.slots k a ar
 rw[YL] at h
 rw[dD.kindOf,nD]
 exact⟨h,(aW.own _ _ h).imp id (·.1)⟩
theorem adK{t:Nat}(R:wE (d+1) M m)(F:gM E J s.heap m)(dJ:h0 aX.scope.names O)(jL:O.frame=some O.locals)(bQ:E.heap.get? O.locals=none)(aM:∀b A,s.heap.get? b=some A->db.get? b=some A)(aB:er E U O J C db)(S:a' E J l db):
 dN E aX.scope.names U d (M.deeper O) (O::m) O J C l {s with heap:=db,toks:=t}:=by
 refine⟨⟨R.a8,?_,?_,?_⟩,dJ,aB,S,⟨λcm xj=>?_⟩⟩
 ·show M.depth+1+5*d+3<600;have:=R.depth;exact b6 [_,_] 1 (Ns (.add (.add (Ns al) (.mulL 5 ax)) (.num 3))) (.num 600) 1 (Ns (.add al (.mulL 5 (Ns ax)))) (.num 600) rfl this
 ·show M.units+3+40*d+420<hO;have:=R.units;exact b6 [_,_,_] 1 (Ns (.add (.add (.add al (.num 3)) (.mulL 40 ax)) (.num 420))) aT 1 (Ns (.add (.add al (.mulL 40 (Ns ax))) (.num 400))) aT rfl this
 ·show M.frames.map (O :: ·)=_;rw[R.frames];rfl
 ·rcases dU.mp xj with rfl |xj
  ·exact⟨(by rw[dJ.kind];intro h;cases h),cm.locals,jL,bQ,aB.nm,aB.ns⟩
  ·exact dL (F.each cm xj) λcF z=>ij z λaB cz g9 rL z=>bz z λN iX=>⟨cF,aB,cz,g9,rL,N,iX.keeps aM⟩
end
theorem JC{f:aa}{aX:fV}{as:List hY}{body:List ey}{n:Nat}{bU:aI->St->ao (dg×aI)}(Z:ef K E)(aW:wc K f aX as body U)
 (ag:zp E D f aX U d body bU) (Y:List L) (l:St) (aO:as.length<=n):
 i5 E D (d+1) f Y l (if Y.length=as.length then
  (bU (Y.map some++ku (n-as.length) none) l).bind λp ak=>.ok (p.1.go .none id) ak
  else .fail):=λM m J s T R S F cL=>by
 by_cases dW:Y.length=as.length
 ·rw[if_pos dW]
  intro aG
  refine sc aW.at_ λf7 cc f8 iy=>?_
  have X:=Z.X.keeps S.base
  have Mf:T.length=as.length:=cL.length.trans dW
  refine codeAny_call_function (fd:=aX) (body:=body) (by have:=R.depth;simp only[show vw=1000 from rfl];exact b6 [_,_] 1 (Ns al) (.num 1000) 1 (Ns (.add al (.mulL 5 (Ns ax)))) (.num 600) rfl this) (X _ _ iy) rfl aW.co aW.gen aW.body (codeRec_of X aW.code) ?_
  refine(Js aW.params aW.dflt aW.nodup Mf)▸?_
  refine bj ?_
  refine acz▸?_
  refine aE (NU (λx y c=>one_inj aW.VK) (λx c e=>bz (zh.mp (i8.mp aW.VJ (x,c) (mem_of_lookup e))) λA az=>eF (X _ _ az)) λO bF dD bw=>?_)
  have dJ:h0 aX.scope.names O:=⟨by rw[dD.GS];exact aW.kind,by rw[dD.GS],by rw[bw];exact aW.glob,by rw[bw];exact aW.blt⟩
  have bt:a' E J l bF:=S.more dD.keep
  have aZ:((as.map (·.arg)).zip T).map (·.2)=T:=by rw[Sv];simp[Mf]
  refine aE (P' dJ.kind aW.table ((as.map (·.arg)).zip T) Y 0 (ku n none) _ _ (ado aW dD) (abS aW dD S) bt (by rw[aZ];exact cL.mono (.of (λo o e=>e) dD.keep) _ _) (by simp;exact le_of_eq_of_le dW aO) λdb t bb di sv a3 a4 cI eV=>bj ⟨Z.lim.keeps di.base,ks_codeAny_funcAt ?_⟩)
  have SG:er E U O J (Y.map some++ku (n-as.length) none) db:=sv.weaken λi a aR=>by
   have:=a4 i a (ae8 aR)
   rwa [nD] at this
  have jL:O.frame=some O.locals:=by rw[bw];rfl
  have rE:=adi aW dD
  have xD:∀b A,s.heap.get? b=some A->db.get? b=some A:=λb A e=>cI b A (λhm=>by cases (rE b hm).symm.trans e) (dD.keep b A e)
  have P:=adK (t:=t) R F dJ jL (vh S.base dD.loc) xD SG di
  refine ks_wpAt_mono (ag _ _ _ _ _ _ _ P (by rw[bw];rfl) (by rw[bw];rfl) dD.old λaZ=>by rw[aZ] at aG;exact aG rfl) (λf ah p=>?_) λe ah p=>?_
  ·cases p with |mk a av e aw cG r g=>
   rw[e]
   cases r with
   |next=>exact⟨.none,av,rfl,aw,cG,rfl,g.out rE dD.loc jL xD⟩
   |ret aB r=>exact⟨_,av,rfl,aw,cG,r,g.out rE dD.loc jL xD⟩
  ·obtain⟨a,av,q,aw,cG,jF,g⟩:=p
   refine mx.leave (by rw[P.room.frames]) P.fr jF cG g λcC sB w1 fB=>?_
   rw[q]
   exact⟨a,av,rfl,aw,sB,w1.back λb ag=>Nh (ae:=db) xD ag,fB.out rE dD.loc jL xD⟩
 ·rw[if_neg dW]
  exact λaG=>absurd rfl aG
end
def Quiet(E:bM)(bV:List aa)(h ae:aV):Prop:=(∀b A,b∉bV->h.get? b=some A->ae.get? b=some A)∧∀a,E.cP a->(∃T,h.IsTuple a T)->∃T,ae.IsTuple a T
structure HI(A:cV):Prop where
 notDict:∀af a0,A.data≠.dict af a0
 Oe:∀v,A.data≠.cell v
def fE(E:bM)(bV:List aa)(h:aV):Prop:=∀a∈bV,∃A,h.get? a=some A∧HI A∧(A.cls≠.type "tuple"∨E.cP a)
section
variable(E:bM)(D:Bool)(M:cv)(bT bV:List aa)(bg:Expr)(it:ab)(g:Option (Nat×aQ))
def IS(ap:List aa->ay->Prop)(a:L)(J:List aa)(s:ay)(aA:ab->ay->Prop)(an:Option ab->ay->Prop):Prop:=
 ∀v bF jo,Quiet E bV s.heap bF->
  (∀(ir:Unit->ay->Prop),(∀db gT,Quiet E bV s.heap db->fE E bV db->bf E J db a v->
   (∀W aw av ah,(∀b∈bV,b∉W)->(∀a∈W,∀T,¬db.IsTuple a T)->a' E aw av ah.heap->bG D bT W J {s with heap:=db,toks:=gT} aw ah->gP av g=true->ap aw ah)->
   ir () {s with heap:=db,toks:=gT})->
   a9 (a1 aH w) M (FH bg it v) ir aA {s with heap:=bF,toks:=jo})->
  an (some v) {s with heap:=bF,toks:=jo}
noncomputable def jZ:List L->List aa->ay->Prop
 |[],J,s=>∀(an:Option ab->ay->Prop)(aA:ab->ay->Prop),(∀ae t,Quiet E bV s.heap ae->an none {s with heap:=ae,toks:=t})->a9 (a1 aH w) M (jk it) an aA s
 |a::r,J,s=>∀(an:Option ab->ay->Prop)(aA:ab->ay->Prop),IS E D M bT bV bg it g (jZ r) a J s aA an->a9 (a1 aH w) M (jk it) an aA s
end
section
variable{D:Bool}{E:bM}{K:cb}{M:cv}{m:List bo}{W J bT:List aa}{s:ay}{l:St}{aA:ab->ay->Prop}{bg:Expr}
noncomputable def Gh:List String:=["enumerate","zip","dict_itemiterator","dict_reverseitemiterator","odict_iterator","itertools.zip_longest","itertools.pairwise"]
theorem abF{cw:pN}{aW:aa}{A:cV}{b1:String}{v:ab}{an:Unit->ay->Prop}(az:s.heap.get? aW=some A)(aK:A.cls=.type b1)(aO:Gh.contains b1=false)(h:an () s):
 a9 cw M (FH bg (.ref aW) v) an aA s:=by
 have body:a9 cw M (do
  let (.ref r,.ref a):=((hq aW,v):ab×ab)| return
  let A <-load r
  match A.cls,A.data with
  |.type n,.fields T=>
   if Gh.contains n&&T[0]?==some (fS a) then
    rule "for.unpacks-the-owned-tuple"
    updateField r 0 .none
  |_,_=>pure ():dh Unit) an aA s:=by
  cases v <;> first |exact bj h |skip
  refine aE (Ho az ?_)
  refine aK▸?_
  cases A.data <;> first |exact bj h |skip
  dsimp only
  refine aO▸?_
  exact bj h
 cases bg <;> first |exact bj h |exact body
theorem Quiet.of_same{aW:aa}{h ae:aV}(x:hw aW h ae)(fz:∀T,¬h.IsTuple aW T):Quiet E [aW] h ae:=
 ⟨λb A ag e=>(x.2 b (by rintro rfl;simp at ag)).trans e,λa _⟨T,A,az,r⟩=>⟨T,A,(x.2 a (by rintro rfl;exact fz T ⟨A,az,r⟩)).trans az,r⟩⟩
theorem Quiet.vk{aW:aa}{h ae:aV}(x:RV aW h ae)(fz:∀T,¬h.IsTuple aW T):Quiet E [aW] h ae:=
 ⟨λb A ag e=>x b A (by rintro rfl;simp at ag) e,λa _⟨T,A,az,r⟩=>qx T A (x a A (by rintro rfl;exact fz T ⟨A,az,r⟩) az) r⟩
theorem bG.iter{aw:List aa}{ah:ay}{aW:aa}{A:cV}(g:bG D bT W J s aw ah)(hm:aW∉J)(bS:aW∉W)(aG:aW∉bT)(e:s.heap.get? aW=some A):ah.heap.get? aW=some A:=
 (g.keep aW A hm bS e).resolve_right λh=>aG h.1
theorem Bm{aW:aa}{h ae:aV}(q:Quiet E [aW] h ae)(du:∀T,¬h.IsTuple aW T):fq E J J h ae:=
 ⟨λo o e=>e,λa T _⟨A,az,r⟩=>bx A (q.1 a A (by simp;rintro rfl;exact du T ⟨A,az,r⟩) az) r⟩
theorem fE.one{h:aV}{aW:aa}{A:cV}{b1:String}{T:Array ab}(az:h.get? aW=some A)(aK:A.cls=.type b1)(hd:A.data=.fields T)(aO:b1≠"tuple"):fE E [aW] h:=λa ar=>by
 simp at ar;subst ar;exact fK A az ⟨λo o q=>(by replace q:=hd▸q;cases q),λo q=>(by replace q:=hd▸q;cases q)⟩ (.inl (by refine aK▸?_;intro q;(injection q with q;subst q);exact aO rfl))
theorem ti{h:aV}{aW:aa}{A:cV}{b1:String}(az:h.get? aW=some A)(aK:A.cls=.type b1)(aO:b1≠"tuple")(T:Array ab):¬h.IsTuple aW T:=λz=>cr z λch eA gq o=>by
 cases az.symm.trans eA
 cases aK.symm.trans gq
 exact aO rfl
theorem AY{h:aV}{aW fs:aa}{i:Nat}(x:h.IsListIter aW fs i)(T:Array ab):¬h.IsTuple aW T:=cr x λA az aK o=>ti az aK (by decide) T
theorem uB{α:Type}{Y:List α}{i:Nat}{a:α}{r:List α}(h:Y.drop i=a::r):Y[i]? =some a∧Y.drop (i+1)=r:=by
 constructor
 ·have:=congrArg List.head? h
  rw[List.head?_drop] at this;simpa using this
 ·have:=congrArg List.tail h
  rw[List.tail_drop] at this;simpa using this
theorem afP{x:I}{c:Nat}(kf:fy x=true)(aK:c∈x.cps.toList):fy ⟨#[c]⟩=true:=by
 dsimp only[fy] at kf |-
 rw[<-Array.all_toList,i8] at kf |-
 intro y bD
 simp at bD;subst bD
 exact kf _ aK
theorem a'.quiet{aW:aa}{h ae:aV}(S:a' E J l h)(q:Quiet E [aW] h ae)(du:aW∉J)(bQ:E.heap.get? aW=none)(aO:∀T,¬h.IsTuple aW T):a' E J l ae:=
 S.FF (λb hm A e=>q.1 b A (by simp;rintro rfl;exact du hm) e) (Bm (E:=E) (J:=J) q aO).tup q.2 λb A e=>q.1 b A (by simp;rintro rfl;rw[bQ] at e;cases e) (S.base b A e)
theorem wZ{aW:aa}{A ch:cV}{b1:String}{T:Array ab}{a:L}{r:List L}{g:Option (Nat×aQ)}{v:ab}{ae:aV}{t:Nat}{an:Option ab->ay->Prop}(S:a' E J l s.heap)(aP:hw aW s.heap ae)(ZR:s.heap.get? aW=some ch)(YX:ch.cls=.type b1)
 (az:ae.get? aW=some A) (aK:A.cls=.type b1) (hd:A.data=.fields T) (aO:b1≠"tuple") (bS:Gh.contains b1=false) (du:aW∉J) (aG:aW∉bT) (bQ:E.heap.get? aW=none) (cL:bf E J s.heap a v)
 (next:∀aw av ah,a' E aw av ah.heap->fq E J aw s.heap ah.heap->(∀b cc af a0,b∈J->s.heap.get? b=some cc->cc.data=.dict af a0->D=true->ah.heap.get? b=some cc∧b∈aw)->ah.heap.get? aW=some A->aW∉aw->gP av g=true->jZ E D M bT [aW] bg (.ref aW) g r aw ah)
 (h:IS E D M bT [aW] bg (.ref aW) g (jZ E D M bT [aW] bg (.ref aW) g r) a J s aA an):an (some v) {s with heap:=ae,toks:=t}:=
 have fz:=ti ZR YX aO
 have q:Quiet E [aW] s.heap ae:=.of_same aP fz
 have dP:fq E J J s.heap ae:=Bm q fz
 h v ae t q λir k=>abF az aK bS (k ae t q (.one az aK hd aO) (cL.mono dP _ _) λW aw av ah bS Fh cG jI dR=>have k9:=jI.rM (S.quiet q du bQ fz) Fh
  next aw av ah cG ⟨λn b e=>k9.loc n b e,λb ej n e=>k9.tup b ej n (dP.tup b ej n e)⟩
   (λb cc af a0 ag e hd dy=>⟨jI.lp dy b ag cc af a0 ((aP.2 b λz=>du (z▸ag)).trans e) hd,aU jI.ext λhl z o=>z▸pL hl ag⟩) (jI.iter du (bS aW (.head _)) aG az) (jI.mj (λz=>c1 az z) du) dR)
theorem Jn{h:aV}{Y:List L}{T:Array ab}{i:Nat}(r:br E J h Y T.toList)(e:Y.drop i=[]):T[i]? =none:=v1 (by rw[<-t2,r.length];exact Cq.mp e)
theorem XU(a8:M.handled=none){n:Nat}{Y:List L}{aW fs:aa}(aG:aW∉bT)(bQ:E.heap.get? aW=none)(r:List L):∀(i:Nat)(J:List aa)(l:St)(s:ay),a' E J l s.heap->gP l (some (n,.list Y))=true->Y.drop i=r->J[n]? =some fs->
 s.heap.IsListIter aW fs i->aW∉J->jZ E D M bT [aW] bg (.ref aW) (some (n,.list Y)) r J s:=by
 induction r with
 |nil=>exact λi J l s S g ba hm hit du an aA h=>cr (S.obj n fs _ hm (of_decide_eq_true g)) λT cZ o cL=>cr hit λA az aK o=>Q7 a8 hit cZ.isList (Jn cL ba) λae bw=>h ae s.toks (.vk bw (ti az aK (by decide)))
 |cons a r aJ=>exact λi J l s S g ba hm hit du an aA h=>cr (S.obj n fs _ hm (of_decide_eq_true g)) λT cZ o cL=>dL (uB ba) λar l'=>aU (cL.get ar) λv ck eu=>cr hit λA az aK o=>Q8 hit cZ.isList (lK.symm.trans ck) λae ke aP=>cr ke λch eA gq hd=>wZ S aP az aK eA gq hd (by decide) rfl du aG bQ eu (λaw av ah cG K o q kM dR=>aJ (i+1) aw av ah cG dR l' (K.loc _ _ hm) ⟨ch,q,gq,hd⟩ kM) h
theorem XX(a8:M.handled=none){Y:List L}{aW fs:aa}{T:List ab}(F1:¬E.cP fs)(aG:aW∉bT)(bQ:E.heap.get? aW=none)(r:List L):∀(i:Nat)(J:List aa)(l:St)(s:ay),a' E J l s.heap->Y.drop i=r->br E J s.heap Y T->s.heap.IsTuple fs T.toArray->
 s.heap.IsTupleIter aW fs i->aW∉J->jZ E D M bT [aW] bg (.ref aW) none r J s:=by
 induction r with
 |nil=>exact λi J l s S ba cL bn hit du an aA h=>cr hit λA az aK o=>wpAny_pyNext_tuple_end a8 hit bn (Jn (T:=T.toArray) cL ba) λae bw=>h ae s.toks (.vk bw (ti az aK (by decide)))
 |cons a r aJ=>exact λi J l s S ba cL bn hit du an aA h=>dL (uB ba) λar l'=>aU (cL.get ar) λv ck eu=>cr hit λA az aK o=>wpAny_pyNext_tuple_item hit bn (Sq.trans ck) λae ke aP=>cr ke λch eA gq hd=>wZ S aP az aK eA gq hd (by decide) rfl du aG bQ eu (λaw av ah cG K o q kM o=>aJ (i+1) aw av ah cG l' (cL.mono K _ _) (K.tup _ _ F1 bn) ⟨ch,q,gq,hd⟩ kM) h
theorem XV(a8:M.handled=none){aW:aa}(aG:aW∉bT)(bQ:E.heap.get? aW=none)(k:Nat):∀(a:Nat)(J:List aa)(l:St)(s:ay),a' E J l s.heap->R9 s.heap aW (a:Int) (k:Int) 1->aW∉J->
 jZ E D M bT [aW] bg (.ref aW) none ((List.range' a k).map λj=>L.int (j:Nat)) J s:=by
 induction k with
 |zero=>exact λa J l s S hit du an aA h=>wpAny_pyNext_range_end a8 hit (Int.natCast_nonpos_iff.mpr rfl) λae bw=>h ae s.toks (.vk bw (ti hit rfl (by decide)))
 |succ k aJ=>exact λa J l s S hit du an aA h=>wpAny_pyNext_range_item hit (Int.ofNat_succ_pos k) λae ke aP=>wZ S aP hit rfl ke rfl rfl (by decide) rfl du aG bQ (a:=.int (a:Nat)) ⟨_,rfl⟩ (λaw av ah cG o o q kM o=>aJ (a+1) aw av ah cG (by
  have a3:((a:Int)+ 1)=((a+1:Nat):Int):=Int.ofNat_add_one_out a
  have a4:(((k+1:Nat):Int)- 1)=(k:Int):=Int.sub_eq_iff_eq_add.mpr rfl
  rw[a3,a4] at q
  exact q) kM) h
theorem MS{it d:aa}{i n a0:Nat}{cc:cV}{af:Array iI}{cW:iI}{an:Option ab->ay->Prop}(hit:s.heap.IsKeyIter it d i n a0)(gF:s.heap.get? d=some cc)(gC:cc.data=.dict af a0)(aO:af.size=n)(aD:af[i]? =some cW)
 (cY:∀ae,ae.IsKeyIter it d (i+1) n a0->hw it s.heap ae->an (some cW.key) {s with heap:=ae}):a9 (a1 aH w) M (jk (.ref it)) an aA s:=by
 refine cr (id hit) λA az aK hd=>?_
 have iz:i<af.size:=(v2.mp aD).1
 refine aE (BR (QX (name:=pT "__next__") hit.typeIs PySem.F.slot_dict_keyiterator_next
  (oo PySem.F.slot_dict_keyiterator_next hit.typeIs PySem.F.entry_dict_keyiterator_next ?_ (PySem.F.args_dict_keyiterator_next_1 _))))
 refine aE (bj (aE (aE (aE (Ht hit.typeIs (bj (aE (Q0 az hd ?_))))))))
 have rF:Rz "dict_keyiterator"=false:=rfl
 refine(?_:a9 _ _ (if (hq d==g0)=true then _ else _) _ _ s)
 refine aE (bj (aE (BS gF gC ?_)))
 rw[if_neg (by refine(aO).symm▸?_;simp)]
 refine aE (bj (aE (Hn gF gC ?_)))
 rw[if_neg (by simp)]
 refine bj ?_
 simp only[show ¬((i:Int)< 0) from by exact R7 i,if_false,wf,aD]
 refine aE ?_
 refine aE (Ht hit.typeIs (bj ?_))
 refine aE (ahy hit.typeIs ?_)
 refine(?_:a9 _ _ (r0 (.ref it) 1 (fS ((i:Int)+ 1))>>= _) _ _ s)
 refine aE (BY az hd (by simp) ?_)
 have ke:(s.heap.update it (mE (·.setIfInBounds 1 (fS ((i:Int)+ 1))))).IsKeyIter it d (i+1) n a0:=
  ⟨_,nz _ az (CI (wz hd _)),(IA ..).trans aK,by rw[wz hd];rfl⟩
 refine aE (gL ?_)
 refine aE (ahy (s:={s with heap:=s.heap.update it (mE (·.setIfInBounds 1 (fS ((i:Int)+ 1))))}) ke.typeIs ?_)
 exact bj (bj ⟨_,rfl,bj (cY _ ke (sl ..))⟩)
theorem MR{it d:aa}{i n a0:Nat}{cc:cV}{af:Array iI}{an:Option ab->ay->Prop}(a8:M.handled=none)(hit:s.heap.IsKeyIter it d i n a0)(gF:s.heap.get? d=some cc)(gC:cc.data=.dict af a0)(aO:af.size=n)(aD:af.size<=i)
 (cY:∀ae,RV it s.heap ae->an none {s with heap:=ae}):a9 (a1 aH w) M (jk (.ref it)) an aA s:=by
 refine cr (id hit) λA az aK hd=>?_
 refine aE (BR (QX (name:=pT "__next__") hit.typeIs PySem.F.slot_dict_keyiterator_next
  (oo PySem.F.slot_dict_keyiterator_next hit.typeIs PySem.F.entry_dict_keyiterator_next ?_ (PySem.F.args_dict_keyiterator_next_1 _))))
 refine aE (bj (aE (aE (aE (Ht hit.typeIs (bj (aE (Q0 az hd ?_))))))))
 have rF:Rz "dict_keyiterator"=false:=rfl
 refine(?_:a9 _ _ (if (hq d==g0)=true then _ else _) _ _ s)
 refine aE (bj (aE (BS gF gC ?_)))
 rw[if_neg (by refine(aO).symm▸?_;simp)]
 refine aE (bj (aE (Hn gF gC ?_)))
 rw[if_neg (by simp)]
 refine bj ?_
 simp only[show ¬((i:Int)< 0) from by exact R7 i,if_false,wf,v1 aD]
 refine aE ?_
 refine aE (Ht hit.typeIs (bj ?_))
 refine(?_:a9 _ _ (r0 (.ref it) 0 .none >>= _) _ _ s)
 refine aE (BY az hd (by simp) ?_)
 show a9 _ _ (F2 (.type "StopIteration") []>>= _) _ _ _
 refine aE ?_
 refine aE (nl ?_ (by size_fits))
 refine aE (m:=Em _ _) (sa (a:=g0) (by first |rfl |(simp only[Em];rfl)) ?_)
 refine nl ?_ (by size_fits)
 refine aE (ahx ?_)
 refine(show M.in1.handled=none from a8).symm▸?_
 refine aE (bj (ahL ?_))
 refine aE (BU (T:="StopIteration") (b:=true) ⟨_,eS _ rfl,rfl⟩ aa6 ?_)
 exact bj (cY _ (((sl ..).extBut.push _).push _))
theorem MQ{d a0:Nat}{cc:cV}{af:Array iI}{an:ab->ay->Prop}(hd:(d==on)=false)(gF:s.heap.get? d=some cc)(aK:cc.cls=.type "dict")(gC:cc.data=.dict af a0)
 (cY:an (.ref s.heap.objs.size) {s with heap:=s.heap.push {cls:=.type "dict_keyiterator",data:=.fields #[.ref d,.int 0 0,.int af.size 0,.int a0 0]}}):a9 (a1 aH w) M (ly (.ref d)) an aA s:=by
 have d4:s.TypeIs (.ref d) "dict":=bx cc gF aK
 refine Q6 d4 PySem.F.slot_dict_iter (oo PySem.F.slot_dict_iter d4 PySem.F.entry_dict_iter ?_ (PySem.F.args_dict_iter_1 _))
 refine aE ?_
 refine aE (Hq d4 ?_)
 refine(?_:a9 _ _ (pure (hq d)) _ _ s)
 refine bj ?_
 refine(?_:a9 _ _ (HL d >>= _) _ _ s)
 unfold HL
 rw[if_neg (by refine hd▸?_;exact Ca)]
 refine aE (bj (aE (BS gF gC (aE (Hn gF gC ?_)))))
 exact aE (nl (bj ⟨_,rfl,"dict_keyiterator",_,⟨_,eS _ rfl,rfl⟩,PySem.F.slot_dict_keyiterator_next.lookup,cY⟩))
theorem XT(dy:D=true)(a8:M.handled=none){aW d a0:Nat}{cc:cV}{af:Array iI}{Y:List L}{g:Option (Nat×aQ)}(gC:cc.data=.dict af a0)(aN:af.size=Y.length)(aG:aW∉bT)(bQ:E.heap.get? aW=none)(r:List L):∀(i:Nat)(J:List aa)(l:St)(s:ay),a' E J l s.heap->Y.drop i=r->
 (∀(j:Nat)a,Y[j]? =some a->∃cW,af[j]? =some cW∧bf E J s.heap a cW.key)->s.heap.get? d=some cc->d∈J->
 s.heap.IsKeyIter aW d i af.size a0->aW∉J->jZ E D M bT [aW] bg (.ref aW) g r J s:=by
 induction r with
 |nil=>exact λi J l s S ba aM gF hm hit du an aA h=>cr hit λA az aK o=>MR a8 hit gF gC rfl (aN▸Cq.mp ba) λae bw=>h ae s.toks (.vk bw (ti az aK (by decide)))
 |cons a r aJ=>exact λi J l s S ba aM gF hm hit du an aA h=>dL (uB ba) λar l'=>aU (aM i a ar) λcW xk eu=>cr hit λA az aK o=>MS hit gF gC rfl xk λae ke aP=>cr ke λch eA gq hd=>wZ S aP az aK eA gq hd (by decide) rfl du aG bQ eu (λaw av ah cG K eX q kM o=>aJ (i+1) aw av ah cG l' (λj b ag=>aU (aM j b ag) λD8 a3 a4=>bx D8 a3 (a4.mono K _ _)) (eX d cc af a0 hm gF gC dy).1 (eX d cc af a0 hm gF gC dy).2 ⟨ch,q,gq,hd⟩ kM) h
theorem XW(a8:M.handled=none){x:I}{t:j3}{aW:aa}(kf:fy x=true)(aG:aW∉bT)(bQ:E.heap.get? aW=none)(r:List Nat):∀(i:Nat)(J:List aa)(l:St)(s:ay),a' E J l s.heap->x.cps.toList.drop i=r->
 s.heap.IsStrIter aW "str_ascii_iterator" x t i->aW∉J->jZ E D M bT [aW] bg (.ref aW) none (r.map λc=>L.str ⟨#[c]⟩) J s:=by
 induction r with
 |nil=>exact λi J l s S ba hit du an aA h=>cr hit λA az aK o=>wpAny_pyNext_ascii_end a8 hit (v1 (Cq.mp ba)) λae bw=>h ae s.toks (.vk bw (ti az aK (by decide)))
 |cons c r aJ=>exact λi J l s S ba hit du an aA h=>dL (uB ba) λar l'=>cr hit λA az aK o=>wpAny_pyNext_ascii_item hit (lK.symm.trans ar) λae ke aP=>cr ke λch eA gq hd=>wZ S aP az aK eA gq hd (by decide) rfl du aG bQ (a:=.str ⟨#[c]⟩) ⟨⟨_,rfl⟩,afP kf (fG ar)⟩ (λaw av ah cG K eX q kM o=>aJ (i+1) aw av ah cG l' ⟨ch,q,gq,hd⟩ kM) h
structure Source(E:bM)(D:Bool)(M:cv)(m:List bo)(bg:Expr)(Y:List L)(g:Option (Nat×aQ))(J:List aa)(s:ay)(it:ab)(bV:List aa)(bF:aV):Prop where
 keep:∀b A,s.heap.get? b=some A->bF.get? b=some A
 new:∀a∈bV,s.heap.get? a=none
 mf:fE E bV bF
 Ac:∀aw av ah,a' E aw av ah.heap->(∀(n:Nat)a,J[n]? =some a->aw[n]? =some a)->(∀b A,bF.get? b=some A->ah.heap.get? b=some A)->(∀a∈bV,a∉aw)->gP av g=true->
  jZ E D M (ci m) bV bg it g Y aw ah
 self:∀(ah:ay)(an:ab->ay->Prop)(aA:ab->ay->Prop),(∀b A,bF.get? b=some A->ah.heap.get? b=some A)->an it ah->a9 (a1 aH w) M (ly it) an aA ah
theorem oZ{h:aV}(F:gM E J h m){a:aa}(ar:a∈ci m):h.get? a≠none:=by
 refine aU (wq.mp ar) λO bw aG=>?_
 refine dL (F.each O bw) λo ajG=>?_
 refine ij ajG λaB ai o o ajH=>?_
 refine yH ajH λN A af a0 az o=>?_
 replace ai:=aG▸ai;(obtain rfl:=dq ai)
 refine az▸?_;simp
theorem ab8{aw:List aa}(hm:∀(n:Nat)a,J[n]? =some a->aw[n]? =some a){a:aa}(h:a∈J):a∈aw:=by
 obtain⟨i,aR⟩:=pK h
 exact fG (hm i a aR)
theorem OE{x:I}{af:List iI}{bP:List (I×ab)}(p:q' (PySem.strKind aH w) af bP):∀(j:Nat),(bP.map (·.1))[j]? =some x->∃cW,af[j]? =some cW∧(PySem.strKind aH w).is x cW.key=true:=by
 induction p with
 |nil=>exact λj h=>by cases h
 |cons ai _ _ aJ=>exact λj=>CA j (λh=>by cases h;exact⟨_,rfl,ai⟩) aJ
theorem M'{α bq im qT:Type}{a:List α}{b:List bq}{f:α->im}{g:bq->im}{k:bq->qT}(e:a.map f=b.map g):a.length=(b.map k).length:=by rw[dC,<-dC (f:=f),e,dC]
theorem Ul{h:aV}{k:L}{v:ab}(e:uu k v=true):bf E J h k v:=by
 cases nN e with
 |int i t=>exact⟨t,rfl⟩
 |str x t aD=>exact⟨⟨t,rfl⟩,aD⟩
theorem aa9{h:aV}{k:List L}{T:List ab}(x:ItemsAre (lY) k T):br E J h k T:=by
 induction x with
 |nil=>exact .nil
 |cons ai _ aJ=>exact .cons (Ul ai) aJ
theorem G'{h:aV}{k cg:List L}{c:aa}(m5:¬E.cP c)(e:(BO (lY)).is h k c)(aN:k.length<=e7)(aM:k=cg):bf E J h (.tup cg) (.ref c):=by
 subst aM
 refine py e λA dm n az aK hd aR=>?_
 exact m3 c dm.toList rfl m5 ⟨A,az,aK,n,by exact hd⟩ (by refine aR.length▸?_;exact aN) (aa9 aR)
theorem Bu{Y:List L}{g:Option (Nat×aQ)}{A:cV}{b1:String}{T:Array ab}(S:a' E J l s.heap)(F:gM E J s.heap m)(aK:A.cls=.type b1)(hd:A.data=.fields T)(aO:b1≠"tuple")
 (aL:(s.heap.push A).get? s.heap.objs.size=some A)
 (Ac:s.heap.objs.size∉ci m->E.heap.get? s.heap.objs.size=none->∀aw av ah,a' E aw av ah.heap->(∀(n:Nat)a,J[n]? =some a->aw[n]? =some a)->(∀b A,s.heap.get? b=some A->ah.heap.get? b=some A)->ah.heap.get? s.heap.objs.size=some A->s.heap.objs.size∉aw->gP av g=true->jZ E D M (ci m) [s.heap.objs.size] bg (.ref s.heap.objs.size) g Y aw ah)
 (self:∀(ah:ay)(an:ab->ay->Prop)(aA:ab->ay->Prop),ah.heap.get? s.heap.objs.size=some A->an (.ref s.heap.objs.size) ah->a9 (a1 aH w) M (ly (.ref s.heap.objs.size)) an aA ah):
 Source E D M m bg Y g J s (.ref s.heap.objs.size) [s.heap.objs.size] (s.heap.push A) where
 keep:=λb ch e=>dM _ e
 new:=λa ar=>gu.mp ar▸hR
 mf:=.one aL aK hd aO
 Ac:=λaw av ah cG hm aM bS dR=>Ac (λhm=>oZ F hm hR) (zg.mpr λA e=>c1 (S.base _ A e) hR) aw av ah cG hm (λb ch e=>aM b ch (dM _ e)) (aM _ _ aL) (bS _ (.head _)) dR
 self:=λah an aA aM h=>self ah an aA (aM _ _ aL) h
theorem Kc{a:aa}{cc:cV}{af:Array iI}{a0:Nat}{Y:List L}{g:Option (Nat×aQ)}{an:ab->ay->Prop}(dy:D=true)(Z:ef K E)(S:a' E J l s.heap)(F:gM E J s.heap m)(a8:M.handled=none)(ar:a∈J)(gF:s.heap.get? a=some cc)(aK:cc.cls=.type "dict")(gC:cc.data=.dict af a0)
 (aN:af.size=Y.length) (aM:∀(j:Nat)b,Y[j]? =some b->∃cW,af[j]? =some cW∧bf E J s.heap b cW.key) (h:∀it bV bF,Source E D M m bg Y g J s it bV bF->an it {s with heap:=bF}):a9 (a1 aH w) M (ly (.ref a)) an aA s:=
 MQ (beq_eq_false_iff_ne.mpr λz=>Z.mods (z▸S.new _ ar)) gF aK gC (h _ _ _ (Bu S F rfl rfl (by decide) (eS _ rfl)
  (λhU tu aw av ah cG hm dz q du o=>XT dy a8 gC aN hU tu _ 0 aw av ah cG rfl (λj b ag=>aU (aM j b ag) λcW e r=>bx cW e (r.mono (.of hm dz) _ _)) (dz _ _ gF) (ab8 hm ar) ⟨_,q,rfl,rfl⟩ du)
  λah an aA q a7=>ahE (d:=a) (i:=0) (n:=af.size) (ep:=a0) ⟨_,q,rfl,rfl⟩ a7))
inductive wg(l:St):L->List L->Option (Nat×aQ)->Prop
 |tup {m:List L}:wg l (.tup m) m none
 |list {n:Nat} {m:List L} (e:l[n]? =some (.list m)):wg l (.loc n) m (some (n,.list m))
 |cj {n:Nat} {m:List (I×L)} (e:l[n]? =some (.cj m)):wg l (.loc n) (m.map λp=>.str p.1) (some (n,.cj m))
 |b5 {n:Nat} {m:List (List L×L)} (e:l[n]? =some (.b5 m)):wg l (.loc n) (m.map λp=>.tup p.1) (some (n,.b5 m))
theorem aa8{x:L}{Y:List L}{g:Option (Nat×aQ)}(e:dm l x=some (Y,g)):wg l x Y g:=by
 cases x with
 |tup m=>cases e;exact .tup
 |loc n=>
  dsimp only[dm] at e
  cases q:l[n]? with
  |none=>rw[q] at e;cases e
  |some A=>
   rw[q] at e
   cases A <;> cases e
   ·exact .list q
   ·exact .cj q
   ·exact .b5 q
 |_=>cases e
theorem aa'{x:L}{u:ab}{Y:List L}{g:Option (Nat×aQ)}(Z:ef K E)(S:a' E J l s.heap)(F:gM E J s.heap m)(a8:M.handled=none)(aD:bf E J s.heap x u)(e:dm l x=some (Y,g))
 (dy:jP g=true∨D=true) (an:ab->ay->Prop) (h:∀it bV bF,Source E D M m bg Y g J s it bV bF->an it {s with heap:=bF}):a9 (a1 aH w) M (ly u) an aA s:=by
 cases aa8 e with
 |tup=>
  refine k6 (qO aD) λa T z F1 bn aN cL=>?_
  subst z
  exact wpAny_pyIter_tuple bn (h _ _ _ (Bu S F rfl rfl (by decide) (eS _ rfl)
   (λhU tu aw av ah cG hm dz q du o=>XX a8 F1 hU tu Y 0 aw av ah cG rfl (cL.mono (.of hm dz) _ _) (aU bn λA az r=>bx A (dz a A az) r) ⟨_,q,rfl,rfl⟩ du)
   λah an aA q a7=>wpAny_pyIter_tupleiter (t:=a) (i:=0) ⟨_,q,rfl,rfl⟩ a7))
 | @list n _ g5=>
  refine aU (gK aD) λa ar z=>cr (S.obj n a _ ar g5) λT cZ aP cL=>?_
  subst z
  exact Q5 cZ.isList (h _ _ _ (Bu S F rfl rfl (by decide) (eS _ rfl)
   (λhU tu aw av ah cG hm dz q du dR=>XU a8 hU tu Y 0 aw av ah cG dR rfl (hm n a ar) ⟨_,q,rfl,rfl⟩ du)
   λah an aA q a7=>wpAny_pyIter_listiter (l:=a) (i:=0) ⟨_,q,rfl,rfl⟩ a7))
 | @cj n z g5=>
  refine aU (gK aD) λa ar y=>?_
  subst y
  obtain⟨bP,hd,hm,aN,r,ok⟩:=S.obj n a _ ar g5
  obtain⟨cc,af,a0,gF,s3,gC,s4,qk,uT⟩:=hd
  refine Kc (dy.resolve_left λz=>by cases z) Z S F a8 (fG ar) gF s3.1 gC (qk.length.trans (M' hm)) (λj b ag=>?_) h
  refine aU (h1▸ag |> hL.mp) λp aL ajJ=>?_
  subst ajJ
  refine aU (OE qk j (x:=p.1) (by rw[hm,h1,aL];rfl)) λcW ai am=>?_
  refine bx cW (lK.symm.trans ai) ?_
  refine bz (zs (show kD p.1 cW.key=true from am)) λt bn=>?_
  rw[bn]
  exact⟨⟨t,rfl⟩,ok p (fG aL)⟩
 | @b5 n z g5=>
  refine aU (gK aD) λa ar y=>?_
  subst y
  obtain⟨bP,hd,hm,aN,r,e1,EH⟩:=S.obj n a _ ar g5
  obtain⟨cc,af,a0,gF,s3,gC,s4,qk,uT⟩:=hd
  refine Kc (dy.resolve_left λz=>by cases z) Z S F a8 (fG ar) gF s3.1 gC ((GZ s4).trans (M' hm)) (λj b ag=>?_) h
  refine aU (h1▸ag |> hL.mp) λp aL ajI=>?_
  subst ajI
  have:=h1.symm.trans ((congrArg (·[j]?) hm).trans (h1.trans (congrArg _ aL)))
  refine aU (hL.mp this) λq a7 xs=>?_
  exact bx _ ((entry_at s4 j).trans (congrArg _ a7)) (G' (EH q (fG a7)) (qk q (fG a7)) (xs▸e1 p (fG aL)) xs)
theorem aba{x:L}{u:ab}{Y:List L}{g:Option (Nat×aQ)}(Z:ef K E)(S:a' E J l s.heap)(F:gM E J s.heap m)(a8:M.handled=none)(aD:bf E J s.heap x u)(e:ob l x=some (Y,g))
 (dy:jP g=true∨D=true) (an:ab->ay->Prop) (h:∀it bV bF,Source E D M m bg Y g J s it bV bF->an it {s with heap:=bF}):a9 (a1 aH w) M (ly u) an aA s:=by
 cases x with
 |str x=>
  by_cases ar:x.cps.all (· < 128)=true
  ·cases (if_pos ar).symm.trans e
   obtain⟨⟨t,rfl⟩,kf⟩:=jp aD
   exact wpAny_pyIter_ascii ar (h _ _ _ (Bu S F rfl rfl (by decide) (eS _ rfl)
    (λhU tu aw av ah cG hm dz q du o=>XW a8 kf hU tu _ 0 aw av ah cG rfl ⟨_,q,rfl,rfl⟩ du)
    λah an aA q a7=>wpAny_pyIter_striter_ascii (x:=x) (t:=t) (i:=0) ⟨_,q,rfl,rfl⟩ a7))
  ·cases (if_neg ar).symm.trans e
 |_=>exact aa' Z S F a8 aD e dy an h
end
inductive q5(names:List (I×b4))(U:List (I×Nat)):Nat->Expr->Prop
 |mk {x:I} {p:bu} {i:Nat} (h:U.lookup x=some i) (A:m1 names x=true):q5 names U i (.Name x p)
inductive hf(names:List (I×b4))(U:List (I×Nat)):List Nat->List Expr->Prop
 |nil:hf names U [] []
 |cons {i:Nat} {e:Expr} {is:List Nat} {af:List Expr} (h:q5 names U i e) (t:hf names U is af):hf names U (i::is) (e::af)
inductive h3(names:List (I×b4))(U:List (I×Nat)):e3->Expr->Prop
 |one {i:Nat} {e:Expr} (h:q5 names U i e):h3 names U (.one i) e
 |many {is:List Nat} {af:List Expr} {k:Nat} {p:bu} (h:hf names U is af):h3 names U (.many is) (.Tuple af k p)
noncomputable def idOf(e:Expr):I:=(akb e).getD ""
noncomputable def wW:Expr->List Expr
 |.Tuple af _ _=>af
 |e=>[e]
noncomputable def tv(O:bo)(e:Expr):aa:=placeOf O (idOf e)
noncomputable def lE(O:bo)(e:Expr):List aa:=(wW e).map (tv O)
section
variable{D:Bool}{E:bM}{K:cb}{M:cv}{m:List bo}{W J bT:List aa}{s:ay}{names:List (I×b4)}{U:List (I×Nat)}{d:Nat}{O:bo}{C:aI}{l:St}{bp:aa->List L->St->ao L}{aA:ab->ay->Prop}
theorem bG.wrote{h:aV}{t:Nat}(k:∀b A,b∉W->s.heap.get? b=some A->h.get? b=some A)(aN:∀b,s.heap.get? b≠none->h.get? b≠none)(hm:∀a∈W,a∉J)(gr:∀a N,s.heap.Ns a N->∃de,h.Ns a de):bG D bT W J s J {s with heap:=h,toks:=t}:=
 ⟨⟨[],(iK J).symm,hF⟩,λb A o bS e=>.inl (k b A bS e),aN,⟨rfl,rfl⟩,λo a ar A o o e o=>k a A (λq=>hm a q ar) e,λa N o e=>gr a N e⟩
structure mM(E:bM)(U:List (I×Nat))(O:bo)(J:List aa)(l:St)(W:List aa)(bb:aI)(h ae:aV):Prop where
 st:a' E J l ae
 lo:er E U O J bb ae
 keep:∀b A,b∉W->h.get? b=some A->ae.get? b=some A
 live:∀b,h.get? b≠none->ae.get? b≠none
 ns:∀b N,h.Ns b N->∃de,ae.Ns b de
 off:∀a∈W,a∉J
 tup:∀a∈W,∀T,¬h.IsTuple a T
theorem mM.grow{bb:aI}{ae:aV}{t:Nat}(x:mM E U O J l W bb s.heap ae):bG D bT W J s J {s with heap:=ae,toks:=t}:=.wrote x.keep x.live x.off x.ns
theorem mM.rM{bb:aI}{h ae:aV}(x:mM E U O J l W bb h ae):fq E J J h ae:=
 ⟨λo o e=>e,λa T _⟨A,az,r⟩=>bx A (x.keep a A (λq=>x.tup a q T ⟨A,az,r⟩) az) r⟩
theorem mM.cons{a:aa}{lI lJ:aI}{h bF db:aV}(x:mM E U O J l [a] lI h bF)(y:mM E U O J l W lJ bF db):mM E U O J l (a::W) lJ h db where
 st:=y.st
 lo:=y.lo
 keep:=λb A ag e=>y.keep b A (λq=>ag (.tail _ q)) (x.keep b A (λq=>ag (dU.mpr (.inl (gu.mp q)))) e)
 live:=λb e=>y.live b (x.live b e)
 ns:=λb N e=>bz (x.ns b N e) λde cm=>y.ns b de cm
 off:=λb ag=>(dU.mp ag).elim (λq=>x.off b (gu.mpr q)) (y.off b)
 tup:=λb ag fe eB=>(HQ (b=a)).elim (λq=>x.tup b (gu.mpr q) fe eB) λq=>aU eB λA az r=>y.tup b ((dU.mp ag).resolve_left q) fe ⟨A,x.keep b A (λz=>q (gu.mp z)) az,r⟩
theorem P9{i:Nat}{e:Expr}{a:L}{v:ab}{rg:Expr->ab->dh Unit}(EC:∀x p v an s,a9 (a1 aH w) M (ym O x v) an aA s->a9 (a1 aH w) M (rg (.Name x p) v) an aA s)
 (aM:O.scope.kind=.function) (cW:h0 names O) (bn:gJ U) (ok:q5 names U i e) (aB:er E U O J C s.heap) (S:a' E J l s.heap) (r:bf E J s.heap a v)
 (an:Unit->ay->Prop) (h:∀ae t,mM E U O J l [tv O e] (C.set i (some a)) s.heap ae->an () {s with heap:=ae,toks:=t}):
 a9 (a1 aH w) M (rg e v) an aA s:=by
 cases ok with
 |mk ki kY=>exact EC _ _ _ _ _ (G4 aM aB S bn ki (xE cW kY) r an λae t cG ju ag aO hm gr xr=>h ae t ⟨cG,ju,λb A gQ e=>(ag.2 b λq=>gQ (gu.mpr q)).trans e,
  λb e=>(HQ (b=placeOf O _)).elim (λq=>q.symm▸aO) (λq=>(ag.2 b q).symm▸e),gr,λa ar=>(gu.mp ar).symm▸hm,λa ar=>(gu.mp ar).symm▸xr⟩)
theorem P8{i:Nat}{e:Expr}{a:L}{v:ab}(aM:O.scope.kind=.function)(cW:h0 names O)(bn:gJ U)(ok:q5 names U i e)(aB:er E U O J C s.heap)(S:a' E J l s.heap)(r:bf E J s.heap a v)
 (an:Unit->ay->Prop) (h:∀ae t,mM E U O J l [tv O e] (C.set i (some a)) s.heap ae->an () {s with heap:=ae,toks:=t}):
 a9 (a1 aH w) M (assign e O v) an aA s:=P9 (rg:=λe v=>assign e O v) (λx p v an s h=>ahr h) aM cW bn ok aB S r an h
theorem P7{rg:Expr->ab->dh Unit}(EC:∀x p v an s,a9 (a1 aH w) M (ym O x v) an aA s->a9 (a1 aH w) M (rg (.Name x p) v) an aA s)(aM:O.scope.kind=.function)(cW:h0 names O)(bn:gJ U){is:List Nat}{af:List Expr}(ok:hf names U is af):∀(Y:List L)(T:List ab)(C bb:aI)(s:ay)(an:Unit->ay->Prop),er E U O J C s.heap->a' E J l s.heap->br E J s.heap Y T->
 ht is Y C=some bb->(∀ae t,mM E U O J l (af.map (tv O)) bb s.heap ae->an () {s with heap:=ae,toks:=t})->
 a9 (a1 aH w) M (Ub (af.map rg) T) an aA s:=by
 induction ok with
 |nil=>
  intro Y T C bb s an aB S r e h
  cases Y with
  |cons _ _=>cases e
  |nil=>
   cases e
   exact assignInOrder_nil (h s.heap s.toks ⟨S,aB,λo o o e=>e,λo e=>e,λb N e=>⟨N,e⟩,nofun,nofun⟩)
 |cons vl _ aJ=>
  intro Y T C bb s an aB S r e h
  cases Y with
  |nil=>cases e
  |cons a Y=>
   refine eL r.cons_inv λv jW z eu eK=>?_
   subst z
   exact assignInOrder_cons (P9 EC aM cW bn vl aB S eu _ λbF jo vX=>aJ Y jW _ bb _ an vX.lo vX.st (eK.mono vX.rM _ _) e λdb gT ah0=>h db gT (vX.cons ah0))
theorem Ua{is:List Nat}{af:List Expr}(ok:hf names U is af):Dk af O=af.map λe=>(false,assign e O):=by
 induction ok with
 |nil=>rfl
 |cons h _ aJ=>cases h;exact congrArg (_ :: ·) aJ
theorem Ob(f:Expr->ab->dh Unit):∀af:List Expr,(af.map λe=>(false,f e)).findIdx? (·.1)=none
 |[]=>rfl
 |e::af=>by rw[iL,List.findIdx?_cons,Ob f af];rfl
theorem GW:∀(is:List Nat)(Y:List L)(C bb:aI),ht is Y C=some bb->Y.length=is.length
 |[],[],_,_,_=>rfl
 |_::is,_::Y,C,bb,e=>by simp[GW is Y _ bb e]
 |[],_::_,_,_,e=>by cases e
 |_::_,[],_,_,e=>by cases e
theorem hf.snoc{is:List Nat}{af:List Expr}{i:Nat}{e:Expr}(ok:hf names U is af)(h:q5 names U i e):hf names U (is++[i]) (af++[e]):=by
 induction ok with
 |nil=>exact .cons h .nil
 |cons ai _ aJ=>exact .cons ai aJ
theorem hf.reverse{is:List Nat}{af:List Expr}(ok:hf names U is af):hf names U is.reverse af.reverse:=by
 induction ok with
 |nil=>exact .nil
 |cons ai _ aJ=>rw[ws,ws];exact aJ.snoc ai
theorem hf.length{is:List Nat}{af:List Expr}(ok:hf names U is af):af.length=is.length:=by
 induction ok with
 |nil=>rfl
 |cons _ _ aJ=>exact congrArg (· + 1) aJ
theorem G5{t:e3}{e:Expr}{a:L}{v:ab}{bb:aI}(a8:M.handled=none)(aM:O.scope.kind=.function)(cW:h0 names O)(bn:gJ U)(ok:h3 names U t e)(aB:er E U O J C s.heap)(S:a' E J l s.heap)(r:bf E J s.heap a v)
 (gp:nR t a C=some bb) (an:Unit->ay->Prop) (h:∀ae t,mM E U O J l (lE O e) bb s.heap ae->an () {s with heap:=ae,toks:=t}):
 a9 (a1 aH w) M (assign e O v) an aA s:=by
 cases ok with
 |one ok=>
  cases gp
  refine P8 aM cW bn ok aB S r an ?_
  cases ok;exact h
 |many ok=>
  cases a with
  |tup Y=>
   refine nt (nk r) λb T z tc aN cL=>?_
   subst z
   have hm:=Ua (O:=O) ok
   refine wpAny_assign_Tuple a8 tc (by rw[hm,dC,ok.length,<-GW _ _ _ _ gp,<-cL.length,oI]) (hm▸Ob _ _) λbF bw=>?_
   have dz:∀b A,s.heap.get? b=some A->bF.get? b=some A:=λb A e=>bw b A (ho (eF e)) e
   have g:bG false [] [] J s J {s with heap:=bF,toks:=s.toks}:=.more dz
   rw[hm,lO]
   exact P7 (rg:=λe v=>assign e O v) (λx p v an s h=>ahr h) aM cW bn ok Y T C bb {s with heap:=bF} an (aB.grow g S) (S.more dz) (cL.mono (.of (λo o e=>e) dz) _ _) gp λae c9 x=>h ae c9 ⟨x.st,x.lo,λb A ag e=>x.keep b A ag (dz b A e),λb e=>x.live b (g.live b e),λb N e=>x.ns b N (e.keeps dz),x.off,λa ar fe eB=>x.tup a ar fe (aU eB λA az r=>bx A (dz a A az) r)⟩
  |_=>cases gp
end
theorem bG.gone{D:Bool}{bT W J aw:List aa}{s ah:ay}(g:bG D bT W J s aw ah){a:aa}(e:ah.heap.get? a=none):s.heap.get? a=none:=lM λq=>g.live a q e
theorem tQ{h ae:aV}(k:h.StaysIn ae){a:aa}(e:ae.get? a=none):h.get? a=none:=lM λq=>bz (ID.mp q) λA az=>by cases (k a A az).symm.trans e
section
variable{D:Bool}{E:bM}{K:cb}{M:cv}{m:List bo}{W J bT bV:List aa}{s:ay}{names:List (I×b4)}{U:List (I×Nat)}{d:Nat}{O:bo}{C:aI}{l:St}{bp:aa->List L->St->ao L}{aA:ab->ay->Prop}
theorem OY{h ae:aV}(q:Quiet E bV h ae)(i:fE E bV h){b:aa}{A:cV}(e:h.get? b=some A)(aO:¬HI A):ae.get? b=some A:=by
 refine q.1 b A (λag=>?_) e
 refine cr (i b ag) λch az aK o=>?_
 replace az:=e▸az;(obtain rfl:=dq az)
 exact aO aK
theorem vv{h ae:aV}(q:Quiet E bV h ae)(i:fE E bV h):fq E J J h ae:=
 ⟨λo o e=>e,λa T hT⟨A,az,aK,r⟩=>⟨A,q.1 a A (λhm=>by
  refine cr (i a hm) λch eA o z=>?_
  rw[az] at eA;cases eA
  exact z.elim (λz=>z aK) hT) az,aK,r⟩⟩
theorem GB{h ae:aV}(q:Quiet E bV h ae)(i:fE E bV h){a:aa}{N:I->Option ab}(x:h.Ns a N):ae.Ns a N:=by
 refine jq x λA af a0 az hd r=>?_
 exact rR A af a0 (OY q i az (λz=>z.notDict _ _ hd)) hd r
theorem adX{h ae:aV}(q:Quiet E bV h ae)(i:fE E bV h){a:aa}{v:Option ab}(x:h.IsCell a v):ae.IsCell a v:=by
 refine aU x λA az hd=>?_
 exact bx A (OY q i az (λz=>z.Oe _ hd)) hd
theorem adZ{h ae:aV}(q:Quiet E bV h ae)(i:fE E bV h)(aB:er E U O J C h):er E U O J C ae:=aB.to aB.nm (λo=>GB q i) (λo o=>adX q i) (λo o r=>r.mono (vv q i) _ _) rfl
theorem OZ{h ae:aV}(q:Quiet E bV h ae)(i:fE E bV h)(ar:∀a∈bV,E.heap.get? a=none∧a∉J)(S:a' E J l h):a' E J l ae:=
 S.FF (λb hm A e=>q.1 b A (λag=>(ar b ag).2 hm) e) (vv (E:=E) (J:=J) q i).tup q.2 λb A e=>q.1 b A (λag=>by replace e:=((ar b ag).1)▸e;nomatch e) (S.base b A e)
theorem adY{h ae:aV}(q:Quiet E bV h ae)(i:fE E bV h)(F:gM E J h m):gM E J ae m where
 each:=λO bw=>let ⟨k,aB,a,b,c,N,d⟩:=F.each O bw;⟨k,aB,a,b,c,N,GB q i d⟩
theorem x5{ae:aV}{t:Nat}(q:Quiet E bV s.heap ae)(i:fE E bV s.heap)(ar:∀a∈bV,E.heap.get? a=none∧a∉J)(P:dN E names U d M m O J C l s):dN E names U d M m O J C l {s with heap:=ae,toks:=t}:=
 ⟨P.room,P.dJ,adZ q i P.lo,OZ q i ar P.st,adY q i P.fr⟩
theorem tF{b3:List aa}{bd:ay}{ae:aV}{t:Nat}(g:bG D bT W J s b3 bd)(q:Quiet E bV bd.heap ae)(ar:∀a∈bV,s.heap.get? a=none):bG D bT W J s b3 {bd with heap:=ae,toks:=t}:=by
 have off:∀b,s.heap.get? b≠none->b∉bV:=λb ag hm=>ag (ar b hm)
 exact⟨g.ext,λb A ag bS e=>(g.keep b A ag bS e).imp (q.1 b A (off b λz=>c1 e z)) λz=>⟨z.1,bz z.2 λe8 k=>bk e8 (q.1 b _ (off b λz=>c1 e z) k)⟩,λb ag z=>g.live b ag (zg.mpr λA y=>c1 (q.1 b A (off b ag) y) z),g.same,
  λdy a hm A af a0 e hd=>q.1 a A (off a λz=>c1 e z) (g.lp dy a hm A af a0 e hd),λa N hm e=>bz (g.lv a N hm e) λde cm=>bk de (tw cm λA az=>q.1 a A (off a (vj e)) az)⟩
theorem fE.over{aw:List aa}{ah:ay}(i:fE E bV s.heap)(g:bG D bT W J s aw ah)(ar:∀a∈bV,a∉J∧a∉W∧a∉bT):fE E bV ah.heap:=λa hm=>by
 refine aU (i a hm) λA az aK=>?_
 exact bx A ((g.keep a A (ar a hm).1 (ar a hm).2.1 az).resolve_right λz=>(ar a hm).2.2 z.1) aK
theorem fE.own(aB:er E U O J C s.heap)(i:fE E bV s.heap):∀a∈bV,a∉fw U O:=λa ar hm=>by
 refine cr (i a ar) λA az aK o=>?_
 rcases Gi aB a hm with⟨_,N,ch,af,a0,eA,eO,_⟩| ⟨v,ch,eA,eO⟩
 ·rw[az] at eA;cases eA;exact aK.notDict _ _ eO
 ·rw[az] at eA;cases eA;exact aK.Oe _ eO
theorem a5.UB{α bq im qT:Type}{R:List aa->aV->α->bq->Prop}{gZ:List aa->aV->im->qT->Prop}{N:dh bq}{f:bq->dh qT}{r:ao α}{k:α->St->ao im}
 (t:a5 E D M m [] J s N R r)
 (u:∀a av v ah aw,r=.ok a av->a' E aw av ah.heap->R aw ah.heap a v->bG D (ci m) [] J s aw ah->k a av≠.fail->a9 (a1 aH w) M (f v) (lS E D gZ m W J s (k a av)) (f' E D m W J s (k a av)) ah):
 a5 E D M m W J s (N >>= f) gZ (r.bind k):=λaG=>by
 refine aE (fx (t λh=>by rw[h] at aG;exact aG rfl) (λv ah p=>?_) λe ah p=>?_)
 ·obtain⟨a,av,rfl,aw,S,h,g⟩:=p
  exact u a av v ah aw rfl S h g aG
 ·obtain⟨a,av,rfl,aw,S,h,g⟩:=p
  exact⟨a,av,rfl,aw,S,h,g.weaken (by simp)⟩
noncomputable def xA(iter:Expr)(O:bo)(p:bu):dh ab:=fb iter O >>= λx=>kn p >>= λo=>holding [x] (ly x)
def CU(E:bM)(D:Bool)(M:cv)(m:List bo)(bg:Expr)(s:ay)(J:List aa)(h:aV)(p:List L×Option (Nat×aQ))(it:ab):Prop:=
 ∃bV,(∀a∈bV,s.heap.get? a=none∧E.heap.get? a=none∧a∉J∧a∉ci m)∧fE E bV h∧
  (∀aw av ah,a' E aw av ah.heap->(∀(n:Nat)a,J[n]? =some a->aw[n]? =some a)->(∀b A,h.get? b=some A->ah.heap.get? b=some A)->(∀a∈bV,a∉aw)->gP av p.2=true->
   jZ E D M (ci m) bV bg it p.2 p.1 aw ah)∧
  ∀(ah:ay)(an:ab->ay->Prop)(aA:ab->ay->Prop),(∀b A,h.get? b=some A->ah.heap.get? b=some A)->an it ah->a9 (a1 aH w) M (ly it) an aA ah
noncomputable def ll(D:Bool)(r:ao (List L×Option (Nat×aQ))):ao (List L×Option (Nat×aQ)):=r.bind λp ak=>if (jP p.2||D)=false then .fail else .ok p ak
def js(E:bM)(D:Bool)(names:List (I×b4))(U:List (I×Nat))(d:Nat)(iter bg:Expr)(C:aI)(k:St->ao (List L×Option (Nat×aQ))):Prop:=
 ∀M m O J l s,dN E names U d M m O J C l s->ll D (k l)≠.fail->a9 (a1 aH w) M (fb iter O) (λx bd=>a9 (a1 aH w) M (ly x)
  (lS E D (CU E D M m bg s) m [] J s (ll D (k l))) (f' E D m [] J s (ll D (k l))) bd) (f' E D m [] J s (ll D (k l))) s
theorem js.ys{iter bg:Expr}{k:St->ao (List L×Option (Nat×aQ))}(h:js E D names U d iter bg C k)(P:dN E names U d M m O J C l s)(p:bu):
 a5 E D M m [] J s (xA iter O p) (CU E D M m bg s) (ll D (k l)):=λaG=>aE (fx (h _ _ _ _ _ _ P aG) (λx bd bF=>aE (np (gL bF))) λo o x=>x)
theorem KG{e bg:Expr}{ds:St->ao L}(Z:ef K E)(bw:dB E D names U d e C ds):js E D names U d e bg C (λl=>(ds l).bind λx ak=>opt (ob ak x) ak):=λM m O J l s P aG=>by
 dsimp only at aG |-
 refine fx (bw _ _ _ _ _ _ P λaZ=>by rw[aZ] at aG;exact aG rfl) (λu bd p=>?_) λcm bd p=>?_
 ·obtain⟨x,ak,ea,b3,bt,cN,bK⟩:=p
  rw[ea] at aG |-
  simp only[ao.nS] at aG |-
  cases e:ob ak x with
  |none=>rw[e] at aG;exact absurd rfl aG
  |some p=>
   obtain⟨Y,g⟩:=p
   rw[e] at aG
   have dR:(jP g||D)=true:=by
    cases q:(jP g||D) with
    |true=>rfl
    |false=>exfalso;refine aG ?_;dsimp only[ll,opt];simp only[ao.nS];refine(q).symm▸?_;rfl
   have wd:=(P.grow bK bt).fr
   refine aba (bg:=bg) Z bt wd P.room.a8 cN e (by simpa using dR) _ λit bV bF x=>?_
   refine⟨(Y,g),ak,?_,b3,bt.more x.keep,⟨bV,λa ar=>?_,x.mf,x.Ac,x.self⟩,bK.trans (.more x.keep)⟩
   ·dsimp only[ll,opt];simp only[ao.nS];refine dR▸?_;rfl
   have aO:=x.new a ar
   exact⟨bK.gone aO,tQ bt.base aO,λhm=>bt.there a hm aO,λhm=>oZ wd hm aO⟩
 ·obtain⟨a,ak,ea,b3,bt,sT,bK⟩:=p
  rw[ea]
  exact⟨a,ak,rfl,b3,bt,sT,bK⟩
theorem N3{i:Nat}{e:Expr}(cW:h0 names O)(ok:q5 names U i e)(aB:er E U O J C s.heap):tv O e∈fw U O:=by
 cases ok with |mk h A=>exact Bj h aB (xE cW A)
theorem N4{is:List Nat}{af:List Expr}(cW:h0 names O)(ok:hf names U is af)(aB:er E U O J C s.heap):∀a∈af.map (tv O),a∈fw U O:=by
 induction ok with
 |nil=>exact λo ar=>(hK ar).elim
 |cons h _ aJ=>exact λa ar=>(dU.mp ar).elim (λq=>q▸N3 cW h aB) (aJ a)
theorem BH{t:e3}{e:Expr}(cW:h0 names O)(ok:h3 names U t e)(aB:er E U O J C s.heap):∀a∈lE O e,a∈fw U O:=by
 cases ok with
 |one h=>cases h with |mk h A=>exact λa ar=>gu.mp ar▸N3 cW (.mk h A) aB
 |many h=>exact N4 cW h aB
theorem Yb{bg iter:Expr}{body:List ey}{pos:bu}(n7:gc iter):exec (.For bg iter body [] pos) O=(kn pos >>= λo=>xA iter O iter.pos >>= λit=>runOwn (.forLoop bg it body [] O) O):=by
 dsimp only[exec_For]
 unfold xA
 rw[funext (n7.set O)]
 simp only[pure_bind,bind_assoc]
theorem VH{pure:Bool}{t:e3}{bU:aI->St->ao (dg×aI)}(dy:pure=true->D=true)(r:ao (List L×Option (Nat×aQ))):r.bind (uM pure t bU C)=(ll D r).bind (uM pure t bU C):=by
 cases r with
 |ok p ak=>
  show uM pure t bU C p ak=ao.bind (if _ then _ else _) _
  by_cases h:(jP p.2||D)=false
  ·rw[if_pos h]
   rw[Rs] at h
   refine if_pos (by rw[h.1];exact t3.mpr λz=>by cases h.2.symm.trans (dy z))
  ·rw[if_neg h];rfl
 |_=>rfl
inductive HS(E:bM)(D:Bool)(names:List (I×b4))(U:List (I×Nat))(d:Nat)(M:cv)(O:bo)(m:List bo)(J bV:List aa)(s:ay)(bg:Expr)(it:ab)(g:Option (Nat×aQ))(F:L->aI->St->ao (dg×aI))(R:ao (dg×aI)):Nat->ay->Prop
 |mk {r:List L} {aw:List aa} {bb:aI} {av:St} {ah:ay} (uU:jZ E D M (ci (O::m)) bV bg it g r aw ah) (hM:dN E names U d M (O::m) O aw bb av ah) (aR:fE E bV ah.heap) (hm:∀a∈bV,a∉aw) (jI:bG D (ci (O::m)) (fw U O) J s aw ah) (gB:jG F g r bb av=R):HS E D names U d M O m J bV s bg it g F R r.length ah
theorem Ah{F:L->aI->St->ao (dg×aI)}{g:Option (Nat×aQ)}{r:List L}{R:ao (dg×aI)}(e:jG F g r C l=R)(aG:R≠.fail):gP l g=true:=by
 cases q:gP l g with
 |true=>rfl
 |false=>cases r <;> exact absurd (e.symm.trans (if_neg (t3.mp q))) aG
structure RR(F:L->aI->St->ao (dg×aI))(bU:aI->St->ao (dg×aI))(g:Option (Nat×aQ))(r:List L)(C:aI)(l:St)(R:ao (dg×aI)):Prop where
 live:bU C l≠.fail
 next:∀lI ak,bU C l=.ok (.next,lI) ak->jG F g r lI ak=R
 ret:∀v lI ak,bU C l=.ok (.ret v,lI) ak->R=.ok (.ret v,lI) ak
 exc:∀b ak,bU C l=.exc b ak->R=.exc b ak
theorem K3{t:e3}{bU:aI->St->ao (dg×aI)}{g:Option (Nat×aQ)}{a:L}{r:List L}{R:ao (dg×aI)}(e:jG (kK t bU) g (a::r) C l=R)(aG:R≠.fail):∃bb,nR t a C=some bb∧RR (kK t bU) bU g r bb l R:=by
 have e:=(if_pos (Ah e aG)).symm.trans e
 subst e
 cases ag:nR t a C with
 |none=>exact absurd (by simp only[kK,ag];rfl) aG
 |some bb=>
  have WN:kK t bU a C l=bU bb l:=by simp only[kK,ag];rfl
  rw[WN] at aG |-
  exact⟨bb,rfl,λz=>aG (by rw[z];rfl),λo o z=>by rw[z];rfl,λo o o z=>by rw[z];rfl,λo o z=>by rw[z];rfl⟩
theorem fE.live{h:aV}{a:aa}(i:fE E bV h)(ar:a∈bV):h.get? a≠none:=aU (i a ar) λA az o=>λz=>by cases az.symm.trans z
theorem afC{bg iter:Expr}{t:e3}{body:List ey}{pos:bu}{pure:Bool}{jM:aI->St->ao (List L×Option (Nat×aQ))}{bU:aI->St->ao (dg×aI)}(dy:pure=true->D=true)(bn:gJ U)(ok:h3 names U t bg)(n7:gc iter)
 (aR:∀C,js E D names U d iter bg C (jM C)) (ag:mL E D names U d body bU):
 kB E D names U d (.For bg iter body [] pos) (λC l=>(jM C l).bind (uM pure t bU C)):=λM m O J C l s P=>by
 dsimp only
 rw[Yb n7,VH dy]
 refine .gI (a5.UB ((aR C).ys P _) λp ak it bd b3 o bt cN bK aG=>?_)
 generalize gB:uM pure t bU C p ak=R at aG |-
 replace gB:=(if_neg λz=>aG (gB.symm.trans (if_pos z))).symm.trans gB
 cases p with |mk Y g=>
 refine ij cN λbV jh rA s5 o=>?_
 have hx:=P.grow bK bt
 have aO:∀a∈bV,s.heap.get? a=none:=λa ar=>(jh a ar).1
 have hm:∀a∈bV,a∉b3:=λa ar=>(jh a ar).2.2.1
 refine Hv λir jY cY mU=>ahI (codeAny_forLoop_any (HS E D names U d M O m J bV s bg it g (kK t bU) R) ?_ Y.length (.mk (s5 b3 ak bd bt (λo o e=>e) (λo o e=>e) hm (Ah gB aG)) hx rA hm (bK.weaken hF) gB))
 ·intro n ah aW
  cases aW with | @mk r aw bb av _ uU hM gD gE jI qh=>
  have mZ:∀a∈bV,E.heap.get? a=none∧a∉aw:=λa ar=>⟨(jh a ar).2.1,gE a ar⟩
  cases r with
  |nil=>
   refine uU _ _ λae t a7=>?_
   have eT:=x5 (t:=t) a7 gD mZ hM
   exact bj (cY _ _ ⟨_,av,qh.symm.trans (if_pos (Ah qh aG)),aw,eT.st,.next eT.lo,tF jI a7 aO⟩)
  |cons a r=>
   refine uU _ _ λv aam jo Z3 E1=>E1 _ λdb gT uZ rB ck xq=>dL (K3 qh aG).choose_spec λmV one=>?_
   generalize (K3 qh aG).choose=HC at mV one
   have eT:=x5 (t:=gT) uZ gD mZ hM
   refine G5 P.room.a8 P.dJ.kind P.dJ bn ok eT.lo eT.st ck mV _ λma r8 x=>?_
   have qf:=(x.grow (D:=D) (bT:=ci (O::m)) (s:={ah with heap:=db,toks:=gT}) (t:=r8)).weaken (BH P.dJ ok eT.lo)
   have uP:=(tF (t:=gT) jI uZ aO).trans qf
   refine fx (ag _ _ _ _ _ _ _ (eT.step qf x.st x.lo) one.live) (λf jl p=>?_) λe jl p=>?_
   ·cases p with |mk _ a2 e eI di q dE=>
    have sW:=qf.trans dE
    cases q with
    |next sv=>
     have Lm:=one.next _ _ e
     exact⟨r.length,ud _,.mk (xq (fw U O) eI a2 jl (rB.own eT.lo) (Gj eT.lo) di sW (Ah Lm aG)) (eT.step sW di sv) (rB.over sW λa ar=>⟨gE a ar,rB.own eT.lo a ar,(jh a ar).2.2.2⟩) (λa ar=>sW.mj (rB.live ar) (gE a ar)) (uP.trans dE) Lm⟩
    |ret sv q=>exact cY _ _ ⟨_,a2,one.ret _ _ _ e,eI,di,.ret sv q,uP.trans dE⟩
   ·cases p with |mk b a2 e eI di jF dE=>
    exact mx.around P.room.frames P.fr (jF.back uP.live) di (uP.trans dE) λcC sB w1 fB=>mU _ _ ⟨b,a2,one.exc _ _ e,eI,sB,w1,fB⟩
end
section
variable{D:Bool}{E:bM}{K:cb}{M:cv}{m:List bo}{W J bT bV:List aa}{s:ay}{names:List (I×b4)}{U:List (I×Nat)}{d:Nat}{O:bo}{C:aI}{l:St}{bp:aa->List L->St->ao L}{aA:ab->ay->Prop}
theorem a5.inner{α bq:Type}{R:List aa->aV->α->bq->Prop}{N:dh bq}{r:ao α}{x:α}{ak:St}(t:a5 E D M m W J s N R r)(e:r=.ok x ak){an:bq->ay->Prop}{aA:ab->ay->Prop}
 (h:∀v ah aw,a' E aw ak ah.heap->R aw ah.heap x v->bG D (ci m) W J s aw ah->an v ah):a9 (a1 aH w) M N an aA s:=by
 subst e
 refine fx (t (by simp)) (λv ah p=>?_) λe ah p=>?_
 ·obtain⟨a,av,e,aw,S,r,g⟩:=p;cases e;exact h v ah aw S r g
 ·obtain⟨a,av,e,_⟩:=p;cases e
inductive WhileStep(fd:aI->St->ao L)(bU:aI->St->ao (dg×aI))(n:Nat)(C:aI)(l:St):ao (dg×aI)->Prop
 |stop {ak:St} (h:fd C l=.ok (.bool false) ak):WhileStep fd bU n C l (.ok (.next,C) ak)
 |next {ak a2:St} {lJ:aI} (h:fd C l=.ok (.bool true) ak) (am:bU C ak=.ok (.next,lJ) a2):WhileStep fd bU n C l (px fd bU n lJ a2)
 |ret {ak a2:St} {lJ:aI} {v:L} (h:fd C l=.ok (.bool true) ak) (am:bU C ak=.ok (.ret v,lJ) a2):WhileStep fd bU n C l (.ok (.ret v,lJ) a2)
theorem ahi{fd:aI->St->ao L}{bU:aI->St->ao (dg×aI)}{n:Nat}{C:aI}{l:St}{R:ao (dg×aI)}(e:px fd bU (n+1) C l=R)(aG:R≠.fail):WhileStep fd bU n C l R:=by
 subst e
 revert aG
 dsimp only[px]
 cases ea:fd C l with
 |ok x ak=>cases x with
  |bool b=>cases b with
   |false=>exact λo=>.stop ea
   |true=>
    change (bU C ak).g'.bind _≠_->WhileStep fd bU n C l ((bU C ak).g'.bind _)
    cases gp:bU C ak with
    |ok p a2=>
     obtain⟨aC,lJ⟩:=p
     cases aC with
     |next=>exact λo=>.next ea gp
     |ret v=>exact λo=>.ret ea gp
    |_=>exact λaG=>absurd rfl aG
  |_=>exact λaG=>absurd rfl aG
 |_=>exact λaG=>absurd rfl aG
inductive IY(E:bM)(D:Bool)(names:List (I×b4))(U:List (I×Nat))(d:Nat)(M:cv)(O:bo)(m:List bo)(J:List aa)(s:ay)(fd:aI->St->ao L)(bU:aI->St->ao (dg×aI))(R:ao (dg×aI))(n:Nat)(ah:ay):Prop
 |mk {aw:List aa} {bb:aI} {av:St} (P:dN E names U d M (O::m) O aw bb av ah) (g:bG D (ci (O::m)) (fw U O) J s aw ah) (e:px fd bU n bb av=R):IY E D names U d M O m J s fd bU R n ah
theorem afI{test:Expr}{body:List ey}{pos:bu}{fd:aI->St->ao L}{bU:aI->St->ao (dg×aI)}(n:Nat)
 (bn:∀C,jt E D names U d test C (fd C)) (ag:mL E D names U d body bU):
 kB E D names U d (.While test body [] pos) (λC l=>px fd bU n C l):=λM m O J C l s P aG=>by
 dsimp only at aG |-
 generalize gB:px fd bU n C l=R at aG |-
 refine Hv λir jY cY mU=>wpAny_While (codeAny_whileLoop (IY E D names U d M O m J s fd bU R) ?_ n (.mk P .refl gB))
 clear mU gB
 intro n ah aW
 cases aW with | @mk aw bb av hM g qh=>
 cases n with
 |zero=>exact absurd qh.symm aG
 |succ n=>
  cases ahi qh aG with
  |stop ea=>
   refine(bn bb _ _ _ _ _ _ hM).inner (x:=false) (by rw[ea];rfl) λv bd b3 bt cN bK=>?_
   subst cN
   exact bj (cY _ _ ⟨_,_,rfl,b3,bt,.next (hM.grow bK bt).lo,g.trans (bK.weaken hF)⟩)
  |next ea gp=>
   refine(bn bb _ _ _ _ _ _ hM).inner (x:=true) (by rw[ea];rfl) λv bd b3 bt cN bK=>?_
   cases cN
   refine(ag _ _ _ _ _ _ _ (hM.grow bK bt)).inner gp λf cR eI di fj dE=>?_
   cases fj with |next sv=>
   exact⟨n,ud _,.mk ((hM.grow bK bt).step dE di sv) ((g.trans (bK.weaken hF)).trans dE) rfl⟩
  |ret ea gp=>
   refine(bn bb _ _ _ _ _ _ hM).inner (x:=true) (by rw[ea];rfl) λv bd b3 bt cN bK=>?_
   cases cN
   refine(ag _ _ _ _ _ _ _ (hM.grow bK bt)).inner gp λf cR eI di fj dE=>?_
   cases fj with |ret aB q=>
   exact cY _ _ ⟨_,_,rfl,eI,di,.ret aB q,(g.trans (bK.weaken hF)).trans dE⟩
end
noncomputable def p5(bZ:Expr)(dK:List Expr)(bc:ab)(O:bo):dh Unit:=do
 let ok <-forIn dK true λc r=>if r=true then do let ok <-th c O (fb c O);pure (pH ok) else pure (pH r)
 if ok=true then(do let _ <-call (.builtin "list.append") [bc,<-fb bZ O]) else pure ()
noncomputable def zT(e:Expr)(fk fC:Expr)(fR:List Expr)(bc:ab)(O:bo):dh Unit:=do
 let it <-xA fC O fC.pos
 let _ <-runOwn (.compStart e 1 it bc O) O
noncomputable def pu(c:qV)(bg iter:Expr)(it:ab)(body:dh Unit)(O:bo):dh Fin:=do
 kn iter.pos
 match <-jk it with
 |none=>pure (.done .next)
 |some v=>
  FH bg it v
  assign bg O v
  body
  again c
theorem JZ(bZ bg iter:Expr)(dK:List Expr)(scope:fa)(pos:bu)(it bc:ab)(O:bo):
 uz (.ListComp bZ [⟨bg,iter,dK,0⟩] scope pos) 0 it bc O=pu (.compLoop (.ListComp bZ [⟨bg,iter,dK,0⟩] scope pos) 0 it bc O) bg iter it (p5 bZ dK bc O) O:=by
 rw[compTurn_list]
 dsimp only[pu,p5]
 simp only[bind_assoc]
 congr 1;funext _;congr 1;funext r
 cases r with
 |none=>rfl
 |some v=>
  dsimp only
  congr 1;funext _;congr 1;funext _;congr 1;funext ok
  cases ok <;> simp
theorem VZ(bZ bg iter fk fC:Expr)(fR:List Expr)(scope:fa)(pos:bu)(it bc:ab)(O:bo)(aG:∀x,Ag fC O x=pure x):
 uz (.ListComp bZ [⟨bg,iter,[],0⟩,⟨fk,fC,fR,0⟩] scope pos) 0 it bc O=
  pu (.compLoop (.ListComp bZ [⟨bg,iter,[],0⟩,⟨fk,fC,fR,0⟩] scope pos) 0 it bc O) bg iter it (zT (.ListComp bZ [⟨bg,iter,[],0⟩,⟨fk,fC,fR,0⟩] scope pos) fk fC fR bc O) O:=by
 dsimp only[pu,zT,xA]
 refine(?_:(kn iter.pos >>= λo=>jk it >>= λr=>_)=_)
 congr 1;funext _;congr 1;funext r
 cases r with
 |none=>rfl
 |some v=>
  dsimp only
  congr 1;funext _;congr 1;funext _
  simp[aG]
theorem VY(bZ bg iter fk fC:Expr)(fR:List Expr)(scope:fa)(pos:bu)(it bc:ab)(O:bo):
 uz (.ListComp bZ [⟨bg,iter,[],0⟩,⟨fk,fC,fR,0⟩] scope pos) 1 it bc O=
  pu (.compLoop (.ListComp bZ [⟨bg,iter,[],0⟩,⟨fk,fC,fR,0⟩] scope pos) 1 it bc O) fk fC it (p5 bZ fR bc O) O:=by
 dsimp only[pu,p5]
 refine(?_:(kn fC.pos >>= λo=>jk it >>= λr=>_)=_)
 congr 1;funext _;congr 1;funext r
 cases r with
 |none=>rfl
 |some v=>
  simp only[bind_assoc]
  congr 1;funext _;congr 1;funext _;congr 1;funext ok
  cases ok <;> simp <;> rfl
structure Acc(E:bM)(m:List bo)(J:List aa)(h:aV)(cx:aa)(done:List L):Prop where
 at_:∃bH,h.PlainList cx bH∧br E J h done bH.toList
 off:cx∉J
 tA:cx∉ci m
 new:E.heap.get? cx=none
section
variable(E:bM)(D:Bool)(names:List (I×b4))(U:List (I×Nat))(d:Nat)
def um(hz:bo->List aa)(body:ab->bo->dh Unit)(C:aI)(k:St->ao (List L)):Prop:=
 ∀M m O J l s cx done Y av(aA:ab->ay->Prop)(an:Unit->ay->Prop),dN E names U d M m O J C l s->Acc E m J s.heap cx done->k l=.ok Y av->done.length+Y.length<b8->
  (∀ah aw,dN E names U d M m O aw C av ah->Acc E m aw ah.heap cx (done++Y)->bG D (ci m) (cx::hz O) J s aw ah->an () ah)->a9 (a1 aH w) M (body (.ref cx) O) an aA s
def qX(dK:List Expr)(C:aI)(k:St->ao Bool):Prop:=∀M m O J l s,dN E names U d M m O J C l s->
 a5 E D M m [] J s (forIn dK true λc r=>if r=true then do let ok <-th c O (fb c O);pure (pH ok) else pure (pH r)) oM (k l)
end
section
variable{D:Bool}{E:bM}{K:cb}{M:cv}{m:List bo}{W J bT bV:List aa}{s:ay}{names:List (I×b4)}{U:List (I×Nat)}{d:Nat}{O:bo}{C:aI}{l:St}{bp:aa->List L->St->ao L}{aA:ab->ay->Prop}
 {cx:aa} {done:List L}
theorem adD{h:aV}{bH:Array ab}(x:h.PlainList cx bH):fE E [cx] h:=λa ar=>by
 simp at ar;subst ar
 obtain⟨N,e⟩:=x
 exact fK _ e ⟨λo o q=>(by cases q),λo q=>(by cases q)⟩ (.inl (by simp))
theorem adH{h:aV}{bH:Array ab}(x:h.PlainList cx bH)(T:Array ab):¬h.IsTuple cx T:=λaj1=>cr aj1 λA az aK o=>by
 obtain⟨N,e⟩:=x;replace az:=e▸az;(obtain rfl:=dq az);simp at aK
theorem Acc.noTuple{h:aV}(x:Acc E m J h cx done)(T:Array ab):¬h.IsTuple cx T:=aU x.at_ λbH p o=>adH p T
theorem Acc.mf{h:aV}(x:Acc E m J h cx done):fE E [cx] h:=let ⟨bH,p,_⟩:=x.at_;adD p
theorem Acc.grow{aw:List aa}{ah:ay}(x:Acc E m J s.heap cx done)(S:a' E J l s.heap)(g:bG D (ci m) W J s aw ah)(bS:cx∉W)(bn:∀a∈W,∀T,¬s.heap.IsTuple a T):Acc E m aw ah.heap cx done where
 at_:=let ⟨bH,⟨N,p⟩,r⟩:=x.at_;⟨bH,⟨N,(g.keep cx _ x.off bS p).resolve_right λz=>x.tA z.1⟩,r.mono (g.rM S bn) _ _⟩
 off:=g.mj (let ⟨bH,⟨N,p⟩,_⟩:=x.at_;by refine p▸?_;simp) x.off
 tA:=x.tA
 new:=x.new
theorem Acc.quiet{h ae:aV}(x:Acc E m J h cx done)(q:Quiet E bV h ae)(i:fE E bV h)(hd:cx∉bV):Acc E m J ae cx done where
 at_:=aU x.at_ λbH⟨N,p⟩r=>bx bH ⟨N,q.1 _ _ hd p⟩ (r.mono (vv q i) _ _)
 off:=x.off
 tA:=x.tA
 new:=x.new
theorem KE:qX E D names U d [] C (λl=>.ok true l):=λM m O J l s P=>by
 simp only[y4];exact .ok P.st rfl
theorem K4{O:bo}:∀(dK:List Expr),(forIn dK false λc r=>if r=true then do let ok <-th c O (fb c O);pure (pH ok) else pure (pH r):dh Bool)=pure false
 |[]=>by dsimp only[y4]
 |c::r=>by rw[wk];exact K4 r
theorem Xr{c:Expr}{r:List Expr}{fd:St->ao L}{fg:St->ao Bool}(aK:jt E D names U d c C fd)(ba:qX E D names U d r C fg):
 qX E D names U d (c::r) C (λl=>(fd l).bind λx ak=>x.hD (fg ak) (.ok false ak)):=λM m O J l s P=>by
 simp only[wk]
 simp only[if_true,bind_assoc,pure_bind]
 refine a5.test aK P (λak bd b3 bt bK=>ba _ _ _ _ _ _ (P.grow bK bt)) λak bd b3 bt bK=>?_
 rw[K4]
 exact .ok bt rfl
inductive Ce(e5:aI->St->ao Bool)(ds:aI->St->ao L)(C:aI)(l av:St):List L->Prop
 |no (h:e5 C l=.ok false av):Ce e5 ds C l av []
 |yes {ak:St} {x:L} (h:e5 C l=.ok true ak) (am:ds C ak=.ok x av):Ce e5 ds C l av [x]
theorem WS{e5:aI->St->ao Bool}{ds:aI->St->ao L}{av:St}{Y:List L}(e:iS e5 ds C l=.ok Y av):Ce e5 ds C l av Y:=by
 unfold iS at e
 cases a3:e5 C l with
 |ok b ak=>
  rw[a3] at e
  cases b with
  |false=>cases e;exact .no a3
  |true=>
   change (ds C ak).bind _=_ at e
   cases a4:ds C ak with
   |ok x a2=>rw[a4] at e;cases e;exact .yes a3 a4
   |_=>rw[a4] at e;cases e
 |_=>rw[a3] at e;cases e
theorem Hi{bZ:Expr}{dK:List Expr}{e5:aI->St->ao Bool}{ds:aI->St->ao L}(aG:qX E D names U d dK C (e5 C))(bw:dB E D names U d bZ C (ds C)):
 um E D names U d (λo=>[]) (λbc O=>p5 bZ dK bc O) C (iS e5 ds C):=λM m O J l s cx done Y av aA an P X ea aN cY=>by
 cases WS ea with
 |no a3=>
  refine aE ((aG _ _ _ _ _ _ P).inner a3 λc bd b3 bt cN bK=>?_)
  refine(show false=c from cN)▸bj (cY bd b3 (P.grow bK bt) ?_ (bK.weaken hF))
  rw[iK]
  exact X.grow P.st bK hK hF
 | @yes ak x a3 a4=>
  refine aE ((aG _ _ _ _ _ _ P).inner a3 λc bd b3 bt cN bK=>?_)
  refine(show true=c from cN)▸?_
  have hx:=P.grow bK bt
  have sD:=X.grow P.st bK (hK) hF
  refine aE ((bw _ _ _ _ _ _ hx).inner a4 λv cR eI di fj dE=>?_)
  have eT:=hx.grow dE di
  have lU:=sD.grow bt dE (hK) (by simp)
  refine aU lU.at_ λbH cZ yb=>?_
  have dW:=yb.length
  have ag:done.length+1<b8:=by exact aN
  have e1:=nP ag
  refine aE (ahA cZ (λae m' n6=>bj ?_) (by simp at dW;exact cf [_,_,_] 1 al ax 1 al aT 1 (Ns aT) ax rfl (dI dW) e1))
  have q:Quiet E [cx] cR.heap ae:=.of_same n6 lU.noTuple
  have i:=lU.mf
  have bS:∀a∈[cx],E.heap.get? a=none∧a∉eI:=λa ar=>by simp at ar;cases ar;exact⟨lU.new,lU.off⟩
  have sz:=x5 (t:=cR.toks) q i bS eT
  refine cY _ eI sz ⟨⟨_,m',?_⟩,lU.off,lU.tA,lU.new⟩ (((bK.trans dE).weaken (by simp)).trans (.wrote (t:=cR.toks) (λb A ag e=>q.1 b A (λz=>ag (by simp at z;simp only[z];exact .head _)) e) (λb e=>?_) ?_ λb N e=>⟨N,GB q i e⟩))
  ·simp only[HH]
   exact(yb.mono (vv q i) _ _).snoc (fj.mono (vv q i) _ _)
  ·by_cases z:b=cx
   ·cases z;obtain⟨N,p⟩:=m';rw[p];simp
   ·rw[n6.2 b z];exact e
  ·intro a ar;simp at ar;cases ar;exact lU.off
theorem Pw:∀(is:List Nat)(Y:List L)(C bb:aI),ht is Y C=some bb->∀i,i∉is->bb[i]? =C[i]?
 |[],[],C,bb,e,i,_=>by(obtain rfl:=dq e);rfl
 |j::is,x::Y,C,bb,e,i,aR=>by
  simp only[dU,not_or] at aR
  rw[Pw is Y _ bb e i aR.2,k' (λz=>aR.1 z.symm)]
 |[],_::_,_,_,e,_,_=>by cases e
 |_::_,[],_,_,e,_,_=>by cases e
theorem Jr{t:e3}{a:L}{C bb:aI}(e:nR t a C=some bb):∀i,i∉t.slots->bb[i]? =C[i]? :=λi aR=>by
 cases t with
 |one j=>cases dq e;exact k' λz=>aR (by subst z;exact y8)
 |many is=>cases a with
  |tup m=>exact Pw _ _ _ _ e i aR
  |_=>cases e
def wG(is:List Nat)(C:aI):Prop:=∀i∈is,∀a,C[i]?≠some (some a)
theorem UC{t:e3}{a:L}{C bb:aI}(e:nR t a C=some bb)(u:wG t.slots C):∀(i:Nat)b,C[i]? =some (some b)->bb[i]? =some (some b):=λi b h=>by
 by_cases q:i∈t.slots
 ·exact absurd h (u i q b)
 ·simp only[Jr e i q,h]
theorem dN.weaken{bb:aI}(P:dN E names U d M m O J C l s)(bS:∀(i:Nat)a,bb[i]? =some (some a)->C[i]? =some (some a)):dN E names U d M m O J bb l s:=
 ⟨P.room,P.dJ,P.lo.weaken bS,P.st,P.fr⟩
theorem ahM{c:qV}{bg iter:Expr}{it:ab}{body:dh Unit}{cw:pN}{an:Fin->ay->Prop}
 (h:a9 cw M (jk it) (λr bd=>match r with
  |none=>an (.done .next) bd
  |some v=>a9 cw M (FH bg it v) (λo cR=>a9 cw M (assign bg O v) (λo jl=>a9 cw M body (λo tR=>an (.again c) tR) aA jl) aA cR) aA bd) aA s):
 a9 cw M (pu c bg iter it body O) an aA s:=by
 refine aE (np (aE (fx h (λr bd bF=>?_) λo o x=>x)))
 cases r with
 |none=>exact bj bF
 |some v=>
  refine aE (fx bF (λo cR db=>aE (fx db (λo jl ma=>aE (fx ma (λo tR m0=>?_) λo o x=>x)) λo o x=>x)) λo o x=>x)
  exact bj m0
theorem bG.agi{mN b3 eI:List aa}{bd cR:ay}(x:bG D bT W J s b3 bd)(y:bG D bT mN b3 bd eI cR)(h:∀a∈mN,a∈W∨s.heap.get? a=none):bG D bT W J s eI cR:=by
 have z:=(x.weaken (mN:=W++mN) λa h=>pL _ h).trans (y.weaken λa h=>wo _ h)
 refine⟨z.ext,λb A ag bS e=>z.keep b A ag (λhm=>?_) e,z.live,z.same,z.lp,z.lv⟩
 rcases ip.mp hm with q |q
 ·exact bS q
 ·rcases h b q with r |r
  ·exact bS r
  ·rw[r] at e;nomatch e
theorem Fp{α:Type}{c:Prop} [Decidable c]{x:ao α}{a:α}{l:St}(h:(if c then x else .fail)=.ok a l):c∧x=.ok a l:=by
 by_cases q:c
 ·rw[if_pos q] at h;exact⟨q,h⟩
 ·rw[if_neg q] at h;cases h
theorem JW{F:L->St->ao (List L)}{g:Option (Nat×aQ)}{r:List L}{l av:St}{bH:List L}(e:j9 F g r l=.ok bH av):gP l g=true:=by
 cases r <;> exact(Fp e).1
theorem VU{F:L->St->ao (List L)}{g:Option (Nat×aQ)}{l av:St}{bH:List L}(e:j9 F g [] l=.ok bH av):[]=bH∧l=av:=by
 cases (Fp e).2;exact⟨rfl,rfl⟩
theorem OA{α bq:Type}{A:Option α}{l av:St}{f:α->St->ao bq}{y:bq}(e:(opt A l).bind f=.ok y av):∃v,A=some v∧f v l=.ok y av:=by
 cases A with
 |none=>cases e
 |some v=>exact⟨v,rfl,e⟩
theorem VS{F:L->St->ao (List L)}{g:Option (Nat×aQ)}{a:L}{r:List L}{l av:St}{bH:List L}(e:j9 F g (a::r) l=.ok bH av):∃x a2 y,F a l=.ok x a2∧j9 F g r a2=.ok y av∧x++y=bH:=
 k5 (zK (F6 (Fp e).2)) λx a2 a3 h=>k5 (zK (F6 h)) λy f9 a4 z=>by cases z;exact⟨x,a2,y,a3,a4,rfl⟩
inductive Ih(E:bM)(D:Bool)(names:List (I×b4))(U:List (I×Nat))(d:Nat)(M:cv)(m:List bo)(O:bo)(C:aI)(bV:List aa)(bg:Expr)(it:ab)(g:Option (Nat×aQ))(cx:aa)(W se:List aa)(nf:ay)(F:L->St->ao (List L))(r6:List L)(av:St):Nat->ay->Prop
 |mk {r:List L} {aw:List aa} {ak:St} {uA Hy:List L} {ah:ay} (uU:jZ E D M (ci m) bV bg it g r aw ah) (hM:dN E names U d M m O aw C ak ah) (aR:fE E bV ah.heap) (hm:∀a∈bV,a∉aw) (kE:Acc E m aw ah.heap cx uA) (jI:bG D (ci m) W se nf aw ah) (EX:j9 F g r ak=.ok Hy av) (Me:uA++Hy=r6):
  Ih E D names U d M m O C bV bg it g cx W se nf F r6 av r.length ah
theorem Nn{bZ:Expr}{gens:List io}{scope:fa}{pos:bu}{j:Nat}{bg iter:Expr}{t:e3}{it:ab}{body:ab->bo->dh Unit}{hz:bo->List aa}{bU:aI->St->ao (List L)}{g:Option (Nat×aQ)}{R:lT->ay->Prop}
 (xu:∀(bc:ab),uz (.ListComp bZ gens scope pos) j it bc O=pu (.compLoop (.ListComp bZ gens scope pos) j it bc O) bg iter it (body bc O) O)
 (bn:gJ U) (ok:h3 names U t bg) (eB:wG t.slots C) (b1:∀a bb,nR t a C=some bb->um E D names U d hz body bb (bU bb))
 (xe:∀O J C(h:aV),h0 names O->er E U O J C h->∀a∈hz O,a∈fw U O)
 {se:List aa} {nf:ay} {Y bH r6:List L} {av:St} (P:dN E names U d M m O J C l s) (X:Acc E m J s.heap cx done) (aR:fE E bV s.heap) (jh:∀a∈bV,nf.heap.get? a=none∧E.heap.get? a=none∧a∉J∧a∉ci m) (xi:cx∉bV)
 (uU:gP l g=true->jZ E D M (ci m) bV bg it g Y J s) (EX:j9 (jn t C bU) g Y l=.ok bH av) (Me:done++bH=r6) (dW:r6.length<b8)
 (jJ:bG D (ci m) W se nf J s) (s0:∀a,a=cx∨a∈lE O bg∨a∈hz O->a∈W∨nf.heap.get? a=none)
 (gB:∀ah aw,dN E names U d M m O aw C av ah->Acc E m aw ah.heap cx r6->bG D (ci m) W se nf aw ah->R (.ok .next) ah):
 gy (a1 aH w) M (.compLoop (.ListComp bZ gens scope pos) j it (.ref cx) O) R s:=by
 have tb:∀a∈bV,nf.heap.get? a=none∧E.heap.get? a=none∧a∉ci m:=λa ar=>⟨(jh a ar).1,(jh a ar).2.1,(jh a ar).2.2.2⟩
 refine codeAny_loop rfl (Ih E D names U d M m O C bV bg it g cx W se nf _ r6 av) ?_ Y.length (.mk (uU (JW EX)) P aR (λa ar=>(jh a ar).2.2.1) X jJ EX Me)
 intro n ah aW
 cases aW with | @mk r aw ak uA Hy _ LJ hM gD gE kE jI LL AG=>
 have mZ:∀a∈bV,E.heap.get? a=none∧a∉aw:=λa ar=>⟨(tb a ar).2.1,gE a ar⟩
 refine(?_:a9 _ M ((uz (.ListComp bZ gens scope pos) j it (.ref cx) O).onRaise (λx=>do F' x O;theTreesLotGoes x)) _ _ ah)
 refine wpAny_noted ?_
 simp only[xu]
 refine ahM ?_
 cases r with
 |nil=>
  refine LJ _ _ λae c9 a7=>?_
  refine dL (VU LL) λb0 bO=>?_
  subst b0;subst bO
  rw[iK] at AG
  subst AG
  exact gB _ aw (x5 (t:=c9) a7 gD mZ hM) (kE.quiet a7 gD xi) (tF jI a7 λa ar=>(tb a ar).1)
 |cons a r=>
  refine LJ _ _ λv aam jo Z3 E1=>E1 _ λdb gT uZ rB ck xq=>?_
  have eT:=x5 (t:=gT) uZ gD mZ hM
  have lU:=kE.quiet uZ gD xi
  have uP:=tF (t:=gT) jI uZ λa ar=>(tb a ar).1
  refine jq (VS LL) λx a2 y uD a4 z=>?_
  subst z
  refine aU (OA uD) λbb mV a3=>?_
  refine G5 P.room.a8 P.dJ.kind P.dJ bn ok eT.lo eT.st ck mV _ λma r8 Hx=>?_
  have qf:bG D (ci m) (lE O bg) aw {ah with heap:=db,toks:=gT} aw {ah with heap:=ma,toks:=r8}:=Hx.grow (s:={ah with heap:=db,toks:=gT})
  have rF:=BH P.dJ ok eT.lo
  have sz:dN E names U d M m O aw bb ak {ah with heap:=ma,toks:=r8}:=eT.step (qf.weaken rF) Hx.st Hx.lo
  have EP:∀(J:List aa)C(h:aV),er E U O J C h->∀Kh,Acc E m J h cx Kh->cx∉fw U O:=λJ C h aB Kh X=>fE.own (s:=⟨h,s.gens,s.drawn,s.toks,s.os⟩) aB X.mf cx (.head _)
  have Wl:=EP _ _ _ eT.lo _ lU
  have Tu:Acc E m aw ma cx uA:=lU.grow (s:={ah with heap:=db,toks:=gT}) eT.st qf (λhm=>Wl (rF _ hm)) (λa ar=>Gj eT.lo a (rF a ar))
  have aae:uA.length+x.length<b8:=by
   have:=congrArg kr AG
   simp at this;exact cf [_,_,_,_,_] 1 (Ns (.add al ax)) aT 1 (Ns cs) aT 1 (.add al (.add ax fA)) cs rfl dW (dI this)
  refine b1 a bb mV M m O aw ak _ cx uA x a2 _ _ sz Tu a3 aae λtR Ri ue C6 qg=>?_
  have Ai:bG D (ci m) (cx::(lE O bg++hz O)) aw {ah with heap:=db,toks:=gT} Ri tR:=
   (qf.weaken λb ag=>.tail _ (pL _ ag)).trans (qg.weaken λb ag=>by
    rcases dU.mp ag with q |q
    ·simp only[q];exact .head _
    ·exact .tail _ (wo _ q))
  have Lx:∀b∈cx::(lE O bg++hz O),b=cx∨b∈fw U O:=λb ag=>by
   rcases dU.mp ag with q |q
   ·exact .inl q
   ·rcases ip.mp q with q |q
    ·exact .inr (rF b q)
    ·exact .inr (xe O _ _ _ P.dJ eT.lo b q)
  have Mg:∀b∈bV,b∉cx::(lE O bg++hz O):=λb ag hm=>by
   rcases Lx b hm with q |q
   ·exact xi (q▸ag)
   ·exact fE.own (s:={ah with heap:=db,toks:=gT}) eT.lo rB b ag q
  have YH:∀b∈cx::(lE O bg++hz O),∀T,¬db.IsTuple b T:=λb ag T ck=>by
   rcases Lx b ag with q |q
   ·cases q
    exact lU.noTuple T ck
   ·exact Gj eT.lo b q T ck
  have Zm:=JW a4
  refine⟨rfl,r.length,ud _,.mk (xq _ Ri a2 tR Mg YH ue.st Ai Zm) (ue.weaken (UC mV eB)) (rB.over (s:={ah with heap:=db,toks:=gT}) Ai λb ag=>⟨gE b ag,Mg b ag,(tb b ag).2.2⟩)
   (λb ag=>Ai.mj (aU (rB b ag) λA az o=>by show db.get? b≠none;refine az▸?_;simp) (gE b ag)) C6 ?_ a4 ((fF ..).trans AG)⟩
  exact uP.agi Ai λb ag=>s0 b (by
   rcases dU.mp ag with q |q
   ·exact .inl q
   ·exact .inr (ip.mp q))
end
section
variable{D:Bool}{E:bM}{K:cb}{M:cv}{m:List bo}{W J bT bV:List aa}{s:ay}{names:List (I×b4)}{U:List (I×Nat)}{d:Nat}{O:bo}{C:aI}{l:St}{bp:aa->List L->St->ao L}{aA:ab->ay->Prop}
 {cx:aa} {done:List L}
theorem JX{R:lT->ay->Prop}{bZ:Expr}{gens:List io}{scope:fa}{pos:bu}{j:Nat}{it bc:ab}{g:io}(dR:gens[j]? =some g)(ar:g.is_async=0)
 (bQ:gy (a1 aH w) M (.compLoop (.ListComp bZ gens scope pos) j it bc O) R s)
 (h:a9 (a1 aH w) M (ly it) (λme ah=>gy (a1 aH w) M (.compLoop (.ListComp bZ gens scope pos) j me bc O) R ah)
  (notedBy (a1 aH w) M O λx ah=>R (.error x) ah) s):
 gy (a1 aH w) M (.compStart (.ListComp bZ gens scope pos) j it bc O) R s:=by
 refine uy ?_
 refine wpAny_notedAt ?_
 dsimp only[compStart]
 have a3:((clausesOf (.ListComp bZ gens scope pos))[j]?)=some g:=dR
 refine a3▸?_
 simp only[Option.elim,ar,bne_self_eq_false,pB,if_false]
 refine aE (vS (wpAny_ite ?_))
 split
 ·first
   |exact aE (bj (bj (B8 rfl bQ)))
   |exact bj (B8 rfl bQ)
 ·first
   |exact aE (yE (aE (np (aE (fx h (λme ah ae=>bj (B8 rfl ae)) λo o x=>x)))))
   |(refine aE (yE ?_);exact aE (np (aE (fx h (λme ah ae=>bj (B8 rfl ae)) λo o x=>x))))
theorem JO{r:ao (List L×Option (Nat×aQ))}{pure:Bool}{F:L->St->ao (List L)}{y:List L}{av:St}(dy:pure=true->D=true)(e:r.bind (ln pure F)=.ok y av):∃p ak,r=.ok p ak∧ll D r=.ok p ak∧j9 F p.2 p.1 ak=.ok y av:=by
 cases r with
 |ok p ak=>
  by_cases h:(jP p.2||pure)=false
  ·cases (if_pos h).symm.trans e
  ·refine⟨p,ak,rfl,if_neg λz=>h ?_,(if_neg h).symm.trans e⟩
   rw[Rs] at z |-
   exact⟨z.1,t3.mpr λq=>by cases z.2.symm.trans (dy q)⟩
 |_=>cases e
theorem agO{bZ bg iter fk fC:Expr}{fR:List Expr}{scope:fa}{pos:bu}{pure:Bool}{c9:e3}{jM:St->ao (List L×Option (Nat×aQ))}{bU:aI->St->ao (List L)}(dy:pure=true->D=true)
 (bn:gJ U) (ok:h3 names U c9 fk) (eB:wG c9.slots C) (aR:js E D names U d fC fk C jM)
 (b1:∀b bb,nR c9 b C=some bb->um E D names U d (λo=>[]) (λbc O=>p5 bZ fR bc O) bb (bU bb)):
 um E D names U d (λO=>lE O fk) (λbc O=>zT (.ListComp bZ [⟨bg,iter,[],0⟩,⟨fk,fC,fR,0⟩] scope pos) fk fC fR bc O) C
  (λl=>(jM l).bind (ln pure (jn c9 C bU))):=λM m O J l s cx done Y av aA an P X ea aN cY=>by
 refine eL (JO dy ea) λajj ak a3 a4 cI=>?_
 obtain⟨is,g⟩:=ajj
 refine aE ((aR.ys P _).inner a4 λit bd b3 bt cN bK=>?_)
 refine ij cN λbV jh rA s5 mX=>?_
 have hx:=P.grow bK bt
 have sD:=X.grow P.st bK (hK) (by simp)
 have xi:cx∉bV:=λhm=>by
  refine aU X.at_ λbH ajk o=>?_
  refine bz ajk λN p=>?_
  have:=(jh cx hm).1
  replace this:=p▸this;cases this
 refine aE (ahI ?_)
 have xo:gy (a1 aH w) M (.compLoop (.ListComp bZ [⟨bg,iter,[],0⟩,⟨fk,fC,fR,0⟩] scope pos) 1 it (.ref cx) O) (λr ah=>match r with |.ok f=>a9 (a1 aH w) M (zm ()) an aA ah |.error e=>cameBackBy (a1 aH w) M O aA e ah) bd:=
  Nn (g:=g) (t:=c9) (body:=λbc O=>p5 bZ fR bc O) (hz:=λo=>[]) (bU:=bU) (W:=cx::lE O fk) (λbc=>VY ..) bn ok eB b1 (by simp) hx sD rA (λa ar=>jh a ar) xi
   (λEY=>s5 b3 ak bd bt (λo o e=>e) (λo o e=>e) (λa ar=>(jh a ar).2.2.1) EY) cI rfl (by simpa using aN) (bK.weaken (by simp)) (λa ar=>.inl (by
    rcases ar with q |q |q
    ·simp only[q];exact .head _
    ·exact .tail _ q
    ·simp at q)) λah aw hM kE fB=>bj (cY ah aw hM kE fB)
 exact JX (g:=⟨fk,fC,fR,0⟩) rfl rfl xo (mX bd _ _ (λo o e=>e) xo)
noncomputable def d'(names ns:List (I×b4)):List (I×b4):=ns.map fun(n,k)=>if (k == .free&&names.lookup n==some .cell) then(n,.cell) else(n,k)
theorem x8{scope:fa}(cW:h0 names O):(lz scope O).names=d' names scope.names:=by
 dsimp only[lz,d']
 simp only[cW.kind,cW.kindOf,show(Tj==Tj)=true from rfl,HK]
structure oz(names:List (I×b4))(U:List (I×Nat))(scope:fa)(c':List (I×Nat))(em:List Nat):Prop where
 kind:scope.kind=.function
 nodup:(scope.names.map (·.1)).Nodup
 free:∀x,(x,kv)∈scope.names->∃i,U.lookup x=some i∧(names.lookup x=some .cell∨names.lookup x=some .free)
 gJ:gJ c'
 tab:∀x i,c'.lookup x=some i->(((x,NameKind.local)∈scope.names∨(x,jw)∈scope.names)∧i∈em)∨((x,kv)∈scope.names∧U.lookup x=some i)
theorem pd{α:Type}:∀{m:List (I×α)}{x:I}{k:α},(m.map (·.1)).Nodup->(x,k)∈m->m.lookup x=some k
 |(n,v):: r,x,k,aO,hm=>by
  simp only[iL,mC] at aO
  dsimp only[kt]
  rcases dU.mp hm with e |e
  ·cases e;simp
  ·have:(x==n)=false:=by
    rw[beq_eq_false_iff_ne];rintro rfl
    exact aO.1 (gY.mpr ⟨_,e,rfl⟩)
   refine this▸?_
   exact pd aO.2 e
theorem O7(names:List (I×b4)):∀ns:List (I×b4),(d' names ns).map (·.1)=ns.map (·.1)
 |[]=>rfl
 |(n,k):: r=>by
  have aJ:=O7 names r
  dsimp only[d'] at aJ |-
  simp only[iL]
  simp only[aJ]
  split <;> rfl
theorem O8{names ns:List (I×b4)}{x:I}{k:b4}(h:(x,k)∈ns)(aM:k≠.free):(x,k)∈d' names ns:=by
 refine gY.mpr ⟨(x,k),h,?_⟩
 have:(k == .free)=false:=by simpa using aM
 simp[this]
theorem O6{names ns:List (I×b4)}{x:I}(h:(x,jw)∈d' names ns):(x,jw)∈ns∨((x,kv)∈ns∧names.lookup x=some .cell):=by
 refine aU (gY.mp h) λajl hm e=>?_
 obtain⟨n,k⟩:=ajl
 dsimp only at e
 split at e
 ·rename_i q
  simp only[gW,beq_iff_eq] at q
  (injection e with e;subst e)
  replace hm:=q.1▸hm
  exact .inr ⟨hm,q.2⟩
 ·cases e;exact .inl hm
theorem VF{x:I}{c:aa}(h:O.cells.lookup x=some c):cellOf O x=pure c:=by
 unfold cellOf;rw[h]
theorem JP{scope:fa}(h:∀x,(x,kv)∈scope.names->∃c,O.cells.lookup x=some c):
 ∃dx,closureFor scope O=pure dx∧(∀x c,dx.lookup x=some c->O.cells.lookup x=some c)∧(∀x,(x,kv)∈scope.names->∃c,dx.lookup x=some c)∧∀x c,dx.lookup x=some c->(x,kv)∈scope.names:=by
 have go:∀(ns:List (I×b4))(cA:List (I×aa)),(∀x,(x,kv)∈ns->∃c,O.cells.lookup x=some c)->(∀x c,cA.lookup x=some c->O.cells.lookup x=some c)->
  ∃dx,(forIn ns cA (λp r=>match p with |(name,kind)=>if kind==kv then(do let a <-cellOf O name;pure (pH ((name,a):: r))) else pure (pH r)):dh (List (I×aa)))=pure dx∧
   (∀x c,dx.lookup x=some c->O.cells.lookup x=some c)∧(∀x,(x,kv)∈ns->∃c,dx.lookup x=some c)∧(∀x c,cA.lookup x=some c->∃dd,dx.lookup x=some dd)∧∀x c,dx.lookup x=some c->(x,kv)∈ns∨∃dd,cA.lookup x=some dd:=by
  intro ns
  induction ns with
  |nil=>intro cA _ am;exact qw cA (by dsimp only[y4]) am (λx aD=>by simp at aD) (λx c e=>⟨c,e⟩) (λx c e=>.inr ⟨c,e⟩)
  |cons p r aJ=>
   obtain⟨n,k⟩:=p
   intro cA ai am
   by_cases q:k=.free
   ·subst q
    refine bz (ai n (.head _)) λc aK=>?_
    obtain⟨dx,a3,a4,cI,eV,g4⟩:=aJ ((n,c):: cA) (λx aD=>ai x (.tail _ aD)) (λx dd e=>by
     dsimp only[kt] at e
     by_cases z:x=n
     ·subst z;simp at e;refine e▸?_;exact aK
     ·have:(x==n)=false:=by simpa using z
      replace e:=this▸e;exact am x dd e)
    refine qw dx ?_ a4 (λx aD=>?_) (λx dd e=>?_) (λx dd e=>?_)
    ·rw[wk]
     simp only[beq_self_eq_true,if_true,VF aK,pure_bind]
     exact a3
    ·rcases dU.mp aD with z |z
     ·cases z;exact eV n c (by simp)
     ·exact cI x z
    ·by_cases z:x=n
     ·subst z;exact eV x c (by simp)
     ·refine eV x dd ?_
      dsimp only[kt]
      have:(x==n)=false:=by simpa using z
      refine this▸?_;exact e
    ·rcases g4 x dd e with z |⟨UJ,z⟩
     ·exact .inl (.tail _ z)
     ·dsimp only[kt] at z
      by_cases q:x=n
      ·cases q;exact .inl (.head _)
      ·have:(x==n)=false:=by simpa using q
       replace z:=this▸z;exact .inr ⟨UJ,z⟩
   ·have dZ:(k==kv)=false:=by simpa using q
    refine lH (aJ cA (λx aD=>ai x (.tail _ aD)) am) λdx a3 a4 cI eV g4=>?_
    refine qw dx ?_ a4 (λx aD=>?_) eV (λx c e=>(g4 x c e).imp (.tail _) id)
    ·rw[wk]
     simp only[dZ,pB,if_false,pure_bind]
     exact a3
    ·rcases dU.mp aD with z |z
     ·cases z;exact absurd rfl q
     ·exact cI x z
 refine lH (go scope.names [] h (λx c e=>by simp at e)) λdx a3 a4 cI o g4=>?_
 refine FR dx ?_ a4 cI (λx c e=>(g4 x c e).resolve_right (by simp))
 show(forIn scope.names [] _ >>= λr=>pure r)=_
 rw[bind_pure]
 refine t4 ?_ a3
 congr 1
end
section
variable{D:Bool}{E:bM}{K:cb}{M:cv}{m:List bo}{W J bT bV:List aa}{s:ay}{names:List (I×b4)}{U c':List (I×Nat)}{d:Nat}{O:bo}{C:aI}{l:St}{bp:aa->List L->St->ao L}{aA:ab->ay->Prop}
 {cx:aa} {done:List L}
theorem Ec(is:List Nat):∀(C:aI)(i:Nat)(a:L),(kb is C)[i]? =some (some a)->i∉is∧C[i]? =some (some a):=by
 induction is with
 |nil=>intro C i a h;exact⟨(hK),h⟩
 |cons j r aJ=>
  intro C i a h
  refine dL (aJ (C.set j none) i a h) λai am=>?_
  by_cases q:j=i
  ·subst q
   replace am:=(Ct)▸am
   cases e:C[j]? with
   |none=>rw[e] at am;nomatch am
   |some A=>rw[e] at am;simp at am
  ·rw[k' q] at am
   exact⟨by simp[ai];exact λz=>q z.symm,am⟩
theorem Ku{is MM:List Nat}{C:aI}(h:∀i∈MM,i∈is):wG MM (kb is C):=λi aR a e=>(Ec is C i a e).1 (h i aR)
theorem V0{scope:fa}{em:List Nat}{dx:List (I×aa)}{bF:aV}{d0:bo}{HD:aI}{pk:I}{t:Nat}(P:dN E names U d M m O J C l s)(Q:oz names U scope c' em)
 (l4:∀x c,dx.lookup x=some c->O.cells.lookup x=some c) (l5:∀x,(x,kv)∈scope.names->∃c,dx.lookup x=some c)
 (dD:mD scope dx s d0 bF) (bw:d0=A7 scope d0.locals O.globals d0.cells pk none .none (some O) sL) (eB:wG em HD) (bS:∀(i:Nat)a,HD[i]? =some (some a)->C[i]? =some (some a)):
 dN E (d' names scope.names) c' d M m {d0 with scope:=lz scope O} J HD l {s with heap:=bF,toks:=t}:=by
 have w6:∀a,s.heap.get? a=none->E.heap.get? a=none:=λa ar=>tQ P.st.base ar
 have A6:((d' names scope.names).map (·.1)).Nodup:=by simp only[O7];exact Q.nodup
 have xF:∀x,pG {d0 with scope:=lz scope O} x=(d' names scope.names).lookup x:=λx=>by
  dsimp only[pG];simp only[x8 P.dJ]
 have dP:fq E J J s.heap bF:=.of (λo o e=>e) dD.keep
 have only:∀{x k cg},(x,k)∈scope.names->(x,cg)∈scope.names->k=cg:=λai am=>dq ((pd Q.nodup ai).symm.trans (pd Q.nodup am))
 refine⟨P.room,⟨Q.kind,x8 P.dJ,by rw[bw];exact P.dJ.globals,by rw[bw];exact P.dJ.builtins⟩,⟨⟨_,dD.ns⟩,λhm=>P.st.there _ hm dD.loc,λx i e=>?_,dD.inj,w6 _ dD.loc,λx c aM aD=>?_⟩,P.st.more dD.keep,⟨λcm xj=>?_⟩⟩
 ·rcases Q.tab x i e with⟨h |h,aR⟩| ⟨h,aR⟩
  ·refine bx none ?_ (λa ar=>absurd ar (eB i aR a))
   exact .ns ((xF x).trans (pd A6 (O8 h (by simp)))) _ dD.ns rfl
  ·refine ij (dD.cell x h) λc ai am a6 c2=>?_
   refine bx none ?_ (λa ar=>absurd ar (eB i aR a))
   exact .cell (.inl ((xF x).trans (pd A6 (O8 h (by simp))))) c ai c2
  ·refine aU (Q.free x h) λn9 o ck=>?_
   refine bz (l5 x h) λc aK=>?_
   have Ze:=l4 x c aK
   have Y4:d0.cells.lookup x=some c:=by(refine(dD.old x (λz=>by have:=only h z;cases this))▸?_);exact aK
   refine aU (P.lo.val x i aR) λv p q=>?_
   have qj:s.heap.IsCell c v:=aU (p.wS (P.dJ.kindOf x▸ck)) λdd a3 a4=>dq (a3.symm.trans Ze)▸a4
   have Y5:bF.IsCell c v:=aU qj λA az hd=>bx A (dD.keep _ _ az) hd
   refine bx v ?_ (λa ar=>aU (q a (bS i a ar)) λu ai am=>bx u ai (am.mono dP _ _))
   refine .cell ?_ c Y4 Y5
   rcases ck with ck |ck
   ·exact .inl ((xF x).trans (pd A6 (gY.mpr ⟨(x,.free),h,by simp[ck]⟩)))
   ·exact .inr ((xF x).trans (pd A6 (gY.mpr ⟨(x,.free),h,by simp[ck]⟩)))
 ·rw[xF] at aM
  rcases O6 (mem_of_lookup aM) with h |⟨h,ck⟩
  ·refine cr (dD.cell x h) λdd ai am o=>?_
   have rH:d0.cells.lookup x=some c:=aD
   replace ai:=rH▸ai;(obtain rfl:=dq ai)
   exact w6 c am
  ·have rH:d0.cells.lookup x=some c:=aD
   rw[dD.old x (λz=>by have:=only h z;cases this)] at rH
   exact P.lo.m6 x c (by rw[P.dJ.kindOf];exact ck) (l4 x c rH)
 ·obtain⟨cF,aB,cz,g9,rL,N,iX⟩:=P.fr.each cm xj
  exact⟨cF,aB,cz,g9,rL,N,iX.keeps dD.keep⟩
theorem a'.adopt{h:aV}{a:aa}{A:aQ}(S:a' E J l h)(ar:a∉J)(bQ:E.heap.get? a=none)(r:f3 E (J++[a]) h A a):a' E (J++[a]) (l++[A]) h:=S.OW (λo o e=>e) ar bQ r
theorem bG.adopt{b3:List aa}{bd:ay}{a:aa}(g:bG D bT W J s b3 bd)(ar:s.heap.get? a=none):bG D bT W J s (b3++[a]) bd:=
 ⟨aU g.ext λhl e f=>bx (hl++[a]) (e▸fF ..) λb ag=>(ip.mp ag).elim (f b) λq=>y0 q▸ar,g.keep,g.live,g.same,g.lp,g.lv⟩
theorem DN{scope:fa}{em:List Nat}(Q:oz names U scope c' em)(P:dN E names U d M m O J C l s):∀x,(x,kv)∈scope.names->∃c v,O.cells.lookup x=some c∧s.heap.IsCell c v:=λx aD=>by
 refine aU (Q.free x aD) λi aR ck=>?_
 refine aU (P.lo.val x i aR) λv p o=>?_
 exact aU (p.wS (P.dJ.kindOf x▸ck)) λc aK qj=>qx c v aK qj
theorem J0{bZ bg iter:Expr}{dK:List Expr}{cu gens:List io}{scope:fa}{pos:bu}{t:e3}{em:List Nat}{body:ab->bo->dh Unit}{hz:bo->List aa}{bU:aI->St->ao (List L)}{use:Option (ab->dh Unit)}{an:ab->ay->Prop}
 {dx:List (I×aa)} {it:ab} {is:List L} {g:Option (Nat×aQ)} {ak:St} {eI:List aa} {cR:ay}
 (xm:gens=⟨bg,iter,dK,0⟩:: cu) (Q:oz names U scope c' em) (ok:h3 (d' names scope.names) c' t bg) (Fg:∀i∈t.slots,i∈em)
 (xu:∀it bc d0,h0 (d' names scope.names) d0->uz (.ListComp bZ gens scope pos) 0 it bc d0=pu (.compLoop (.ListComp bZ gens scope pos) 0 it bc d0) bg iter it (body bc d0) d0)
 (b1:∀a bb,nR t a (kb em C)=some bb->um E D (d' names scope.names) c' d hz body bb (bU bb))
 (xe:∀O J C(h:aV),h0 (d' names scope.names) O->er E c' O J C h->∀a∈hz O,a∈fw c' O)
 (EB:∀dx d0 bF s,mD scope dx s d0 bF->∀a∈lE {d0 with scope:=lz scope O} bg++hz {d0 with scope:=lz scope O},s.heap.get? a=none)
 (l4:∀x c,dx.lookup x=some c->O.cells.lookup x=some c) (l5:∀x,(x,kv)∈scope.names->∃c,dx.lookup x=some c) (xg:∀x c,dx.lookup x=some c->(x,kv)∈scope.names)
 (eT:dN E names U d M m O eI C ak cR) (dE:bG D (ci m) [] J s eI cR) (jh:∀a∈bV,s.heap.get? a=none∧E.heap.get? a=none∧a∉eI∧a∉ci m) (rA:fE E bV cR.heap)
 (s5:∀aw av ah,a' E aw av ah.heap->(∀(n:Nat)a,eI[n]? =some a->aw[n]? =some a)->(∀b A,cR.heap.get? b=some A->ah.heap.get? b=some A)->(∀a∈bV,a∉aw)->gP av g=true->jZ E D M (ci m) bV bg it g is aw ah)
 (mX:∀(ah:ay)(an:ab->ay->Prop)(aA:ab->ay->Prop),(∀b A,cR.heap.get? b=some A->ah.heap.get? b=some A)->an it ah->a9 (a1 aH w) M (ly it) an aA ah)
 {Y:List L} {a2:St} (cI:j9 (jn t (kb em C) bU) g is ak=.ok Y a2) (dW:Y.length<b8)
 (ql:∀cx Q ah aw,a' E aw a2 ah.heap->Acc E m aw ah.heap cx Y->bG D (ci m) [] J s aw ah->s.heap.get? cx=none->(∃N,ah.heap.Ns Q N)->s.heap.get? Q=none->Q∉aw->E.heap.get? Q=none->
  zU (a1 aH w) M aA use an (.ref cx) Q (.ok .next) ah):
 a9 (a1 aH w) M (F3 []) (λbc jl=>a9 (a1 aH w) M (A8 scope O.globals dx [] O.qual none .none (some O)) (λd0 tR=>gy (a1 aH w) M (.compStart (.ListComp bZ gens scope pos) 0 it bc {d0 with scope:=lz scope O}) (zU (a1 aH w) M aA use an bc d0.locals) tR) aA jl) aA cR:=by
 subst xm
 have di:=eT.st
 have n2:=DN Q eT
 have back:∀a,cR.heap.get? a=none->s.heap.get? a=none:=λa ar=>dE.gone ar
 have Yv:∀a,cR.heap.get? a=none->E.heap.get? a=none:=λa ar=>tQ di.base ar
 have nV:cR.heap.get? cR.heap.objs.size=none:=hR
 refine BX ?_
 have bv:∀b A,cR.heap.get? b=some A->(cR.heap.push {cls:=.type "list",dict:=none,data:=.seq ([]:List ab).toArray}).get? b=some A:=λb A e=>dM _ e
 have jb:bG D (ci m) [] eI cR eI {cR with heap:=cR.heap.push {cls:=.type "list",dict:=none,data:=.seq ([]:List ab).toArray}}:=.more (t:=cR.toks) bv
 have sz:=eT.grow jb (di.more bv)
 refine NU (λx y c a3 a4=>eT.lo.apart x y c (l4 x c a3) (l4 y c a4)) (λx c e=>?_) λd0 m0 dD bw=>?_
 ·refine k5 (n2 x (xg x c e)) λdd v ai am=>?_
  replace ai:=(l4 x c e)▸ai;(obtain rfl:=dq ai)
  refine aU am λA az o=>?_
  exact eF (bv c A az)
 ·have ue:dN E (d' names scope.names) c' d M m {d0 with scope:=lz scope O} eI (kb em C) ak {cR with heap:=m0}:=by
   have:=V0 (t:=cR.toks) sz Q l4 l5 dD bw (Ku λi aR=>aR) λi a e=>(Ec em C i a e).2
   exact this
  have AW:∀b A,cR.heap.get? b=some A->m0.get? b=some A:=λb A e=>dD.keep b A (bv b A e)
  have qg:bG D (ci m) [] J s eI {cR with heap:=m0}:=dE.trans (.more (t:=cR.toks) AW)
  have C6:Acc E m eI m0 cR.heap.objs.size []:=⟨⟨#[],⟨0,dD.keep _ _ (eS _ rfl)⟩,.nil⟩,di.fresh,λhm=>oZ eT.fr hm nV,Yv _ nV⟩
  have Zq:fE E bV m0:=λa ar=>aU (rA a ar) λA az aK=>bx A (AW a A az) aK
  have xo:=Nn (R:=zU (a1 aH w) M aA use an (.ref cR.heap.objs.size) d0.locals) (g:=g) (t:=t) (body:=body) (hz:=hz) (bU:=bU) (W:=[]) (se:=J) (nf:=s) (it:=it) (bV:=bV) (r6:=Y) (λbc=>xu it bc _ ue.dJ) Q.gJ ok (Ku Fg) b1 xe ue C6 Zq jh
   (λhm=>by obtain⟨A,az,_⟩:=rA _ hm;rw[nV] at az;nomatch az)
   (λEY=>s5 eI ak {cR with heap:=m0} ue.st (λo o e=>e) AW (λa ar=>(jh a ar).2.2.1) EY) cI (List.nil_append _) dW qg (λa ar=>.inr (by
    rcases ar with q |q
    ·refine q▸?_;exact back _ nV
    ·have:=EB dx d0 m0 _ dD a (ip.mpr q)
     refine back a ?_
     cases z:cR.heap.get? a with
     |none=>rfl
     |some A=>rw[show(cR.heap.push {cls:=.type "list",dict:=none,data:=.seq ([]:List ab).toArray}).get? a=some A from bv a A z] at this;nomatch this)) λah aw hM kE fB=>?_
  ·exact JX (g:=⟨bg,iter,dK,0⟩) rfl rfl xo (mX _ _ _ AW xo)
  ·refine ql _ _ ah aw hM.st kE fB (back _ nV) hM.lo.ns (back _ ?_) hM.lo.nm hM.lo.pf
   cases z:cR.heap.get? d0.locals with
   |none=>rfl
   |some A=>have:=dD.loc;rw[show(cR.heap.push {cls:=.type "list",dict:=none,data:=.seq ([]:List ab).toArray}).get? d0.locals=some A from bv _ A z] at this;nomatch this
theorem J1{bZ bg iter:Expr}{dK:List Expr}{cu gens:List io}{scope:fa}{pos p:bu}{t:e3}{em:List Nat}{body:ab->bo->dh Unit}{hz:bo->List aa}{bU:aI->St->ao (List L)}{jM:St->ao (List L×Option (Nat×aQ))}{pure:Bool}{use:Option (ab->dh Unit)}{an:ab->ay->Prop}
 (xm:gens=⟨bg,iter,dK,0⟩:: cu) (n7:gc iter) (dy:pure=true->D=true) (Q:oz names U scope c' em) (ok:h3 (d' names scope.names) c' t bg) (Fg:∀i∈t.slots,i∈em)
 (xu:∀it bc d0,h0 (d' names scope.names) d0->uz (.ListComp bZ gens scope pos) 0 it bc d0=pu (.compLoop (.ListComp bZ gens scope pos) 0 it bc d0) bg iter it (body bc d0) d0)
 (aR:js E D names U d iter bg C jM) (b1:∀a bb,nR t a (kb em C)=some bb->um E D (d' names scope.names) c' d hz body bb (bU bb))
 (xe:∀O J C(h:aV),h0 (d' names scope.names) O->er E c' O J C h->∀a∈hz O,a∈fw c' O)
 (EB:∀dx d0 bF s,mD scope dx s d0 bF->∀a∈lE {d0 with scope:=lz scope O} bg++hz {d0 with scope:=lz scope O},s.heap.get? a=none)
 (P:dN E names U d M m O J C l s) {Y:List L} {a2:St} (ba:(jM l).bind (ln pure (jn t (kb em C) bU))=.ok Y a2) (dW:Y.length<b8)
 (ql:∀cx Q ah aw,a' E aw a2 ah.heap->Acc E m aw ah.heap cx Y->bG D (ci m) [] J s aw ah->s.heap.get? cx=none->(∃N,ah.heap.Ns Q N)->s.heap.get? Q=none->Q∉aw->E.heap.get? Q=none->
  zU (a1 aH w) M aA use an (.ref cx) Q (.ok .next) ah):
 a9 (a1 aH w) M (V1 (.ListComp bZ gens scope pos) scope O p (F3 []) false (fb iter O) use) an aA s:=by
 have xl:∀x,Ag iter O x=zm x:=n7.set O
 refine eL (JO dy ba) λaim ak a3 a4 cI=>?_
 obtain⟨is,g⟩:=aim
 have n2:=DN Q P
 refine ij (JP (O:=O) (scope:=scope) λx aD=>k5 (n2 x aD) λc v h o=>⟨c,h⟩) λdx EL l4 l5 xg=>?_
 subst xm
 refine aht (cl:=dx) (g:=⟨bg,iter,dK,0⟩) (gs:=cu) rfl xl EL Q.kind (λx aD aN=>by
  obtain⟨n,k⟩:=x
  simp only at aN;subst aN
  exact pd Q.nodup aD) ?_
 refine fx (aR _ _ _ _ _ _ P (by refine a4▸?_;simp)) (λx bd bF=>fx bF (λit cR x3=>?_) λe cR x3=>?_) λe cR x3=>?_
 ·obtain⟨pp,alO,q,eI,di,fj,dE⟩:=x3
  replace q:=a4▸q;cases q
  refine ij fj λbV jh rA s5 mX=>?_
  exact J0 rfl Q ok Fg xu b1 xe EB l4 l5 xg (P.grow dE di) dE jh rA s5 mX cI dW ql
 ·obtain⟨a,av,q,_⟩:=x3
  replace q:=a4▸q;cases q
 ·obtain⟨a,av,q,_⟩:=x3
  replace q:=a4▸q;cases q
end
noncomputable def FZ(ns:List (I×b4))(x:I):Bool:=ns.lookup x==some .local||ns.lookup x==some .cell
noncomputable def lD(ns:List (I×b4))(e:Expr):Bool:=(wW e).all λe=>FZ ns (idOf e)
section
variable(E:bM)(D:Bool)(names:List (I×b4))(U:List (I×Nat))(d:Nat)
def pF(bZ:Expr)(gens:List io)(scope:fa)(pos:bu)(C:aI)(k:St->ao (List L)):Prop:=
 ∀M m O J l s(aA:ab->ay->Prop)use(an:ab->ay->Prop)Y a2,dN E names U d M m O J C l s->k l=.ok Y a2->Y.length<b8->
  (∀cx Q ah aw,a' E aw a2 ah.heap->Acc E m aw ah.heap cx Y->bG D (ci m) [] J s aw ah->s.heap.get? cx=none->(∃N,ah.heap.Ns Q N)->s.heap.get? Q=none->Q∉aw->E.heap.get? Q=none->
   zU (a1 aH w) M aA use an (.ref cx) Q (.ok .next) ah)->
  a9 (a1 aH w) M (V1 (.ListComp bZ gens scope pos) scope O (firstIterPos gens pos) (F3 []) (firstAsync gens) (firstIter gens O) use) an aA s
end
section
variable{D:Bool}{E:bM}{K:cb}{M:cv}{m:List bo}{W J bT bV:List aa}{s:ay}{names:List (I×b4)}{U c':List (I×Nat)}{d:Nat}{O:bo}{C:aI}{l:St}{bp:aa->List L->St->ao L}{aA:ab->ay->Prop}
 {cx:aa} {done:List L}
theorem adA{em:List Nat}{scope:fa}{x:I}{dx:List (I×aa)}{d0:bo}{bF:aV}(cW:∀(x:I),pG {d0 with scope:=lz scope O} x=(d' names scope.names).lookup x)(Q:oz names U scope c' em)(bw:FZ scope.names x=true)
 (dD:mD scope dx s d0 bF):s.heap.get? (placeOf {d0 with scope:=lz scope O} x)=none:=by
 dsimp only[placeOf]
 rw[cW]
 split
 ·rename_i aK
  rcases O6 (mem_of_lookup aK) with h |⟨h,_⟩
  ·refine cr (dD.cell x h) λc ai am o=>?_
   exact(ai▸am:s.heap.get? ((d0.cells.lookup x).getD 0)=none)
  ·unfold FZ at bw
   replace bw:=(pd Q.nodup h)▸bw
   cases bw
 ·exact dD.loc
theorem BG{em:List Nat}{scope:fa}{bg:Expr}{dx:List (I×aa)}{d0:bo}{bF:aV}(cW:∀(x:I),pG {d0 with scope:=lz scope O} x=(d' names scope.names).lookup x)(Q:oz names U scope c' em)(aO:lD scope.names bg=true)
 (dD:mD scope dx s d0 bF):∀a∈lE {d0 with scope:=lz scope O} bg,s.heap.get? a=none:=λa ar=>aU (gY.mp ar) λe bw z=>z▸adA cW Q (i8.mp aO e bw) dD
theorem JY{bZ bg iter:Expr}{dK:List Expr}{scope:fa}{pos:bu}{t:e3}{jM:St->ao (List L×Option (Nat×aQ))}{e5:aI->St->ao Bool}{ds:aI->St->ao L}{pure:Bool}
 (n7:gc iter) (dy:pure=true->D=true) (Q:oz names U scope c' t.slots) (ok:h3 (d' names scope.names) c' t bg) (aO:lD scope.names bg=true)
 (aR:js E D names U d iter bg C jM) (aG:∀bb,qX E D (d' names scope.names) c' d dK bb (e5 bb)) (bw:∀bb,dB E D (d' names scope.names) c' d bZ bb (ds bb)):
 pF E D names U d bZ [⟨bg,iter,dK,0⟩] scope pos C (λl=>(jM l).bind (ln pure (jn t (kb t.slots C) (iS e5 ds)))):=λM m O J l s aA use an Y a2 P ba dW ql=>J1 (bU:=iS e5 ds) (body:=λbc O=>p5 bZ dK bc O) (hz:=λo=>[]) rfl n7 dy Q ok (λo h=>h) (λit bc d0 o=>JZ ..) aR
  (λa bb o=>Hi (aG bb) (bw bb)) (λo o o o o o a ar=>by simp at ar) (λdx d0 bF s dD a ar=>by
   rw[iK] at ar
   exact BG (λx=>by dsimp only[pG];rw[x8 P.dJ]) Q aO dD a ar) P ba dW ql
theorem VW{bZ bg iter fk fC:Expr}{fR:List Expr}{scope:fa}{pos:bu}{t c9:e3}{jM:St->ao (List L×Option (Nat×aQ))}{FG:aI->St->ao (List L×Option (Nat×aQ))}{e5:aI->St->ao Bool}{ds:aI->St->ao L}{pure:Bool}
 (n7:gc iter) (Z':gc fC) (dy:pure=true->D=true) (Q:oz names U scope c' (t.slots++c9.slots)) (ok:h3 (d' names scope.names) c' t bg) (Bf:h3 (d' names scope.names) c' c9 fk)
 (aO:lD scope.names bg=true) (s9:lD scope.names fk=true) (Y':∀i∈c9.slots,i∉t.slots)
 (aR:js E D names U d iter bg C jM) (gD:∀bb,js E D (d' names scope.names) c' d fC fk bb (FG bb)) (aG:∀bb,qX E D (d' names scope.names) c' d fR bb (e5 bb)) (bw:∀bb,dB E D (d' names scope.names) c' d bZ bb (ds bb)):
 pF E D names U d bZ [⟨bg,iter,[],0⟩,⟨fk,fC,fR,0⟩] scope pos C (λl=>(jM l).bind (ln pure (jn t (kb (t.slots++c9.slots) C) λbb l=>(FG bb l).bind (ln pure (jn c9 bb (iS e5 ds)))))):=λM m O J l s aA use an Y a2 P ba dW ql=>by
 have xl:∀(d0:bo)x,Ag fC d0 x=zm x:=Z'.set
 refine J1 (em:=t.slots++c9.slots) (bU:=λbb l=>(FG bb l).bind (ln pure (jn c9 bb (iS e5 ds))))
  (body:=λbc O=>zT (.ListComp bZ [⟨bg,iter,[],0⟩,⟨fk,fC,fR,0⟩] scope pos) fk fC fR bc O) (hz:=λO=>lE O fk) rfl n7 dy Q ok (λo h=>pL _ h)
  (λit bc d0 o=>VZ _ _ _ _ _ _ _ _ _ _ _ (xl d0)) aR
  (λa bb ag=>agO dy Q.gJ Bf (λi aR a e=>?_) (gD bb) λb HC o=>Hi (aG HC) (bw HC)) (λO J C h cW aB a ar=>BH (s:=⟨h,s.gens,s.drawn,s.toks,s.os⟩) cW Bf aB a ar) (λdx d0 bF s dD a ar=>?_) P ba dW ql
 ·rw[Jr ag i (Y' i aR)] at e
  exact(Ec _ _ _ _ e).1 (wo _ aR)
 ·have cW:∀(x:I),pG {d0 with scope:=lz scope O} x=(d' names scope.names).lookup x:=λx=>by dsimp only[pG];rw[x8 P.dJ]
  rcases ip.mp ar with q |q
  ·exact BG cW Q aO dD a q
  ·exact BG cW Q s9 dD a q
theorem TB{h ae:aV}{Q:aa}{Y:List L}(X:Acc E m J h cx Y)(S:a' E J l h)(ag:hw Q h ae)(cB:∃N,h.Ns Q N)(hm:Q∉J)(bQ:E.heap.get? Q=none)(dW:Y.length<b8):
 a' E (J++[cx]) (l++[.list Y]) ae:=by
 refine ge λdT cD=>?_
 obtain⟨N,gr⟩:=cB
 have fz:∀T,¬h.IsTuple Q T:=λT e=>pg gr e
 have cG:=S.off ag hm bQ fz
 refine aU X.at_ λbH cZ r=>?_
 refine cD ?_
 clear cD dT
 have d5:cx≠Q:=by
  rintro rfl
  refine jq gr λA af a0 az hd o=>?_
  refine bz cZ λde e=>?_
  replace e:=az▸e;(obtain rfl:=dq e);cases hd
 have dP:fq E J (J++[cx]) h ae:=⟨λn b e=>by rw[jv (gt.mp e).1,e],(mi (E:=E) (J:=J) ag fz).tup⟩
 have aN:=r.length
 have:=nP dW
 exact cG.adopt X.off X.new ⟨bH,cZ.at λA e=>(ag.2 cx d5).trans e,by simp at aN;exact cf [_,_,_] 1 al ax 1 al aT 1 aT ax rfl (dI aN) this,r.mono dP _ _⟩
theorem kept{r:ao (List L)}(aD:∀e av,r≠.exc e av)(aG:r.bind od≠.fail):∃Y a2,r=.ok Y a2∧Y.length<b8∧r.bind od=.ok (.loc a2.length) (a2++[.list Y]):=by
 cases r with
 |exc e av=>exact absurd rfl (aD e av)
 |fail=>exact absurd rfl aG
 |ok Y a2=>
  by_cases aN:Y.length<b8
  ·exact⟨Y,a2,rfl,aN,if_pos aN⟩
  ·exact absurd (if_neg aN) aG
theorem Ef{bZ:Expr}{g:io}{cu:List io}{scope:fa}{pos:bu}{k:St->ao (List L)}(h:pF E D names U d bZ (g::cu) scope pos C k):
 (∀l e av,k l≠.exc e av)->dB E D names U d (.ListComp bZ (g::cu) scope pos) C (λl=>(k l).bind od):=λaD M m O J l s P aG=>by
 dsimp only at aG |-
 refine eL (kept (aD l) aG) λY a2 ea aN e=>?_
 generalize (k l).bind od=r at aG e |-
 refine h M m O J l s _ none _ Y a2 P ea aN λcx Q ah aw S X g hd cB ai am a6=>bz cB λN hm=>?_
 exact bx N hm λae ag=>⟨_,_,e,aw++[cx],TB X S ag cB am a6 aN,bx cx (by rw[<-S.len];simp) rfl,(tF (t:=ah.toks) g (.of_same (E:=E) ag λT e=>pg hm e) (by simpa using ai)).adopt hd⟩
theorem VG{r:ao (List L×Option (Nat×aQ))}(h:ll D r.g'≠.fail):r.g'=r:=by
 cases r <;> first |rfl |exact absurd rfl h
theorem js.g'{iter bg:Expr}{k:St->ao (List L×Option (Nat×aQ))}(h:js E D names U d iter bg C k):js E D names U d iter bg C (λl=>(k l).g'):=λM m O J l s P aG=>by
 dsimp only at aG |-
 have e:=VG aG
 rw[e] at aG |-
 exact h _ _ _ _ _ _ P aG
theorem F5{α bq:Type}{r:ao α}{f:α->St->ao bq}{e:L}{av:St}(h:r.g'.bind f=.exc e av):∃a l,f a l=.exc e av:=by
 cases r with
 |ok a l=>exact A0 a l h
 |exc _ _=>cases h
 |fail=>cases h
theorem VV{f:L->St->ao (List L)}{g:Option (Nat×aQ)}{Y:List L}{l av:St}{e:L}(h:j9 f g Y l=.exc e av):False:=by
 by_cases q:gP l g=true
 ·cases Y with
  |nil=>cases (if_pos q).symm.trans h
  |cons a r=>exact ik (F5 ((if_pos q).symm.trans h)) λo o z=>ik (F5 z) λo o z=>by cases z
 ·cases Y <;> cases (if_neg q).symm.trans h
theorem zV{F:L->St->ao (List L)}{r:ao (List L×Option (Nat×aQ))}{pure:Bool}{e:L}{av:St}:r.g'.bind (ln pure F)≠.exc e av:=λaD=>ik (F5 aD) λp ak q=>by
 by_cases h:(jP p.2||pure)=false
 ·cases (if_pos h).symm.trans q
 ·exact VV ((if_neg h).symm.trans q)
end
section
variable{D:Bool}{E:bM}{K:cb}{M:cv}{m:List bo}{W J bT bV:List aa}{s:ay}{names:List (I×b4)}{U c':List (I×Nat)}{d:Nat}{O:bo}{C:aI}{l:St}{bp:aa->List L->St->ao L}{aA:ab->ay->Prop}
 {cx:aa} {done:List L}
theorem abN{h ae:aV}{Q:aa}(aB:er E U O J C h)(ag:hw Q h ae)(cB:∃N,h.Ns Q N)(aN:O.locals≠Q):er E U O J C ae:=by
 exact bz cB λaln cB=>aB.to aB.nm (λN=>Ns.but ag aN) (λc v e=>zQ ag (λz=>xS cB (z▸e)) e) (λo o r=>r.mono (mi ag λT e=>pg cB e) _ _) rfl
theorem afA{x:I}{i:Nat}{bZ:Expr}{g:io}{cu:List io}{scope:fa}{DX bN pos:bu}{k:aI->St->ao (List L)}(bn:gJ U)(aD:U.lookup x=some i)(az:m1 names x=true)
 (h:∀C,pF E D names U d bZ (g::cu) scope DX C (k C)) (LV:∀C l e av,k C l≠.exc e av):
 kB E D names U d (.Assign [.Name x bN] (.ListComp bZ (g::cu) scope DX) pos) (λC l=>((k C l).bind od).bind λa ak=>.ok (.next,C.set i (some a)) ak):=λM m O J C l s P=>by
 have o7:∃b,Qj (.ListComp bZ (g::cu) scope DX) (some (.Name x bN)) pos.line O=pure b:=⟨_,rfl⟩
 refine bz o7 λb o7=>?_
 cases b with
 |false=>
  rw[XJ O x bN _ pos o7]
  refine .gI (a5.nQ (Ef (h C) (LV C) _ _ _ _ _ _ P) λa ak u bd b3 iV bt cN bK=>.gI ?_)
  have hx:=P.grow bK bt
  have:=a5.bind (D:=D) (gZ:=mJ E U O) (k:=λbb a2=>.ok (.next,bb) a2) (f:=λo=>pure wb) (W:=fw U O) (M:=M) (m:=O::m) (N:=Dx O x u) (λaG=>QW (QC (D:=D) hx bn aD az cN aG))
   λbb a2 v cR eI o di fj dE=>.ok di (.next fj)
  exact this
 |true=>
  rw[exec_Assign_Name_used _ _ _ _ o7]
  refine .gI λaG=>?_
  dsimp only at aG |-
  refine eL (kept (LV C l) λz=>aG (by rw[z];rfl)) λY a2 ea aN e=>?_
  generalize ba:((k C l).bind od).bind (λa ak=>ao.ok (dg.next,C.set i (some a)) ak)=r at aG |-
  replace ba:=ba.symm.trans (congrArg (λr=>ao.bind r λa ak=>ao.ok (dg.next,C.set i (some a)) ak) e)
  refine aE ?_
  refine aE (h C M (O::m) O J l s _ (some (assign (.Name x bN) O)) _ Y a2 P ea aN λcx Q ah aw S X bK hd cB ai am a6=>?_)
  refine bz cB λN hm=>?_
  refine aU X.at_ λbH cZ yb=>?_
  have dW:=yb.length
  have YU:=nP aN
  have dP:fq E aw (aw++[cx]) ah.heap ah.heap:=.of (λn b e=>by simp only[jv (gt.mp e).1,e]) λo o e=>e
  have bt:a' E (aw++[cx]) (a2++[.list Y]) ah.heap:=S.adopt X.off X.new ⟨bH,cZ,by simp at dW;exact cf [_,_,_] 1 al ax 1 al aT 1 aT ax rfl (dI dW) YU,yb.mono dP _ _⟩
  have dE:=bK.adopt hd
  have uc:=P.lo.grow dE P.st
  have ZF:O.locals≠Q:=by
   rintro e
   refine yH P.lo.ns λde A af a0 eA o=>?_
   simp only[e,ai] at eA;cases eA
  have Yy:Q∉aw++[cx]:=λl8=>by
   rcases ip.mp l8 with q |q
   ·exact am q
   ·simp at q;subst q
    refine jq hm λA af a0 eA eO o=>?_
    refine bz cZ λde e=>?_
    replace e:=eA▸e;(obtain rfl:=dq e);cases eO
  refine P8 (i:=i) P.dJ.kind P.dJ bn (.mk aD az) uc bt (a:=.loc a2.length) (by exact bx cx (by refine S.len▸?_;simp) rfl) _ λae c9 B1=>?_
  obtain⟨de,gE⟩:=B1.ns Q N hm
  refine bx de gE (λcC ag=>?_)
  refine bj (bj ⟨_,_,ba,aw++[cx],B1.st.off ag Yy a6 λT e=>pg gE e,(.next (abN B1.lo ag ⟨de,gE⟩ ZF)),?_⟩)
  have qf:bG D (ci (O::m)) (fw U O) (aw++[cx]) ah (aw++[cx]) {ah with heap:=ae,toks:=c9}:=B1.grow.weaken λa ar=>by
   simp[tv] at ar;subst ar
   exact Bj aD uc (xE P.dJ az)
  exact tF (t:=c9) ((dE.weaken (by simp)).trans qf) (.of_same (E:=E) ag λT e=>pg gE e) (by simpa using ai)
end
section
variable(E:bM)(D:Bool)(names:List (I×b4))(U:List (I×Nat))(d:Nat)
def yQ(e:Option Expr)(C:aI)(k:St->ao L):Prop:=∀M m O J l s,dN E names U d M m O J C l s->a5 E D M m [] J s (valueOrNone (evalOpt e O)) (bf E) (k l)
end
section
variable{D:Bool}{E:bM}{K:cb}{M:cv}{m:List bo}{W J bT bV:List aa}{s:ay}{names:List (I×b4)}{U c':List (I×Nat)}{d:Nat}{O:bo}{C:aI}{l:St}{bp:aa->List L->St->ao L}{aA:ab->ay->Prop}
theorem Xf{eH slice:Expr}{pos:bu}{d1 bU:St->ao L}(Z:ef K E)(ar:dB E D names U d eH C d1)(ag:dB E D names U d slice C bU):
 dB E D names U d (.Subscript eH slice pos) C (λl=>(d1 l).bind λx ak=>(bU ak).bind λy a2=>opt (AI a2 x y) a2):=λM m O J l s P=>by
 refine a5.bind (ar _ _ _ _ _ _ P) λx ak u bd b3 o bt cN bK=>?_
 refine a5.bind (a5.holding (ag _ _ _ _ _ _ (P.grow bK bt))) λy a2 v cR eI o di fj dE=>?_
 exact .gI (agt Z di P.room.u (cN.on bt dE) fj)
theorem Xu:yQ E D names U d none C (λl=>.ok .none l):=λM m O J l s P=>.ok P.st rfl
theorem BZ{cw:pN}{α bq:Type}{N:dh α}{f:α->dh bq}{T:List ab}{an:bq->ay->Prop}(h:a9 cw M (N >>= f) an aA s):a9 cw M (holding T N >>= f) an aA s:=λgj p g7=>by
 have:=h gj p g7
 simp only[Tk] at this |-
 simp only[Sem.wp_holding]
 exact this
theorem a5.yv{α bq im:Type}{R:List aa->aV->im->bq->Prop}{N:dh α}{f:α->dh bq}{T:List ab}{r:ao im}(t:a5 E D M m W J s (N >>= f) R r):a5 E D M m W J s (PySem.holding T N >>= f) R r:=λaG=>BZ (t aG)
theorem Xn{eH:Expr}{lo aR:Option Expr}{pos bN:bu}{d1 MY MT:St->ao L}(ar:dB E D names U d eH C d1)(aN:yQ E D names U d lo C MY)(a8:yQ E D names U d aR C MT):
 dB E D names U d (.Subscript eH (.Slice lo aR none bN) pos) C (λl=>(d1 l).bind λx ak=>(MY ak).bind λm a2=>(MT a2).bind λu f9=>eC (yg f9 x m u)):=λM m O J l s P=>by
 dsimp only[Jf]
 refine a5.bind (ar _ _ _ _ _ _ P) λx ak u bd b3 o bt cN bK=>.yv ?_
 rw[TX,bind_assoc]
 refine a5.bind (aN _ _ _ _ _ _ (P.grow bK bt)) λy a2 vO cR eI o di fj dE=>?_
 rw[bind_assoc]
 have eT:=(P.grow bK bt).grow dE di
 refine .yv (a5.bind (a8 _ _ _ _ _ _ eT) λz f9 alJ jl sf o kC oj jb=>?_)
 rw[bind_assoc]
 refine .yv ?_
 refine(?_:a5 _ _ _ _ _ _ _ (pure g0 >>= _) _ _)
 exact agD kC ((cN.on bt dE).on di jb) (fj.on di jb) oj
theorem XD{op:i4}:t5 E D names U d op [] C (λl=>.ok (.bool (op == .And)) l):=λM m O J l s P=>by
 show a5 _ _ _ _ _ _ _ (pure (op == .And)) oM _
 cases op <;> exact .ok P.st rfl
theorem Xx{op:i4}{af:List Expr}{pos:bu}{k:St->ao L}(h:t5 E D names U d op af C k):jt E D names U d (.BoolOp op af pos) C k:=λM m O J l s P=>by
 simp only[arm_isTrue_BoolOp];exact h _ _ _ _ _ _ P
theorem W'{op:i4}{af:List Expr}{pos:bu}{k:St->ao L}(h:v6 E D names U d op af C k):dB E D names U d (.BoolOp op af pos) C k:=λM m O J l s P=>by
 simp only[arm_eval_BoolOp];exact h _ _ _ _ _ _ _ P
noncomputable def zL(op:i4)(ds fg:St->ao L)(l:St):ao L:=(ds l).bind λx ak=>match op with
 |.And=>x.hD (fg ak) (.ok (.bool false) ak)
 |.Or=>x.hD (.ok (.bool true) ak) (fg ak)
noncomputable def sJ(ds:St->ao L)(l:St):ao L:=(ds l).bind λx ak=>x.hD (.ok (.bool true) ak) (.ok (.bool false) ak)
noncomputable def TK(op:i4)(r:List Expr)(O:bo)(b:Bool):dh Bool:=match op,b with
 |.And,false=>pure false
 |.Or,true=>pure true
 |_,_=>allTrue op r O
noncomputable def TL(op:i4)(fg:St->ao L)(b:Bool)(ak:St):ao Bool:=match op,b with
 |.And,false=>.ok false ak
 |.Or,true=>.ok true ak
 |_,_=>iP (fg ak)
set_option tactic.hygienic true in
theorem KJ{op:i4}{e:Expr}{r:List Expr}{ds fg:St->ao L}(bw:jt E D names U d e C ds)(ba:t5 E D names U d op r C fg):t5 E D names U d op (e::r) C (zL op ds fg):=λM m O J l s P=>by
 have:=a5.bind (gZ:=oM) (f:=TK op r O) (k:=TL op fg) (bw _ _ _ _ _ _ P) λx ak u bd b3 o bt cN bK=>by
  simp only[show x=u from cN]
  cases op <;> cases u
  ·exact .ok bt rfl
  ·exact ba _ _ _ _ _ _ (P.grow bK bt)
  ·exact ba _ _ _ _ _ _ (P.grow bK bt)
  ·exact .ok bt rfl
 refine this.z4 ?_
 unfold zL
 cases ds l with
 |ok x ak=>
  cases op <;> cases x <;> first |rfl |(rename_i b;cases b <;> rfl)
 |exc _ _=>rfl
 |fail=>rfl
theorem XE{op:i4}{e:Expr}{ds:St->ao L}(bw:jt E D names U d e C ds):t5 E D names U d op [e] C (sJ ds):=λM m O J l s P=>by
 refine(KJ (op:=op) bw XD _ _ _ _ _ _ P).z4 ?_
 dsimp only[zL,sJ]
 cases ds l with
 |ok x ak=>
  cases op <;> cases x <;> first |rfl |(rename_i b;cases b <;> rfl)
 |exc _ _=>rfl
 |fail=>rfl
theorem Xq{op:i4}{e:Expr}{ds:St->ao L}(bw:dB E D names U d e C ds):v6 E D names U d op [e] C (sJ ds):=λM m O J l s pos P=>by
 intro aG
 have d5:ds l≠.fail:=λh=>by unfold sJ at aG;rw[h] at aG;exact aG rfl
 refine fx (bw _ _ _ _ _ _ P d5) (λv ah p=>?_) λv ah p=>?_
 ·obtain⟨x,av,e,aw,S,r,g⟩:=p
  cases x with
  |bool b=>exact⟨.bool b,av,by unfold sJ;rw[e];cases b <;> rfl,aw,S,r,g⟩
  |_=>exfalso;refine aG ?_;unfold sJ;rw[e];rfl
 ·obtain⟨x,av,e,aw,S,r,g⟩:=p
  exact⟨x,av,by unfold sJ;rw[e];rfl,aw,S,r,g⟩
theorem Xp{op:i4}{e cm:Expr}{r:List Expr}{ds fg:St->ao L}(bw:dB E D names U d e C ds)(ba:v6 E D names U d op (cm::r) C fg):v6 E D names U d op (e::cm::r) C (zL op ds fg):=λM m O J l s pos P=>by
 have uD:zM pos op (wY (e::cm::r) O)=(fb e O >>= λv=>kn pos >>= λo=>holding [v] (truthy v)>>= λt=>match op,t with
  |.And,false=>pure v
  |.Or,true=>pure v
  |_,_=>zM pos op (wY (cm::r) O)):=by
  refine(?_:zM pos op (fb e O::fb cm O::wY r O)=_)
  rw[zM]
  case x_2=>intro h;cases h
  congr 1
 refine a5.bind (bw _ _ _ _ _ _ P) λx ak u bd b3 o bt cN bK=>.gI ?_
 have hx:=P.grow bK bt
 cases x with
 |bool b=>
  refine(yy cN)▸?_
  refine λaG=>aE (gL (Ra ?_))
  cases op <;> cases b
  ·exact bj ⟨_,_,rfl,b3,bt,rfl,.refl⟩
  ·exact ba _ _ _ _ _ _ _ hx aG
  ·exact ba _ _ _ _ _ _ _ hx aG
  ·exact bj ⟨_,_,rfl,b3,bt,rfl,.refl⟩
 |_=>cases op <;> exact .fail
end
noncomputable def BC(T:List Expr):Bool:= !(T.all (constantsAlone 8))|| T.all (foldedForSure 8)
section
variable{D:Bool}{E:bM}{K:cb}{M:cv}{m:List bo}{W J bT bV:List aa}{s:ay}{names:List (I×b4)}{U c':List (I×Nat)}{d:Nat}{O:bo}{C:aI}{l:St}{bp:aa->List L->St->ao L}{aA:ab->ay->Prop}
theorem KV{f:Expr->Option I}:∀{af:List Expr},(∀e∈af,f e=none∨f e=some (idOf e))->(af.filterMap f).length=af.length->af.filterMap f=af.map idOf
 |[],_,_=>rfl
 |e::af,h,m=>by
  rcases h e (.head _) with q |q
  ·rw[H3 q] at m
   exact absurd (m▸Ia f af) (SS _)
  ·rw[H4 q] at m |-
   exact congrArg (_ :: ·) (KV (λe bw=>h e (.tail _ bw)) (zf m))
theorem hf.opt{f:Expr->Option I}{is:List Nat}{af:List Expr}(ok:hf names U is af)(aG:∀x p,f (.Name x p)=none∨f (.Name x p)=some x):∀e∈af,f e=none∨f e=some (idOf e):=by
 induction ok with
 |nil=>exact λo h=>(hK h).elim
 |cons ai _ aJ=>exact λe bw=>(dU.mp bw).elim (λq=>by cases ai;subst q;exact aG _ _) (aJ e)
def sC(AH:List I)(x:dh (Option (List I))):Prop:=x=pure none∨x=pure (some AH)
theorem sC.if{AH:List I}{c:Prop} [Decidable c]{y:dh (Option (List I))}(h:¬c->sC AH y):sC AH (if c then pure none else y):=by
 by_cases q:c
 ·exact .inl (if_pos q)
 ·rw[if_neg q];exact h q
theorem af0{em T:List Expr}{is:List Nat}{k cg:Nat}{p bN:bu}(ok:hf names U is em)(ck:BC T=true):sC (em.map idOf) (vF [.Tuple em k p] (.Tuple T cg bN) O):=by
 refine .if λo=>.if λo=>.if λh=>.if λc2=>?_
 have aN:=λq=>h (Rt.mpr (.inl (bne_iff_ne.mpr q)))
 refine .inr ((if_neg λfc=>?_).trans (congrArg (λx=>pure (some x)) (KV (ok.opt λx p=>(HQ _).elim (λq=>.inr (if_pos q)) λq=>.inl (if_neg q)) (akf.mp aN))))
 unfold BC at ck
 rw[fc,t3.mpr c2] at ck
 nomatch ck
theorem Qk{eH t:Expr}{n:Nat}(h:jx eH):swapsWithSole [t] eH n O=pure false:=by
 show Qj eH (some t) n O=pure false
 exact h _ _ _
noncomputable def UA(O:bo)(e:Expr):ab->dh Unit:=Dx O (idOf e)
theorem Pz:∀(is:List Nat)(Y:List L)(i:Nat)(a:L)(C bb:aI),ht is Y C=some bb->ht (is++[i]) (Y++[a]) C=some (bb.set i (some a))
 |[],[],i,a,C,bb,e=>by(obtain rfl:=dq e);rfl
 |j::is,x::Y,i,a,C,bb,e=>Pz is Y i a _ bb e
 |[],_::_,_,_,_,_,e=>by cases e
 |_::_,[],_,_,_,_,e=>by cases e
theorem Px:∀(is:List Nat)(Y:List L)(i:Nat)(a:L)(C bb:aI),i∉is->ht is Y C=some bb->ht is Y (C.set i (some a))=some (bb.set i (some a))
 |[],[],i,a,C,bb,_,e=>by(obtain rfl:=dq e);rfl
 |j::is,x::Y,i,a,C,bb,aR,e=>by
  simp only[dU,not_or] at aR
  refine(?_:ht is Y ((C.set i (some a)).set j (some x))=_)
  refine(List.set_comm _ _ aR.1)▸?_
  exact Px is Y i a _ bb aR.2 e
 |[],_::_,_,_,_,_,_,e=>by cases e
 |_::_,[],_,_,_,_,_,e=>by cases e
theorem Py:∀(is:List Nat)(Y:List L)(C bb:aI),is.Nodup->ht is Y C=some bb->ht is.reverse Y.reverse C=some bb
 |[],[],C,bb,_,e=>e
 |j::is,x::Y,C,bb,aO,e=>by
  rw[mC] at aO
  simp only[ws,ws]
  have cm:ht is Y (C.set j (some x))=some bb:=e
  have aZ:∃lI,ht is Y C=some lI:=by
   have:∀(is:List Nat)(Y:List L)(HE HF lJ:aI),ht is Y HE=some HF->∃lI,ht is Y lJ=some lI:=by
    intro is
    induction is with
    |nil=>intro Y HE HF lJ h;cases Y with
     |nil=>exact⟨lJ,rfl⟩
     |cons _ _=>cases h
    |cons k is aJ=>intro Y HE HF lJ h;cases Y with
     |nil=>cases h
     |cons y bH=>exact aJ bH _ _ _ h
   exact this _ _ _ _ _ cm
  refine bz aZ λlI bF=>?_
  have db:=Px is Y j x C lI aO.1 bF
  replace db:=cm▸db
  (obtain rfl:=dq db)
  exact Pz _ _ _ _ _ _ (Py is Y C lI aO.2 bF)
 |[],_::_,_,_,_,e=>by cases e
 |_::_,[],_,_,_,e=>by cases e
theorem br.reverse{J:List aa}{h:aV}:∀{m:List L}{T:List ab},br E J h m T->br E J h m.reverse T.reverse
 |[],T,e=>by refine e.nil_inv▸?_;exact .nil
 |a::r,T,e=>by
  refine eL e.cons_inv λv t aik x y=>?_
  subst aik
  simp only[ws,ws]
  exact y.reverse.snoc x
theorem ag3{af:List Expr}{is:List Nat}{dz:Nat}{lF:bu}{Y:List L}{b:aa}{bb:aI}(bn:gJ U)(ok:hf names U is af)(P:dN E names U d M (O::m) O J C l s)(r:bf E J s.heap (.tup Y) (.ref b))(aP:ht is Y C=some bb):
 a5 E D M (O::m) (fw U O) J s (do assignAll (.ref b) [assign (.Tuple af dz lF) O];pure wb) (mJ E U O) (ao.ok (dg.next,bb) l):=λo=>aE (G5 (t:=.many is) (e:=.Tuple af dz lF) (a:=.tup Y) P.room.a8 P.dJ.kind P.dJ bn (.many ok) P.lo P.st r aP _ λae t x=>bj ⟨_,_,rfl,J,x.st,.next x.lo,x.grow.weaken (BH (t:=.many is) (e:=.Tuple af dz lF) P.dJ (.many ok) P.lo)⟩)
theorem ag4{af:List Expr}{is:List Nat}{Y:List L}{b:aa}{bb:aI}(bn:gJ U)(ok:hf names U is af)(mW:is.Nodup)(P:dN E names U d M (O::m) O J C l s)(r:bf E J s.heap (.tup Y) (.ref b))(aP:ht is Y C=some bb):
 a5 E D M (O::m) (fw U O) J s (do rule "assign.swapped-stores";let dm <-unpackItems (.ref b) (af.map idOf).length none;Ub ((af.map idOf).reverse.map λn=>Dx O n) dm.reverse;pure wb) (mJ E U O) (ao.ok (dg.next,bb) l):=λo=>by
 refine nt (nk r) λj7 T z tc aN cL=>?_
 cases z
 refine aE (yE (aE ?_))
 rw[show(af.map idOf).length=T.toArray.size by rw[dC,ok.length,<-GW _ _ _ _ aP,<-cL.length,oI]]
 refine wpAny_unpackItems_tuple P.room.a8 tc λdb bw=>aE ?_
 have dE:bG D (ci (O::m)) [] J s J {s with heap:=db}:=.more (t:=s.toks) λb A e=>bw b A (ho (eF e)) e
 have eT:=P.grow dE (P.st.more λb A e=>bw b A (ho (eF e)) e)
 rw[<-List.map_reverse,lO]
 refine P7 (rg:=UA O) (λx p v an s h=>QW h) eT.dJ.kind eT.dJ bn ok.reverse Y.reverse T.toArray.toList.reverse C bb _ _ eT.lo eT.st (by exact(cL.on P.st dE).reverse) (Py _ _ _ _ mW aP) λma r8 x=>bj ⟨_,_,rfl,J,x.st,.next x.lo,?_⟩
 exact(dE.weaken nofun).trans ((x.grow (s:={s with heap:=db})).weaken (N4 eT.dJ ok.reverse eT.lo))
theorem ag5{af:List Expr}{is:List Nat}{eH:Expr}{dz:Nat}{lF:bu}{x:L}{u:ab}(bn:gJ U)(ok:hf names U is af)(mW:is.Nodup)(o7:sC (af.map idOf) (vF [.Tuple af dz lF] eH O))(P:dN E names U d M (O::m) O J C l s)(r:bf E J s.heap x u):
 a5 E D M (O::m) (fw U O) J s (vF [.Tuple af dz lF] eH O >>= λA=>Jl O u A ((Dk [.Tuple af dz lF] O).map (·.2))) (mJ E U O) ((opt ((kF x).bind λm=>ht is m C) l).bind λbb=>.ok (.next,bb)):=by
 refine .Bh λbb aP=>?_
 refine aU (mF.mp aP) λY ex aP=>?_
 obtain rfl:=rk ex
 refine nt (nk r) λb T z o o o=>?_
 subst z
 rcases o7 with q |q
 ·rw[q];exact ag3 (dz:=dz) (lF:=lF) bn ok P r aP
 ·rw[q];exact ag4 bn ok mW P r aP
theorem P4{af:List Expr}{is:List Nat}{eH:Expr}{dz:Nat}{lF pos:bu}{k:aI->St->ao L}(aK:jx eH)(o7:∀O,sC (af.map idOf) (vF [.Tuple af dz lF] eH O))(bn:gJ U)(ok:hf names U is af)(mW:is.Nodup)
 (h:∀C,dB E D names U d eH C (k C)):
 kB E D names U d (.Assign [.Tuple af dz lF] eH pos) (λC l=>(k C l).bind λx ak=>(opt ((kF x).bind λm=>ht is m C) ak).bind λbb=>.ok (.next,bb)):=λM m O J C l s P=>by
 rw[Tb,Qk aK]
 refine .gI (?_:a5 _ _ _ _ _ _ _ (fb eH O >>= λv=>vF [.Tuple af dz lF] eH O >>= λA=>Jl O v A ((Dk [.Tuple af dz lF] O).map (·.2))) _ _)
 exact(a5.nQ (h C _ _ _ _ _ _ P) λx ak u bd b3 iV bt cN bK=>ag5 bn ok mW (o7 O) (P.grow bK bt) cN)
end
section
variable{D:Bool}{E:bM}{K:cb}{M:cv}{m:List bo}{W J bT bV:List aa}{s:ay}{names:List (I×b4)}{U c':List (I×Nat)}{d:Nat}{O:bo}{C:aI}{l:St}{bp:aa->List L->St->ao L}{aA:ab->ay->Prop}
theorem afN{cp:Type} [DecidableEq cp]{k:cp}{c:aa}{v:ab}{Y:List (cp×aa×ab)}:∀x∈r2 Y k c v,x.2.1=c∨∃y∈Y,y.2.1=x.2.1:=by
 intro x aD
 unfold r2 at aD
 split at aD
 ·obtain⟨y,bD,rfl⟩:=gY.mp aD
  refine .inr ⟨y,bD,?_⟩
  unfold putAt;split <;> rfl
 ·rcases ip.mp aD with q |q
  ·exact .inr ⟨x,q,rfl⟩
  ·simp at q;subst q;exact .inl rfl
theorem Bl{cp:Type} [DecidableEq cp]{k:cp}{v:L}{m:List (cp×L)}(h:m.length<b8):(e6 k v m).length<=e7:=by
 have ai:=Gw k v m
 have am:b8+1<=e7:=by unfold b8;exact q7 rfl
 exact gl [_,_,_,_] 1 al ax 1 (Ns aT) cs 1 al (Ns aT) 1 (Ns cs) ax rfl h ai am
theorem agB{n:Nat}{z:I}{x:L}{u v t:ab}{Y:List (I×L)}(dy:D=false)(S:a' E J l s.heap)(bD:bf E J s.heap (.loc n) u)(aZ:bf E J s.heap (.str z) v)(aD:bf E J s.heap x t)(g5:l[n]? =some (.cj Y))(aN:Y.length<b8)
 (an:Unit->ay->Prop) (h:∀ae N,a' E J (l.set n (.cj (e6 z x Y))) ae->bG D (ci m) W J s J {s with heap:=ae,toks:=N}->an () {s with heap:=ae,toks:=N}):a9 (a1 aH w) M (setItem u v t) an aA s:=by
 refine aU (gK bD) λa ar q=>?_
 subst q
 refine dL (jp aZ) λq ok=>?_
 refine bz q λc9 q=>?_
 subst q
 have hm:=fG ar
 refine lH (S.obj _ a _ ar g5) λbP hd aM e1 r Bg=>?_
 have mW:(bP.map (·.1)).Nodup:=by obtain⟨_,_,_,_,_,_,_,_,q⟩:=hd;exact q
 have o3:bP.length=Y.length:=by rw[<-dC,aM,dC]
 refine wpAny_setItem_pairs (knd:=PySem.strKind aH w) (k:=z) (by simp[PySem.strKind,kD]) hd (λae eO ag=>?_) (o3▸e1)
 refine dL (yn (k:=z) aD Y bP aM mW r) λb0 bO=>?_
 have dP:fq E J J s.heap ae:=mi ag (S.vL a hm)
 refine h ae (s.toks+1) (S.set ar ag (qw _ eO b0 (Bl aN) (bO.mono dP _ _) λp aL=>?_)) (.set ag (.inl hm) (by obtain⟨A,_,_,az,_⟩:=eO;rw[az];nofun) (λhd=>by rw[dy] at hd;cases hd) λq=>absurd hm q)
 rcases x1 _ _ _ p aL with e |⟨q,a7,e⟩
 ·rw[e];exact ok
 ·rw[<-e];exact Bg q a7
theorem agC{n:Nat}{z:List L}{x:L}{u v t:ab}{Y:List (List L×L)}(dy:D=false)(Z:ef K E)(R:nG d M m)(S:a' E J l s.heap)(bD:bf E J s.heap (.loc n) u)(aZ:bf E J s.heap (.tup z) v)(aD:bf E J s.heap x t)(g5:l[n]? =some (.b5 Y))(aN:tL z=true∧Y.length<b8)
 (an:Unit->ay->Prop) (h:∀ae N,a' E J (l.set n (.b5 (e6 z x Y))) ae->bG D (ci m) W J s J {s with heap:=ae,toks:=N}->an () {s with heap:=ae,toks:=N}):a9 (a1 aH w) M (setItem u v t) an aA s:=by
 refine aU (gK bD) λa ar q=>?_
 subst q
 obtain⟨b,T,rfl,hT,tc,ZH,cL⟩:=qO aZ
 have hm:=fG ar
 refine sb (S.obj _ a _ ar g5) λbP hd aM e1 r rC s2=>?_
 have mW:(bP.map (·.1)).Nodup:=by obtain⟨_,_,_,_,_,_,_,_,q⟩:=hd;exact q
 have o3:bP.length=Y.length:=by rw[<-dC,aM,dC]
 have ZA:(BO (lY)).is s.heap z b:=by
  obtain⟨A,az,aK,N,gC⟩:=tc
  exact⟨A,T.toArray,N,az,aK,gC,Pp aN.1 cL⟩
 refine wpAny_setItem_heap (knd:=BO (lY)) (k:=z) (show M.in1.units<hO by have:=R.units;lia) ZA hd (λae eO ag=>?_) (o3▸e1)
 refine dL (Qb (k:=z) (c:=b) aD Y bP aM mW r) λb0 bO=>?_
 have dP:fq E J J s.heap ae:=mi ag (S.vL a hm)
 refine h ae _ (S.set ar ag (xM _ eO b0 (Bl aN.2) (bO.mono dP _ _) (λp aL=>?_) λy bD=>(afN y bD).elim (λq=>q▸hT) λq=>aU q λt0 aai q=>q▸s2 t0 aai)) (.set ag (.inl hm) (by obtain⟨A,_,_,az,_⟩:=eO;rw[az];nofun) (λhd=>by rw[dy] at hd;cases hd) λq=>absurd hm q)
 rcases x1 _ _ _ p aL with e |⟨q,a7,e⟩
 ·rw[e,<-cL.length];exact ZH
 ·rw[<-e];exact rC q a7
theorem agA{aC:Nat}{y z x:L}{u v t:ab}(dy:D=false)(Z:ef K E)(R:nG d M m)(S:a' E J l s.heap)(bD:bf E J s.heap y u)(aZ:bf E J s.heap z v)(aD:bf E J s.heap x t){av:St}(e:lA aC l y z x=some av)
 (an:Unit->ay->Prop) (h:∀ae n,a' E J av ae->bG D (ci m) W J s J {s with heap:=ae,toks:=n}->an () {s with heap:=ae,toks:=n}):a9 (a1 aH w) M (setItem u v t) an aA s:=by
 obtain⟨n,c3,ch,rfl,g5,aL,-,rfl⟩:=PA e
 cases aL with
 |cj aN=>exact agB dy S bD aZ aD g5 aN an h
 |b5 aN=>exact agC dy Z R S bD aZ aD g5 aN an h
theorem afH{aC:Nat}{A i eH:Expr}{bN pos:bu}{jO kh jM:aI->St->ao L}(dy:D=false)(Z:ef K E)(aK:jx eH)(ck:∀C,dB E D names U d eH C (jO C))(az:∀C,dB E D names U d A C (kh C))(aR:∀C,dB E D names U d i C (jM C)):
 kB E D names U d (.Assign [.Subscript A i bN] eH pos) (λC l=>(jO C l).bind λx ak=>(kh C ak).bind λy a2=>(jM C a2).bind λz f9=>optN C (lA aC f9 y z x)):=λM m O J C l s P=>by
 rw[exec_Assign_Subscript _ _ _ _ _ (aK _ _ _)]
 refine .gI (a5.nQ (ck C _ _ _ _ _ _ P) λx ak t bd b3 o bt cN bK=>?_)
 have hx:=P.grow bK bt
 dsimp only[assign_Subscript]
 simp only[bind_assoc]
 refine a5.nQ (a5.holding (az C _ _ _ _ _ _ hx)) λy a2 u cR eI o di fj dE=>?_
 have eT:=hx.grow dE di
 refine a5.nQ (a5.holding (aR C _ _ _ _ _ _ eT)) λz f9 v jl sf o kC oj jb=>.gI ?_
 have sz:=eT.grow jb kC
 cases e:lA aC f9 y z x with
 |none=>exact .fail
 |some aj4=>
  exact λo=>aE (gL (agA dy Z P.room kC (fj.on di jb) oj ((cN.on bt dE).on di jb) e _ λae n ul qg=>aE (ahG (bj ⟨_,aj4,rfl,sf,ul,.next (sz.lo.grow qg kC),qg.weaken (by simp)⟩))))
theorem Gy{name:I}{L9:Int}{t:j3}{v:ab}:∀{af:List iI}{bP:List (I×ab)},q' (PySem.strKind aH w) af bP->(bP.map (·.1)).Nodup->q' (PySem.strKind aH w) (jS name L9 (.str name t) v af) (k3 bP name v)
 |_,_,.nil,_=>by
  have:k3 ([]:List (I×ab)) name v=[(name,v)]:=rfl
  exact .cons (by simp[PySem.strKind,kD]) rfl .nil
 |_,_,.cons (e:=e) (kv:=jO) (es:=af) (kvs:=bP) ai am a6,aO=>by
  obtain⟨k,u⟩:=jO
  simp only[iL,mC] at aO
  obtain⟨c9,Ma⟩:=zs (show kD k e.key=true from ai)
  dsimp only[jS]
  by_cases q:k=name
  ·subst q
   rw[if_pos (by rw[Ma];simp[Tt])]
   have aP:k3 ((k,u):: bP) k v=(k,v):: bP:=by
    unfold k3
    simp only[yZ,decide_true,Rx,if_true,iL]
    rw[ab2 bP k v aO.1]
   rw[aP]
   exact .cons ai rfl a6
  ·rw[if_neg (by rw[Ma];simpa[Tt] using q),Qc q]
   exact .cons ai am (Gy a6 aO.2)
theorem Gx{name:I}{t:j3}{v:ab}:∀{af:List iI},(∀e∈af,∃k,(PySem.strKind aH w).is k e.key=true∧e.hash=(PySem.strKind aH w).hash k)->∀e∈jS name (jy w.params name) (.str name t) v af,∃k,(PySem.strKind aH w).is k e.key=true∧e.hash=(PySem.strKind aH w).hash k
 |[],_=>λe bw=>by
  simp only[jS,gu] at bw
  subst bw
  exact⟨name,by simp[PySem.strKind,kD],rfl⟩
 |a::r,h=>λe bw=>by
  dsimp only[jS] at bw
  split at bw
  ·rcases dU.mp bw with rfl |bw
   ·exact h a (.head _)
   ·exact h e (.tail _ bw)
  ·rcases dU.mp bw with rfl |bw
   ·exact h _ (.head _)
   ·exact Gx (λe bw=>h e (.tail _ bw)) e bw
theorem Qd{name:I}{v:ab}{bP:List (I×ab)}(h:(bP.map (·.1)).Nodup):((k3 bP name v).map (·.1)).Nodup:=by
 unfold k3
 split
 ·have:(bP.map λjO=>if jO.1=name then(jO.1,v) else jO).map (·.1)=bP.map (·.1):=by
   rw[lO];refine List.map_congr_left λx o=>?_
   simp only[aki];split <;> rfl
  rw[this];exact h
 ·rename_i aO
  rw[oH,y9]
  refine⟨h,by simp,λx aD y bD=>?_⟩
  simp at bD;subst bD
  rintro rfl
  obtain⟨p,aL,ZY⟩:=gY.mp aD
  exact aO (List.any_eq_true.mpr ⟨p,aL,by simpa using ZY⟩)
theorem adg{R:lT->ay->Prop}{x Q bC:aa}{af:List iI}{a0:Nat}{name:I}{bE:j3}{v:ab}(X:K.In s.heap)(aW:InstAt s.heap x (md Q bC) Q (some (h8 af a0)))(g6:s.heap.get? bC=some (h8 af a0))(aL:plainOver K Q=true)(bn:r3 K Q name=some none)(a8:s1 K Q=true)
 (ba:af.any (·.refKey)=false) (aZ:af.length<=1000) (h:∀ae,ae.get? bC=some (h8 (jS name (jy w.params name) (.str name s.toks) v af) (x2 name af a0))->hw bC s.heap ae->R (.ok (.ret .none)) {s with heap:=ae,toks:=s.toks+1}):
 gy (a1 aH w) M (.call (.builtin "object.__setattr__") ⟨[.ref x,.str name bE,v],[]⟩) R s:=by
 refine osa_open X aW aL bn λb=>?_
 refine ge λdT cD=>?_
 obtain⟨jB,aK,eO⟩:=Jb a8
 obtain⟨aD,Ar,aO,-⟩:=aW
 refine cD ?_
 clear cD dT
 refine aE (bj (aE (aE (BW aD (aE ((xL X aK).here ?_))))))
 rw[eO]
 refine bj (a:=some bC) (aE (bj (aE ?_)))
 refine aE (aE (vS (bj (aE (Hp (aE (BW g6 ?_)))))))
 dsimp only[h8]
 have c:(!af.toArray.any (·.key.isStr name)&& af.toArray.any (·.refKey))=false:=by
  have:af.toArray.any (·.refKey)=false:=by rw[<-Rk];exact ba
  rw[this,Rq]
 rw[Tv,c]
 have si:(s.heap.update bC (S2 name (jy w.params name) (.str name s.toks) v)).get? bC=some (h8 (jS name (jy w.params name) (.str name s.toks) v af) (x2 name af a0)):=by
  rw[nz _ g6 (by rw[Gz];rfl),Gz]
 refine ahO g6 ?_
 refine aE (ahC si (adr (by
  have:(jS name (jy w.params name) (.str name s.toks) v af).length<=af.length+1:=by
   clear g6 ba aZ h c si
   induction af with
   |nil=>simp[jS]
   |cons a r aJ=>dsimp only[jS];split <;> simp;exact aJ
  rw[oI,jU];exact cf [_,_] 1 al (Ns (.num 16777216)) 1 ax (.num 1000) 1 al (Ns ax) rfl aZ this)) ?_)
 exact bj (h _ si (sl ..))
theorem agz{aC:Nat}{x:I}{Q:aa}{y a:L}{u v:ab}(dy:D=false)(Z:ef K E)(S:a' E J l s.heap)(ok:storeOk K Q x=true)(aP:fy x=true)(bD:bf E J s.heap y u)(ar:bf E J s.heap a v){av:St}(e:ye aC l y x Q a=some av)
 (an:Unit->ay->Prop) (h:∀ae n,a' E J av ae->bG D (ci m) W J s J {s with heap:=ae,toks:=n}->an () {s with heap:=ae,toks:=n}):a9 (a1 aH w) M (setAttr u x v) an aA s:=by
 simp only[storeOk,gW,beq_iff_eq] at ok
 refine ge λdT cD=>?_
 obtain⟨⟨⟨ki,kY⟩,tx⟩,Gb⟩:=ok
 refine cD ?_
 clear cD dT
 refine gn e λp a3 e=>gn e λY a4 e=>?_
 by_cases cB:Y.length<100∧hP aC p.2 a=true
 case neg=>rw[if_neg cB] at e;exact ns e
 rw[if_pos cB] at e
 cases e
 have dW:=cB.1
 obtain⟨rfl,nY⟩:=u8 a3
 replace a4:=GU a4
 refine aU (gK bD) λb ag q=>?_
 subst q
 obtain⟨bC,bP,af,a0,ai,am,a6,c2,fc,f6,jc,jd,je,Ak,w8,Al⟩:=Fx S ag nY a4
 have hm:=fG ai
 have E0:af.length<=1000:=by
  have b0:=f6.length
  have bO:=congrArg kr je
  simp at bO;exact gl [_,_,_] 1 al (.num 1000) 1 (Ns ax) (.num 100) 1 al aT 1 aT ax rfl cB.1 (dI b0) (dI bO)
 have X:=Z.X.keeps S.base
 refine PE X c2 ki (adg (s:={s with toks:=s.toks+1}) X c2 a6 kY tx Gb (N' f6) E0 λae eO mV=>?_)
 obtain⟨b0,bO⟩:=yn (k:=x) ar Y bP je jd Ak
 have fz:∀T,¬s.heap.IsTuple bC T:=S.vL bC hm
 have dP:fq E J J s.heap ae:=mi mV fz
 have EP:ae.DictOf (PySem.strKind aH w) bC (k3 bP x v):=⟨_,_,_,eO,⟨rfl,rfl,rfl⟩,rfl,λcW xk=>Gx (λe bw=>jc e (by simpa using bw)) cW (by simpa using xk),by exact Gy f6 jd,Qd jd⟩
 refine h ae _ (S.set ai mV ⟨_,EP,b0,Bl (by unfold b8;exact b6 [_] 1 (Ns al) (.num 100000) 1 (Ns al) (.num 100) rfl cB.1),bO.mono dP _ _,λp aL=>?_⟩) (.set mV (.inl hm) (by rw[eO];simp) (λhd=>by rw[dy] at hd;cases hd) λq=>absurd hm q)
 rcases x1 _ _ _ p aL with e |⟨q,a7,e⟩
 ·rw[e];exact aP
 ·rw[<-e];exact w8 q a7
theorem afG{aC:Nat}{A eH:Expr}{x:I}{Q:aa}{bN pos:bu}{jO kh:aI->St->ao L}(dy:D=false)(Z:ef K E)(aK:jx eH)(ok:storeOk K Q x=true)(aP:fy x=true)(ck:∀C,dB E D names U d eH C (jO C))(az:∀C,dB E D names U d A C (kh C)):
 kB E D names U d (.Assign [.Attribute A x bN] eH pos) (λC l=>(jO C l).bind λa ak=>(kh C ak).bind λy a2=>optN C (ye aC a2 y x Q a)):=λM m O J C l s P=>by
 rw[Tb,Qk aK]
 refine .gI ?_
 refine(?_:a5 _ _ _ _ _ _ _ (fb eH O >>= λv=>vF [.Attribute A x bN] eH O >>= λz=>Jl O v z ((Dk [.Attribute A x bN] O).map (·.2))) _ _)
 refine a5.nQ (ck C _ _ _ _ _ _ P) λa ak v bd b3 o bt cN bK=>?_
 have hx:=P.grow bK bt
 refine(?_:a5 _ _ _ _ _ _ _ (do (do let lw <-holding [v] (fb A O);kn bN.atName;holding [v,lw] (setAttr lw x v);release [v,lw] []);pure wb) _ _)
 simp only[bind_assoc]
 refine a5.nQ (a5.holding (az C _ _ _ _ _ _ hx)) λy a2 u cR eI o di fj dE=>.gI ?_
 have eT:=hx.grow dE di
 cases e:ye aC a2 y x Q a with
 |none=>exact .fail
 |some f9=>
  exact λo=>aE (gL (agz dy Z di ok aP fj (cN.on bt dE) e _ λae n ul qg=>aE (ahG (bj ⟨_,f9,rfl,eI,ul,.next (eT.lo.grow qg di),qg.weaken (by simp)⟩))))
end
def Td(E:bM)(aY:List I)(J:List aa)(h:aV)(Y:List L)(T:List (ab×ab)):Prop:=∃bP:List (I×ab),Carries (PySem.strKind aH w) T bP∧bP.map (·.1)=aY∧br E J h Y (bP.map (·.2))
def v7(E:bM)(D:Bool)(names:List (I×b4))(U:List (I×Nat))(d:Nat)(pos:bu)(aY:List I)(bl:List (Option Expr))(eR:List Expr)(C:aI)(k:St->ao (List L)):Prop:=
 ∀O,∃vq:List (dh ab×dh ab),(evalEachOpt bl O).zip ((wY eR O).map λv=>do let x <-v;kn pos;pure x)=vq.map (λp=>(some p.1,p.2))∧vq.length=aY.length∧
  ∀M m J l s,dN E names U d M m O J C l s->a5 E D M m [] J s (evalPairs vq) (Td E aY) (k l)
section
variable{D:Bool}{E:bM}{K:cb}{M:cv}{m:List bo}{W J bT bV:List aa}{s:ay}{names:List (I×b4)}{U c':List (I×Nat)}{d:Nat}{O:bo}{C:aI}{l:St}{bp:aa->List L->St->ao L}{aA:ab->ay->Prop}
theorem KD{pos:bu}:v7 E D names U d pos [] [] [] C (λl=>.ok [] l):=λO=>fK ([]) rfl rfl (λM m J l s P=>.ok P.st ⟨[],trivial,rfl,.nil⟩)
theorem Eg{pos:bu}{x:I}{n:Nat}{el:bu}{aY:List I}{bl:List (Option Expr)}{e:Expr}{eR:List Expr}{ds:St->ao L}{fg:St->ao (List L)}(aP:fy x=true)(bw:dB E D names U d e C ds)(ba:v7 E D names U d pos aY bl eR C fg):
 v7 E D names U d pos (x::aY) (some (.Constant (.str x) n el):: bl) (e::eR) C (λl=>(ds l).bind λx ak=>(fg ak).bind λY a2=>.ok (x::Y) a2):=λO=>by
 refine cr (ba O) λvq ai am a6=>?_
 refine fK ((fb (.Constant (.str x) n el) O,do let x <-fb e O;kn pos;pure x):: vq) (congrArg (_ :: ·) ai) (congrArg (· + 1) am) λM m J l s P=>?_
 have af7:a5 E D M m [] J s (fb (.Constant (.str x) n el) O) (bf E) (.ok (.str x) l):=yt P.st (.str aP)
 refine(?_:a5 _ _ _ _ _ _ _ _ _ ((ao.ok (L.str x) l).bind λo l=>(ds l).bind λx ak=>(fg ak).bind λY a2=>ao.ok (x::Y) a2))
 refine a5.bind af7 λc alN jO nf se XM Tq aet jJ=>?_
 cases XM
 have sy:=P.grow jJ Tq
 refine .yv ?_
 rw[bind_assoc]
 refine a5.bind (bw _ _ _ _ _ _ sy) λa ak v bd b3 o bt cN bK=>?_
 refine .gI (.yv (a5.bind (a6 _ _ _ _ _ (sy.grow bK bt)) λY a2 T cR eI o di fj dE=>?_))
 refine cr fj λbP dO d3 h7=>?_
 refine dL (jp aet) λz o=>?_
 obtain⟨t,rfl⟩:=z
 exact .ok di ⟨(x,v):: bP,⟨by simp[PySem.strKind,kD],rfl,dO⟩,congrArg (x :: ·) d3,.cons (cN.on bt dE) h7⟩
theorem NI{h:aV}:∀(aY:List I)(Y:List L)(bP:List (I×ab))(bc:List (I×L))(pV:List (I×ab)),bP.map (·.1)=aY->br E J h Y (bP.map (·.2))->pV.map (·.1)=bc.map (·.1)->(pV.map (·.1)).Nodup->br E J h (bc.map (·.2)) (pV.map (·.2))->
 (merged pV bP).map (·.1)=((aY.zip Y).foldl (λd q=>e6 q.1 q.2 d) bc).map (·.1)∧br E J h (((aY.zip Y).foldl (λd q=>e6 q.1 q.2 d) bc).map (·.2)) ((merged pV bP).map (·.2))
 |_,Y,[],bc,pV,e,r,ai,_,a6=>by
  subst e
  exact⟨ai,a6⟩
 |aY,Y,(k,v):: bP,bc,pV,e,r,ai,am,a6=>by
  subst e
  cases Y with
  |nil=>have:=r.length;cases this
  |cons a Y=>
   refine eL (br.cons_inv r) λyx tX a8 eu eK=>?_
   simp only[iL,sq] at a8
   refine ge λdT cD=>?_
   obtain⟨rfl,rfl⟩:=a8
   refine dL (yn (k:=k) eu bc pV ai am a6) λb0 bO=>?_
   refine cD ?_
   clear cD dT
   have:=NI (bP.map (·.1)) Y bP (e6 k a bc) (k3 pV k v) rfl eK b0 (Qd am) bO
   exact this
theorem K0:∀(d6:List (I×L))(bc:List (I×L))(p:I×L),p∈d6.foldl (λd q=>e6 q.1 q.2 d) bc->(∃q∈d6,q.1=p.1)∨∃q∈bc,q.1=p.1
 |[],bc,p,h=>.inr ⟨p,h,rfl⟩
 |q::d6,bc,p,h=>by
  rcases K0 d6 _ p h with⟨z,aZ,e⟩| ⟨z,aZ,e⟩
  ·exact .inl ⟨z,.tail _ aZ,e⟩
  ·rcases x1 _ _ _ z aZ with cm |⟨y,bD,cm⟩
   ·exact .inl ⟨q,.head _,by simp only[<-e,cm]⟩
   ·exact .inr ⟨y,bD,by simp only[cm,e]⟩
theorem K1:∀(d6:List (I×L))(bc:List (I×L)),(d6.foldl (λd q=>e6 q.1 q.2 d) bc).length<=bc.length+d6.length
 |[],bc=>by simp
 |q::d6,bc=>by
  have ai:=K1 d6 (e6 q.1 q.2 bc)
  have am:=Gw q.1 q.2 bc
  simp only[Cs,ks];exact cf [_,_,_,_] 1 al (.add ax (Ns aT)) 1 al (.add cs aT) 1 cs (Ns ax) rfl ai am
theorem KA{aY:List I}{bl:List (Option Expr)}{eR:List Expr}{pos:bu}{k:St->ao (List L)}(bQ:aY≠[])(aN:aY.length<=15)(aP:∀x∈aY,fy x=true)(h:v7 E D names U d pos aY bl eR C k):
 dB E D names U d (.Dict bl eR pos) C (λl=>(k l).bind λY ak=>.ok (.loc ak.length) (ak++[.cj ((aY.zip Y).foldl (λd q=>e6 q.1 q.2 d) [])])):=λM m O J l s P aG=>by
 refine cr (h O) λvq ai am a6=>?_
 dsimp only at aG |-
 have bv:∀b A,s.heap.get? b=some A->(s.heap.push {cls:=.type "dict",data:=.dict #[]}).get? b=some A:=λb A e=>dM _ e
 have jJ:bG D (ci m) [] J s J {s with heap:=s.heap.push {cls:=.type "dict",data:=.dict #[]}}:=.more (t:=s.toks) bv
 have sy:=P.grow jJ (P.st.more bv)
 have nV:s.heap.get? s.heap.objs.size=none:=hR
 have rp:s.heap.objs.size∉J:=P.st.fresh
 have sP:s.heap.objs.size∉ci m:=λhm=>oZ P.fr hm nV
 have J5:E.heap.get? s.heap.objs.size=none:=by
  cases q:E.heap.get? s.heap.objs.size with
  |none=>rfl
  |some A=>rw[P.st.base _ A q] at nV;nomatch nV
 refine wpAny_Dict_pairs (knd:=PySem.strKind aH w) ai (by intro e;replace am:=e▸am;simp at am;exact bQ (y6.mp am.symm)) (by exact le_of_eq_of_le am aN) (fx (a6 _ _ _ _ _ sy λaZ=>by rw[aZ] at aG;exact aG rfl) (λT bd p=>?_) λe bd p=>?_)
 ·obtain⟨Y,ak,ea,b3,bt,⟨bP,dO,d3,h7⟩,bK⟩:=p
  refine ea▸?_
  have w':bd.heap.get? s.heap.objs.size=some {cls:=.type "dict",data:=.dict #[]}:=(bK.keep _ _ rp (hK) (eS _ rfl)).resolve_right λz=>sP z.1
  refine fK bP dO ⟨_,_,_,w',⟨rfl,rfl,rfl⟩,rfl,by intro e bw;simp at bw,.nil,ub⟩ (λae eO ag=>?_)
  have Kd:s.heap.objs.size∉b3:=bK.mj (by refine(show({s with heap:=s.heap.push {cls:=.type "dict",data:=.dict #[]}}:ay).heap.get? s.heap.objs.size=some _ from eS _ rfl)▸?_;trivial) rp
  have fz:∀T,¬bd.heap.IsTuple s.heap.objs.size T:=λT⟨A,az,aK,_⟩=>by replace az:=w'▸az;(obtain rfl:=dq az);nomatch aK
  have di:=bt.off ag Kd J5 fz
  have dP:fq E b3 (b3++[s.heap.objs.size]) bd.heap ae:=⟨λn b e=>by simp only[jv (gt.mp e).1,e],(mi (E:=E) (J:=b3) ag fz).tup⟩
  refine dL (NI aY Y bP [] [] d3 h7 rfl ub .nil) λb0 bO=>?_
  have dW:=K1 (aY.zip Y) []
  have aZ:(aY.zip Y).length<=aY.length:=by refine Ib▸?_;exact CE aY.length Y.length
  refine⟨_,_,rfl,b3++[s.heap.objs.size],di.adopt Kd J5 ⟨_,eO,b0,by simp only[jU];simp at dW;exact gl [_,_,_] 1 al (.num 16777216) 1 ax (.num 15) 1 al aT 1 aT ax rfl aN dW (CE aY.length Y.length),bO.mono dP _ _,λp aL=>?_⟩,by exact bx _ (by refine bt.len▸?_;simp) rfl,?_⟩
  ·rcases K0 _ _ p aL with⟨q,a7,e⟩| ⟨q,a7,_⟩
   ·refine e▸?_;exact aP _ (Cw a7).1
   ·simp at a7
  ·exact(tF (t:=bd.toks+T.length) (jJ.trans bK) (.of_same (E:=E) ag fz) (by simpa using nV)).adopt nV
 ·obtain⟨a,ak,ea,b3,bt,sT,bK⟩:=p
  refine ea▸?_
  exact⟨a,ak,rfl,b3,bt,sT.back jJ.live,jJ.trans bK⟩
theorem Kz{pos:bu}{A:aQ}(az:A=.cj []∨A=.b5 []):dB E D names U d (.Dict [] [] pos) C (λl=>.ok (.loc l.length) (l++[A])):=λM m O J l s P aG=>by
 have bv:∀b A,s.heap.get? b=some A->(s.heap.push {cls:=.type "dict",data:=.dict #[]}).get? b=some A:=λb A e=>dM _ e
 have aO:(s.heap.push {cls:=.type "dict",data:=.dict #[]}).get? s.heap.objs.size=some {cls:=.type "dict",data:=.dict #[]}:=eS _ rfl
 refine wpAny_Dict_empty ⟨_,_,rfl,J++[s.heap.objs.size],P.st.push bv hR ?_,by exact bx _ (by refine P.st.len▸?_;simp) rfl,.push (t:=s.toks) bv hR⟩
 rcases az with rfl |rfl
 ·exact qw ([]) ⟨_,_,_,aO,⟨rfl,rfl,rfl⟩,rfl,by intro e bw;simp at bw,.nil,ub⟩ rfl (by simp) .nil (by decide)
 ·exact xM ([]) ⟨_,_,_,aO,⟨rfl,rfl,rfl⟩,rfl,rfl,by simp,ub⟩ rfl (by simp) .nil (by decide) (by simp)
end
def v8(E:bM)(D:Bool)(names:List (I×b4))(U:List (I×Nat))(d:Nat)(af:List Expr)(C:aI)(k:St->ao (List L)):Prop:=
 ∀M m O J l s bc y Y av(aA:ab->ay->Prop)(an:I->ay->Prop),dN E names U d M m O J C l s->k l=.ok Y av->sM Y=some y->bc.cps.size+y.cps.size<b8->fy bc=true->
  (∀ah aw,a' E aw av ah.heap->bG D (ci m) [] J s aw ah->fy (bc++y)=true->an (bc++y) ah)->Joins (a1 aH w) M aA (wY af O) bc an s
def Cf(E:bM)(D:Bool)(names:List (I×b4))(U:List (I×Nat))(d:Nat)(e:Expr)(C:aI)(k:St->ao L):Prop:=
 ∀M m O J l s x p av(aA R:ab->ay->Prop),dN E names U d M m O J C l s->k l=.ok x av->pieceOf x=some p->
  (∀t ah aw,a' E aw av ah.heap->bG D (ci m) [] J s aw ah->fy p=true->R (.str p t) ah)->a9 (a1 aH w) M (fb e O) R aA s
section
variable{D:Bool}{E:bM}{K:cb}{M:cv}{m:List bo}{W J bT bV:List aa}{s:ay}{names:List (I×b4)}{U c':List (I×Nat)}{d:Nat}{O:bo}{C:aI}{l:St}{bp:aa->List L->St->ao L}{aA:ab->ay->Prop}
theorem afQ(x y z:I):x++y++z=x++(y++z):=by
 show(⟨x.cps++y.cps++z.cps⟩:I)=⟨x.cps++(y.cps++z.cps)⟩
 rw[Array.append_assoc]
theorem BA(x y:I):(x++y).cps.size=x.cps.size+y.cps.size:=Array.size_append
theorem Dy{ds:ao L}{fg:St->ao (List L)}{Y:List L}{av:St}(h:(ds.bind λx ak=>(fg ak).bind λY a2=>.ok (x::Y) a2)=.ok Y av):∃x ak bH,ds=.ok x ak∧fg ak=.ok bH av∧x::bH=Y:=by
 cases ds with
 |ok x ak=>
  change (fg ak).bind _=_ at h
  cases e:fg ak with
  |ok bH a2=>rw[e] at h;cases h;exact⟨x,ak,bH,rfl,e,rfl⟩
  |_=>rw[e] at h;cases h
 |_=>cases h
theorem Xt:v8 E D names U d [] C (λl=>.ok [] l):=λM m O J l s bc y Y av aA an P e fZ ag ar cY=>by
 cases e
 simp only[sM,akA] at fZ
 subst fZ
 exact cY s J P.st .refl ar
theorem Wr:∀n:Fin 10,(pT (toString (n.val:Int))).cps.size=1∧fy (pT (toString (n.val:Int)))=true∧(n.val:Int).natAbs.log2<1920:=by decide +kernel
theorem Wq{i:Int}(h:0<=i∧i<10):(pT (toString i)).cps.size=1∧fy (pT (toString i))=true∧i.natAbs.log2<1920:=by
 have d:=Wr ⟨i.toNat,(R8 h.1).mpr h.2⟩
 rw[Int.toNat_of_nonneg h.1] at d
 exact d
theorem OK{z p:I}(h:pieceOf (.str z)=some p):z.cps.size<b8∧z=p:=by
 by_cases q:z.cps.size<b8
 ·exact⟨q,dq ((if_pos q).symm.trans h)⟩
 ·cases (if_neg q).symm.trans h
theorem adw{i:Int}{p:I}(h:pieceOf (.int i)=some p):(0<=i∧i<10)∧pT (toString i)=p:=by
 by_cases q:0<=i∧i<10
 ·exact⟨q,dq ((if_pos q).symm.trans h)⟩
 ·cases (if_neg q).symm.trans h
theorem Xv{e:Expr}{k:St->ao L}(bw:dB E D names U d e C k)(aK:∀l x av,k l=.ok x av->∃z,x=.str z):Cf E D names U d e C k:=λM m O J l s x p av aA R P ea a0 gB=>by
 obtain⟨z,rfl⟩:=aK _ _ _ ea
 refine(bw _ _ _ _ _ _ P).inner ea λv bd b3 bt cN bK=>?_
 refine dL (jp cN) λil kf=>?_
 obtain⟨t,rfl⟩:=il
 cases (OK a0).2
 exact gB t bd b3 bt bK kf
theorem Xw{e:Expr}{pos:bu}{k:St->ao L}(bw:dB E D names U d e C k):Cf E D names U d (.FormattedValue e (-1) none pos) C k:=λM m O J l s x p av aA R P ea a0 gB=>by
 refine wpAny_FormattedValue_plain ((bw _ _ _ _ _ _ P).inner ea λv bd b3 bt cN bK=>?_)
 cases x with
 |str z=>
  refine dL (jp cN) λil kf=>?_
  obtain⟨t,rfl⟩:=il
  refine dL (OK a0) λaZ q=>?_
  subst q
  exact wpAny_formatField_str (gB t bd b3 bt bK kf) (gB _ _ b3 (bt.more λo o e=>e) (bK.trans .tok) kf) (nP aZ)
 |int i=>
  obtain⟨t,rfl⟩:=mr cN
  refine dL (adw a0) λaR q=>?_
  subst q
  refine qQ (Wq aR) λo dk oX=>?_
  exact wpAny_formatField_int oX (gB _ _ b3 (bt.more λo o e=>e) (bK.trans .tok) dk)
 |_=>cases a0
theorem JG{x y q:I}(h:(if x.cps.size+y.cps.size<b8 then some (x++y) else none)=some q):x.cps.size+y.cps.size<b8∧x++y=q:=by
 by_cases z:x.cps.size+y.cps.size<b8
 ·exact⟨z,dq ((if_pos z).symm.trans h)⟩
 ·cases (if_neg z).symm.trans h
theorem KH{e:Expr}{r:List Expr}{ds:St->ao L}{fg:St->ao (List L)}(bw:Cf E D names U d e C ds)(ba:v8 E D names U d r C fg):
 v8 E D names U d (e::r) C (λl=>(ds l).bind λx ak=>(fg ak).bind λY a2=>.ok (x::Y) a2):=λM m O J l s bc y Y av aA an P ea fZ ag ar cY=>by
 refine jq (Dy ea) λx ak bH a3 a4 z=>?_
 subst z
 refine aU (mF.mp fZ) λp a0 fZ=>?_
 refine aU (mF.mp fZ) λq eq fZ=>?_
 refine dL (JG fZ) λaP z=>?_
 subst z
 rw[BA,<-Il] at ag
 refine bw M m O J l s x p ak aA _ P a3 a0 λt bd b3 bt bK aL=>kV p t rfl (nP (?_:(bc++p).cps.size<b8)) ?_
 ·rw[BA];exact e2 (pQ _ _) ag
 ·refine ba M m O b3 ak bd (bc++p) q bH av aA an (P.grow bK bt) a4 eq (by rw[BA];exact ag) (Qe ar aL) λah aw cG fB ok=>?_
  rw[afQ] at ok |-
  exact cY ah aw cG (bK.trans fB) ok
theorem VA{Y:List L}{y:I}(h:sM Y=some y):y.cps.size<b8:=by
 cases Y with
 |nil=>cases h;decide
 |cons x Y=>
  refine aU (mF.mp h) λp a0 h=>?_
  refine aU (mF.mp h) λq eq h=>?_
  refine dL (JG h) λaP z=>?_
  rw[<-z,BA];exact aP
theorem Xd{a3 a4:Expr}{r:List Expr}{pos:bu}{k:St->ao (List L)}(h:v8 E D names U d (a3::a4::r) C k):
 dB E D names U d (.JoinedStr (a3::a4::r) pos) C (λl=>(k l).g'.bind λY ak=>opt ((sM Y).map .str) ak):=λM m O J l s P aG=>by
 dsimp only at aG |-
 cases ea:k l with
 |exc _ _=>replace aG:=ea▸aG;exact absurd rfl aG
 |fail=>replace aG:=ea▸aG;exact absurd rfl aG
 |ok Y ak=>
  replace aG:=ea▸aG
  dsimp only[ao.g',ao.nS] at aG |-
  cases fZ:sM Y with
  |none=>replace aG:=fZ▸aG;exact absurd rfl aG
  |some y=>
   have ag:=VA fZ
   have uD:IT++y=y:=by
    refine(?_:(⟨#[]++ y.cps⟩:I)=y)
    simp
   refine wpAny_JoinedStr (h M m O J l s IT y Y ak _ _ P ea fZ (by show 0+y.cps.size<b8;exact Nat.add_lt_of_lt_sub' ag) (by simp[fy,IT]) λah aw cG fB ok=>?_)
   rw[uD] at ok |-
   exact⟨by show y.cps.size<=_;simp only[jU];unfold b8 at ag;exact b6 [_] 1 al (.num 16777216) 1 (Ns al) (.num 100000) rfl ag,_,_,rfl,aw,cG.more λo o e=>e,by exact⟨⟨_,rfl⟩,ok⟩,fB.trans .tok⟩
end
noncomputable def dY{α:Type}(lt:Nat->Nat->Bool):t' α->α
 |.ret a=>a
 |.ask i j k=>dY lt (k (lt i j))
theorem qd{α bq:Type}(lt:Nat->Nat->Bool)(f:α->t' bq):∀t:t' α,dY lt (t.bind f)=dY lt (f (dY lt t))
 |.ret _=>rfl
 |.ask i j k=>by
  refine(?_:dY lt ((k (lt i j)).bind f)=_)
  simp only[qd lt f (k (lt i j))];rfl
section
variable(r:Nat->Nat)
noncomputable def d8(i j:Nat):Bool:=decide (r i<r j)
noncomputable def dt(p:Array Nat)(k:Nat):Nat:=r (p.getD k 0)
def j2(p:Array Nat)(k:Nat):Prop:=∀i j,i<=j->j<k->dt r p i<=dt r p j
def mv(p:Array Nat)(k:Nat):Prop:=∀i j,i<=j->j<k->dt r p j<=dt r p i
end
section
variable{r:Nat->Nat}
theorem wC{p q:Array Nat}{i j:Nat}(h:p[i]? =q[j]?):dt r p i=dt r q j:=by
 unfold dt
 congr 1
 simp only[yL,yL,h]
theorem wD{p:Array Nat}{i j:Nat}(cy:j<=p.size)(k:Nat):dt r (hS p i j) k=if i<=k∧k<j then dt r p (i+j-1-k) else dt r p k:=by
 have e:=getElem?_mirror_all (xs:=p) (i:=i) cy k
 by_cases ai:i<=k∧k<j
 ·rw[if_pos ai] at e |-;exact wC e
 ·rw[if_neg ai] at e |-;exact wC e
theorem Tf{p:Array Nat}{s d:Nat}(aP:s<p.size)(hd:d<=s)(k:Nat):dt r (bubble p s d) k=if k=s-d then dt r p s else if s-d<k∧k<=s then dt r p (k-1) else dt r p k:=by
 have e:=getElem?_bubble aP d hd k
 by_cases ai:k=s-d
 ·rw[if_pos ai] at e |-;exact wC e
 ·rw[if_neg ai] at e |-
  by_cases am:s-d<k∧k<=s
  ·rw[if_pos am] at e |-;exact wC e
  ·rw[if_neg am] at e |-;exact wC e
theorem ya{p:Array Nat}{i j:Nat}:(hS p i j).Perm p:=mirror_perm ..
theorem GG{p:Array Nat}{i j:Nat}:(hS p i j).size=p.size:=mirror_size ..
theorem j2.snoc{p:Array Nat}{n:Nat}(h:j2 r p n)(aO:1<=n)(aN:dt r p (n-1)<=dt r p n):j2 r p (n+1):=λi j fJ cy=>by
 by_cases q:j=n
 ·subst q
  by_cases dZ:i=j
  ·subst dZ;exact eN _
  ·exact da (h i (j-1) ((hg dZ).elim (λcT=>cf [_,_,_] 1 al ax 1 (Ns al) aT 1 aT (Ns ax) rfl cT (fW j 1)) λcT=>cf [_,_,_] 0 al ax 1 al aT 1 (Ns aT) al rfl fJ cT) (by exact Iw aO)) aN
 ·exact h i j fJ ((hg q).elim (λcT=>b6 [_,_] 1 (Ns al) ax 1 (Ns al) ax rfl cT) λcT=>cf [_,_] 0 (Ns al) ax 1 (Ns al) (Ns ax) 1 (Ns ax) al rfl cy cT)
theorem mv.snoc{p:Array Nat}{n:Nat}(h:mv r p n)(aO:1<=n)(aN:dt r p n<=dt r p (n-1)):mv r p (n+1):=λi j fJ cy=>by
 by_cases q:j=n
 ·subst q
  by_cases dZ:i=j
  ·subst dZ;exact eN _
  ·exact da aN (h i (j-1) ((hg dZ).elim (λcT=>cf [_,_,_] 1 al ax 1 (Ns al) aT 1 aT (Ns ax) rfl cT (fW j 1)) λcT=>cf [_,_,_] 0 al ax 1 al aT 1 (Ns aT) al rfl fJ cT) (by exact Iw aO))
 ·exact h i j fJ ((hg q).elim (λcT=>b6 [_,_] 1 (Ns al) ax 1 (Ns al) ax rfl cT) λcT=>cf [_,_] 0 (Ns al) ax 1 (Ns al) (Ns ax) 1 (Ns ax) al rfl cy cT)
theorem Di{p:Array Nat}:∀(f n:Nat),1<=n->j2 r p n->n<=dY (d8 r) (qr p f n)∧dY (d8 r) (qr p f n)<=n+f∧j2 r p (dY (d8 r) (qr p f n))∧
 (dY (d8 r) (qr p f n)< n+f->dt r p (dY (d8 r) (qr p f n))< dt r p (dY (d8 r) (qr p f n)- 1))
 |0,n,aO,aP=>⟨eN _,eN _,aP,λh=>absurd h (kw _)⟩
 |f+1,n,aO,aP=>by
  have e:dY (d8 r) (qr p (f+1) n)=dY (d8 r) (if d8 r (p.getD n 0) (p.getD (n-1) 0)=true then mA n else qr p f (n+1)):=rfl
  refine(e).symm▸?_
  by_cases q:dt r p n<dt r p (n-1)
  ·have:d8 r (p.getD n 0) (p.getD (n-1) 0)=true:=by simpa[d8,dt] using q
   rw[if_pos this]
   exact⟨eN _,pQ _ _,aP,λo=>q⟩
  ·have:¬d8 r (p.getD n 0) (p.getD (n-1) 0)=true:=by simpa[d8,dt] using q
   rw[if_neg this]
   refine tZ (Di f (n+1) (by exact wv aO) (aP.snoc aO (by exact gv q))) λai am a6 c2=>?_
   exact⟨by exact oJ ai,b6 [_,_,_] 1 al (.add ax (Ns aT)) 1 al (.add (Ns ax) aT) rfl am,a6,λh=>c2 (b6 [_,_,_] 1 (Ns al) (.add (Ns ax) aT) 1 (Ns al) (.add ax (Ns aT)) rfl h)⟩
theorem z2:∀(f:Nat)(p:Array Nat)(n q:Nat),1<=n->n+f<=p.size->mv r p n->q<n->(∀i,n-1-q<=i->i<n->dt r p i=dt r p (n-1))->
 ∃bN eY dZ,dY (d8 r) (iA f p n q)=(bN,eY,dZ)∧bN.Perm p∧n<=eY∧eY<=n+f∧mv r bN eY∧dZ<eY∧(∀i,eY-1-dZ<=i->i<eY->dt r bN i=dt r bN (eY-1))
 |0,p,n,q,aO,aZ,hd,a7,bn=>tr p n q rfl (.refl _) (eN _) (eN _) hd a7 bn
 |f+1,p,n,q,aO,aZ,hd,a7,bn=>by
  have e:dY (d8 r) (iA (f+1) p n q)=dY (d8 r) (if d8 r (p.getD n 0) (p.getD (n-1) 0)=true then(if q>0 then iA f (hS p (n-(q+1)) n) (n+1) 0 else iA f p (n+1) 0)
   else .ask (p.getD (n-1) 0) (p.getD n 0) λd=>if d=true then .ret (p,n,q) else iA f p (n+1) (q+1)):=rfl
  simp only[e]
  by_cases c:dt r p n<dt r p (n-1)
  ·have:d8 r (p.getD n 0) (p.getD (n-1) 0)=true:=by simpa[d8,dt] using c
   rw[if_pos this]
   by_cases L5:q>0
   ·rw[if_pos L5]
    have same:∀k,dt r (hS p (n-(q+1)) n) k=dt r p k:=λk=>by
     rw[wD (by exact Nat.le_of_add_right_le aZ)]
     split
     ·rename_i h
      rw[bn _ (by exact HV [_,_,_,_,_,_,_,_] 1 al ax 1 (Ns aT) cs 1 fA (.add ax aT) 1 (.add i' cs) (Ns fA) 1 cs (.add i' (Ns zu)) 1 (.add al zu) zv 1 (Ns zv) cs rfl h.2 (fW (n-(q+1)+ n-1) k) (fW (n-(q+1)+ n) 1) (fW n (q+1)) (fM (cf [_,_,_] 1 al ax 1 (Ns al) aT 1 aT (Ns ax) rfl a7 (fW n 1))) (fM (b6 [_,_] 1 ek al 1 (Ns ax) al rfl a7))) (by exact gl [_,_,_,_,_] 1 (Ns al) ax 1 aT cs 1 (.add al cs) fA 1 (Ns fA) (.add aT ax) rfl h.1 (fM (cf [_,_,_,_] 1 al ax 1 (Ns al) aT 1 (.add cs aT) (Ns ax) rfl h.2 (fW (n-(q+1)+ n) 1))) (fM (b6 [_,_,_] 1 ek (.add al ax) 1 (Ns aT) ax rfl a7))),bn k (sm [_,_,_,_,_,_] 1 al ax 1 aT ax 1 cs (.add aT (Ns fA)) 1 (.add al fA) i' 1 (Ns i') cs rfl h.1 (fW n (q+1)) (fM (cf [_,_,_] 1 al ax 1 (Ns al) aT 1 aT (Ns ax) rfl a7 (fW n 1))) (fM (b6 [_,_] 1 ek al 1 (Ns ax) al rfl a7))) h.2]
     ·rfl
    have eO:mv r (hS p (n-(q+1)) n) (n+1):=by
     have:=hd.snoc aO (by exact oJ c)
     intro i j fJ cy;simp only[same,same];exact this i j fJ cy
    refine yG (z2 f (hS p (n-(q+1)) n) (n+1) 0 (by exact wv aO) (by simp only[GG];omega) eO (by exact Im aO 1) (λi ai am=>by congr 1;exact Ip ai am)) λbN eY dZ a3 a4 cI eV g4 nX oU=>?_
    exact tr bN eY dZ a3 (a4.trans ya) (by exact oJ cI) (by omega) g4 nX oU
   ·rw[if_neg L5]
    refine ge λdT cD=>?_
    refine yG (z2 f p (n+1) 0 (hJ [_] ek (Ns al) rfl) (by omega) (hd.snoc aO (by exact oJ c)) (by exact Im aO 1) (λi ai am=>by congr 1;exact Ip ai am)) λbN eY dZ a3 a4 cI eV g4 nX oU=>?_
    refine cD ?_
    clear cD dT
    exact tr bN eY dZ a3 a4 (b6 [_,_] 1 al ax 1 (Ns al) ax rfl cI) (by omega) g4 nX oU
  ·have:¬d8 r (p.getD n 0) (p.getD (n-1) 0)=true:=by simpa[d8,dt] using c
   rw[if_neg this]
   have cm:dY (d8 r) (.ask (p.getD (n-1) 0) (p.getD n 0) λd=>if d=true then mA (p,n,q) else iA f p (n+1) (q+1))=dY (d8 r) (if d8 r (p.getD (n-1) 0) (p.getD n 0)=true then mA (p,n,q) else iA f p (n+1) (q+1)):=rfl
   refine(cm).symm▸?_
   by_cases dd:dt r p (n-1)< dt r p n
   ·have:d8 r (p.getD (n-1) 0) (p.getD n 0)=true:=by simpa[d8,dt] using dd
    rw[if_pos this]
    exact tr p n q rfl (.refl _) (eN _) (by exact pQ n (f+1)) hd a7 bn
   ·have:¬d8 r (p.getD (n-1) 0) (p.getD n 0)=true:=by simpa[d8,dt] using dd
    rw[if_neg this]
    have mU:dt r p n=dt r p (n-1):=h2 (b6 [_,_] 1 al ax 1 al ax rfl (gv dd)) (b6 [_,_] 1 al ax 1 al ax rfl (gv c))
    obtain⟨bN,eY,dZ,a3,a4,cI,eV,g4,nX,oU⟩:=z2 f p (n+1) (q+1) (by exact wv aO) (by omega) (hd.snoc aO (by exact gv dd)) (by exact Nat.add_lt_add_right a7 1) (λi ai am=>by
     simp only[show n+1-1=n by exact Nat.add_sub_self_right n 1,mU]
     by_cases aR:i=n
     ·cases aR;exact mU
     ·exact bn i (by lia) ((hg aR).elim (λcT=>b6 [_,_] 1 (Ns al) ax 1 (Ns al) ax rfl cT) λcT=>cf [_,_] 0 (Ns al) ax 1 (Ns al) (Ns ax) 1 (Ns ax) al rfl am cT))
    exact tr bN eY dZ a3 a4 (by exact oJ cI) (by omega) g4 nX oU
theorem Qo{n eZ:Nat}{p:Array Nat}(aO:1<=n)(aN:n<=eZ)(aZ:eZ<=p.size)(hd:mv r p n):
 ∃N bN,dY (d8 r) (AS n eZ p)=(N,bN)∧bN.Perm p∧1<=N∧N<=eZ∧j2 r bN N:=by
 have aP:j2 r (hS p 0 n) n:=λi j fJ cy=>by
  rw[wD (by omega),wD (by omega),if_pos (⟨hJ [_] en al rfl,cf [_,_,_] 1 (Ns al) ax 1 al aT 1 (Ns aT) ax rfl fJ cy⟩),if_pos (by exact if_false_right.mp cy)]
  exact hd _ _ (by exact Nat.sub_le_sub_left fJ (0+n-1)) (cf [_,_,_] 1 (Ns al) ax 1 al aT 1 (Ns aT) (.add en ax) rfl (wx (0+n-1) i) (fM (b6 [_] 1 ek (.add en al) 1 ek al rfl aO)))
 refine tZ (Di (r:=r) (eZ-n) n aO aP) λai am a6 o=>?_
 exact m3 _ _ (by unfold AS;simp only[qd];rfl) ya (by exact da aO ai) (cf [_,_,_,_] 1 al ax 1 al (.add aT cs) 1 (.add cs aT) ax rfl am (fM (b6 [_,_] 1 al ax 1 al ax rfl aN))) a6
theorem J'{n eZ:Nat}{p:Array Nat}(aO:1<=n)(aN:n<eZ)(aZ:eZ<=p.size)(hd:mv r p (n+1)):
 ∃N bN,dY (d8 r) (pb n eZ p)=(N,bN)∧bN.Perm p∧1<=N∧N<=eZ∧j2 r bN N:=by
 refine yG (z2 (r:=r) (eZ-(n+1)) p (n+1) 0 (by exact wv aO) (cf [_,_,_,_] 1 (.add (Ns al) ax) aT 1 cs aT 1 (.add ax (Ns al)) cs rfl aZ (fM (b6 [_,_] 1 (Ns al) ax 1 (Ns al) ax rfl aN))) hd (by exact Im aO 1) (λi ai am=>by congr 1;exact Ip ai am)) λbN eY dZ a3 a4 cI eV g4 nX oU=>?_
 have e1:bN.size=p.size:=a4.size_eq
 unfold pb
 (rw[qd];refine a3▸?_)
 dsimp only
 by_cases a7:dZ>0
 ·rw[if_pos a7]
  have same:∀k,dt r (hS bN (eY-(dZ+1)) eY) k=dt r bN k:=λk=>by
   rw[wD (by exact sm [_,_,_,_,_,_] 1 al ax 1 aT cs 1 al (.add (Ns fA) i') 1 cs ax 1 (.add i' (Ns fA)) aT rfl aZ eV (i7 e1) (fM (b6 [_,_] 1 (Ns al) ax 1 (Ns al) ax rfl aN)))]
   split
   ·rename_i h
    rw[oU _ (by exact HV [_,_,_,_,_,_,_,_] 1 al ax 1 (Ns aT) cs 1 fA (.add ax aT) 1 (.add i' cs) (Ns fA) 1 cs (.add i' (Ns zu)) 1 (.add al zu) zv 1 (Ns zv) cs rfl h.2 (fW (eY-(dZ+1)+ eY-1) k) (fW (eY-(dZ+1)+ eY) 1) (fW eY (dZ+1)) (fM (cf [_,_,_] 1 al ax 1 (Ns al) aT 1 aT (Ns ax) rfl nX (fW eY 1))) (fM (b6 [_,_] 1 ek al 1 (Ns ax) al rfl cI))) (by exact gl [_,_,_,_,_] 1 (Ns al) ax 1 aT cs 1 (.add al cs) fA 1 (Ns fA) (.add aT ax) rfl h.1 (fM (cf [_,_,_,_] 1 al ax 1 (Ns al) aT 1 (.add cs aT) (Ns ax) rfl h.2 (fW (eY-(dZ+1)+ eY) 1))) (fM (b6 [_,_,_] 1 ek (.add al ax) 1 (Ns aT) ax rfl cI))),oU k (by lia) h.2]
   ·rfl
  have eO:mv r (hS bN (eY-(dZ+1)) eY) eY:=λi j fJ cy=>by simp only[same,same];exact g4 i j fJ cy
  refine k6 (Qo (r:=r) (eZ:=eZ) (by exact It cI) (by omega) (by simp only[GG];exact le_of_le_of_eq aZ (id (sj e1))) eO) λN Gl fQ dk oX uJ uK=>?_
  exact m3 N Gl fQ ((dk.trans ya).trans a4) oX uJ uK
 ·rw[if_neg a7]
  refine ge λdT cD=>?_
  refine k6 (Qo (r:=r) (eZ:=eZ) (by exact It cI) (by omega) (by exact le_of_le_of_eq aZ (id (sj e1))) g4) λN Gl fQ dk oX uJ uK=>?_
  refine cD ?_
  clear cD dT
  exact m3 N Gl fQ (dk.trans a4) oX uJ uK
theorem V5{eZ:Nat}{p:Array Nat}(aO:1<=eZ)(aZ:eZ<=p.size):∃N bN,dY (d8 r) (AR eZ p)=(N,bN)∧bN.Perm p∧1<=N∧N<=eZ∧j2 r bN N:=by
 have bQ:j2 r p 1:=λi j fJ cy=>by refine(show i=j by lia)▸?_;exact eN _
 refine tZ (Di (r:=r) (p:=p) (eZ-1) 1 (by exact q7 rfl) bQ) λai am a6 c2=>?_
 unfold AR
 simp only[qd]
 generalize dY (d8 r) (qr p (eZ-1) 1)=N at ai am a6 c2 |-
 by_cases q:N=eZ
 ·rw[if_pos (by simpa using q)]
  exact m3 N p rfl (.refl _) ai (by exact dI q) a6
 ·rw[if_neg (by simpa using q)]
  have iz:=c2 ((hg q).elim (λcT=>cf [_,_,_] 1 (Ns al) (.add ek ax) 1 (Ns al) aT 1 aT (Ns ax) rfl cT (fW eZ 1)) λcT=>gl [_,_,_] 0 (Ns al) (.add ek ax) 1 al (.add ek ax) 1 (Ns aT) al 1 (Ns ax) aT rfl am cT (fM (b6 [_] 1 ek al 1 ek al rfl aO)))
  by_cases b0:N>1
  ·rw[if_pos b0]
   have e:dY (d8 r) (.ask (p.getD 0 0) (p.getD (N-1) 0) λc=>if c=true then mA (N,p) else pb N eZ (hS p 0 N))=dY (d8 r) (if d8 r (p.getD 0 0) (p.getD (N-1) 0)=true then mA (N,p) else pb N eZ (hS p 0 N)):=rfl
   refine(e).symm▸?_
   by_cases c:dt r p 0<dt r p (N-1)
   ·have:d8 r (p.getD 0 0) (p.getD (N-1) 0)=true:=by simpa[d8,dt] using c
    rw[if_pos this]
    exact m3 N p rfl (.refl _) ai (cf [_,_,_] 1 al ax 1 al (.add ek aT) 1 (Ns aT) ax rfl am (fM (b6 [_] 1 ek al 1 ek al rfl aO))) a6
   ·have:¬d8 r (p.getD 0 0) (p.getD (N-1) 0)=true:=by simpa[d8,dt] using c
    rw[if_neg this]
    have all:∀k,k<N->dt r p k=dt r p (N-1):=λk aM=>by
     have a:=a6 0 k (by exact iq k) aM
     have b:=a6 k (N-1) (by exact(Nat.le_sub_one_iff_lt ai).mpr aM) (by exact Iw ai)
     exact h2 (b6 [_,_] 1 al ax 1 al ax rfl b) (cf [_,_,_] 1 al ax 1 al aT 1 aT ax rfl (gv c) a)
    have same:∀k,dt r (hS p 0 N) k=dt r p k:=λk=>by
     rw[wD (by exact gl [_,_,_,_] 1 al ax 1 aT ax 1 al (.add ek cs) 1 (Ns cs) aT rfl aZ am (fM (b6 [_] 1 ek al 1 ek al rfl aO)))]
     split
     ·rename_i h
      rw[all _ (by exact cf [_,_,_] 1 (Ns al) ax 1 al aT 1 (Ns aT) (.add en ax) rfl (wx (0+N-1) k) (fM (b6 [_] 1 ek (.add en al) 1 (Ns ek) al rfl b0))),all k h.2]
     ·rfl
    have hd:mv r (hS p 0 N) (N+1):=by
     have EN:mv r (hS p 0 N) N:=λi j fJ cy=>by simp only[same,same,all i (by exact e2 fJ cy),all j cy];exact eN _
     exact EN.snoc (by omega) (by simp only[same,same];exact oJ iz)
    refine k6 (J' (r:=r) (n:=N) (eZ:=eZ) ai ((hg q).elim (λcT=>b6 [_,_] 1 (Ns al) ax 1 (Ns al) ax rfl cT) λcT=>gl [_,_,_] 0 (Ns al) ax 1 al (.add ek aT) 1 (Ns ax) al 1 (Ns aT) ax rfl am cT (fM (b6 [_] 1 ek al 1 ek al rfl aO))) (by simp only[GG];omega) hd) λde bN fQ dk oX uJ uK=>?_
    exact m3 de bN fQ (dk.trans ya) oX uJ uK
  ·rw[if_neg b0]
   have hm:N=1:=h2 (b6 [_] 1 al ek 1 al ek rfl (gv b0)) (b6 [_] 1 ek al 1 ek al rfl ai)
   subst hm
   have EN:mv r p 1:=λi j fJ cy=>by simp only[show i=j by lia];exact eN _
   exact J' (by omega) (by exact zc aO q) aZ (EN.snoc (by omega) (by exact oJ iz))
theorem Gp{p:Array Nat}{k:Nat}(aP:j2 r p k):∀(f m ev:Nat),m<=ev->ev<=k->ev-m<=f->(∀i,i<m->dt r p i<=dt r p k)->(∀i,ev<=i->i<k->dt r p k<dt r p i)->
 dY (d8 r) (oc p k f m ev)<=k∧(∀i,i<dY (d8 r) (oc p k f m ev)->dt r p i<=dt r p k)∧∀i,dY (d8 r) (oc p k f m ev)<=i->i<k->dt r p k<dt r p i
 |0,m,ev,ai,am,a6,c2,fc=>by
  have:m=ev:=h2 (b6 [_,_] 1 al ax 1 al ax rfl ai) (cf [_,_,_] 1 al ax 1 aT en 1 al (.add aT ax) rfl a6 (fW ev m))
  subst this
  exact⟨am,c2,fc⟩
 |f+1,m,ev,ai,am,a6,c2,fc=>by
  dsimp only[oc]
  by_cases q:m≥ev
  ·rw[if_pos q]
   have:m=ev:=by exact h2 ai q
   subst this
   exact⟨am,c2,fc⟩
  ·rw[if_neg q]
   have e:dY (d8 r) (.ask (p.getD k 0) (p.getD ((m+ev)/ 2) 0) λc=>if c=true then oc p k f m ((m+ev)/ 2) else oc p k f ((m+ev)/ 2+1) ev)=dY (d8 r) (if d8 r (p.getD k 0) (p.getD ((m+ev)/ 2) 0)=true then oc p k f m ((m+ev)/ 2) else oc p k f ((m+ev)/ 2+1) ev):=rfl
   refine(e).symm▸?_
   by_cases c:dt r p k<dt r p ((m+ev)/ 2)
   ·have:d8 r (p.getD k 0) (p.getD ((m+ev)/ 2) 0)=true:=by simpa[d8,dt] using c
    rw[if_pos this]
    exact Gp aP f m ((m+ev)/ 2) (cf [_,_,_] 2 al ax 1 (Ns al) aT 1 (Ns (.add al aT)) (.mulL 2 (Ns ax)) rfl (lb q) (CC (m+ev) (CG _))) (gl [_,_,_,_] 2 al ax 2 aT ax 1 (Ns cs) aT 1 (.mulL 2 al) (.add cs aT) rfl am (lb q) (ww (m+ev) 2)) (sm [_,_,_,_,_,_] 2 al ax 1 aT (Ns ax) 1 (.mulL 2 cs) (.add fA i') 1 i' (.add aT fA) 2 (.add al fA) cs rfl a6 (ww (m+ev) 2) (fW ev m) (fM (cf [_,_,_] 2 al ax 1 (Ns al) aT 1 (Ns (.add al aT)) (.mulL 2 (Ns ax)) rfl (lb q) (CC (m+ev) (CG _))))) c2 λi aR aM=>by
     have:=aP ((m+ev)/ 2) i aR aM
     exact oK c (aP ((m+ev)/ 2) i aR aM)
   ·have:¬d8 r (p.getD k 0) (p.getD ((m+ev)/ 2) 0)=true:=by simpa[d8,dt] using c
    rw[if_neg this]
    exact Gp aP f ((m+ev)/ 2+1) ev (cf [_,_,_] 2 (Ns al) ax 1 (Ns aT) ax 1 (.mulL 2 al) (.add aT ax) rfl (lb q) (ww (m+ev) 2)) am (sm [_,_,_,_,_,_] 2 al ax 1 aT (Ns ax) 1 (Ns (.add cs fA)) (.mulL 2 (Ns i')) 1 fA (.add aT cs) 2 (.add al (Ns i')) fA rfl a6 (CC (m+ev) (CG _)) (fW ev m) (fM (cf [_,_,_] 2 (Ns al) ax 1 (Ns aT) ax 1 (.mulL 2 al) (.add aT ax) rfl (lb q) (ww (m+ev) 2)))) (λi aR=>by
     have:=aP i ((m+ev)/ 2) (by exact CB aR) (gl [_,_,_,_] 2 (Ns al) ax 2 aT ax 1 (Ns cs) aT 1 (.mulL 2 al) (.add cs aT) rfl am (lb q) (ww (m+ev) 2))
     exact cf [_,_,_] 1 al ax 1 aT ax 1 al aT rfl (gv c) this) fc
theorem Jp:∀(f:Nat)(p:Array Nat)(k:Nat),k+f<=p.size->j2 r p k->∃bN,dY (d8 r) (FE f p k)=bN∧bN.Perm p∧j2 r bN (k+f)
 |0,p,k,_,aP=>fK p rfl (.refl _) aP
 |f+1,p,k,aZ,aP=>by
  simp only[show FE (f+1) p k=(oc p k k 0 k).bind λm=>FE f (bubble p k (k-m)) (k+1) from rfl,qd]
  refine qQ (Gp (r:=r) (p:=p) (k:=k) aP k 0 k (by exact iq k) (eN _) (by exact wx k 0) (λi aR=>b6 [_,_,_] 0 al ax 1 (Ns aT) en rfl aR) (λi ai am=>cf [_,_,_,_] 0 (Ns al) ax 1 aT cs 1 (Ns cs) aT rfl ai am)) λai am a6=>?_
  generalize dY (d8 r) (oc p k k 0 k)=m at ai am a6 |-
  have gA:∀i,dt r (bubble p k (k-m)) i=if i=m then dt r p k else if m<i∧i<=k then dt r p (i-1) else dt r p i:=λi=>by
   rw[Tf (by exact CD aZ) (by exact wx k m),show k-(k-m)=m by exact Nat.sub_sub_self ai]
  have n6:j2 r (bubble p k (k-m)) (k+1):=λi j fJ cy=>by
   simp only[gA,gA]
   by_cases a:i=m <;> by_cases b:j=m
   ·rw[if_pos a,if_pos b];exact eN _
   ·rw[if_pos a,if_neg b,if_pos (⟨(hg b).elim (λcT=>gl [_,_,_] 0 (Ns al) ax 1 aT ax 1 al aT 1 (Ns ax) al rfl fJ (i7 a) cT) λcT=>b6 [_,_] 1 (Ns al) ax 1 (Ns al) ax rfl cT,b6 [_,_] 1 al ax 1 (Ns al) (Ns ax) rfl cy⟩)]
    exact Nat.le_of_lt (a6 _ ((hg b).elim (λcT=>gl [_,_,_,_] 0 al ax 1 aT cs 1 al aT 1 (Ns cs) al rfl fJ (i7 a) cT) λcT=>cf [_,_,_] 1 al ax 1 (Ns al) aT 1 aT (Ns ax) rfl cT (fW j 1)) ((hg b).elim (λcT=>gl [_,_,_,_,_] 0 (Ns al) ax 1 aT cs 1 fA aT 1 (Ns cs) fA rfl fJ (i7 a) cT) λcT=>cf [_,_,_] 1 (Ns al) ax 1 (Ns aT) (Ns ax) 1 (Ns al) aT rfl cy (fM (b6 [_,_] 1 ek al 1 (Ns ax) al rfl cT))))
   ·rw[if_neg a,if_neg (λkp=>nB (gl [_,_,_] 0 ek en 1 al ax 1 ax aT 1 (Ns aT) al rfl fJ (dI b) kp.1)),if_pos b]
    exact am i ((hg a).elim (λcT=>b6 [_,_] 1 (Ns al) ax 1 (Ns al) ax rfl cT) λcT=>gl [_,_,_] 0 (Ns al) ax 1 al aT 1 aT ax 1 (Ns ax) al rfl fJ (dI b) cT)
   ·rw[if_neg a,if_neg b]
    by_cases iv:m<i∧i<=k <;> by_cases j7:m<j∧j<=k
    ·rw[if_pos iv,if_pos j7];exact aP _ _ (by exact Nat.sub_le_sub_right fJ 1) (by omega)
    ·exfalso;exact nB ((hg a).elim (λcT=>cf [_,_] 0 ek en 1 (Ns al) ax 1 (Ns ax) al rfl iv.1 cT) λcT=>(hg b).elim (λhe=>gl [_,_,_] 0 ek en 1 al ax 1 (Ns aT) al 1 (Ns ax) aT rfl fJ iv.1 he) λhe=>(Cd.mp j7).elim (λjX=>gl [_,_,_] 0 ek en 1 al ax 1 (Ns aT) al 1 ax aT rfl fJ iv.1 (gv jX)) λjX=>cf [_,_] 0 ek en 1 (Ns al) (Ns ax) 1 (Ns ax) al rfl cy (lb jX))
    ·rw[if_neg iv,if_pos j7]
     exact aP _ _ ((hg a).elim (λcT=>gl [_,_,_,_] 1 al ax 1 (Ns aT) cs 1 (Ns al) aT 1 cs (Ns ax) rfl j7.1 cT (fW j 1)) λcT=>(hg b).elim (λhe=>cf [_,_,_,_] 0 al ax 1 (Ns aT) cs 1 (Ns cs) aT rfl j7.1 he) λhe=>(Cd.mp iv).elim (λjX=>cf [_,_,_] 0 al ax 1 (Ns aT) al 1 al aT rfl cT (gv jX)) λjX=>gl [_,_,_,_] 0 al ax 1 al aT 1 (Ns aT) (Ns cs) 1 (Ns cs) al rfl fJ cy (lb jX)) (by omega)
    ·rw[if_neg iv,if_neg j7];exact aP _ _ fJ ((hg a).elim (λcT=>(hg b).elim (λhe=>cf [_,_,_] 1 (Ns al) ax 1 aT ax 1 (Ns al) aT rfl ai he) λhe=>(Cd.mp j7).elim (λjX=>cf [_,_,_] 0 (Ns al) ax 1 (Ns aT) al 1 al aT rfl he (gv jX)) λjX=>cf [_,_] 0 (Ns al) ax 1 (Ns al) (Ns ax) 1 (Ns ax) al rfl cy (lb jX)) λcT=>(hg b).elim (λhe=>gl [_,_,_,_] 0 (Ns al) ax 1 aT al 1 (Ns cs) aT 1 (Ns al) cs rfl fJ cT he) λhe=>(Cd.mp iv).elim (λjX=>cf [_,_,_,_] 0 (Ns al) ax 1 (Ns aT) cs 1 cs aT rfl cT (gv jX)) λjX=>gl [_,_,_] 0 (Ns al) ax 1 aT al 1 (Ns al) (Ns ax) 1 (Ns ax) aT rfl fJ cy (lb jX))
  refine cr (Jp f (bubble p k (k-m)) (k+1) (by simp only[bubble_size];exact b6 [_,_,_] 1 (.add (Ns al) ax) aT 1 (.add al (Ns ax)) aT rfl aZ) n6) λbN a3 a4 cI=>?_
  exact fK bN a3 (a4.trans (UH ..)) (by simp only[show k+(f+1)=k+1+f by exact sj (Ix k f)];exact cI)
theorem PT{n:Nat}(aO:1<=n):∃p,dY (d8 r) (xC n)=p∧p.Perm (iM n).toArray∧j2 r p n:=by
 refine k6 (V5 (r:=r) (eZ:=n) (p:=(iM n).toArray) aO (by simp)) λN p a3 a4 cI eV g4=>?_
 unfold xC
 (simp only[qd];refine a3▸?_)
 dsimp only
 by_cases q:N<n
 ·rw[if_pos q]
  have e1:p.size=n:=by rw[a4.size_eq];simp
  have hm:max N 1=N:=by exact Nat.max_eq_left cI
  refine(hm).symm▸?_
  refine cr (Jp (r:=r) (n-N) p N (cf [_,_,_,_] 1 (.add al ax) aT 1 cs aT 1 (.add ax al) cs rfl (i7 e1) (fM (b6 [_,_] 1 al ax 1 (Ns al) ax rfl q))) g4) λbN fQ dk oX=>?_
  exact fK bN fQ (dk.trans a4) (by rw[show n=N+(n-N) by exact sj (Nat.add_sub_of_le eV)];exact oX)
 ·rw[if_neg q]
  exact fK p rfl a4 (by simp only[show n=N by exact h2 (b6 [_,_] 1 al ax 1 al ax rfl (gv q)) (b6 [_,_] 1 al ax 1 al ax rfl eV)];exact g4)
noncomputable def iO{α:Type}(n:Nat)(lt:Nat->Nat->Bool):t' α->Prop
 |.ret _=>True
 |.ask i j k=>i<n∧j<n∧iO n lt (k (lt i j))
theorem vr{α bq:Type}{n:Nat}{lt:Nat->Nat->Bool}{f:α->t' bq}:∀{t:t' α},iO n lt t->iO n lt (f (dY lt t))->iO n lt (t.bind f)
 |.ret _,_,h=>h
 |.ask i j k,h,ae=>⟨h.1,h.2.1,vr h.2.2 ae⟩
def hZ(n:Nat)(p:Array Nat):Prop:=∀k,p.getD k 0<n
theorem hZ.perm{n:Nat}{p q:Array Nat}(h:hZ n p)(e:q.Perm p):hZ n q:=λk=>by
 rw[yL]
 cases a3:q[k]? with
 |none=>have:=h p.size;simp at this;exact this
 |some x=>
  have hm:x∈p.toList:=by
   have:x∈q.toList:=by simpa using HG a3
   exact e.toList.mem_iff.mp this
  refine bz (pK hm) λi aR=>?_
  have:=h i
  rw[yL,<-lK,aR] at this
  exact this
theorem hZ.rev{n i j:Nat}{p:Array Nat}(h:hZ n p):hZ n (hS p i j):=h.perm ya
theorem hZ.bubble{n i j:Nat}{p:Array Nat}(h:hZ n p):hZ n (akE p i j):=h.perm (UH ..)
theorem Dj{n:Nat}{lt:Nat->Nat->Bool}{p:Array Nat}(h:hZ n p):∀f N,iO n lt (qr p f N)
 |0,N=>trivial
 |f+1,N=>⟨h _,h _,by dsimp only;split;trivial;exact Dj h f (N+1)⟩
theorem z3{n:Nat}{lt:Nat->Nat->Bool}:∀(f:Nat)(p:Array Nat)(N q:Nat),hZ n p->iO n lt (iA f p N q)∧hZ n (dY lt (iA f p N q)).1
 |0,p,N,q,h=>⟨trivial,h⟩
 |f+1,p,N,q,h=>by
  have e:dY lt (iA (f+1) p N q)=dY lt (if lt (p.getD N 0) (p.getD (N-1) 0)=true then(if q>0 then iA f (hS p (N-(q+1)) N) (N+1) 0 else iA f p (N+1) 0)
   else .ask (p.getD (N-1) 0) (p.getD N 0) λd=>if d=true then .ret (p,N,q) else iA f p (N+1) (q+1)):=rfl
  have cm:iO n lt (iA (f+1) p N q)=(p.getD N 0<n∧p.getD (N-1) 0<n∧iO n lt (if lt (p.getD N 0) (p.getD (N-1) 0)=true then(if q>0 then iA f (hS p (N-(q+1)) N) (N+1) 0 else iA f p (N+1) 0)
   else .ask (p.getD (N-1) 0) (p.getD N 0) λd=>if d=true then .ret (p,N,q) else iA f p (N+1) (q+1))):=rfl
  simp only[e,cm]
  split
  ·split
   ·obtain⟨a,b⟩:=z3 f (hS p (N-(q+1)) N) (N+1) 0 h.rev
    exact⟨⟨h _,h _,a⟩,b⟩
   ·obtain⟨a,b⟩:=z3 f p (N+1) 0 h
    exact⟨⟨h _,h _,a⟩,b⟩
  ·have fQ:dY lt (.ask (p.getD (N-1) 0) (p.getD N 0) λd=>if d=true then mA (p,N,q) else iA f p (N+1) (q+1))=dY lt (if lt (p.getD (N-1) 0) (p.getD N 0)=true then mA (p,N,q) else iA f p (N+1) (q+1)):=rfl
   have dk:iO n lt (.ask (p.getD (N-1) 0) (p.getD N 0) λd=>if d=true then mA (p,N,q) else iA f p (N+1) (q+1))=(p.getD (N-1) 0<n∧p.getD N 0<n∧iO n lt (if lt (p.getD (N-1) 0) (p.getD N 0)=true then mA (p,N,q) else iA f p (N+1) (q+1))):=rfl
   simp only[fQ,dk]
   split
   ·exact⟨⟨h _,h _,h _,h _,trivial⟩,h⟩
   ·obtain⟨a,b⟩:=z3 f p (N+1) (q+1) h
    exact⟨⟨h _,h _,h _,h _,a⟩,b⟩
theorem BE{n:Nat}{lt:Nat->Nat->Bool}{p:Array Nat}{N eZ:Nat}(h:hZ n p):iO n lt (AS N eZ p)∧hZ n (dY lt (AS N eZ p)).2:=by
 unfold AS
 simp only[qd]
 exact⟨vr (Dj h.rev _ _) trivial,h.rev⟩
theorem z1{n:Nat}{lt:Nat->Nat->Bool}{p:Array Nat}{N eZ:Nat}(h:hZ n p):iO n lt (pb N eZ p)∧hZ n (dY lt (pb N eZ p)).2:=by
 refine dL (z3 (lt:=lt) (eZ-(N+1)) p (N+1) 0 h) λa b=>?_
 unfold pb
 simp only[qd]
 refine⟨vr a ?_,?_⟩
 ·split
  ·exact(BE b.rev).1
  ·exact(BE b).1
 ·split
  ·exact(BE b.rev).2
  ·exact(BE b).2
theorem V6{n:Nat}{lt:Nat->Nat->Bool}{p:Array Nat}{eZ:Nat}(h:hZ n p):iO n lt (AR eZ p)∧hZ n (dY lt (AR eZ p)).2:=by
 unfold AR
 simp only[qd]
 have e:∀N,dY lt (.ask (p.getD 0 0) (p.getD (N-1) 0) λc=>if c=true then mA (N,p) else pb N eZ (hS p 0 N))=dY lt (if lt (p.getD 0 0) (p.getD (N-1) 0)=true then mA (N,p) else pb N eZ (hS p 0 N)):=λo=>rfl
 have cm:∀N,iO n lt (.ask (p.getD 0 0) (p.getD (N-1) 0) λc=>if c=true then mA (N,p) else pb N eZ (hS p 0 N))=(p.getD 0 0<n∧p.getD (N-1) 0<n∧iO n lt (if lt (p.getD 0 0) (p.getD (N-1) 0)=true then mA (N,p) else pb N eZ (hS p 0 N))):=λo=>rfl
 refine⟨vr (Dj h _ _) ?_,?_⟩
 ·split
  ·trivial
  ·split
   ·simp only[cm]
    refine⟨h _,h _,?_⟩
    split
    ·trivial
    ·exact(z1 h.rev).1
   ·exact(z1 h).1
 ·split
  ·exact h
  ·split
   ·rw[e]
    split
    ·exact h
    ·exact(z1 h.rev).2
   ·exact(z1 h).2
theorem Gq{n:Nat}{lt:Nat->Nat->Bool}{p:Array Nat}{k:Nat}(h:hZ n p):∀f m ev,iO n lt (oc p k f m ev)
 |0,_,_=>trivial
 |f+1,m,ev=>by
  dsimp only[oc]
  split
  ·trivial
  ·refine⟨h _,h _,?_⟩
   dsimp only
   split
   ·exact Gq h f _ _
   ·exact Gq h f _ _
theorem Jq{n:Nat}{lt:Nat->Nat->Bool}:∀(f:Nat)(p:Array Nat)(k:Nat),hZ n p->iO n lt (FE f p k)
 |0,_,_,_=>trivial
 |f+1,p,k,h=>by
  exact vr (Gq h _ _ _) (Jq f _ _ h.bubble)
theorem afd{n:Nat}{lt:Nat->Nat->Bool}(aO:1<=n):iO n lt (xC n):=by
 have h:hZ n (iM n).toArray:=λk=>by
  rw[yL]
  cases e:(iM n).toArray[k]? with
  |none=>exact Nat.zero_lt_of_lt aO
  |some x=>
   have:x∈iM n:=by
    have:=HG e
    simpa using this
   simpa using this
 refine dL (V6 (lt:=lt) (eZ:=n) h) λa b=>?_
 refine vr a ?_
 split
 ·exact Jq _ _ _ b
 ·trivial
theorem MN{α:Type}{n:Nat}{lt:Nat->Nat->Bool}{cmp:Nat->Nat->(Bool->ay->Prop)->ay->Prop}{s:ay}(h:∀i j(an:Bool->ay->Prop),i<n->j<n->an (lt i j) s->cmp i j an s):∀(t:t' α)(an:α->ay->Prop),iO n lt t->an (dY lt t) s->t.kasWp cmp an s
 |.ret a,an,_,a7=>a7
 |.ask i j k,an,aL,a7=>h i j _ aL.1 aL.2.1 (MN h (k (lt i j)) an aL.2.2 a7)
end
section
variable{D:Bool}{E:bM}{K:cb}{M:cv}{m:List bo}{W J bT bV:List aa}{s:ay}{names:List (I×b4)}{U c':List (I×Nat)}{d:Nat}{O:bo}{C:aI}{l:St}{bp:aa->List L->St->ao L}{aA:ab->ay->Prop}
theorem O4{a a0:Nat}{cc:cV}{af:Array iI}(aP:(a==on)=false)(aK:cc.cls=.type "dict")(hd:cc.data=.dict af a0):
 KdlSrc aH w "dict" a a af.size (λi v=>∃cW,af[i]? =some cW∧v=cW.key) (λh=>h.get? a=some cc) where
 type:=λo e=>bx cc e aK
 there:=λo e=>⟨eF e,eF e⟩
 keep:=λo o e aM=>aM a (.inl rfl) cc e
 notList:=rfl
 notTuple:=rfl
 hint:=λo o o o e a7=>kdl_hint_dict ⟨cc,e,aK⟩ a7
 iter:=λM s a8 e=>⟨{cls:=.type "dict_keyiterator",data:=.fields #[.ref a,.int 0 0,.int af.size 0,.int a0 0]},λi h=>h.IsKeyIter s.heap.objs.size a i af.size a0∧h.get? a=some cc,λo o a7=>MQ aP e aK hd a7,
  {
   sub:=λb ag=>by simp at ag;simp[ag]
   frame:=λi h ae st aM=>by
    refine dL st λai4 gF=>?_
    refine aU ai4 λA az q=>?_
    exact⟨⟨A,aM _ (.head _) A az,q⟩,aM a (by simp) cc gF⟩
   item:=λi ah an aA aR st cY=>by
    have d5:a≠s.heap.objs.size:=λz=>by replace e:=z▸e;exact absurd (eF e) (kw _)
    refine MS st.1 st.2 hd rfl (cW:=af[i]) (by simp[aR]) λae ke n6=>?_
    exact cY _ ae ah.toks ⟨af[i],by simp[aR],rfl⟩ ⟨ke,(n6.2 a d5).trans st.2⟩ λb A ag e=>(n6.2 b (by simpa using ag)).trans e
   done:=λah an aA st cY=>MR a8 st.1 st.2 hd rfl (eN _) λae bw=>cY ae ah.toks λb A ag e=>bw b A (by simpa using ag) e
   self:=λi ah an aA st cY=>ahE st.1 cY},
  ⟨⟨_,eS _ rfl,rfl,rfl⟩,dM _ e⟩⟩
theorem VQ{b1:String}{r eg:aa}{n:Nat}{P:Nat->ab->Prop}{Iz:aV->Prop}{an:List ab->ay->Prop}(C2:KdlSrc aH w b1 r eg n P Iz)(a8:M.handled=none)(kf:Iz s.heap)(aO:n<=e7)
 (cY:∀ae bE T,(∀b A,s.heap.get? b=some A->ae.get? b=some A)->T.length=n->(∀(j:Nat)v,T[j]? =some v->P j v)->an T {s with heap:=ae,toks:=bE}):a9 (a1 aH w) M (JR (.ref r)) an aA s:=by
 have iz:=C2.there _ kf
 refine aE (Q9 (p4 PySem.F.entry_proto_collect ?_))
 refine aE (nl ?_)
 refine bj ⟨tE PySem.F.plain_list_iadd _,p4 PySem.F.entry_list_iadd ?_⟩
 have fv:(s.heap.push {cls:=.type "list",data:=.seq ([]:List ab).toArray}).get? s.heap.objs.size=some {cls:=.type "list",data:=.seq #[] 0}:=eS _ rfl
 refine fx (kdl_extend (A:=M) (R:=λev ah=>∃ae bE f4 dd,ev=.ok (.ret (.ref s.heap.objs.size))∧ah={s with heap:=ae,toks:=bE}∧(∀b A,s.heap.get? b=some A->ae.get? b=some A)∧ae.get? s.heap.objs.size=some {cls:=.type "list",dict:=none,data:=.seq f4 dd,slots:= #[]}∧Ck P f4 n)
  (s:={s with heap:=s.heap.push {cls:=.type "list",data:=.seq ([]:List ab).toArray}}) C2 a8 (C2.keep _ _ kf λb o A e=>dM _ e) s.heap.objs.size (sw iz.1) (sw iz.2) _ 0 fv (λae bE f4 dd aM sY l3=>⟨ae,bE,f4,dd,rfl,rfl,λb A e=>aM b A (ho (eF e)) (dM _ e),sY,l3⟩) aO) (λfI ah h=>?_) (λe ah h=>?_)
 ·have KQ:∀ae bE f4 dd,(∀b A,s.heap.get? b=some A->ae.get? b=some A)->ae.get? s.heap.objs.size=some {cls:=.type "list",dict:=none,data:=.seq f4 dd,slots:= #[]}->Ck P f4 n->
   a9 (a1 aH w) M (match hq s.heap.objs.size with
    |hq a=>do
     match (<-load a).data with
      |RE Y _=>pure Y.toList
      |_=>unsupported "internal:collect"
    |_=>unsupported "internal:collect") an aA {s with heap:=ae,toks:=bE}:=λae bE f4 dd aM sY l3=>by
   refine aE (Ho sY (bj ?_))
   exact cY ae bE f4.toList aM (by exact l3.1) λj v e=>l3.2 j v (by refine(lK)▸?_;exact e)
  cases fI with
  |done f=>
   refine yI h λae bE f4 dd e ai' ai am a6=>?_
   subst ai'
   (injection e with e;subst e)
   exact KQ ae bE f4 dd ai am a6
  |again dd=>exact⟨h.1,nU h.2 λr qG ba=>by
   refine yI ba λae bE f4 dd e ai8 ai am a6=>?_
   subst ai8
   subst e
   exact KQ ae bE f4 dd ai am a6⟩
 ·refine yH h λo o o o e o=>?_
  cases e
theorem BP{J:List aa}{h:aV}:∀{Y:List L}{T:List ab},T.length=Y.length->(∀(j:Nat)a v,Y[j]? =some a->T[j]? =some v->bf E J h a v)->br E J h Y T
 |[],[],_,_=>.nil
 |[],_::_,e,_=>by simp at e
 |_::_,[],e,_=>by simp at e
 |a::Y,v::T,e,k=>.cons (k 0 a v rfl rfl) (BP (by simpa using e) λj a v ai am=>k (j+1) a v (by exact ai) (by exact am))
theorem Kb{A:aQ}{a:aa}{Y:List L}(Z:ef K E)(S:a' E J l s.heap){n:Nat}(ar:J[n]? =some a)(wX:l[n]? =some A)(az:(∃m,A=.cj m∧Y=m.map λp=>.str p.1)∨(∃m,A=.b5 m∧Y=m.map λp=>.tup p.1)):
 ∃cc af a0,s.heap.get? a=some cc∧cc.cls=.type "dict"∧cc.data=.dict af a0∧af.size=Y.length∧af.size<=e7∧(a==on)=false∧∀(j:Nat)b,Y[j]? =some b->∃cW,af[j]? =some cW∧bf E J s.heap b cW.key:=by
 have L':(a==on)=false:=by
  rw[beq_eq_false_iff_ne];rintro rfl
  exact Z.mods (S.new _ (fG ar))
 rcases az with⟨z,rfl,rfl⟩| ⟨z,rfl,rfl⟩
 ·refine lH (S.obj n a _ ar wX) λbP hd hm aN r ok=>?_
  refine vV hd λcc af a0 gF s3 gC s4 qk uT=>?_
  have dW:af.size=(z.map λp=>L.str p.1).length:=by
   have ai:=qk.length
   have am:=congrArg kr hm
   simp at ai am |-;lia
  refine tr cc af a0 gF s3.1 gC dW (by rw[dW];simpa using aN) L' (λj b ag=>?_)
  refine aU (h1▸ag |> hL.mp) λp aL aja=>?_
  subst aja
  have:(bP.map (·.1))[j]? =some p.1:=by simp only[hm,h1,aL];rfl
  refine aU (OE qk j this) λcW ai am=>?_
  refine bx cW (by refine(lK)▸?_;exact ai) ?_
  refine bz (zs (show kD p.1 cW.key=true from am)) λt bn=>?_
  simp only[bn]
  exact⟨⟨t,rfl⟩,ok p (fG aL)⟩
 ·refine sb (S.obj n a _ ar wX) λbP hd hm aN r e1 EH=>?_
  refine vV hd λcc af a0 gF s3 gC s4 qk uT=>?_
  have dW:af.size=(z.map λp=>L.tup p.1).length:=by
   have ai:=GZ s4
   have am:=congrArg kr hm
   simp at ai am |-;lia
  refine tr cc af a0 gF s3.1 gC dW (by rw[dW];simpa using aN) L' (λj b ag=>?_)
  refine aU (h1▸ag |> hL.mp) λp aL ajb=>?_
  subst ajb
  have:(bP.map (·.1))[j]? =some p.1:=by simp only[hm,h1,aL];rfl
  simp only[h1] at this
  refine aU (hL.mp this) λq a7 xs=>?_
  refine bx _ (by simp only[entry_at s4 j,a7];rfl) ?_
  exact G' (EH q (fG a7)) (qk q (fG a7)) (by refine xs▸?_;exact e1 p (fG aL)) xs
inductive t9(E:bM)(J:List aa)(s:ay)(Y:List L):ab->Prop
 |seq {a:aa} {b1:String} {A:cV} {T:Array ab} {n:Nat}:(b1="list"∨b1="tuple")->s.heap.get? a=some A->A.cls=.type b1->A.data=.seq T n->T.size<=e7->br E J s.heap Y T.toList->t9 E J s Y (.ref a)
 |dict {a a0:Nat} {cc:cV} {af:Array iI}:s.heap.get? a=some cc->cc.cls=.type "dict"->cc.data=.dict af a0->af.size=Y.length->af.size<=e7->(a==on)=false->(∀(j:Nat)b,Y[j]? =some b->∃cW,af[j]? =some cW∧bf E J s.heap b cW.key)->t9 E J s Y (.ref a)
set_option tactic.hygienic true in
theorem MG{x:L}{u:ab}{Y:List L}{g:Option (Nat×aQ)}(Z:ef K E)(S:a' E J l s.heap)(aD:bf E J s.heap x u)(e:dm l x=some (Y,g)):t9 E J s Y u:=by
 unfold dm at e
 split at e
 ·cases e
  refine nt (nk aD) λa T ajc ajd aN cL=>?_
  subst ajc
  refine cr ajd λA az aK aje=>?_
  refine bz aje λn hd=>?_
  exact .seq (.inr rfl) az aK hd (by exact aN) (by exact cL)
 ·rename_i n
  refine aU (gK aD) λa ar ajf=>?_
  subst ajf
  split at e
  ·rename_i z g5
   cases e
   refine cr (S.obj n a _ ar g5) λT ajg aP cL=>?_
   refine bz ajg λN az=>?_
   exact .seq (.inl rfl) az rfl rfl aP cL
  ·rename_i z g5
   cases e
   refine yG (Kb Z S ar g5 (.inl ⟨z,rfl,rfl⟩)) λcc af a0 ai am a6 c2 fc f6 jc=>?_
   exact .dict ai am a6 c2 fc f6 jc
  ·rename_i z g5
   cases e
   refine yG (Kb Z S ar g5 (.inr ⟨z,rfl,rfl⟩)) λcc af a0 ai am a6 c2 fc f6 jc=>?_
   exact .dict ai am a6 c2 fc f6 jc
  ·cases e
 ·cases e
theorem VO{u:ab}{Y:List L}{an:List ab->ay->Prop}(a8:M.handled=none)(i:t9 E J s Y u)(cY:∀ae bE T,(∀b A,s.heap.get? b=some A->ae.get? b=some A)->br E J ae Y T->T.length<=e7->an T {s with heap:=ae,toks:=bE}):
 a9 (a1 aH w) M (JR u) an aA s:=by
 cases i with
 | @seq a b1 A T n d4 az aK hd aZ cL=>
  refine wpAny_collect_seq (hsz:=aZ) a d4 az aK hd λae aM=>cY ae s.toks T.toList aM (cL.mono (.of (λo o e=>e) aM) _ _) (by exact aZ)
 | @dict a a0 cc af az aK hd aN aZ aP aM=>
  refine VQ (O4 aP aK hd) a8 az aZ λae bE T dz dW aL=>cY ae bE T dz (BP (h2 (cf [_,_,_] 1 al ax 1 aT ax 1 al aT rfl (dI aN) (dI dW)) (cf [_,_,_] 1 al ax 1 al aT 1 aT ax rfl (i7 aN) (i7 dW))) λj b v a3 a4=>?_) (cf [_,_,_] 1 al ax 1 aT ax 1 al aT rfl aZ (dI dW))
  refine aU (aM j b a3) λcW ai am=>?_
  refine aU (aL j v a4) λD8 a6 ajh=>?_
  subst ajh
  replace a6:=ai▸a6;(obtain rfl:=dq a6)
  exact am.mono (.of (λo o e=>e) dz) _ _
theorem qv{u:ab}{Y:List L}{an:ab->ay->Prop}(a8:M.handled=none)(i:t9 E J s Y u)(cY:∀ae bE T,(∀b A,s.heap.get? b=some A->ae.get? b=some A)->ae.PlainList s.heap.objs.size T->br E J ae Y T.toList->T.size<=e7->an (.ref s.heap.objs.size) {s with heap:=ae,toks:=bE}):
 a9 (a1 aH w) M (call (.type "list") [u]) an aA s:=by
 cases i with
 | @seq a b1 A T n d4 az aK hd aZ cL=>
  refine call_list_seq (hsz:=aZ) a d4 az aK hd λae dd aM aN=>cY ae s.toks T aM ⟨dd,aN⟩ (cL.mono (.of (λo o e=>e) aM) _ _) aZ
 | @dict a a0 cc af az aK hd aN aZ aP aM=>
  refine kdl_call (O4 aP aK hd) a8 az aZ λae bE f4 dd dz dy l3=>cY ae bE f4 dz ⟨dd,dy⟩ (BP (by simp only[t2,l3.1];omega) λj b v a3 a4=>?_) (by simp only[l3.1];exact aZ)
  refine aU (aM j b a3) λcW ai am=>?_
  refine aU (l3.2 j v (by refine(lK)▸?_;exact a4)) λD8 a6 aji=>?_
  subst aji
  replace a6:=ai▸a6;(obtain rfl:=dq a6)
  exact am.mono (.of (λo o e=>e) dz) _ _
end
structure nC{α:Type}(lt:α->α->Bool):Prop where
 xy:∀a,lt a a=false
 cd:∀a b c,lt a b=true->lt b c=true->lt a c=true
 yr:∀a b,lt a b=false->lt b a=false->a=b
section
variable{α:Type}{lt:α->α->Bool}
def lL(lt:α->α->Bool)(m:List α):Prop:=m.Pairwise λa b=>lt b a=false
theorem nC.M9(c8:nC lt){a b c:α}(ai:lt b a=false)(am:lt c b=false):lt c a=false:=by
 cases h:lt c a with
 |false=>rfl
 |true=>
  cases jK:lt a b with
  |true=>rw[c8.cd c a b h jK] at am;nomatch am
  |false=>
   have:=c8.yr a b jK ai
   subst this
   rw[h] at am;nomatch am
theorem Fw(x:α):∀m,(tf lt x m).Perm (x::m)
 |[]=>.refl _
 |y::r=>by
  dsimp only[tf]
  split
  ·exact .refl _
  ·exact((Fw x r).cons y).trans (.swap x y r)
theorem i0:∀m:List α,(eE lt m).Perm m
 |[]=>.refl _
 |x::r=>(Fw x _).trans ((i0 r).cons x)
theorem My(c8:nC lt)(x:α):∀m,lL lt m->lL lt (tf lt x m)
 |[],_=>by simp[tf,lL]
 |y::r,h=>by
  unfold lL at h |-
  rw[wr] at h
  dsimp only[tf]
  split
  ·rename_i u0
   refine wr.mpr ⟨λz aZ=>?_,wr.mpr h⟩
   have Mm:lt y x=false:=by
    cases q:lt y x with
    |false=>rfl
    |true=>have:=c8.cd x y x u0 q;rw[c8.xy] at this;nomatch this
   rcases dU.mp aZ with rfl |aZ
   ·exact Mm
   ·exact c8.M9 Mm (h.1 z aZ)
  ·rename_i u0
   refine wr.mpr ⟨λz aZ=>?_,My c8 x r h.2⟩
   rcases dU.mp ((Fw x r).mem_iff.mp aZ) with rfl |aZ
   ·simpa using u0
   ·exact h.1 z aZ
theorem yj(c8:nC lt):∀m:List α,lL lt (eE lt m)
 |[]=>.nil
 |x::r=>My c8 x _ (yj c8 r)
theorem zD(c8:nC lt):∀{m N:List α},m.Perm N->lL lt m->lL lt N->m=N
 |[],N,p,_,_=>p.nil_eq
 |a::m,[],p,_,_=>absurd p.length_eq (by simp)
 |a::m,b::N,p,h,k=>by
  have ae:=wr.mp h
  have cg:=wr.mp k
  have:a=b:=by
   have ar:a∈b::N:=p.mem_iff.mp (.head _)
   have ag:b∈a::m:=p.mem_iff.mpr (.head _)
   rcases dU.mp ar with q |q
   ·exact q
   ·rcases dU.mp ag with dZ |dZ
    ·exact dZ.symm
    ·exact c8.yr a b (cg.1 a q) (ae.1 b dZ)
  subst this
  rw[zD c8 (List.perm_cons a |>.mp p) ae.2 cg.2]
noncomputable def rY(lt:α->α->Bool)(aY:List α)(x:α):Nat:=aY.countP λy=>lt y x
theorem DW{p q:α->Bool}:∀{m:List α},(∀y∈m,p y=true->q y=true)->(∃y∈m,p y=false∧q y=true)->m.countP p<m.countP q
 |[],_,⟨_,h,_⟩=>by simp at h
 |a::m,h,⟨y,bD,ai,am⟩=>by
  simp only[Sg,Sg]
  have E0:m.countP p<=m.countP q:=Sh λz aZ=>h z (.tail _ aZ)
  rcases dU.mp bD with rfl |bD
  ·simp only[ai,am,pB,if_false,if_true];exact zd E0
  ·have:=DW (λz aZ=>h z (.tail _ aZ)) ⟨y,bD,ai,am⟩
   cases e:p a with
   |false=>cases cm:q a <;> simp <;> omega
   |true=>refine(h a (.head _) e).symm▸?_;simp;omega
theorem O3(c8:nC lt){aY:List α}{x y:α}(aD:x∈aY):decide (rY lt aY x<rY lt aY y)=lt x y:=by
 cases h:lt x y with
 |true=>
  rw[decide_eq_true_iff]
  exact DW (λz o aZ=>c8.cd z x y aZ h) ⟨x,aD,c8.xy x,h⟩
 |false=>
  rw[decide_eq_false_iff_not,lQ]
  refine Sh λz o aZ=>?_
  cases q:lt z x with
  |true=>rfl
  |false=>rw[c8.M9 h q] at aZ;nomatch aZ
theorem afc(c8:nC lt){aY:List α}{dflt:α}{p:Array Nat}(aL:p.Perm (iM aY.length).toArray)(aP:j2 (λi=>rY lt aY (aY.getD i dflt)) p aY.length):
 p.toList.map (λi=>aY.getD i dflt)=eE lt aY:=by
 have L3:p.toList.Perm (iM aY.length):=by simpa using aL.toList
 have rC:(iM aY.length).map (λi=>aY.getD i dflt)=aY:=by
  apply Si (by simp)
  intro i ai am
  simp at ai
  simp[ai]
 refine zD c8 (((L3.map _).trans (by rw[rC])).trans (i0 aY).symm) ?_ (yj c8 aY)
 unfold lL
 rw[List.pairwise_iff_getElem]
 intro i j aR cy fJ
 simp only[dC,t2] at aR cy
 have e1:p.size=aY.length:=by rw[aL.size_eq];simp
 simp only[List.getElem_map,Array.getElem_toList]
 have ba:=aP i j (by exact oJ fJ) (by exact SM cy e1)
 unfold dt at ba
 have a3:p.getD i 0=p[i]:=by simp[yK,aR]
 have a4:p.getD j 0=p[j]:=by simp[yK,cy]
 simp only[a3,a4] at ba
 have hm:p[j]< aY.length:=by
  have:p[j]∈p.toList:=by simp
  have:=L3.mem_iff.mp this
  simpa using this
 have l8:aY.getD p[j] dflt∈aY:=by simp[hm]
 rw[<-O3 c8 l8,decide_eq_false_iff_not]
 exact lQ.mpr ba
end
theorem vC:nC ig where
 xy:=λa=>strKind.irrefl a.cps.toList
 cd:=λa b c=>strKind.trans a.cps.toList b.cps.toList c.cps.toList
 yr:=λa b ai am=>by
  have:=strKind.total a.cps.toList b.cps.toList ai am
  obtain⟨x⟩:=a
  obtain⟨y⟩:=b
  congr 1
  exact Rp.mp this
theorem tJ:nC e0 where
 xy:=λa=>by
  induction a with
  |nil=>rfl
  |cons x r aJ=>simp[e0,aJ]
 cd:=λa=>by
  induction a with
  |nil=>intro b c ai am;cases b <;> cases c <;> first |rfl |(cases am;done)| (cases ai;done)
  |cons x r aJ=>
   intro b c ai am
   cases b with
   |nil=>cases ai
   |cons y t=>
    cases c with
    |nil=>cases am
    |cons z u=>
     dsimp only[e0] at ai am |-
     by_cases a3:x=y
     ·subst a3
      rw[if_pos rfl] at ai
      by_cases a4:x=z
      ·subst a4
       rw[if_pos rfl] at am |-
       exact aJ t u ai am
      ·rw[if_neg a4] at am |-
       exact am
     ·replace ai:=(if_neg a3)▸ai
      by_cases a4:y=z
      ·subst a4
       refine(if_neg a3)▸?_
       exact ai
      ·rw[if_neg a4] at am
       have cI:¬x=z:=by
        rintro rfl
        have:=vC.cd x y x ai am
        rw[vC.xy] at this;nomatch this
       refine(if_neg cI)▸?_
       exact vC.cd x y z ai am
 yr:=λa=>by
  induction a with
  |nil=>intro b ai am;cases b with
   |nil=>rfl
   |cons _ _=>cases ai
  |cons x r aJ=>
   intro b ai am
   cases b with
   |nil=>cases am
   |cons y t=>
    dsimp only[e0] at ai am
    by_cases e:x=y
    ·subst e
     rw[if_pos rfl] at ai am
     rw[aJ t ai am]
    ·rw[if_neg e] at ai
     rw[if_neg (λq=>e q.symm)] at am
     exact absurd (vC.yr x y ai am) e
section
variable{D:Bool}{E:bM}{K:cb}{M:cv}{m:List bo}{W J bT bV:List aa}{s:ay}{names:List (I×b4)}{U c':List (I×Nat)}{d:Nat}{O:bo}{C:aI}{l:St}{bp:aa->List L->St->ao L}{aA:ab->ay->Prop}
def wF(M:cv)(T out:List ab)(s:ay):Prop:=∀aA,∃cp,(∀an:IQ->ay->Prop,an cp s->a9 (a1 aH w) M (keyKind' T.toArray) an aA s)∧
 ∀an:Unit×SortSt->ay->Prop,(∀k2,Ek k2=none->(Dd k2).map (·.2)=out.toArray->an ((),k2) s)->a9 (a1 aH w) M ((sortRuns').run (SortSt.mk' cp (T.toArray.zip T.toArray) #[] 7 none)) an aA s
noncomputable def lB{α:Type}(lt:α->α->Bool)(aY:List α)(dflt:α):Array Nat:=dY (d8 λi=>rY lt aY (aY.getD i dflt)) (xC aY.length)
theorem PQ{α:Type}{lt:α->α->Bool}{aY:List α}{dflt:α}(h:1<=aY.length):(lB lt aY dflt).toList.Perm (iM aY.length):=by
 refine cr (PT (r:=λi=>rY lt aY (aY.getD i dflt)) h) λp a3 a4 cI=>?_
 unfold lB;refine a3▸?_;simpa using a4.toList
theorem PR{α:Type}{lt:α->α->Bool}(c8:nC lt){aY:List α}{dflt:α}(h:1<=aY.length):(lB lt aY dflt).toList.map (λi=>aY.getD i dflt)=eE lt aY:=by
 refine cr (PT (r:=λi=>rY lt aY (aY.getD i dflt)) h) λp a3 a4 cI=>?_
 unfold lB;refine a3▸?_;exact afc c8 a4 cI
theorem PU{α:Type}{lt:α->α->Bool}(c8:nC lt){aY:List α}{dflt:α}{T:List ab}{cp:IQ}(aN:aY.length=T.length)(am:2<=T.length)(mT:T.length<64)
 (aM:∀(an:IQ->ay->Prop)aA,an cp s->a9 (a1 aH w) M (keyKind' T.toArray) an aA s)
 (aK:∀i j(an:Bool->ay->Prop)aA,i<T.length->j<T.length->an (lt (aY.getD i dflt) (aY.getD j dflt)) s->a9 (a1 aH w) M (keyLt' cp (T.getD i g0) (T.getD j g0)) an aA s):
 wF M T ((lB lt aY dflt).toList.map λi=>T.getD i g0) s:=by
 have aO:1<=T.length:=by exact It am
 refine λaA=>bx cp (λan a7=>aM an aA a7) (λan a7=>?_)
 have aL:lB lt aY dflt=dY (d8 λi=>rY lt aY (aY.getD i dflt)) (xC T.length):=by unfold lB;rw[aN]
 generalize lB lt aY dflt=p at aL a7
 have:=kat_run (prog:=aH) (w:=w) (A:=M) (E:=aA) (s:=s) (vs:=T) (ks:=T) (κ:=cp) (Q:=λk2 ah=>ah=s∧Ek k2=none∧(Dd k2).map (·.2)=(p.toList.map λi=>T.getD i g0).toArray) (G:=λbN ah=>bN=p∧ah=s) rfl am mT
  (λbN k2 ah bW ct cH dc=>⟨dc.2,cH,by rw[kat_snds rfl ct,dc.1]⟩) (MN (lt:=d8 λi=>rY lt aY (aY.getD i dflt)) (λi j an aR cy a7=>?_) (xC T.length) _ (afd aO) ⟨aL.symm,rfl⟩)
 ·exact fx this (λr ah⟨bW,ct,cH⟩=>by cases bW;exact a7 r.2 ct cH) λo o x=>x
 ·unfold kas_ask
  refine aK i j an _ aR cy ?_
  have l8:aY.getD i dflt∈aY:=by simp[aN,aR]
  rw[<-O3 c8 l8]
  exact a7
theorem Nb{a:aa}{T out:List ab}{n:Nat}{P:PySem.Fin->ay->Prop}(az:s.heap.get? a=some (mo "list" T.toArray n))(aZ:T.length<=10000)(ls:out.length=T.length)
 (Fa:(T.length<2∧out=T)∨(2<=T.length∧∀ah:ay,(∀b A,b≠a->s.heap.get? b=some A->ah.heap.get? b=some A)->wF M T out ah))
 (h:∀ae N,ae.get? a=some (mo "list" out.toArray N)->(∀b A,b≠a->s.heap.get? b=some A->ae.get? b=some A)->P (.done (.ret .none)) {s with heap:=ae}):
 a9 (a1 aH w) M (ms.«list.sort» ⟨[.ref a],[]⟩) P aA s:=by
 have f1:=sl s.heap a (lR λo=>(#[]:Array ab))
 obtain⟨a3,LX⟩:∃a3,(s.heap.update a (lR λo=>(#[]:Array ab))).get? a=some (mo "list" #[] a3):=⟨_,Yn az λo=> #[]⟩
 have kg:T.length<=e7:=by simp only[jU];exact b6 [_] 1 al (.num 16777216) 1 al (.num 10000) rfl aZ
 rw[list_sort_plain]
 refine aE (listItems_at az rfl ?_)
 refine aE (abI az rfl ?_ (by exact kg) (iq _))
 refine aE (aeE LX rfl ?_)
 refine aE (Q2 ?_ (by exact kg))
 refine aE (BX ?_ (iq _))
 refine gL ?_
 have keep:∀b A,b≠a->s.heap.get? b=some A->(((s.heap.update a (lR λo=>(#[]:Array ab))).push (mo "tuple" T.toArray 0)).push (mo "list" #[] 0)).get? b=some A:=λb A ag e=>dM _ (dM _ ((f1.2 b ag).trans e))
 have E7:(((s.heap.update a (lR λo=>(#[]:Array ab))).push (mo "tuple" T.toArray 0)).push (mo "list" #[] 0)).get? a=some (mo "list" #[] a3):=dM _ (dM _ LX)
 refine(?_:a9 (a1 aH w) M _ P aA {s with heap:=((s.heap.update a (lR λo=>(#[]:Array ab))).push (mo "tuple" T.toArray 0)).push (mo "list" #[] 0)})
 have fI:∀k2:SortSt,Ek k2=none->(Dd k2).map (·.2)=out.toArray->a9 (a1 aH w) M (do
  let agh:=(<-seqEpoch a)!=a3
  aka (.ref a) λo=>(Dd k2).map (·.2)
  if let some e:=Ek k2 then rule "list.sort.comparison-raised";throw e
  if agh then rule "list.sort.modified";raiseError "ValueError" "list modified during sort"
  ret .none) P aA {s with heap:=((s.heap.update a (lR λo=>(#[]:Array ab))).push (mo "tuple" T.toArray 0)).push (mo "list" #[] 0)}:=λk2 aG ar=>by
  refine aE (aeE E7 rfl ?_)
  refine ar▸?_
  refine aE (abI E7 rfl ?_ (iq _) (by simp only[oI,ls];exact wv kg))
  refine aG▸?_
  simp only[bne_self_eq_false,pB,if_false]
  refine bj (h _ _ (Yn E7 λo=>out.toArray) λb A ag e=>?_)
  exact((sl _ a (lR λo=>out.toArray)).2 b ag).trans (keep b A ag e)
 rcases Fa with⟨iz,ZW⟩| ⟨s6,Fa⟩
 ·have rD:T.toArray.size<2:=by exact iz
  rw[if_pos rD,if_pos rD]
  refine aE (bj (aE (bj ?_)))
  exact fI _ rfl (by simp only[ZW];show(T.toArray.zip T.toArray).map (·.2)=_;apply Rp.mp;simp;exact Sv (eN _))
 ·have rD:¬T.toArray.size<2:=by simp;omega
  rw[if_neg rD,if_neg rD]
  refine aU (Fa {s with heap:=((s.heap.update a (lR λo=>(#[]:Array ab))).push (mo "tuple" T.toArray 0)).push (mo "list" #[] 0)} keep aA) λcp aM ba=>?_
  refine aE (aM _ ?_)
  refine aE (ba _ λk2 aG ar=>?_)
  exact fI k2 aG ar
end
section
variable{D:Bool}{E:bM}{K:cb}{M:cv}{m:List bo}{W J bT bV:List aa}{s:ay}{names:List (I×b4)}{U c':List (I×Nat)}{d:Nat}{O:bo}{C:aI}{l:St}{bp:aa->List L->St->ao L}{aA:ab->ay->Prop}
theorem G8{J:List aa}{h:aV}:∀{Y:List I}{T:List ab},br E J h (Y.map .str) T->∀(i:Nat)(x:I),Y[i]? =some x->∃t,T[i]? =some (.str x t)
 |[],T,r,i,x,e=>by simp at e
 |y::Y,T,r,i,x,e=>by
  refine eL (br.cons_inv r) λv t ain eu eK=>?_
  subst ain
  cases i with
  |zero=>simp at e;subst e;obtain⟨⟨c9,rfl⟩,_⟩:=jp eu;exact⟨c9,rfl⟩
  |succ i=>simp at e;exact G8 eK i x e
theorem Bt{Y:List I}{T:List ab}(r:br E J s.heap (Y.map .str) T)(am:2<=T.length)(mT:T.length<64)(M:cv):
 wF M T ((lB ig Y default).toList.map λi=>T.getD i g0) s:=by
 have aN:Y.length=T.length:=by have:=r.length;simpa using this.symm
 refine PU (cp:=oneType') vC aN am mT (λan aA a7=>?_) (λi j an aA aR cy a7=>?_)
 ·refine kas_kind (T:=.type "str") am (λv ck=>?_) (rfl) (rfl) a7
  refine bz (pK ck) λi aR=>?_
  refine aU (r.get' aR) λa ar c0=>?_
  replace ar:=(h1)▸ar
  refine aU (hL.mp ar) λx o aio=>?_
  subst aio
  obtain⟨⟨t,rfl⟩,_⟩:=jp c0
  exact Ig rfl
 ·dsimp only[keyLt'_oneType]
  have xw:Y[i]? =some (Y.getD i default):=by simp[aN,aR]
  have Fl:Y[j]? =some (Y.getD j default):=by simp[aN,cy]
  refine bz (G8 r i _ xw) λt a3=>?_
  refine bz (G8 r j _ Fl) λu a4=>?_
  have fQ:T.getD i g0=.str (Y.getD i default) t:=by simp only[y5,a3,CJ]
  have dk:T.getD j g0=.str (Y.getD j default) u:=by simp only[y5,a4,CJ]
  simp only[fQ,dk]
  exact oneLt_str a7
theorem Na{J:List aa}{h:aV}{an:Bool->ay->Prop}:∀(a b:List I)(fe T:List ab)(n:Nat),br E J h (a.map .str) fe->br E J h (b.map .str) T->an (e0 a b) s->
 KatLex aH w M true (decide (fe.length<T.length)) an (fe.zip T) n s
 |[],[],fe,T,n,c0,fT,a7=>by(refine c0.nil_inv▸?_;refine(fT.nil_inv).symm▸?_);exact MO a7
 |[],y::b,fe,T,n,c0,fT,a7=>by
  refine eL (br.cons_inv fT) λv t aip eu eK=>?_
  subst aip
  refine c0.nil_inv▸?_
  dsimp only[e0] at a7
  exact MO (by exact a7)
 |x::a,[],fe,T,n,c0,fT,a7=>by
  refine eL (br.cons_inv c0) λv t aiq eu eK=>?_
  subst aiq
  refine fT.nil_inv▸?_
  dsimp only[e0] at a7
  exact MO (by exact a7)
 |x::a,y::b,fe,T,n,c0,fT,a7=>by
  refine eL (br.cons_inv c0) λu t air eu eK=>?_
  subst air
  refine eL (br.cons_inv fT) λv c9 ais b0 bO=>?_
  subst ais
  refine dL (jp eu) λait o=>?_
  obtain⟨k,rfl⟩:=ait
  refine dL (jp b0) λaiu o=>?_
  obtain⟨cg,rfl⟩:=aiu
  dsimp only[SE]
  refine kat_cons (QZ ?_)
  unfold KatGo
  dsimp only[e0] at a7
  by_cases e:x=y
  ·replace a7:=(if_pos e)▸a7
   rw[if_pos (by simpa using e)]
   have:=Na a b t c9 (n+1) eK bO a7
   simpa using this
  ·replace a7:=(if_neg e)▸a7
   rw[if_neg (by simpa using e)]
   cases n with
   |zero=>exact oneLt_str a7
   |succ n=>
    have:(true&&n+1==0)=false:=rfl
    refine kat_one _ _ (P.lt_str ?_)
    exact a7
theorem QF{J:List aa}{h:aV}:∀{cE:List (List I)}{T:List ab},br E J h (cE.map λr=>.tup (r.map .str)) T->cE.all (λr=> !r.isEmpty)=true->∃kd,KatTups h T kd∧kd.length=T.length∧∀f∈kd,∃x t,f=.str x t
 |[],T,r,_=>by refine r.nil_inv▸?_;exact fK ([]) trivial rfl (by simp)
 |x::cE,T,r,aO=>by
  refine eL (br.cons_inv r) λv t aiB eu eK=>?_
  subst aiB
  simp only[Sd,gW] at aO
  refine cr (QF eK aO.2) λkd ai am a6=>?_
  refine nt (nk eu) λa fe aiC aiD aN mm=>?_
  subst aiC
  refine cr aiD λA az aK aiE=>?_
  obtain⟨n,hd⟩:=aiE
  cases x with
  |nil=>nomatch aO
  |cons y bH=>
   refine eL (br.cons_inv mm) λu QO aiF b0 bO=>?_
   subst aiF
   refine ge λdT cD=>?_
   refine dL (jp b0) λaiG o=>?_
   obtain⟨k,rfl⟩:=aiG
   refine cD ?_
   clear cD dT
   exact⟨.str y k::kd,.cons az aK hd rfl ai,by simp[am],λf aG=>by
    rcases dU.mp aG with rfl |aG
    ·exact A0 _ _ rfl
    ·exact a6 f aG⟩
theorem G2{cE:List (List I)}{T:List ab}(r:br E J s.heap (cE.map λr=>.tup (r.map .str)) T)(d5:cE.all (λr=> !r.isEmpty)=true)(am:2<=T.length)(mT:T.length<64)(M:cv):
 wF M T ((lB e0 cE default).toList.map λi=>T.getD i g0) s:=by
 have aN:cE.length=T.length:=by have:=r.length;simpa using this.symm
 refine cr (QF r d5) λkd gi lC af3=>?_
 refine PU (cp:=tuples' (oP "str" !=oP "tuple")) tJ aN am mT (λan aA a7=>?_) (λi j an aA aR cy a7=>?_)
 ·refine kat_kind (T:=.type "str") gi (cf [_,_] 1 (Ns en) al 1 (.num 2) ax 1 ax al rfl am (i7 lC)) (λv ck=>?_) (rfl) a7
  refine ik (af3 v ck) λx t aiH=>?_
  subst aiH
  exact Ig rfl
 ·have xw:cE[i]? =some (cE.getD i default):=by simp[aN,aR]
  have Fl:cE[j]? =some (cE.getD j default):=by simp[aN,cy]
  refine aU (r.get (i:=i) (a:=.tup ((cE.getD i default).map .str)) (by simp only[h1,xw];rfl)) λv a3 eu=>?_
  refine aU (r.get (i:=j) (a:=.tup ((cE.getD j default).map .str)) (by simp only[h1,Fl];rfl)) λu a4 eK=>?_
  have fQ:T.getD i g0=v:=by simp only[y5,a3,CJ]
  have dk:T.getD j g0=u:=by simp only[y5,a4,CJ]
  simp only[fQ,dk]
  refine nt (nk eu) λa fe aiK aiL o mm=>?_
  subst aiK
  refine cr aiL λA az aK aiM=>?_
  refine bz aiM λn hd=>?_
  refine nt (nk eK) λb QO aiN aiO o aeo=>?_
  subst aiN
  refine cr aiO λch eA gq aiP=>?_
  refine bz aiP λeY eO=>?_
  have bn:(oP "str" !=oP "tuple")=true:=rfl
  exact kat_lt az hd eA eO (by exact Na _ _ fe QO 0 mm aeo a7)
theorem Go{α:Type}{f:α->L}{J:List aa}{h:aV}{Y:List α}{T:List ab}(dflt:α)(r:br E J h (Y.map f) T):∀p:List Nat,(∀i∈p,i<T.length)->br E J h ((p.map λi=>Y.getD i dflt).map f) (p.map λi=>T.getD i g0)
 |[],_=>.nil
 |i::p,aL=>by
  have aN:Y.length=T.length:=by have:=r.length;simpa using this.symm
  have aR:=aL i (.head _)
  have xw:Y[i]? =some (Y.getD i dflt):=by simp[aN,aR]
  refine aU (r.get (i:=i) (a:=f (Y.getD i dflt)) (by simp only[h1,xw];rfl)) λv a3 eu=>?_
  have fQ:T.getD i g0=v:=by simp[y5,a3]
  refine .cons (by show bf E J h (f (Y.getD i dflt)) (T.getD i g0);simp only[fQ];exact eu) (Go dflt r p λj cy=>aL j (.tail _ cy))
theorem PP{α:Type}{lt:α->α->Bool}(jr:List α)(aZ:jr.length<2):eE lt jr=jr:=by
 match jr,aZ with
 |[],_=>rfl
 |[a],_=>rfl
 |_::_::_,aZ=>simp at aZ;lia
set_option tactic.hygienic true in
theorem PS{Y bH:List L}{T:List ab}(e:nd Y=some bH)(r:br E J s.heap Y T)(M:cv):
 ∃out:List ab,out.length=T.length∧br E J s.heap bH out∧((T.length<2∧out=T)∨(2<=T.length∧∀ah:ay,fq E J J s.heap ah.heap->wF M T out ah)):=by
 unfold nd at e
 split at e
 ·nomatch e
 ·rename_i mT
  split at e
  ·rename_i jr aZ
   (obtain rfl:=dq e)
   rw[Fz aZ] at r mT
   have aN:T.length=jr.length:=by have:=r.length;simpa using this
   have Ez:T.length<64:=by simp at mT;exact cf [_,_] 1 (Ns al) (.num 64) 1 al ax 1 ax (.num 63) rfl (dI aN) mT
   by_cases am:2<=T.length
   ·have cK:=PQ (lt:=ig) (aY:=jr) (dflt:=default) (by omega)
    have aL:∀i∈(lB ig jr default).toList,i<T.length:=λi aR=>by rw[aN];simpa using cK.mem_iff.mp aR
    refine fK ((lB ig jr default).toList.map λi=>T.getD i g0) (by have:=cK.length_eq;simp at this |-;lia) ?_ (.inr ⟨am,λah cz=>Bt (r.mono cz _ _) am Ez M⟩)
    rw[<-PR vC (dflt:=default) (by omega)]
    exact Go default r _ aL
   ·exact fK T rfl (by rw[PP jr (cf [_,_] 1 (Ns al) (.num 2) 1 al ax 1 (Ns ax) (.num 2) rfl (i7 aN) (lb am))];exact r) (.inl ⟨by exact lb am,rfl⟩)
  ·split at e
   ·rename_i cE aZ
    split at e
    ·rename_i d5
     (obtain rfl:=dq e)
     rw[MB aZ] at r mT
     have aN:T.length=cE.length:=by have:=r.length;simpa using this
     have Ez:T.length<64:=by simp at mT;exact cf [_,_] 1 (Ns al) (.num 64) 1 al ax 1 ax (.num 63) rfl (dI aN) mT
     by_cases am:2<=T.length
     ·have cK:=PQ (lt:=e0) (aY:=cE) (dflt:=default) (by omega)
      have aL:∀i∈(lB e0 cE default).toList,i<T.length:=λi aR=>by rw[aN];simpa using cK.mem_iff.mp aR
      refine fK ((lB e0 cE default).toList.map λi=>T.getD i g0) (by have:=cK.length_eq;simp at this |-;lia) ?_ (.inr ⟨am,λah cz=>G2 (r.mono cz _ _) d5 am Ez M⟩)
      rw[<-PR tJ (dflt:=default) (by omega)]
      exact Go default r _ aL
     ·exact fK T rfl (by rw[PP cE (by omega)];exact r) (.inl ⟨by exact lb am,rfl⟩)
    ·nomatch e
   ·nomatch e
theorem afg{u:ab}{Y bH:List L}(a8:M.handled=none)(i:t9 E J s Y u)(S:a' E J l s.heap)(e:nd Y=some bH):
 a5 E D M m W J s (call (.builtin "sorted") [u]) (bf E) (.ok (.loc l.length) (l++[.list bH])):=λo=>by
 refine RD abn adI WZ (TV _) ?_
 refine aE (m:=checkCount "sorted" 1 1 _) (bj ?_)
 refine aE (VO (M:=M.in1) a8 i λae bE T dz cL aZ=>?_)
 refine cr (PS (s:={s with heap:=ae,toks:=bE}) e cL M.in1.in1) λout ki kY tx=>?_
 have ZE:T.length<=10000:=by
  refine cL.length▸?_
  unfold nd at e
  split at e
  ·nomatch e
  ·omega
 refine aE (BX ?_ aZ)
 have aO:ae.get? ae.objs.size=none:=hR
 refine aE (gL (oo ae7 ⟨_,eS _ rfl,rfl⟩ WV (Nb (s:={s with heap:=ae.push {cls:=.type "list",data:=.seq T.toArray 0},toks:=bE}) (n:=0) (eS _ rfl) ZE ki ?_ λcC N hm aM=>bx _ rfl ?_) (TR _)))
 ·rcases tx with q |⟨b0,bO⟩
  ·exact .inl q
  ·refine .inr ⟨b0,λah aP=>bO ah ?_⟩
   refine .of (λo o e=>e) λb A e=>aP b A (ho (eF e)) (dM _ e)
 ·have cz:∀b A,s.heap.get? b=some A->cC.get? b=some A:=λb A e=>aM b A (ho (eF (dz b A e))) (dM _ (dz b A e))
  have gr:s.heap.get? ae.objs.size=none:=by
   cases q:s.heap.get? ae.objs.size with
   |none=>rfl
   |some A=>exact absurd (eF (dz _ _ q)) (kw _)
  have dP:fq E J (J++[ae.objs.size]) ae cC:=.of (λn b e=>by simp only[jv (gt.mp e).1,e]) λb A e=>aM b A (ho (eF e)) (dM _ e)
  exact bj ⟨_,rfl,_,_,rfl,J++[ae.objs.size],S.push cz gr ⟨out.toArray,⟨N,hm⟩,by simp only[oI,ki];exact aZ,by exact kY.mono dP _ _⟩,by exact bx _ (by refine S.len▸?_;simp) rfl,.push cz gr⟩
end
noncomputable def iR(K:cb)(names:List (I×b4))(x:I):Bool:=kP names x&&ha K gh x==some none && !(x==("__debug__":I))&& !(x==("__name__":I))
section
variable{D:Bool}{E:bM}{K:cb}{M:cv}{m:List bo}{W J bT bV:List aa}{s:ay}{names:List (I×b4)}{U c':List (I×Nat)}{d:Nat}{O:bo}{C:aI}{l:St}{bp:aa->List L->St->ao L}{aA:ab->ay->Prop}
theorem Xa{x:I}{v:ab}{p pos:bu}{args:List Expr}{c0:St->ao (List L)}{k:List L->St->ao L}(Z:ef K E)(ok:iR K names x=true)(ck:rn x=some v)(ZP:∀a,v≠.ref a)(aP:fO args)(fp:hv E D names U d args C c0)
 (u:∀M m J l s Y T,nG d M m->a' E J l s.heap->br E J s.heap Y T->a5 E D M m [] J s (call v T) (bf E) (k Y l)):
 dB E D names U d (.Call (.Name x p) args [] pos) C (λl=>(c0 l).bind k):=λM m O J l s P=>by
 simp only[iR,gW,pD,beq_iff_eq] at ok
 intro aG
 refine aE (xJ Z P.st.base P.dJ ok.1.1.1 ok.1.1.2 ck (by simpa using ok.2) ok.1.2 ?_)
 exact vI (first:=[]) aP (tk ZP) fp P (λY av T ah aw S h g=>u M m aw av ah Y T P.room S h) aG
theorem Dw{n:Nat}(h:n<=e7):(n:Int)< 2^63:=by simp only[jU] at h;lia
theorem agu{a:L}{u:ab}(Z:ef K E)(S:a' E J l s.heap)(r:bf E J s.heap a u):a5 E D M m W J s (call (.builtin "len") [u]) (bf E) (eC ((tn l a).map λn=>(.int n,l))):=by
 cases a with
 |tup Y=>
  refine nt (nk r) λb T q bn aN cL=>?_
  subst q
  have e:(Y.length:Int)=(T.toArray.size:Nat):=by simp only[oI,cL.length]
  refine(?_:a5 _ _ _ _ _ _ _ _ _ (ao.ok (L.int Y.length) l))
  simp only[e]
  exact ps S λan aA h=>len_tuple bn (Dw (by exact aN)) (h _ _)
 |loc n=>
  refine aU (gK r) λb ag q=>?_
  subst q
  dsimp only[tn]
  cases ex:l[n]? with
  |none=>exact .fail
  |some c3=>
   cases c3 with
   |list Y=>
    refine cr (S.obj n b _ ag ex) λT cZ aP cL=>?_
    have e:(Y.length:Int)=(T.size:Nat):=congrArg Int.ofNat cL.length.symm
    refine(?_:a5 _ _ _ _ _ _ _ _ _ (ao.ok (L.int Y.length) l))
    refine e▸?_
    exact ps S λan aA h=>call_len_list cZ.isList (Dw aP) (h _ _)
   |cj Y=>
    refine ij (S.obj n b _ ag ex) λbP hd hm aN o=>?_
    have aM:Y.length=bP.length:=by rw[<-dC (as:=Y),<-hm,dC]
    refine(?_:a5 _ _ _ _ _ _ _ _ _ (ao.ok (L.int Y.length) l))
    rw[aM] at aN |-
    exact ps S λan aA h=>call_len_dict (F9 Z S ag) hd (Dw aN) (h _ _)
   |_=>exact .fail
 |_=>exact .fail
theorem agI{a:L}{u:ab}(S:a' E J l s.heap)(r:bf E J s.heap a u):a5 E D M m W J s (call (.type "int") [u]) (bf E) (eC ((Qv a).map λi=>(.int i,l))):=by
 cases a with
 |int i=>
  refine bz (mr r) λt q=>?_
  subst q
  exact ps S λan aA h=>call_int_int (h s.toks t)
 |bool b=>
  rw[yy r]
  cases b <;> exact ps S λan aA h=>call_int_bool (h _ _)
 |_=>exact .fail
theorem agF{a:L}{u:ab}(Z:ef K E)(a8:M.handled=none)(S:a' E J l s.heap)(r:bf E J s.heap a u):a5 E D M m W J s (call (.builtin "sorted") [u]) (bf E) (eC ((dm l a).bind λp=>(nd p.1).map λr=>kW l (.list r))):=
 .opt λp e=>.map λbH a4=>afg a8 (MG Z S r e) S a4
set_option tactic.hygienic true in
theorem agK{a:L}{u:ab}(S:a' E J l s.heap)(r:bf E J s.heap a u):a5 E D M m W J s (call (.type "tuple") [u]) (bf E) (eC ((dm l a).bind λp=>if jP p.2 then some (.tup p.1,l) else none)):=by
 cases a with
 |tup Y=>
  refine k6 (qO r) λb T ajv hT bn aN cL=>?_
  subst ajv
  exact BM S cL aN λan aA h=>call_tuple_same bn (h b s.heap s.toks hT bn λo o e=>e)
 |loc n=>
  refine aU (gK r) λb ag ajw=>?_
  subst ajw
  unfold dm
  dsimp only
  split
  ·rename_i Y ex
   refine cr (S.obj n b _ ag ex) λT cZ aP cL=>?_
   refine BM S cL (by exact aP) λan aA h=>call_tuple_list (hsz:=aP) cZ.isList λae aM=>?_
   exact h _ _ s.toks (S.free (acL aM hR)) ⟨_,eS _ rfl,rfl,0,rfl⟩ λb A e=>dM _ (aM b A e)
  ·exact .fail
  ·exact .fail
  ·exact .fail
 |_=>exact .fail
theorem agJ{a:L}{u:ab}(Z:ef K E)(a8:M.handled=none)(S:a' E J l s.heap)(r:bf E J s.heap a u):a5 E D M m W J s (call (.type "list") [u]) (bf E) (eC ((dm l a).map λp=>kW l (.list p.1))):=by
 cases e:dm l a with
 |none=>exact .fail
 |some p=>
  obtain⟨Y,g⟩:=p
  refine λo=>qv (M:=M) a8 (MG Z S r e) λae bE T dz cZ cL aZ=>?_
  have dP:fq E J (J++[s.heap.objs.size]) ae ae:=.of (λn b e=>by simp only[jv (gt.mp e).1,e]) λo o e=>e
  exact⟨_,_,rfl,J++[s.heap.objs.size],S.push dz hR ⟨T,cZ,aZ,cL.mono dP _ _⟩,by exact bx _ (by refine S.len▸?_;simp) rfl,.push dz hR⟩
end
theorem abL:vM (.type "list") "keys"=pure none:=by rw[agZ,UI];kernel_rfl
theorem abJ:vM (.type "list") "__getattr__"=pure none:=by rw[agZ,UI];kernel_rfl
section
variable{M:cv}{aA:ab->ay->Prop}{h:aV}{g:Array pI}{d:oC}{t:Nat}{os:kx}{a:aa}{T:Array ab}{n:Nat}
theorem acf{u:j3}{P:Fin->ay->Prop}{R:lT->ay->Prop}(a8:M.handled=none)(aD:h.get? a=some {cls:=.type "list",data:=.seq T n})
 (a7:∀ae bE e,RW h ae e (.ref a) "keys"->R (.error (.ref e)) ⟨ae,g,d,bE,os⟩):
 a9 (a1 aH w) M (ms.«object.__getattribute__» ⟨[.ref a,.str "keys" u],[]⟩) P (λe ah=>R (.error e) ah) ⟨h,g,d,t,os⟩:=by
 have d4:(⟨h,g,d,t,os⟩:ay).TypeIs (.ref a) "list":=bx _ aD rfl
 have uJ:=abL
 unfold ms.«object.__getattribute__»
 repeat (any_goals (first |assumption |wp_step))
 exact wpAny_raiseAttrError a8 a7 (attrMsg_fits (by decide +kernel) (by size_fits))
theorem ace{u:j3}{R:lT->ay->Prop}(a8:M.handled=none)(aD:h.get? a=some {cls:=.type "list",data:=.seq T n})
 (a7:∀ae bE e,RW h ae e (.ref a) "keys"->R (.error (.ref e)) ⟨ae,g,d,bE,os⟩):
 gy (a1 aH w) M (.call (.builtin "list.__getattribute__") ⟨[.ref a,.str "keys" u],[]⟩) R ⟨h,g,d,t,os⟩:=
 DQ Cg.plain PySem.F.entry_list_ga (Cg.check _ _ _ _ _ _ _ _ (show(⟨h,g,d,t,os⟩:ay).TypeIs (.ref a) "list" from bx _ aD rfl) (F.args_list_getattribute_2 _ _) (acf (M:=M.in1) a8 aD a7))
theorem acg{an:Option ab->ay->Prop}(a8:M.handled=none)(aD:h.get? a=some {cls:=.type "list",data:=.seq T n})
 (a7:∀ae bE,(∀b A,h.get? b=some A->ae.get? b=some A)->an none ⟨ae,g,d,bE,os⟩):a9 (a1 aH w) M (getAttr? (.ref a) "keys") an aA ⟨h,g,d,t,os⟩:=by
 have d4:(⟨h,g,d,t,os⟩:ay).TypeIs (.ref a) "list":=bx _ aD rfl
 have fQ:=sub_AttributeError
 have dk:=Cg.lookup
 have oX:=Cg.bind (.ref a)
 have uK:=abJ
 repeat (any_goals (first |assumption |wp_step))
 refine ace a8 aD λae bE e bw=>?_
 refine ik bw.there λc9 tX az=>?_
 dsimp only[getattributeRaised]
 repeat (any_goals (first |assumption |wp_step))
 exact a7 ae _ bw.keeps
end
noncomputable def vu:aQ->L->L->Option aQ
 |.cj m,.str x,a=>some (.cj (e6 x a m))
 |_,_,_=>none
noncomputable def xG:aQ->Nat
 |.cj m=>m.length
 |.b5 m=>m.length
 |_=>0
noncomputable def putAll:aQ->List (L×L)->Option aQ
 |A,[]=>some A
 |A,p::r=>(vu A p.1 p.2).bind λch=>putAll ch r
theorem adM{A ch:aQ}{k a:L}(e:vu A k a=some ch):xG ch<=xG A+1:=by
 unfold vu at e
 split at e
 ·(obtain rfl:=dq e);exact Gw _ _ _
 ·cases e
namespace F
theorem Kn:uG table "dict.update.loop"=some ms.«dict.update.loop»:=Km (by kernel_rfl)
theorem OQ:plainId "dict.update.loop"=true:=by decide +kernel
end F
section
variable{D:Bool}{E:bM}{K:cb}{M:cv}{m:List bo}{W J bT bV:List aa}{s:ay}{names:List (I×b4)}{U c':List (I×Nat)}{d:Nat}{O:bo}{C:aI}{l:St}{bp:aa->List L->St->ao L}{aA:ab->ay->Prop}
set_option tactic.hygienic true in
theorem TP{A ch:aQ}{a:aa}{k x:L}{jO v:ab}{an:Unit->ay->Prop}(eB:M.units+50<hO)(r:f3 E J s.heap A a)(aM:bf E J s.heap k jO)(aD:bf E J s.heap x v)(e:vu A k x=some ch)(aN:xG A<b8)
 (h:∀ae n,f3 E J ae ch a->hw a s.heap ae->an () {s with heap:=ae,toks:=n}):a9 (a1 aH w) M (dictSet a jO v) an aA s:=by
 have fz:∀T,¬s.heap.IsTuple a T:=r.noTuple
 unfold vu at e
 split at e
 ·rename_i Y k
  (obtain rfl:=dq e)
  refine dL (jp aM) λaiv ok=>?_
  obtain⟨c9,rfl⟩:=aiv
  refine lH r λbP hd aM e1 r Bg=>?_
  have mW:(bP.map (·.1)).Nodup:=vV hd λo o o o o o o o q=>q
  have o3:bP.length=Y.length:=by simpa using congrArg kr aM
  refine wpAny_dictSet_pairs (knd:=PySem.strKind aH w) (k:=k) (by simp[PySem.strKind,kD]) hd (λae eO ag=>?_) (by refine o3▸?_;exact e1)
  refine dL (yn (k:=k) aD Y bP aM mW r) λb0 bO=>?_
  have dP:fq E J J s.heap ae:=mi ag fz
  refine h ae (s.toks+1) ⟨_,eO,b0,Bl aN,bO.mono dP _ _,λp aL=>?_⟩ ag
  rcases x1 _ _ _ p aL with e |⟨q,a7,e⟩
  ·refine e▸?_;exact ok
  ·refine e▸?_;exact Bg q a7
 ·cases e
theorem adk{p:aa}{T:List ab}{an:List ab->ay->Prop}(bn:s.heap.IsTuple p T.toArray)(h:an T s):a9 (a1 aH w) M (aj6 (.ref p)) an aA s:=by
 refine cr (id bn) λA az aK aiw=>?_
 refine bz aiw λn hd=>?_
 refine aE (vU bn.typeIs ?_)
 refine aE ?_
 refine aE (Ho az ?_)
 refine hd▸?_
 exact bj (bj (by exact h))
theorem QN{aW fs a:aa}{T:Array ab}{x9:ab}{R:lT->ay->Prop}(a8:M.handled=none)(eB:M.units+80<hO)(uQ:aW≠a)(Mj:fs≠a)(Lh:aW≠fs):∀(d6:List (L×L))(i:Nat)(s:ay)(A ch:aQ),
 br E J s.heap (d6.map λp=>.tup [p.1,p.2]) (T.toList.drop i)->s.heap.IsListIter aW fs i->s.heap.PlainList fs T->f3 E J s.heap A a->putAll A d6=some ch->xG A+d6.length<b8->
 (∀ae n,(∀b c3,b≠a->b≠aW->s.heap.get? b=some c3->ae.get? b=some c3)->f3 E J ae ch a->R (.ok (.ret x9)) {s with heap:=ae,toks:=n})->
 gy (a1 aH w) M (.builtin "dict.update.loop" ⟨[.ref a,.ref aW,fS i,x9],[]⟩) R s
 |[],i,s,A,ch,cL,hit,cZ,r,e,aN,gB=>by
  (obtain rfl:=dq e)
  refine p4 F.Kn ?_
  have e1:T.size<=i:=by have:=cL.nil_inv;simpa using this
  refine aE (Q7 (A:=M.in1) a8 hit cZ.isList (by rw[v1 e1]) λae bw=>?_)
  have q:Quiet E [aW] s.heap ae:=.vk bw (AY hit)
  refine aE (bj (bj (gB ae s.toks (λb c3 ag aR e=>q.1 b c3 (by simpa using aR) e) ?_)))
  exact r.mono (Bm q (AY hit)) λc3 e=>q.1 a c3 (by simpa using uQ.symm) e
 |p::d6,i,s,A,ch,cL,hit,cZ,r,e,aN,gB=>by
  refine aU (mF.mp (show(vu A p.1 p.2).bind (λch=>putAll ch d6)=some ch from e)) λadj a3 a4=>?_
  refine eL (br.cons_inv cL) λv t ck eu eK=>?_
  refine dL (uB ck) λaD ba=>?_
  refine p4 F.Kn ?_
  refine(?_:a9 _ M.in1 (jk (.ref aW)>>= _) _ _ s)
  refine aE (Q8 (A:=M.in1) hit cZ.isList (by simpa using aD) λbF ke aP=>?_)
  have q:Quiet E [aW] s.heap bF:=.of_same aP (AY hit)
  have dP:fq E J J s.heap bF:=Bm q (AY hit)
  have eP:f3 E J bF A a:=r.mono dP λc3 e=>q.1 a c3 (by simpa using uQ.symm) e
  refine nt (nk (eu.mono dP _ _)) λb fe aix tc ald mm=>?_
  subst aix
  refine ge λdT cD=>?_
  refine k5 mm.cons_inv λjO gi aiI aiJ=>?_
  subst aiI
  obtain⟨cF,mm⟩:=aiJ
  refine cD ?_
  clear cD dT
  refine ge λdT cD=>?_
  refine k5 mm.cons_inv λalK lC aiS aiT=>?_
  subst aiS
  obtain⟨cz,mm⟩:=aiT
  refine cD ?_
  clear cD dT
  cases mm.nil_inv
  refine aE (gL (aE (wpAny_tryCatch (adk tc ?_))))
  refine gL (TP (M:=M.in1) (s:={s with heap:=bF}) (by show M.units+1+50<_;exact b6 [_,_] 1 (Ns (.add (Ns al) (.num 50))) ax 1 (Ns (.add al (.num 80))) ax rfl eB) eP cF cz a3 (by exact CD aN) λdb n fj ag=>?_)
  have fz:∀T,¬bF.IsTuple a T:=eP.noTuple
  have k9:fq E J J bF db:=mi ag fz
  have Lg:db.IsListIter aW fs (i+1):=aU ke λGe az q=>bx Ge ((ag.2 aW uQ).trans az) q
  have ady:db.PlainList fs T:=bz cZ λN e=>⟨N,(ag.2 fs Mj).trans ((aP.2 fs Lh.symm).trans e)⟩
  refine bj ⟨tE F.OQ _,?_⟩
  have:=QN (x9:=x9) (R:=R) a8 eB uQ Mj Lh d6 (i+1) {s with heap:=db,toks:=n} adj ch (by simp only[ba];exact(eK.mono dP _ _).mono k9 _ _) Lg ady fj a4 (by have:=adM a3;simp at aN;exact cf [_,_,_,_] 1 (Ns (.add al ax)) aT 1 (Ns (.add cs (Ns ax))) aT 1 al (Ns cs) rfl aN this) λae eY aM GK=>?_
  ·exact this
  ·exact gB ae eY (λc c3 aK aR e=>aM c c3 aK aR ((ag.2 c aK).trans ((aP.2 c aR).trans e))) GK
theorem aa1{a:L}{p:L×L}(h:MA a=some p):a=.tup [p.1,p.2]:=gn h λm e h=>by
 obtain rfl:=rk e
 cases m with
 |nil=>exact ns h
 |cons x m=>cases m with
  |nil=>exact ns h
  |cons y m=>cases m with
   |nil=>cases h;rfl
   |cons _ _=>exact ns h
theorem aa2{m:List L}{d6:List (L×L)}:Fy m=some d6->m=d6.map λp=>.tup [p.1,p.2]:=C8 aa1
theorem adN(d6:List (L×L)):∀(aY:List I)(m:List (I×L)),kQ (d6.map (·.1))=some aY->putAll (.cj m) d6=some (.cj ((aY.zip (d6.map (·.2))).foldl (λd q=>e6 q.1 q.2 d) m)):=by
 induction d6 with
 |nil=>exact λaY m h=>Bs (P:=λaY=>some (aQ.cj m)=some (.cj (List.foldl _ m (List.zip aY [])))) h rfl
 |cons p d6 aJ=>
  exact λaY m h=>gn h λx ex h=>A2 (P:=λaY=>putAll (.cj m) (p::d6)=some (.cj ((aY.zip ((p::d6).map (·.2))).foldl (λd q=>e6 q.1 q.2 d) m))) h λbH am=>by
   obtain⟨k,v⟩:=p
   cases sH ex
   exact aJ bH _ am
theorem agq{n:Nat}{Y:List L}{d6:List (L×L)}{A ch:aQ}{u:ab}(a8:M.handled=none)(eB:M.units+100<hO)(S:a' E J l s.heap)(r:bf E J s.heap (.loc n) u)(ex:l[n]? =some (.list Y))(ag:Y.length<b8)(aL:Fy Y=some d6)
 (az:A=.cj []) (e:putAll A d6=some ch):a5 E D M m W J s (call (.type "dict") [u]) (bf E) (.ok (.loc l.length) (l++[ch])):=λo=>by
 refine aU (gK r) λa ar aiW=>?_
 subst aiW
 refine cr (S.obj n a _ ar ex) λT aiX aP cL=>?_
 refine bz aiX λN cZ=>?_
 have Z0:=aa2 aL
 subst Z0
 have kH:s.heap.get? s.heap.objs.size=none:=hR
 have bv:∀{c3:cV}b A,s.heap.get? b=some A->(s.heap.push c3).get? b=some A:=λb A e=>dM _ e
 refine callType_codes (Q₁:=λobj bd=>obj=.ref s.heap.objs.size∧bd={s with heap:=s.heap.push {cls:=.type "dict",data:=.dict #[]}}) F.kt_called_dict (F.kt_typeCall_dict_1 _) F.entry_dict_init (kt_code_dict_new _ ⟨rfl,rfl⟩) ?_
 rintro obj bd ⟨rfl,rfl⟩
 have d4:C0 {s with heap:=s.heap.push {cls:=.type "dict",data:=.dict #[]}} (.ref s.heap.objs.size) "dict":=bx _ (eS _ rfl) rfl
 refine⟨d4,F.args_dict_init_2 _ _,?_⟩
 refine aE ?_
 refine aE (Hq d4 ?_)
 refine bj ?_
 refine(?_:a9 _ _ (aj7 "dict.__init__" s.heap.objs.size (.ref a) [] .none) _ _ _)
 have Ls:C0 {s with heap:=s.heap.push {cls:=.type "dict",data:=.dict #[]}} (.ref a) "list":=bx _ (bv _ _ cZ) rfl
 refine aE (vU Ls ?_)
 refine aE (acg (M:=M.in1.in1) a8 (bv _ _ cZ) λbF jo vb=>?_)
 refine aE (yE (aE ?_))
 have rW:bF.get? a=some {cls:=.type "list",data:=.seq T N}:=vb _ _ (bv _ _ cZ)
 refine Q5 (s:={s with heap:=bF,toks:=jo}) ⟨_,rW,rfl,N,rfl⟩ ?_
 have hQ:bF.get? s.heap.objs.size=some {cls:=.type "dict",data:=.dict #[]}:=vb _ _ (eS _ rfl)
 have dz:∀b A,s.heap.get? b=some A->bF.get? b=some A:=λb A e=>vb b A (bv b A e)
 have acv:bF.objs.size≠s.heap.objs.size:=sw (eF hQ)
 have acw:a≠s.heap.objs.size:=ho (eF cZ)
 have acx:bF.objs.size≠a:=sw (eF rW)
 have dP:∀{c3:cV},fq E J J s.heap (bF.push c3):=fun{c3}=>.of (λo o e=>e) λb A e=>dM _ (dz b A e)
 refine bj ⟨tE F.OQ _,QN (M:=M.in1) (aW:=bF.objs.size) (fs:=a) (a:=s.heap.objs.size) (T:=T) (x9:=.none) (J:=J) a8 (by show M.units+1+80<_;exact b6 [_,_] 1 (Ns (.add (Ns al) (.num 80))) ax 1 (Ns (.add al (.num 100))) ax rfl eB) acv acw acx d6 0 _ A ch (by exact cL.mono dP _ _) ⟨_,eS _ rfl,rfl,rfl⟩ ⟨N,dM _ rW⟩ ?_ e ?_ λae c9 aM GK=>?_⟩
 ·have dR:∀{c3:cV},(bF.push c3).get? s.heap.objs.size=some {cls:=.type "dict",data:=.dict #[]}:=fun{c3}=>dM _ hQ
  obtain rfl:=az
  exact qw ([]) ⟨_,_,_,dR,⟨rfl,rfl,rfl⟩,rfl,by intro e bw;simp at bw,.nil,ub⟩ rfl (by simp) .nil (by decide)
 ·obtain rfl:=az;(simp[xG];simpa using ag)
 ·have e5:∀b A,s.heap.get? b=some A->ae.get? b=some A:=λb A e=>aM b A (ho (eF e)) (ho (eF (dz b A e))) (dM _ (dz b A e))
  refine⟨rfl,_,_,rfl,J++[s.heap.objs.size],S.push e5 kH (GK.mono (.of (λn b e=>by simp only[jv (gt.mp e).1,e]) λo o e=>e) λo e=>e),by exact bx _ (by refine S.len▸?_;simp) rfl,.push e5 kH⟩
theorem agr{a:L}{u:ab}(a8:M.handled=none)(eB:M.units+100<hO)(S:a' E J l s.heap)(r:bf E J s.heap a u):a5 E D M m W J s (call (.type "dict") [u]) (bf E) (eC ((h5 l a).bind λm=>(FW m).map λd=>kW l (.cj d))):=
 .opt λY ex=>.map λeg e=>by
  obtain⟨n,rfl,g5⟩:=ur ex
  unfold FW at e
  by_cases ag:b8<=Y.length
  ·rw[if_pos ag] at e;exact ns e
  ·rw[if_neg ag] at e
   obtain⟨d6,aL,e⟩:=mF.mp e
   obtain⟨aY,aM,rfl⟩:=hL.mp e
   exact agq a8 eB S r g5 (lb ag) aL rfl (adN _ _ _ aM)
end
noncomputable abbrev kR(t:aa)(i:Nat):cV:={cls:=.type "tuple_iterator",data:=.fields #[.ref t,.int i 0]}
noncomputable abbrev Rg(TI dV:aa)(kc:ab):cV:={cls:=.type "zip",dict:=none,data:=.fields #[kc,.bool false,.bool false,.ref TI,.ref dV],slots:= #[]}
noncomputable abbrev xX(a b:ab):cV:={cls:=.type "tuple",data:=.seq #[a,b]}
noncomputable abbrev i2(d:Option aa)(Y:Array ab)(n:Nat)(e8:Array (Option ab)):cV:=⟨.type "tuple",d,.seq Y n,e8⟩
noncomputable abbrev t1(z TI dV bk b2 cQ cM:aa)(kc:ab)(ki kY:cV)(a b:ab)(gi lC:cV)(r:List gm):List gm:=(true,z,Rg TI dV kc):: (false,TI,xX (.ref bk) (.ref b2)):: (true,dV,xX a b):: (true,bk,ki):: (true,b2,kY):: (false,cQ,gi):: (false,cM,lC):: r
noncomputable def BJ:List Nat:=[0,0,0,0,1,0,0,0,0,3,3,3,3,5,3,3,2,2,2,2,4,4,4,4,6,4,4,2,2,2,2,2,0,0,0,0]
noncomputable def BI:List Nat:=[0,0,0,0,1,0,0,0,0,3,3,3,3,5,3,3,0,0,8]
noncomputable abbrev afL(n:aa):cV:={cls:=.type "StopIteration",data:=.fields #[.ref n,.none,.none,.none,.bool false,.none]}
def wI(Y bH:Array ab)(k:Nat)(x y:ab):Prop:=∀(aH:mI)(P:oL)(b:Bool)(n bE z TI dV bk b2 cQ cM:Nat)(a c:ab)(hQ fP:Option aa)(d9 eb:Nat)(f1 iZ:Array (Option ab)),
 (l2 (runC ⟨aH,lf b P⟩ 6) ⟨aH,lf b P⟩ (jk (.ref z)) BJ ⟨n,bE,t1 z TI dV bk b2 cQ cM .none (kR cQ k) (kR cM k) a c (i2 hQ Y d9 f1) (i2 fP bH eb iZ) []⟩).map seen=
  some (.ok (some (.ref n)),⟨n+1,bE,t1 z TI dV bk b2 cQ cM (fS n) (kR cQ (k+1)) (kR cM (k+1)) x y (i2 hQ Y d9 f1) (i2 fP bH eb iZ) [(true,n,xX x y)]⟩,BJ.filterMap ([z,TI,dV,bk,b2,cQ,cM,n][·]?),BJ.filterMap ([z,TI,dV,bk,b2,cQ,cM,n][·]?))
def zw(Y bH:Array ab)(k:Nat):Prop:=∀(aH:mI)(P:oL)(b:Bool)(n bE z TI dV bk b2 cQ cM:Nat)(a c:ab)(hQ fP:Option aa)(d9 eb:Nat)(f1 iZ:Array (Option ab)),
 (l2 (runC ⟨aH,lf b P⟩ 6) ⟨aH,lf b P⟩ (jk (.ref z)) BI ⟨n,bE,t1 z TI dV bk b2 cQ cM .none (kR cQ k) (kR cM k) a c (i2 hQ Y d9 f1) (i2 fP bH eb iZ) []⟩).map seen=
  some (.ok none,⟨n+2,bE,t1 z TI dV bk b2 cQ cM .none {cls:=.type "tuple_iterator",data:=.fields #[.none,.int k 0]} (kR cM k) a c (i2 hQ Y d9 f1) (i2 fP bH eb iZ) [(true,n,{cls:=.type "tuple",data:=.seq #[]}),(true,n+1,afL n)]⟩,BI.filterMap ([z,TI,dV,bk,b2,cQ,cM,n,n+1][·]?),BI.filterMap ([z,TI,dV,bk,b2,cQ,cM,n,n+1][·]?))
theorem ajV(x y:ab):wI #[x] #[y] 0 x y:=by intro _ _ b;intros;cases b <;> kernel_rfl
theorem ajM(x y:ab):zw #[x] #[y] 1:=by intro _ _ b;intros;cases b <;> kernel_rfl
theorem ajW(x y u v:ab):wI #[x,u] #[y,v] 0 x y:=by intro _ _ b;intros;cases b <;> kernel_rfl
theorem ajX(x y u v:ab):wI #[x,u] #[y,v] 1 u v:=by intro _ _ b;intros;cases b <;> kernel_rfl
theorem ajN(x y u v:ab):zw #[x,u] #[y,v] 2:=by intro _ _ b;intros;cases b <;> kernel_rfl
section
variable{M:cv}{aA:ab->ay->Prop}{s:ay}
structure nL(h:aV)(z TI dV bk b2 cQ cM k:Nat)(Y bH:Array ab)(kc:ab):Prop where
 z:IsZip h z TI dV kc
 r4:IsPair h TI (.ref bk) (.ref b2)
 to:∃a b,IsPair h dV a b
 bk:h.get? bk=some (kR cQ k)
 b2:h.get? b2=some (kR cM k)
 cQ:h.IsTuple cQ Y
 cM:h.IsTuple cM bH
theorem vK{h:aV}{a:aa}{Y:Array ab}(t:h.IsTuple a Y):∃d n e8,h.get? a=some (i2 d Y n e8):=cr t λA az aK hd=>bz hd λn hd=>by
 obtain⟨c,d,bC,e8⟩:=A
 subst aK
 subst hd
 exact⟨d,n,e8,az⟩
theorem Rf{z TI dV bk b2 cQ cM:Nat}{kc:ab}{ki kY:cV}{a b:ab}{gi lC:cV}(D:zx z TI dV bk b2 cQ cM):zA (t1 z TI dV bk b2 cQ cM kc ki kY a b gi lC []):=
 ⟨⟨D.TIz.symm,D.TOz.symm,D.i1z.symm,D.i2z.symm,D.l1z.symm,D.l2z.symm,trivial⟩,⟨D.TITO,D.TIi1,D.TIi2,trivial⟩,⟨D.TOi1,D.TOi2,D.l1TO.symm,D.l2TO.symm,trivial⟩,⟨D.i12,D.l1i1.symm,D.l2i1.symm,trivial⟩,⟨D.l1i2.symm,D.l2i2.symm,trivial⟩,trivial,trivial,trivial⟩
theorem ajP{z TI dV bk b2 cQ cM k:Nat}{Y bH:Array ab}{x y:ab}{an:Option ab->ay->Prop}(r:wI Y bH k x y)(a8:M.handled=none)(D:zx z TI dV bk b2 cQ cM)(Z:nL s.heap z TI dV bk b2 cQ cM k Y bH .none)
 (cY:∀ae,nL ae z TI dV bk b2 cQ cM (k+1) Y bH (fS s.heap.objs.size)->IsPair ae s.heap.objs.size x y->(∀c A,c≠z->c≠dV->c≠bk->c≠b2->s.heap.get? c=some A->ae.get? c=some A)->an (some (.ref s.heap.objs.size)) {s with heap:=ae}):
 a9 (a1 aH w) M (jk (.ref z)) an aA s:=ik Z.to λa c bn=>sc (vK Z.cQ) λhQ d9 f1 a3=>sc (vK Z.cM) λfP eb iZ a4=>Aa 6 BJ (t1 z TI dV bk b2 cQ cM .none (kR cQ k) (kR cM k) a c (i2 hQ Y d9 f1) (i2 fP bH eb iZ) []) (λb=>r aH w.params b s.heap.objs.size s.toks z TI dV bk b2 cQ cM a c hQ fP d9 eb f1 iZ) a8 ⟨Z.z,Z.r4,bn,Z.bk,Z.b2,a3,a4,trivial⟩ (Rf D) λae o q bv=>cY ae ⟨q.1,q.2.1,⟨x,y,q.2.2.1⟩,q.2.2.2.1,q.2.2.2.2.1,⟨_,q.2.2.2.2.2.1,rfl,d9,rfl⟩,⟨_,q.2.2.2.2.2.2.1,rfl,eb,rfl⟩⟩ q.2.2.2.2.2.2.2.1 λc A dO d3 h7 nT=>bv c A ⟨dO.symm,d3.symm,h7.symm,nT.symm,trivial⟩
theorem ajO{z TI dV bk b2 cQ cM k:Nat}{Y bH:Array ab}{an:Option ab->ay->Prop}(r:zw Y bH k)(a8:M.handled=none)(D:zx z TI dV bk b2 cQ cM)(Z:nL s.heap z TI dV bk b2 cQ cM k Y bH .none)
 (cY:∀ae,(∃T,ae.IsTuple dV T)->(∀c A,c≠z->c≠dV->c≠bk->c≠b2->s.heap.get? c=some A->ae.get? c=some A)->an none {s with heap:=ae}):a9 (a1 aH w) M (jk (.ref z)) an aA s:=ik Z.to λa c bn=>sc (vK Z.cQ) λhQ d9 f1 a3=>sc (vK Z.cM) λfP eb iZ a4=>Aa 6 BI (t1 z TI dV bk b2 cQ cM .none (kR cQ k) (kR cM k) a c (i2 hQ Y d9 f1) (i2 fP bH eb iZ) []) (λb=>r aH w.params b s.heap.objs.size s.toks z TI dV bk b2 cQ cM a c hQ fP d9 eb f1 iZ) a8 ⟨Z.z,Z.r4,bn,Z.bk,Z.b2,a3,a4,trivial⟩ (Rf D) λae o q bv=>cY ae ⟨_,_,q.2.2.1,rfl,0,rfl⟩ λc A dO d3 h7 nT=>bv c A ⟨dO.symm,d3.symm,h7.symm,nT.symm,trivial⟩
structure I2(T fe:List ab):Prop where
 item:∀(i:Nat)v u,T[i]? =some v->fe[i]? =some u->wI T.toArray fe.toArray i v u
 stop:zw T.toArray fe.toArray T.length
theorem QK{m:List ab}(h:m.length=2):∃x y,m=[x,y]:=by
 cases m with
 |nil=>cases h
 |cons x m=>exact bz (H'.mp (zf h)) λy e=>⟨x,y,e▸rfl⟩
theorem ajZ{T fe:List ab}(e:T.length=fe.length)(h:T.length=1∨T.length=2):I2 T fe:=by
 rcases h with h |h
 ·obtain⟨x,rfl⟩:=H'.mp h
  obtain⟨y,rfl⟩:=H'.mp (e.symm.trans h)
  refine⟨λi v u a3 a4=>?_,ajM x y⟩
  cases i with
  |zero=>cases a3;cases a4;exact ajV x y
  |succ i=>cases a3
 ·obtain⟨x,nr,rfl⟩:=QK h
  obtain⟨y,t0,rfl⟩:=QK (e.symm.trans h)
  refine⟨λi v u a3 a4=>?_,ajN x y nr t0⟩
  cases i with
  |zero=>cases a3;cases a4;exact ajW x y nr t0
  |succ i=>cases i with
   |zero=>cases a3;cases a4;exact ajX x y nr t0
   |succ i=>cases a3
theorem ajY(aH:mI)(P:oL)(b:Bool)(n bE cQ cM:Nat)(gi lC:cV)(hQ fP:Option aa)(d9 eb:Nat)(f1 iZ:Array (Option ab))(Y bH:Array ab):(l2 (runC ⟨aH,lf b P⟩ 8) ⟨aH,lf b P⟩ (call (.type "zip") [.ref cQ,.ref cM]) [0,0,0,2,1,1,1,3,6,6,6,6] ⟨n,bE,[(false,cQ,i2 hQ Y d9 f1),(false,cM,i2 fP bH eb iZ)]⟩).map seen=
 some (.ok (.ref (n+4)),⟨n+5,bE,[(false,cQ,i2 hQ Y d9 f1),(false,cM,i2 fP bH eb iZ),(true,n,kR cQ 0),(true,n+1,kR cM 0),(true,n+2,xX (.ref n) (.ref (n+1))),(true,n+3,xX .none .none),(true,n+4,Rg (n+2) (n+3) .none)]⟩,[cQ,cQ,cQ,n,cM,cM,cM,n+1,n+4,n+4,n+4,n+4],[cQ,cQ,cQ,n,cM,cM,cM,n+1,n+4,n+4,n+4,n+4]):=by cases b <;> kernel_rfl
theorem Vx{cQ cM:aa}{Y bH:Array ab}{an:ab->ay->Prop}(a8:M.handled=none)(uX:s.heap.IsTuple cQ Y)(LM:s.heap.IsTuple cM bH)
 (h:∀ae,nL ae (s.heap.objs.size+4) (s.heap.objs.size+2) (s.heap.objs.size+3) s.heap.objs.size (s.heap.objs.size+1) cQ cM 0 Y bH .none->
  (∀c A,s.heap.get? c=some A->ae.get? c=some A)->an (.ref (s.heap.objs.size+4)) {s with heap:=ae}):
 a9 (a1 aH w) M (call (.type "zip") [.ref cQ,.ref cM]) an aA s:=sc (vK uX) λhQ d9 f1 a3=>sc (vK LM) λfP eb iZ a4=>Aa 8 _ [(false,cQ,i2 hQ Y d9 f1),(false,cM,i2 fP bH eb iZ)] (λb=>ajY aH w.params b s.heap.objs.size s.toks cQ cM default default hQ fP d9 eb f1 iZ Y bH) a8 ⟨a3,a4,trivial⟩ ⟨trivial,trivial,trivial⟩ λae o q bv=>h ae ⟨q.2.2.2.2.2.2.1,q.2.2.2.2.1,⟨_,_,q.2.2.2.2.2.1⟩,q.2.2.1,q.2.2.2.1,⟨_,q.1,rfl,d9,rfl⟩,⟨_,q.2.1,rfl,eb,rfl⟩⟩ λc A=>bv c A trivial
end
section
variable{M:cv}{aA:ab->ay->Prop}{s:ay}
theorem nL.keep{h ae:aV}{z TI dV bk b2 cQ cM k:Nat}{Y bH:Array ab}{kc:ab}(Z:nL h z TI dV bk b2 cQ cM k Y bH kc)(bv:∀c A,c=z∨c=TI∨c=dV∨c=bk∨c=b2->h.get? c=some A->ae.get? c=some A)
 (gi:ae.IsTuple cQ Y) (lC:ae.IsTuple cM bH):nL ae z TI dV bk b2 cQ cM k Y bH kc:=
 ⟨bv _ _ (.inl rfl) Z.z,bv _ _ (.inr (.inl rfl)) Z.r4,ik Z.to λx y c=>⟨x,y,bv _ _ (.inr (.inr (.inl rfl))) c⟩,bv _ _ (.inr (.inr (.inr (.inl rfl)))) Z.bk,bv _ _ (.inr (.inr (.inr (.inr rfl)))) Z.b2,gi,lC⟩
def Cc(d:Data):Prop:=(∀af a0,d≠.dict af a0)∧∀v,d≠.cell v
theorem D2{T:Array ab}:Cc (.fields T):=⟨λo o q=>(by cases q),λo q=>by cases q⟩
theorem J6{T:Array ab}{n:Nat}:Cc (.seq T n):=⟨λo o q=>(by cases q),λo q=>by cases q⟩
theorem xB{B:bM}{h:aV}{a:aa}{A:cV}{r:List aa}(e:h.get? a=some A)(d:Cc A.data)(c:A.cls≠.type "tuple"∨B.cP a)(i:fE B r h):fE B (a::r) h:=λb ag=>(dU.mp ag).elim (λq=>q▸fK A e ⟨d.1,d.2⟩ c) (i b)
theorem Hz{B:bM}{h:aV}{z TI dV bk b2 cQ cM k:Nat}{Y bH:Array ab}{kc:ab}(Z:nL h z TI dV bk b2 cQ cM k Y bH kc)(ez:B.cP TI)(ft:B.cP dV):fE B [z,TI,dV,bk,b2] h:=ik Z.to λo o c=>xB Z.z D2 (.inl (vi rfl (by decide))) (xB Z.r4 J6 (.inr ez) (xB c J6 (.inr ft) (xB Z.bk D2 (.inl (vi rfl (by decide))) (xB Z.b2 D2 (.inl (vi rfl (by decide))) λo h=>(hK h).elim))))
theorem HA{B:bM}{h ae:aV}{z TI dV bk b2 cQ cM k:Nat}{Y bH:Array ab}{kc:ab}(Z:nL h z TI dV bk b2 cQ cM k Y bH kc)(bv:∀c A,c≠z->c≠dV->c≠bk->c≠b2->h.get? c=some A->ae.get? c=some A)(aad:∃T,ae.IsTuple dV T):
 Quiet B [z,TI,dV,bk,b2] h ae:=
 ⟨λb A ag e=>bv b A (λq=>ag (q▸.head _)) (λq=>ag (q▸.tail _ (.tail _ (.head _)))) (λq=>ag (q▸.tail _ (.tail _ (.tail _ (.head _))))) (λq=>ag (q▸.tail _ (.tail _ (.tail _ (.tail _ (.head _)))))) e,λa o t=>(yP (a=dV)).elim (λq=>q▸aad) λq=>k5 t λT A az r=>qx T A (bv a A
  (λq=>by cases q;cases az.symm.trans Z.z;exact absurd (C5 r.1) (by decide)) q (λq=>by cases q;cases az.symm.trans Z.bk;exact absurd (C5 r.1) (by decide)) (λq=>by cases q;cases az.symm.trans Z.b2;exact absurd (C5 r.1) (by decide)) az) r⟩
end
section
variable{D:Bool}{B E:bM}{K:cb}{M:cv}{m:List bo}{W J bT bV:List aa}{s:ay}{names:List (I×b4)}{U c':List (I×Nat)}{d:Nat}{O:bo}{C:aI}{l:St}{bp:aa->List L->St->ao L}{aA:ab->ay->Prop}
theorem ad0{h ae:aV}(q:Quiet B bV h ae)(i:fE B bV h)(bQ:∀a∈bV,B.heap.get? a=none)(hm:∀a∈bV,a∉J)(S:a' B J l h):a' B J l ae:=OZ q i (λa ar=>⟨bQ a ar,hm a ar⟩) S
theorem XY(a8:M.handled=none){wW:List Expr}{aq}{i1:bu}{z TI dV bk b2 cQ cM:Nat}{Y bH:List L}{T fe:List ab}(cE:I2 T fe)(aN:Y.length=bH.length)(X:zx z TI dV bk b2 cQ cM)(ez:B.cP TI)(ft:B.cP dV)(d9:¬B.cP cQ)(eb:¬B.cP cM)
 (aG:∀a∈[z,TI,dV,bk,b2],a∉bT) (bQ:∀a∈[z,TI,dV,bk,b2],B.heap.get? a=none) (r:List (L×L)):∀(i:Nat)(J:List aa)(l:St)(s:ay),i<=Y.length->a' B J l s.heap->(Y.zip bH).drop i=r->br B J s.heap Y T->br B J s.heap bH fe->
 nL s.heap z TI dV bk b2 cQ cM i T.toArray fe.toArray .none->(∀a∈[z,TI,dV,bk,b2],a∉J)->jZ B D M bT [z,TI,dV,bk,b2] (.Tuple wW aq i1) (.ref z) none (r.map λp=>L.tup [p.1,p.2]) J s:=by
 induction r with
 |nil=>
  intro i J l s aR S ba cL mm Z hm an aA h
  have e:=Cq.mp ba
  rw[Ib,<-aN,Nat.min_self] at e
  obtain rfl:i=T.length:=(h2 aR e).trans cL.length.symm
  exact ajO cE.stop a8 X Z λae bn bv=>h ae s.toks (HA Z bv bn)
 |cons p r aJ=>
  intro i J l s aR S ba cL mm Z hm an aA h
  refine dL (uB ba) λar l'=>dL (H8.mp ar) λaD bD=>aU (cL.get aD) λv ck eu=>aU (mm.get bD) λu eB eK=>?_
  refine ajP (cE.item i v u ck eB) a8 X Z λbF re d4 vb=>h _ bF s.toks (HA (B:=B) Z vb (ik re.to λo o e=>⟨_,_,e,rfl,0,rfl⟩)) λir k=>wpAny_letOwnedTupleGo_zip re.z λdb aal o8=>?_
  have up:∀c A,c≠z->bF.get? c=some A->db.get? c=some A:=λc A aK e=>(o8.2 c aK).trans e
  have gi:db.IsTuple cQ T.toArray:=aU re.cQ λA az r=>bx A (up _ A X.l1z az) r
  have lC:db.IsTuple cM fe.toArray:=aU re.cM λA az r=>bx A (up _ A X.l2z az) r
  have lV:nL db z TI dV bk b2 cQ cM (i+1) T.toArray fe.toArray .none:=⟨aal,up _ _ X.TIz re.r4,ik re.to λx y e=>A0 x y (up _ _ X.TOz e),up _ _ X.i1z re.bk,up _ _ X.i2z re.b2,gi,lC⟩
  have GC:Quiet B [z,TI,dV,bk,b2] s.heap db:=HA Z (λc A dO d3 h7 nT e=>up c A dO (vb c A dO d3 h7 nT e)) (ik lV.to λo o e=>⟨_,_,e,rfl,0,rfl⟩)
  have MK:=Hz (B:=B) Z ez ft
  have ML:=Hz (B:=B) lV ez ft
  have dP:=vv (J:=J) GC MK
  refine k db s.toks GC ML ?_ λW aw av ah bS Fh cG jI dR=>?_
  ·exact m3 _ ([v,u]) rfl (S.free hR) ⟨_,up _ _ (sw (eF Z.z)) d4,rfl,0,rfl⟩ (by simp only[jU];simp) (.cons (eu.mono dP _ _) (.cons (eK.mono dP _ _) .nil))
  ·have k9:=jI.rM (ad0 GC MK bQ hm S) Fh
   exact aJ (i+1) aw av ah (gt.mp aD).1 cG l' ((cL.mono dP _ _).mono k9 _ _) ((mm.mono dP _ _).mono k9 _ _) (lV.keep (λc A aK e=>have gq:c∈[z,TI,dV,bk,b2]:=(by simpa using aK);jI.iter (hm c gq) (bS c gq) (aG c gq) e) (k9.tup _ _ d9 gi) (k9.tup _ _ eb lC)) λa ar=>bz (ML a ar) λA az=>jI.mj (λz=>c1 az.1 z) (hm a ar)
theorem bf.rebase{J:List aa}{h:aV}(ag:∀a,B.cP a->E.cP a∨h.get? a=none)(a:L):∀v,bf E J h a v->bf B J h a v:=
 @L.rec (λa=>∀v,bf E J h a v->bf B J h a v) (λm=>∀T,br E J h m T->br B J h m T) (λo e=>e) (λo o e=>e) (λo o e=>e) (λo o e=>e)
  (λm aJ v e=>k6 e λa T p bU k N n=>m3 a T p (λq=>(ag a q).elim bU λz=>aU k λA az o=>c1 az z) k N (aJ T n)) (λo o e=>e) (λo o e=>e)
  (λo e=>e) (λa r i j T e=>eL e λv t q y z=>kV v t q (i v y) (j t z)) a
theorem br.rebase{J:List aa}{h:aV}(ag:∀a,B.cP a->E.cP a∨h.get? a=none)(m:List L)(T:List ab)(e:br E J h m T):br B J h m T:=e.ind (P:=br B J h) .nil λy o=>.cons (y.rebase ag _ _)
theorem f3.rebase{h:aV}{a:aa}(ag:∀a,B.cP a->E.cP a∨h.get? a=none){A:aQ}(r:f3 E J h A a):f3 B J h A a:=by
 cases A with
 |list m=>obtain⟨T,p,aP,r⟩:=r;exact fK T p aP (r.rebase ag _ _)
 |cj m=>obtain⟨bP,q,e,aP,r,z⟩:=r;exact qw bP q e aP (r.rebase ag _ _) z
 |b5 m=>
  refine sb r λY q e aP r z B5=>?_
  refine xM Y q e aP (r.rebase ag _ _) z (λx aD adV=>(ag _ adV).elim (B5 x aD) λaO=>?_)
  refine vV q λA af a0 az b0 bO eJ gH kl=>?_
  refine k7 (gH x aD) λch dm n eA o=>?_
  exact by cases eA.symm.trans aO
 |inst Q d=>exact r
theorem er.rebase{h:aV}(ag:∀a,B.cP a->E.cP a∨h.get? a=none)(a8:B.heap=E.heap)(aB:er E U O J C h):er B U O J C h:=
 ⟨aB.ns,aB.nm,λx i e=>aU (aB.val x i e) λv p q=>bx v p (λa ar=>aU (q a ar) λu ai am=>bx u ai (am.rebase ag _ _)),aB.apart,a8▸aB.pf,a8▸aB.m6⟩
theorem gM.rebase{h:aV}(a8:B.heap=E.heap)(F:gM E J h m):gM B J h m:=⟨λO bw=>a8▸F.each O bw⟩
theorem dN.cP{h:aV}{t:Nat}(P:dN E names U d M m O J C l s)(a8:B.heap=E.heap)(bv:∀b A,s.heap.get? b=some A->h.get? b=some A)(ag:∀a,B.cP a->E.cP a∨(s.heap.get? a=none∧∃T,h.IsTuple a T)):
 dN B names U d M m O J C l {s with heap:=h,toks:=t}:=by
 have gQ:∀a,B.cP a->E.cP a∨s.heap.get? a=none:=λa q=>(ag a q).imp id (·.1)
 have dP:fq B J J s.heap h:=.of (λo o e=>e) bv
 refine⟨P.room,P.dJ,?_,⟨P.st.len,P.st.nodup,λa ar=>by refine a8▸?_;exact P.st.new a ar,by refine a8▸?_;exact λb A e=>bv b A (P.st.base b A e),λn a A iV iW=>((P.st.obj n a A iV iW).rebase gQ).mono dP λA q=>bv a A q,λa q=>?_⟩,?_⟩
 ·exact(P.lo.rebase gQ a8).to P.lo.nm (λN n=>n.keeps bv) (λc v b=>aU b λA q r=>bx A (bv _ _ q) r) (λo o r=>r.mono dP _ _) rfl
 ·rcases ag a q with q |⟨_,q⟩
  ·obtain⟨T,A,az,r⟩:=P.st.pY a q;exact qx T A (bv a A az) r
  ·exact q
 ·have F:=P.fr.rebase (B:=B) a8
  exact⟨λe bw=>let ⟨cF,aB,cz,g9,rL,N,iX⟩:=F.each e bw;⟨cF,aB,cz,g9,rL,N,iX.keeps bv⟩⟩
theorem a'.Hj{h:aV}(S:a' B J l h)(a8:B.heap=E.heap)(ag:∀a,E.cP a->B.cP a):a' E J l h:=
 ⟨S.len,S.nodup,λa ar=>by refine a8▸?_;exact S.new a ar,by refine a8▸?_;exact S.base,λn a A iV iW=>(S.obj n a A iV iW).rebase λa q=>.inl (ag a q),λa q=>S.pY a (ag a q)⟩
theorem Acc.Hj{h:aV}{cx:aa}{done:List L}(X:Acc B m J h cx done)(a8:B.heap=E.heap)(ag:∀a,E.cP a->B.cP a):Acc E m J h cx done:=
 ⟨aU X.at_ λbH p r=>bx bH p (r.rebase (λa q=>.inl (ag a q)) _ _),X.off,X.tA,by refine a8▸?_;exact X.new⟩
end
section
variable{D:Bool}{B E:bM}{K:cb}{M:cv}{m:List bo}{W J bT bV:List aa}{s:ay}{names:List (I×b4)}{U c':List (I×Nat)}{d:Nat}{O:bo}{C:aI}{l:St}{bp:aa->List L->St->ao L}{aA:ab->ay->Prop}
theorem Vv{f:ab}{first:List ab}{args:List Expr}{pos:bu}{c0:St->ao (List L)}{Y:List L}{av:St}{an:ab->ay->Prop}(aP:fO args)
 (aM:∀h,E.heap.StaysIn h->∃k,(k=so∨k=sp∨k=sn)∧iN (a1 aH w) h (tj f) k)
 (fp:hv E D names U d args C c0) (P:dN E names U d M m O J C l s) (e:c0 l=.ok Y av)
 (u:∀T ah aw,a' E aw av ah.heap->br E aw ah.heap Y T->bG D (ci m) [] J s aw ah->a9 (a1 aH w) M (call f (first++T)) an aA ah):
 a9 (a1 aH w) M (p2 pos f first (iQ pos (ii args O)) []) an aA s:=
 DE (P:=λh=>E.heap.StaysIn h) (by refine(Bb aP).symm▸?_;rfl) aM (z9 aP ((fp _ _ _ _ _ _ pos P).inner e λT ah aw S r g=>⟨S.base,u T ah aw S r g⟩))
theorem ajQ:rn "zip"=some (.type "zip"):=by rfl
theorem zJ{α bq im:Type}{r:ao α}{f:α->St->ao bq}{g:bq->St->ao im}:(r.bind f).bind g=r.bind λx l=>(f x l).bind g:=by cases r <;> rfl
theorem ajS{r:ao L}{bU:St->ao L}{F:List L×Option (Nat×aQ)->St->ao (List L)}{Y:List L}{f9:St}(h:(r.bind λx ak=>(bU ak).bind λy a2=>opt (B6 x y) a2).g'.bind F=.ok Y f9):
 ∃(X fY:List L)(ak a2:St),r=.ok (.tup X) ak∧bU ak=.ok (.tup fY) a2∧F ((X.zip fY).map λp=>L.tup [p.1,p.2],none) a2=.ok Y f9∧X.length=fY.length∧(X.length=1∨X.length=2):=by
 obtain⟨x,ak,a3,ai⟩:=zK (zJ.symm.trans (F6 h))
 obtain⟨y,a2,a4,am⟩:=zK (zJ.symm.trans ai)
 obtain⟨q,g5,a6⟩:=OA am
 refine gn g5 λX ex g5=>gn g5 λfY fZ g5=>dL (u5 g5) λaN z=>?_
 subst z
 cases rk ex
 cases rk fZ
 exact⟨X,fY,ak,a2,a3,a4,a6,aN⟩
theorem VX{bZ b7 gp:Expr}{af:List Expr}{rQ i1:_}{pj j' pos:bu}{dK:List Expr}{scope:fa}{is:List Nat}{d1 bU:St->ao L}{iB:St->ao (List L)}{e5:aI->St->ao Bool}{ds:aI->St->ao L}{pure:Bool}
 (Z:ef K E) (qB:iR K names "zip"=true) (aP:fO [b7,gp]) (Q:oz names U scope c' is) (ok:h3 (d' names scope.names) c' (.many is) (.Tuple af rQ i1)) (aO:lD scope.names (.Tuple af rQ i1)=true)
 (fp:hv E D names U d [b7,gp] C iB) (kN:∀l x ak y a2,d1 l=.ok x ak->bU ak=.ok y a2->iB l=.ok [x,y] a2)
 (aG:∀B:bM,B.heap=E.heap->∀bb,qX B D (d' names scope.names) c' d dK bb (e5 bb)) (bw:∀B:bM,B.heap=E.heap->∀bb,dB B D (d' names scope.names) c' d bZ bb (ds bb)):
 pF E D names U d bZ [⟨.Tuple af rQ i1,.Call (.Name "zip" pj) [b7,gp] [] j',dK,0⟩] scope pos C (λl=>((d1 l).bind λx ak=>(bU ak).bind λy a2=>opt (B6 x y) a2).g'.bind (ln pure (jn (.many is) (kb is C) (iS e5 ds)))):=λM m O J l s aA use an Y f9 P ba dW ql=>by
 have xl:∀x,Ag (.Call (.Name "zip" pj) [b7,gp] [] j') O x=zm x:=λx=>rfl
 dsimp only at ba
 refine Hw (ajS ba) λX fY ak a2 a3 a4 cI aN=>?_
 replace cI:=(if_neg (λq=>by cases q)).symm.trans cI
 have n2:=DN Q P
 refine ij (JP (O:=O) (scope:=scope) λx aD=>k5 (n2 x aD) λc v h o=>⟨c,h⟩) λdx EL l4 l5 xg=>?_
 refine aht (cl:=dx) (g:=⟨.Tuple af rQ i1,.Call (.Name "zip" pj) [b7,gp] [] j',dK,0⟩) (gs:=[]) rfl xl EL Q.kind (λx aD aN=>by
  obtain⟨n,k⟩:=x
  simp only at aN;subst aN
  exact pd Q.nodup aD) ?_
 simp only[iR,gW,pD,beq_iff_eq] at qB
 refine(?_:a9 _ _ (fb (.Call (.Name "zip" pj) [b7,gp] [] j') O) _ _ s)
 refine aE (xJ Z P.st.base P.dJ qB.1.1.1 qB.1.1.2 ajQ (by decide) qB.1.2 ?_)
 refine Vv (first:=[]) aP (tk (by simp)) fp P (kN _ _ _ _ _ a3 a4) λT bd b3 bt cN bK=>?_
 refine eL cN.cons_inv λu t ai5 x6 eP=>?_
 subst ai5
 refine eL eP.cons_inv λv c9 ai6 ad1 GD=>?_
 subst ai6
 rw[GD.nil_inv]
 refine k6 (qO x6) λcQ fe ai7 d9 Fe uX GP=>?_
 subst ai7
 refine k6 (qO ad1) λcM ej ai9 eb Ff LM Pk=>?_
 subst ai9
 have hx:=P.grow bK bt
 refine Vx P.room.a8 Fe Ff λdb lV bv=>?_
 refine ahF lV.z ?_
 have Np:cQ<bd.heap.objs.size:=let ⟨A,az,_⟩:=Fe;eF az
 have Nq:cM<bd.heap.objs.size:=let ⟨A,az,_⟩:=Ff;eF az
 have fresh:∀j,bd.heap.get? (bd.heap.objs.size+j)=none:=λj=>by
  cases q:bd.heap.get? (bd.heap.objs.size+j) with
  |none=>rfl
  |some A=>exact absurd (eF q) (lQ.mpr (pQ _ _))
 generalize du:bd.heap.objs.size=aW at lV Np Nq fresh
 have kE:zx (aW+4) (aW+2) (aW+3) aW (aW+1) cQ cM:=ktu_apart aW cQ cM Np Nq
 have fr:∀a∈[aW+4,aW+2,aW+3,aW,aW+1],bd.heap.get? a=none:=λa ar=>by
  simp only[dU,hK,or_false] at ar
  rcases ar with q |q |q |q |q <;> subst q <;> first |exact fresh _ |exact fresh 0
 let B:bM:=⟨E.heap,λa=>E.cP a∨a=aW+2∨a=aW+3⟩
 have An:B.cP (aW+2):=IF (IE rfl)
 have Lu:B.cP (aW+3):=IF (IF rfl)
 have Lz:∀a,B.cP a->E.cP a∨(bd.heap.get? a=none∧∃T,db.IsTuple a T):=λa q=>by
  rcases q with q |q |q
  ·exact .inl q
  ·subst q;exact .inr ⟨fresh 2,_,_,lV.r4,rfl,0,rfl⟩
  ·subst q;exact .inr ⟨fresh 3,ik lV.to λa b e=>kV _ _ e rfl ⟨0,rfl⟩⟩
 have Ap:∀a,B.cP a->E.cP a∨bd.heap.get? a=none:=λa q=>(Lz a q).imp id (·.1)
 have S6:dN B names U d M m O b3 C a2 {bd with heap:=db}:=hx.cP (B:=B) (t:=bd.toks) rfl bv Lz
 have NP:¬B.cP cQ:=λq=>(Ap _ q).elim d9 λz=>by obtain⟨A,az,_⟩:=Fe;rw[az] at z;nomatch z
 have NQ:¬B.cP cM:=λq=>(Ap _ q).elim eb λz=>by obtain⟨A,az,_⟩:=Ff;rw[az] at z;nomatch z
 have dP:fq B b3 b3 bd.heap db:=.of (λo o e=>e) bv
 have aeq:=(GP.rebase Ap).mono dP
 have aer:=(Pk.rebase Ap).mono dP
 have w6:∀a,bd.heap.get? a=none->E.heap.get? a=none:=λa ar=>tQ bt.base ar
 have afa:∀a,bd.heap.get? a=none->s.heap.get? a=none:=λa ar=>bK.gone ar
 refine J0 (E:=B) (bV:=[aW+4,aW+2,aW+3,aW,aW+1]) (is:=(X.zip fY).map λp=>L.tup [p.1,p.2]) (g:=none) (bU:=iS e5 ds) (t:=.many is) (em:=is)
  (body:=λbc O=>p5 bZ dK bc O) (hz:=λo=>[]) (iter:=.Call (.Name "zip" pj) [b7,gp] [] j') (bg:=.Tuple af rQ i1) (dK:=dK) (cu:=[]) rfl Q ok (λo h=>h) (λit bc d0 o=>JZ ..)
  (λa bb o=>Hi (aG B rfl bb) (bw B rfl bb)) (λo o o o o o a ar=>by simp at ar) (λdx d0 bF s dD a ar=>by
   rw[iK] at ar
   exact BG (λx=>by unfold pG;rw[x8 P.dJ]) Q aO dD a ar) l4 l5 xg S6 (bK.trans (.more (t:=bd.toks) bv)) (λa ar=>⟨afa a (fr a ar),w6 a (fr a ar),λhm=>bt.there a hm (fr a ar),λhm=>oZ hx.fr hm (fr a ar)⟩) (Hz lV An Lu) ?_ ?_ cI dW ?_
 ·intro aw av ah cG gE rP mZ ak'
  have k9:fq B b3 aw db ah.heap:=.of gE rP
  exact XY P.room.a8 (ajZ (GP.length.trans (aN.1.trans Pk.length.symm)) (GP.length▸aN.2)) aN.1 kE An Lu NP NQ (λa ar hm=>oZ hx.fr hm (fr a ar)) (λa ar=>w6 a (fr a ar)) _ 0 aw av ah (iq _) cG rfl (aeq.mono k9 _ _) (aer.mono k9 _ _)
   (lV.keep (λc A o e=>rP c A e) (k9.tup _ _ NP lV.cQ) (k9.tup _ _ NQ lV.cM)) mZ
 ·intro ah ir jY rP ae
  exact ahF (rP _ _ lV.z) ae
 ·intro cx kq ah aw cG Rj fB hd cB ai am a6
  exact ql cx kq ah aw (cG.Hj (E:=E) rfl λa q=>IE q) (Rj.Hj (E:=E) rfl λa q=>IE q) fB hd cB ai am a6
end
section
variable{D:Bool}{B E:bM}{K:cb}{M:cv}{m:List bo}{W J bT bV:List aa}{s:ay}{names:List (I×b4)}{U c':List (I×Nat)}{d:Nat}{O:bo}{C:aI}{l:St}{bp:aa->List L->St->ao L}{aA:ab->ay->Prop}
theorem JD{f:ab}{first:List ab}{args:List Expr}{pos:bu}{c0:St->ao (List L)}{an:ab->ay->Prop}(aP:fO args)
 (aM:∀h,E.heap.StaysIn h->∃k,(k=so∨k=sp∨k=sn)∧iN (a1 aH w) h (tj f) k)
 (fp:hv E D names U d args C c0) (P:dN E names U d M m O J C l s) (aG:c0 l≠.fail)
 (u:∀Y av T ah aw,c0 l=.ok Y av->a' E aw av ah.heap->br E aw ah.heap Y T->bG D (ci m) [] J s aw ah->a9 (a1 aH w) M (call f (first++T)) an aA ah)
 (x:∀e ah,f' E D m [] J s (c0 l) e ah->aA e ah):
 a9 (a1 aH w) M (p2 pos f first (iQ pos (ii args O)) []) an aA s:=
 DD (E.heap.StaysIn ·) aP aM fp P aG (λY av T ah aw e S h g=>⟨S.base,u Y av T ah aw e S h g⟩) x
theorem ac8{r:ao L}(h:(r.bind λx ak=>ao.ok [x] ak)=.fail):r=.fail:=by
 cases r with
 |fail=>rfl
 |_=>cases h
theorem ac9{r:ao L}{Y:List L}{av:St}(h:(r.bind λx ak=>ao.ok [x] ak)=.ok Y av):∃x,Y=[x]∧r=.ok x av:=by
 cases r with
 |ok x l=>cases h;exact⟨x,rfl,rfl⟩
 |_=>cases h
theorem ac7{r:ao L}{x:L}{av:St}(h:(r.bind λx ak=>ao.ok [x] ak)=.exc x av):r=.exc x av:=by
 cases r with
 |exc=>cases h;rfl
 |_=>cases h
theorem f'.Vz{α bq:Type}{x:L}{av:St}{v:ab}{ah:ay}(p:f' E D m W J s (.exc x av:ao α) v ah):f' E D m W J s (.exc x av:ao bq) v ah:=p.cast (λo o e=>by cases e;rfl) λo h=>h
theorem JE{bq:Type}{w3:ab}{e:Expr}{pos:bu}{d1:St->ao L}{iB:St->ao (List L)}{f:L->St->ao bq}(F:ao bq->Prop)(an X:ao bq->ab->ay->Prop)(aP:fO [e])
 (aM:∀h,E.heap.StaysIn h->∃k,(k=so∨k=sp∨k=sn)∧iN (a1 aH w) h (tj w3) k)
 (fp:hv E D names U d [e] C iB) (kN:∀l,iB l=(d1 l).bind λx ak=>.ok [x] ak) (P:dN E names U d M m O J C l s) (aG:F ((d1 l).bind f)) (et:¬F .fail)
 (h':∀x av v ah,f' E D m [] J s (.exc x av:ao L) v ah->X (.exc x av) v ah)
 (u:∀x av v ah aw,F (f x av)->a' E aw av ah.heap->bf E aw ah.heap x v->bG D (ci m) [] J s aw ah->a9 (a1 aH w) M (call w3 [v]) (an (f x av)) (X (f x av)) ah):
 a9 (a1 aH w) M (p2 pos w3 [] (iQ pos (ii [e] O)) []) (an ((d1 l).bind f)) (X ((d1 l).bind f)) s:=by
 refine JD (first:=[]) aP aM fp P (λq=>et ?_) (λY av T ah aw q S r g=>?_) λcm ah p=>?_
 ·rw[ac8 ((kN l).symm.trans q)] at aG;exact aG
 ·refine aU (ac9 ((kN l).symm.trans q)) λx z a3=>?_
  subst z
  rw[a3] at aG |-
  refine eL r.cons_inv λv t z cL aen=>?_
  subst z
  cases aen.nil_inv
  exact u _ _ _ _ _ aG S cL g
 ·obtain⟨a,av,q,aw,S,y,g⟩:=p
  rw[ac7 ((kN l).symm.trans q)]
  exact h' _ _ _ _ ⟨a,av,rfl,aw,S,y,g⟩
theorem ad5:rn "range"=some (.type "range"):=by rfl
theorem Xs{e bg:Expr}{pj j':bu}{d1:St->ao L}{iB:St->ao (List L)}(Z:ef K E)(qB:iR K names "range"=true)(aP:fO [e])
 (fp:hv E D names U d [e] C iB) (kN:∀l,iB l=(d1 l).bind λx ak=>.ok [x] ak):
 js E D names U d (.Call (.Name "range" pj) [e] [] j') bg C (λl=>(d1 l).bind λx ak=>opt (x7 x) ak):=λM m O J l s P aG=>by
 simp only[iR,gW,pD,beq_iff_eq] at qB
 refine aE (xJ Z P.st.base P.dJ qB.1.1.1 qB.1.1.2 ad5 (by decide) qB.1.2 ?_)
 refine JE (λr=>ll D r≠.fail) (λr x bd=>a9 (a1 aH w) M (ly x) (lS E D (CU E D M m bg s) m [] J s (ll D r)) (f' E D m [] J s (ll D r)) bd) (λr=>f' E D m [] J s (ll D r)) aP (tk (by simp)) fp kN P aG (λq=>q rfl) (λo o o o p=>p.Vz) λx ak v bd b3 aG bt x6 bK=>?_
 cases x with
 |int i=>
  by_cases aR:0<=i∧i<b8
  ·rw[show x7 (.int i)=some ((iM i.toNat).map λk=>L.int (k:Nat),none) from if_pos aR]
   obtain⟨t,rfl⟩:=mr x6
   refine call_range_1 (wpAny_pyIter_range (IsRange.new ..) (small_one (by decide) (by decide) (by lia) (by have:=aR.2;unfold b8 at this;lia)) ?_)
   have uD:akc 0 i 1=((i.toNat:Nat):Int):=by rw[rangeSize_one];split <;> lia
   rw[uD]
   have l9:bd.heap.get? (bd.heap.push {cls:=.type "range",data:=.fields #[.int 0 bd.toks,.int i t,.int 1 (bd.toks+1)]}).objs.size=none:=by
    cases q:bd.heap.get? (bd.heap.push {cls:=.type "range",data:=.fields #[.int 0 bd.toks,.int i t,.int 1 (bd.toks+1)]}).objs.size with
    |none=>rfl
    |some A=>have:=eF q;rw[oG] at this;exact absurd this (lQ.mpr (pR _))
   have bv:∀b A,bd.heap.get? b=some A->((bd.heap.push {cls:=.type "range",data:=.fields #[.int 0 bd.toks,.int i t,.int 1 (bd.toks+1)]}).push {cls:=.type "range_iterator",data:=.fields #[fS 0,fS ((i.toNat:Nat):Int),fS 1]}).get? b=some A:=λb A e=>dM _ (dM _ e)
   generalize bd.heap.push {cls:=.type "range",data:=.fields #[.int 0 bd.toks,.int i t,.int 1 (bd.toks+1)]}=ai at l9 bv |-
   have wd:=(P.grow bK bt).fr
   have Lf:E.heap.get? ai.objs.size=none:=tQ bt.base l9
   have YA:s.heap.get? ai.objs.size=none:=bK.gone l9
   have hit:R9 (ai.push {cls:=.type "range_iterator",data:=.fields #[fS 0,fS ((i.toNat:Nat):Int),fS 1]}) ai.objs.size ((0:Nat):Int) ((i.toNat:Nat):Int) 1:=eS _ rfl
   refine⟨_,ak,rfl,b3,bt.more bv,⟨[ai.objs.size],λa ar=>?_,.one (b1:="range_iterator") hit rfl rfl (by decide),λaw av ah cG hm rP bS dR=>?_,λah an aA rP a7=>?_⟩,bK.trans (.more bv)⟩
   ·cases gu.mp ar
    exact⟨YA,Lf,λhm=>bt.there _ hm l9,λhm=>oZ wd hm l9⟩
   ·rw[List.range_eq_range']
    exact XV P.room.a8 (λhm=>oZ wd hm l9) Lf i.toNat 0 aw av ah cG (rP _ _ hit) (bS _ (.head _))
   ·exact wpAny_pyIter_rangeiter (rP _ _ hit) a7
  ·rw[show x7 (.int i)=none from if_neg aR] at aG;exact absurd rfl aG
 |_=>exact absurd rfl aG
theorem xI{n:Nat}{b:aa}{Y:List L}(S:a' E J l s.heap)(ag:J[n]? =some b)(ex:l[n]? =some (.list Y)):∃T,s.heap.PlainList b T∧T.size<=e7∧br E J s.heap Y T.toList:=S.obj n b _ ag ex
theorem PD{n:Nat}{b:aa}{bH:List L}{T ej:Array ab}{ae:aV}(S:a' E J l s.heap)(ag:J[n]? =some b)(cZ:s.heap.PlainList b T)(aP:hw b s.heap ae)(m':ae.PlainList b ej)(aZ:ej.size<=e7)(r:br E J s.heap bH ej.toList):
 a' E J (l.set n (.list bH)) ae∧bG D bT W J s J {s with heap:=ae}:=by
 have fz:∀T,¬s.heap.IsTuple b T:=S.vL b (fG ag)
 have dP:fq E J J s.heap ae:=⟨λo o e=>e,λc fe o e=>by
  obtain⟨A,az,q⟩:=id e
  have:c≠b:=by rintro rfl;exact fz fe e
  exact⟨A,(aP.2 c this).trans az,q⟩⟩
 refine⟨S.set ag aP ⟨ej,m',aZ,r.mono dP _ _⟩,.set (t:=s.toks) aP (.inl (fG ag)) (let ⟨N,e⟩:=m';by rw[e];simp) (λo o A af a0 e q=>?_) (λq=>absurd (fG ag) q)⟩
 obtain⟨N,cm⟩:=cZ
 rw[cm] at e;cases e;cases q
theorem agm{aC n:Nat}{b:aa}{x:L}{u:ab}(S:a' E J l s.heap)(ag:J[n]? =some b)(GQ:bf E J s.heap x u):a5 E D M m [] J s (call (.builtin "list.append") [.ref b,u]) (bf E) (oQ aC (.loc n) x l):=by
 dsimp only[oQ]
 cases fZ:l[n]? with
 |none=>exact .fail
 |some c3=>
  cases c3 with
  |list bH=>
   dsimp only
   by_cases aN:bH.length<b8∧hP aC n x=true
   case neg=>rw[if_neg aN];exact .fail
   rw[if_pos aN]
   refine cr (xI S ag fZ) λT cZ aZ cL=>?_
   have dW:T.size=bH.length:=cL.length
   refine λo=>ahA cZ (λae m' aP=>?_) aZ
   have kg:(T.push u).size<=e7:=by
    rw[Array.size_push,dW]
    exact da (SX aN.1) (by rw[jU];decide)
   refine dL (PD (D:=D) (bT:=ci m) (W:=[]) S ag cZ aP m' kg (bH:=bH++[x]) (by rw[HH];exact cL.snoc GQ)) λcG fB=>?_
   exact⟨_,_,rfl,J,cG,rfl,fB⟩
  |_=>exact .fail
noncomputable def tC(f:L->St->ao L):List L->St->ao L
 |[a],l=>f a l
 |_,_=>.fail
theorem Ow{iB:St->ao (List L)}{d1:St->ao L}{f:L->St->ao L}{l:St}(kN:∀l,iB l=(d1 l).bind λx ak=>.ok [x] ak):(iB l).bind (tC f)=(d1 l).bind f:=by
 rw[kN]
 cases d1 l <;> rfl
theorem a5.tC{f:L->St->ao L}{N:List ab->dh ab}{av:St}{ah:ay}{aw:List aa}{R:List aa->aV->L->ab->Prop}(h:∀a u,bf E aw ah.heap a u->a5 E D M m W aw ah (N [u]) R (f a av)):∀(Y:List L)(T:List ab),br E aw ah.heap Y T->a5 E D M m W aw ah (N T) R (Mine.Internal.tC f Y av)
 |[],_,_=>.fail
 |_::_::_,_,_=>.fail
 |[a],T,r=>by
  refine eL r.cons_inv λu t q eu eK=>?_
  subst q
  rw[eK.nil_inv]
  exact h a u eu
theorem W7{aC:Nat}{A a:Expr}{e4 pos:bu}{kh d1:St->ao L}{iB:St->ao (List L)}(aO:lc A)(aL:(e4.endLine==pos.line)=true)(aP:fO [a])
 (az:dB E D names U d A C kh) (fp:hv E D names U d [a] C iB) (kN:∀l,iB l=(d1 l).bind λx ak=>.ok [x] ak):
 dB E D names U d (.Call (.Attribute A "append" e4) [a] [] pos) C (λl=>(kh l).bind λx ak=>(opt (h5 ak x) ak).bind λo ak=>(d1 ak).bind (oQ aC x)):=λM m O J l s P=>by
 obtain⟨cZ,e⟩:=Dc (O:=O) (name:="append") aO aL aP (show 1<30 by decide)
 rw[e]
 refine a5.bind (az _ _ _ _ _ _ P) λx ak u bd b3 o bt cN bK=>.gI (.Bh λY q=>?_)
 obtain⟨n,rfl,ex⟩:=ur q
 refine aU (gK cN) λb ag q=>?_
 subst q
 refine cr (xI bt ag ex) λT q o o=>bz q λN rW=>?_
 intro aG
 refine aE (gL (getMethod_list_append rW rfl rfl ?_))
 rw[<-Ow kN] at aG |-
 exact vI (D:=D) (first:=[hq b]) (f:=.builtin "list.append") (pos:=pos) (k:=tC (oQ aC (.loc n))) aP (tk nofun) fp (P.grow bK bt) (λjr av ej ah aw S h g=>.tC (N:=λT=>call (.builtin "list.append") ([.ref b]++ T)) (λa u r=>agm S (g.get ag) r) jr ej h) aG
theorem Kv{a:L}:∀{m:List L},a∈m->∃j,j<m.length∧m[j]? =some a∧(∀N,N<j->m[N]?≠some a)∧m.erase a=m.eraseIdx j
 |x::r,h=>by
  by_cases e:x=a
  ·subst e
   exact⟨0,by simp,rfl,λN hm=>absurd hm (q8 _),by simp⟩
  ·obtain⟨j,ai,am,a6,c2⟩:=Kv (m:=r) (by rcases dU.mp h with q |q;exact absurd q.symm e;exact q)
   refine⟨j+1,by simp;omega,by exact am,λN hm=>?_,?_⟩
   ·cases N with
    |zero=>simp;exact e
    |succ N=>exact a6 N (by exact Nat.succ_lt_succ_iff.mp hm)
   ·have:(x==a)=false:=by simpa using e
    rw[List.erase_cons,this];simp[c2]
theorem br.eraseIdx{h:aV}{m:List L}{T:List ab}(r:br E J h m T)(j:Nat):br E J h (m.eraseIdx j) (T.eraseIdx j):=by
 rw[H1,H1]
 exact(r.take j).append (r.drop (j+1))
theorem agy{n:Nat}{b:aa}{x:L}{u:ab}(S:a' E J l s.heap)(ag:J[n]? =some b)(GQ:bf E J s.heap x u):a5 E D M m [] J s (call (.builtin "list.remove") [.ref b,u]) (bf E) (tI (.loc n) x l):=by
 cases x with
 |str y=>
  dsimp only[tI]
  cases fZ:l[n]? with
  |none=>exact .fail
  |some c3=>
   cases c3 with
   |list bH=>
    dsimp only
    by_cases aK:(kQ bH).isSome∧.str y∈bH
    case neg=>rw[if_neg aK];exact .fail
    rw[if_pos aK]
    obtain⟨mY,l8⟩:=aK
    obtain⟨jr,aak⟩:=zh.mp mY
    have Fm:=Fz aak
    obtain⟨⟨ty,rfl⟩,alg⟩:=jp GQ
    obtain⟨jW,⟨de,m'⟩,kg,GO⟩:=xI S ag fZ
    have dW:=GO.length
    obtain⟨j,cy,Zs,Zt,Zu⟩:=Kv l8
    have G6:∀(i:Nat)(aR:i<jW.size),∃x t,bH[i]? =some (.str x)∧jW[i]=.str x t:=λi aR=>by
     obtain⟨a,ar,c0⟩:=GO.get' (i:=i) (v:=jW[i]) (by simp[aR])
     have:a∈bH:=fG ar
     rw[Fm] at this
     obtain⟨x,_,rfl⟩:=gY.mp this
     obtain⟨⟨t,bn⟩,_⟩:=jp c0
     exact⟨x,t,ar,bn⟩
    have Av:j<jW.size:=by simp at dW;exact cf [_,_,_] 1 (Ns al) ax 1 aT ax 1 (Ns al) aT rfl (i7 dW) cy
    refine λo=>call_meets PySem.F.slot_list_remove ⟨_,m',rfl⟩ PySem.F.entry_list_remove (PySem.F.args_list_remove_2 _ _) (akz b jW de (.str y ty) (kD y) (λv ck=>?_) j Av ?_ (λi aR fJ=>?_) kg) ⟨m',?_⟩
    ·obtain⟨i,aR,rfl⟩:=Rn.mp ck
     obtain⟨x,t,_,a4⟩:=G6 i aR
     rw[a4]
     intro aH w M s aA an a7
     refine QZ ?_
     have:kD y (.str x t)=(x==y):=by simp[kD,Bool.beq_comm]
     rw[this] at a7;exact a7
    ·obtain⟨x,t,a3,a4⟩:=G6 j Av
     rw[Zs] at a3;cases a3
     rw[a4];simp[kD]
    ·obtain⟨x,t,a3,a4⟩:=G6 i aR
     rw[a4]
     have:=Zt i fJ
     rw[a3] at this
     have u0:x≠y:=λq=>this (by rw[q])
     simp[kD]
     intro q;first |exact u0 q |exact u0 q.symm
    ·have n6:hw b s.heap (s.heap.update b (lR λY=>Y.eraseIdxIfInBounds j)):=sl ..
     have adx:(s.heap.update b (lR λY=>Y.eraseIdxIfInBounds j)).PlainList b (jW.eraseIdx j Av):=⟨de+1,by
      rw[nz _ m' (by simp[lR];rfl)]
      simp[lR,Array.eraseIdxIfInBounds,Av]
      exact λkp=>nB (cf [_,_] 0 ek en 1 al ax 1 (Ns ax) al rfl (i7 kp) (fM (cf [_,_,_] 1 ek al 1 ax al 1 (Ns aT) ax rfl (i7 dW) cy)))⟩
     obtain⟨sB,Yi⟩:=PD (D:=D) (bT:=ci m) (W:=[]) S ag ⟨de,m'⟩ n6 adx (by rw[Array.size_eraseIdx];exact cf [_,_,_] 1 al ax 1 aT ax 1 al aT rfl kg (wx jW.size 1)) (bH:=bH.erase (.str y)) (by rw[Zu,Array.toList_eraseIdx];exact GO.eraseIdx j)
     exact⟨_,_,rfl,J,sB,rfl,Yi⟩
   |_=>exact .fail
 |_=>exact .fail
theorem Xl{A a:Expr}{e4 pos:bu}{kh d1:St->ao L}{iB:St->ao (List L)}(aO:lc A)(aL:(e4.endLine==pos.line)=true)(aP:fO [a])
 (az:dB E D names U d A C kh) (fp:hv E D names U d [a] C iB) (kN:∀l,iB l=(d1 l).bind λx ak=>.ok [x] ak):
 dB E D names U d (.Call (.Attribute A "remove" e4) [a] [] pos) C (λl=>(kh l).bind λx ak=>(opt (h5 ak x) ak).bind λo ak=>(d1 ak).bind (tI x)):=λM m O J l s P=>by
 obtain⟨cZ,e⟩:=Dc (O:=O) (name:="remove") aO aL aP (show 1<30 by decide)
 rw[e]
 refine a5.bind (az _ _ _ _ _ _ P) λx ak u bd b3 o bt cN bK=>.gI (.Bh λY q=>?_)
 obtain⟨n,rfl,ex⟩:=ur q
 refine aU (gK cN) λb ag q=>?_
 subst q
 refine cr (xI bt ag ex) λT q o o=>bz q λN rW=>?_
 intro aG
 refine aE (gL (getMethod_builtin ⟨_,rW,rfl⟩ PySem.F.plainAttrs_list PySem.F.slot_list_remove PySem.F.type_list_remove (λa e=>by cases e;exact⟨_,rW,rfl⟩) ?_))
 rw[<-Ow kN] at aG |-
 exact vI (D:=D) (first:=[hq b]) (f:=.builtin "list.remove") (pos:=pos) (k:=tC (tI (.loc n))) aP (tk nofun) fp (P.grow bK bt) (λjr av ej ah aw S h g=>.tC (N:=λT=>call (.builtin "list.remove") ([.ref b]++ T)) (λa u r=>agy S (g.get ag) r) jr ej h) aG
end
end Mine.Internal
namespace Mine.Internal.Tab
section
open PySem.SetTable
def wB(Y:Array Nat):Prop:=∀i j,i<j->j<Y.size->Y.getD i 0<Y.getD j 0
theorem Dq{Y:Array Nat}{j:Nat}(ba:wB Y):∀(fuel lo aR:Nat),lo<=aR->aR<=Y.size->aR-lo<=fuel->(∀i,i<lo->Y.getD i 0<j)->(∀i,aR<=i->i<Y.size->¬Y.getD i 0<j)->
 (∀i,i<Dp Y j fuel lo aR->Y.getD i 0<j)∧(∀i,Dp Y j fuel lo aR<=i->i<Y.size->¬Y.getD i 0<j)∧Dp Y j fuel lo aR<=Y.size
 |0,lo,aR,ai,am,a6,c2,fc=>by
  have:lo=aR:=h2 (b6 [_,_] 1 al ax 1 al ax rfl ai) (cf [_,_,_] 1 al ax 1 aT en 1 al (.add aT ax) rfl a6 (fW aR lo))
  subst this
  exact⟨c2,fc,am⟩
 |fuel+1,lo,aR,ai,am,a6,c2,fc=>by
  unfold Dp
  by_cases q:lo<aR
  ·rw[if_pos q]
   dsimp only
   have hm:(lo+aR)/ 2<aR:=cf [_,_,_] 2 (Ns al) ax 1 (Ns aT) ax 1 (.mulL 2 al) (.add aT ax) rfl q (ww (lo+aR) 2)
   have gE:lo<=(lo+aR)/ 2:=cf [_,_,_] 2 al ax 1 (Ns al) aT 1 (Ns (.add al aT)) (.mulL 2 (Ns ax)) rfl q (CC (lo+aR) (CG _))
   generalize (lo+aR)/ 2=mid at hm gE |-
   have:mid<Y.size:=oK hm am
   have WO:Y.getD mid j=Y.getD mid 0:=by simp[yK,this]
   refine WO▸?_
   by_cases c:Y.getD mid 0<j
   ·rw[if_pos c]
    refine Dq ba fuel (mid+1) aR (by exact SX hm) am (sm [_,_,_,_,_,_] 1 al ax 1 aT (Ns ax) 1 cs fA 1 i' (.add aT cs) 1 (.add al (Ns fA)) i' rfl a6 gE (fW aR lo) (fM (b6 [_,_] 1 (Ns al) ax 1 (Ns al) ax rfl hm))) (λi gD=>?_) fc
    by_cases e:i=mid
    ·refine e▸?_;exact c
    ·have:=ba i mid ((hg e).elim (λcT=>b6 [_,_] 1 (Ns al) ax 1 (Ns al) ax rfl cT) λcT=>cf [_,_] 0 (Ns al) ax 1 (Ns al) (Ns ax) 1 (Ns ax) al rfl gD cT) (by exact oK hm am);exact lP this c
   ·rw[if_neg c]
    refine Dq ba fuel lo mid (by omega) (cf [_,_,_] 1 al ax 1 aT ax 1 (Ns al) aT rfl am hm) (sm [_,_,_,_,_,_] 1 al ax 1 aT (Ns ax) 1 (Ns cs) fA 1 fA (.add aT i') 1 (.add al i') cs rfl a6 hm (fW aR lo) (fM (b6 [_,_] 1 al ax 1 al ax rfl gE))) c2 (λi gD aP=>?_)
    by_cases e:i=mid
    ·refine e▸?_;exact c
    ·have:=ba mid i (by exact zc gD λa=>e (id (sj a))) aP;exact λkp=>nB (gl [_,_,_] 0 ek en 1 al ax 1 (Ns ax) aT 1 (Ns aT) al rfl (gv c) this kp)
  ·rw[if_neg q]
   have:lo=aR:=h2 (b6 [_,_] 1 al ax 1 al ax rfl ai) (b6 [_,_] 1 al ax 1 al ax rfl (gv q))
   subst this
   exact⟨c2,fc,am⟩
theorem zI{Y:Array Nat}(ba:wB Y)(j:Nat):(∀i,i<h6 Y j->Y.getD i 0<j)∧(∀i,h6 Y j<=i->i<Y.size->¬Y.getD i 0<j)∧h6 Y j<=Y.size:=
 Dq ba Y.size 0 Y.size (iq _) (eN _) (by exact wx Y.size 0) (λi h=>absurd h (q8 _)) λi h ae=>absurd ae (by exact lQ.mpr h)
theorem w5{Y:Array Nat}{k j:Nat}(h:Y[k]? =some j):k<Y.size∧Y.getD k 0=j:=by
 refine bz (v2.mp h) λai am=>?_
 exact⟨ai,by simp[yK,ai,am]⟩
theorem Gc{Y:Array Nat}{k:Nat}(h:k<Y.size):Y[k]? =some (Y.getD k 0):=by simp[yK,h]
theorem wQ{Y:Array Nat}(ba:wB Y){k j:Nat}(h:Y[k]? =some j):h6 Y j=k:=by
 refine qQ (zI ba j) λez ft gf=>?_
 refine dL (w5 h) λai am=>?_
 rcases Nat.lt_trichotomy (h6 Y j) k with q |q |q
 ·have:=ba _ _ q ai
  have:=ft _ (eN _) (by exact lP q ai)
  omega
 ·exact q
 ·have:=ez k q;exact h2 (cf [_,_,_,_] 0 al ax 1 aT cs 1 (Ns cs) aT rfl (i7 am) this) (cf [_,_,_,_] 0 al ax 1 aT cs 1 (Ns cs) aT rfl (i7 am) this)
structure Good(t:hy)(n:Nat):Prop where
 dummies:t.dummies= #[]
 rise:wB t.place
 size:t.place.size=n
 mR:n<=t.mask
theorem vB{t:hy}{n:Nat}(g:Good t n){k j:Nat}(h:t.place[k]? =some j):t.slot j=.live k:=by
 dsimp only[Tm]
 refine(wQ g.rise h).symm▸?_
 simp[h]
theorem G1{t:hy}{n:Nat}(g:Good t n){j:Nat}(h:∀k:Nat,t.place[k]?≠some j):t.slot j=.empty:=by
 delta Tm o0
 have e:(t.place[h6 t.place j]?==some j)=false:=by simpa using h _
 dsimp only
 rw[e,g.dummies]
 rfl
theorem ae5{t:hy}{n:Nat}(g:Good t n)(j:Nat):(t.slot j=.empty∧∀k:Nat,t.place[k]?≠some j)∨∃k:Nat,t.slot j=.live k∧t.place[k]? =some j∧k<n:=by
 by_cases h:∃k:Nat,t.place[k]? =some j
 ·obtain⟨k,h⟩:=h
  exact .inr ⟨k,vB g h,h,by simp only[<-g.size];exact(w5 h).1⟩
 ·have ae:∀k:Nat,t.place[k]?≠some j:=λk e=>h ⟨k,e⟩
  exact .inl ⟨G1 g ae,ae⟩
noncomputable def nM(ib:Nat)(p:zl):zl:=
 if p.more>0 then {p with j:=p.j+1,more:=p.more-1} else
 let (i,perturb):=leap ib p.i p.perturb
 {p with j:=i,more:=GN ib i-i,i,perturb}
noncomputable def start(ib:Nat)(h:Int):zl:=
 let i:=uw h % (ib+1)
 {j:=i,more:=GN ib i-i,i,perturb:=uw h,dummy:=none}
noncomputable def dA(ib:Nat)(h:Int):Nat->zl
 |0=>start ib h
 |n+1=>nM ib (dA ib h n)
theorem TH(ib:Nat)(p:zl):(nM ib p).dummy=p.dummy:=by
 unfold nM
 split <;> rfl
theorem Ps(ib:Nat)(h:Int):∀n,(dA ib h n).dummy=none
 |0=>rfl
 |n+1=>by simp only[dA,TH,Ps ib h n]
def HP(ib:Nat):Prop:=∀(h:Int)(j:Nat),j<=ib->∃n,n<10*turns ib∧(dA ib h n).j=j
theorem X6{t:hy}{n:Nat}(g:Good t n)(c:HP t.mask)(h:Int):∃ap,ap<10*turns t.mask∧t.slot (dA t.mask h ap).j=.empty∧∀N,N<ap->∃k:Nat,t.place[k]? =some (dA t.mask h N).j:=by
 have free:∃j,j<=t.mask∧∀k:Nat,t.place[k]?≠some j:=by
  apply lM
  intro qn
  have qi:∀j,j<=t.mask->∃k:Nat,t.place[k]? =some j:=λj cy=>lM λq=>qn ⟨j,cy,λk e=>q ⟨k,e⟩⟩
  have sub:iM (t.mask+1)⊆ t.place.toList:=λj cy=>by
   refine bz (qi j (by have:=Cv.mp cy;exact CB this)) λk e=>?_
   exact Ro.mpr (HG e)
  have:=(List.nodup_range (n:=t.mask+1)).length_le_of_subset sub
  simp at this
  have ai:=g.size;have am:=g.mR
  exact nB (gl [_,_,_] 0 ek en 1 (Ns al) ax 1 ax aT 1 aT al rfl this (dI ai) am)
 refine aU free λj cy aG=>?_
 refine aU (c h j cy) λm7 aO e=>?_
 have P:∃ap,t.slot (dA t.mask h ap).j=.empty∧ap<=m7:=bx m7 (by refine e▸?_;exact G1 g aG) (eN _)
 have gR:∀ap,t.slot (dA t.mask h ap).j=.empty->∃cw,cw<=ap∧t.slot (dA t.mask h cw).j=.empty∧∀N,N<cw->t.slot (dA t.mask h N).j≠.empty:=by
  intro ap
  induction ap using Nat.strongRecOn with
  |_ ap aJ=>
   intro fu
   by_cases q:∃N,N<ap∧t.slot (dA t.mask h N).j=.empty
   ·refine aU q λN hm gE=>?_
    refine cr (aJ N hm gE) λcw ai am a6=>?_
    exact fK cw (by exact gv λa=>a6 ap a fu) am a6
   ·exact fK ap (eN _) fu (λN hm gE=>q ⟨N,hm,gE⟩)
 refine cr (gR m7 (by refine e▸?_;exact G1 g aG)) λap ai am a6=>?_
 refine fK ap (by exact e2 ai aO) am (λN hm=>?_)
 rcases ae5 g (dA t.mask h N).j with⟨q,_⟩| ⟨k,_,q,_⟩
 ·exact absurd q (a6 N hm)
 ·exact⟨k,q⟩
theorem OT{t:hy}{n:Nat}(g:Good t n){h:Int}{o1:Nat->Int}{ap:Nat}(fu:t.slot (dA t.mask h ap).j=.empty)(ag:∀N,N<ap->∃k:Nat,t.place[k]? =some (dA t.mask h N).j):
 ∀(fuel N:Nat),N<=ap->ap-N<fuel->(OS t o1 h fuel (dA t.mask h N)=some (.empty (dA t.mask h ap).j none)∧∀(q k:Nat),N<=q->q<ap->t.place[k]? =some (dA t.mask h q).j->o1 k≠h)∨
  ∃q k:Nat,N<=q∧q<ap∧t.place[k]? =some (dA t.mask h q).j∧o1 k=h∧OS t o1 h fuel (dA t.mask h N)=some (.candidate (dA t.mask h q).j k (dA t.mask h (q+1)))∧∀(dZ cg:Nat),N<=dZ->dZ<q->t.place[cg]? =some (dA t.mask h dZ).j->o1 cg≠h
 |0,N,ai,am=>absurd am (q8 _)
 |fuel+1,N,ai,am=>by
  dsimp only[OS]
  by_cases e:N=ap
  ·subst e
   refine fu▸?_
   exact .inl ⟨by simp[Ps],λq k b0 bO=>absurd bO (by exact lQ.mpr b0)⟩
  ·obtain⟨k,aM⟩:=ag N (by exact zc ai e)
   refine(vB g aM)▸?_
   dsimp only
   by_cases a7:o1 k=h
   ·rw[if_pos (by simpa using a7)]
    exact .inr ⟨N,k,eN _,by exact zc ai e,aM,a7,rfl,λdZ cg b0 bO=>absurd bO (by exact lQ.mpr b0)⟩
   ·rw[if_neg (by simpa using a7)]
    have only:∀cg:Nat,t.place[cg]? =some (dA t.mask h N).j->o1 cg≠h:=λcg s8=>by
     have:cg=k:=by simp only[<-wQ g.rise s8,<-wQ g.rise aM]
     refine this▸?_;exact a7
    rcases OT g fu ag (o1:=o1) fuel (N+1) ((hg e).elim (λcT=>b6 [_,_] 1 (Ns al) ax 1 (Ns al) ax rfl cT) λcT=>cf [_,_] 0 (Ns al) ax 1 al ax 1 (Ns ax) al rfl ai cT) ((hg e).elim (λcT=>gl [_,_,_,_,_] 1 (Ns al) ax 1 (Ns aT) (Ns ax) 1 cs (.add aT fA) 1 (.add al (Ns fA)) cs rfl am (fW ap N) (fM (b6 [_,_] 1 (Ns al) ax 1 (Ns al) ax rfl cT))) λcT=>cf [_,_,_,_] 0 (Ns al) ax 1 aT cs 1 (Ns cs) aT rfl ai cT) with⟨eu,eK⟩| ⟨q,cg,b0,bO,eJ,gH,kl,qD⟩
    ·refine .inl ⟨eu,λq cg a b c=>?_⟩
     by_cases z:q=N
     ·cases z;exact only cg c
     ·exact eK q cg (by lia) b c
    ·refine .inr ⟨q,cg,by exact oJ b0,bO,eJ,gH,kl,λdZ g8 a b c=>?_⟩
     by_cases z:dZ=N
     ·cases z;exact only g8 c
     ·exact qD dZ g8 (by lia) b c
theorem pa{α:Type}{Y:Array α}{p:Nat}{x:α}(aL:p<=Y.size)(i:Nat):(j1 Y p x)[i]? =if i<p then Y[i]? else if i=p then some x else Y[i-1]? :=by
 (refine(lK)▸?_;rw[IN])
 have aN:(Y.toList.take p).length=p:=by simp;exact SN aL
 by_cases ai:i<p
 ·rw[if_pos ai,jv (by simp only[aN];exact ai),Sp ai,lK]
 ·rw[if_neg ai,Sm (by exact cf [_,_,_] 1 al ax 1 al aT 1 aT ax rfl (dI aN) (gv ai)),aN]
  by_cases am:i=p
  ·rw[if_pos am,am];simp
  ·rw[if_neg am]
   obtain⟨d,rfl⟩:∃d,i=p+1+d:=⟨i-p-1,by grind⟩
   have:p+1+d-p=d+1:=h2 (b6 [_,_,_] 1 al (Ns ax) 1 (.add al aT) (.add (Ns aT) ax) rfl (fM (hJ [_,_] al (.add (Ns al) ax) rfl))) (b6 [_,_,_] 1 (Ns al) ax 1 (.add (Ns aT) al) (.add ax aT) rfl (fW (p+1+d) p))
   simp only[this,List.getElem?_cons_succ,List.getElem?_drop,lK]
   congr 1;exact sj (Nat.succ_add_sub_one d p)
theorem u7{α:Type}{Y:Array α}{p:Nat}{x:α}(aL:p<=Y.size):(j1 Y p x).size=Y.size+1:=by
 rw[<-t2,IN]
 simp;lia
theorem OX{t:hy}{n j:Nat}(g:Good t n)(cy:∀k:Nat,t.place[k]?≠some j)(aO:n<t.mask):Good (t.put j).1 (n+1)∧(t.put j).1.mask=t.mask∧(t.put j).2<=n∧(t.put j).1.place=j1 t.place (t.put j).2 j∧
 (t.put j).1.plain=t.plain∧(t.put j).1.led=t.led∧(t.put j).1.moves=t.moves∧(t.put j).1.finger=t.finger:=by
 refine qQ (zI g.rise j) λez ft gf=>?_
 have hd:(t.put j).1.dummies= #[]:=by
  unfold put
  dsimp only
  refine(g.dummies).symm▸?_
  rfl
 refine⟨⟨hd,?_,?_,aO⟩,rfl,by simp only[<-g.size];exact gf,rfl,rfl,rfl,rfl,rfl⟩
 ·show wB (j1 t.place (h6 t.place j) j)
  intro a b jK ag
  rw[u7 gf] at ag
  have K6:∀i,i<t.place.size+1->(j1 t.place (h6 t.place j) j).getD i 0=if i<h6 t.place j then t.place.getD i 0 else if i=h6 t.place j then j else t.place.getD (i-1) 0:=λi aR=>by
   have e:=pa (x:=j) gf i
   have gD:i<(j1 t.place (h6 t.place j) j).size:=by rw[u7 gf];exact aR
   have inj:∀v:Nat,(j1 t.place (h6 t.place j) j)[i]? =some v->(j1 t.place (h6 t.place j) j).getD i 0=v:=λv ck=>(w5 ck).2
   by_cases c:i<h6 t.place j
   ·rw[if_pos c] at e |-;exact inj _ (e.trans (Gc (by exact oK c gf)))
   ·rw[if_neg c] at e |-
    by_cases d3:i=h6 t.place j
    ·rw[if_pos d3] at e |-;exact inj _ e
    ·rw[if_neg d3] at e |-;exact inj _ (e.trans (Gc (by grind)))
  simp only[K6 a (by exact lP jK ag),K6 b ag]
  have sW:∀i,h6 t.place j<=i->i<t.place.size->j<t.place.getD i 0:=λi ai am=>by
   have a6:=ft i ai am
   have c2:t.place.getD i 0≠j:=λe=>cy i (by simp only[Gc am,e])
   exact(hg c2).elim (λcT=>cf [_,_] 0 (Ns al) ax 1 al ax 1 (Ns ax) al rfl (gv a6) cT) λcT=>b6 [_,_] 1 (Ns al) ax 1 (Ns al) ax rfl cT
  by_cases dO:b<h6 t.place j
  ·(rw[if_pos (by exact lP jK dO)];refine(if_pos dO)▸?_);exact g.rise a b jK (by exact oK dO gf)
  ·rw[if_neg dO]
   by_cases d3:b=h6 t.place j
   ·rw[if_pos d3,if_pos (by omega)];exact ez a (by omega)
   ·rw[if_neg d3]
    by_cases h7:a<h6 t.place j
    ·rw[if_pos h7]
     have:=ez a h7
     have:=sW (b-1) ((hg d3).elim (λcT=>cf [_,_,_] 0 al ax 1 al aT 1 (Ns aT) al rfl (gv dO) cT) λcT=>cf [_,_,_] 1 al ax 1 (Ns al) aT 1 aT (Ns ax) rfl cT (fW b 1)) (by omega)
     exact lP (ez a h7) this
    ·rw[if_neg h7]
     by_cases nT:a=h6 t.place j
     ·rw[if_pos nT];exact sW (b-1) (gl [_,_,_,_] 1 al ax 1 (Ns aT) cs 1 al aT 1 cs (Ns ax) rfl jK (gv h7) (fW b 1)) (cf [_,_,_] 1 (Ns al) ax 1 (Ns aT) (Ns ax) 1 (Ns al) aT rfl ag (fM (b6 [_,_] 1 ek al 1 (Ns ax) al rfl jK)))
     ·rw[if_neg nT];exact g.rise (a-1) (b-1) ((hg d3).elim (λcT=>cf [_,_,_,_] 0 (Ns al) ax 1 aT cs 1 (Ns cs) aT rfl (gv dO) cT) λcT=>(hg nT).elim (λhe=>cf [_,_,_,_] 0 (Ns al) ax 1 aT cs 1 (Ns cs) aT rfl (gv h7) he) λhe=>gl [_,_,_,_] 1 (Ns al) ax 1 (Ns aT) cs 1 cs (Ns ax) 1 (Ns al) aT rfl jK (fW b 1) (fM (b6 [_,_] 1 ek al 1 (Ns ax) al rfl he))) (by omega)
 ·show(j1 t.place (h6 t.place j) j).size=n+1
  rw[u7 gf,g.size]
def zk(t:hy)(af:Array (Int×ab)):Prop:=∀(i:Nat)(h:Int)(x:ab),af[i]? =some (h,x)->∃n,t.place[i]? =some (dA t.mask h n).j∧∀N,N<n->∃k:Nat,t.place[k]? =some (dA t.mask h N).j
theorem adS{t:hy}{af:Array (Int×ab)}{h:Int}{x:ab}{ap:Nat}(g:Good t af.size)(p:zk t af)(fu:∀k:Nat,t.place[k]?≠some (dA t.mask h ap).j)(ag:∀N,N<ap->∃k:Nat,t.place[k]? =some (dA t.mask h N).j)(aO:af.size<t.mask):
 zk (t.put (dA t.mask h ap).j).1 (j1 af (t.put (dA t.mask h ap).j).2 (h,x)):=by
 refine ahQ (OX g fu aO) λfB nY aL a0 o=>?_
 generalize cy:(dA t.mask h ap).j=j at *
 have n5:(t.put j).2<=t.place.size:=by simp only[g.size];exact aL
 have old:∀y,(∃k:Nat,t.place[k]? =some y)->∃k:Nat,(t.put j).1.place[k]? =some y:=λy⟨k,aM⟩=>by
  refine a0▸?_
  by_cases c:k<(t.put j).2
  ·exact⟨k,by rw[pa n5,if_pos c];exact aM⟩
  ·exact⟨k+1,by rw[pa n5,if_neg (by exact λkp=>nB (cf [_,_] 0 ek en 1 al ax 1 (Ns (Ns ax)) al rfl (gv c) kp)),if_neg (by exact λkp=>nB (cf [_,_] 0 ek en 1 al ax 1 (Ns ax) al rfl (gv c) (dI kp)))];exact aM⟩
 intro i ae nr aR
 rw[pa aL] at aR
 refine(nY).symm▸?_
 by_cases dO:i<(t.put j).2
 ·rw[if_pos dO] at aR
  refine ge λdT cD=>?_
  refine aU (p i ae nr aR) λn ai am=>?_
  refine cD ?_
  clear cD dT
  exact bx n (by rw[a0,pa n5,if_pos dO];exact ai) (λN hm=>old _ (am N hm))
 ·replace aR:=(if_neg dO)▸aR
  by_cases d3:i=(t.put j).2
  ·replace aR:=(if_pos d3)▸aR
   cases aR
   exact bx ap (by rw[a0,pa n5,if_neg dO,if_pos d3,cy]) (λN hm=>old _ (ag N hm))
  ·rw[if_neg d3] at aR
   refine aU (p (i-1) ae nr aR) λn ai am=>?_
   exact bx n (by rw[a0,pa n5,if_neg dO,if_neg d3];exact ai) (λN hm=>old _ (am N hm))
theorem yd(h:Int):∀n,(dA 7 h n).more=0∧(dA 7 h n).j=(dA 7 h n).i∧(dA 7 h n).i<8∧(dA 7 h n).perturb=uw h/32^n
 |0=>by
  refine(?_:(start 7 h).more=0∧(start 7 h).j=(start 7 h).i∧(start 7 h).i<8∧(start 7 h).perturb=_)
  delta start GN
  have:uw h % (7+1)< 8:=CF _ (by decide)
  refine⟨?_,rfl,this,by simp⟩
  exact SW (uw h % (7+1))
 |n+1=>by
  refine tZ (yd h n) λai am a6 c2=>?_
  refine(?_:(nM 7 (dA 7 h n)).more=0∧(nM 7 (dA 7 h n)).j=(nM 7 (dA 7 h n)).i∧(nM 7 (dA 7 h n)).i<8∧(nM 7 (dA 7 h n)).perturb=_)
  dsimp only[nM]
  rw[if_neg (by exact Std.Rxo.size_eq_zero_iff_not_le.mp ai)]
  delta leap GN
  dsimp only
  have:((dA 7 h n).i*5+1+(dA 7 h n).perturb/32)% (7+1)< 8:=CF _ (by decide)
  refine⟨?_,rfl,this,?_⟩
  ·exact SW (((dA 7 h n).i*5+1+(dA 7 h n).perturb/32)% (7+1))
  ·simp only[c2,Nat.div_div_eq_div_mul,Nat.pow_succ]
theorem afJ(h:Int)(n:Nat):(dA 7 h (n+1)).i=((dA 7 h n).i*5+1+(dA 7 h n).perturb/32)% 8:=by
 refine tZ (yd h n) λai am a6 c2=>?_
 refine(?_:(nM 7 (dA 7 h n)).i=_)
 dsimp only[nM]
 rw[if_neg (by exact λkp=>nB (cf [_] 0 ek en 1 al en 1 (Ns en) al rfl (dI ai) kp))]
 rfl
theorem UE(h:Int):uw h<2^64:=by
 unfold uw
 have:=R2 h (show(0:Int)< 2^64 by decide)
 have:=R3 h (show(2^64:Int)≠0 by decide)
 lia
theorem abz(h:Int)(n:Nat)(aO:13<=n):(dA 7 h n).perturb=0:=by
 rw[(yd h n).2.2.2]
 refine Nat.div_eq_of_lt (oK (UE h) ?_)
 calc 2^64<=32^13:=by decide
  _<=32^n:=Iv (by decide) aO
noncomputable def D0(ib:Nat):Nat->Nat->Nat
 |0,i=>i
 |n+1,i=>(D0 ib n i*5+1)% (ib+1)
theorem V':∀i,i<8->∀j,j<8->∃n,n<8∧D0 7 n i=j:=by decide +kernel
theorem V7:HP 7:=λh j cy=>by
 have e:∀n,(dA 7 h (13+n)).i=D0 7 n (dA 7 h 13).i:=λn=>by
  induction n with
  |zero=>rfl
  |succ n aJ=>
   refine(?_:(dA 7 h ((13+n)+ 1)).i=_)
   rw[afJ,abz h (13+n) (by exact pQ 13 n),aJ]
   rfl
 refine aU (V' (dA 7 h 13).i (yd h 13).2.2.1 j (by exact zd cy)) λn aO q=>?_
 exact bx (13+n) (by unfold turns;exact b6 [_] 1 (Ns (.add (.num 13) al)) (.mulL 10 (.add (.num 7) (.num 15))) 1 (Ns al) (.num 8) rfl aO) (by rw[(yd h _).2.1,e,q])
end
end Mine.Internal.Tab
namespace Mine.Internal
section
open Mine.Internal.Tab
section
variable{M:cv}{aA:ab->ay->Prop}{s:ay}
abbrev hp(h:aV)(k:List L)(c:aa):Prop:=HU (lY) h k c
noncomputable abbrev ie(k:List L):Int:=tupleKeyHash (lY) k
theorem acY(n:Nat){v:ab}(h:Vy v=true):Om n v=pure false:=by
 cases n <;> cases v <;> first |rfl |cases h
theorem Q3{aY:List L}{a:aa}{an:Bool->ay->Prop}(aM:hp s.heap aY a)(h:an false s):a9 (a1 aH w) M (Om 8 (.ref a)) an aA s:=by
 have d4:=aM.typeIs
 refine py aM λA dm n az o hd aR=>?_
 unfold Om
 refine aE (vU d4 ?_)
 refine(?_:a9 _ _ ((if ("tuple" == "tuple")=true then pure true else isSubtype (.type "tuple") (.type "tuple"))>>= _) _ _ _)
 refine aE (bj ?_)
 refine aE (Hr az hd ?_)
 refine aE ?_
 rw[<-Rl]
 refine ahw _ (λcu r ah=>r.1=none∧ah=s∧∀v∈cu,Vy v=true) _ ?_ ?_ _ _ ⟨rfl,rfl,aR.byValue⟩
 ·rintro v cu r ah ⟨ba,rfl,qi⟩
  refine(acY _ (qi v y8)).symm▸?_
  refine aE (bj ?_)
  exact bj ⟨rfl,rfl,λu aaf=>qi u (Sw _ aaf)⟩
 ·rintro⟨eu,eK⟩ ah ⟨ba,rfl,_⟩
  simp only at ba
  subst ba
  exact bj h
theorem ahN{k:List L}{c:aa}{bH:List ab}{an:Bool->ay->Prop}(aD:hp s.heap k c)(bD:∀y∈bH,∃b cg,y=.ref b∧hp s.heap cg b)(h:an false s):
 a9 (a1 aH w) M (aeA (.ref c) bH) an aA s:=by
 refine aE ?_
 refine ahw _ (λcu r ah=>r.1=none∧ah=s∧∀v∈cu,∃b cg,v=.ref b∧hp s.heap cg b) _ ?_ ?_ _ _ ⟨rfl,rfl,bD⟩
 ·rintro v cu r ah ⟨ba,rfl,qi⟩
  refine k5 (qi v y8) λb cg ah8 ag=>?_
  subst ah8
  have pl:∀v∈cu,∃b cg,v=.ref b∧hp ah.heap cg b:=λu eB=>qi u (Sw _ eB)
  dsimp only
  split
  ·exact bj ⟨rfl,rfl,pl⟩
  ·refine aE (ahu aD ?_)
   refine aE (ahu ag ?_)
   refine aE (Q3 aD ?_)
   refine aE (Q3 ag ?_)
   exact bj ⟨rfl,rfl,pl⟩
 ·rintro⟨eu,eK⟩ ah ⟨ba,rfl,_⟩
  simp only at ba
  subst ba
  exact bj h
def oD(h:aV)(af:Array (Int×ab))(bl:List (List L)):Prop:=
 bl.length=af.size∧∀(i:Nat)(k:List L),bl[i]? =some k->∃c,af[i]? =some (ie k,.ref c)∧hp h k c
theorem oD.at_{h:aV}{af:Array (Int×ab)}{bl:List (List L)}(x:oD h af bl){i:Nat}(aR:i<af.size):∃k c,bl[i]? =some k∧af[i]? =some (ie k,.ref c)∧hp h k c:=by
 refine dL x λai am=>?_
 have:i<bl.length:=by exact SM aR (id (sj ai))
 refine bz (am i bl[i] (lN this)) λc q=>?_
 exact qx _ c (lN this) q
theorem ru{t:hy}{n:Nat}(g:Good t n):t.fits n=true:=by
 delta akJ Tl
 simp only[g.size,g.dummies]
 simpa using g.mR
section
variable{a:aa}{A:cV}{af:Array (Int×ab)}{a0:Nat}{t:hy}{x:ab}{y:aa}{h:Int}{fuel:Nat}{st:Option IM}{an:IL->ay->Prop}
theorem afy{j:Nat}(az:s.heap.get? a=some A)(hd:A.data=.set af a0 t)(aG:t.fits af.size=true)(F4:t.gaveWay=false)(aL:t.probe (λi=>(af[i]?.map (·.1)).getD 0) h (st.getD (t.probeStart h))=some (.empty j none))(a7:an (.free j false) s):a9 (a1 aH w) M (vz a x h true (fuel+1) st) an aA s:=by
 refine aE (nn az hd aG (BV (by rw[F4];rfl) ?_))
 generalize n1:t.probe _ h _=r
 cases n1.symm.trans aL
 exact bj a7
theorem afx{j i:Nat}{next:IM}{bD:Int}{b:Bool}(az:s.heap.get? a=some A)(hd:A.data=.set af a0 t)(aG:t.fits af.size=true)(F4:t.gaveWay=false)(aL:t.probe (λi=>(af[i]?.map (·.1)).getD 0) h (st.getD (t.probeStart h))=some (.candidate j i next))(aR:af[i]? =some (bD,.ref y))(xt:t.slot j=.live i)
 (Z9:∀an:Bool->ay->Prop,an false s->a9 (a1 aH w) M (aeA x ((af.filter (·.1==h)).toList.map (·.2))) an aA s) (Zh:∀an:Bool->ay->Prop,an b s->a9 (a1 aH w) M (eqBool (.ref y) x) an aA s)
 (ai:b=true->an (.there none) s) (am:b=false->a9 (a1 aH w) M (vz a x h true fuel (some next)) an aA s):a9 (a1 aH w) M (vz a x h true (fuel+1) st) an aA s:=by
 refine aE (nn az hd aG (BV (by rw[F4];rfl) ?_))
 generalize n1:t.probe _ h _=r
 cases n1.symm.trans aL
 have go:a9 (a1 aH w) M (do
  let some (_,y):=af[i]? |unsupported "internal:set-entry"
  let Kt <-holding [y] (eqBool y x)
  let (kI,_,c9)<-setState a
  if true&&Kt then return .there none
  let some same:=c9.sameMemory t.moves t.mask |unsupported "set.changed-during-lookup:is-the-new-block-at-the-old-address"
  let afK <-match (if same then c9.slot j else .empty) with
   |.live n9=>match kI[n9]? with
    |some (_,t0)=>do pure (if <-isSame t0 y then some n9 else none)
    |none=>pure none
   |_=>pure none
  match afK with
  |none=>rule "set.search.anew";vz a x h true fuel none
  |some n9=>if Kt then return .there (some n9) else vz a x h true fuel (some next)) an aA s:=by
  rw[aR]
  refine aE (gL (Zh _ (aE (nn az hd aG ?_))))
  cases b with
  |true=>exact bj (ai rfl)
  |false=>
   have mX:isSame (.ref y) (.ref y)=pure true:=by unfold isSame;simp
   have Z7:t.sameMemory t.moves t.mask=some true:=by unfold akM;simp
   simp only[Z7,if_true,xt,aR]
   exact aE (sa mX (aE (bj (am rfl))))
 dsimp only
 split
 ·exact aE (Z9 _ go)
 ·exact go
end
theorem Pq{a c:aa}{A:cV}{af:Array (Int×ab)}{a0:Nat}{t:hy}{bl:List (List L)}{k:List L}{ap:Nat}{an:IL->ay->Prop}(az:s.heap.get? a=some A)(hd:A.data=.set af a0 t)(g:Good t af.size)(kZ:zk t af)(cJ:oD s.heap af bl)(aM:hp s.heap k c)(eB:M.units<hO)(LY:t.mask % 2=1)
 (fu:t.slot (dA t.mask (ie k) ap).j=.empty) (ag:∀N,N<ap->∃i:Nat,t.place[i]? =some (dA t.mask (ie k) N).j) (Lk:ap<10*IP t.mask)
 (s7:k∈bl->an (.there none) s) (ls:k∉bl->an (.free (dA t.mask (ie k) ap).j false) s):∀(fuel N:Nat)(st:Option IM),N<=ap->ap-N<fuel->st.getD (t.probeStart (ie k))=dA t.mask (ie k) N->
 (∀(q i:Nat),q<N->t.place[i]? =some (dA t.mask (ie k) q).j->bl[i]?≠some k)->a9 (a1 aH w) M (vz a (.ref c) (ie k) true fuel st) an aA s
 |0,N,st,ai,am,_,_=>absurd am (q8 _)
 |fuel+1,N,st,ai,am,mY,d5=>by
  have NX:t.gaveWay=false:=by unfold akK;rw[beq_eq_false_iff_ne];exact Nat.mod_two_ne_zero.mpr LY
  rcases OT g (h:=ie k) (o1:=λi=>(af[i]?.map (·.1)).getD 0) fu ag (10*IP t.mask) N ai (Nat.sub_lt_of_lt Lk) with⟨eu,eK⟩| ⟨q,i,b0,bO,eJ,gH,kl,qD⟩
  ·refine afy az hd (ru g) NX (mY▸eu) (ls λl8=>?_)
   refine bz (pK l8) λi aR=>?_
   refine aU (cJ.2 i k aR) λb a4 o=>?_
   refine aU (kZ i _ _ a4) λn cK el=>?_
   have ZK:n<ap:=lb λz=>by
    rcases Nat.lt_or_eq_of_le z with z |z
    ·refine bz (el ap z) λn9 cm=>?_
     rw[vB g cm] at fu;cases fu
    ·rw[z,vB g cK] at fu;cases fu
   by_cases z:n<N
   ·exact d5 n i z cK aR
   ·exact eK n i (gv z) ZK cK (by show(af[i]?.map (·.1)).getD 0=_;rw[a4];rfl)
  ·refine eL (cJ.at_ (by rw[<-g.size];exact(w5 eJ).1)) λcg b lr uW Zw=>?_
   refine afx (b:=decide (cg=k)) az hd (ru g) NX (mY▸kl) uW (vB g eJ) (λan cY=>ahN aM (λy bD=>?_) cY) (λan cY=>wpAny_eqBool_tuple eB Zw aM cY) (λe=>s7 (of_decide_eq_true e▸fG lr)) λe=>Pq az hd g kZ cJ aM eB LY fu ag Lk s7 ls fuel (q+1) (some (dA t.mask (ie k) (q+1))) bO (sm [_,_,_,_,_,_] 1 (Ns al) ax 1 (Ns aT) (Ns ax) 1 cs fA 1 i' (.add aT cs) 1 (.add al (Ns fA)) i' rfl am b0 (fW ap N) (fM (b6 [_,_] 1 (Ns al) ax 1 (Ns al) ax rfl bO))) rfl λdZ n9 Z1 cm a4=>?_
   ·refine aU (gY.mp bD) λe bw z=>?_
    subst z
    obtain⟨j,cy,mQ⟩:=Rn.mp (Array.mem_filter.mp (Ro.mp bw)).1
    refine eL (cJ.at_ cy) λg8 j7 o a4 cI=>?_
    rw[yM cy] at a4
    rw[<-mQ,dq a4]
    exact⟨j7,g8,rfl,cI⟩
   ·by_cases z:dZ<N
    ·exact d5 dZ n9 z cm a4
    ·by_cases i3:dZ=q
     ·subst i3
      cases (wQ g.rise cm).symm.trans (wQ g.rise eJ)
      cases lr.symm.trans a4
      exact of_decide_eq_false e rfl
     ·refine aU (cJ.2 n9 k a4) λft eV o=>?_
      exact qD dZ n9 (gv z) (zc (CB Z1) i3) cm (by show(af[n9]?.map (·.1)).getD 0=_;rw[eV];rfl)
end
end
section
open Mine.Internal.Tab
noncomputable def jz(w:i9):Bool:=w.params.followText "set-order"
theorem tY{M:cv}{aA:ab->ay->Prop}{s:ay}{an:Bool->ay->Prop}(h:an (jz w) s):a9 (a1 aH w) M setsByText an aA s:=by
 unfold setsByText
 exact aE (vS (bj h))
structure kz(cP:aa->Prop)(h:aV)(a:aa)(aY:List (List L)):Prop where
 at_:∃A af a0 t,h.get? a=some A∧A.ExactSet∧A.data=.set af a0 t∧Good t af.size∧t.mask=7∧zk t af∧oD h af aY∧(af.size=0∨t.plain=false)∧t.led=(!jz w)∧∀(i:Nat)(x:Int×ab),af[i]? =some x->∃c,x.2=.ref c∧¬cP c
 mR:aY.length<=4
 nodup:aY.Nodup
 len:∀k∈aY,k.length<=e7
section
variable{M:cv}{aA:ab->ay->Prop}{s:ay}{cP:aa->Prop}
theorem hp.Oa{h:aV}{k:List L}{c a:aa}{A:cV}(x:hp h k c)(az:h.get? a=some A)(aD:A.ExactSet):c≠a:=by
 rintro rfl
 refine jq x λch dm n eA aK o=>?_
 rw[az] at eA;cases eA;rw[aD.1] at aK;nomatch aK
theorem hp.at'{h ae:aV}{k:List L}{c:aa}(x:hp h k c)(e:∀A,h.get? c=some A->ae.get? c=some A):hp ae k c:=by
 refine k7 x λch dm n eA r=>?_
 exact tq ch dm n (e ch eA) r
theorem kz.keep{h ae:aV}{a:aa}{aY:List (List L)}(x:kz cP h a aY)(e:∀b A,b≠a->(A.cls=.type "tuple")->h.get? b=some A->ae.get? b=some A)(b7:∀A,h.get? a=some A->ae.get? a=some A):kz cP ae a aY:=by
 refine ge λdT cD=>?_
 obtain⟨⟨A,af,a0,t,az,aD,hd,g,hm,p,cJ,cZ,ld,hT⟩,ai,am,a6⟩:=x
 refine cD ?_
 clear cD dT
 refine⟨⟨A,af,a0,t,b7 A az,aD,hd,g,hm,p,⟨cJ.1,λi k aR=>?_⟩,cZ,ld,hT⟩,ai,am,a6⟩
 refine aU (cJ.2 i k aR) λc b0 bO=>?_
 have d5:=hp.Oa bO az aD
 refine jq bO λch dm n eA gq r=>?_
 exact bx c b0 ⟨ch,dm,n,e c ch d5 gq eA,gq,r⟩
theorem YN{k:List L}{x:I}{r:List L}{c:aa}{an:Bool->ay->Prop}(aM:hp s.heap k c)(d5:k=.str x::r)(h:an false s):a9 (a1 aH w) M (YM 8 (.ref c)) an aA s:=by
 have d4:=aM.typeIs
 refine py aM λA dm n az o hd aR=>?_
 subst d5
 refine aE (Hs d4 PySem.F.slot_tuple_hash.lookup ?_)
 refine aE (Hr az hd ?_)
 refine(?_:a9 _ _ (forIn dm _ _ >>= _) _ _ _)
 rw[<-Rl]
 generalize dm.toList=T at aR
 cases aR with
 | @cons _ v _ jW ai am=>
  cases nN (k:=.str x) ai with
  |str _ t=>
   dsimp only[wk]
   refine aE ?_
   exact bj (bj h)
theorem aev{a c:aa}{A:cV}{af:Array (Int×ab)}{a0 j:Nat}{t:hy}{H:Int}{CN zj:Prop}{an:Bool->ay->Prop}(az:s.heap.get? a=some A)(hd:A.data=.set af a0 t)(aG:t.fits af.size=true)
 (Z8:∀ir:IL->ay->Prop,(CN->ir (.there none) s)->(zj->ir (.free j false) s)->a9 (a1 aH w) M (vz a (.ref c) H true 100000 none) ir aA s)
 (E':∀ir:Bool->ay->Prop,ir false s->a9 (a1 aH w) M (YM 8 (.ref c)) ir aA s)
 (aZ:zj->(j1 af (t.put j).2 (H,.ref c)).size<=e7∧({(t.put j).1 with plain:=false}:hy).tooFull=false)
 (ai:CN->an false s) (am:zj->an true {s with heap:=s.heap.update a (IB (j1 af (t.put j).2 (H,.ref c)) {(t.put j).1 with plain:=false})}):a9 (a1 aH w) M (setAddHashed a (.ref c) H) an aA s:=by
 refine gL (aE (nn az hd aG (BV rfl (aE (Z8 _ (λq=>bj (ai q)) λq=>?_)))))
 refine aE (nn az hd aG ?_)
 dsimp only
 generalize t.put j=i1 at aZ am |-
 obtain⟨jo,pos⟩:=i1
 dsimp only at aZ am |-
 have fI:∀gT:hy,gT={jo with plain:=false}->a9 (a1 aH w) M (do
  storeSet a (j1 af pos (H,.ref c)) gT
  if (!false&&gT.tooFull)=true then do
   setRelay a (akL (af.size+1))
   pure true
  else pure true) an aA s:=λgT iW=>by
  subst iW
  refine aE (wpAny_storeSet_of az hd ?_ (aZ q).1)
  exact BV (by simp[(aZ q).2]) (bj (am q))
 cases ta:jo.plain with
 |true=>
  refine wpAny_ite_true (by simp[ta]) (aE (E' _ ?_))
  exact fI _ rfl
 |false=>
  refine BV (by simp[ta]) (aE (bj ?_))
  refine fI _ ?_
  cases jo;subst ta;rfl
theorem aaX{α:Type}(aY:List α)(k:α){pos:Nat}(E9:pos<=aY.length)(i:Nat):(aY.take pos++k::aY.drop pos)[i]? =if i<pos then aY[i]? else if i=pos then some k else aY[i-1]? :=by
 have:=pa (Y:=aY.toArray) (x:=k) (p:=pos) (by simpa using E9) i
 rw[<-lK,IN] at this
 simpa using this
theorem Mz{α:Type}(aY:List α)(k:α)(pos:Nat):List.Perm (aY.take pos++k::aY.drop pos) (k::aY):=by
 have:=Sy (a:=k) (l₁:=aY.take pos) (l₂:=aY.drop pos)
 rwa [Sz] at this
theorem aaW{α:Type}{P:Nat->α->Prop}{Y:Array α}{x:α}{pos:Nat}(aL:pos<=Y.size)(h:∀(i:Nat)(y:α),Y[i]? =some y->∀n,P n y)(aD:∀n,P n x)(i:Nat)(y:α)(e:(j1 Y pos x)[i]? =some y):P i y:=by
 rw[pa aL] at e
 by_cases dO:i<pos
 ·rw[if_pos dO] at e;exact h _ _ e _
 ·rw[if_neg dO] at e
  by_cases d3:i=pos
  ·rw[if_pos d3] at e;cases e;exact aD _
  ·rw[if_neg d3] at e;exact h _ _ e _
theorem oD.put{h ae:aV}{af:Array (Int×ab)}{aY:List (List L)}{k:List L}{c:aa}{pos:Nat}(cJ:oD h af aY)(aL:pos<=af.size)(aM:hp h k c)(up:∀cg b,hp h cg b->hp ae cg b):
 oD ae (j1 af pos (ie k,.ref c)) (aY.take pos++k::aY.drop pos):=by
 refine⟨by rw[(Mz aY k pos).length_eq,u7 aL,ks,cJ.1],λi cg aR=>?_⟩
 rw[aaX aY k (by rw[cJ.1];exact aL)] at aR
 rw[pa aL]
 by_cases dO:i<pos
 ·rw[if_pos dO] at aR |-
  exact aU (cJ.2 i cg aR) λb b0 bO=>⟨b,b0,up _ _ bO⟩
 ·rw[if_neg dO] at aR |-
  by_cases d3:i=pos
  ·rw[if_pos d3] at aR |-
   cases aR
   exact⟨c,rfl,up _ _ aM⟩
  ·rw[if_neg d3] at aR |-
   exact aU (cJ.2 (i-1) cg aR) λb b0 bO=>⟨b,b0,up _ _ bO⟩
theorem aeK{a c:aa}{aY:List (List L)}{k:List L}{x:I}{r:List L}{an:Bool->ay->Prop}(eB:M.units<hO)(R:kz cP s.heap a aY)(aM:hp s.heap k c)(d5:k=.str x::r)(aN:k.length<=e7)(hT:¬cP c)(aG:k∉aY->aY.length<4)
 (h:∀ae bE tm b,kz cP ae a tm->(∀y,y∈tm↔y∈aY∨y=k)->hw a s.heap ae->an b {s with heap:=ae,toks:=bE}):a9 (a1 aH w) M (setAdd a (.ref c)) an aA s:=by
 refine gL (aE (wpAny_pyHash_tuple eB aM ?_))
 generalize s.toks+(k.length+1)=bE
 have gZ:=R
 refine ge λdT cD=>?_
 obtain⟨⟨A,af,a0,t,az,aD,hd,g,hm,p,cJ,cZ,ld,acq⟩,ai,am,a6⟩:=R
 refine cD ?_
 clear cD dT
 refine cr (X6 g (by rw[hm];exact V7) (ie k)) λap d9 eb qz=>?_
 have N9:∀i:Nat,t.place[i]?≠some (dA t.mask (ie k) ap).j:=λi e=>by rw[vB g e] at eb;cases eb
 have all:=λls:k∉aY=>OX g N9 (show af.size<t.mask by rw[hm,<-cJ.1];exact lP (aG ls) (by decide))
 refine aev (s:={s with toks:=bE}) (CN:=k∈aY) (zj:=k∉aY) az hd (ru g)
  (λir bW ct=>Pq (s:={s with toks:=bE}) az hd g p cJ aM eB (by rw[hm]) eb qz d9 bW ct 100000 0 none (iq _) (have:IP t.mask=22:=(by rw[hm];rfl);cf [_,_] 1 (Ns al) (.num 100000) 1 (Ns al) (.mulL 10 ax) 10 ax (.num 22) rfl d9 (dI this)) rfl λq i a7=>absurd a7 (q8 _))
  (λir q=>YN (s:={s with toks:=bE}) aM d5 q) (λls=>?_) (λs7=>h s.heap bE aY false gZ (λy=>⟨.inl,λq=>q.elim id λe=>e▸s7⟩) (akm a s.heap)) λls=>?_
 ·refine B0 (all ls) λfB nY aL o o o o o=>?_
  have LG:af.size<4:=by rw[<-cJ.1];exact aG ls
  refine⟨by rw[u7 aL];simp only[jU];exact b6 [_] 1 (Ns al) (.num 16777216) 1 (Ns al) (.num 4) rfl LG,?_⟩
  delta akN Tl
  simp only[fB.size,fB.dummies,nY.trans hm]
  simp;exact b6 [_] 1 (Ns (.mulR (Ns al) 5)) (.num 21) 5 (Ns al) (.num 4) rfl LG
 ·refine B0 (all ls) λfB nY aL ak0 a3 a4 cI eV=>?_
  have pp:=adS g p N9 qz (show af.size<t.mask by rw[hm,<-cJ.1];exact lP (aG ls) (by decide)) (x:=.ref c)
  have perm:=Mz aY k (t.put (dA t.mask (ie k) ap).j).2
  have aP:=sl s.heap a (IB (j1 af (t.put (dA t.mask (ie k) ap).j).2 (ie k,hq c)) {(t.put (dA t.mask (ie k) ap).j).1 with plain:=false})
  have dR:=nz (IB (j1 af (t.put (dA t.mask (ie k) ap).j).2 (ie k,hq c)) {(t.put (dA t.mask (ie k) ap).j).1 with plain:=false}) az (by rw[putSet_of _ _ hd];rfl)
  rw[putSet_of _ _ hd] at dR
  refine h _ bE _ true ⟨⟨_,_,a0+1,_,dR,aD,rfl,?_,nY.trans hm,pp,cJ.put aL aM λcg b q=>hp.at' q λA e=>(aP.2 b (hp.Oa q az aD)).trans e,.inr rfl,a4.trans ld,
   aaW (P:=λo y=>∃c,y.2=.ref c∧¬cP c) aL (λi y e o=>acq i y e) λo=>⟨c,rfl,hT⟩⟩,?_,perm.nodup_iff.mpr (mC.mpr ⟨ls,am⟩),λcg s8=>(dU.mp (perm.mem_iff.mp s8)).elim (λq=>q▸aN) (a6 _)⟩ (λy=>by rw[perm.mem_iff,dU];exact or_comm) aP
  ·rw[u7 aL];exact⟨fB.dummies,fB.rise,fB.size,fB.mR⟩
  ·rw[perm.length_eq];exact aG ls
end
end
namespace F
theorem OD:akx.lookup (String.ofList ['r','o','t','a','r','e','t','i','_','t','e','s'].reverse)=some aky:=by kernel_rfl
theorem yi:Slot "set_iterator" "__next__" "set_iterator.__next__":=
 .of (owner:="set_iterator") (n:="__next__") (by kernel_rfl) (by decide +kernel) (by decide +kernel) (by decide +kernel)
  (by first |exact .inl (by decide +kernel)| exact .inr (by decide +kernel)) (by kernel_rfl)
theorem WY:uG table "set_iterator.__next__"=some ms.«set_iterator.__next__»:=Km (by kernel_rfl)
theorem WW:uG table "set.__iter__"=some ms.«frozenset.__iter__»:=
 WT (id':="frozenset.__iter__") (by kernel_rfl) (by first |rfl |decide +kernel |(unfold To;simp +decide [Tp])) (by decide +kernel) (by kernel_rfl)
theorem TU(a:ab):wK "set_iterator.__next__" ⟨[a],[]⟩:=by
 unfold wK;refine(ae2 (id:="set_iterator.__next__") (n:=['_','_','t','x','e','n','_','_']) (o:=['r','o','t','a','r','e','t','i','_','t','e','s']) (by kernel_rfl) OD)▸?_;kernel_rfl
theorem PL:Slot "set_iterator" "__iter__" "set_iterator.__iter__":=
 .of (owner:="set_iterator") (n:="__iter__") (by kernel_rfl) (by decide +kernel) (by decide +kernel) (by decide +kernel)
  (by first |exact .inl (by decide +kernel)| exact .inr (by decide +kernel)) (by kernel_rfl)
theorem WX:uG table "set_iterator.__iter__"=some ms.«dict_keyiterator.__iter__»:=
 WT (id':="dict_keyiterator.__iter__") (by kernel_rfl) (by first |rfl |decide +kernel |(unfold To;simp +decide [Tp])) (by decide +kernel) (by kernel_rfl)
theorem TS(a:ab):wK "set_iterator.__iter__" ⟨[a],[]⟩:=by
 unfold wK;refine(ae2 (id:="set_iterator.__iter__") (n:=['_','_','r','e','t','i','_','_']) (o:=['r','o','t','a','r','e','t','i','_','t','e','s']) (by kernel_rfl) OD)▸?_;kernel_rfl
end F
section
variable{M:cv}{aA:ab->ay->Prop}{s:ay}{cP:aa->Prop}
theorem ahs{afw:PySem.Source}{n:Nat}{an:Nat->ay->Prop}(aO:n≠0)(h:∀i dG,i<n->an i {s with drawn:=dG}):a9 (a1 aH w) M (choose afw n) an aA s:=λgj p g7=>by
 unfold choose
 simp only[Sem.wp_choose]
 exact⟨aO,by simp only[Sem.wp_pure];exact h _ _ (CF _ (Nat.pos_of_ne_zero aO))⟩
theorem Kw{α:Type}{m:List α}{i:Nat}(aR:i<m.length):(m[i]:: m.eraseIdx i).Perm m:=by
 rw[H1]
 have ai:m=m.take i++m[i]:: m.drop (i+1):=by simp only[<-List.drop_eq_getElem_cons aR,Sz]
 exact(Sy (a:=m[i]) (l₁:=m.take i) (l₂:=m.drop (i+1))).symm.trans (by rw[<-ai])
theorem QY{α:Type}:∀(n:Nat)(Y:List α)(s:ay)(an:List α->ay->Prop),n=Y.length->(∀bH dG,bH.Perm Y->an bH {s with drawn:=dG})->a9 (a1 aH w) M (drawOrder n Y) an aA s
 |0,Y,s,an,e,h=>by
  cases Y with
  |cons _ _=>simp at e
  |nil=>exact bj (h [] s.drawn .nil)
 |n+1,Y,s,an,e,h=>by
  cases Y with
  |nil=>simp at e
  |cons x r=>
   refine aE (ahs (by simp) λi dG aR=>?_)
   refine(lN aR)▸?_
   refine aE (QY n _ _ _ (by simp only[Sr aR];simp at e |-;omega) λbH Wu aL=>bj ?_)
   refine h _ Wu ?_
   have:(x::r).Perm ((x::r)[i]:: (x::r).eraseIdx i):=(Kw aR).symm
   exact(aku _ aL).trans this.symm
theorem OJ{α:Type}(f:Nat->Nat):∀(fuel k:Nat)(left:List α)(out:Array α),left.length<=fuel->(OI f fuel k left out).toList.Perm (out.toList++left)
 |0,k,left,out,h=>by
  have:left=[]:=y6.mp (by exact Nat.eq_zero_of_le_zero h)
  subst this
  dsimp only[OI];simp
 |fuel+1,k,left,out,h=>by
  dsimp only[OI]
  cases left with
  |nil=>simp
  |cons x r=>
   have aR:f k % (x::r).length<(x::r).length:=CF _ (by simp)
   rw[lN aR]
   refine(OJ f fuel (k+1) _ _ (by rw[Sr aR];simp at h |-;omega)).trans ?_
   rw[HH,fF]
   exact akt _ (Kw aR)
theorem adt{α:Type}(f:Nat->Nat)(Y:Array α):(rV f Y).toList.Perm Y.toList:=by
 have:=OJ f Y.size 0 Y.toList #[] (by simp)
 simpa[rV] using this
noncomputable abbrev k0(first:ab)(i:Nat)(a:aa)(n a0:Nat):cV:={cls:=.type "set_iterator",dict:=none,data:=.fields #[first,.int (i:Int) 0,.ref a,.int (n:Int) 0,.int (a0:Int) 0]}
end
section
open Mine.Internal.Tab
section
variable{M:cv}{aA:ab->ay->Prop}{s:ay}{cP:aa->Prop}
structure mK(h:aV)(a:aa)(A:cV)(af:Array (Int×ab))(a0:Nat)(t:hy):Prop where
 obj:h.get? a=some A
 ex:A.ExactSet
 data:A.data=.set af a0 t
 fits:t.fits af.size=true
theorem O1{an:Option ab->ay->Prop}(a8:M.handled=none)(cY:∀ae,(∀b A,s.heap.get? b=some A->ae.get? b=some A)->an none {s with heap:=ae}):
 a9 (a1 aH w) M.in1 (F2 (.type "StopIteration") []>>= λx=>O0 x) (fun(r:Fin)ah=>False) (λe ah=>a9 (a1 aH w) M (do if <-xz e (.type "StopIteration") then pure none else throw e) an aA ah) s:=by
 refine aE ?_
 refine aE (nl ?_ (hJ [] en (.num 16777216) rfl))
 refine aE (m:=Em _ _) (sa (a:=g0) (by first |rfl |(simp only[Em];rfl)) ?_)
 refine nl ?_ (by size_fits)
 refine aE (ahx ?_)
 refine(show M.in1.handled=none from a8).symm▸?_
 refine aE (bj (ahL ?_))
 refine aE (BU (T:="StopIteration") (b:=true) ⟨_,eS _ rfl,rfl⟩ aa6 ?_)
 exact bj (cY _ λb A e=>dM _ (dM _ e))
theorem Br{aW:aa}{first:ab}{i n a0:Nat}{a:aa}{A:cV}{af:Array (Int×ab)}{t:hy}{an:Option ab->ay->Prop}(du:s.heap.get? aW=some (k0 first i a n a0))(S:mK s.heap a A af a0 t)(aO:af.size=n)
 (h:a9 (a1 aH w) M.in1 (if let .int iE _:=first then(do
  match <-PB a iE.toNat ((i:Int)).toNat ((a0:Int)).toNat with
  |some (x,next)=>
   r0 (.ref aW) 0 (fS next)
   r0 (.ref aW) 1 (fS ((i:Int)+ 1))
   ret x
  |none=>r0 (.ref aW) 2 .none;O0 (<-F2 (.type "StopIteration") []))
  else(do
   let some tD <-seqItems? first |unsupported "internal:set_iterator"
   match tD[((i:Int)).toNat]? with
   |some (.int place _)=>
    let x <-setNextDrawn a place.toNat ((a0:Int)).toNat
    r0 (.ref aW) 1 (fS ((i:Int)+ 1))
    ret x
   |some _=>unsupported "internal:set_iterator"
   |none=>r0 (.ref aW) 0 (fS 0);r0 (.ref aW) 2 .none;O0 (<-F2 (.type "StopIteration") [])))
  (λfI ah=>∃r,fI=.done (.ret r)∧an (some r) ah) (λe ah=>a9 (a1 aH w) M (do if <-xz e (.type "StopIteration") then pure none else throw e) an aA ah) s):
 a9 (a1 aH w) M (jk (.ref aW)) an aA s:=by
 have d4:s.TypeIs (.ref aW) "set_iterator":=bx _ du rfl
 refine aE (BR (QX (name:=pT "__next__") d4 F.yi
  (oo F.yi d4 F.WY ?_ (F.TU _))))
 refine aE (bj ?_)
 refine aE (Q0 du rfl ?_)
 refine aE (ahJ S.obj S.data S.fits ?_)
 refine aO▸?_
 rw[if_neg (by simp)]
 refine fx h (λfI ah aG=>?_) λo o x=>x
 refine aU aG λr e a7=>?_
 exact bx r e (bj a7)
theorem NW{aW:aa}{iE:Int}{i n a0:Nat}{a:aa}{A:cV}{af:Array (Int×ab)}{t:hy}{x:ab}{kX:Nat}{an:Option ab->ay->Prop}(du:s.heap.get? aW=some (k0 (.int iE 0) i a n a0))(S:mK s.heap a A af a0 t)(aO:af.size=n)
 (aD:∀(P:Option (ab×Nat)->ay->Prop)jY,P (some (x,kX)) s->a9 (a1 aH w) M.in1 (PB a iE.toNat i a0) P jY s)
 (cY:∀ae,ae.get? aW=some (k0 (.int kX 0) (i+1) a n a0)->hw aW s.heap ae->an (some x) {s with heap:=ae}):a9 (a1 aH w) M (jk (.ref aW)) an aA s:=by
 refine Br du S aO ?_
 refine aE (aD _ _ ?_)
 refine aE (yF du (by simp) λbF uR jg=>?_)
 refine aE (yF uR (by simp) λdb Li o8=>?_)
 exact bj ⟨x,rfl,cY db Li (jg.trans o8)⟩
theorem NV{aW:aa}{iE:Int}{i n a0:Nat}{a:aa}{A:cV}{af:Array (Int×ab)}{t:hy}{an:Option ab->ay->Prop}(a8:M.handled=none)(du:s.heap.get? aW=some (k0 (.int iE 0) i a n a0))(S:mK s.heap a A af a0 t)(aO:af.size=n)
 (aD:∀(P:Option (ab×Nat)->ay->Prop)jY,P none s->a9 (a1 aH w) M.in1 (PB a iE.toNat i a0) P jY s)
 (cY:∀ae,(∀b A,b≠aW->s.heap.get? b=some A->ae.get? b=some A)->an none {s with heap:=ae}):a9 (a1 aH w) M (jk (.ref aW)) an aA s:=by
 refine Br du S aO ?_
 refine aE (aD _ _ ?_)
 refine aE (yF du (by simp) λbF uR jg=>?_)
 refine fx (O1 (an:=an) (aA:=aA) (s:={s with heap:=bF}) a8 λae aM=>cY ae λb A ag e=>aM b A ((jg.2 b ag).trans e)) (λo o x=>x.elim) λo o x=>x
theorem acC{aW b1:aa}{i n a0 j:Nat}{a:aa}{A:cV}{af:Array (Int×ab)}{t:hy}{x:Int×ab}{tD:Array ab}{an:Option ab->ay->Prop}(du:s.heap.get? aW=some (k0 (.ref b1) i a n a0))(S:mK s.heap a A af a0 t)(aO:af.size=n)
 (d4:s.heap.IsTuple b1 tD) (aL:tD[i]? =some (.int (j:Int) 0)) (aD:af[j]? =some x)
 (cY:∀ae,ae.get? aW=some (k0 (.ref b1) (i+1) a n a0)->hw aW s.heap ae->an (some x.2) {s with heap:=ae}):a9 (a1 aH w) M (jk (.ref aW)) an aA s:=by
 refine cr d4 λph E8 o ah9=>?_
 refine bz ah9 λack EO=>?_
 refine Br du S aO ?_
 dsimp only[wf]
 refine aE (Hr E8 EO ?_)
 dsimp only
 refine aL▸?_
 refine aE ?_
 refine aE (nn S.obj S.data S.fits ?_)
 simp only[wf,bne_self_eq_false,pB,if_false]
 simp only[aD]
 refine bj ?_
 refine aE (yF du (by simp) λbF uR jg=>?_)
 exact bj ⟨x.2,rfl,cY bF uR jg⟩
theorem acB{aW b1:aa}{i n a0:Nat}{a:aa}{A:cV}{af:Array (Int×ab)}{t:hy}{tD:Array ab}{an:Option ab->ay->Prop}(a8:M.handled=none)(du:s.heap.get? aW=some (k0 (.ref b1) i a n a0))(S:mK s.heap a A af a0 t)(aO:af.size=n)
 (d4:s.heap.IsTuple b1 tD) (aL:tD[i]? =none)
 (cY:∀ae,(∀b A,b≠aW->s.heap.get? b=some A->ae.get? b=some A)->an none {s with heap:=ae}):a9 (a1 aH w) M (jk (.ref aW)) an aA s:=by
 refine cr d4 λph E8 o ah'=>?_
 refine bz ah' λack EO=>?_
 refine Br du S aO ?_
 simp only[wf]
 refine aE (Hr E8 EO ?_)
 dsimp only
 refine(aL).symm▸?_
 refine aE (yF du (by simp) λbF uR jg=>?_)
 refine aE (yF uR (by simp) λdb Li o8=>?_)
 refine fx (O1 (an:=an) (aA:=aA) (s:={s with heap:=db}) a8 λae aM=>cY ae λb A ag e=>aM b A ((o8.2 b ag).trans ((jg.2 b ag).trans e))) (λo o x=>x.elim) λo o x=>x
theorem pq{aW:aa}{an:ab->ay->Prop}(d4:s.TypeIs (.ref aW) "set_iterator")(h:an (.ref aW) s):a9 (a1 aH w) M (ly (.ref aW)) an aA s:=by
 refine Q6 d4 F.PL (oo F.PL d4 F.WX ?_ (F.TS _))
 exact bj ⟨_,rfl,"set_iterator",_,d4,F.yi.lookup,h⟩
theorem ahb{aW a:aa}{A:cV}{af:Array (Int×ab)}{a0:Nat}{t:hy}{hG:cv}(a8:hG.handled=none)(aD:A.ExactSet)(hd:A.data=.set af a0 t)(aG:t.fits af.size=true)(ag:jz w=true)(d5:a≠aW):
 zt aH w hG aW [aW,a,aW] [aW] ((rV (w.params.setOrder a a0) af).toList.map (·.2)).length (λi v=>((rV (w.params.setOrder a a0) af).toList.map (·.2))[i]? =some v)
  (λi h=>h.get? aW=some (k0 (.int 0 0) i a af.size a0)∧h.get? a=some A) where
 sub:=by simp
 frame:=λi h ae st aM=>⟨aM aW (.head _) _ st.1,aM a (by simp) _ st.2⟩
 item:=λi s an aA aR st cY=>by
  have S:mK s.heap a A af a0 t:=⟨st.2,aD,hd,aG⟩
  have gD:i<(rV (w.params.setOrder a a0) af).size:=by simpa using aR
  refine NW (x:=(rV (w.params.setOrder a a0) af)[i].2) (kX:=0) st.1 S rfl (λP jY n1=>?_) λae kM aP=>cY _ ae s.toks (by simp[gD]) ⟨kM,(aP.2 a d5).trans st.2⟩ λb A ag e=>(aP.2 b (by simpa using ag)).trans e
  refine aE (nn S.obj S.data S.fits ?_)
  dsimp only
  refine aE (tY ?_)
  refine(ag).symm▸?_
  simp only[if_true,bne_self_eq_false,pB,if_false]
  refine aE ?_
  refine aE (nn S.obj S.data S.fits ?_)
  refine aE (tY ?_)
  refine(ag).symm▸?_
  refine aE (vS (bj (bj ?_)))
  refine(?_:P ((rV (w.params.setOrder a a0) af)[i]?.map λe=>(e.2,(0:Int).toNat)) s)
  rw[yM gD]
  exact n1
 done:=λs an aA st cY=>by
  have S:mK s.heap a A af a0 t:=⟨st.2,aD,hd,aG⟩
  refine NV a8 st.1 S rfl (λP jY n1=>?_) λae aM=>cY ae s.toks λb A ag e=>aM b A (by simpa using ag) e
  refine aE (nn S.obj S.data S.fits ?_)
  refine aE (tY ?_)
  refine(ag).symm▸?_
  simp only[if_true,bne_self_eq_false,pB,if_false]
  refine aE ?_
  refine aE (nn S.obj S.data S.fits ?_)
  refine aE (tY ?_)
  refine(ag).symm▸?_
  refine aE (vS (bj (bj ?_)))
  refine(?_:P ((rV (w.params.setOrder a a0) af)[((rV (w.params.setOrder a a0) af).toList.map (·.2)).length]?.map λe=>(e.2,(0:Int).toNat)) s)
  rw[v1 (by simp)]
  exact n1
 self:=λi s an aA st cY=>by
  exact pq ⟨_,st.1,rfl⟩ cY
theorem aha{aW a:aa}{A:cV}{af:Array (Int×ab)}{a0:Nat}{t:hy}{hG:cv}(a8:hG.handled=none)(aD:A.ExactSet)(hd:A.data=.set af a0 t)(g:Tab.Good t af.size)(ag:jz w=false)(LO:t.led=true)(uV:af.size<=1)(d5:a≠aW):
 zt aH w hG aW [aW,a,aW] [aW] (af.toList.map (·.2)).length (λi v=>(af.toList.map (·.2))[i]? =some v)
  (λi h=>(∃iE:Nat,h.get? aW=some (k0 (.int iE 0) i a af.size a0)∧(i=0->iE=0)∧(i=1->∃j,t.place[0]? =some j∧iE=j+1))∧h.get? a=some A) where
 sub:=by simp
 frame:=λi h ae st aM=>by
  refine ge λdT cD=>?_
  refine dL st λaia a6=>?_
  refine aU aia λiE ai am=>?_
  refine cD ?_
  clear cD dT
  exact⟨⟨iE,aM aW (.head _) _ ai,am⟩,aM a (by simp) _ a6⟩
 item:=λi s an aA aR st cY=>by
  obtain⟨⟨iE,ai,am,_⟩,a6⟩:=st
  have S:mK s.heap a A af a0 t:=⟨a6,aD,hd,ru g⟩
  have gD:i<af.size:=by simpa using aR
  have Zo:i=0:=h2 (cf [_,_] 1 al en 1 ax ek 1 (Ns al) ax rfl uV gD) (hJ [_] en al rfl)
  subst Zo
  have AD:=am rfl
  subst AD
  have aL:0<t.place.size:=by rw[g.size];exact gD
  refine NW (x:=af[0].2) (kX:=t.place[0]+ 1) ai S rfl (λP jY n1=>?_) λae kM aP=>cY _ ae s.toks (by simp[gD]) ⟨⟨t.place[0]+ 1,kM,(λz=>by cases z),λo=>⟨t.place[0],by simp[aL],rfl⟩⟩,(aP.2 a d5).trans a6⟩ λb A ag e=>(aP.2 b (by simpa using ag)).trans e
  refine aE (nn S.obj S.data S.fits ?_)
  dsimp only
  refine aE (tY ?_)
  refine ag▸?_
  simp only[pB,if_false]
  refine r' (λn3=>?_) (λo=>?_)
  ·have:(!t.plain&&decide (af.size>1))=true:=n3
   simp at this;omega
  ·refine aE ?_
   refine r' (λn3=>?_) (λo=>bj ?_)
   ·have:(!t.led && !af.isEmpty)=true:=n3
    rw[LO] at this;simp at this
   ·have YP:zo t.place ((0:Nat):Int).toNat=0:=by
     refine qQ (zI g.rise 0) λez ft gf=>?_
     rcases Iq (zo t.place 0) with q |q
     ·exact q
     ·have:=ez 0 q;exact h2 (b6 [_,_] 0 al en 1 (Ns ax) en rfl this) (hJ [_] en al rfl)
    refine(YP).symm▸?_
    simp only[yM gD,yM aL]
    exact bj n1
 done:=λs an aA st cY=>by
  refine ge λdT cD=>?_
  refine dL st λaib a6=>?_
  refine cr aib λiE ai am c2=>?_
  refine cD ?_
  clear cD dT
  have S:mK s.heap a A af a0 t:=⟨a6,aD,hd,ru g⟩
  refine NV a8 ai S rfl (λP jY n1=>?_) λae aM=>cY ae s.toks λb A ag e=>aM b A (by simpa using ag) e
  refine aE (nn S.obj S.data S.fits ?_)
  dsimp only
  refine aE (tY ?_)
  refine ag▸?_
  simp only[pB,if_false]
  refine r' (λn3=>?_) (λo=>?_)
  ·have:(!t.plain&&decide (af.size>1))=true:=n3
   simp at this;omega
  ·refine aE ?_
   refine r' (λn3=>?_) (λo=>bj ?_)
   ·have:(!t.led && !af.isEmpty)=true:=n3
    rw[LO] at this;simp at this
   ·have s6:af.size<=zo t.place ((iE:Nat):Int).toNat:=by
     simp only[wf]
     rcases Iq af.size with q |q
     ·exact b6 [_,_] 1 al ax 1 al en rfl (dI q)
     ·have w7:af.size=1:=h2 (b6 [_] 1 al ek 1 al ek rfl uV) (b6 [_] 1 ek al 1 (Ns en) al rfl q)
      refine aU (c2 (by simp;omega)) λj cy aaa=>?_
      refine qQ (zI g.rise iE) λez ft gf=>?_
      simp only[w7]
      rcases Iq (zo t.place iE) with z |z
      ·exfalso
       have:=ft 0 (b6 [_] 1 al en 1 al en rfl (dI z)) (by rw[g.size];omega)
       rw[(w5 cy).2] at this
       exact nB (cf [_,_] 0 ek en 1 (Ns al) ax 1 ax al rfl (i7 aaa) (gv this))
      ·exact z
    have a3:af[zo t.place ((iE:Nat):Int).toNat]? =none:=v1 s6
    rw[a3]
    exact bj n1
 self:=λi s an aA st cY=>by
  refine dL st λaic a6=>?_
  refine aU aic λiE ai am=>?_
  exact pq ⟨_,ai,rfl⟩ cY
theorem ag'{aW a b1:aa}{A:cV}{af:Array (Int×ab)}{a0:Nat}{t:hy}{hG:cv}{bH:List Nat}(a8:hG.handled=none)(aD:A.ExactSet)(hd:A.data=.set af a0 t)(aG:t.fits af.size=true)(Fm:∀y∈bH,y<af.size)(d5:a≠aW)(An:b1≠aW):
 zt aH w hG aW [aW,a,b1] [aW] (bH.map λy=>(af[y]?.map (·.2)).getD .none).length (λi v=>(bH.map λy=>(af[y]?.map (·.2)).getD .none)[i]? =some v)
  (λi h=>h.get? aW=some (k0 (.ref b1) i a af.size a0)∧h.get? a=some A∧h.IsTuple b1 (bH.map fun(y:Nat)=>fS (y:Int)).toArray) where
 sub:=by simp
 frame:=λi h ae st aM=>⟨aM aW (.head _) _ st.1,aM a (by simp) _ st.2.1,aU st.2.2 λA az r=>bx A (aM b1 (by simp) _ az) r⟩
 item:=λi s an aA aR st cY=>by
  have S:mK s.heap a A af a0 t:=⟨st.2.1,aD,hd,aG⟩
  have gD:i<bH.length:=by simpa using aR
  have bD:=Fm bH[i] (H9 gD)
  refine acC (j:=bH[i]) (x:=af[bH[i]]) st.1 S rfl st.2.2 (by simp[gD,fS]) (yM bD) λae kM aP=>cY _ ae s.toks (by simp[gD,bD]) ⟨kM,(aP.2 a d5).trans st.2.1,aU st.2.2 λA az r=>bx A ((aP.2 b1 An).trans az) r⟩ λb A ag e=>(aP.2 b (by simpa using ag)).trans e
 done:=λs an aA st cY=>by
  have S:mK s.heap a A af a0 t:=⟨st.2.1,aD,hd,aG⟩
  exact acB a8 st.1 S rfl st.2.2 (by simp) λae aM=>cY ae s.toks λb A ag e=>aM b A (by simpa using ag) e
 self:=λi s an aA st cY=>pq ⟨_,st.1,rfl⟩ cY
theorem aeN{a:aa}{aY:List (List L)}{an:ab->ay->Prop}(R:kz cP s.heap a aY)
 (h:∀(eR:List ab)(aW b1:aa)(ae:aV)(dG:oC)(St:Nat->aV->Prop)(af:Array (Int×ab)),oD s.heap af aY->(∀(i:Nat)(x:Int×ab),af[i]? =some x->∃c,x.2=.ref c∧¬cP c)->eR.Perm (af.toList.map (·.2))->s.heap.get? aW=none->s.heap.get? b1=none->(∀b A,s.heap.get? b=some A->ae.get? b=some A)->St 0 ae->ae.get? aW≠none->ae.get? b1≠none->
  (∀hG:cv,hG.handled=none->zt aH w hG aW [aW,a,b1] [aW] eR.length (λi v=>eR[i]? =some v) St)->an (.ref aW) {s with heap:=ae,drawn:=dG}):a9 (a1 aH w) M (ly (.ref a)) an aA s:=by
 refine ge λdT cD=>?_
 obtain⟨⟨A,af,a0,t,az,aD,hd,g,hm,p,cJ,cZ,ld,hT⟩,ai,am,a6⟩:=R
 refine cD ?_
 clear cD dT
 have S:mK s.heap a A af a0 t:=⟨az,aD,hd,ru g⟩
 have d4:s.TypeIs (.ref a) "set":=bx A az aD.1
 have d5:a≠s.heap.objs.size:=ho (eF az)
 refine Q6 d4 PySem.F.slot_set_iter (oo PySem.F.slot_set_iter d4 F.WW ?_ (PySem.F.args_set_iter_1 _))
 refine aE ?_
 refine aE (bj (bj ?_))
 refine aE ?_
 refine aE (ahJ S.obj S.data S.fits (bj ?_))
 have Er:s.heap.get? s.heap.objs.size=none:=hR
 have OR:∀(eR:List ab)(St:Nat->aV->Prop),eR.Perm (af.toList.map (·.2))->(∀ae:aV,ae.get? s.heap.objs.size=some (k0 (.int 0 0) 0 a af.size a0)->ae.get? a=some A->St 0 ae)->
  (∀hG:cv,hG.handled=none->zt aH w hG s.heap.objs.size [s.heap.objs.size,a,s.heap.objs.size] [s.heap.objs.size] eR.length (λi v=>eR[i]? =some v) St)->
  a9 (a1 aH w) M.in1 (NS "set_iterator" [fS 0,fS 0,.ref a,fS af.size,fS a0]>>= λr=>ret r) (λfI ah=>∃v,fI=.done (.ret v)∧∃IV r,ah.TypeIs v IV∧vM (.type IV) (pT "__next__")=pure (some r)∧an v ah) (λe ah=>aA e ah) s:=by
  intro eR St aL mY s0
  refine aE (nl (bj ?_))
  have du:(s.heap.push (k0 (.int 0 0) 0 a af.size a0)).get? s.heap.objs.size=some (k0 (.int 0 0) 0 a af.size a0):=eS _ rfl
  refine bx _ rfl ⟨"set_iterator",_,⟨_,du,rfl⟩,F.yi.lookup,?_⟩
  exact h eR s.heap.objs.size s.heap.objs.size _ s.drawn St af cJ hT aL Er Er (λb A e=>dM _ e) (mY _ du (dM _ az)) (λq=>by cases du.symm.trans q) (λq=>by cases du.symm.trans q) s0
 refine aE ?_
 refine aE (nn S.obj S.data S.fits ?_)
 dsimp only
 refine aE (tY (bj ?_))
 cases ag:jz w with
 |true=>
  refine aE (bj ?_)
  refine aE (Q' S.obj S.data S.fits ?_)
  exact OR _ _ ((adt _ af).map _) (λae a3 a4=>⟨a3,a4⟩) λhG a8=>ahb a8 aD hd (ru g) ag d5
 |false=>
  by_cases aP:af.size<=1
  ·refine r' (λn3=>?_) (λo=>?_)
   ·have:(!false&&(!t.plain&&decide (af.size>1)))=true:=n3
    simp at this;omega
   ·refine aE (bj ?_)
    refine aE (Q' S.obj S.data S.fits ?_)
    refine OR _ _ (akv _) (λae a3 a4=>⟨⟨0,a3,λo=>rfl,λz=>by cases z⟩,a4⟩) λhG a8=>aha a8 aD hd g ag (by simp only[ld,ag];rfl) aP d5
  ·have ta:t.plain=false:=cZ.resolve_left (by omega)
   refine r' (λo=>?_) (λn3=>?_)
   ·refine aE (QY _ _ _ _ (by simp) λbH dG aL=>?_)
    refine aE (Q2 ?_ (by simp only[dC,aL.length_eq,wl,<-cJ.1,jU];exact b6 [_] 1 al (.num 16777216) 1 al (.num 4) rfl ai))
    refine aE (Q' (s:={s with heap:=s.heap.push {cls:=.type "tuple",data:=.seq (bH.map fun(i:Nat)=>fS (i:Int)).toArray},drawn:=dG}) (dM _ S.obj) S.data S.fits ?_)
    refine aE (nl (bj ?_))
    have xc:(s.heap.push {cls:=.type "tuple",data:=.seq (bH.map fun(i:Nat)=>fS (i:Int)).toArray}).get? s.heap.objs.size=some {cls:=.type "tuple",data:=.seq (bH.map fun(i:Nat)=>fS (i:Int)).toArray}:=eS _ rfl
    have G9:(s.heap.push {cls:=.type "tuple",data:=.seq (bH.map fun(i:Nat)=>fS (i:Int)).toArray}).objs.size=s.heap.objs.size+1:=oG ..
    generalize EZ:s.heap.push {cls:=.type "tuple",data:=.seq (bH.map fun(i:Nat)=>fS (i:Int)).toArray}=rG at xc G9 |-
    have bv:∀b A,s.heap.get? b=some A->rG.get? b=some A:=λb A e=>by refine EZ▸?_;exact dM _ e
    have du:(rG.push (k0 (.ref s.heap.objs.size) 0 a af.size a0)).get? rG.objs.size=some (k0 (.ref s.heap.objs.size) 0 a af.size a0):=eS _ rfl
    have NR:∀b,b<s.heap.objs.size->b≠rG.objs.size:=λb ag=>by simp only[G9];exact ho (Nat.lt_succ_of_lt ag)
    have Yf:s.heap.get? rG.objs.size=none:=by
     cases q:s.heap.get? rG.objs.size with
     |none=>rfl
     |some A=>exact absurd rfl (NR _ (eF q))
    have xd:s.heap.objs.size≠rG.objs.size:=by simp only[G9];exact ho (ud _)
    refine bx _ rfl ⟨"set_iterator",_,⟨_,du,rfl⟩,F.yi.lookup,?_⟩
    have aaj:∀y∈bH,y<af.size:=λy bD=>Cv.mp (aL.mem_iff.mp bD)
    refine h (bH.map λy=>(af[y]?.map (·.2)).getD .none) rG.objs.size s.heap.objs.size _ dG _ af cJ hT ?_ Yf Er (λb A e=>dM _ (bv b A e)) ⟨du,dM _ (bv _ _ az),_,dM _ xc,rfl,0,rfl⟩ (λq=>by cases du.symm.trans q) (λq=>by cases (dM _ xc).symm.trans q) λhG a8=>ag' a8 aD hd (ru g) aaj (NR _ (eF az)) xd
    refine(aL.map _).trans ?_
    have:(iM af.size).map (λy=>(af[y]?.map (·.2)).getD g0)=af.toList.map (·.2):=by
     apply Si
     ·simp
     ·intro i ai am
      simp at ai
      simp[ai]
    rw[this]
   ·exfalso
    have:¬(!false&&(!t.plain&&decide (af.size>1)))=true:=n3
    rw[ta] at this
    simp at this;exact(iff_false_intro aP).mp this
end
end
section
open Mine.Internal.Tab
namespace F
theorem PF:uG table "set.update.loop"=some ms.«set.update.loop»:=akC
end F
section
variable{M:cv}{aA:ab->ay->Prop}{s:ay}{cP:aa->Prop}{R:lT->ay->Prop}
def ug(cP:aa->Prop)(h:aV)(rows:List (List L))(dm:Array ab):Prop:=
 rows.length=dm.size∧∀(j:Nat)(k:List L),rows[j]? =some k->(∃x r,k=.str x::r)∧k.length<=e7∧∃c,dm[j]? =some (.ref c)∧hp h k c∧¬cP c
theorem ug.keep{h ae:aV}{rows:List (List L)}{dm:Array ab}(x:ug cP h rows dm)(e:∀b A,A.cls=.type "tuple"->h.get? b=some A->ae.get? b=some A):ug cP ae rows dm:=
 ⟨x.1,λj k cy=>by
  refine qQ (x.2 j k cy) λa b aiQ=>?_
  refine cr aiQ λc d aiR f=>?_
  refine jq aiR λA mf n az aK r=>?_
  exact⟨a,b,c,d,⟨A,mf,n,e c A aK az,aK,r⟩,f⟩⟩
theorem aeO{S aW fs:aa}{dm:Array ab}{rows:List (List L)}(a8:M.handled=none)(eB:M.units+1<hO)(xb:S≠aW)(YE:S≠fs)(uQ:aW≠fs)(uV:∀m:List (List L),m.Nodup->(∀y∈m,y∈rows)->m.length<=4):
 ∀(k i:Nat)(aY:List (List L))(s:ay),dm.size-i=k->i<=dm.size->s.heap.IsListIter aW fs i->s.heap.IsList fs dm->ug cP s.heap rows dm->kz cP s.heap S aY->(∀y,y∈aY↔y∈rows.take i)->
  (∀ae bE tm,kz cP ae S tm->(∀y,y∈tm↔y∈rows)->(∀b A,b≠S->b≠aW->s.heap.get? b=some A->ae.get? b=some A)->R (.ok (.ret .none)) {s with heap:=ae,toks:=bE})->
  gy (a1 aH w) M (.builtin "set.update.loop" ⟨[.ref S,.ref aW],[]⟩) R s:=by
 intro k
 induction k with
 |zero=>
  intro i aY s aM aR hit aN c0 cE hm gB
  refine p4 F.PF ?_
  have s7:i=dm.size:=h2 (b6 [_,_] 1 al ax 1 al ax rfl aR) (cf [_,_,_] 1 al ax 1 aT en 1 al (.add aT ax) rfl (dI aM) (fW dm.size i))
  refine aE (Q7 (A:=M.in1) a8 hit aN (by refine s7▸?_;simp) λae bw=>?_)
  have qi:rows.take i=rows:=List.take_of_length_le (by simp only[c0.1,s7];exact eN _)
  refine bj (gB ae s.toks aY (cE.keep (λb A ag aK e=>bw b A (λz=>?_) e) λA e=>bw S A xb e) (λy=>by rw[hm,qi]) λb A xf uS e=>bw b A uS e)
  cases z
  refine cr hit λGe uY EK o=>?_
  replace uY:=e▸uY;(obtain rfl:=dq uY);rw[EK] at aK;simp at aK
 |succ k aJ=>
  intro i aY s aM aR hit aN c0 cE hm gB
  have iz:i<dm.size:=by exact Nat.lt_of_sub_eq_succ aM
  have E3:i<rows.length:=by simp only[c0.1];exact iz
  refine ge λdT cD=>?_
  refine qQ (c0.2 i rows[i] (lN E3)) λaiU ZC aiV=>?_
  refine ik aiU λx r d5=>?_
  obtain⟨c,aK,E',ZL⟩:=aiV
  refine cD ?_
  clear cD dT
  refine p4 F.PF ?_
  refine(?_:a9 _ M.in1 (jk (.ref aW)>>= _) _ _ s)
  refine aE (Q8 hit aN aK λbF Zr jg=>?_)
  have F8:∀b A,A.cls=.type "tuple"->s.heap.get? b=some A->bF.get? b=some A:=λb A bn e=>(jg.2 b (by
   rintro rfl
   refine cr hit λGe uY EK o=>?_
   simp only[e] at uY;(obtain rfl:=dq uY);rw[EK] at bn;simp at bn)).trans e
  have Pg:kz cP bF S aY:=cE.keep (λb A o bn e=>F8 b A bn e) λA e=>(jg.2 S xb).trans e
  have ad6:=c0.keep F8
  have Z6:hp bF rows[i] c:=jq E' λA mf n az aK r=>⟨A,mf,n,F8 c A aK az,aK,r⟩
  have abt:∀y∈aY,y∈rows:=λy bD=>Ie ((hm y).mp bD)
  refine aE (gL (aeK (M:=M.in1) (s:={s with heap:=bF}) (by show M.units+1<hO;exact eB) Pg Z6 d5 ZC ZL (λZO=>?_) λdb bE abu b aem ZJ o8=>?_))
  ·have:=uV (rows[i]:: aY) (mC.mpr ⟨ZO,cE.nodup⟩) (λy bD=>by
    rcases dU.mp bD with q |q
    ·simp only[q];exact H9 E3
    ·exact abt y q)
   simp at this;exact zd this
  ·refine bj ⟨tE akD _,aJ (i+1) abu _ (h2 (gl [_,_,_,_,_] 1 al ax 1 aT (Ns ax) 1 cs (.add aT fA) 1 (.add al (Ns fA)) cs rfl (dI aM) (fW dm.size i) (fM (b6 [_,_] 1 (Ns al) ax 1 (Ns al) ax rfl iz))) (gl [_,_,_,_,_] 1 al ax 1 (Ns al) aT 1 cs (.add ax (Ns fA)) 1 (.add aT fA) cs rfl (i7 aM) (fW dm.size (i+1)) (fM (b6 [_,_] 1 al ax 1 (Ns al) ax rfl iz)))) iz ?_ ?_ (ad6.keep λb A bn e=>(o8.2 b ?_).trans e) aem (λy=>?_) λae aga tm eP de cg=>gB ae aga tm eP de λb A xf uS e=>cg b A xf uS ((o8.2 b xf).trans ((jg.2 b uS).trans e))⟩
   ·obtain⟨A,az,q⟩:=Zr;exact bx A ((o8.2 aW xb.symm).trans az) q
   ·obtain⟨A,az,q⟩:=aN;exact bx A ((o8.2 fs YE.symm).trans ((jg.2 fs uQ.symm).trans az)) q
   ·rintro rfl
    obtain⟨⟨acT,_,_,_,ZS,aah,_⟩,_⟩:=Pg
    replace e:=(show bF.get? b=some acT from ZS)▸e;(obtain rfl:=dq e)
    rw[aah.1] at bn;simp at bn
   ·rw[ZJ,hm,List.take_add_one,ip,lN E3]
    simp
theorem Vu{b1 NT Fv:String}{HJ:ms}{args:List ab}{an sA:ab->ay->Prop}(rx:TypeCalled b1 NT Fv)
 (ak8:checkTypeCall b1 ⟨args,[]⟩=pure ()) (WU:uG table Fv=some HJ)
 (rE:gy (a1 aH w) M.in1 (.call (.builtin NT) ⟨.type b1::args,[]⟩) (yz sA aA) s)
 (xq:∀obj bd,sA obj bd->bd.TypeIs obj b1∧a9 (a1 aH w) M.in1.in1 (JN Fv ⟨obj::args,[]⟩) (λo cR=>a9 (a1 aH w) M.in1.in1 (HJ ⟨obj::args,[]⟩)
   (λfI ah=>match fI with |.done f=>yz (λr cR=>r=.none∧an obj cR) aA (.ok f) ah |.again dd=>dd.quiet=true∧gy (a1 aH w) M.in1 dd (yz (λr cR=>r=.none∧an obj cR) aA) ah)
   (λe ah=>yz (λr cR=>r=.none∧an obj cR) aA (.error e) ah) cR) (λe ah=>yz (λr cR=>r=.none∧an obj cR) aA (.error e) ah) bd):
 a9 (a1 aH w) M (call (.type b1) args) an aA s:=by
 refine ik rx.mro λc Qt alf=>?_
 have ale:=rx.made
 have Fd:=rx.sub
 have ai:=rx.notType
 have am:=rx.canCreate
 refine r9 (uy ?_)
 refine bj ⟨HO _ (by decide +kernel),p4 PySem.F.entry_type_call ?_⟩
 dsimp only[Around.under_plain (weight_type_call_type b1 args []) rfl]
 repeat (any_goals (first |assumption |wp_step))
 refine nU rE λr bd ba=>?_
 cases r with
 |error e=>exact ba
 |ok aC=>
  cases aC with
  |ret obj=>
   refine dL (xq _ _ ba) λd4 Y7=>?_
   have alc:=rx.init.lookup
   have ak5:=rx.init.bind obj
   repeat (any_goals (first |assumption |wp_step))
   refine nU (DQ rx.init.plain WU Y7) λfj cR Fb=>?_
   cases fj with
   |error e=>exact Fb
   |ok Af=>
    cases Af with
    |ret r=>
     obtain⟨rfl,a7⟩:=Fb
     repeat (any_goals (first |assumption |wp_step))
    |_=>exact Fb.elim
  |_=>exact ba.elim
theorem code_set_new(a:ab){sA:ab->ay->Prop}
 (h:sA (.ref s.heap.objs.size) {s with heap:=s.heap.push {cls:=.type "set",dict:=none,data:=.set #[] 0 (.fresh 0 0 (!jz w))}}):
 gy (a1 aH w) M (.call (.builtin "set.__new__") ⟨[.type "set",a],[]⟩) (yz sA aA) s:=by
 refine uy ?_
 refine aE (sa (PySem.F.newCall_set_1 a) (bj ⟨tE PySem.F.plain_set_new _,p4 PySem.F.entry_set_new ?_⟩))
 have Fd:=sub_set_self
 obtain⟨aL,g,d,bE,os⟩:=s
 wp_walk
 refine vS (bj ?_)
 refine aE (ahq (bj ?_))
 exact bj h
theorem ael{h:aV}{a:aa}(e:h.get? a=some {cls:=.type "set",dict:=none,data:=.set #[] 0 (.fresh 0 0 (!jz w))}):kz cP h a []:=by
 refine⟨⟨_,#[],0,_,e,⟨rfl,rfl,rfl⟩,rfl,⟨rfl,λi j fJ cy=>?_,rfl,iq _⟩,rfl,λi h x aR=>by simp at aR,⟨rfl,λi k aR=>by simp at aR⟩,.inl rfl,rfl,λi x aR=>by simp at aR⟩,by simp,ub,(by decide)⟩
 exact absurd cy (q8 _)
theorem Vw{fs:aa}{dm:Array ab}{rows:List (List L)}{an:ab->ay->Prop}(a8:M.handled=none)(eB:M.units+10<hO)(aN:s.heap.PlainList fs dm)(c0:ug cP s.heap rows dm)(uV:∀m:List (List L),m.Nodup->(∀y∈m,y∈rows)->m.length<=4)
 (h:∀ae bE aY,kz cP ae s.heap.objs.size aY->(∀y,y∈aY↔y∈rows)->(∀b A,s.heap.get? b=some A->ae.get? b=some A)->an (.ref s.heap.objs.size) {s with heap:=ae,toks:=bE}):
 a9 (a1 aH w) M (call (.type "set") [.ref fs]) an aA s:=by
 refine bz aN λN2 LZ=>?_
 refine Vu (sA:=λobj bd=>obj=.ref s.heap.objs.size∧bd={s with heap:=s.heap.push {cls:=.type "set",dict:=none,data:=.set #[] 0 (.fresh 0 0 (!jz w))}}) PySem.F.called_set (PySem.F.typeCall_set_1 _) PySem.F.entry_set_init (code_set_new _ ⟨rfl,rfl⟩) ?_
 rintro obj bd ⟨rfl,rfl⟩
 have fv:(s.heap.push {cls:=.type "set",dict:=none,data:=.set #[] 0 (.fresh 0 0 (!jz w))}).get? s.heap.objs.size=some {cls:=.type "set",dict:=none,data:=.set #[] 0 (.fresh 0 0 (!jz w))}:=eS _ rfl
 have d4:C0 {s with heap:=s.heap.push {cls:=.type "set",dict:=none,data:=.set #[] 0 (.fresh 0 0 (!jz w))}} (.ref s.heap.objs.size) "set":=bx _ fv rfl
 refine⟨d4,check_set_init_1 d4 ?_⟩
 have L0:(s.heap.push {cls:=.type "set",dict:=none,data:=.set #[] 0 (.fresh 0 0 (!jz w))}).get? fs=some {cls:=.type "list",data:=.seq dm N2}:=dM _ LZ
 have ali:=PySem.F.sub_list_set
 have alh:=PySem.F.sub_list_frozenset
 have d5:(oP "list" == oP "dict")=false:=rfl
 have uX:(s.heap.push {cls:=.type "set",dict:=none,data:=.set #[] 0 (.fresh 0 0 (!jz w))}).IsList fs dm:=fK _ L0 rfl ⟨N2,rfl⟩
 have af1:(s.heap.push {cls:=.type "set",dict:=none,data:=.set #[] 0 (.fresh 0 0 (!jz w))}).objs.size=s.heap.objs.size+1:=oG ..
 have Nr:fs<s.heap.objs.size:=eF LZ
 have bv:∀b A,s.heap.get? b=some A->(s.heap.push {cls:=.type "set",dict:=none,data:=.set #[] 0 (.fresh 0 0 (!jz w))}).get? b=some A:=λb A e=>dM _ e
 have Pe:kz cP ((s.heap.push {cls:=.type "set",dict:=none,data:=.set #[] 0 (.fresh 0 0 (!jz w))}).push {cls:=.type "list_iterator",data:=.fields #[.ref fs,.int 0 0]}) s.heap.objs.size []:=ael (dM _ fv)
 generalize EZ:s.heap.push {cls:=.type "set",dict:=none,data:=.set #[] 0 (.fresh 0 0 (!jz w))}=ai at fv d4 L0 uX af1 bv Pe |-
 unfold ms.«set.__init__» noKeywords aj8
 generalize YC:ly=akB
 wp_walk
 subst YC
 refine Q5 (s:={s with heap:=ai}) uX ?_
 refine aE (Q9 ?_)
 have Nt:s.heap.objs.size<ai.objs.size:=eF fv
 refine aeO (S:=s.heap.objs.size) (aW:=ai.objs.size) (fs:=fs) (rows:=rows) (dm:=dm) (by exact a8) (by show M.units+1+1+1<hO;exact b6 [_,_] 1 (Ns (Ns (Ns (Ns al)))) ax 1 (Ns (.add al (.num 10))) ax rfl eB) (ho Nt) (sw Nr) (sw (lP Nr Nt)) uV _ 0 [] _ rfl (iq _)
  ⟨_,eS _ rfl,rfl,rfl⟩ (uX.push _) (c0.keep λb A o e=>dM _ (bv b A e)) Pe (by simp) ?_
 intro ae bE aY ba hm aM
 refine bj ?_
 show a9 _ _ (ret g0) _ _ _
 refine bj ⟨rfl,?_⟩
 exact h ae bE aY ba hm λb A e=>aM b A (ho (eF e)) (ho (eF (bv b A e))) (dM _ (bv b A e))
end
end
section
open Mine.Internal.Tab
section
variable{D:Bool}{E:bM}{K:cb}{M:cv}{m:List bo}{W J bT bV:List aa}{s:ay}{names:List (I×b4)}{U c':List (I×Nat)}{d:Nat}{O:bo}{C:aI}{l:St}{bp:aa->List L->St->ao L}{aA:ab->ay->Prop}
theorem aeM{r:aa}{an:Bool->ay->Prop}(d4:s.TypeIs (.ref r) "set")(h:an false s):a9 (a1 aH w) M (aj' (.ref r)) an aA s:=by
 refine aE (Hs d4 PySem.F.slot_set_len.lookup ?_)
 generalize Zp:("set.__len__":String)=alk
 wp_delta
 subst Zp
 refine aE (BU (T:="set") (b:=true) d4 (by kernel_rfl) ?_)
 refine r' (λjK=>absurd jK (by decide)) (λo=>?_)
 refine r' (λo=>?_) (λjK=>absurd (by decide +kernel) jK)
 refine aE (vU d4 ?_)
 exact bj h
theorem VP{cP:aa->Prop}{a:aa}{aY:List (List L)}{an:List ab->ay->Prop}(a8:M.handled=none)(oO:kz cP s.heap a aY)
 (cY:∀ae bE dG(eR:List ab)(af:Array (Int×ab)),oD ae af aY->(∀(i:Nat)(x:Int×ab),af[i]? =some x->∃c,x.2=.ref c∧¬cP c)->eR.Perm (af.toList.map (·.2))->(∀b A,s.heap.get? b=some A->ae.get? b=some A)->an eR {s with heap:=ae,toks:=bE,drawn:=dG}):
 a9 (a1 aH w) M (JR (.ref a)) an aA s:=by
 have ar:∃A,s.heap.get? a=some A∧A.cls=.type "set":=ahV oO.at_ λA o o o az aD o=>bx A az aD.1
 refine aU ar λtz o5 Aq=>?_
 have abT:=eF o5
 refine aE (Q9 (p4 PySem.F.entry_proto_collect ?_))
 refine aE (nl ?_)
 refine bj ⟨tE PySem.F.plain_list_iadd _,p4 PySem.F.entry_list_iadd ?_⟩
 refine(?_:a9 _ M.in1 (aj9 (.ref s.heap.objs.size) (.ref a) (.ref s.heap.objs.size)) _ _ _)
 have fv:(s.heap.push {cls:=.type "list",data:=.seq ([]:List ab).toArray}).get? s.heap.objs.size=some {cls:=.type "list",data:=.seq #[] 0}:=eS _ rfl
 have bv:∀b A,s.heap.get? b=some A->(s.heap.push {cls:=.type "list",data:=.seq ([]:List ab).toArray}).get? b=some A:=λb A e=>dM _ e
 have acy:a≠s.heap.objs.size:=ho abT
 generalize EZ:s.heap.push {cls:=.type "list",data:=.seq ([]:List ab).toArray}=ai at fv bv |-
 have Th:kz cP ai a aY:=oO.keep (λb A o o e=>bv b A e) (λA e=>bv a A e)
 have xc:C0 {s with heap:=ai} (.ref a) "set":=bx tz (bv _ _ o5) Aq
 have Lq:s.heap.objs.size≠a:=acy.symm
 refine aE (vU xc ?_)
 have a3:RA (.ref s.heap.objs.size) (.ref a)=false:=by simp[RA,Lq]
 have a4:(oP "set" == oP "list")=false:=rfl
 have cI:(oP "set" == oP "tuple")=false:=rfl
 simp only[a3,a4,cI,Ru,pB,if_false]
 refine aE (aeN (s:={s with heap:=ai}) Th λeR aW b1 am dG St af cJ hT aL du xd cz st Lg Ls s0=>?_)
 have CY:=cz _ _ fv
 have W:=s0 M.in1 (by exact a8)
 have xb:s.heap.objs.size≠aW:=λq=>by rw[<-q] at du;rw[show({s with heap:=ai}:ay).heap.get? s.heap.objs.size=_ from fv] at du;nomatch du
 have YD:s.heap.objs.size≠b1:=λq=>by rw[<-q] at xd;rw[show({s with heap:=ai}:ay).heap.get? s.heap.objs.size=_ from fv] at xd;nomatch xd
 have Lp:s.heap.objs.size∉[aW,a,b1]:=by
  simp only[dU,hK,or_false,not_or];exact⟨xb,Lq,YD⟩
 have e1:eR.length<=e7:=by
  rw[aL.length_eq];simp;rw[<-cJ.1,jU];have:=oO.mR;exact b6 [_] 1 al (.num 16777216) 1 al (.num 4) rfl this
 have fI:∀ae bE f4 dd,(∀b A,ai.get? b=some A->b≠s.heap.objs.size->ae.get? b=some A)->ae.get? s.heap.objs.size=some {cls:=.type "list",dict:=none,data:=.seq f4 dd,slots:= #[]}->Ck (λi v=>eR[i]? =some v) f4 eR.length->
  a9 (a1 aH w) M (match hq s.heap.objs.size with
   |hq a=>do
    match (<-load a).data with
     |RE Y _=>pure Y.toList
     |_=>unsupported "internal:collect"
   |_=>unsupported "internal:collect") an aA {s with heap:=ae,toks:=bE,drawn:=dG}:=λae bE f4 dd aM sY l3=>by
  show a9 _ M (load s.heap.objs.size >>= _) _ _ _
  refine aE (Ho sY (bj ?_))
  have dY:f4.toList=eR:=by
   apply List.ext_getElem?
   intro i
   by_cases aR:i<f4.size
   ·have:=l3.2 i f4[i] (by simp[aR])
    rw[this];simp[aR]
   ·rw[Sn (by simpa using aR),Sn (by rw[<-l3.1];exact b6 [_,_] 1 al ax 1 al ax rfl (gv aR))]
  rw[dY]
  have e5:∀b A,s.heap.get? b=some A->ae.get? b=some A:=λb A e=>aM b A (bv b A e) (ho (eF e))
  refine cY ae bE dG eR af ⟨cJ.1,λi k aR=>?_⟩ hT aL e5
  refine aU (cJ.2 i k aR) λc b0 ajx=>?_
  refine jq ajx λch mf n bO eJ gH=>?_
  refine bx c b0 ⟨ch,mf,n,aM c ch bO ?_,eJ,gH⟩
  rintro rfl
  rw[show({s with heap:=ai}:ay).heap.get? s.heap.objs.size=_ from fv] at bO
  cases bO;simp at eJ
 have gR:∀(h:aV)(D1 bE:Nat),St 0 h->(∀b A,b≠s.heap.objs.size->ai.get? b=some A->h.get? b=some A)->h.get? s.heap.objs.size=some {cls:=.type "list",data:=.seq #[] D1}->
  gy (a1 aH w) M (.builtin "list.extend.loop" ⟨[.ref s.heap.objs.size,.ref aW,.ref s.heap.objs.size],[]⟩) (λr ah=>∃ae bE f4 dd,r=.ok (.ret (.ref s.heap.objs.size))∧ah={s with heap:=ae,toks:=bE,drawn:=dG}∧(∀b A,ai.get? b=some A->b≠s.heap.objs.size->ae.get? b=some A)∧
   ae.get? s.heap.objs.size=some {cls:=.type "list",dict:=none,data:=.seq f4 dd,slots:= #[]}∧Ck (λi v=>eR[i]? =some v) f4 eR.length) {s with heap:=h,toks:=bE,drawn:=dG}:=by
  intro h D1 bE mY aM YF
  refine codeAny_extend_loopS W.toS e1 s.heap.objs.size Lp (.ref s.heap.objs.size) eR.length 0 _ #[] D1 rfl (iq _) mY YF (ItemsOf.nil _) λah f4 dd hm sY l3=>?_
  refine Ny ah.heap ah.toks f4 dd rfl (Moved.eq_with hm) (λb A e ag=>hm.heap b A (λl8=>?_) (aM b A ag e)) sY l3
  rcases dU.mp l8 with cm |l8
  ·exact ag cm
  ·rw[gu.mp l8] at e
   rw[show({s with heap:=ai}:ay).heap.get? aW=ai.get? aW from rfl,e] at du
   cases du
 refine aE (gL (aeM (s:={s with heap:=am,drawn:=dG}) ⟨tz,cz _ _ (bv _ _ o5),Aq⟩ ?_))
 refine r' (λo=>?_) (λo=>bj ⟨tE PySem.F.plain_extend_loop _,nU (gR am 0 s.toks st (λb A o e=>cz b A e) CY) λr qG ba=>?_⟩)
 ·refine aE (yE ?_)
  refine aE ?_
  show a9 _ _ (updateSeq s.heap.objs.size (·.push .none)>>= λo=>updateSeq s.heap.objs.size (·.pop)) _ _ _
  refine aE (ahP CY rfl ?_)
  have Lr:=nz (lR (·.push g0)) CY rfl
  refine ahP (hz:=by seq_fits) Lr rfl ?_
  have YG:=nz (lR (·.pop)) Lr rfl
  refine bj ⟨tE PySem.F.plain_extend_loop _,nU (gR _ _ s.toks (W.frame 0 _ _ st λb ag A e=>?_) (λb A ag e=>?_) YG) λr qG ba=>?_⟩
  ·have LA:b≠s.heap.objs.size:=λh=>Lp (h▸ag)
   exact(my _ _ (sx LA)).trans ((my _ _ (sx LA)).trans e)
  ·exact(my _ _ (sx ag)).trans ((my _ _ (sx ag)).trans (cz b A e))
  ·refine yI ba λae bE f4 dd e ajB w7 Ex Ey=>?_
   subst ajB
   subst e
   exact fI ae bE f4 dd w7 Ex Ey
 ·refine yI ba λae bE f4 dd e ajC w7 Ex Ey=>?_
  subst ajC
  subst e
  exact fI ae bE f4 dd w7 Ex Ey
end
end
section
open Mine.Internal.Tab
noncomputable def nj(r:List I):L:=.tup (r.map .str)
theorem FA(r:List I):kQ (r.map .str)=some r:=I9 (f:=pX) (g:=L.str) (λo=>rfl) r
theorem aa3(cE:List (List I)):tg (cE.map nj)=some cE:=I9 (f:=λa=>(kF a).bind kQ) (g:=nj) FA cE
theorem aa4:∀cE:List (List I),cE≠[]->kQ (cE.map nj)=none
 |[],h=>absurd rfl h
 |r::cE,_=>rfl
theorem afO{a b:List I}(h:a.map L.str=b.map L.str):a=b:=dq ((FA a).symm.trans ((congrArg kQ h).trans (FA b)))
theorem p9{α:Type} [DecidableEq α]{x:α}{m:List α}:x∈eU m↔x∈m:=by
 induction m with
 |nil=>rfl
 |cons y r aJ=>
  show x∈(if y∈r then eU r else y::eU r)↔_
  by_cases h:y∈r
  ·rw[if_pos h,aJ,dU];exact⟨.inr,λq=>q.elim (λe=>e▸h) id⟩
  ·rw[if_neg h,dU,dU,aJ]
theorem J8{α:Type} [DecidableEq α](m:List α):(eU m).Nodup:=by
 induction m with
 |nil=>exact .nil
 |cons y r aJ=>
  show(if y∈r then eU r else y::eU r).Nodup
  by_cases h:y∈r
  ·rw[if_pos h];exact aJ
  ·rw[if_neg h];exact mC.mpr ⟨λq=>h (p9.mp q),aJ⟩
theorem OG{α:Type} [DecidableEq α]{m N:List α}(aN:m.Nodup)(hm:N.Nodup)(h:∀x,x∈m↔x∈N):m.Perm N:=(List.perm_ext_iff_of_nodup aN hm).mpr h
theorem ads{α bq:Type}{f:bq->α}{Y N:List α}(p:N.Perm Y):∀m:List bq,N=m.map f->∃gS:List bq,Y=gS.map f∧gS.Perm m:=by
 induction p with
 |nil=>exact λm e=>bx m e (.refl m)
 |cons a _ aJ=>
  exact λm e=>by
   cases m with
   |nil=>cases e
   |cons b m=>cases e;exact aU (aJ m rfl) λgS e p=>bx (b::gS) (e▸rfl) (p.cons b)
 |swap a b t=>
  exact λm e=>by
   cases m with
   |nil=>cases e
   |cons c m=>cases m with
    |nil=>cases e
    |cons d m=>cases e;exact bx (d::c::m) rfl (.swap c d m)
 |trans _ _ i j=>exact λm e=>aU (i m e) λgS cm p=>aU (j gS cm) λabw WL q=>bx abw WL (q.trans p)
theorem afe{Y:List L}{cE:List (List I)}(aL:Y.Perm ((eU cE).map nj))(d5:cE.all (λr=> !r.isEmpty)=true)(dW:(eU cE).length<=63):nd Y=some ((eE e0 (eU cE)).map nj):=by
 refine aU (ads aL.symm _ rfl) λGL e n5=>?_
 subst e
 have aP:eE e0 GL=eE e0 (eU cE):=zD tJ (((i0 GL).trans n5).trans (i0 (eU cE)).symm) (yj tJ _) (yj tJ _)
 refine(if_neg (by rw[dC,n5.length_eq];exact lQ.mpr dW)).trans ?_
 rw[<-aP]
 cases GL with
 |nil=>rfl
 |cons r t=>
  rw[aa4 _ (Cp r t),aa3]
  exact if_pos (i8.mpr λr ba=>i8.mp d5 r (p9.mp (n5.mem_iff.mp ba)))
section
variable{D:Bool}{E:bM}{K:cb}{M:cv}{m:List bo}{W J bT bV:List aa}{s:ay}{names:List (I×b4)}{U c':List (I×Nat)}{d:Nat}{O:bo}{C:aI}{l:St}{bp:aa->List L->St->ao L}{aA:ab->ay->Prop}
theorem bG.draw{aw:List aa}{ah:ay}{dG:oC}(g:bG D bT W J s aw ah):bG D bT W J s aw {ah with drawn:=dG}:=⟨g.ext,g.keep,g.live,g.same,g.lp,g.lv⟩
theorem br.inv2{h:aV}{v:ab}{Y:List L}{T:List ab}(r:br E J h Y (v::T)):∃a m,Y=a::m∧bf E J h a v∧br E J h m T:=by
 cases Y with
 |nil=>cases r.nil_inv
 |cons a Y=>exact eL r.cons_inv λyx t e eu eK=>by cases e;exact kV a Y rfl eu eK
theorem ag8{h:aV}{T jW:List ab}(p:T.Perm jW):∀{Y:List L},br E J h Y T->∃vW,vW.Perm Y∧br E J h vW jW:=by
 induction p with
 |nil=>exact λr=>bx _ (.refl _) r
 |cons v p aJ=>exact λr=>eL r.inv2 λa m z eu eK=>aU (aJ eK) λvW q eP=>bx (a::vW) (z▸q.cons a) (.cons eu eP)
 |swap v u t=>exact λr=>eL r.inv2 λa m z eu eK=>eL eK.inv2 λb N i3 qE tG=>bx (b::a::N) (by rw[z,i3];exact .swap a b N) (.cons qE (.cons eu tG))
 |trans _ _ aar aas=>exact λr=>aU (aar r) λvW q eP=>aU (aas eP) λahZ dZ GD=>bx ahZ (dZ.trans q) GD
theorem WR{h:aV}{af:Array (Int×ab)}{aY:List (List L)}(cJ:oD h af aY)(aN:∀k∈aY,k.length<=e7)(hT:∀(i:Nat)(x:Int×ab),af[i]? =some x->∃c,x.2=.ref c∧¬E.cP c):br E J h (aY.map .tup) (af.toList.map (·.2)):=by
 refine BP (by simp[cJ.1]) λj a v ai am=>?_
 rw[h1] at ai am
 refine aU (hL.mp ai) λk aM ajt=>?_
 subst ajt
 refine aU (hL.mp am) λx aD aju=>?_
 subst aju
 replace aD:=(lK)▸aD
 refine aU (cJ.2 j k aM) λc a3 a4=>?_
 replace a3:=aD▸a3
 refine aU (hT j x aD) λdd cI eV=>?_
 (obtain rfl:=dq a3)
 simp only at cI
 (injection cI with cI;subst cI)
 exact G' eV a4 (aN k (fG aM)) rfl
theorem afj{a:aa}{aY:List (List L)}{cE:List (List I)}{an:ab->ay->Prop}(a8:M.handled=none)(S:a' E J l s.heap)(oO:kz E.cP s.heap a aY)(hm:∀y,y∈aY↔y∈cE.map λr=>r.map L.str)(d5:cE.all (λr=> !r.isEmpty)=true)
 (cY:∀v ah aw,a' E aw (l++[.list ((eE e0 (eU cE)).map nj)]) ah.heap->bf E aw ah.heap (.loc l.length) v->bG D bT W J s aw ah->an v ah):
 a9 (a1 aH w) M (call (.builtin "sorted") [.ref a]) an aA s:=by
 refine RD abn adI WZ (TV _) ?_
 refine aE (m:=checkCount "sorted" 1 1 _) (bj ?_)
 refine aE (VP (M:=M.in1) a8 oO λae bE dG T af cJ hT aL dz=>?_)
 have M1:aY.Perm ((eU cE).map λr=>r.map L.str):=by
  refine OG oO.nodup ?_ λy=>?_
  ·exact aks _ (λa b jK e=>jK (afO e)) (J8 cE)
  ·rw[hm];simp[p9]
 refine aU (ag8 aL.symm (WR (J:=J) cJ oO.len hT)) λY ahY cL=>?_
 have Rd:Y.Perm ((eU cE).map nj):=ahY.trans (by
  have:=M1.map L.tup
  simp only[lO] at this
  exact this)
 have dW:(eU cE).length<=4:=by
  have:=M1.length_eq
  simp only[dC] at this
  refine this▸?_;exact oO.mR
 have e:=afe Rd d5 (b6 [_] 1 al (.num 63) 1 al (.num 4) rfl dW)
 have ZD:T.length<=4:=by simp only[cL.length,Rd.length_eq,dC];exact dW
 refine cr (PS (s:={s with heap:=ae,toks:=bE,drawn:=dG}) e cL M.in1.in1) λout ki kY tx=>?_
 refine aE (BX ?_ (by simp only[jU];omega))
 have aO:ae.get? ae.objs.size=none:=hR
 refine aE (gL (oo ae7 ⟨_,eS _ rfl,rfl⟩ WV (Nb (s:={s with heap:=ae.push {cls:=.type "list",data:=.seq T.toArray 0},toks:=bE,drawn:=dG}) (n:=0) (eS _ rfl) (b6 [_] 1 al (.num 10000) 1 al (.num 4) rfl ZD) ki ?_ λcC N gE aM=>bx _ rfl ?_) (TR _)))
 ·rcases tx with q |⟨b0,bO⟩
  ·exact .inl q
  ·refine .inr ⟨b0,λah aP=>bO ah ?_⟩
   refine .of (λo o e=>e) λb A e=>aP b A (ho (eF e)) (dM _ e)
 ·have cz:∀b A,s.heap.get? b=some A->cC.get? b=some A:=λb A e=>aM b A (ho (eF (dz b A e))) (dM _ (dz b A e))
  have gr:s.heap.get? ae.objs.size=none:=by
   cases q:s.heap.get? ae.objs.size with
   |none=>rfl
   |some A=>exact absurd (eF (dz _ _ q)) (kw _)
  have dP:fq E J (J++[ae.objs.size]) ae cC:=.of (λn b e=>by simp only[jv (gt.mp e).1,e]) λb A e=>aM b A (ho (eF e)) (dM _ e)
  refine bj ⟨_,rfl,cY _ _ (J++[ae.objs.size]) (S.push cz gr ⟨out.toArray,⟨N,gE⟩,by simp only[oI,ki,jU];omega,by exact kY.mono dP _ _⟩) (by exact bx _ (by refine S.len▸?_;simp) rfl) (bG.draw (bG.push cz gr))⟩
end
end
section
open Mine.Internal.Tab
section
variable{D:Bool}{E:bM}{K:cb}{M:cv}{m:List bo}{W J bT bV:List aa}{s:ay}{names:List (I×b4)}{U c':List (I×Nat)}{d:Nat}{O:bo}{C:aI}{l:St}{bp:aa->List L->St->ao L}{aA:ab->ay->Prop}
theorem aef{h:aV}{r:List I}{v:ab}(e:bf E J h (nj r) v):∃c,v=.ref c∧hp h (r.map L.str) c∧(r.map L.str).length<=e7∧¬E.cP c:=by
 refine ge λdT cD=>?_
 refine k6 (qO e) λc T ajq hT ajr aN cL=>?_
 subst ajq
 obtain⟨A,az,aK,n,hd⟩:=ajr
 refine cD ?_
 clear cD dT
 refine FR c rfl ⟨A,T.toArray,n,az,aK,hd,?_⟩ (by refine cL.length▸?_;exact aN) hT
 exact MH cL λa ar v ev=>aU (gY.mp ar) λx o z=>Po (z▸rfl) ev
theorem aeL:rn "set"=some (.type "set"):=by rfl
theorem aff:rn "sorted"=some (.builtin "sorted"):=by rfl
theorem aei{h:aV}{cE:List (List I)}{dm:Array ab}(cL:br E J h (cE.map nj) dm.toList)(aK:cE.all (λr=> !r.isEmpty)=true):ug E.cP h (cE.map λr=>r.map L.str) dm:=by
 have dW:=cL.length
 simp at dW
 refine⟨by simp[dW],λj k cy=>?_⟩
 rw[h1] at cy
 refine aU (hL.mp cy) λr ba z=>?_
 subst z
 have d5:=i8.mp aK r (fG ba)
 refine aU (cL.get (i:=j) (a:=nj r) (by simp only[h1,ba];rfl)) λv ck aes=>?_
 refine ij (aef aes) λc z ai am a6=>?_
 subst z
 refine⟨?_,am,c,by simpa using ck,ai,a6⟩
 cases r with
 |nil=>simp at d5
 |cons x r=>exact A0 x (r.map L.str) rfl
theorem aej{cE:List (List I)}(aK:(eU cE).length<=Bq){m:List (List L)}(aN:m.Nodup)(hm:∀y∈m,y∈cE.map λr=>r.map L.str):m.length<=4:=by
 refine da (da (aN.length_le_of_subset (l₂:=(eU cE).map λr=>r.map L.str) λy bD=>?_) (dI (dC _))) aK
 refine aU (gY.mp (hm y bD)) λr ba z=>?_
 subst z
 exact gY.mpr ⟨r,p9.mpr ba,rfl⟩
theorem aeJ{Y:List L}{m:List L}(h:vy Y=some m):∃cE,Y=cE.map nj∧(eU cE).length<=Bq∧cE.all (λr=> !r.isEmpty)=true∧m=(eE e0 (eU cE)).map nj:=
 gn h λcE iU e=>dL (u5 e) λq z=>⟨cE,MB iU,q.1,q.2,z.symm⟩
theorem Xo{e:Expr}{cK el j' pos:bu}{d1:St->ao L}{iB:St->ao (List L)}(Z:ef K E)(vl:iR K names "sorted"=true)(vm:iR K names "set"=true)(aP:fO [e])(fp:hv E D names U d [e] C iB)(kN:∀l,iB l=(d1 l).bind λx ak=>.ok [x] ak):
 dB E D names U d (.Call (.Name "sorted" cK) [.Call (.Name "set" el) [e] [] j'] [] pos) C (λl=>(d1 l).bind λv ak=>(opt ((h5 ak v).bind vy) ak).bind λm=>rX (.list m)):=λM m O J l s P aG=>by
 simp only[iR,gW,pD,beq_iff_eq] at vl vm
 refine aE (xJ Z P.st.base P.dJ vl.1.1.1 vl.1.1.2 aff (by decide) vl.1.2 ?_)
 have AD:gc (Expr.Call (.Name "set" el) [e] [] j'):=⟨λo o=>rfl,λo=>rfl,λo o=>rfl⟩
 refine DE (P:=λh=>E.heap.StaysIn h) (by rfl) (tk (by simp)) (z9 (.cons AD .nil) ?_)
 rw[yl AD]
 refine aE ?_
 refine aE (xJ Z P.st.base P.dJ vm.1.1.1 vm.1.1.2 aeL (by decide) vm.1.2 ?_)
 refine JE (· ≠.fail) (λr QP bd=>a9 (a1 aH w) M (do let t <-holding [QP] (yk (iQ pos (ii [] O)));pure (QP::t)) (λT ah=>E.heap.StaysIn ah.heap∧a9 (a1 aH w) M (call (Ts "sorted") T []) (lS E D (bf E) m [] J s r) (f' E D m [] J s r) ah) (f' E D m [] J s r) bd) (λr=>f' E D m [] J s r) aP (tk (by simp)) fp kN P aG (λq=>q rfl) (λo o o o p=>p) λx ak v bd b3 aG bt x6 bK=>?_
 cases wX:(h5 ak x).bind vy with
 |none=>rw[wX] at aG;exact absurd rfl aG
 |some gS=>
 refine gn wX λY XF W1=>?_
 refine ij (aeJ W1) λcE z l4 l5 il=>?_
 subst z il
 obtain⟨n,rfl,ex⟩:=ur XF
 refine aU (gK x6) λfs YO q=>?_
 subst q
 refine cr (xI bt YO ex) λdm cZ aZ cL=>?_
 refine Vw P.room.a8 (by have:=P.room.units;exact b6 [_,_,_] 1 (Ns (.add al (.num 10))) ax 1 (Ns (.add (.add al (.mulL 40 aT)) (.num 420))) ax rfl this) cZ (aei cL l5) (λm aN hm=>aej l4 aN hm) λae bE aY oO rC dz=>?_
 have di:=bt.more dz
 refine aE (gL (bj ?_))
 refine bj ⟨di.base,?_⟩
 refine afj (D:=D) (bT:=ci m) (W:=[]) (s:={bd with heap:=ae,toks:=bE}) P.room.a8 di oO rC l5 λv jl sf kC oj jb=>?_
 exact⟨_,_,rfl,sf,kC,oj,bK.trans ((bG.more (t:=bE) dz).trans jb)⟩
end
end
noncomputable def A9(K:cb)(names:List (I×b4))(x:I)(Q f:aa):Bool:=kP names x&&ha K gh x==some (some (.ref Q))&& u9 K (.ref Q)&& makesIn K Q&&jE K (.ref Q) "__init__" == some (some (.ref f))&& pv K (.ref f)== some (.type "function")&& !(x==("__debug__":I))
section
variable{D:Bool}{E:bM}{K:cb}{M:cv}{m:List bo}{W J bT bV:List aa}{s:ay}{names:List (I×b4)}{U c':List (I×Nat)}{d:Nat}{O:bo}{C:aI}{l:St}{bp:aa->List L->St->ao L}{aA:ab->ay->Prop}
theorem agv{Q f:aa}{Y:List L}{T:List ab}(Z:ef K E)(hm:makesIn K Q=true)(aR:jE K (.ref Q) "__init__"=some (some (.ref f)))(xv:pv K (.ref f)=some (.type "function"))(R:nG d M m)(S:a' E J l s.heap)(F:gM E J s.heap m)(cL:br E J s.heap Y T)
 (l6:∀Y l,i5 E D d f Y l (bp f Y l)):
 a5 E D M m [] J s (call (.ref Q) T) (bf E) ((bp f (.loc (l.length+1):: Y) (l++[.cj []]++ [.inst Q l.length])).bind λr a2=>r.mc (.ok (.loc (l.length+1)) a2)):=λaG=>by
 obtain⟨h,g,dG,t,os⟩:=s
 have X:K.In h:=Z.X.keeps S.base
 refine r9 (make_core (makes_of X hm) (AZ X aR) (λself=>bind_fn X self xv) (.inl rfl) ?_)
 have l9:h.get? h.objs.size=none:=hR
 have cF:∀b A,h.get? b=some A->(h.push iT).get? b=some A:=λb A e=>dM _ e
 have Qm:(h.push iT).objs.size=h.objs.size+1:=oG ..
 have bt:a' E (J++[h.objs.size]) (l++[.cj []]) (h.push iT):=S.push cF l9 ⟨[],⟨_,#[],0,eS _ rfl,⟨rfl,rfl,rfl⟩,rfl,by intro e bw;simp at bw,.nil,ub⟩,rfl,by simp,.nil,(by decide)⟩
 have rD:(h.push iT).get? (h.push iT).objs.size=none:=hR
 have cz:∀b A,(h.push iT).get? b=some A->((h.push iT).push (md Q h.objs.size)).get? b=some A:=λb A e=>dM _ e
 have di:a' E (J++[h.objs.size]++ [h.objs.size+1]) (l++[.cj []]++ [.inst Q l.length]) ((h.push iT).push (md Q h.objs.size)):=by
  have:=bt.push (a:=(h.push iT).objs.size) (A:=.inst Q l.length) cz rD ⟨h.objs.size,by
   rw[jv (by rw[bt.len];simp),<-S.len];simp,eS _ rfl⟩
  rw[Qm] at this
  exact this
 have KN:J++[h.objs.size]++ [h.objs.size+1]=J++[h.objs.size,h.objs.size+1]:=by simp
 rw[KN] at di
 have abb:∀b A,h.get? b=some A->((h.push iT).push (md Q h.objs.size)).get? b=some A:=λb A e=>cz b A (cF b A e)
 have jJ:bG D (ci m) [] J ⟨h,g,dG,t,os⟩ (J++[h.objs.size,h.objs.size+1]) ⟨(h.push iT).push (md Q h.objs.size),g,dG,t,os⟩:=by
  have bW:bG D (ci m) [] J ⟨h,g,dG,t,os⟩ (J++[h.objs.size]) ⟨h.push iT,g,dG,t,os⟩:=bG.push (s:=⟨h,g,dG,t,os⟩) (t:=t) cF l9
  have ct:bG D (ci m) [] (J++[h.objs.size]) ⟨h.push iT,g,dG,t,os⟩ (J++[h.objs.size]++ [(h.push iT).objs.size]) ⟨(h.push iT).push (md Q h.objs.size),g,dG,t,os⟩:=bG.push (s:=⟨h.push iT,g,dG,t,os⟩) (t:=t) cz rD
  have:=bW.trans ct
  rw[Qm,KN] at this
  exact this
 have RS:gM E (J++[h.objs.size,h.objs.size+1]) ((h.push iT).push (md Q h.objs.size)) m:=F.grow jJ (by simp)
 have dP:fq E J (J++[h.objs.size,h.objs.size+1]) h ((h.push iT).push (md Q h.objs.size)):=.of (λn b e=>by rw[jv (gt.mp e).1,e]) abb
 have aD:bf E (J++[h.objs.size,h.objs.size+1]) ((h.push iT).push (md Q h.objs.size)) (.loc (l.length+1)) (.ref (h.objs.size+1)):=by
  refine⟨_,?_,rfl⟩
  rw[Sm (by rw[S.len];exact hJ [_] al (Ns al) rfl),S.len]
  simp
 have qh:wE d (M.under (.builtin "type.__call__" ⟨.ref Q::T,[]⟩)) m:=by
  refine⟨R.a8,?_,?_,R.frames⟩
  ·show M.depth+1+5*d<600
   have:=R.depth;exact b6 [_,_] 1 (Ns (.add (Ns al) (.mulL 5 ax))) (.num 600) 1 (Ns (.add (.add al (.mulL 5 ax)) (.num 3))) (.num 600) rfl this
  ·show M.units+1+40*d+400<hO
   have:=R.units;exact b6 [_,_,_] 1 (Ns (.add (.add (Ns al) (.mulL 40 ax)) (.num 400))) aT 1 (Ns (.add (.add al (.mulL 40 ax)) (.num 420))) aT rfl this
 have ZM:bp f (.loc (l.length+1):: Y) (l++[.cj []]++ [.inst Q l.length])≠.fail:=λq=>by rw[q] at aG;exact aG rfl
 refine nU (l6 _ _ _ m _ ⟨(h.push iT).push (md Q h.objs.size),g,dG,t,os⟩ _ qh di RS (.cons aD (cL.mono dP _ _)) ZM) λeP ah ba=>?_
 cases eP with
 |error e=>
  obtain⟨a,av,q,aw,cG,jF,fB⟩:=ba
  have w1:=jF.back (s:=⟨h,g,dG,t,os⟩) jJ.live
  exact⟨a,av,by rw[q];rfl,aw,cG,w1,jJ.trans fB⟩
 |ok aC=>
  cases aC with
  |ret v=>
   obtain⟨a,av,q,aw,cG,ev,fB⟩:=ba
   rw[q] at aG
   simp only[ao.nS] at aG
   cases a with
   |none=>
    refine⟨vP ev,.loc (l.length+1),av,by rw[q];rfl,aw,cG,?_,jJ.trans fB⟩
    exact aU aD λc aK e=>⟨c,fB.get aK,e⟩
   |_=>exact absurd rfl aG
  |_=>exact ba.elim
theorem Xj{x:I}{Q f:aa}{p pos:bu}{args:List Expr}{c0:St->ao (List L)}(Z:ef K E)(ok:A9 K names x Q f=true)(aP:fO args)(fp:hv E D names U d args C c0)
 (l6:∀Y l,i5 E D d f Y l (bp f Y l)):dB E D names U d (.Call (.Name x p) args [] pos) C (λl=>(c0 l).bind λY ak=>(bp f (.loc (ak.length+1):: Y) (ak++[.cj []]++ [.inst Q ak.length])).bind λr a2=>r.mc (.ok (.loc (ak.length+1)) a2)):=λM m O J l s P=>by
 simp only[A9,gW,pD,beq_iff_eq] at ok
 refine ge λdT cD=>?_
 obtain⟨⟨⟨⟨⟨⟨ki,kY⟩,tx⟩,Gb⟩,acP⟩,acQ⟩,acR⟩:=ok
 refine cD ?_
 clear cD dT
 intro aG
 refine aE (xK Z P.st.base P.dJ ki kY acR ?_)
 exact vI (first:=[]) (k:=λY ak=>(bp f (.loc (ak.length+1):: Y) (ak++[.cj []]++ [.inst Q ak.length])).bind λr a2=>r.mc (.ok (.loc (ak.length+1)) a2)) aP (AV Z tx) fp P (λY av T ah aw S h g=>agv Z Gb acP acQ P.room S (P.fr.grow g (by simp)) (by exact h) l6) aG
end
inductive uk(K:cb)(f:aa)(aX:fV)(Q dS:aa):Prop
 |mk {f7:ab} {cc:Option aa} {f8:Array (Option ab)} (dQ:K.lookup f=some ⟨f7,cc,.func aX,f8⟩) {sN:aa} {DH:ab} {DK:Option aa} {T:Array ab} {DI:Array (Option ab)} {file:I} {Ha:j3}
  (code:aX.code=.ref sN) (at_:K.lookup sN=some ⟨DH,DK,.fields T,DI⟩) (k4:T[2]? =some (.str file Ha)) (Ad:((aH.main.file:I)== file)=true)
  {p3:aa} {dx:ab} {VI:Option aa} {DZ:Array (Option ab)} (cell:aX.closure.lookup ("__class__":I)=some p3) (JF:K.lookup p3=some ⟨dx,VI,.cell (some (.ref dS)),DZ⟩) {DJ:HN} (cls:ro K dS=some DJ) (NK:m4 K Q (.ref dS)=some true)
  (top:(aH.main.scope.names.lookup ("super":I)).isSome=false) (free:ha K gh "super"=some none)
structure IU(K:cb)(f:aa)(aX:fV)(U:List (I×Nat))(name:I)(Q dk dS:aa)(h4:hY):Prop where
 s:uk K f aX Q dS
 Eo:w2 K dk=true
 first:(aX.params.posonlyargs++aX.params.args).head? =some h4
 Gm:U.lookup h4.arg=some 0
 Bi:aX.scope.names.lookup h4.arg=some .local
 sup:aX.scope.names.lookup ("super":I)=some .globalImplicit
 cls:aX.scope.names.lookup ("__class__":I)=some .free
 VL:¬(("__class__":I),jw)∈aX.scope.names
 at_:pc K Q dS name=some (some (.ref dk))
 any:ha K ux "thirdparty.any"=some none
 ty:pv K (.ref dk)=some (.type "function")
 uC:(name==("__class__":I))=false
section
variable{D:Bool}{E:bM}{K:cb}{M:cv}{m:List bo}{W J bT bV:List aa}{s:ay}{names:List (I×b4)}{U c':List (I×Nat)}{d:Nat}{O:bo}{C:aI}{l:St}{bp:aa->List L->St->ao L}{aA:ab->ay->Prop}
theorem Qg:rn "super"=some (.type "super"):=by rfl
theorem aeB{Q:aa}{x:L}(h:yc C l Q=some x):∃n eg,x=.loc n∧(C[0]? :Option (Option L))=some (some (.loc n))∧l[n]? =some (.inst Q eg):=
 gn h λv e h=>A2 (P:=λx=>∃n eg,x=.loc n∧(C[0]? :Option (Option L))=some (some (.loc n))∧l[n]? =some (.inst Q eg)) h λp q=>kV p.1 p.2 rfl ((u8 q).1▸S5.mp e) (u8 q).2
theorem DP{Q:aa}{jB:HN}(h:ro K Q=some jB):∃A,K.lookup Q=some A∧A.data=.cls jB:=by
 unfold ro at h
 cases z:K.lookup Q with
 |none=>rw[z] at h;cases h
 |some A=>
  rw[z] at h
  refine bx A rfl ?_
  obtain⟨c,d,data,e8⟩:=A
  cases data with
  |cls JI=>exact congrArg _ (dq h)
  |_=>cases h
theorem uk.at {f:aa}{aX:fV}{Q dS:aa}(o:uk K f aX Q dS):∃f7 cc f8,K.lookup f=some ⟨f7,cc,.func aX,f8⟩:=by cases o with |mk dQ=>exact⟨_,_,_,dQ⟩
theorem Qi{f Q dS x:aa}{aX:fV}{name:I}{h4:hY}{hV cK e4 pos qc:bu}{args:List Expr}{cu:List ey}{N jj:I->Option ab}{c3:cV}{h:aV}{g:Array pI}{dG:oC}{t:Nat}{os:kx}{an:mw->ay->Prop}(o:uk K f aX Q dS)(X:K.In h)
 (aM:O.scope.kind=.function) (rC:O.kindOf "super"=some .globalImplicit) (Aw:O.kindOf "__class__"=some .free) (EU:O.func=some f) (EM:O.code=aX.code) (Ar:O.cells.lookup ("__class__":I)=aX.closure.lookup ("__class__":I)) (dR:O.globals=gh) (ag:O.builtins=sL)
 (EF:(aX.params.posonlyargs++aX.params.args).head? =some h4) (ED:O.kindOf h4.arg=some .local) (gr:h.Ns O.locals N) (mX:N h4.arg=some (.ref x)) (qm:h.Ns sL jj) (a7:jj "super"=some (.type "super")) (aD:h.get? x=some c3) (aK:c3.cls=.ref Q) (E5:∀c,c3.data≠.cls c)
 (uC:(name==("__class__":I))=false) (aL:(e4.endLine==pos.line)=true) (aP:fO args) (aN:args.length<30)
 (k:∀ae cZ,(∀b A,h.get? b=some A->ae.get? b=some A)->ae.get? h.objs.size=some {cls:=.type "super",dict:=none,data:=.fields #[.ref dS,.ref x,.ref Q],slots:= #[]}->a9 (a1 aH w) M (uO (.ref h.objs.size) name cZ) (λn0 cR=>a9 (a1 aH w) M (p2 pos n0.1 n0.2 (iQ pos (ii args O)) [])
  (λx ah=>PySem.wpAt (a1 aH w) M (.func (.Expr (.Call (.Attribute (.Call (.Name "super" hV) [] [] cK) name e4) args [] pos) qc::cu) O) (sR cu O) an aA ah) aA cR) aA ⟨ae,g,dG,t,os⟩):
 PySem.wpAt (a1 aH w) M (.func (.Expr (.Call (.Attribute (.Call (.Name "super" hV) [] [] cK) name e4) args [] pos) qc::cu) O) (sR (.Expr (.Call (.Attribute (.Call (.Name "super" hV) [] [] cK) name e4) args [] pos) qc::cu) O) an aA ⟨h,g,dG,t,os⟩:=by
 cases o with |mk dQ code at_ k4 Ad cell JF cls NK top free=>
 refine bz (Je (A:=.Call (.Name "super" hV) [] [] cK) (name:=name) (O:=O) (args:=args) aL aP aN) λcZ bw=>aU (DP cls) λalv w' Ld=>?_
 refine abs (ks_wpAt_Expr_any (ks_wpAt_MethodCall (pl:=cZ) (ks_wpAt_super_base rC Aw uC EU (X _ _ dQ) rfl EF (EM.trans code) (X _ _ at_) rfl k4 Ad top ?_) bw) (by dsimp only[aaY];simp[aM]) (by rfl))
 refine ks_loadName_global aM rC ?_
 dsimp only[Nj]
 rw[dR,ag]
 refine aE ((Nk X free).here (aE (ahD qm ?_)))
 rw[a7]
 refine bj ⟨rfl,ahB aM Aw (Ar.trans cell) ⟨_,X _ _ JF,rfl⟩ (yC aM ED gr mX (ks_wpAny_isType_cls (X _ _ w') Ld ⟨rfl,?_⟩))⟩
 exact ks_wpAny_call_super (X _ _ w') Ld aD aK E5 (FN X NK) λae jf cF=>k ae cZ cF jf
theorem Qh{Q dS x dk k1:aa}{name:I}{c3:cV}{h:aV}{g:Array pI}{dG:oC}{t:Nat}{os:kx}{cZ:dh Bool}{an:ab×List ab->ay->Prop}(X:K.In h)(aD:h.get? x=some c3)(E5:∀c,c3.data≠.cls c)
 (jf:h.get? k1=some {cls:=.type "super",dict:=none,data:=.fields #[.ref dS,.ref x,.ref Q],slots:= #[]}) (at_:pc K Q dS name=some (some (.ref dk))) (ty:pv K (.ref dk)=some (.type "function")) (any:ha K ux "thirdparty.any"=some none) (uC:(name==("__class__":I))=false)
 (a7:an (.ref h.objs.size,[]) ⟨h.push (ts (.ref dk) (.ref x)),g,dG,t+1,os⟩):a9 (a1 aH w) M (uO (.ref k1) name cZ) an aA ⟨h,g,dG,t,os⟩:=
 gn at_ λjB aK ED=>aU (hL.mp ty) λof ZT ZU=>aU (DP aK) λacS ai am=>ks_wpAny_getMethod_super jf (abP X any) (l₀:=jB.mro) (λM an aA s k q=>aE ((xL X aK) M _ aA s k (bj q))) rfl X ED (X _ _ ZT) ZU (λe=>by subst e;cases aD.symm.trans (X _ _ ai);exact E5 jB am) uC a7
theorem aap{x:L}{r:ao (dg×aI)}{f:dg×aI->St->ao (dg×aI)}:(x.mc r).bind f=x.mc (r.bind f):=by cases x <;> rfl
theorem afX{aX:fV}{dk x b:aa}{n t:Nat}{am:aV}{pos:bu}{args:List Expr}{body cu:List ey}{c0:aI->St->ao (List L)}{fg:aI->St->ao (dg×aI)}{r:ao (dg×aI)}(Z:ef K E)(Eo:w2 K dk=true)(aP:fO args)(P:dN E aX.scope.names U d M (O::m) O J C l s)(aD:J[n]? =some x)
 (cz:∀b A,s.heap.get? b=some A->am.get? b=some A) (o4:am.get? b=some (ts (.ref dk) (.ref x))) (s2:s.heap.get? b=none) (fp:∀C,hv E D aX.scope.names U d args C (c0 C)) (l6:∀Y l,i5 E D d dk Y l (bp dk Y l)) (ba:mL E D aX.scope.names U d cu fg)
 (iU:r=(c0 C l).bind λY ak=>(bp dk (.loc n::Y) ak).bind λa a2=>a.mc (fg C a2)) (aG:r≠.fail):
 a9 (a1 aH w) M (p2 pos (.ref b) [] (iQ pos (ii args O)) []) (λo ah=>PySem.wpAt (a1 aH w) M (.func body O) (sR cu O) (lS E D (mJ E U O) (O::m) (fw U O) J s r) (f' E D (O::m) (fw U O) J s r) ah)
  (f' E D (O::m) (fw U O) J s r) {s with heap:=am,toks:=t}:=by
 have jJ:bG D (ci (O::m)) [] J s J {s with heap:=am,toks:=t}:=.more cz
 have sy:dN E aX.scope.names U d M (O::m) O J C l {s with heap:=am,toks:=t}:=P.grow jJ (P.st.more cz)
 refine DD (λa8=>MethP K b dk (.ref x) a8) aP (λa8 X=>keeps_M Eo a8 X) (fp C) sy (λq=>aG (by rw[iU,q];rfl)) (λY ak ag9 ah b3 cI bt cN bK=>?_) λe ah p=>(p.cast (λo o q=>by rw[iU,q];rfl) hF).back (jJ.weaken hF)
 rw[cI] at iU
 have LP:ah.heap.get? b=some (ts (.ref dk) (.ref x)):=(bK.keep _ _ (λhm=>P.st.there _ hm s2) hK o4).resolve_right λz=>oZ P.fr z.1 s2
 have sV:=jJ.trans bK
 refine⟨⟨LP,Z.X.keeps bt.base⟩,r9 (abr LP (nU (l6 (.loc n::Y) ak M (O::m) b3 ah (.ref x::ag9) P.room.He bt (sy.grow bK bt).fr (.cons (bx x (sV.get aD) rfl) cN) λq=>aG (iU.trans (by rw[ao.nS,q];rfl))) λr qG l'=>?_))⟩
 cases r with
 |error e=>exact(f'.cast l' (λo o q=>iU.trans (by rw[ao.nS,q];rfl)) hF).back (sV.weaken hF)
 |ok aC=>cases aC with
  |ret v=>
   cases l' with |mk a a2 q eI di ev dE=>
   rw[ao.nS,q] at iU
   cases a with
   |none=>
    subst iU
    have g3:=sV.trans dE
    exact Hu (fx (ba _ _ _ _ _ _ _ (P.grow g3 di) aG) (λo o p=>p.back (g3.weaken hF)) λo o p=>p.back (g3.weaken hF))
   |_=>exact absurd iU aG
  |_=>exact l'.elim
theorem aeD{Q:aa}{h4:hY}{v:L}(P:dN E names U d M (O::m) O J C l s)(Gm:U.lookup h4.arg=some 0)(Bi:names.lookup h4.arg=some .local)(af:yc C l Q=some v):∃n x N bC,v=.loc n∧J[n]? =some x∧s.heap.get? x=some (md Q bC)∧s.heap.Ns O.locals N∧N h4.arg=some (.ref x):=
 eL (aeB af) λn eg z a3 a4=>aU (P.st.at a4) λx aD ajs=>aU ajs λbC g6 AB=>aU (P.lo.val h4.arg 0 Gm) λv cZ q=>aU (q _ a3) λu aj0 r=>aU (gK r) λa ar ajK=>aU (cZ.local ((P.dJ.kindOf h4.arg).trans Bi)) λN gr hm=>Ny n x N bC z aD AB gr (hm.trans (aj0.trans (congrArg some (ajK.trans (congrArg hq (dq (ar.symm.trans aD)))))))
theorem Uh{f:aa}{aX:fV}{name:I}{Q dk dS:aa}{h4:hY}{hV cK e4 pos qc:bu}{args:List Expr}{cu:List ey}{c0:aI->St->ao (List L)}{fg:aI->St->ao (dg×aI)}(Z:ef K E)(o:IU K f aX U name Q dk dS h4)
 (aP:fO args) (aL:(e4.endLine==pos.line)=true) (aN:args.length<30) (fp:∀C,hv E D aX.scope.names U d args C (c0 C)) (l6:∀Y l,i5 E D d dk Y l (bp dk Y l)) (ba:mL E D aX.scope.names U d cu fg):
 zp E D f aX U d (.Expr (.Call (.Attribute (.Call (.Name "super" hV) [] [] cK) name e4) args [] pos) qc::cu)
  (λC l=>(((opt (yc C l Q) l).bind λx ak=>(c0 C ak).bind λY=>bp dk (x::Y)).bind λx ak=>x.mc (ao.ok (dg.next,C) ak)).bind λp ak=>p.1.go (fg p.2 ak) λv=>.ok (.ret v,p.2) ak):=λM m O J C l s P EU EM n2 aG=>by
 dsimp only at aG |-
 cases af:yc C l Q with
 |none=>rw[af] at aG;exact absurd rfl aG
 |some kp=>
 refine yI (aeD P o.Gm o.Bi af) λn x N bC z aD AB gr hm=>aU Z.jj λjj qm a7=>?_
 subst z
 rw[af] at aG
 have iU:=zJ.trans (zJ.trans (congrArg (ao.bind (c0 C l)) (funext λY=>funext λak=>congrArg (ao.bind (bp dk (.loc n::Y) ak)) (funext λa=>funext λa2=>aap (x:=a) (r:=.ok (.next,C) a2) (f:=λp ak=>p.1.go (fg p.2 ak) λv=>.ok (.ret v,p.2) ak)))))
 change ao.bind (ao.bind (ao.bind (c0 C l) (λY=>bp dk (.loc n::Y))) λx ak=>x.mc (ao.ok (dg.next,C) ak)) (λp ak=>p.1.go (fg p.2 ak) λv=>.ok (.ret v,p.2) ak)≠.fail at aG
 have X:K.In s.heap:=Z.X.keeps P.st.base
 dsimp only[opt,ao.nS] at aG |-
 generalize ao.bind (α:=dg×aI) (bq:=dg×aI) _ _=r at iU aG |-
 refine Qi (h:=s.heap) o.s X P.dJ.kind ((P.dJ.kindOf _).trans o.sup) ((P.dJ.kindOf _).trans o.cls) EU EM (n2 _ o.VL) P.dJ.globals P.dJ.builtins o.first ((P.dJ.kindOf _).trans o.Bi) gr hm (qm.keeps P.st.base) ((a7 "super" (by decide)).trans Qg) AB rfl (λc e=>by cases e) o.uC aL aP aN λae cZ cF jf=>?_
 refine Qh (X.keeps cF) (cF _ _ AB) (λc e=>by cases e) jf o.at_ o.ty o.any o.uC ?_
 have cz:∀b A,s.heap.get? b=some A->(ae.push (ts (.ref dk) (.ref x))).get? b=some A:=λb A e=>dM _ (cF b A e)
 have o4:(ae.push (ts (.ref dk) (.ref x))).get? ae.objs.size=some (ts (.ref dk) (.ref x)):=eS _ rfl
 have s2:s.heap.get? ae.objs.size=none:=zg.mpr λA q=>kw _ (eF (cF _ _ q))
 generalize ae.objs.size=b at o4 s2 |-
 generalize ae.push (ts (.ref dk) (.ref x))=am at cz o4 |-
 exact afX Z o.Eo aP P aD cz o4 s2 fp l6 ba iU aG
end
structure RQ(oS:List ab):Prop where
 exc:oS.contains (.type "Exception")=true
 base:oS.contains (.type "BaseException")=true
 noAttr:oS.contains (.type "AttributeError")=false
 noName:oS.contains (.type "NameError")=false
noncomputable abbrev tH(Q t:aa):cV:={cls:=.ref Q,data:=.fields #[.ref t,.none,.none,.none,.bool false,.none]}
section
variable{M:cv}{aA:ab->ay->Prop}{R:lT->ay->Prop}{h:aV}{g:Array pI}{d:oC}{t:Nat}{os:kx}{K:cb}
variable{nm q:I}{Q ap:aa}{bs oS:List ab}{l7:Bool}{c1:List I}{sub:List ab}{lX:Bool}{f5:Option Bool}{eg:Option aa}{mg cF cz g9 iX:Option ab}
noncomputable abbrev u'(nm q:I)(Q ap dO d3:aa)(bs:List ab)(l7:Bool)(c1:List I)(sub:List ab)(lX:Bool)(f5:Option Bool)(eg:Option aa)(mg cF cz g9 iX:Option ab):cV:=KL nm q Q ap bs [.ref dO,.ref d3,.type "Exception",.type "BaseException",.type "object"] l7 c1 sub lX f5 eg mg cF cz g9 iX "Exception.__new__"
inductive sk(f:aa->Option cV)(Q:aa):Prop
 |mk {nm q:I} {ap dO d3:aa} {bs:List ab} {l7:Bool} {c1:List I} {sub:List ab} {lX:Bool} {f5:Option Bool} {eg:Option aa} {mg cF cz g9 iX:Option ab} (h:f Q=some (u' nm q Q ap dO d3 bs l7 c1 sub lX f5 eg mg cF cz g9 iX))
theorem sk.to{f g:aa->Option cV}{Q:aa}(F:sk f Q)(k:∀A,f Q=some A->g Q=some A):sk g Q:=by cases F with |mk h=>exact .mk (k _ h)
theorem abd(aH:mI)(P:oL)(b:Bool)(nm q:I)(Q ap dO d3 n bE:Nat)(bs cu sub:List ab)(l7 lX:Bool)(c1:List I)(f5:Option Bool)(eg:Option aa)(mg cF cz g9 iX:Option ab):(l2 (runC ⟨aH,lf b P⟩ 1) ⟨aH,lf b P⟩ (JN "Exception.__new__" ⟨.ref Q::cu,[]⟩) [0,0,0,0,0,0,0] ⟨n,bE,[(false,Q,u' nm q Q ap dO d3 bs l7 c1 sub lX f5 eg mg cF cz g9 iX)]⟩).map seen=some (.ok (),⟨n,bE,[(false,Q,u' nm q Q ap dO d3 bs l7 c1 sub lX f5 eg mg cF cz g9 iX)]⟩,[Q,Q,Q,Q,Q,Q,Q],[Q,Q,Q,Q,Q,Q,Q]):=by cases b <;> kernel_rfl
theorem XQ{cu:List ab}{dO d3:aa}{an:Unit->ay->Prop}(a8:M.handled=none)(cB:h.get? Q=some (u' nm q Q ap dO d3 bs l7 c1 sub lX f5 eg mg cF cz g9 iX))
 (a7:∀ae,(∀c A,h.get? c=some A->ae.get? c=some A)->ae.objs.size=h.objs.size->an () ⟨ae,g,d,t,os⟩):a9 (a1 aH w) M (JN "Exception.__new__" ⟨.ref Q::cu,[]⟩) an aA ⟨h,g,d,t,os⟩:=
 Aa 1 _ _ (λb=>abd aH w.params b nm q Q ap dO d3 h.objs.size t bs cu sub l7 lX c1 f5 eg mg cF cz g9 iX) a8 ⟨cB,trivial⟩ ⟨trivial,trivial⟩ λae z q bv=>a7 ae (λc A=>bv c A trivial) z
theorem XR(b1:RQ oS){cu:List ab}(cB:h.get? Q=some (KL nm q Q ap bs oS l7 c1 sub lX f5 eg mg cF cz g9 iX "Exception.__new__"))(tb:cu.length<=e7)
 (a7:R (.ok (.ret (.ref (h.objs.size+1)))) ⟨(h.push {cls:=.type "tuple",data:=.seq cu.toArray}).push (tH Q h.objs.size),g,d,t,os⟩):
 gy (a1 aH w) M (.builtin "Exception.__new__" ⟨.ref Q::cu,[]⟩) R ⟨h,g,d,t,os⟩:=by
 have F:=PySem.F.excBase_Exception
 have ak9:=F.ends
 have YZ:(hq Q::oS).contains (.type "Exception")=true:=by simp only[HZ,b1.exc,pE]
 have YY:(hq Q::oS).contains (.type "AttributeError")=false:=by simp only[HZ,b1.noAttr];rfl
 have Y1:(hq Q::oS).contains (.type "NameError")=false:=by simp only[HZ,b1.noName];rfl
 refine codeAny_builtinAt F.entry ?_
 refine PySem.wpAt_bind ?_
 refine PySem.wpAt_bind (PySem.wpAt_stack λp h6=>PySem.wpAt_of_wpAny ?_)
 wp_walk
 refine PySem.wpAt_of_wpAny ?_
 refine F.owner▸?_
 repeat (first |with_reducible refine wpAny_madeHere_exc F.canon cB ?_ |with_reducible refine yD cB ?_ |(with_reducible refine Q1 cB ?_;first |rw[YZ]| rw[YY]| refine(Y1).symm▸?_)| wp_step)
 refine(?_:R _ _)
 rw[oG]
 exact a7
theorem XP{cu:List ab}{f:aa}(a8:M.handled=none)(X:K.In h)(F:sk (K.lookup ·) Q)(tb:cu.length<=e7)
 (aR:jE K (.ref Q) "__init__"=some (some (.ref f))) (xv:pv K (.ref f)=some (.type "function"))
 (a7:∀bF,(∀b A,h.get? b=some A->bF.get? b=some A)->bF.get? (h.objs.size+1)=some (tH Q h.objs.size)->gy (a1 aH w) (M.under (.builtin "type.__call__" ⟨.ref Q::cu,[]⟩)) (.call (.ref f) ⟨.ref (h.objs.size+1):: cu,[]⟩) (InitBack (h.objs.size+1) R) ⟨bF,g,d,t,os⟩):
 gy (a1 aH w) M (.call (.ref Q) ⟨cu,[]⟩) R ⟨h,g,d,t,os⟩:=by
 cases F with |mk cB=>
 have rz:=X _ _ cB
 have fQ:=tc_lookup
 have dk:=tc_bind (.ref Q)
 have d4:(⟨h,g,d,t,os⟩:ay).TypeIs (.ref Q) "type":=bx _ rz rfl
 refine uy ?_
 refine(?_:a9 _ _ (callAny (.ref Q) _) _ _ _)
 repeat (any_goals (first |assumption |with_reducible refine yD rz ?_ |wp_step))
 refine⟨rfl,?_⟩
 refine codeAny_call_builtin_at (HO _ (by decide +kernel)) entry_typeCall (wpAny_check_type_call_sub rz ?_)
 repeat (first |with_reducible refine yD rz ?_ |with_reducible refine wpAny_madeBy_exc rz ?_ |wp_step)
 refine codeAny_call_builtin_code (HO _ PySem.F.excBase_Exception.quiet) (XQ a8 rz λbQ bv Ql=>XR (cu:=cu) ⟨rfl,rfl,rfl,rfl⟩ (bv _ _ rz) tb ?_)
 rw[Ql]
 have k:∀b A,h.get? b=some A->((bQ.push {cls:=.type "tuple",data:=.seq cu.toArray}).push (tH Q h.objs.size)).get? b=some A:=λb A e=>dM _ (dM _ (bv _ _ e))
 have EV:((bQ.push {cls:=.type "tuple",data:=.seq cu.toArray}).push (tH Q h.objs.size)).get? (h.objs.size+1)=some (tH Q h.objs.size):=by
  have:=eS (bQ.push {cls:=.type "tuple",data:=.seq cu.toArray}) (o:=tH Q h.objs.size) rfl
  rw[oG,Ql] at this
  exact this
 generalize (bQ.push {cls:=.type "tuple",data:=.seq cu.toArray}).push (tH Q h.objs.size)=bF at k EV |-
 have Yz:=k _ _ rz
 have Y0:∀m:List ab,(hq Q::m).contains (.ref Q)=true:=λm=>List.contains_iff_mem.mpr (.head _)
 have bk:iN (a1 aH w) bF (vM (.ref Q) "__init__") (some (.ref f)):=(AZ X aR).keeps k
 have ez:iN (a1 aH w) bF (bindSpecial (.ref f) (.ref (h.objs.size+1))) (.ref f,[.ref (h.objs.size+1)]):=(bind_fn X (.ref (h.objs.size+1)) xv).keeps k
 unfold xz
 repeat (first |with_reducible refine yD EV ?_ |(with_reducible refine Q1 Yz ?_;rw[Y0])| wp_step)
 show a9 _ _ (vM (.ref Q) _) _ _ _
 refine bk.at ?_
 refine gL (aE (ez.at (aE (r9 (nU (a7 bF k EV) λr ah z=>?_)))))
 rcases r with e |(v |_ |_ |_)<;> first |exact z |exact z.elim |skip
 obtain⟨rfl,z⟩:=z
 wp_walk
 exact z
end
section
section
variable{E:bM}{J hl:List aa}{h:aV}
mutual
theorem bf.p0:∀{a:L}{v:ab},bf E J h a v->ow J.length a:=fun{a v}=>by
 cases a with
 |loc n=>exact λr=>aU r λb e o=>(gt.mp e).1
 |tup m=>exact λr=>k6 r λb T o o o o k=>k.p0
 |_=>exact λo=>trivial
theorem br.p0:∀{m:List L}{T:List ab},br E J h m T->ox J.length m:=fun{m T}=>by
 cases m with
 |nil=>exact λo=>trivial
 |cons a r=>exact λx=>eL x.cons_inv λv t o y z=>⟨y.p0,z.p0⟩
end
mutual
theorem bf.down:∀{a:L}{v:ab},ow J.length a->bf E (J++hl) h a v->bf E J h a v:=fun{a v}=>by
 cases a with
 |loc n=>exact λq r=>aU r λb e f=>bx b ((jv q).symm.trans e) f
 |tup m=>exact λq r=>k6 r λb T e f g i k=>m3 b T e f g i (k.down q)
 |_=>exact λo r=>r
theorem br.down:∀{m:List L}{T:List ab},ox J.length m->br E (J++hl) h m T->br E J h m T:=fun{m T}=>by
 cases m with
 |nil=>exact λo r=>r
 |cons a r=>exact λq x=>eL x.cons_inv λv t e y z=>kV v t e (y.down q.1) (z.down q.2)
end
theorem zH{cp:Type}{N:Nat}{m:List (cp×L)}:ox N (m.map (·.2))↔v3 N m:=Dr.trans List.forall_mem_map
section
variable{l:St}
theorem f3.p0{A:aQ}{a:aa}(r:f3 E J h A a):yN J.length A:=by
 cases A with
 |list m=>exact cr r λT o o k=>k.p0
 |cj m=>exact lH r λT o o o k o=>zH.mp k.p0
 |b5 m=>exact sb r λT o o o k o o=>zH.mp k.p0
 |inst Q d=>exact aU r λb e o=>(gt.mp e).1
theorem f3.down{A:aQ}{a:aa}(q:yN J.length A)(r:f3 E (J++hl) h A a):f3 E J h A a:=by
 cases A with
 |list m=>exact cr r λT e f k=>fK T e f (k.down q)
 |cj m=>exact lH r λT e f g k i=>qw T e f g (k.down (zH.mpr q)) i
 |b5 m=>exact sb r λT e f g k i j=>xM T e f g (k.down (zH.mpr q)) i j
 |inst Q d=>exact aU r λb e f=>bx b ((jv q).symm.trans e) f
theorem a'.vx(S:a' E J l h):uj J.length l:=λn A aO e=>(S.obj n _ A (lN aO) e).p0
theorem a'.cut{n:Nat}{ak:St}(aO:J.length=n)(k:uj n ak)(S:a' E (J++hl) ak h):a' E J (ak.take n) h where
 len:=by rw[Ss,<-S.len,fN,aO];exact(SN (pQ _ _)).symm
 nodup:=(y9.mp S.nodup).1
 new:=λa N=>S.new a (pL _ N)
 base:=S.base
 pY:=S.pY
 obj:=λN a A e f=>by
  have q:=(gt.mp e).1
  rw[aO] at q
  rw[Sp q] at f
  exact(S.obj N a A ((jv (aO▸q)).trans e) f).down (aO▸k N A q f)
theorem iJ.down{m:List bo}{s:ay}{a:L}{b7:aa}(q:ow J.length a)(x:iJ E m s (J++hl) h a b7):iJ E m s J h a b7:=x.map (λo w=>⟨w.new,w.xP,λN=>w.nm (pL _ N),w.hU⟩) λo r=>r.down q
theorem bG.cut{D:Bool}{bT:List aa}{s ah:ay}(g:bG D bT [] J s (J++hl) ah):bG D bT [] J s J ah:=⟨⟨[],(iK _).symm,(λo q=>by cases q)⟩,g.keep,g.live,g.same,g.lp,g.lv⟩
theorem a5.cut{D:Bool}{α bq:Type}{M:cv}{m:List bo}{s:ay}{N:dh bq}{R:List aa->aV->α->bq->Prop}{r eP:ao α}(S:a' E J l s.heap)(h:a5 E D M m [] J s N R r)(aG:eP≠.fail->r≠.fail)
 (ok:∀a ak,r=.ok a ak->eP≠.fail->eP=.ok a (ak.take l.length)∧dw l.length l ak∧∀hl h v,R (J++hl) h a v->R J h a v)
 (exc:∀a ak,r=.exc a ak->eP≠.fail->eP=.exc a (ak.take l.length)∧dw l.length l ak∧f0 a=true):a5 E D M m [] J s N R eP:=λq=>by
 have J3:∀{ak:St},dw l.length l ak->uj l.length ak:=λk=>k.vx _ (eN _) (eN _) (S.len▸S.vx)
 refine fx (h (aG q)) (λv ah p=>?_) λe ah p=>?_
 ·obtain⟨a,ak,e,aw,cG,r,g⟩:=p
  refine aU g.ext λhl z o=>?_
  subst z
  have k:=ok a ak e q
  exact⟨a,_,k.1,J,cG.cut S.len (J3 k.2.1),k.2.2 _ _ _ r,g.cut⟩
 ·obtain⟨a,ak,e,aw,cG,f,g⟩:=p
  refine aU g.ext λhl z o=>?_
  subst z
  have k:=exc a ak e q
  exact⟨a,_,k.1,J,cG.cut S.len (J3 k.2.1),aU f λb7 r f=>bx b7 r (f.down (A' k.2.2)),g.cut⟩
theorem J4{n:Nat}{a:L}{ak:St}(q:(ao.exc a ak).cut n≠.fail):(ao.exc a ak).cut n=.exc a (ak.take n)∧f0 a=true:=by
 by_cases z:f0 a=true
 ·exact⟨if_pos z,z⟩
 ·exact absurd (if_neg z) q
theorem V9{n:Nat}{a:L}{ak:St}(q:(ao.ok a ak).cut n≠.fail):(ao.ok a ak).cut n=.ok a (ak.take n)∧f0 a=true:=by
 by_cases z:f0 a=true
 ·exact⟨if_pos z,z⟩
 ·exact absurd (if_neg z) q
theorem Xe{D:Bool}{M:cv}{m:List bo}{s:ay}{N:dh ab}{r:ao L}(S:a' E J l s.heap)(h:a5 E D M m [] J s N (bf E) r)(k:r.bv l.length l):a5 E D M m [] J s N (bf E) (r.cut l.length):=by
 refine .cut S h (λq z=>q (by rw[z];rfl)) (λa ak e q=>?_) λa ak e q=>?_
 ·subst e
  have z:=V9 q
  exact⟨z.1,k,λhl h v r=>r.down (A' z.2)⟩
 ·subst e
  have z:=J4 q
  exact⟨z.1,k,z.2⟩
theorem T3{r:ao L}{b:Bool}{ak:St}(e:iP r=.ok b ak):r=.ok (.bool b) ak:=by
 cases r with
 |ok a a2=>
  cases a with
  |bool c=>cases c <;> (cases e;rfl)
  |_=>cases e
 |_=>cases e
theorem T2{r:ao L}{a:L}{ak:St}(e:iP r=.exc a ak):r=.exc a ak:=by
 cases r with
 |ok a a2=>
  cases a with
  |bool c=>cases c <;> cases e
  |_=>cases e
 |exc a a2=>cases e;rfl
 |_=>cases e
theorem T1{r:ao L}{n:Nat}(e:iP r=.fail):iP (r.cut n)=.fail:=by
 cases r with
 |ok a a2=>
  cases a with
  |bool c=>cases c <;> cases e
  |tup m=>
   change iP (if _ then _ else _)=_
   split <;> rfl
  |_=>rfl
 |exc a a2=>cases e
 |_=>rfl
theorem Xz{D:Bool}{M:cv}{m:List bo}{s:ay}{N:dh Bool}{r:ao L}(S:a' E J l s.heap)(h:a5 E D M m [] J s N oM (iP r))(k:r.bv l.length l):a5 E D M m [] J s N oM (iP (r.cut l.length)):=by
 refine .cut S h (λq z=>q (T1 z)) (λa ak e q=>?_) λa ak e q=>?_
 ·cases T3 e
  exact⟨by cases a <;> rfl,k,λhl h v r=>r⟩
 ·cases T2 e
  have z:=J4 λz=>q (by rw[z];rfl)
  exact⟨by rw[z.1];rfl,k,z.2⟩
end
end
end
inductive Pf(p:Prop):Type
 |no
 |yes (h:p)
namespace Pf
noncomputable def ok{p:Prop}:Pf p->Bool
 |.no=>false
 |.yes _=>true
theorem get{p:Prop}:(x:Pf p)->x.ok=true->p
 |.yes h,_=>h
noncomputable def is:(b:Bool)->Pf (b=true)
 |true=>.yes rfl
 |false=>.no
noncomputable def dec(p:Prop) [Decidable p]:Pf p:=if h:p then .yes h else .no
noncomputable def or{p:Prop}:Pf p->Pf p->Pf p
 |.yes h,_=>.yes h
 |.no,x=>x
noncomputable def map{p q:Prop}(f:p->q):Pf p->Pf q
 |.yes h=>.yes (f h)
 |.no=>.no
noncomputable def Nz{p q r:Prop}(f:p->q->r):Pf p->Pf q->Pf r
 |.yes h,y=>y.map (f h)
 |.no,_=>.no
noncomputable def NA{p q r t:Prop}(f:p->q->r->t)(x:Pf p)(y:Pf q)(z:Pf r):Pf t:=match x with
 |.yes h=>Nz (f h) y z
 |.no=>.no
noncomputable def ab1{p q r t u:Prop}(f:p->q->r->t->u)(x:Pf p)(y:Pf q)(z:Pf r)(a:Pf t):Pf u:=match x with
 |.yes h=>NA (f h) y z a
 |.no=>.no
noncomputable def alo{p q r t u v:Prop}(f:p->q->r->t->u->v)(x:Pf p)(y:Pf q)(z:Pf r)(a:Pf t)(b:Pf u):Pf v:=match x with
 |.yes h=>ab1 (f h) y z a b
 |.no=>.no
end Pf
structure ew where
 K:cb
 D:Bool
 df:List aa
noncomputable def ew.at (c:ew)(p:Bool):ew:=⟨c.K,c.D||p,c.df⟩
noncomputable def ew.call(c:ew)(f:aa):Bool:= !c.D||c.df.contains f
noncomputable def ng(t:e3)(e:Expr):List (I×Nat):=((wW e).map idOf).zip t.slots
noncomputable def nZ(U:List (I×Nat))(scope:fa):List (I×Nat):=scope.names.filterMap λp=>if p.2 == .free then(U.lookup p.1).map (p.1, ·) else none
noncomputable def dH.len:dH->Nat
 |.nil=>0
 |.cons _ r=>r.len+1
def RG(E:bM)(D:Bool)(names:List (I×b4))(U:List (I×Nat))(d:Nat)(b:Bool)(e:Expr)(C:aI)(k:St->ao L):Prop:=
 match b with
 |false=>dB E D names U d e C k
 |true=>jt E D names U d e C k
structure RZ(c:ew)(d:Nat)(bp:Nat->aa->List L->St->ao L)(H:aV):Prop where
 Z:∀B:bM,B.heap=H->ef c.K B
 bv:oy bp
 calls:∀B:bM,B.heap=H->∀(f:aa)(D:Bool),(D=true->c.df.contains f=true)->∀aC Y l,i5 B D d f Y l (bp aC f Y l)
structure fX(c:ew)where
 d:Nat
 bp:cS
 H:aV
 y:RZ c d bp.bp H
 B:bM
 gA:B.heap=H
theorem fX.Z{c:ew}(R:fX c):ef c.K R.B:=R.y.Z R.B R.gA
theorem fX.call{c:ew}(R:fX c){f:aa}(h:c.call f=true)(Y:List L)(l:St):i5 R.B c.D R.d f Y l (R.bp.call f Y l):=
 R.y.calls R.B R.gA f c.D (λdy=>by unfold ew.call at h;rw[dy] at h;exact h) _ Y l
noncomputable def fX.at {c:ew}(R:fX c)(p:Bool):fX (c.at p):=⟨R.d,R.bp,R.H,⟨R.y.Z,R.y.bv,R.y.calls⟩,R.B,R.gA⟩
noncomputable def fX.on{c:ew}(R:fX c)(B:bM)(h:B.heap=R.B.heap):fX c:=⟨R.d,R.bp,R.H,R.y,B,h.trans R.gA⟩
noncomputable def fX.up{c:ew}(R:fX c)(n:Nat):fX c:=⟨R.d,R.bp.up n,R.H,R.y,R.B,R.gA⟩
theorem bG.yA{D:Bool}{bT W J aw:List aa}{s ah:ay}(g:bG true bT W J s aw ah):bG D bT W J s aw ah:=⟨g.ext,g.keep,g.live,g.same,λo=>g.lp rfl,g.lv⟩
theorem pF.atC{c:ew}{B:bM}{names:List (I×b4)}{U:List (I×Nat)}{d:Nat}{bZ:Expr}{gens:List io}{scope:fa}{pos:bu}{C:aI}{k:St->ao (List L)}{p:Bool}(h:pF B (c.at p).D names U d bZ gens scope pos C k):pF B c.D names U d bZ gens scope pos C k:=by
 obtain⟨K,D,d6⟩:=c
 cases D with
 |true=>exact h
 |false=>
  cases p with
  |false=>exact h
  |true=>exact λM m O J l s aA use an Y a2 P e aD aM=>h M m O J l s aA use an Y a2 P e aD λcx Q ah aw a b g=>aM cx Q ah aw a b g.yA
def ce(c:ew)(b:Bool)(names:List (I×b4))(U:List (I×Nat))(a:Expr)(e:bB):Prop:=∀(R:fX c)(C:aI),RG R.B c.D names U R.d b a C (aS R.bp e C)
def hN(c:ew)(names:List (I×b4))(U:List (I×Nat))(as:List Expr)(af:dH):Prop:=fO as∧as.length=af.len∧∀(R:fX c)(C:aI),hv R.B c.D names U R.d as C (fn R.bp af C)
def SB(c:ew)(b:Bool)(names:List (I×b4))(U:List (I×Nat))(as:List Expr)(af:dH):Prop:=af.len≠0∧∀(R:fX c)(C:aI)(op:i4),match b with
 |false=>v6 R.B c.D names U R.d op as C (uH R.bp op af C)
 |true=>t5 R.B c.D names U R.d op as C (uH R.bp op af C)
def kA(c:ew)(names:List (I×b4))(U:List (I×Nat))(as:List Expr)(af:dH):Prop:=∀(R:fX c)(C:aI),qX R.B c.D names U R.d as C (kJ R.bp af C)
def rb(c:ew)(names:List (I×b4))(U:List (I×Nat))(aY:List I)(bl:List (Option Expr))(eR:List Expr)(af:dH):Prop:=∀(R:fX c)(C:aI)(pos:bu),v7 R.B c.D names U R.d pos aY bl eR C (fn R.bp af C)
def nJ(c:ew)(names:List (I×b4))(U:List (I×Nat))(as:List Expr)(af:dH):Prop:=∀(R:fX c)(C:aI),v8 R.B c.D names U R.d as C (fn R.bp af C)
def nI(c:ew)(names:List (I×b4))(U:List (I×Nat))(iter bg:Expr)(it:iH):Prop:=∀(R:fX c)(C:aI),js R.B c.D names U R.d iter bg C (l1 R.bp it C)
def uh(c:ew)(names:List (I×b4))(U:List (I×Nat))(a:Option Expr)(e:bB):Prop:=∀(R:fX c)(C:aI),yQ R.B c.D names U R.d a C (aS R.bp e C)
def SC(c:ew)(names:List (I×b4))(U:List (I×Nat))(bZ:Expr)(gens:List io)(scope:fa)(e:bB):Prop:=∃k:fX c->aI->St->ao (List L),∀(R:fX c)(C:aI),(∀pos,pF R.B c.D names U R.d bZ gens scope pos C (k R C))∧(∀l e av,k R C l≠.exc e av)∧
 aS R.bp e C=λl=>(k R C l).bind od
section
variable{c:ew}{b:Bool}{names:List (I×b4)}{U:List (I×Nat)}{p bN cK el ic:bu}{m r t:Expr}{x y z:bB}
theorem ce.up{a:Expr}{e:bB}(aL:CQ a)(h:ce c false names U a e):∀b,ce c b names U a e
 |false=>h
 |true=>λR C=>XC aL (h R C)
theorem ce.c5{a:Expr}{e:bB}(h:ce c b names U a e):ce c b names U a (.c5 e):=match b,h with
 |false,h=>λR C M m O J l s P=>Xe P.st (h (R.up l.length) C M m O J l s P) (eG e (R.bp.up l.length) R.y.bv C l)
 |true,h=>λR C M m O J l s P=>Xz P.st (h (R.up l.length) C M m O J l s P) (eG e (R.bp.up l.length) R.y.bv C l)
theorem ce.const{k:oA}{n:Nat}{v:L}(h:oB k v):ce c false names U (.Constant k n p) (.const v):=λR C M m O J l s P=>yt P.st h
theorem ce.var{n:I}{i:Nat}(h:U.lookup n=some i)(ai:(n==("__classdict__":I))=false)(am:(n==("__debug__":I))=false):ce c false names U (.Name n p) (.var i):=λR C M m O J l s P=>QE P h ai am
theorem ce.glob{N:I}{i:Int}(ai:kP names N=true)(am:∃t,ha c.K gh N=some (some (.int i t)))(a6:(N==("__debug__":I))=false):ce c false names U (.Name N p) (.glob N (.int i)):=λR C M m O J l s P=>ags R.Z P ai am a6
theorem ce.bin{A:nE}(ai:ce c false names U m x)(am:ce c false names U r y):ce c false names U (.BinOp m A r p) (.bin A x y):=λR C=>W9 (ai R C) (am R C)
theorem ce.not(h:ce c b names U m x):ce c b names U (.UnaryOp .Not m p) (.not x):=match b,h with
 |false,h=>λR C=>Xk (h R C)
 |true,h=>λR C=>XB (h R C)
theorem ce.fm{A:i4}{as:List Expr}{af:dH}(h:SB c b names U as af):ce c b names U (.BoolOp A as p) (.fm A af):=match b,h with
 |false,h=>λR C=>W' (h.2 R C A)
 |true,h=>λR C=>Xx (h.2 R C A)
theorem ce.ji(ai:ce c true names U t z)(am:ce c b names U m x)(a6:ce c b names U r y):ce c b names U (.IfExp t m r p) (.ji z x y):=match b,am,a6 with
 |false,am,a6=>λR C=>Xg (ai R C) (am R C) (a6 R C)
 |true,am,a6=>λR C=>XA (ai R C) (am R C) (a6 R C)
theorem ce.cmp{A:nu}(aO:gc r)(ai:ce c false names U m x)(am:ce c false names U r y):∀b,ce c b names U (.Compare m [A] [r] p) (.cmp A x y):=fun
 |false=>λR C=>Xc R.Z aO (ai R C) (am R C)
 |true=>λR C=>Xy R.Z aO (ai R C) (am R C)
theorem Ky{bp:cS}:∀(af:dH)(C:aI)(l av:St)(Y:List L),fn bp af C l=.ok Y av->Y.length=af.len
 |.nil,C,l,av,Y,h=>by cases h;rfl
 |.cons e r,C,l,av,Y,h=>by
  change ((aS bp e C l).bind λx ak=>(fn bp r C ak).bind λY a2=>.ok (x::Y) a2)=.ok Y av at h
  revert h
  cases aS bp e C l with
  |ok x ak=>
   change ((fn bp r C ak).bind λY a2=>.ok (x::Y) a2)=.ok Y av->_
   cases a4:fn bp r C ak with
   |ok bH a2=>exact λh=>by cases h;exact congrArg (· + 1) (Ky r C _ _ _ a4)
   |_=>exact λh=>by cases h
  |_=>exact λh=>by cases h
theorem hN.mR{as:List Expr}{af:dH}(h:hN c names U as af)(aN:as.length<1000)(R:fX c)(C:aI)(l:St)(Y:List L)(av:St)(e:fn R.bp af C l=.ok Y av):Y.length<b8:=by
 rw[Ky _ _ _ _ _ e,<-h.2.1];exact lP aN (by decide)
theorem ce.tuple{as:List Expr}{af:dH}{n:Nat}(aN:as.length<1000)(h:hN c names U as af):ce c false names U (.Tuple as n p) (.tuple af):=λR C=>KC (h.2.2 R C) (h.mR aN R C)
theorem ce.list{as:List Expr}{af:dH}(aN:as.length<1000)(h:hN c names U as af):ce c false names U (.List as p) (.list af):=λR C=>Xh (h.2.2 R C) (h.mR aN R C)
theorem ce.km{aY:List I}{bl:List (Option Expr)}{eR:List Expr}{af:dH}(bQ:aY≠[]∧aY.length<=15)(ai:∀x∈aY,fy x=true)(h:rb c names U aY bl eR af):ce c false names U (.Dict bl eR p) (.km aY af):=λR C=>KA bQ.1 bQ.2 ai (h R C p)
theorem ce.aez:ce c false names U (.Dict [] [] p) (.km [] .nil):=λR C=>Kz (A:=.cj []) (.inl rfl)
theorem ce.hX:ce c false names U (.Dict [] [] p) .hX:=λR C=>Kz (A:=.b5 []) (.inr rfl)
theorem ce.idx(ai:ce c false names U m x)(am:ce c false names U r y):ce c false names U (.Subscript m r p) (.idx x y):=λR C=>Xf R.Z (ai R C) (am R C)
theorem ce.slice{lo aR:Option Expr}(ai:ce c false names U m x)(am:uh c names U lo y)(a6:uh c names U aR z):ce c false names U (.Subscript m (.Slice lo aR none bN) p) (.slice x y z):=λR C=>Xn (ai R C) (am R C) (a6 R C)
theorem uh.some(h:ce c false names U m x):uh c names U (some m) x:=h
theorem uh.none:uh c names U none (.const .none):=λR C=>Xu
theorem ce.attr{n:I}{Q:aa}(ai:lc m)(am:attrOk c.K Q n=true)(a6:ce c false names U m x):ce c false names U (.Attribute m n p) (.attr x n Q):=λR C=>W8 R.Z ai am (a6 R C)
theorem ce.call{n:I}{f:aa}{as:List Expr}{af:dH}(ai:zP c.K names n f=true)(am:c.call f=true)(a6:hN c names U as af):ce c false names U (.Call (.Name n bN) as [] p) (.call n f af):=λR C=>Xb R.Z ai a6.1 (a6.2.2 R C) (R.call am)
theorem ce.d2{n:I}{Q f:aa}{as:List Expr}{af:dH}(h:bN.endLine=p.line∧as.length<30)(ai:A4 c.K Q f n=true∧c.call f=true)(aM:lc m)(am:ce c false names U m x)(a6:hN c names U as af):ce c false names U (.Call (.Attribute m n bN) as [] p) (.d2 x n Q f af):=λR C=>Xi R.Z ai.1 aM (beq_iff_eq.mpr h.1) h.2 a6.1 (am R C) (a6.2.2 R C) (R.call ai.2)
theorem ce.new{n:I}{Q f:aa}{as:List Expr}{af:dH}(ai:A9 c.K names n Q f=true)(am:c.call f=true)(a6:hN c names U as af):ce c false names U (.Call (.Name n bN) as [] p) (.new n Q f af):=λR C=>Xj R.Z ai a6.1 (a6.2.2 R C) (R.call am)
theorem xW{bp:cS}(C:aI)(l:St):(fn bp (.cons x .nil) C l)=(aS bp x C l).bind λv ak=>.ok [v] ak:=by
 change ((aS bp x C l).bind λx ak=>(ao.ok [] ak).bind λY a2=>.ok (x::Y) a2)=_
 cases aS bp x C l <;> rfl
inductive pA:I->I->Prop
 |len:pA "len" "len"
 |int:pA "int" "int"
 |sorted:pA "sorted" "sorted"
 |tuple:pA "tuple" "tuple"
 |list:pA "list" "list"
 |Ka:pA "dictS" "dict"
def B'(c:ew)(D:Bool)(E:bM)(d:Nat)(x:I)(v:ab):Prop:=∀(Z:ef c.K E)M m J l s a u,nG d M m->a' E J l s.heap->bf E J s.heap a u->a5 E D M m [] J s (call v [u]) (bf E) (eC (hA l x a))
theorem ago{D:Bool}{E:bM}{d:Nat}{x y:I}(bD:pA x y):∃v,rn y=some v∧(∀a,v≠.ref a)∧B' c D E d x v:=match bD with
 |.len=>⟨_,rfl,(λo q=>by cases q),λZ M m J l s a u R S r=>agu Z S r⟩
 |.int=>⟨_,rfl,(λo q=>by cases q),λZ M m J l s a u R S r=>agI S r⟩
 |.sorted=>⟨_,rfl,(λo q=>by cases q),λZ M m J l s a u R S r=>agF Z R.a8 S r⟩
 |.tuple=>⟨_,rfl,(λo q=>by cases q),λZ M m J l s a u R S r=>agK S r⟩
 |.list=>⟨_,rfl,(λo q=>by cases q),λZ M m J l s a u R S r=>agJ Z R.a8 S r⟩
 |.Ka=>⟨_,rfl,(λo q=>by cases q),λZ M m J l s a u R S r=>agr R.a8 (by have:=R.units;exact b6 [_,_,_] 1 (Ns (.add al (.num 100))) ax 1 (Ns (.add (.add al (.mulL 40 aT)) (.num 420))) ax rfl this) S r⟩
noncomputable def Ox(x:I):List L->St->ao L
 |[a],l=>eC (hA l x a)
 |_,_=>.fail
theorem B'.one{D:Bool}{E:bM}{d:Nat}{x:I}{v:ab}(h:B' c D E d x v)(Z:ef c.K E)(M:cv)(m:List bo)(J:List aa)(l:St)(s:ay):∀(Y:List L)(T:List ab),nG d M m->a' E J l s.heap->br E J s.heap Y T->a5 E D M m [] J s (PySem.call v T) (bf E) (Ox x Y l)
 |[],_,_,_,_=>.fail
 |_::_::_,_,_,_,_=>.fail
 |[a],T,R,S,r=>by
  refine ge λdT cD=>?_
  obtain⟨u,t,rfl,eu,eK⟩:=r.cons_inv
  refine cD ?_
  clear cD dT
  obtain rfl:=eK.nil_inv
  exact h Z M m J l s a u R S eu
theorem ce.bi{n N:I}(ai:iR c.K names N=true)(am:pA n N)(a6:hN c names U [m] (.cons x .nil)):ce c false names U (.Call (.Name N bN) [m] [] p) (.bi n x):=λR C=>by
 obtain⟨v,xf,uS,YQ⟩:=ago (E:=R.B) (D:=c.D) (d:=R.d) (c:=c) am
 have e:aS R.bp (.bi n x) C=λl=>(fn R.bp (.cons x .nil) C l).bind (Ox n):=funext λl=>by
  rw[xW]
  change (aS R.bp x C l).bind (λv ak=>eC (hA ak n v))=_
  cases aS R.bp x C l <;> rfl
 change dB R.B c.D names U R.d _ C (aS R.bp (.bi n x) C)
 rw[e]
 exact Xa R.Z ai xf uS a6.1 (a6.2.2 R C) (YQ.one R.Z)
theorem ce.qI{n N:I}(h:n="sorted"∧N="set")(ai:iR c.K names "sorted"=true)(am:iR c.K names "set"=true)(a6:hN c names U [m] (.cons x .nil)):ce c false names U (.Call (.Name n cK) [.Call (.Name N el) [m] [] ic] [] p) (.qI x):=λR C=>by
 obtain⟨rfl,rfl⟩:=h
 exact Xo R.Z ai am a6.1 (a6.2.2 R C) (xW C)
theorem ce.append{n:I}(h:n="append"∧bN.endLine=p.line)(ai:lc m)(am:ce c false names U m x)(a6:hN c names U [r] (.cons y .nil)):ce c false names U (.Call (.Attribute m n bN) [r] [] p) (.jQ x y):=λR C=>by
 obtain rfl:=h.1
 exact W7 ai (beq_iff_eq.mpr h.2) a6.1 (am R C) (a6.2.2 R C) (xW C)
theorem ce.remove{n:I}(h:n="remove"∧bN.endLine=p.line)(ai:lc m)(am:ce c false names U m x)(a6:hN c names U [r] (.cons y .nil)):ce c false names U (.Call (.Attribute m n bN) [r] [] p) (.vf x y):=λR C=>by
 obtain rfl:=h.1
 exact Xl ai (beq_iff_eq.mpr h.2) a6.1 (am R C) (a6.2.2 R C) (xW C)
theorem ce.mS{as:List Expr}{af:dH}(h:nJ c names U (m::r::as) af):ce c false names U (.JoinedStr (m::r::as) p) (.mS af):=λR C=>Xd (h R C)
theorem hN.nil:hN c names U [] .nil:=⟨.nil,rfl,λR C=>KI⟩
theorem hN.cons{as:List Expr}{af:dH}(h:gc m)(ai:ce c false names U m x)(am:hN c names U as af):hN c names U (m::as) (.cons x af):=
 ⟨.cons h am.1,congrArg (· + 1) am.2.1,λR C=>Eh h (ai R C) (am.2.2 R C)⟩
theorem SB.one(h:ce c b names U m x):SB c b names U [m] (.cons x .nil):=⟨S0 _,match b,h with
 |false,h=>λR C op=>Xq (h R C)
 |true,h=>λR C op=>XE (h R C)⟩
theorem SB.cons{as:List Expr}{af:dH}(h:ce c b names U m x)(am:SB c b names U (r::as) af):SB c b names U (m::r::as) (.cons x af):=⟨S0 _,match af,am with
 |.nil,am=>absurd rfl am.1
 |.cons y af,am=>match b,h,am with
  |false,h,am=>λR C op=>Xp (h R C) (am.2 R C op)
  |true,h,am=>λR C op=>KJ (h R C) (am.2 R C op)⟩
theorem kA.nil:kA c names U [] .nil:=λR C=>KE
theorem kA.cons{as:List Expr}{af:dH}(ai:ce c true names U m x)(am:kA c names U as af):kA c names U (m::as) (.cons x af):=λR C=>Xr (ai R C) (am R C)
theorem rb.nil:rb c names U [] [] [] .nil:=λR C pos=>KD
theorem rb.cons{k:I}{n:Nat}{aY:List I}{bl:List (Option Expr)}{eR:List Expr}{af:dH}(h:fy k=true)(ai:ce c false names U m x)(am:rb c names U aY bl eR af):rb c names U (k::aY) (some (.Constant (.str k) n cK):: bl) (m::eR) (.cons x af):=λR C pos=>Eg h (ai R C) (am R C pos)
theorem nJ.nil:nJ c names U [] .nil:=λR C=>Xt
theorem nJ.text{k:I}{n:Nat}{as:List Expr}{af:dH}(h:fy k=true)(am:nJ c names U as af):nJ c names U (.Constant (.str k) n p::as) (.cons (.const (.str k)) af):=λR C=>KH (Xv (k:=λl=>.ok (.str k) l) (λM m O J l s P=>yt P.st (.str h)) λl x av q=>by cases q;exact⟨k,rfl⟩) (am R C)
theorem nJ.val{as:List Expr}{af:dH}(ai:ce c false names U m x)(am:nJ c names U as af):nJ c names U (.FormattedValue m (-1) none p::as) (.cons x af):=λR C=>KH (Xw (ai R C)) (am R C)
theorem nI.ex{iter bg:Expr}(h:ce c false names U iter x):nI c names U iter bg (.ex x):=λR C=>KG R.Z (h R C)
theorem nI.range{n:I}{bg:Expr}(h:n="range")(ai:iR c.K names "range"=true)(am:hN c names U [m] (.cons x .nil)):nI c names U (.Call (.Name n bN) [m] [] p) bg (.range x):=λR C=>by
 obtain rfl:=h
 exact Xs R.Z ai am.1 (am.2.2 R C) (xW C)
theorem ce.comp{g:io}{gens:List io}{scope:fa}(h:SC c names U m (g::gens) scope x):ce c false names U (.ListComp m (g::gens) scope p) x:=λR C=>by
 obtain⟨k,h⟩:=h
 obtain⟨ai,am,a6⟩:=h R C
 rw[a6]
 exact Ef (ai p) am
def qW(names:List (I×b4))(U:List (I×Nat))(scope:fa)(c':List (I×Nat))(em:List Nat):Prop:=
 scope.kind=.function∧(scope.names.map (·.1)).Nodup∧(∀q∈scope.names,q.2=.free->(U.lookup q.1).isSome=true∧(names.lookup q.1=some .cell∨names.lookup q.1=some .free))∧(c'.map (·.2)).Nodup∧
 ∀q∈c',((q.1,NameKind.local)∈scope.names∨(q.1,jw)∈scope.names)∧q.2∈em∨(q.1,kv)∈scope.names∧U.lookup q.1=some q.2
theorem Qp{U:List (I×Nat)}(h:(U.map (·.2)).Nodup):gJ U:=λx y i aD bD=>by
 have NL:=mem_of_lookup aD
 have NM:=mem_of_lookup bD
 clear aD bD
 induction U with
 |nil=>cases NL
 |cons q t aJ=>
  have aO:=mC.mp h
  cases NL with
  |head=>cases NM with
   |head=>rfl
   |tail _ N=>exact absurd (Sx (f:=(·.2)) N) aO.1
  |tail _ N=>cases NM with
   |head=>exact absurd (Sx (f:=(·.2)) N) aO.1
   |tail _ de=>exact aJ aO.2 N de
theorem qW.of{scope:fa}{c':List (I×Nat)}{em:List Nat}(h:qW names U scope c' em):oz names U scope c' em:=
 ⟨h.1,h.2.1,λx aD=>let ae:=h.2.2.1 _ aD rfl;let ⟨i,aR⟩:=zh.mp ae.1;⟨i,aR,ae.2⟩,Qp h.2.2.2.1,λx i aR=>h.2.2.2.2 _ (mem_of_lookup aR)⟩
end
inductive SZ(c:ew)(names:List (I×b4))(U:List (I×Nat)):Expr->Expr->iH->Prop
 |mk {pj j' i1:bu} {b7 gp:Expr} {af:List Expr} {rQ:_} {x y:bB} (ai:iR c.K names "zip"=true) (am:hN c names U [b7,gp] (.cons x (.cons y .nil))):SZ c names U (.Call (.Name "zip" pj) [b7,gp] [] j') (.Tuple af rQ i1) (.zip x y)
section
variable{c:ew}{names:List (I×b4)}{U c':List (I×Nat)}{qb bg iter fk fC:Expr}{fR:List Expr}{scope:fa}{pure:Bool}{bZ:bB}{t c9:e3}{it me:iH}{dK:dH}
theorem SC.one(bQ:qW names U scope c' t.slots)(aP:gc iter)(ai:h3 (d' names scope.names) c' t bg)(am:lD scope.names bg=true)(aR:nI (c.at pure) names U iter bg it)(aG:kA (c.at pure) (d' names scope.names) c' fR dK)(bw:ce (c.at pure) false (d' names scope.names) c' qb bZ):
 SC c names U qb [⟨bg,iter,fR,0⟩] scope (.comp pure bZ t it dK):=
 ⟨_,λR C=>⟨λpos=>(JY aP (pure:=pure) (λq=>by rw[q];exact pE _) bQ.of ai am (js.g' (aR (R.at pure) C)) (aG (R.at pure)) (bw (R.at pure))).atC,λl e av=>zV,rfl⟩⟩
set_option tactic.hygienic true in
theorem SC.zip(bQ:qW names U scope c' t.slots)(ai:h3 (d' names scope.names) c' t bg)(am:lD scope.names bg=true)(aR:SZ (c.at pure) names U iter bg it)(aG:kA (c.at pure) (d' names scope.names) c' fR dK)(bw:ce (c.at pure) false (d' names scope.names) c' qb bZ):
 SC c names U qb [⟨bg,iter,fR,0⟩] scope (.comp pure bZ t it dK):=by
 cases aR with
 |mk qR i3=>
  rename_i pj j' i1 b7 gp af rQ x y
  cases t with
  |one i=>cases ai with |one ai=>nomatch ai
  |many is=>
   refine⟨_,λR C=>⟨λpos=>(VX (R.at pure).Z qR i3.1 bQ.of ai am (i3.2.2 (R.at pure) C) (d1:=aS R.bp x C) (bU:=aS R.bp y C) (e5:=kJ R.bp dK) (ds:=aS R.bp bZ) (pure:=pure) (λl x ak z a2 b0 bO=>?_) (λB gA=>aG ((R.at pure).on B gA)) (λB gA=>bw ((R.at pure).on B gA))).atC,λl e av=>zV,rfl⟩⟩
   change ((aS R.bp _ C l).bind λo o=>_)=_
   rw[b0]
   change ((aS R.bp _ C ak).bind λo o=>_).bind _=_
   rw[bO]
   rfl
theorem SC.two(bQ:qW names U scope c' (t.slots++c9.slots))(dy:(!pure||c.D)=true)(aP:gc iter)(n6:gc fC)(ok:h3 (d' names scope.names) c' t bg)(Bf:h3 (d' names scope.names) c' c9 fk)(aO:lD scope.names bg=true∧lD scope.names fk=true)(hd:∀i∈c9.slots,i∉t.slots)
 (aR:nI c names U iter bg it) (gD:nI c (d' names scope.names) c' fC fk me) (aG:kA c (d' names scope.names) c' fR dK) (bw:ce c false (d' names scope.names) c' qb bZ):
 SC c names U qb [⟨bg,iter,[],0⟩,⟨fk,fC,fR,0⟩] scope (.l0 pure bZ t it c9 me dK):=
 ⟨_,λR C=>⟨λpos=>VW aP n6 (pure:=pure) (λq=>by rw[q] at dy;exact dy) bQ.of ok Bf aO.1 aO.2 hd (js.g' (aR R C)) (λbb=>gD R bb) (aG R) (bw R),λl e av=>zV,rfl⟩⟩
end
structure nK(a:Expr):Prop where
 pt:CQ a
 jT:gc a
 m5:jx a
section
variable{a b d f:Expr}{as bs:List Expr}{A:nE}{k:oA}{kh:List (Option Expr)}{n:Nat}{x:I}{p:bu}{abv:List HW}
theorem agd:nK (.Constant k n p):=⟨λo o=>rfl,⟨λo o=>rfl,λo=>rfl,λo o=>rfl⟩,λo o o=>rfl⟩
theorem Hc:nK (.Name x p):=⟨λo o=>rfl,⟨λo o=>rfl,λo=>rfl,λo o=>rfl⟩,λo o o=>rfl⟩
theorem agc:nK (.BinOp a A b p):=⟨λo o=>rfl,⟨λo o=>rfl,λo=>rfl,λo o=>rfl⟩,λo o o=>rfl⟩
theorem Qu:nK (.Tuple as n p):=⟨λo o=>rfl,⟨λo o=>rfl,λo=>rfl,λo o=>rfl⟩,λo o o=>rfl⟩
theorem agf:nK (.List as p):=⟨λo o=>rfl,⟨λo o=>rfl,λo=>rfl,λo o=>rfl⟩,λo o o=>rfl⟩
theorem Hb:nK (.Dict kh as p):=⟨λo o=>rfl,⟨λo o=>rfl,λo=>rfl,λo o=>rfl⟩,λo o o=>rfl⟩
theorem Hd:nK (.Subscript a b p):=⟨λo o=>rfl,⟨λo o=>rfl,λo=>rfl,λo o=>rfl⟩,λo o o=>rfl⟩
theorem agb:nK (.Attribute a x p):=⟨λo o=>rfl,⟨λo o=>rfl,λo=>rfl,λo o=>rfl⟩,λo o o=>rfl⟩
theorem r5:nK (.Call f as abv p):=⟨λo o=>rfl,⟨λo o=>rfl,λo=>rfl,λo o=>rfl⟩,λo o o=>rfl⟩
theorem age:nK (.JoinedStr as p):=⟨λo o=>rfl,⟨λo o=>rfl,λo=>rfl,λo o=>rfl⟩,λo o o=>rfl⟩
theorem N0:lc (.Name x p):=λo o o=>rfl
theorem N1:lc (.Subscript a b p):=λo o o=>rfl
theorem acG:lc (.Attribute a x p):=λo o o=>rfl
theorem aeT{os:List nu}:gc (.Compare a os as p):=⟨λo o=>rfl,λo=>rfl,λo o=>rfl⟩
theorem acs{os:List nu}:jx (.Compare a os as p):=λo o o=>rfl
theorem aeW{Hk:UnaryOp}:gc (.UnaryOp Hk a p):=⟨λo o=>rfl,λo=>rfl,λo o=>rfl⟩
theorem acu{Hk:UnaryOp}:jx (.UnaryOp Hk a p):=λo o o=>rfl
theorem aeS{DA:i4}:gc (.BoolOp DA as p):=⟨λo o=>rfl,λo=>rfl,λo o=>rfl⟩
theorem acr{DA:i4}:jx (.BoolOp DA as p):=λo o o=>rfl
theorem aeV:gc (.IfExp a b d p):=⟨λo o=>rfl,λo=>rfl,λo o=>rfl⟩
theorem act:jx (.IfExp a b d p):=λo o o=>rfl
theorem aeU{kL:List io}{hs:fa}:gc (.ListComp a kL hs p):=⟨λo o=>rfl,λo=>rfl,λo o=>rfl⟩
end
set_option genInjectivity false in
structure ny where
 tag:Nat
 d9:Nat
 eb:Nat
 kids:List bB
 af':List e3
 mf:List iH
noncomputable def dH.qK:dH->List bB
 |.nil=>[]
 |.cons e r=>e::r.qK
noncomputable def Dz(b:Bool):Nat:=cond b 1 0
noncomputable def bB.view:bB->ny
 |.const _ |.glob _ _=>⟨0,0,0,[],[],[]⟩
 |.hX=>⟨1,0,0,[],[],[]⟩
 |.var i=>⟨0,i,0,[],[],[]⟩
 |.not a=>⟨0,0,0,[a],[],[]⟩
 |.bin _ a b |.cmp _ a b |.idx a b=>⟨0,0,0,[a,b],[],[]⟩
 |.fm _ af |.tuple af |.list af |.km _ af |.mS af=>⟨0,0,0,af.qK,[],[]⟩
 |.ji t a b=>⟨0,0,0,[t,a,b],[],[]⟩
 |.slice a b c=>⟨1,0,0,[a,c],[],[]⟩
 |.attr a _ Q=>⟨0,Q,0,[a],[],[]⟩
 |.call _ f af=>⟨0,f,0,af.qK,[],[]⟩
 |.new _ Q f af=>⟨1,Q,f,af.qK,[],[]⟩
 |.bi _ a=>⟨2,0,0,[a],[],[]⟩
 |.qI a=>⟨3,0,0,[a],[],[]⟩
 |.d2 A _ Q f af=>⟨4,Q,f,A::af.qK,[],[]⟩
 |.jQ A a=>⟨5,0,0,[A,a],[],[]⟩
 |.vf A a=>⟨6,0,0,[A,a],[],[]⟩
 |.super _ Q f af=>⟨7,Q,f,af.qK,[],[]⟩
 |.comp p bZ t it dK=>⟨Dz p,0,0,bZ::dK.qK,[t],[it]⟩
 |.l0 p bZ t it c9 me dK=>⟨Dz p,0,0,bZ::dK.qK,[t,c9],[it,me]⟩
 |.c5 e=>⟨9,0,0,[e],[],[]⟩
noncomputable def bB.nil:bB:=.const .none
noncomputable def ny.ia(h:ny)(i:Nat):bB:=(h.kids[i]?).getD .nil
noncomputable def ny.hu(h:ny)(i:Nat):e3:=(h.af'[i]?).getD (.one 0)
noncomputable def ny.it(h:ny)(i:Nat):iH:=(h.mf[i]?).getD (.ex .nil)
noncomputable def ny.pure(h:ny):Bool:=h.tag==1
noncomputable def fD{α:Type}(p:Prop) [Decidable p](k:p->Option α):Option α:=if h:p then k h else none
noncomputable def Pf.opt{p:Prop}{α:Type}(x:Pf p)(k:p->Option α):Option α:=match x with
 |.yes h=>k h
 |.no=>none
noncomputable def DS(names:List (I×b4))(U:List (I×Nat))(scope:fa)(c':List (I×Nat))(em:List Nat):Pf (qW names U scope c' em):=
 @Pf.dec _ (by unfold qW;infer_instance)
noncomputable def pn{P:Expr->Type}(no:(a:Expr)->P a)(nm:(x:I)->(p:bu)->P (.Name x p))(i1:(af:List Expr)->(k:Nat)->(p:bu)->P (.Tuple af k p))(VM:(k:oA)->(n:Nat)->(p:bu)->P (.Constant k n p))(w3:(e:Expr)->(i:Int)->(s:Option Expr)->(p:bu)->P (.FormattedValue e i s p))(e8:(lo aR st:Option Expr)->(p:bu)->P (.Slice lo aR st p))(dx:(f:Expr)->(as:List Expr)->(p:bu)->P (.Call f as [] p))(Tw:(m:Expr)->(n:I)->(p:bu)->P (.Attribute m n p))(Wn:(aY:List (Option Expr))->(T:List Expr)->(p:bu)->P (.Dict aY T p))(abC:(m:Expr)->(kL:List io)->(hs:fa)->(p:bu)->P (.ListComp m kL hs p))(GR:(A i:Expr)->(p:bu)->P (.Subscript A i p)):(a:Expr)->P a
 |.Name x p=>nm x p
 |.Tuple af k p=>i1 af k p
 |.Constant k n p=>VM k n p
 |.FormattedValue e i s p=>w3 e i s p
 |.Slice lo aR st p=>e8 lo aR st p
 |.Call f as [] p=>dx f as p
 |.Attribute m n p=>Tw m n p
 |.Dict aY T p=>Wn aY T p
 |.ListComp m kL hs p=>abC m kL hs p
 |.Subscript A i p=>GR A i p
 |a=>no a
noncomputable def m8{P:Expr->Type}(no:(a:Expr)->P a)(k:(x:I)->(p:bu)->P (.Name x p)):(a:Expr)->P a:=pn no k (λo o o=>no _) (λo o o=>no _) (λo o o o=>no _) (λo o o o=>no _) (λo o o=>no _) (λo o o=>no _) (λo o o=>no _) (λo o o o=>no _) (λo o o=>no _)
noncomputable def xV{P:Expr->Type}(no:(a:Expr)->P a)(k:(af:List Expr)->(k:Nat)->(p:bu)->P (.Tuple af k p)):(a:Expr)->P a:=pn no (λo o=>no _) k (λo o o=>no _) (λo o o o=>no _) (λo o o o=>no _) (λo o o=>no _) (λo o o=>no _) (λo o o=>no _) (λo o o o=>no _) (λo o o=>no _)
noncomputable def xU{P:Expr->Type}(no:(a:Expr)->P a)(k:(k:oA)->(n:Nat)->(p:bu)->P (.Constant k n p)):(a:Expr)->P a:=pn no (λo o=>no _) (λo o o=>no _) k (λo o o o=>no _) (λo o o o=>no _) (λo o o=>no _) (λo o o=>no _) (λo o o=>no _) (λo o o o=>no _) (λo o o=>no _)
noncomputable def ac4{P:Expr->Type}(no:(a:Expr)->P a)(k:(e:Expr)->(i:Int)->(s:Option Expr)->(p:bu)->P (.FormattedValue e i s p)):(a:Expr)->P a:=pn no (λo o=>no _) (λo o o=>no _) (λo o o=>no _) k (λo o o o=>no _) (λo o o=>no _) (λo o o=>no _) (λo o o=>no _) (λo o o o=>no _) (λo o o=>no _)
noncomputable def Ou{P:Expr->Type}(no:(a:Expr)->P a)(k:(lo aR st:Option Expr)->(p:bu)->P (.Slice lo aR st p)):(a:Expr)->P a:=pn no (λo o=>no _) (λo o o=>no _) (λo o o=>no _) (λo o o o=>no _) k (λo o o=>no _) (λo o o=>no _) (λo o o=>no _) (λo o o o=>no _) (λo o o=>no _)
noncomputable def Gf{P:Expr->Type}(no:(a:Expr)->P a)(k:(f:Expr)->(as:List Expr)->(p:bu)->P (.Call f as [] p)):(a:Expr)->P a:=pn no (λo o=>no _) (λo o o=>no _) (λo o o=>no _) (λo o o o=>no _) (λo o o o=>no _) k (λo o o=>no _) (λo o o=>no _) (λo o o o=>no _) (λo o o=>no _)
noncomputable def vn{P:Expr->Type}(no:(a:Expr)->P a)(k:(m:Expr)->(n:I)->(p:bu)->P (.Attribute m n p)):(a:Expr)->P a:=pn no (λo o=>no _) (λo o o=>no _) (λo o o=>no _) (λo o o o=>no _) (λo o o o=>no _) (λo o o=>no _) k (λo o o=>no _) (λo o o o=>no _) (λo o o=>no _)
noncomputable def ac3{P:Expr->Type}(no:(a:Expr)->P a)(k:(aY:List (Option Expr))->(T:List Expr)->(p:bu)->P (.Dict aY T p)):(a:Expr)->P a:=pn no (λo o=>no _) (λo o o=>no _) (λo o o=>no _) (λo o o o=>no _) (λo o o o=>no _) (λo o o=>no _) (λo o o=>no _) k (λo o o o=>no _) (λo o o=>no _)
noncomputable def Ot{P:Expr->Type}(no:(a:Expr)->P a)(k:(m:Expr)->(kL:List io)->(hs:fa)->(p:bu)->P (.ListComp m kL hs p)):(a:Expr)->P a:=pn no (λo o=>no _) (λo o o=>no _) (λo o o=>no _) (λo o o o=>no _) (λo o o o=>no _) (λo o o=>no _) (λo o o=>no _) (λo o o=>no _) k (λo o o=>no _)
noncomputable def Ov{P:Expr->Type}(no:(a:Expr)->P a)(k:(A i:Expr)->(p:bu)->P (.Subscript A i p)):(a:Expr)->P a:=pn no (λo o=>no _) (λo o o=>no _) (λo o o=>no _) (λo o o o=>no _) (λo o o o=>no _) (λo o o=>no _) (λo o o=>no _) (λo o o=>no _) (λo o o o=>no _) k
noncomputable def vo{P:Expr->Type}(no:(a:Expr)->P a)(dx:(x:I)->(bN:bu)->(as:List Expr)->(p:bu)->P (.Call (.Name x bN) as [] p)):(a:Expr)->P a:=Gf no λf as p=>m8 (P:=λf=>P (.Call f as [] p)) (λo=>no _) (λx bN=>dx x bN as p) f
noncomputable def one{P:List Expr->Type}(no:(as:List Expr)->P as)(k:(a:Expr)->P [a]):(as:List Expr)->P as
 |[a]=>k a
 |as=>no as
noncomputable def NN(names:List (I×b4))(U:List (I×Nat))(i:Nat):(e:Expr)->Pf (q5 names U i e):=
 m8 (λo=>.no) λx o=>.map (λh=>.mk h.1 h.2) (.dec (U.lookup x=some i∧m1 names x=true))
noncomputable def F0(names:List (I×b4))(U:List (I×Nat)):(is:List Nat)->(af:List Expr)->Pf (hf names U is af)
 |[],[]=>.yes .nil
 |i::is,e::af=>.Nz .cons (NN names U i e) (F0 names U is af)
 |[],_::_=>.no
 |_::_,[]=>.no
noncomputable def yq(names:List (I×b4))(U:List (I×Nat)):(t:e3)->(e:Expr)->Pf (h3 names U t e)
 |.one i,e=>.map .one (NN names U i e)
 |.many is,e=>xV (P:=λe=>Pf (h3 names U (.many is) e)) (λo=>.no) (λaf o o=>.map .many (F0 names U is af)) e
noncomputable def J2:(k:oA)->Option {v:L // oB k v}
 |.none=>some ⟨_,.none⟩
 |.bool _=>some ⟨_,.bool⟩
 |.int _=>some ⟨_,.int⟩
 |.str x=>fD (fy x=true) λq=>some ⟨_,.str q⟩
 |_=>none
noncomputable def Yr:(r:Option (Option ab))->Option {i:Int //∃t,r=some (some (.int i t))}
 |some (some (.int i t))=>some ⟨i,t,rfl⟩
 |_=>none
noncomputable def Uu(N:I):Option {n:I // pA n N}:=
 if h:N="len" then some ⟨"len",h▸.len⟩ else if h:N="int" then some ⟨"int",h▸.int⟩ else if h:N="sorted" then some ⟨"sorted",h▸.sorted⟩ else
 if h:N="tuple" then some ⟨"tuple",h▸.tuple⟩ else if h:N="list" then some ⟨"list",h▸.list⟩ else if h:N="dict" then some ⟨"dictS",h▸.Ka⟩ else none
section
variable(c:ew)(ns:List (I×b4))(be:List (I×Nat))
set_option genInjectivity false in
structure e9(a:Expr):Type where
 e:bB
 ok:∀b,ce c b ns be a e
 jT:gc a
 m5:Pf (jx a)
 vg:Pf (lc a)
abbrev q9(as:List Expr):Type:={af:dH // hN c ns be as af∧kA c ns be as af∧∀b,as≠[]->SB c b ns be as af}
abbrev CL(bZ:Expr)(gens:List io)(scope:fa):Type:={e:bB // SC c ns be bZ gens scope e}
abbrev CM(iter bg:Expr):Type:={it:iH // nI c ns be iter bg it∧gc iter}
end
section
variable{c:ew}{ns:List (I×b4)}{be:List (I×Nat)}
noncomputable def q9.nil:q9 c ns be []:=⟨.nil,.nil,.nil,λo h=>absurd rfl h⟩
noncomputable def q9.cons{a:Expr}{as:List Expr}(A:e9 c ns be a)(r:q9 c ns be as):q9 c ns be (a::as):=⟨.cons A.e r.1,.cons A.jT (A.ok _) r.2.1,.cons (A.ok _) r.2.2.1,λb o=>match as,r with
 |[],⟨.nil,_⟩=>.one (A.ok b)
 |[],⟨.cons _ _,h⟩=>nomatch h.1.2.1
 |_::_,⟨_,h⟩=>.cons (A.ok b) (h.2.2 b (Cp _ _))⟩
noncomputable def o'(f:bB->(a:Expr)->Option (e9 c ns be a)):List bB->(as:List Expr)->Option (q9 c ns be as)
 |_,[]=>some q9.nil
 |aP,a::as=>(f (aP.headD .nil) a).bind λA=>(o' f aP.tail as).map (q9.cons A)
noncomputable def Mv(f:bB->(a:Expr)->Option (e9 c ns be a)):List bB->(bl:List (Option Expr))->(eR:List Expr)->Option {x:List I×dH // (∀k∈x.1,fy k=true)∧rb c ns be x.1 bl eR x.2}
 |_,[],[]=>some ⟨([],.nil),nofun,.nil⟩
 |aP,some gR::bl,v::eR=>xU (P:=λgR=>Option {x:List I×dH // (∀k∈x.1,fy k=true)∧rb c ns be x.1 (some gR::bl) (v::eR) x.2}) (λo=>none) (λk o o=>match k with
  |.str k=>fD (fy k=true) λq=>(f (aP.headD .nil) v).bind λA=>(Mv f aP.tail bl eR).map λr=>⟨(k::r.1.1,.cons A.e r.1.2),λx aD=>(dU.mp aD).elim (λe=>e▸q) (r.2.1 x),.cons q (A.ok false) r.2.2⟩
  |_=>none) gR
 |_,_,_=>none
noncomputable def Ft(f:bB->(a:Expr)->Option (e9 c ns be a)):List bB->(as:List Expr)->Option {x:dH // nJ c ns be as x}
 |_,[]=>some ⟨.nil,.nil⟩
 |aP,a::as=>xU (P:=λa=>Option {x:dH // nJ c ns be (a::as) x}) (ac4 (λo=>none) λv i s p=>match s with
  |none=>if q:i= -1 then(f (aP.headD .nil) v).bind λA=>(Ft f aP.tail as).map λr=>⟨.cons A.e r.1,q▸.val (A.ok false) r.2⟩ else none
  |some _=>none) (λk o o=>match k with
  |.str k=>fD (fy k=true) λq=>(Ft f aP.tail as).map λr=>⟨.cons (.const (.str k)) r.1,.text q r.2⟩
  |_=>none) a
noncomputable def e9.c5{a:Expr}(A:e9 c ns be a):e9 c ns be a:=⟨.c5 A.e,λb=>.c5 (A.ok b),A.jT,A.m5,A.vg⟩
noncomputable def e9.of{a:Expr}(e:bB)(h:ce c false ns be a e)(t:nK a)(vg:Pf (lc a)):Option (e9 c ns be a):=some ⟨e,ce.up t.pt h,t.jT,.yes t.m5,vg⟩
end
noncomputable abbrev CX:=(c:ew)->(ns:List (I×b4))->(be:List (I×Nat))->bB->(a:Expr)->Option (e9 c ns be a)
section
variable(dp:CX)(c:ew)(ns:List (I×b4))(be:List (I×Nat))(h:ny)
noncomputable def aaQ(m:Expr)(p:bu):(s:Expr)->Option (e9 c ns be (.Subscript m s p)):=Ou (λo=>none) (λlo aR st o=>match lo,aR,st with
 |none,some aR,none=>(dp c ns be (h.ia 0) m).bind λx=>(dp c ns be (h.ia 1) aR).bind λz=>e9.of (.slice x.e (.const .none) z.e) (.slice (x.ok _) .none (.some (z.ok _))) Hd (.yes N1)
 |_,_,_=>none)
noncomputable def aaC(m:Expr)(p:bu):(os:List nu)->(cE:List Expr)->Option (e9 c ns be (.Compare m os cE p))
 |[A],[r]=>(dp c ns be (h.ia 0) m).bind λx=>(dp c ns be (h.ia 1) r).bind λy=>some ⟨.cmp A x.e y.e,.cmp y.jT (x.ok _) (y.ok _),aeT,.yes acs,.no⟩
 |_,_=>none
noncomputable def aaL(N:I)(bN p:bu):(as:List Expr)->Option (e9 c ns be (.Call (.Name N bN) as [] p)):=one (λo=>none) λm=>(Uu N).bind λn=>fD (iR c.K ns N=true) λq=>(dp c ns be (h.ia 0) m).bind λx=>e9.of (.bi n.1 x.e) (.bi q n.2 (.cons x.jT (x.ok _) .nil)) r5 .no
noncomputable def aaP(n:I)(cK p:bu):(as:List Expr)->Option (e9 c ns be (.Call (.Name n cK) as [] p)):=one (λo=>none)<| vo (P:=λa=>Option (e9 c ns be (.Call (.Name n cK) [a] [] p))) (λo=>none) λN el as ic=>one (P:=λas=>Option (e9 c ns be (.Call (.Name n cK) [.Call (.Name N el) as [] ic] [] p))) (λo=>none) (λm=>fD (n="sorted"∧N="set") λq=>fD (iR c.K ns "sorted"=true∧iR c.K ns "set"=true) λbO=>(dp c ns be (h.ia 0) m).bind λx=>e9.of (.qI x.e) (.qI q bO.1 bO.2 (.cons x.jT (x.ok _) .nil)) r5 .no) as
noncomputable def aaE(n:I)(bN:bu)(as:List Expr)(p:bu):Option (e9 c ns be (.Call (.Name n bN) as [] p)):=
 if h.tag=2 then aaL dp c ns be h n bN p as else if h.tag=3 then aaP dp c ns be h n bN p as else(o' (dp c ns be) h.kids as).bind λaf=>if h.tag=0 then fD (zP c.K ns n h.d9=true∧c.call h.d9=true) λq=>e9.of (.call n h.d9 af.1) (.call q.1 q.2 af.2.1) r5 .no
  else fD (A9 c.K ns n h.d9 h.eb=true∧c.call h.eb=true) λq=>e9.of (.new n h.d9 h.eb af.1) (.new q.1 q.2 af.2.1) r5 .no
noncomputable def aaI(m:Expr)(n:I)(bN p:bu):(as:List Expr)->Option (e9 c ns be (.Call (.Attribute m n bN) as [] p)):=one (λo=>none) λr=>fD (bN.endLine=p.line) λq=>(dp c ns be (h.ia 0) m).bind λx=>x.vg.opt λaM=>(dp c ns be (h.ia 1) r).bind λy=>if b0:n="append" then e9.of (.jQ x.e y.e) (.append ⟨b0,q⟩ aM (x.ok _) (.cons y.jT (y.ok _) .nil)) r5 .no
 else fD (n="remove") λb0=>e9.of (.vf x.e y.e) (.remove ⟨b0,q⟩ aM (x.ok _) (.cons y.jT (y.ok _) .nil)) r5 .no
noncomputable def aaJ(m:Expr)(n:I)(bN:bu)(as:List Expr)(p:bu):Option (e9 c ns be (.Call (.Attribute m n bN) as [] p)):=
 if h.tag=4 then fD ((bN.endLine=p.line∧as.length<30)∧A4 c.K h.d9 h.eb n=true∧c.call h.eb=true) λq=>(dp c ns be (h.ia 0) m).bind λx=>x.vg.opt λaM=>(o' (dp c ns be) h.kids.tail as).bind λaf=>e9.of (.d2 x.e n h.d9 h.eb af.1) (.d2 q.1 q.2 aM (x.ok _) af.2.1) r5 .no
 else aaI dp c ns be h m n bN p as
noncomputable def aaB(as:List Expr)(p:bu):(f:Expr)->Option (e9 c ns be (.Call f as [] p)):=m8 (vn (λo=>none) λm n bN=>aaJ dp c ns be h m n bN as p) λn bN=>aaE dp c ns be h n bN as p
noncomputable def aaN(bg:Expr)(e:bB):(iter:Expr)->Option (CM c ns be iter bg):=vo (λo=>none) λn bN as p=>one (P:=λas=>Option (CM c ns be (.Call (.Name n bN) as [] p) bg)) (λo=>none) (λm=>fD (n="range"∧iR c.K ns "range"=true) λq=>(dp c ns be e m).map λx=>⟨.range x.e,nI.range q.1 q.2 (.cons x.jT (x.ok _) .nil),r5.jT⟩) as
noncomputable def AO(iter bg:Expr):iH->Option (CM c ns be iter bg)
 |.ex e=>(dp c ns be e iter).map λx=>⟨.ex x.e,nI.ex (x.ok _),x.jT⟩
 |.range e=>aaN dp c ns be bg e iter
 |.zip _ _=>none
noncomputable def aaV(x y:bB):(iter bg:Expr)->Option {it:iH // SZ c ns be iter bg it}:=vo (λo o=>none) λn bN as p=>match as with
 |[a,b]=>xV (λo=>none) λo o o=>fD (n="zip"∧iR c.K ns "zip"=true) λq=>(dp c ns be x a).bind λx=>(dp c ns be y b).map λy=>⟨.zip x.e y.e,q.1▸.mk q.2 (.cons x.jT (x.ok _) (.cons y.jT (y.ok _) .nil))⟩
 |_=>λo=>none
noncomputable def aaz(bZ:Expr)(scope:fa)(bg iter:Expr)(dK:List Expr):Option (CL c ns be bZ [⟨bg,iter,dK,0⟩] scope):=
 (DS ns be scope (ng (h.hu 0) bg++nZ be scope) (h.hu 0).slots).opt λbQ=>(yq (d' ns scope.names) (ng (h.hu 0) bg++nZ be scope) (h.hu 0) bg).opt λai=>fD (lD scope.names bg=true) λam=>(o' (dp (c.at h.pure) (d' ns scope.names) (ng (h.hu 0) bg++nZ be scope)) h.kids.tail dK).bind λkd=>(dp (c.at h.pure) (d' ns scope.names) (ng (h.hu 0) bg++nZ be scope) (h.ia 0) bZ).bind λcJ=>match h.it 0 with
 |.zip x y=>(aaV dp (c.at h.pure) ns be x y iter bg).map λz=>⟨.comp h.pure cJ.e (h.hu 0) z.1 kd.1,.zip bQ ai am z.2 kd.2.2.1 (cJ.ok _)⟩
 |i=>(AO dp (c.at h.pure) ns be iter bg i).map λit=>⟨.comp h.pure cJ.e (h.hu 0) it.1 kd.1,.one bQ it.2.2 ai am it.2.1 kd.2.2.1 (cJ.ok _)⟩
noncomputable def aaA(bZ:Expr)(scope:fa)(bg iter fk fC:Expr)(dK:List Expr)(vG:List (I×Nat)):Option (CL c ns be bZ [⟨bg,iter,[],0⟩,⟨fk,fC,dK,0⟩] scope):=
 (DS ns be scope vG ((h.hu 0).slots++(h.hu 1).slots)).opt λbQ=>(yq (d' ns scope.names) vG (h.hu 0) bg).opt λai=>(yq (d' ns scope.names) vG (h.hu 1) fk).opt λam=>fD (((!h.pure||c.D)=true∧∀i∈(h.hu 1).slots,i∉(h.hu 0).slots)∧lD scope.names bg=true∧lD scope.names fk=true) λa6=>(AO dp c ns be iter bg (h.it 0)).bind λbk=>(AO dp c (d' ns scope.names) vG fC fk (h.it 1)).bind λb2=>(o' (dp c (d' ns scope.names) vG) h.kids.tail dK).bind λkd=>(dp c (d' ns scope.names) vG (h.ia 0) bZ).map λcJ=>⟨.l0 h.pure cJ.e (h.hu 0) bk.1 (h.hu 1) b2.1 kd.1,.two bQ a6.1.1 bk.2.2 b2.2.2 ai am a6.2 a6.1.2 bk.2.1 b2.2.1 kd.2.2.1 (cJ.ok _)⟩
noncomputable def Mu(bZ:Expr)(scope:fa):(gens:List io)->Option (CL c ns be bZ gens scope)
 |[⟨bg,iter,dK,.ofNat 0⟩]=>aaz dp c ns be h bZ scope bg iter dK
 |[⟨bg,iter,[],.ofNat 0⟩,⟨fk,fC,dK,.ofNat 0⟩]=>aaA dp c ns be h bZ scope bg iter fk fC dK (ng (h.hu 0) bg++ng (h.hu 1) fk++nZ be scope)
 |_=>none
noncomputable def aaD:(a:Expr)->Option (e9 c ns be a)
 |.Constant k _ _=>(J2 k).bind λv=>e9.of (.const v.1) (.const v.2) agd .no
 |.Name x _=>if q:be.lookup x=some h.d9∧(x==("__classdict__":I))=false∧(x==("__debug__":I))=false then e9.of (.var h.d9) (.var q.1 q.2.1 q.2.2) Hc (.yes N0)
  else fD (kP ns x=true∧(x==("__debug__":I))=false) λq=>(Yr (ha c.K gh x)).bind λi=>e9.of (.glob x (.int i.1)) (.glob q.1 i.2 q.2) Hc (.yes N0)
 |.BinOp m A r _=>(dp c ns be (h.ia 0) m).bind λx=>(dp c ns be (h.ia 1) r).bind λy=>e9.of (.bin A x.e y.e) (.bin (x.ok _) (y.ok _)) agc .no
 |.UnaryOp .Not m _=>(dp c ns be (h.ia 0) m).bind λx=>some ⟨.not x.e,λb=>.not (x.ok b),aeW,.yes acu,.no⟩
 |.BoolOp A (a::as) _=>(o' (dp c ns be) h.kids (a::as)).bind λaf=>some ⟨.fm A af.1,λb=>.fm (af.2.2.2 b (Cp _ _)),aeS,.yes acr,.no⟩
 |.IfExp t m r _=>(dp c ns be (h.ia 0) t).bind λz=>(dp c ns be (h.ia 1) m).bind λx=>(dp c ns be (h.ia 2) r).bind λy=>some ⟨.ji z.e x.e y.e,λb=>.ji (z.ok _) (x.ok b) (y.ok b),aeV,.yes act,.no⟩
 |.Compare m os cE p=>aaC dp c ns be h m p os cE
 |.Tuple as _ _=>fD (as.length<1000) λq=>(o' (dp c ns be) h.kids as).bind λaf=>e9.of (.tuple af.1) (.tuple q af.2.1) Qu .no
 |.List as _=>fD (as.length<1000) λq=>(o' (dp c ns be) h.kids as).bind λaf=>e9.of (.list af.1) (.list q af.2.1) agf .no
 |.Dict [] [] _=>e9.of (if h.tag=1 then .hX else .km [] .nil) (by split;exact .hX;exact .aez) Hb .no
 |.Dict bl eR _=>(Mv (dp c ns be) h.kids bl eR).bind λd=>fD (d.1.1≠[]∧d.1.1.length<=15) λq=>e9.of (.km d.1.1 d.1.2) (.km q d.2.1 d.2.2) Hb .no
 |.Subscript m s p=>if h.tag=1 then aaQ dp c ns be h m p s else(dp c ns be (h.ia 0) m).bind λx=>(dp c ns be (h.ia 1) s).bind λy=>e9.of (.idx x.e y.e) (.idx (x.ok _) (y.ok _)) Hd (.yes N1)
 |.Attribute m n _=>(dp c ns be (h.ia 0) m).bind λx=>x.vg.opt λaM=>fD (attrOk c.K h.d9 n=true) λq=>e9.of (.attr x.e n h.d9) (.attr aM q (x.ok _)) agb (.yes acG)
 |.Call f as [] p=>aaB dp c ns be h as p f
 |.ListComp bZ (g::gens) scope _=>(Mu dp c ns be h bZ scope (g::gens)).bind λx=>some ⟨x.1,ce.up (λo o=>rfl) (.comp x.2),aeU,.no,.no⟩
 |.JoinedStr (m::r::as) _=>(Ft (dp c ns be) h.kids (m::r::as)).bind λx=>e9.of (.mS x.1) (.mS x.2) age .no
 |_=>none
end
noncomputable def xx:Nat->CX
 |0=>λo o o o o=>none
 |n+1=>λc ns be e a=>if e.view.tag=9 then(xx n c ns be (e.view.ia 0) a).map .c5 else aaD (xx n) c ns be e.view a
def CV(c:ew)(d:Nat)(H:aV):Prop:=∀B:bM,B.heap=H->∀(names:List (I×b4))(U:List (I×Nat))(p j' pos:bu)(b7 gp:Expr)(d1 bU:aI->St->ao L),
 kP names "KindFault"=true->fO [b7,gp]->(∀C,dB B c.D names U d b7 C (d1 C))->(∀C,dB B c.D names U d gp C (bU C))->
 kB B c.D names U d (.Raise (some (.Call (.Name "KindFault" p) [b7,gp] [] j')) none pos) (λC l=>(d1 C l).bind λx ak=>(bU C ak).bind λy a2=>x.u4 (.exc y a2))
def C3(c:ew)(d:Nat)(H:aV):Prop:=∀B:bM,B.heap=H->∀(names:List (I×b4))(U:List (I×Nat))(e:Expr)(mh:oA)(oe:Nat)(bv Bo Og uN ri Pd aL pos i1:bu)(bE:Nat)(a:L)(k:aI->St->ao L),
 kP names "KindFault"=true->names.lookup ("fault":I)=some .local->gJ U->U.lookup ("fault":I)≠none->oB mh a->(∀C,dB B c.D names U d e C (k C))->
 kB B c.D names U d (.Try [.Return (some e) Bo] [.ExceptHandler (some (.Name "KindFault" Og)) (some "fault") [.Return (some (.Tuple [.Constant mh oe bv,.Attribute (.Name "fault" uN) "spot" ri] bE i1)) Pd] aL] [] [] pos) (λC l=>(k C l).oT a)
structure zn{c:ew}(R:fX c):Prop where
 raise:CV c R.d R.H
 agM:C3 c R.d R.H
def gw(c:ew)(names:List (I×b4))(U:List (I×Nat))(st:ey)(s:mu):Prop:=gJ U->∀R:fX c,zn R->kB R.B c.D names U R.d st (gz R.bp s)
def j0(c:ew)(names:List (I×b4))(U:List (I×Nat))(st:List ey)(s:ec):Prop:=gJ U->∀R:fX c,zn R->mL R.B c.D names U R.d st (ff R.bp s)
section
variable{c:ew}{names:List (I×b4)}{U:List (I×Nat)}{p bN cK el ic lx hk hb hc hW:bu}{m r t:Expr}{x y z:bB}
theorem gw.assign{n:I}{i:Nat}(h:U.lookup n=some i∧m1 names n=true)(aO:jx m)(ai:ce c false names U m x):gw c names U (.Assign [.Name n bN] m p) (.assign i x):=λbn R o=>P1 aO bn h.1 h.2 λC=>ai R C
theorem gw.T'{n:I}{i:Nat}{g:io}{gens:List io}{scope:fa}(h:(U.lookup n=some i)∧m1 names n=true)(ai:SC c names U m (g::gens) scope x):gw c names U (.Assign [.Name n bN] (.ListComp m (g::gens) scope cK) p) (.assign i x):=λbn R o=>by
 obtain⟨k,ai⟩:=ai
 have e:gz R.bp (.assign i x)=λC l=>((k R C l).bind od).bind λa ak=>.ok (.next,C.set i (some a)) ak:=funext λC=>funext λl=>by
  change (aS R.bp x C l).bind _=_
  rw[(ai R C).2.2]
 rw[e]
 exact afA bn h.1 h.2 (λC=>(ai R C).1 cK) λC=>(ai R C).2.1
theorem gw.unpack{af:List Expr}{is:List Nat}{k:Nat}(aK:jx m)(o7:∀O,sC (af.map idOf) (vF [.Tuple af k bN] m O))(ok:hf names U is af)(hd:is.Nodup)(ai:ce c false names U m x):gw c names U (.Assign [.Tuple af k bN] m p) (.unpack is x):=λbn R o=>P4 aK o7 bn ok hd λC=>ai R C
theorem gw.jV{af as:List Expr}{is:List Nat}{k n:Nat}{T:dH}(h:BC as=true)(ok:hf names U is af)(hd:is.Nodup∧as.length<1000)(ai:hN c names U as T):gw c names U (.Assign [.Tuple af k bN] (.Tuple as n cK) p) (.jV is T):=λbn R o=>by
 have e:gz R.bp (.jV is T)=λC l=>((fn R.bp T C l).bind λY ak=>ao.ok (L.tup Y) ak).bind λx ak=>(opt ((kF x).bind λm=>ht is m C) ak).bind λbb a2=>.ok (.next,bb) a2:=funext λC=>funext λl=>by
  change (fn R.bp T C l).bind _=_
  cases fn R.bp T C l <;> rfl
 rw[e]
 exact P4 Qu.m5 (λO=>af0 ok h) bn ok hd.1 λC=>KC (ai.2.2 R C) (ai.mR hd.2 R C)
theorem gw.setItem(dy:c.D=false)(aO:jx m)(ai:ce c false names U m x)(am:ce c false names U r y)(a6:ce c false names U t z):gw c names U (.Assign [.Subscript r t bN] m p) (.setItem y z x):=λbn R o=>afH dy R.Z aO (λC=>ai R C) (λC=>am R C) (λC=>a6 R C)
theorem gw.setAttr{n:I}{Q:aa}(h:c.D=false∧storeOk c.K Q n=true∧fy n=true)(aO:jx m)(ai:ce c false names U m x)(am:ce c false names U r y):gw c names U (.Assign [.Attribute r n bN] m p) (.setAttr y n Q x):=λbn R o=>afG h.1 R.Z aO h.2.1 h.2.2 (λC=>ai R C) (λC=>am R C)
theorem gw.expr(aO:jx m)(ai:ce c false names U m x):gw c names U (.Expr m p) (.expr x):=λbn R o=>afB aO λC=>ai R C
theorem gw.iff{as bs:List ey}{u v:ec}(h:ce c true names U m x)(ai:j0 c names U as u)(am:j0 c names U bs v):gw c names U (.If m as bs p) (.iff x u v):=λbn R q=>afD (λC=>h R C) (ai bn R q) (am bn R q)
theorem gw.for{hu:e3}{it:iH}{as:List ey}{u:ec}{pure:Bool}(h:(!pure||c.D)=true)(ok:h3 names U hu m)(aP:gc r)(ai:nI c names U r m it)(am:j0 c names U as u):gw c names U (.For m r as [] p) (.for pure hu it u):=λbn R q=>afC (λq=>by rw[q] at h;exact h) bn ok aP (λC=>ai R C) (am bn R q)
theorem gw.while{as:List ey}{u:ec}(h:ce c true names U m x)(ai:j0 c names U as u):gw c names U (.While m as [] p) (.while x u):=λbn R q=>afI 100 (λC=>h R C) (ai bn R q)
theorem gw.ret(h:ce c false names U m x):gw c names U (.Return (some m) p) (.ret x):=λbn R q=>afF λC=>h R C
theorem gw.raise{n:I}(h:n="KindFault")(dR:kP names "KindFault"=true)(ai:hN c names U [m,r] (.cons x (.cons y .nil)))(am:ce c false names U m x∧ce c false names U r y):gw c names U (.Raise (some (.Call (.Name n cK) [m,r] [] el)) none p) (.raise x y):=λbn R q=>by
 obtain rfl:=h
 exact q.raise R.B R.gA names U _ _ _ _ _ _ _ dR ai.1 (λC=>am.1 R C) (λC=>am.2 R C)
theorem gw.r7{n N u v:I}{mh:oA}{k oe:Nat}{a:L}(h:n="KindFault"∧N="fault"∧u="fault"∧v="spot")(bQ:kP names "KindFault"=true)(ai:names.lookup ("fault":I)=some .local∧U.lookup ("fault":I)≠none)(am:oB mh a)(a6:ce c false names U m x):
 gw c names U (.Try [.Return (some m) cK] [.ExceptHandler (some (.Name n el)) (some N) [.Return (some (.Tuple [.Constant mh oe hW,.Attribute (.Name u ic) v lx] k hk)) hb] hc] [] [] p) (.r7 x a):=λbn R q=>by
 obtain⟨rfl,rfl,rfl,rfl⟩:=h
 exact q.agM R.B R.gA names U _ _ _ _ _ _ _ _ _ _ _ _ _ a (λC=>aS R.bp x C) bQ ai.1 bn ai.2 am λC=>a6 R C
theorem j0.nil:j0 c names U [] .nil:=λbn R q=>afE
theorem j0.cons{st:ey}{em:List ey}{s:mu}{r:ec}(h:gw c names U st s)(ai:j0 c names U em r):j0 c names U (st::em) (.cons s r):=λbn R q=>P2 (h bn R q) (ai bn R q)
theorem j0.any{em:List ey}:j0 c names U em .any:=λbn R q M m O J C l s P aG=>absurd rfl aG
end
set_option genInjectivity false in
structure ui where
 tag:Nat
 n:Nat
 af:List bB
 is:List Nat
 hu:e3
 it:iH
 bs:List ec
noncomputable def mu.view:mu->ui
 |.assign i e=>⟨0,i,[e],[],.one 0,.ex .nil,[]⟩
 |.unpack is e=>⟨0,0,[e],is,.one 0,.ex .nil,[]⟩
 |.jV is af=>⟨1,0,af.qK,is,.one 0,.ex .nil,[]⟩
 |.setItem A k v=>⟨0,0,[v,A,k],[],.one 0,.ex .nil,[]⟩
 |.setAttr A _ Q v=>⟨0,Q,[v,A],[],.one 0,.ex .nil,[]⟩
 |.expr e |.ret e |.r7 e _=>⟨0,0,[e],[],.one 0,.ex .nil,[]⟩
 |.iff t a b=>⟨0,0,[t],[],.one 0,.ex .nil,[a,b]⟩
 |.for p t it body=>⟨Dz p,0,[],[],t,it,[body]⟩
 |.while t body=>⟨0,0,[t],[],.one 0,.ex .nil,[body]⟩
 |.raise a b=>⟨0,0,[a,b],[],.one 0,.ex .nil,[]⟩
noncomputable def ui.e(h:ui)(i:Nat):bB:=(h.af[i]?).getD .nil
noncomputable def ui.b(h:ui)(i:Nat):ec:=(h.bs[i]?).getD .nil
abbrev ky(c:ew)(names:List (I×b4))(U:List (I×Nat))(st:ey):Type:={s:mu // gw c names U st s}
abbrev IG(c:ew)(names:List (I×b4))(U:List (I×Nat))(st:List ey):Type:={s:ec // j0 c names U st s}
noncomputable def Oy{P:List ey->Type}(no:(b:List ey)->P b)(k:(m:Expr)->(p:bu)->P [.Return (some m) p]):(b:List ey)->P b
 |[.Return (some m) p]=>k m p
 |b=>no b
section
variable(dp:CX)(c:ew)(ns:List (I×b4))(be:List (I×Nat))(cE:ec->(st:List ey)->Option (IG c ns be st))(h:ui)
noncomputable def aaK(n:I)(bN p:bu)(q:be.lookup n=some h.n∧m1 ns n=true):(v:Expr)->Option (ky c ns be (.Assign [.Name n bN] v p)):=Ot (λv=>(dp c ns be (h.e 0) v).bind λx=>x.m5.opt λaO=>some ⟨.assign h.n x.e,.assign q aO (x.ok _)⟩) λm kL hs cK=>match kL with
 |g::gens=>(Mu dp c ns be (h.e 0).view m hs (g::gens)).map λx=>⟨.assign h.n x.1,.T' q x.2⟩
 |[]=>none
noncomputable def aaU(af:List Expr)(k:Nat)(bN p:bu)(v:Expr):Option (ky c ns be (.Assign [.Tuple af k bN] v p)):=
 (F0 ns be h.is af).opt λok=>fD (h.is.Nodup) λhd=>m8 (P:=λv=>Option (ky c ns be (.Assign [.Tuple af k bN] v p))) (xV (λo=>none) λas n cK=>fD (BC as=true∧as.length<1000) λq=>(o' (dp c ns be) h.af as).map λT=>⟨.jV h.is T.1,.jV q.1 ok ⟨hd,q.2⟩ T.2.1⟩)
  (λn el=>(dp c ns be (h.e 0) (.Name n el)).map λx=>⟨.unpack h.is x.e,.unpack Hc.m5 (λo=>.inl rfl) ok hd (x.ok _)⟩) v
noncomputable def aax(v:Expr)(p:bu):(t:Expr)->Option (ky c ns be (.Assign [t] v p)):=m8 (xV (Ov (vn (λo=>none)
 λA n o=>fD (c.D=false∧storeOk c.K h.n n=true∧fy n=true) λq=>(dp c ns be (h.e 0) v).bind λx=>x.m5.opt λaO=>(dp c ns be (h.e 1) A).map λy=>⟨.setAttr y.e n h.n x.e,.setAttr q aO (x.ok _) (y.ok _)⟩)
 λA i o=>fD (c.D=false) λq=>(dp c ns be (h.e 0) v).bind λx=>x.m5.opt λaO=>(dp c ns be (h.e 1) A).bind λy=>(dp c ns be (h.e 2) i).map λz=>⟨.setItem y.e z.e x.e,.setItem q aO (x.ok _) (y.ok _) (z.ok _)⟩)
 λaf k bN=>aaU dp c ns be h af k bN p v)
 λn bN=>fD (be.lookup n=some h.n∧m1 ns n=true) λq=>aaK dp c ns be h n bN p q v
noncomputable def aaM(p:bu):(x:Expr)->Option (ky c ns be (.Raise (some x) none p)):=vo (λo=>none) λn cK as el=>match as with
 |[m,r]=>fD (n="KindFault"∧kP ns "KindFault"=true) λq=>(dp c ns be (h.e 0) m).bind λx=>(dp c ns be (h.e 1) r).map λy=>⟨.raise x.e y.e,.raise q.1 q.2 (.cons x.jT (x.ok _) (.cons y.jT (y.ok _) .nil)) ⟨x.ok _,y.ok _⟩⟩
 |_=>none
noncomputable def aaT(n N:I)(m:Expr)(x:e9 c ns be m)(cK el hb hc p:bu)(q:(n="KindFault"∧N="fault")∧kP ns "KindFault"=true∧ns.lookup ("fault":I)=some .local∧be.lookup ("fault":I)≠none)(k:Nat)(hk:bu):(as:List Expr)->Option (ky c ns be (.Try [.Return (some m) cK] [.ExceptHandler (some (.Name n el)) (some N) [.Return (some (.Tuple as k hk)) hb] hc] [] [] p))
 |[a,b]=>xU (P:=λa=>Option (ky c ns be (.Try [.Return (some m) cK] [.ExceptHandler (some (.Name n el)) (some N) [.Return (some (.Tuple [a,b] k hk)) hb] hc] [] [] p))) (λo=>none) (λmh oe hW=>(J2 mh).bind λa=>vn (P:=λb=>Option (ky c ns be (.Try [.Return (some m) cK] [.ExceptHandler (some (.Name n el)) (some N) [.Return (some (.Tuple [.Constant mh oe hW,b] k hk)) hb] hc] [] [] p))) (λo=>none) (λA v lx=>m8 (P:=λA=>Option (ky c ns be (.Try [.Return (some m) cK] [.ExceptHandler (some (.Name n el)) (some N) [.Return (some (.Tuple [.Constant mh oe hW,.Attribute A v lx] k hk)) hb] hc] [] [] p))) (λo=>none) (λu ic=>fD (u="fault"∧v="spot") λbO=>some ⟨.r7 x.e a.1,.r7 ⟨q.1.1,q.1.2,bO.1,bO.2⟩ q.2.1 q.2.2 a.2 (x.ok _)⟩) A) b) a
 |_=>none
noncomputable def aaS(p:bu)(body:List ey):(aP:List ExceptHandler)->Option (ky c ns be (.Try body aP [] [] p))
 |[.ExceptHandler (some ty) (some N) ag hc]=>Oy (P:=λbody=>Option (ky c ns be (.Try body [.ExceptHandler (some ty) (some N) ag hc] [] [] p))) (λo=>none) (λm cK=>(dp c ns be (h.e 0) m).bind λx=>m8 (P:=λty=>Option (ky c ns be (.Try [.Return (some m) cK] [.ExceptHandler (some ty) (some N) ag hc] [] [] p))) (λo=>none) (λn el=>fD ((n="KindFault"∧N="fault")∧kP ns "KindFault"=true∧ns.lookup ("fault":I)=some .local∧be.lookup ("fault":I)≠none) λq=>Oy (P:=λag=>Option (ky c ns be (.Try [.Return (some m) cK] [.ExceptHandler (some (.Name n el)) (some N) ag hc] [] [] p))) (λo=>none) (λHh hb=>xV (P:=λHh=>Option (ky c ns be (.Try [.Return (some m) cK] [.ExceptHandler (some (.Name n el)) (some N) [.Return (some Hh) hb] hc] [] [] p))) (λo=>none) (λas k hk=>aaT c ns be n N m x cK el hb hc p q k hk as) Hh) ag) ty) body
 |_=>none
noncomputable def aaO:(st:ey)->Option (ky c ns be st)
 |.Assign [t] v p=>aax dp c ns be h v p t
 |.Expr v _=>(dp c ns be (h.e 0) v).bind λx=>x.m5.opt λaO=>some ⟨.expr x.e,.expr aO (x.ok _)⟩
 |.If t a b _=>(dp c ns be (h.e 0) t).bind λx=>(cE (h.b 0) a).bind λy=>(cE (h.b 1) b).map λz=>⟨.iff x.e y.1 z.1,.iff (x.ok _) y.2 z.2⟩
 |.For t i body [] _=>(yq ns be h.hu t).opt λok=>fD ((!(h.tag==1)|| c.D)=true) λq=>(AO dp c ns be i t h.it).bind λit=>(cE (h.b 0) body).map λy=>⟨.for (h.tag==1) h.hu it.1 y.1,.for q ok it.2.2 it.2.1 y.2⟩
 |.While t body [] _=>(dp c ns be (h.e 0) t).bind λx=>(cE (h.b 0) body).map λy=>⟨.while x.e y.1,.while (x.ok _) y.2⟩
 |.Return (some v) _=>(dp c ns be (h.e 0) v).map λx=>⟨.ret x.e,.ret (x.ok _)⟩
 |.Raise (some x) none p=>aaM dp c ns be h p x
 |.Try body aP [] [] p=>aaS dp c ns be h p body aP
 |_=>none
end
noncomputable def u6(c:ew)(ns:List (I×b4))(be:List (I×Nat)):Nat->ec->(st:List ey)->Option (IG c ns be st)
 |0,_,_=>none
 |_+1,.any,_=>some ⟨.any,.any⟩
 |_+1,_,[]=>some ⟨.nil,.nil⟩
 |n+1,.cons s r,a::t=>(aaO (xx 40) c ns be (u6 c ns be n) s.view a).bind λx=>(u6 c ns be n r t).map λy=>⟨.cons x.1 y.1,.cons x.2 y.2⟩
 |_+1,.nil,_::_=>none
noncomputable def bX(t:List (aa×ed)):Nat->Nat->aa->List L->St->ao L
 |0=>λo o o o=>.fail
 |d+1=>λaC f args l=>(opt (t.lookup f) l).bind λdQ=>dQ.run ⟨bX t d,aC⟩ args
theorem DC{t:List (aa×ed)}:(d:Nat)->oy (bX t d)
 |0=>λo o o o=>trivial
 |d+1=>λaC f Y l=>dj jN λdQ l=>aep (DC d) dQ Y l
structure IJ{c:ew}(eh:I->Bool)(R:fX c):Prop where
 x:zn R
 file:∀s,eh s=true->((aH.main.file:I)== s)=true
 top:(aH.main.scope.names.lookup ("super":I)).isSome=false
def q1(K:cb)(aX:fV)(as:List hY)(U:List (I×Nat)):Prop:=
 aX.defaults=.none∧aX.scope.kind=.function∧aX.scope.isCoroutine=false∧aX.scope.isGenerator=false∧aX.globals=gh∧aX.builtins=sL∧codeIn K aX.code aX.qualname=true∧(as.map (·.arg)).Nodup∧
 aX.closure.all (λp=>K.lookup p.2 |>.isSome)=true∧aX.closure.length<=1∧(U.map (·.2)).Nodup∧
 (∀q∈U,aX.scope.names.lookup q.1=some .local∨aX.scope.names.lookup q.1=some .cell∧(q.1,jw)∈aX.scope.names)∧∀q∈as.zipIdx,U.lookup q.1.arg=some q.2
noncomputable def KX(K:cb)(aX:fV)(as:List hY)(U:List (I×Nat)):Pf (q1 K aX as U):= @Pf.dec _ (by unfold q1;infer_instance)
theorem q1.of{K:cb}{f:aa}{aX:fV}{as:List hY}{body:List ey}{U:List (I×Nat)}{f7:ab}{cc:Option aa}{f8:Array (Option ab)}(iy:K.lookup f=some ⟨f7,cc,.func aX,f8⟩)(aL:aX.params=⟨[],as,none,[],[],none,[]⟩)(ag:aX.body=.stmts body)(h:q1 K aX as U):
 wc K f aX as body U:=
 have a6:=h.2.2.2
 have f6:=a6.2.2.2
 have je:=f6.2.2.2
 ⟨⟨f7,cc,f8,iy⟩,aL,h.1,ag,h.2.1,h.2.2.1,a6.1,a6.2.1,a6.2.2.1,f6.1,f6.2.1,f6.2.2.1,je.1,Qp je.2.1,λx i aD=>je.2.2.1 _ (mem_of_lookup aD),λx aD=>mem_of_lookup aD,λk a aM=>je.2.2.2 (a,k) (List.mk_mem_zipIdx_iff_getElem?.mpr aM)⟩
def v'(K:cb)(eh:I->Bool)(v:ab):Prop:=∃sN DH DK T DI file Ha,v=.ref sN∧K.lookup sN=some ⟨DH,DK,.fields T,DI⟩∧T[2]? =some (.str file Ha)∧eh file=true
noncomputable def KP(K:cb)(eh:I->Bool):(v:ab)->Pf (v' K eh v)
 |.ref sN=>(match h:K.lookup sN with
  |some ⟨_,_,.fields T,_⟩=>(match am:(T[2]? :Option ab) with
   |some (.str file _)=>.map (λa6=>⟨_,_,_,_,_,_,_,rfl,h,am,a6⟩) (.is (eh file))
   |_=>.no)
  |_=>.no)
 |_=>.no
def v4(K:cb)(dx:List (I×aa))(Q dS:aa):Prop:=∃p3 dd JI DZ,dx.lookup ("__class__":I)=some p3∧K.lookup p3=some ⟨dd,JI,.cell (some (.ref dS)),DZ⟩∧(∃DJ,ro K dS=some DJ)∧m4 K Q (.ref dS)=some true
noncomputable def JJ(K:cb)(dx:List (I×aa))(Q dS:aa):Pf (v4 K dx Q dS):=match h:dx.lookup ("__class__":I) with
 |some p3=>(match am:K.lookup p3 with
  |some ⟨_,_,.cell (some (.ref D)),_⟩=>.NA (λb0 bO eJ=>by obtain rfl:=b0;exact⟨_,_,_,_,h,am,zh.mp bO,eJ⟩) (.dec (D=dS)) (.is (ro K dS).isSome) (.dec (m4 K Q (.ref dS)=some true))
  |_=>.no)
 |none=>.no
noncomputable def zY(K:cb)(dx:List (I×aa)):aa:=match (dx.lookup ("__class__":I)).bind λp3=>K.lookup p3 with
 |some ⟨_,_,.cell (some (.ref D)),_⟩=>D
 |_=>0
def zq(K:cb)(aX:fV)(name:I)(Q dk dS:aa):Prop:=w2 K dk=true∧aX.scope.names.lookup ("super":I)=some .globalImplicit∧aX.scope.names.lookup ("__class__":I)=some .free∧¬(("__class__":I),jw)∈aX.scope.names∧
 pc K Q dS name=some (some (.ref dk))∧ha K gh "super"=some none∧ha K ux "thirdparty.any"=some none∧pv K (.ref dk)=some (.type "function")∧(name==("__class__":I))=false
noncomputable def afV(K:cb)(aX:fV)(name:I)(Q dk dS:aa):Pf (zq K aX name Q dk dS):= @Pf.dec _ (by unfold zq;infer_instance)
def CP(aX:fV)(U:List (I×Nat)):Prop:=∃a,(aX.params.posonlyargs++aX.params.args).head? =some a∧U.lookup a.arg=some 0∧aX.scope.names.lookup a.arg=some .local
noncomputable def adl(aX:fV)(U:List (I×Nat)):Pf (CP aX U):=match h:(aX.params.posonlyargs++aX.params.args).head? with
 |some a=>.map (λq=>⟨a,h,q⟩) (.dec _)
 |none=>.no
theorem Qf{K:cb}{eh:I->Bool}{f:aa}{aX:fV}{Q dS:aa}{f7:ab}{cc:Option aa}{f8:Array (Option ab)}(iy:K.lookup f=some ⟨f7,cc,.func aX,f8⟩)(aG:∀s,eh s=true->((aH.main.file:I)== s)=true)(bn:(aH.main.scope.names.lookup ("super":I)).isSome=false)
 (ai:v' K eh aX.code) (am:v4 K aX.closure Q dS) (h:ha K gh "super"=some none):uk K f aX Q dS:=
 ahX ai λo o o o o o o a b c e=>Hw am λo o o o p q r N=>bz r λo r=>.mk iy a b c (aG _ e) p q r N bn h
theorem afW{K:cb}{eh:I->Bool}{f:aa}{aX:fV}{U:List (I×Nat)}{name:I}{Q dk dS:aa}{f7:ab}{cc:Option aa}{f8:Array (Option ab)}(iy:K.lookup f=some ⟨f7,cc,.func aX,f8⟩)(aG:∀s,eh s=true->((aH.main.file:I)== s)=true)(bn:(aH.main.scope.names.lookup ("super":I)).isSome=false)
 (ai:v' K eh aX.code) (am:v4 K aX.closure Q dS) (a6:CP aX U) (h:zq K aX name Q dk dS):∃h4,IU K f aX U name Q dk dS h4:=cr a6 λa hV cK el=>have fc:=h.2.2.2
 have jd:=fc.2.2.2
 ⟨a,Qf iy aG bn ai am fc.2.2.1,h.1,hV,cK,el,h.2.1,h.2.2.1,fc.1,fc.2.1,jd.1,jd.2.1,jd.2.2⟩
section
variable(K:cb)(df:List aa)(eh:I->Bool)(f:aa)
def BodyOk(aX:fV)(U:List (I×Nat))(body:List ey)(s:ec):Prop:=gJ U->(∃f7 cc f8,K.lookup f=some ⟨f7,cc,.func aX,f8⟩)->∀R:fX ⟨K,df.contains f,df⟩,IJ eh R->zp R.B (df.contains f) f aX U R.d body (ff R.bp s)
end
section
variable{K:cb}{df:List aa}{eh:I->Bool}{f:aa}{aX:fV}{U:List (I×Nat)}
theorem BodyOk.plain{body:List ey}{s:ec}(h:j0 ⟨K,df.contains f,df⟩ aX.scope.names U body s):BodyOk K df eh f aX U body s:=λbn o R q=>(h bn R q.x).at
theorem BodyOk.super{n N name:I}{Q dk:aa}{hV cK el ic pos:bu}{args:List Expr}{pl:List ey}{as:dH}{cu:ec}(h:n="super"∧N=name∧el.endLine=pos.line∧args.length<30)
 (ai:v' K eh aX.code∧v4 K aX.closure Q (zY K aX.closure)∧CP aX U∧zq K aX name Q dk (zY K aX.closure)) (am:(⟨K,df.contains f,df⟩:ew).call dk=true) (a6:hN ⟨K,df.contains f,df⟩ aX.scope.names U args as) (c2:j0 ⟨K,df.contains f,df⟩ aX.scope.names U pl cu):
 BodyOk K df eh f aX U (.Expr (.Call (.Attribute (.Call (.Name n hV) [] [] cK) N el) args [] pos) ic::pl) (.cons (.expr (.super name Q dk as)) cu):=λbn⟨f7,cc,f8,iy⟩R q=>by
 obtain⟨rfl,rfl,fc,f6⟩:=h
 obtain⟨cl,o⟩:=afW iy q.file q.top ai.1 ai.2.1 ai.2.2.1 ai.2.2.2
 exact Uh (bp:=R.bp.call) R.Z o a6.1 (beq_iff_eq.mpr fc) f6 (a6.2.2 R) (R.call am) (c2 bn R q.x)
end
section
variable(K:cb)(df:List aa)(eh:I->Bool)(f:aa)(aX:fV)(U:List (I×Nat))
abbrev zi(body:List ey):Type:={s:ec // BodyOk K df eh f aX U body s}
noncomputable def aaR(pl:List ey)(cu:{s:ec // j0 ⟨K,df.contains f,df⟩ aX.scope.names U pl s})(v:ny)(ic:bu):(e:Expr)->Option (zi K df eh f aX U (.Expr e ic::pl)):=Gf (λo=>none) λg args pos=>vn (P:=λg=>Option (zi K df eh f aX U (.Expr (.Call g args [] pos) ic::pl))) (λo=>none) (λA N el=>vo (P:=λA=>Option (zi K df eh f aX U (.Expr (.Call (.Attribute A N el) args [] pos) ic::pl))) (λo=>none) (λn hV as cK=>match as with
  |[]=>fD ((n="super"∧N=N∧el.endLine=pos.line∧args.length<30)∧(⟨K,df.contains f,df⟩:ew).call v.eb=true) λq=>(KP K eh aX.code).opt λb0=>(JJ K aX.closure v.d9 (zY K aX.closure)).opt λbO=>(adl aX U).opt λeJ=>(afV K aX N v.d9 v.eb (zY K aX.closure)).opt λgH=>(o' (xx 40 ⟨K,df.contains f,df⟩ aX.scope.names U) v.kids args).map λaf=>⟨.cons (.expr (.super N v.d9 v.eb af.1)) cu.1,.super q.1 ⟨b0,bO,eJ,gH⟩ q.2 af.2.1 cu.2⟩
  |_::_=>none) A) g
noncomputable def aay(s:ec)(body:List ey):Option (zi K df eh f aX U body):=match s,body with
 |.cons a r,.Expr e p::cu=>if (a.view.e 0).view.tag=7 then(u6 ⟨K,df.contains f,df⟩ aX.scope.names U 60 r cu).bind λx=>aaR K df eh f aX U cu x (a.view.e 0).view p e else(u6 ⟨K,df.contains f,df⟩ aX.scope.names U 60 (.cons a r) (.Expr e p::cu)).map λx=>⟨x.1,.plain x.2⟩
 |s,body=>(u6 ⟨K,df.contains f,df⟩ aX.scope.names U 60 s body).map λx=>⟨x.1,.plain x.2⟩
end
theorem i5.yA{d:Nat}{E:bM}{D:Bool}{f:aa}{Y:List L}{l:St}{r:ao L}(x:i5 E true d f Y l r):i5 E D d f Y l r:=λM m J s T R S F cL aG=>nU (x M m J s T R S F cL aG) λeP ah h=>match eP,h with
 |.error e,⟨a,av,a3,aw,S,jF,g⟩=>⟨a,av,a3,aw,S,jF,g.yA⟩
 |.ok (.ret v),⟨a,av,a3,aw,S,jF,g⟩=>⟨a,av,a3,aw,S,jF,g.yA⟩
def uf(K:cb)(df:List aa)(eh:I->Bool)(f:aa)(dQ:ed):Prop:=∀R:fX ⟨K,df.contains f,df⟩,IJ eh R->∀Y l,i5 R.B (df.contains f) (R.d+1) f Y l (dQ.run R.bp Y l)
theorem uf.mk{K:cb}{df:List aa}{eh:I->Bool}{f:aa}{dQ:ed}{aX:fV}{U:List (I×Nat)}{as:List hY}{body:List ey}{f7:ab}{cc:Option aa}{f8:Array (Option ab)}(iy:K.lookup f=some ⟨f7,cc,.func aX,f8⟩)(aL:aX.params=⟨[],as,none,[],[],none,[]⟩)(ag:aX.body=.stmts body)
 (ai:q1 K aX as U) (am:as.length=dQ.params∧dQ.params<=dQ.slots) (a6:BodyOk K df eh f aX U body dQ.body):uf K df eh f dQ:=λR q Y l=>by
 have aW:=q1.of iy aL ag ai
 have lu:=JC (n:=dQ.slots) R.Z aW (a6 aW.table ⟨_,_,_,iy⟩ R q) Y l (am.1▸am.2)
 rw[am.1] at lu
 exact lu
noncomputable def D4{P:Type}(K:cb)(f:aa)(k:(f7:ab)->(cc:Option aa)->(aX:fV)->(f8:Array (Option ab))->K.lookup f=some ⟨f7,cc,.func aX,f8⟩->(as:List hY)->aX.params=⟨[],as,none,[],[],none,[]⟩->(body:List ey)->aX.body=.stmts body->Option P):Option P:=match h:K.lookup f with
 |some ⟨f7,cc,.func aX,f8⟩=>(match aL:aX.params,ag:aX.body with
  |⟨[],as,none,[],[],none,[]⟩,.stmts body=>k f7 cc aX f8 h as aL body ag
  |_,_=>none)
 |_=>none
noncomputable def Pa(K:cb)(df:List aa)(eh:I->Bool)(f:aa)(n:Nat)(s:ec)(U:List (I×Nat)):Option {dQ:ed // uf K df eh f dQ}:=D4 K f λf7 cc aX f8 h as aL body ag=>(KX K aX as U).opt λq=>fD (as.length<=n) λbO=>(aay K df eh f aX U s body).map λx=>⟨⟨as.length,n,x.1⟩,.mk h aL ag q ⟨rfl,bO⟩ x.2⟩
theorem JB{H:aV}{K:cb}{t:List (aa×ed)}{df:List aa}{eh:I->Bool}(Z:∀B:bM,B.heap=H->ef K B)(LK:∀file,eh file=true->((aH.main.file:I)== file)=true)(Md:(aH.main.scope.names.lookup ("super":I)).isSome=false)
 (L7:∀f dQ,t.lookup f=some dQ->uf K df eh f dQ) (ba:∀D d,CV ⟨K,D,df⟩ d H) (bD:∀D d,C3 ⟨K,D,df⟩ d H):
 ∀(d:Nat)(B:bM),B.heap=H->∀(f:aa)(D:Bool),(D=true->df.contains f=true)->∀aC Y l,i5 B D d f Y l (bX t d aC f Y l)
 |0,B,gA,f,D,dy,aC,Y,l=>λM m J s T R S F cL aG=>absurd rfl aG
 |d+1,B,gA,f,D,dy,aC,Y,l=>by
  change i5 B D (d+1) f Y l ((opt (t.lookup f) l).bind _)
  have row:=L7 f
  revert row
  cases t.lookup f with
  |none=>exact λo M m J s T R S F cL aG=>absurd rfl aG
  |some dQ=>
   intro row
   have gR:=row dQ rfl ⟨d,⟨bX t d,aC⟩,H,⟨Z,DC d,JB Z LK Md L7 ba bD d⟩,B,gA⟩ ⟨⟨ba _ d,bD _ d⟩,LK,Md⟩ Y l
   revert gR dy
   cases D with
   |true=>intro dy gR;rw[dy rfl] at gR;exact gR
   |false=>
    cases df.contains f with
    |true=>exact λo gR=>gR.yA
    |false=>exact λo gR=>gR
noncomputable def El(Q S F:aa):List ab:=[.ref Q,.ref S,.ref F,.type "Exception",.type "BaseException",.type "object"]
def v9(K:cb)(Q S F:aa):Prop:=(ro K Q).map (·.mro)=some (El Q S F)
theorem adh{K:cb}{Q S F:aa}(h:v9 K Q S F):m4 K Q (.type "object")=some true:=
 aU (hL.mp h) λjB aK az=>(congrArg (S3 · _) aK).trans ((congrArg (λN:List ab=>if N.isEmpty then none else some (N.contains (.type "object"))) az).trans rfl)
theorem ad7(self:ab)(Q S F:aa):refuseLoop self "__setattr__" (El Q S F)=pure ():=by
 refine(O5 ..).trans ((O5 ..).trans ((O5 ..).trans ?_))
 exact PySem.F.store_Exception.passes self
section
variable{M:cv}{K:cb}{x Q S F bC:aa}{s:ay}{R:lT->ay->Prop}
theorem OC{m9:cV}{cc:Option cV}{name:I}{bE:j3}{v:ab}{r:Option ab}(X:K.In s.heap)(aW:InstAt s.heap x m9 Q cc)(aL:v9 K Q S F)(bn:r3 K Q name=some r)
 (h:∀b,a9 (a1 aH w) M.in1 (match r with |some a=>PySem.Builtin.ObjectAttr.setByDescriptor a (.ref x) v |none=>PySem.Builtin.ObjectAttr.storeInOwnDict (.ref x) (.ref Q) (.str name bE) name v b)
  (λfI ah=>match fI with |.done f=>R (.ok f) ah |.again dd=>dd.quiet=true∧gy (a1 aH w) M dd R ah) (λe ah=>R (.error e) ah) s):
 gy (a1 aH w) M (.call (.builtin "object.__setattr__") ⟨[.ref x,.str name bE,v],[]⟩) R s:=by
 have kA:=PySem.F.store_object
 refine aU (hL.mp aL) λjB aK az=>?_
 have sub:iN (a1 aH w) s.heap (xz (.ref x) (.type "object")) true:=aW.type.andThen (FN X (adh aL))
 refine DQ kA.slot.plain kA.entry (@check_slot (a1 aH w) _ _ s "object.__setattr__" "object" "__setattr__" (.ref x) [.str name bE,v] [] _ kA.kind kA.split sub (kA.args (.ref x) (.str name bE) v) ?_)
 refine aU (mF.mp bn) λattr ar ba=>?_
 have hm:iN (a1 aH w) s.heap (mroOf (.ref Q)) jB.mro:=(xL X aK).andThen .now
 have Cn:iN (a1 aH w) s.heap (PySem.Builtin.ObjectAttr.storeTaker? attr) r:=by
  cases attr with
  |none=>(obtain rfl:=dq ba);exact .now
  |some a=>
   refine aU (hL.mp ba) λb ag ail=>?_
   subst ail
   refine(looks_takesIn X ag).andThen ?_
   cases b <;> exact .now
 rw[osa_eq,refuse_eq]
 refine aE (aE (aW.type.here (aE (hm.here ?_))))
 refine(az▸ad7 _ Q S F:refuseLoop _ "__setattr__" jB.mro=pure ())▸?_
 refine bj (aE (aW.type.here (aE ((AZ X ar).here (aE (Cn.here ?_))))))
 exact h _
noncomputable abbrev jD(Q:aa)(T:Array ab)(cc:Option aa):cV:={cls:=.ref Q,dict:=cc,data:=.fields T}
theorem Qa{af:List iI}{a0:Nat}{name:I}{bE:j3}{v:ab}{an:Fin->ay->Prop}{aA:ab->ay->Prop}{s:ay}(g6:s.heap.get? bC=some (h8 af a0))
 (ba:af.any (·.refKey)=false) (aZ:af.length<=1000) (h:∀ae,ae.get? bC=some (h8 (jS name (jy w.params name) (.str name s.toks) v af) (x2 name af a0))->hw bC s.heap ae->an (.done (.ret .none)) {s with heap:=ae,toks:=s.toks+1}):
 a9 (a1 aH w) M (PySem.Builtin.ObjectAttr.storeInDict bC (.str name bE) name v) an aA s:=by
 refine aE (bj (aE ?_))
 refine aE (aE (vS (bj (aE (Hp (aE (BW g6 ?_)))))))
 dsimp only[h8]
 have c:(!af.toArray.any (·.key.isStr name)&& af.toArray.any (·.refKey))=false:=by
  have:af.toArray.any (·.refKey)=false:=by refine Rk▸?_;exact ba
  simp only[this,Rq]
 rw[Tv,c]
 have si:(s.heap.update bC (S2 name (jy w.params name) (.str name s.toks) v)).get? bC=some (h8 (jS name (jy w.params name) (.str name s.toks) v af) (x2 name af a0)):=by
  rw[nz _ g6 (by rw[Gz];rfl),Gz]
 refine ahO g6 ?_
 refine aE (ahC si (adr (by
  have:(jS name (jy w.params name) (.str name s.toks) v af).length<=af.length+1:=by
   clear g6 ba aZ h c si
   induction af with
   |nil=>simp[jS]
   |cons a r aJ=>dsimp only[jS];split <;> simp;exact aJ
  simp only[oI,jU];exact cf [_,_] 1 al (Ns (.num 16777216)) 1 ax (.num 1000) 1 al (Ns ax) rfl aZ this)) ?_)
 exact bj (h _ si (sl ..))
theorem adf{af:List iI}{a0:Nat}{name:I}{bE:j3}{v:ab}{T:Array ab}(X:K.In s.heap)(aD:s.heap.get? x=some (jD Q T (some bC)))(g6:s.heap.get? bC=some (h8 af a0))(aL:v9 K Q S F)(bn:r3 K Q name=some none)(a8:s1 K Q=true)
 (ba:af.any (·.refKey)=false) (aZ:af.length<=1000) (h:∀ae,ae.get? bC=some (h8 (jS name (jy w.params name) (.str name s.toks) v af) (x2 name af a0))->hw bC s.heap ae->R (.ok (.ret .none)) {s with heap:=ae,toks:=s.toks+1}):
 gy (a1 aH w) M (.call (.builtin "object.__setattr__") ⟨[.ref x,.str name bE,v],[]⟩) R s:=by
 refine OC X (cc:=some (h8 af a0)) ⟨aD,rfl,rfl,g6⟩ aL bn λb=>?_
 refine aU (Jb a8) λjB aK eO=>?_
 refine aE (bj (aE (aE (BW aD (aE ((xL X aK).here ?_))))))
 refine(eO).symm▸?_
 exact bj (a:=some bC) (Qa g6 ba aZ h)
theorem ade{name:I}{bE:j3}{v:ab}{T:Array ab}(X:K.In s.heap)(aD:s.heap.get? x=some (jD Q T none))(aL:v9 K Q S F)(bn:r3 K Q name=some none)(a8:s1 K Q=true)
 (h:∀ae,ae.get? s.heap.objs.size=some (h8 [⟨jy w.params name,.str name s.toks,v⟩] (x2 name [] 0))->ae.get? x=some (jD Q T (some s.heap.objs.size))->(∀b A,b≠x->s.heap.get? b=some A->ae.get? b=some A)->R (.ok (.ret .none)) {s with heap:=ae,toks:=s.toks+1}):
 gy (a1 aH w) M (.call (.builtin "object.__setattr__") ⟨[.ref x,.str name bE,v],[]⟩) R s:=by
 refine OC X (cc:=none) ⟨aD,rfl,rfl,trivial⟩ aL bn λb=>?_
 refine aU (Jb a8) λjB aK eO=>?_
 obtain⟨aL,g,dG,t,os⟩:=s
 refine aE (bj (aE (aE (BW aD (aE ((xL X aK).here ?_))))))
 refine(eO).symm▸?_
 have Ml:(aL.push {cls:=.type "dict",data:=.dict #[]}).get? x=some (jD Q T none):=dM _ aD
 have Mk:x≠aL.objs.size:=ho (eF aD)
 have aO:aL.get? aL.objs.size=none:=RX (eN _)
 refine aE (wpAny_alloc' ?_)
 refine aE (wpAny_update' Ml ?_)
 refine bj ?_
 have Zl:((aL.push {cls:=.type "dict",data:=.dict #[]}).update x λA=>{cls:=A.cls,dict:=some aL.objs.size,data:=A.data,slots:=A.slots}).get? aL.objs.size=some (h8 [] 0):=
  (RY _ _ _ _ Mk.symm).trans (Heap.get?_push_at rfl rfl)
 refine Qa (s:=⟨_,g,dG,t,os⟩) (bC:=aL.objs.size) Zl rfl (by simp) λae e aP=>h ae e ?_ λb A ag az=>?_
 ·exact(aP.2 x Mk).trans (nz _ Ml rfl)
 ·exact(aP.2 b (ho (eF az))).trans ((RY _ _ _ _ ag).trans (dM _ az))
end
theorem XH:typeOf (.builtin "Exception.__init__")=pure (.type "wrapper_descriptor"):=by kernel_rfl
theorem PM:Slot "wrapper_descriptor" "__get__" "wrapper_descriptor.__get__":=.of (owner:="wrapper_descriptor") (n:="__get__") (by kernel_rfl) (by decide +kernel) (by decide +kernel) (by decide +kernel)
 (by first |exact .inl (by decide +kernel)| exact .inr (by decide +kernel)) (by kernel_rfl)
theorem W0:uG table "wrapper_descriptor.__get__"=some ms.«wrapper_descriptor.__get__»:=Km (by kernel_rfl)
theorem TW(a b c:ab):wK "wrapper_descriptor.__get__" ⟨[a,b,c],[]⟩:=by unfold wK;kernel_rfl
section
variable{M:cv}{aA:ab->ay->Prop}{h:aV}{g:Array pI}{d:oC}{t:Nat}{os:kx}
theorem abO{x Q:aa}{K:cb}{m9:cV}(X:K.In h)(aD:h.get? x=some m9)(aK:m9.cls=.ref Q)(hm:m4 K Q (.type "Exception")=some true):iN (a1 aH w) h (xz (.ref x) (.type "Exception")) true:=by
 have gi:iN (a1 aH w) h (typeOf (.ref x)) (.ref Q):=by simp only[<-aK];exact(SF aD).andThen .now
 exact gi.andThen (FN X hm)
theorem afY{k1 D x Q:aa}{m9:cV}{tp m:List ab}{K:cb}{name:I}{bE:j3}{an:Fin->ay->Prop}
 (jf:h.get? k1=some {cls:=.type "super",dict:=none,data:=.fields #[.ref D,.ref x,.ref Q],slots:= #[]}) (qn:iN (a1 aH w) h (ac' (.ref Q)) none)
 (cB:iN (a1 aH w) h (mroOf (.ref Q)) tp) (aN:(tp.dropWhile (· !=.ref D)).drop 1=m) (X:K.In h)
 (aG:alongIn K name m=some (some (.builtin "Exception.__init__"))) (Fi:x≠Q) (aO:(name==("__class__":I))=false) (aD:h.get? x=some m9) (Fk:m9.cls=.ref Q) (hm:m4 K Q (.type "Exception")=some true)
 (a7:an (.done (.ret (.ref h.objs.size))) ⟨h.push {cls:=.type "method-wrapper",data:=.fields #[.builtin "Exception.__init__",.ref x]},g,d,t,os⟩):
 a9 (a1 aH w) M (ms.«super.__getattribute__» ⟨[.ref k1,.str name bE],[]⟩) an aA ⟨h,g,d,t,os⟩:=by
 have o3:=PM.lookup
 have d5:(hq x==hq Q)=false:=by simp[Fi]
 have Lv:(⟨h,g,d,t,os⟩:ay).TypeIs (.builtin "Exception.__init__") "wrapper_descriptor":=XH
 have EQ:({cls:=.type "super",dict:=none,data:=.fields #[.ref D,.ref x,.ref Q],slots:= #[]}:cV).data=.fields #[.ref D,.ref x,.ref Q]:=rfl
 have kc:(#[.ref D,.ref x,.ref Q]:Array ab)[0]? =some (.ref D):=rfl
 have fQ:(#[.ref D,.ref x,.ref Q]:Array ab)[1]? =some (.ref x):=rfl
 have dk:(#[.ref D,.ref x,.ref Q]:Array ab)[2]? =some (.ref Q):=rfl
 have rF:(".".intercalate ("Exception.__init__".cutAt '.').dropLast)="Exception":=by decide +kernel
 unfold ms.«super.__getattribute__»
 repeat (first
  |(with_reducible refine vT jf EQ kc ?_)| (with_reducible refine vT jf EQ fQ ?_)| (with_reducible refine vT jf EQ dk ?_)
  |(with_reducible refine ks_wpAny_notOpaque qn ?_)
  |(with_reducible refine Looks.at cB ?_;refine aN▸?_)
  |(refine ks_forIn_along X (λo o=>rfl) rfl ?_ aG)
  |(with_reducible refine vU Lv ?_)
  |(with_reducible refine oo PM Lv W0 ?_ (TW _ _ _))
  |(with_reducible refine⟨_,rfl,?_⟩)
  |wp_step
  )
 rw[if_neg (ne_true_of_eq_false d5)]
 refine aE (aE (bj (a:=(_,oP (".".intercalate ("Exception.__init__".cutAt '.').dropLast))) ?_))
 refine rF.symm▸aE ((abO X aD Fk hm).at ?_)
 refine bj (aE ?_)
 refine nl ?_ (by size_fits)
 refine bj ⟨_,rfl,?_⟩
 repeat wp_step
 exact a7
theorem Yq{k1 D x Q:aa}{m9:cV}{tp m:List ab}{K:cb}{name:I}{cZ:dh Bool}{an:ab×List ab->ay->Prop}
 (jf:h.get? k1=some {cls:=.type "super",dict:=none,data:=.fields #[.ref D,.ref x,.ref Q],slots:= #[]}) (qn:iN (a1 aH w) h (ac' (.ref Q)) none)
 (cB:iN (a1 aH w) h (mroOf (.ref Q)) tp) (aN:(tp.dropWhile (· !=.ref D)).drop 1=m) (X:K.In h)
 (aG:alongIn K name m=some (some (.builtin "Exception.__init__"))) (Fi:x≠Q) (aO:(name==("__class__":I))=false) (aD:h.get? x=some m9) (Fk:m9.cls=.ref Q) (hm:m4 K Q (.type "Exception")=some true)
 (a7:an (.ref h.objs.size,[]) ⟨h.push {cls:=.type "method-wrapper",data:=.fields #[.builtin "Exception.__init__",.ref x]},g,d,t+1,os⟩):
 a9 (a1 aH w) M (uO (.ref k1) name cZ) an aA ⟨h,g,d,t,os⟩:=by
 have o3:=HR.lookup
 have ak6:=F.ks_canon_super_ga
 have d4:∀c9,(⟨h,g,d,c9,os⟩:ay).TypeIs (.ref k1) "super":=λo=>bx _ jf rfl
 refine aE (Hs (d4 _) o3 ?_)
 refine(?_:a9 _ _ (if (akw "super.__getattribute__" != "object.__getattribute__")=true then _ else _) _ _ _)
 refine aE (aE (Hp (gL (aE (vU (d4 _) (aE (sa o3 ?_)))))))
 refine(?_:a9 _ _ (Yo (.ref k1) (.str name t) (.type "super") (.builtin "super.__getattribute__") true false) _ _ _)
 refine aE (sa (show(if onTheHeap (.type "super") then vM (.type "super") "__getattr__" else pure none)=pure none from rfl) ?_)
 refine aE (BR (gL ?_))
 refine aE (sa (HR.bind _) ?_)
 refine fx (Q:=λv ah=>v=.ref h.objs.size∧ah=⟨h.push {cls:=.type "method-wrapper",data:=.fields #[.builtin "Exception.__init__",.ref x]},g,d,t+1,os⟩) (E:=λo o=>False)
  (oo HR (d4 _) F.ks_entry_super_ga (afY jf qn cB aN X aG Fi aO aD Fk hm ⟨_,rfl,rfl,rfl⟩) (F.ks_gaArgs_super _ _)) (λv ah ck=>?_) λo o z=>z.elim
 obtain⟨rfl,rfl⟩:=ck
 exact bj (bj a7)
theorem XK(aH:mI)(P:oL)(b:Bool)(n bE qy x Q pr:Nat)(acS:cV)(nm q:I)(ap dO d3:Nat)(bs sub:List ab)(l7 lX:Bool)(c1:List I)(f5:Option Bool)(eg:Option aa)(mg cF cz g9 iX:Option ab)(v:ab):
 (runC ⟨aH,lf b P⟩ 4 (.call (.ref qy) ⟨[v],[]⟩) [0,1,2,1,1,1] ⟨n,bE,[(false,qy,{cls:=.type "method-wrapper",data:=.fields #[.builtin "Exception.__init__",.ref x]}),(true,x,jD Q #[.ref pr,.none,.none,.none,.bool false,.none] none),(false,Q,u' nm q Q ap dO d3 bs l7 c1 sub lX f5 eg mg cF cz g9 iX)]⟩).map seen=
  some (.ok (.ret .none),⟨n+1,bE,[(false,qy,{cls:=.type "method-wrapper",data:=.fields #[.builtin "Exception.__init__",.ref x]}),(true,x,jD Q #[.ref n,.none,.none,.none,.bool false,.none] none),(false,Q,u' nm q Q ap dO d3 bs l7 c1 sub lX f5 eg mg cF cz g9 iX),(true,n,{cls:=.type "tuple",data:=.seq #[v]})]⟩,[qy,x,Q,x,x,x],[qy,x,Q,x,x,x]):=by cases b <;> kernel_rfl
theorem XG{R:lT->ay->Prop}{qy x Q:aa}{v:ab}{pr:aa}(a8:M.handled=none)
 (LQ:h.get? qy=some {cls:=.type "method-wrapper",data:=.fields #[.builtin "Exception.__init__",.ref x]}) (aD:h.get? x=some (jD Q #[.ref pr,.none,.none,.none,.bool false,.none] none)) (F:sk h.get? Q)
 (a7:∀ae,ae.get? x=some (jD Q #[.ref h.objs.size,.none,.none,.none,.bool false,.none] none)->(∀b A,b≠x->h.get? b=some A->ae.get? b=some A)->R (.ok (.ret .none)) ⟨ae,g,d,t,os⟩):
 gy (a1 aH w) M (.call (.ref qy) ⟨[v],[]⟩) R ⟨h,g,d,t,os⟩:=by
 cases F with |mk cB=>
 exact XS 4 _ _ (λb=>XK aH w.params b h.objs.size t qy x Q pr default _ _ _ _ _ _ _ _ _ _ _ _ _ _ _ _ _ v) a8 ⟨LQ,aD,cB,trivial⟩ ⟨⟨λe=>(by cases e;cases LQ.symm.trans aD),trivial⟩,⟨λe=>(by cases e;cases aD.symm.trans cB),trivial⟩,trivial,trivial⟩ λae o q bv=>a7 ae q.2.1 λb A ag=>bv b A ⟨ag.symm,trivial⟩
end
def yW(K:cb)(aX:fV)(as:List hY)(nm:I):Prop:=
 aX.defaults=.none∧aX.scope.kind=.function∧aX.scope.isCoroutine=false∧aX.scope.isGenerator=false∧aX.globals=gh∧aX.builtins=sL∧codeIn K aX.code aX.qualname=true∧(as.map (·.arg)).Nodup∧
 (∀x∈aX.scope.names,x.2≠.cell)∧(∀a∈as,aX.scope.names.lookup a.arg=some .local)∧nm∈as.map (·.arg)∧aX.scope.names.lookup ("super":I)=some .globalImplicit∧aX.scope.names.lookup ("__class__":I)=some .free∧ha K gh "super"=some none∧(nm==("__debug__":I))=false
inductive R1(aX:fV)(nm:I):Prop
 |mk {hV cK el ic lx hk hb e4 pos qc:bu} (aL:(e4.endLine==pos.line)=true) (ag:aX.body=.stmts [.Expr (.Call (.Attribute (.Call (.Name "super" hV) [] [] cK) "__init__" e4) [.Name "what" el] [] pos) qc,.Assign [.Attribute (.Name "self" ic) nm lx] (.Name nm hk) hb])
structure we(K:cb)(f:aa)(aX:fV)(as:List hY)(nm:I)(Q dS:aa):Prop where
 s:uk K f aX Q dS
 params:aX.params=⟨[],as,none,[],[],none,[]⟩
 first:∃cu,as.map (·.arg)=("self":I):: ("what":I):: cu
 body:R1 aX nm
 d:yW K aX as nm
structure Cy(K:cb)(Q dS x:aa)(og:cV):Prop where
 get:∀{M:cv}{aA:ab->ay->Prop}{an:ab×List ab->ay->Prop}{h:aV}{g:Array pI}{d:oC}{t:Nat}{os:kx}{cZ:dh Bool}{k1:aa}{T:Array ab}{cc:Option aa},K.In h->h.get? x=some (jD Q T cc)->h.get? k1=some {cls:=.type "super",dict:=none,data:=.fields #[.ref dS,.ref x,.ref Q],slots:= #[]}->
  an (.ref h.objs.size,[]) ⟨h.push og,g,d,t+1,os⟩->a9 (a1 aH w) M (uO (.ref k1) "__init__" cZ) an aA ⟨h,g,d,t,os⟩
 fr:og.isFreed=false
 keep:∀{a8:aV}{N:aa},K.In a8->a8.get? N=some og->∃k,(k=so∨k=sp∨k=sn)∧iN (a1 aH w) a8 (tj (.ref N)) k
section
variable{E:bM}{K:cb}{M:cv}{R:lT->ay->Prop}{h:aV}{g:Array pI}{dG:oC}{t:Nat}{os:kx}
theorem aeC{aX:fV}{as:List hY}{a:I}{r:List I}(aL:aX.params=⟨[],as,none,[],[],none,[]⟩)(h:as.map (·.arg)=a::r):∃h4,(aX.params.posonlyargs++aX.params.args).head? =some h4∧h4.arg=a:=by
 rw[aL]
 cases as with
 |nil=>cases h
 |cons b t=>exact bx b rfl (Se h).1
theorem Mx{f:aa}{aX:fV}{as:List hY}{nm:I}{Q dS x:aa}{v u:ab}{qN:List ab}{og:cV}{pr:aa}(Z:ef K E)(ag:E.heap.StaysIn h)(o:we K f aX as nm Q dS)(cw:Cy K Q dS x og)
 (aD:h.get? x=some (jD Q #[.ref pr,.none,.none,.none,.bool false,.none] none)) (ba:M.depth<vw) (aN:qN.length+2=as.length) (eB:((as.map (·.arg)).zip (.ref x::v::qN)).reverse.lookup nm=some u) (ck:((as.map (·.arg)).zip (.ref x::v::qN)).reverse.lookup ("what":I)=some v)
 (mX:((as.map (·.arg)).zip (.ref x::v::qN)).reverse.lookup ("self":I)=some (.ref x)) {G:aV->aV->Prop}
 (Y2:∀aB N ae c9,(∀b A,h.get? b=some A->ae.get? b=some A)->ae.get? N=some og->gy (a1 aH w) (M.deeper (callEnv aX aB f)) (.call (.ref N) ⟨[v],[]⟩)
  (λr ah=>r=.ok (.ret .none)∧∃cC jm,ah=⟨cC,g,dG,jm,os⟩∧(∀b A,b≠x->ae.get? b=some A->cC.get? b=some A)∧G ae cC) ⟨ae,g,dG,c9,os⟩)
 (n7:∀hG ae cC jm,(∀b A,h.get? b=some A->ae.get? b=some A)->(∀b A,b≠x->ae.get? b=some A->cC.get? b=some A)->G ae cC->
  a9 (a1 aH w) hG (setAttr (.ref x) nm u) (λ_ ah=>R (.ok (.ret .none)) ah) (λ_ _=>False) ⟨cC,g,dG,jm,os⟩):
 gy (a1 aH w) M (.call (.ref f) ⟨.ref x::v::qN,[]⟩) R ⟨h,g,dG,t,os⟩:=by
 have X:K.In h:=Z.X.keeps ag
 refine sc o.s.at λf7 cc f8 iy=>bz o.first λcu Au=>aU Z.jj λjj qm a7=>?_
 cases o.body with |mk aL YW=>
 refine B0 o.d λhQ fP zW Wf Wg Wh Wi r=>B0 r λWj Wk Wa Wb Wc Wd _ We=>?_
 have YV:BindsTo ⟨h,g,dG,t,os⟩ aX ⟨.ref x::v::qN,[]⟩ ((as.map (·.arg)).zip (.ref x::v::qN)):=.of_eq (Js o.params hQ Wj aN)
 have lo:∀a∈as.map (·.arg),aX.scope.names.lookup a=some .local:=λa ar=>aU (gY.mp ar) λb gQ z=>z▸Wa b gQ
 refine ks_codeAny_call_defAt ba (X _ _ iy) rfl (Z.lim.keeps ag) (codeRec_of X Wi) YW YV Wk (λp aL=>lo _ (Cw aL).1) (λbF gr cF=>?_) zW Wf fP
 have Lj:(⟨h,g,dG,t,os⟩:ay).heap.objs.size≠x:=λe=>kw _ (e▸eF aD)
 generalize (⟨h,g,dG,t,os⟩:ay).heap.objs.size=aB at gr Lj |-
 have LB:E.heap.StaysIn bF:=λb A e=>cF b A (ag b A e)
 have sD:K.In bF:=Z.X.keeps LB
 refine aU (aeC o.params Au) λh4 EF L1=>?_
 refine Qi o.s sD fP Wc Wd rfl rfl rfl Wg Wh EF (by rw[L1];exact lo _ (Au▸.head _)) gr (by rw[L1];exact mX) (qm.keeps LB) ((a7 "super" (by decide)).trans Qg) (cF _ _ aD) rfl (λc e=>by cases e) rfl aL (.cons GY .nil) (by simp) λae cZ cz jf=>?_
 have kE:K.In ae:=sD.keeps cz
 refine cw.get kE (cz _ _ (cF _ _ aD)) jf ?_
 have g9:∀b A,bF.get? b=some A->(ae.push og).get? b=some A:=λb A e=>dM _ (cz b A e)
 have o4:(ae.push og).get? ae.objs.size=some og:=eS _ cw.fr
 generalize ae.objs.size=N at o4 |-
 generalize ae.push og=db at g9 o4 |-
 refine DE (P:=λa8=>K.In a8∧a8.get? N=some og) rfl (λa8 q=>cw.keep q.1 q.2) (z9 (.cons GY .nil) ?_)
 rw[yl GY]
 refine aE (BQ (yC fP (lo _ (Au▸.tail _ (.head _))) (gr.keeps g9) ck ?_) rfl)
 refine aE (gL (bj (bj ⟨⟨sD.keeps g9,o4⟩,?_⟩)))
 refine r9 (nU (Y2 aB N db _ (λb A e=>g9 b A (cF b A e)) o4) λr ah ba=>dL ba λiU ba=>ik ba λma r8 z=>qQ z λz rL xa=>?_)
 subst iU
 subst z
 have LU:=tw gr λA q=>rL aB A Lj (g9 _ _ q)
 refine abs (ks_wpAt_Assign_Attr (Hu (BQ (yC fP (lo _ Wb) LU eB (BQ (yC fP (lo _ (Au▸.head _)) LU mX ?_) rfl)) We)) rfl)
 exact fx (n7 _ db ma r8 (λb A e=>g9 b A (cF b A e)) rL xa) (λ_ ah r=>Hu (sa (a:=wb) rfl r)) λ_ _ z=>z.elim
end
noncomputable abbrev wrapObj(x:aa):cV:={cls:=.type "method-wrapper",data:=.fields #[.builtin "Exception.__init__",.ref x]}
structure t6(K:cb)(Q fQ dk nv nw:aa):Prop where
 cls:sk (K.lookup ·) Q
 over:v9 K Q nw nv
 ahg:r3 K Q "what"=some none
 cq:r3 K Q "spot"=some none
 dict:s1 K Q=true
 Pu:jE K (.ref Q) "__setattr__"=some (some (.builtin "object.__setattr__"))
 init:jE K (.ref Q) "__init__"=some (some (.ref dk))
 agX:pv K (.ref fQ)=some (.type "function")
 agY:pv K (.ref dk)=some (.type "function")
 X8:w2 K fQ=true
 afT:pc K Q nv "__init__"=some (some (.builtin "Exception.__init__"))
 afU:pc K Q nw "__init__"=some (some (.ref fQ))
 any:ha K ux "thirdparty.any"=some none
 exc:m4 K Q (.type "Exception")=some true
 bk:∃aX as,as.map (·.arg)=[("self":I),("what":I)]∧we K fQ aX as "what" Q nv
 b2:∃aX as,as.map (·.arg)=[("self":I),("what":I),("spot":I)]∧we K dk aX as "spot" Q nw
section
variable{E:bM}{K:cb}{M:cv}{R:lT->ay->Prop}{aA:ab->ay->Prop}{h:aV}{g:Array pI}{dG:oC}{t:Nat}{os:kx}{Q fQ dk nv nw:aa}
theorem acO{x:aa}{T:Array ab}{cc:Option aa}{jB:HN}(X:K.In h)(aD:h.get? x=some (jD Q T cc))(aK:ro K Q=some jB):x≠Q:=λe=>aU (DP aK) λA ai am=>by
 subst e
 cases aD.symm.trans (X _ _ ai)
 cases am
theorem acb{D f x:aa}(qp:pc K Q D "__init__"=some (some (.ref f)))(xv:pv K (.ref f)=some (.type "function"))(Zj:w2 K f=true)(EE:ha K ux "thirdparty.any"=some none):Cy K Q D x (ts (.ref f) (.ref x)) where
 get:=fun{M aA an h g d t os cZ k1 T cc}X aD jf a7=>Qh X aD (λc e=>by cases e) jf qp xv EE rfl a7
 fr:=rfl
 keep:=fun{a8 N}X hm=>keeps_M Zj a8 ⟨hm,X⟩
theorem acd{D x:aa}(qp:pc K Q D "__init__"=some (some (.builtin "Exception.__init__")))(EE:ha K ux "thirdparty.any"=some none)(Zi:m4 K Q (.type "Exception")=some true):Cy K Q D x (wrapObj x) where
 get:=fun{M aA an h g d t os cZ k1 T cc}X aD jf a7=>by
  cases aK:ro K Q with
  |none=>unfold pc at qp;replace qp:=aK▸qp;cases qp
  |some jB=>
   unfold pc at qp
   rw[aK] at qp
   exact Yq jf (abP X EE) (tp:=jB.mro) (λM an aA s k q=>aE ((xL X aK) M _ aA s k (bj q))) rfl X qp (acO X aD aK) rfl aD rfl Zi a7
 fr:=rfl
 keep:=fun{a8 N}X hm=>bx .machine (.inr (.inl rfl)) ((SF hm).andThen .now)
theorem P6{x:aa}{h cC:aV}(rI:E.heap.get? x=none)(ag:E.heap.StaysIn h)(k:∀b A,b≠x->h.get? b=some A->cC.get? b=some A):E.heap.StaysIn cC:=λb A e=>k b A (by rintro rfl;replace e:=rI▸e;cases e) (ag b A e)
def IX(Q x:aa)(v:ab)(h cC:aV)(w:i9):Prop:=∃gi bC bE n,cC.get? x=some (jD Q #[.ref gi,.none,.none,.none,.bool false,.none] (some bC))∧h.get? bC=none∧bC≠x∧cC.get? bC=some (h8 [⟨jy w.params "what",.str "what" bE,v⟩] n)
theorem X4{x:aa}{v:ab}{pr:aa}(a8:M.handled=none)(Z:ef K E)(F:t6 K Q fQ dk nv nw)(rI:E.heap.get? x=none)(ag:E.heap.StaysIn h)(aD:h.get? x=some (jD Q #[.ref pr,.none,.none,.none,.bool false,.none] none))(ba:M.depth<vw):
 gy (a1 aH w) M (.call (.ref fQ) ⟨[.ref x,v],[]⟩) (λr ah=>r=.ok (.ret .none)∧∃cC jm,ah=⟨cC,g,dG,jm,os⟩∧(∀b A,b≠x->h.get? b=some A->cC.get? b=some A)∧IX Q x v h cC w) ⟨h,g,dG,t,os⟩:=by
 refine k5 F.bk λaX as o0 o=>?_
 have dW:as.length=2:=by have:=congrArg kr o0;simpa using this
 refine Mx (qN:=[]) (u:=v) (G:=λae cC=>∃gi,cC.get? x=some (jD Q #[.ref gi,.none,.none,.none,.bool false,.none] none)) Z ag o (acd F.afT F.any F.exc) aD ba (by simp[dW]) (by rw[o0];rfl) (by rw[o0];rfl) (by rw[o0];rfl) (λaB N ae c9 k hm=>?_) λhG ae cC jm cF cz xa=>?_
 ·exact XG a8 hm (k _ _ aD) (F.cls.to ((Z.X.keeps λb A e=>k b A (ag b A e)) _)) λcC a3 a4=>⟨rfl,cC,c9,rfl,a4,_,a3⟩
 ·refine bz xa λgi n8=>?_
  have wH:K.In cC:=Z.X.keeps (P6 rI (λb A e=>cF b A (ag b A e)) cz)
  refine PE (s:=⟨cC,g,dG,jm,os⟩) wH (od:=none) ⟨n8,rfl,rfl,trivial⟩ F.Pu (ade (s:=⟨cC,g,dG,jm+1,os⟩) wH n8 F.over F.ahg F.dict λa6 a3 a4 cI=>?_)
  have qn:h.get? cC.objs.size=none:=by
   cases z:h.get? cC.objs.size with
   |none=>rfl
   |some A=>
    have d5:cC.objs.size≠x:=by intro e;have:=eF n8;rw[<-e] at this;exact absurd this (kw _)
    exact absurd (eF (cz _ _ d5 (cF _ _ z))) (kw _)
  exact⟨rfl,a6,_,rfl,λb A gQ e=>cI b A gQ (cz b A gQ (cF b A e)),gi,cC.objs.size,_,_,a4,qn,λe=>by have:=eF n8;rw[<-e] at this;exact absurd this (kw _),a3⟩
def IR(Q x:aa)(v u:ab)(h cC:aV)(w:i9):Prop:=∃gi bC bE tU n,cC.get? x=some (jD Q #[.ref gi,.none,.none,.none,.bool false,.none] (some bC))∧h.get? bC=none∧bC≠x∧cC.get? bC=some (h8 (jS "spot" (jy w.params "spot") (.str "spot" tU) u [⟨jy w.params "what",.str "what" bE,v⟩]) n)
theorem afm{x:aa}{v u:ab}{pr:aa}(a8:M.handled=none)(Z:ef K E)(F:t6 K Q fQ dk nv nw)(rI:E.heap.get? x=none)(ag:E.heap.StaysIn h)(aD:h.get? x=some (jD Q #[.ref pr,.none,.none,.none,.bool false,.none] none))(ba:M.depth+1<vw):
 gy (a1 aH w) M (.call (.ref dk) ⟨[.ref x,v,u],[]⟩) (λr ah=>r=.ok (.ret .none)∧∃cC jm,ah=⟨cC,g,dG,jm,os⟩∧(∀b A,b≠x->h.get? b=some A->cC.get? b=some A)∧IR Q x v u h cC w) ⟨h,g,dG,t,os⟩:=by
 refine k5 F.b2 λaX as o0 o=>?_
 have dW:as.length=3:=by have:=congrArg kr o0;simpa using this
 refine Mx (qN:=[u]) (u:=u) (G:=λae cC=>IX Q x v ae cC w) Z ag o (acb F.afU F.agX F.X8 F.any) aD (by exact Nat.lt_of_succ_lt ba) (by simp[dW]) (by refine o0▸?_;rfl) (by refine o0▸?_;rfl) (by refine o0▸?_;rfl) (λaB N ae c9 k hm=>?_) λhG ae cC jm cF cz xa=>?_
 ·exact abr hm (X4 a8 Z F rI (λb A e=>k b A (ag b A e)) (k _ _ aD) ba)
 ·refine Hw xa λgi bC bE n n8 LD LF g6=>?_
  have wH:K.In cC:=Z.X.keeps (P6 rI (λb A e=>cF b A (ag b A e)) cz)
  refine PE (s:=⟨cC,g,dG,jm,os⟩) wH (od:=some _) ⟨n8,rfl,rfl,g6⟩ F.Pu (adf (s:=⟨cC,g,dG,jm+1,os⟩) wH n8 g6 F.over F.cq F.dict rfl (by simp) λa6 a3 a4=>?_)
  have uT:h.get? bC=none:=by
   cases z:h.get? bC with
   |none=>rfl
   |some A=>rw[cF _ _ z] at LD;nomatch LD
  refine⟨rfl,a6,_,rfl,λb A gQ e=>?_,gi,bC,bE,_,_,(a4.2 x LF.symm).trans n8,uT,LF,a3⟩
  have YS:b≠bC:=by rintro rfl;rw[uT] at e;nomatch e
  exact(a4.2 b YS).trans (cz b A gQ (cF b A e))
theorem ab0{v u:ab}{an:ab->ay->Prop}(a8:M.handled=none)(Z:ef K E)(F:t6 K Q fQ dk nv nw)(ag:E.heap.StaysIn h)(ba:M.depth+10<vw)
 (a7:∀x cC jm,h.get? x=none->(∀b A,h.get? b=some A->cC.get? b=some A)->IR Q x v u h cC w->an (.ref x) ⟨cC,g,dG,jm,os⟩):
 a9 (a1 aH w) M (call (.ref Q) [v,u]) an aA ⟨h,g,dG,t,os⟩:=by
 have l9:h.get? (h.objs.size+1)=none:=RX (pR _)
 have rI:E.heap.get? (h.objs.size+1)=none:=tQ ag l9
 refine r9 (XP a8 (cu:=[v,u]) (Z.X.keeps ag) F.cls (by simp only[jU];simp) F.init F.agY λbF dz dR=>nU (afm a8 Z F rI (λb A e=>dz b A (ag b A e)) dR ?_) λr ah z=>?_)
 ·show M.depth+1+1<vw
  exact b6 [_,_] 1 (Ns (Ns (Ns al))) ax 1 (Ns (.add al (.num 10))) ax rfl ba
 ·obtain⟨rfl,cC,jm,rfl,k,gi,bC,bE,tU,n,a3,a4,cI,eV⟩:=z
  exact⟨rfl,a7 _ _ _ l9 (λb A e=>k b A (λq=>c1 e (q▸l9)) (dz b A e)) ⟨gi,bC,bE,tU,n,a3,tQ dz a4,cI,eV⟩⟩
end
section
variable{cw:pN}{M:cv}{aA:ab->ay->Prop}{O:bo}
variable{Q:aa}
theorem ad3{s:ay}{x:dh ab}{an:mw->ay->Prop}(a8:M.handled=none)
 (h:a9 cw M x (λv bd=>∃e t cc,v=.ref e∧sk bd.heap.get? Q∧
  bd.heap.get? e=some (jD Q #[.ref t,.none,.none,.none,.bool false,.none] cc)∧aA (.ref e) bd) aA s):
 a9 cw M (raiseStmt O (some x) none) an aA s:=by
 refine aE (fx h (λv bd bF=>?_) λo o x=>x)
 refine py bF λe t cc ah7 F bw mU=>?_
 subst ah7
 cases F with |mk cB=>
 obtain⟨aL,g,d,bE,os⟩:=bd
 repeat (first |with_reducible refine yD bw ?_ |with_reducible refine yD cB ?_ |with_reducible refine Q1 cB ?_ |wp_step)
 exact wpAny_raiseNew_none a8 mU
end
theorem afn{cC:aV}{bC:aa}{v u:ab}{bE tU:j3}{n:Nat}
 (h:cC.get? bC=some (h8 (jS "spot" (jy w.params "spot") (.str "spot" tU) u [⟨jy w.params "what",.str "what" bE,v⟩]) n)):cC.DictOf (PySem.strKind aH w) bC [(("what":I),v),(("spot":I),u)]:=by
 have hV:q' (PySem.strKind aH w) [⟨jy w.params "what",.str "what" bE,v⟩] [(("what":I),v)]:=.cons rfl rfl .nil
 have e:k3 [(("what":I),v)] ("spot":I) u=[(("what":I),v),(("spot":I),u)]:=by
  have:(("what":I)="spot")=False:=by decide
  rfl
 have p:=Gy (L9:=jy w.params "spot") (name:="spot") (t:=tU) (v:=u) hV (by simp)
 refine abW _ _ _ h ⟨rfl,rfl,rfl⟩ rfl (λcW xk=>Gx (λe bw=>?_) cW (by simpa using xk)) (by exact p) (by simp;decide)
 simp at bw
 subst bw
 exact bx ("what") rfl rfl
theorem agU(c0:ao L)(bU:St->ao L):(c0.bind λx ak=>(bU ak).bind λy a2=>x.u4 (ao.exc (α:=dg×aI) y a2))=(c0.bind λx ak=>((bU ak).bind λx ak=>(ao.ok ([]:List L) ak).bind λY a2=>ao.ok (x::Y) a2).bind λY a2=>ao.ok (x::Y) a2).bind λY a2=>L.u4 (.exc (Y[1]?.getD .none) a2) (Y[0]?.getD .none):=by
 cases c0 with
 |ok x ak=>rw[ao.nS,ao.nS];cases bU ak <;> rfl
 |_=>rfl
theorem ad2{c:ew}{d:Nat}{H:aV}{Q fQ dk nv nw:aa}(Z:∀B:bM,B.heap=H->ef c.K B)(F:t6 c.K Q fQ dk nv nw)(aM:u9 c.K (.ref Q)=true)
 (dR:ha c.K gh "KindFault"=some (some (.ref Q))) (hm:∃N,H.Ns gh N∧N "KindFault"=some (.ref Q)):CV c d H:=λB gA names U p j' pos b7 gp d1 bU EW mY Zb Zd M m O J C l s P aG=>by
 have rd:=Z B gA
 have mU:hv B c.D names U d [b7,gp] C _:=Eh mY.hd (Zb C) (Eh mY.Qt.hd (Zd C) KI)
 have oV:=agU (d1 C l) (bU C)
 refine aE (np (ad3 (Q:=Q) P.room.a8 ?_))
 refine aE (aE (xK rd P.st.base P.dJ EW dR rfl ?_))
 dsimp only at aG |-
 generalize (d1 C l).bind (λx ak=>(bU C ak).bind λy a2=>x.u4 (ao.exc (α:=dg×aI) y a2))=cd at oV aG |-
 refine JD mY (AV rd aM) mU P (λq=>aG (oV.trans (by rw[show((d1 C l).bind _:ao (List L))=.fail from q];rfl))) (λY av T ah aw e S r g=>?_) λe ah z=>z.cast (λx av q=>oV.trans (by rw[show((d1 C l).bind _:ao (List L))=.exc x av from q];rfl)) hF
 rw[e] at oV
 refine jq (Dy e) λa ak bH a3 a4 cI=>jq (Dy a4) λb a2 jr eV g4 nX=>?_
 cases g4
 subst nX
 subst cI
 refine eL (br.cons_inv r) λiF alG qR eu eK=>eL (br.cons_inv eK) λk4 alH i3 qE tG=>?_
 cases tG.nil_inv
 subst i3
 subst qR
 cases a with
 |str alF=>
  change cd=.exc b av at oV
  obtain⟨h,sV,dG,t,os⟩:=ah
  refine ab0 P.room.a8 rd F S.base (by have:=P.room.depth;simp only[show vw=1000 from rfl];exact b6 [_,_] 1 (Ns (.add al (.num 10))) (.num 1000) 1 (Ns (.add (.add al (.mulL 5 ax)) (.num 3))) (.num 600) rfl this) λaj cC jm rE Ax aab=>ahW aab λgi bC bE tU n b0 bO eJ gH=>aU hm λN xp Az=>?_
  have gN:∀b,h.get? b=none->ov B (O::m) s aw b:=λb ag=>⟨g.gone ag,vh S.base ag,λhm=>S.there b hm ag,λhm=>oZ P.fr hm (g.gone ag)⟩
  exact aE (np (bj ⟨aj,gi,some bC,rfl,F.cls.to (rd.X.keeps (λb A e=>Ax b A (S.base b A e)) _),b0,b,_,oV,aw,S.more Ax,⟨aj,rfl,.mk (gN _ rE) (gA▸xp) Az (gN _ bO) eJ (.mk b0 rfl rfl rfl rfl) (.mk (afn gH) rfl (qE.mono (.of (λo o e=>e) Ax) _ _)) .none⟩,(g.trans (bG.more (s:=⟨h,sV,dG,t,os⟩) (t:=jm) Ax)).weaken hF⟩))
 |_=>exact absurd oV aG
theorem PK:Slot "Exception" "__getattribute__" "BaseException.__getattribute__":=.of (owner:="BaseException") (n:="__getattribute__") (by kernel_rfl) (by decide +kernel) (by decide +kernel) (by decide +kernel)
 (by first |exact .inl (by decide +kernel)| exact .inr (by decide +kernel)) (by kernel_rfl)
theorem abj:builtinKind "BaseException.__getattribute__"=some .slot:=by decide +kernel
theorem afk:splitId "BaseException.__getattribute__"=some ("BaseException","__getattribute__"):=by decide +kernel
section
variable{M:cv}{aA:ab->ay->Prop}{K:cb}{h:aV}{g:Array pI}{d:oC}{t:Nat}{os:kx}{x Q:aa}
theorem Ui{m9:cV}{cc:Option cV}{name:I}{v:ab}{expr:Bool}{an:ab->ay->Prop}(X:K.In h)(aW:InstAt h x m9 Q cc)
 (Zk:jE K (.ref Q) "__getattribute__"=some (some (.builtin "BaseException.__getattribute__"))) (dR:jE K (.ref Q) "__getattr__"=some none) (Fd:m4 K Q (.type "BaseException")=some true)
 (aG:findObj K Q cc name=some (.value v)) (a8:handedIn v=true) (a7:an v ⟨h,g,d,t+1,os⟩):a9 (a1 aH w) M (getAttr (.ref x) name expr) an aA ⟨h,g,d,t,os⟩:=by
 have Cm:=aW.type (M:=a1 aH w)
 have Sb:=AZ (M:=a1 aH w) X Zk
 have L2:=AZ (M:=a1 aH w) X dR
 have Cn:=looks_find (M:=a1 aH w) X aW aG
 have Cx:iN (a1 aH w) h (xz (.ref x) (.type "BaseException")) true:=Cm.andThen (FN X Fd)
 refine aE (Hp (gL (aE (Cm.at (aE (Sb.at ?_))))))
 refine(?_:a9 _ _ (Yo (.ref x) (.str name t) (.ref Q) (.builtin "BaseException.__getattribute__") true expr) _ _ _)
 refine aE ?_
 refine L2.at (aE (BR (gL ?_)))
 have Y6:Vt (.ref x) (.str name t) (.builtin "BaseException.__getattribute__") expr=boundAndCalled (.builtin "BaseException.__getattribute__") (.ref x) (.str name t):=by
  unfold Vt
  have:(expr&&onTheHeap (Ts "BaseException.__getattribute__"))=false:=by cases expr <;> rfl
  (refine this▸?_;rw[if_neg (by decide)])
 simp only[Y6]
 refine aE (sa (PK.bind _) ?_)
 refine r9 (DQ PK.plain F.entry_bexc_ga (@check_slot (a1 aH w) _ _ _ "BaseException.__getattribute__" "BaseException" "__getattribute__" (.ref x) [.str name t] [] _ abj afk Cx (F.args_bexc_ga _ _) ?_))
 refine aE (bj (aE (bj (aE (Cm.at (aE (Cn.at ?_)))))))
 refine bj ?_
 refine(?_:a9 _ _ (handedOut v) _ _ _)
 refine(handedOut_of a8)▸?_
 exact bj a7
end
section
variable{D:Bool}{E:bM}{M:cv}{O:bo}{m:List bo}{W J aw bT:List aa}{l:St}{s ah:ay}{a:L}{b7:aa}{U:List (I×Nat)}{C:aI}
theorem No{h ae:aV}{de:I->Option ab}(aB:er E U O J C h)(ag:hw O.locals h ae)(aO:ae.Ns O.locals de):er E U O J [] ae:=by
 refine bz aB.ns λN hm=>?_
 refine⟨⟨_,aO⟩,aB.nm,λy j bD=>?_,aB.apart,aB.pf,aB.m6⟩
 refine aU (aB.val y j bD) λu p q=>?_
 cases p with
 |ns k FY n e=>exact bx (de y) (.ns k de aO rfl) λa h=>by cases h
 |cell k c m b=>exact bx u (.cell k c m (zQ ag (λz=>xS hm (z▸b)) b)) λa h=>by cases h
structure Kept(E:bM)(m:List bo)(aw:List aa)(h:aV)(Q:aa)(a:L)(b7 bC:aa):Prop where
 nm:b7∉aw
 hU:b7∉ci m
 rp:bC∉aw
 sP:bC∉ci m
 A:∃iF,oF h Q b7 bC iF
 d:oE E aw h a bC
theorem iJ.fresh{h:aV}(x:iJ E m s aw h a b7):s.heap.get? b7=none:=by cases x with |mk gN=>exact gN.new
theorem iJ.kept{h:aV}(x:iJ E m s aw h a b7){Q:aa}{N:I->Option ab}(hm:E.heap.Ns gh N)(cB:N "KindFault"=some (.ref Q)):∃bC,Kept E m aw h Q a b7 bC∧s.heap.get? bC=none:=by
 cases x with | @mk kq bC iF de gN am a6 ka kH A d r=>
 have e:=Oi am hm "KindFault"
 cases a6.symm.trans (e.trans cB)
 exact⟨bC,⟨gN.nm,gN.hU,ka.nm,ka.hU,⟨iF,A⟩,d⟩,ka.new⟩
theorem oF.live{h:aV}{Q bC:aa}{iF:ab}(A:oF h Q b7 bC iF):h.get? b7≠none:=λq=>by cases A with |mk az _ _ _ _=>cases q.symm.trans az
theorem oF.on{h ae:aV}{Q bC:aa}{iF:ab}(k:∀A,h.get? b7=some A->ae.get? b7=some A)(A:oF h Q b7 bC iF):oF ae Q b7 bC iF:=by
 cases A with |mk az a b c d=>exact .mk (k _ az) a b c d
theorem oE.on{h ae:aV}{J:List aa}{bC:aa}(k:∀A,h.get? bC=some A->ae.get? bC=some A)(N:∀v,bf E aw h a v->bf E J ae a v)(d:oE E aw h a bC):oE E J ae a bC:=by
 cases d with |mk d s r=>exact .mk (k7 d λA af a0 az z=>⟨A,af,a0,k A az,z⟩) s (N _ r)
theorem Kept.grow{Q bC:aa}{bd cR:ay}{b3 eI:List aa}{ak:St}(x:Kept E m b3 bd.heap Q a b7 bC)(g:bG D (ci m) [] b3 bd eI cR)(S:a' E b3 ak bd.heap):Kept E m eI cR.heap Q a b7 bC where
 nm:=bz x.A λo A=>g.mj A.live x.nm
 hU:=x.hU
 rp:=g.mj x.d.live x.rp
 sP:=x.sP
 A:=bz x.A λv A=>⟨v,A.on λo e=>(g.keep _ _ x.nm (hK) e).resolve_right λz=>x.hU z.1⟩
 d:=x.d.on (λo e=>(g.keep _ _ x.rp (hK) e).resolve_right λz=>x.sP z.1) λo r=>r.on S g
theorem Kept.off{Q bC b:aa}{h ae:aV}(x:Kept E m aw h Q a b7 bC)(ag:hw b h ae)(bw:b7≠b)(hd:bC≠b)(xr:∀T,¬h.IsTuple b T):Kept E m aw ae Q a b7 bC where
 nm:=x.nm
 hU:=x.hU
 rp:=x.rp
 sP:=x.sP
 A:=bz x.A λv A=>⟨v,A.on λo e=>(ag.2 _ bw).trans e⟩
 d:=x.d.on (λo e=>(ag.2 _ hd).trans e) λo r=>r.mono (mi ag xr) _ _
end
structure yR(K:cb)(Q:aa):Prop where
 ga:jE K (.ref Q) "__getattribute__"=some (some (.builtin "BaseException.__getattribute__"))
 sV:jE K (.ref Q) "__getattr__"=some none
 sub:m4 K Q (.type "BaseException")=some true
 no:jE K (.ref Q) "spot"=some none
 dict:s1 K Q=true
section
variable{D:Bool}{E:bM}{K:cb}{M:cv}{O:bo}{m:List bo}{W J aw:List aa}{l av:St}{s ah:ay}{a:L}{b7 bC Q:aa}{U:List (I×Nat)}{C:aI}
theorem agG(ck:a.isVal=false){uN ri:bu}{gS:List bo}{N:I->Option ab}(Z:ef K E)(G:yR K Q)(S:a' E J l s.heap)(x:Kept E m J s.heap Q a b7 bC)(aM:O.scope.kind=.function)(aN:O.kindOf "fault"=some .local)(aO:s.heap.Ns O.locals N)(hm:N "fault"=some (.ref b7)):
 a5 E D M gS W J s (fb (.Attribute (.Name "fault" uN) "spot" ri) O) (bf E) (.ok a l):=λo=>by
 have X:K.In s.heap:=Z.X.keeps S.base
 refine ge λdT cD=>?_
 obtain⟨d9,eb,qz,alu,⟨iF,@⟨rU,T,ai,am,a6,c2,_⟩⟩,@⟨bP,v,⟨A,af,a0,az,aD,hd,ala,aL,mW⟩,fP,zW⟩⟩:=x
 refine cD ?_
 clear cD dT
 refine Attribute_name (BQ (yC aM aN aO hm ?_) (rfl))
 obtain⟨h,g,dG,t,os⟩:=s
 obtain⟨f7,alx,aly,f8⟩:=A
 dsimp only at hd
 subst hd
 obtain⟨Mh,n8,Mi⟩:=aD
 dsimp only at Mh n8 Mi
 subst Mh n8 Mi
 refine Ui X (cc:=some (h8 af.toList a0)) ⟨ai,am,by unfold notCls;rw[c2],by simp only[a6];exact az⟩ G.ga G.sV G.sub (X3 G.dict G.no rfl (by exact K9 aL fP)) (Ly ck zW) ⟨a,l,rfl,J,S.more (λo o e=>e),zW,?_⟩
 exact bG.tok
end
section
variable{D:Bool}{E:bM}{K:cb}{M:cv}{O:bo}{m:List bo}{J aw:List aa}{l av:St}{s ah:ay}{a:L}{b7 bC Q:aa}{U:List (I×Nat)}{C:aI}
theorem aec{mh:oA}{oe:Nat}{bv:bu}{b:L}{bE:Nat}{uN ri Bo i1:bu}{N:I->Option ab}{an:mw->ay->Prop}{aA:ab->ay->Prop}(ck:a.isVal=false)(Z:ef K E)(G:yR K Q)(S:a' E J l s.heap)(x:Kept E m J s.heap Q a b7 bC)(aM:O.scope.kind=.function)(aN:O.kindOf "fault"=some .local)
 (aO:s.heap.Ns O.locals N) (hm:N "fault"=some (.ref b7)) (ZN:O.locals∉J) (EJ:oB mh b)
 (a7:∀v ah aw,a' E aw l ah.heap->bf E aw ah.heap (.tup [b,a]) v->bG D (ci m) [] J s aw ah->an (.ret v) ah):
 a9 (a1 aH w) M (sR [.Return (some (.Tuple [.Constant mh oe bv,.Attribute (.Name "fault" uN) "spot" ri] bE i1)) Bo] O) an aA s:=by
 refine ahv ?_
 refine aE (np ?_)
 refine aE ?_
 refine aE (np (aE ?_))
 rw[yl ae0]
 refine aE ?_
 refine fx (yt (D:=D) (m:=m) (W:=[]) S EJ (by simp)) (λv bd p=>?_) λe bd p=>?_
 ·obtain⟨j7,ak,q,b3,bt,cN,bK⟩:=p
  cases q
  refine aE (gL ?_)
  rw[yl aeZ]
  have vX:=x.grow bK S
  have ZQ:bd.heap.Ns O.locals N:=bK.ns ZN (hK) aO
  refine aE (fx (agG (D:=D) (W:=[]) (gS:=m) ck Z G bt vX aM aN ZQ hm (by simp)) (λk4 cR p=>?_) λe cR p=>?_)
  ·obtain⟨iv,a2,q,eI,di,fj,dE⟩:=p
   cases q
   refine aE (gL (bj (bj (bj ?_))))
   refine fx (QA (D:=D) (m:=m) (W:=[]) (M:=M) di (.cons (cN.on bt dE) (.cons fj .nil)) (by simp only[jU];simp) (by simp)) (λalI jl p=>?_) λe jl p=>?_
   ·obtain⟨cH,f9,q,sf,kC,oj,jb⟩:=p
    cases q
    exact bj (a7 _ _ _ kC oj ((bK.trans dE).trans jb))
   ·obtain⟨_,_,q,_⟩:=p;cases q
  ·obtain⟨_,_,q,_⟩:=p;cases q
 ·obtain⟨_,_,q,_⟩:=p;cases q
end
theorem VB{b a:L}{av:St}{r:ao (dg×aI)}(h:(ao.exc a av:ao L).oT b=r)(aG:r≠.fail):a.isVal=false∧r=.ok (.ret (.tup [b,a]),[]) av:=by
 change cond a.isVal _ _=r at h
 cases q:a.isVal with
 |false=>rw[q] at h;exact⟨rfl,h.symm⟩
 |true=>rw[q] at h;exact absurd h.symm aG
theorem La{D:Bool}{bT:List aa}{U:List (I×Nat)}{O:bo}{J:List aa}{C:aI}{E:bM}{s:ay}{h:aV}{N:I->Option ab}{t:Nat}(aB:er E U O J C s.heap)(ag:hw O.locals s.heap h)(aO:h.Ns O.locals N):bG D bT (fw U O) J s J {s with heap:=h,toks:=t}:=
 .set ag (.inr (.head _)) (vj aO) (λo q=>absurd q aB.nm) λo o o=>⟨_,aO⟩
theorem agL{c:ew}{d:Nat}{H:aV}{Q fQ dk nv nw:aa}(Z:∀B:bM,B.heap=H->ef c.K B)(F:t6 c.K Q fQ dk nv nw)(G:yR c.K Q)
 (dR:ha c.K gh "KindFault"=some (some (.ref Q))) (hm:∃N,H.Ns gh N∧N "KindFault"=some (.ref Q)):C3 c d H:=λB gA names U e mh oe bv Bo Og uN ri Pd aL pos i1 bE b k EW xn bn ET EJ bw M m O J C l s P aG=>by
 have rd:=Z B gA
 cases F.cls with |mk cB=>
 refine aU hm λtt xp Az=>?_
 rw[<-gA] at xp
 have aM:=P.dJ.kind
 have aN:O.kindOf "fault"=some .local:=(P.dJ.kindOf _).trans xn
 have L4:(O.scope.kind == .class||(O.scope.kind == .module&&O.locals !=O.globals))=false:=by rw[aM];rfl
 have ZB:k C l≠.fail:=λz=>by dsimp only at aG;rw[z] at aG;exact aG rfl
 dsimp only at aG |-
 generalize ba:(k C l).oT b=r at aG |-
 refine Hv λir jY cY mU=>?_
 clear mU
 refine aE (np (wpAny_tryStmt_except (ahv (aE (np (aE (fx (bw C M (O::m) O J l s P ZB) (λv ah p=>?_) λcm ah p=>?_)))))))
 ·cases p with |mk x av q aw S eP g=>exact bj (cY _ _ ⟨(.ret x,[]),av,ba.symm.trans (congrArg (ao.oT b) q),aw,S,(.ret ((P.lo.grow g P.st).weaken (by simp)) eP),g.weaken hF⟩)
 ·cases p with |mk a av q aw cG aC g=>
  refine aU aC λb7 ajL uL=>dL (Es P.fr g) λo2 et=>aU (P.fr.each O (.head _)).2 λaB n4 o=>?_
  subst ajL
  have Le:∀b∈ci (O::m),b∉aw∧B.heap.get? b=none:=λb ag=>⟨(et b ag).1,(et b ag).2.1⟩
  have L6:a.isVal=false∧r=.ok (.ret (.tup [b,a]),[]) av:=VB (q▸ba) aG
  refine Ga P.room.frames n4 o2 et uL cG g λbF bt X7 jo bK=>Ae (ah:={ah with heap:=bF}) Le X7 jo bt bK λdb di Af gT dE=>wpAny_handleBy_cons (codeAny_handlers_test ?_) (by intro z;cases z)
  refine xK rd di.base P.dJ EW dR rfl (aU (Af.kept xp Az) λbC yY g6=>bz yY.A λiF A=>?_)
  cases A with |mk b0 bO _ _ _=>
  refine wpAny_excMatches_sub_self (rd.X.keeps di.base _ _ cB) b0 bO rfl (codeAny_handlers_suite_as (Ae (ah:={ah with heap:=db}) Le Af gT di dE λma kC KU r8 jb=>aU (KU.kept xp Az) λWm R' Y8=>?_))
  have wt:=P.lo.grow jb P.st
  refine bz wt.ns λalr LR=>?_
  have Mc:s.heap.get? O.locals≠none:=bz P.lo.ns λo=>vj
  have Zf:b7≠O.locals:=λz=>Mc (z▸KU.fresh)
  have Za:Wm≠O.locals:=λz=>Mc (z▸Y8)
  have fz:∀T,¬ma.IsTuple O.locals T:=λT e=>pg LR e
  refine ahK aN LR (λm0 E6 AE=>?_) L4
  have ul:a' B aw av m0:=kC.off AE wt.nm wt.pf fz
  have Ij:=No wt AE E6
  refine aec (s:={ah with heap:=m0,toks:=ah.toks+1}) (D:=c.D) L6.1 rd G ul (R'.off AE Zf Za fz) aM aN E6 rfl Ij.nm EJ λv af2 aj2 Tr aeu Lb=>?_
  have wu:=Ij.grow Lb ul
  refine bz wu.ns λals LS=>wpAny_nameGoes aN LS L4 λalj alt LW AF=>?_
  have Ok:∀T,¬af2.heap.IsTuple O.locals T:=λT e=>pg LS e
  exact cY _ _ ⟨(.ret (.tup [b,a]),[]),av,L6.2,aj2,Tr.off AF wu.nm wu.pf Ok,(.ret (No wu AF LW) (aeu.mono (mi AF Ok) _ _)),(((jb.weaken hF).trans (La wt AE E6)).trans (Lb.weaken hF)).trans (La wu AF LW)⟩
section
variable{D:Bool}{E:bM}{M:cv}{O:bo}{m:List bo}{W J:List aa}{l:St}{s:ay}{names:List (I×b4)}{U:List (I×Nat)}{d:Nat}{C:aI}
theorem br.pick{E:bM}{h:aV}{Y:List L}{T:List ab}(r:br E J h Y T)(is:List Nat):br E J h (is.filterMap (Y[·]?)) (is.filterMap (T[·]?)):=by
 induction is with
 |nil=>exact .nil
 |cons i is aJ=>
  cases e:Y[i]? with
  |none=>rw[H3 e,H3 (So.mpr (r.length▸So.mp e))];exact aJ
  |some a=>exact aU (r.get e) λv dY cL=>by rw[H4 e,H4 dY];exact .cons cL aJ
theorem agE{p:bu}{eH slice:Expr}{b:aa}{Y:List L}{T:Array ab}{j:Int}{t:j3}(S:a' E J l s.heap)(cZ:s.heap.IsList b T)(aP:T.size<=e7)(fT:br E J s.heap Y T.toList):
 a5 E D M m W J s (do let i <-NS "slice" [.none,.int j t,.none];kn p;BB eH slice (.ref b) i) (bf E) (.ok (.loc l.length) (l++[.list (kk j Y)])):=by
 have aM:∀b A,s.heap.get? b=some A->(s.heap.push {cls:=.type "slice",dict:=none,data:=.fields [.none,.int j t,.none].toArray}).get? b=some A:=λb A e=>dM _ e
 have xt:(s.heap.push {cls:=.type "slice",dict:=none,data:=.fields [.none,.int j t,.none].toArray}).IsSliceOf s.heap.objs.size .none (.int j t) .none:=fK _ (eS _ rfl) rfl rfl
 have e:=fT.length
 refine Hf (T:=(slicePick T none (some j) none).toList) S ?_ ?_ λan aA h=>?_
 ·have cJ:T.size=Y.length:=e
  show br _ _ _ (kk j Y) (H2 (λi=>T[i]?) _)
  simp only[<-lK,cJ]
  exact fT.pick _
 ·have:=slicePick_size_le T none (some j) none
  dsimp only[t2];exact da this aP
 ·refine aE (nl (aE (np ?_)) (by size_fits))
  have gQ:=akk cZ {cls:=.type "slice",dict:=none,data:=.fields [.none,.int j t,.none].toArray}
  refine yo (akl (s:={s with heap:=_}) gQ) ae6.lookup ?_
  refine wpAny_getItem_list_slice (s:={s with heap:=_}) gQ xt .none (.int j t) .none (by decide) ?_ aP
  refine h _ _ s.toks ?_ ⟨0,?_⟩ λb A q=>dM _ (aM b A q)
  ·show s.heap.get? (s.heap.push _).objs.size=none
   cases q:s.heap.get? (s.heap.push {cls:=.type "slice",dict:=none,data:=.fields [.none,.int j t,.none].toArray}).objs.size with
   |none=>rfl
   |some A=>have:=eF q;rw[oG] at this;exact absurd this (lQ.mpr (pR _))
  ·exact eS _ rfl
end
section
variable{D:Bool}{E:bM}{M:cv}{O:bo}{m:List bo}{W J:List aa}{l:St}{s:ay}{names:List (I×b4)}{U:List (I×Nat)}{d:Nat}{C:aI}
noncomputable def Bp(C:aI)(i:Nat)(a:aa)(Y:List L)(l:St):ao L:=if C[i]?.join=some (.val (.ref a)) then rX (.list Y) l else .fail
theorem Xm{x:I}{p el bN pos:bu}{k i:Nat}{a:aa}{Y:List L}{T:Array ab}{j:Int}(bn:U.lookup x=some i)(aK:(x==("__classdict__":I))=false)(hd:(x==("__debug__":I))=false)
 (YR:E.heap.IsList a T) (aP:T.size<=e7) (fT:∀J h,br E J h Y T.toList):
 dB E D names U d (.Subscript (.Name x p) (.Slice none (some (.Constant (.int j) k el)) none bN) pos) C (Bp C i a (kk j Y)):=λM m O J l s P=>by
 unfold Bp
 by_cases Fn:C[i]?.join=some (.val (.ref a))
 ·rw[if_pos Fn]
  have QH:=QE (D:=D) (pos:=p) P bn aK hd
  rw[Fn] at QH
  dsimp only[Jf]
  intro _
  refine aE (fx (QH (λq=>by cases q)) (λu bd q=>?_) λe bd q=>?_)
  ·obtain⟨y,ak,q,b3,bt,cN,bK⟩:=q
   cases q
   subst cN
   refine BZ ?_
   rw[TX,bind_assoc]
   refine aE (bj ?_)
   rw[bind_assoc]
   refine BZ (aE (fx ((yt (D:=D) (M:=M) (m:=m) (W:=[]) (k:=k) (pos:=el) (c:=.int j) (a:=.int j) (O:=O) bt .int) (by simp)) (λvQ cR q=>?_) λe cR q=>?_))
   ·obtain⟨y,a2,q,eI,di,fj,dE⟩:=q
    cases q
    obtain⟨t,rfl⟩:=mr fj
    rw[bind_assoc]
    refine BZ ?_
    refine(?_:a9 _ _ (pure g0 >>= _) _ _ _)
    refine fx (agE (D:=D) (m:=m) (W:=[]) (M:=M) (Y:=Y) di (aU YR λA az r=>bx A (di.base _ _ az) r) aP (fT _ _) ‹_›) (λv jl q=>?_) λe jl q=>?_
    ·obtain⟨y,f9,q,sf,kC,oj,jb⟩:=q
     exact⟨y,f9,q,sf,kC,oj,(bK.trans dE).trans jb⟩
    ·obtain⟨_,_,q,_⟩:=q;cases q
   ·obtain⟨_,_,q,_⟩:=q;cases q
  ·obtain⟨_,_,q,_⟩:=q;cases q
 ·rw[if_neg Fn]
  exact .fail
end
noncomputable def JM(X:cS)(cJ:bB)(a:aa)(Y:List L)(C:aI)(l:St):ao L:=
 (((Bp C 0 a (kk 60 Y) l).bind λx ak=>opt (ob ak x) ak).g'.bind (ln false (jn (.one 1) (kb (e3.one 1).slots C) (iS (kJ X .nil) (aS X cJ))))).bind od
noncomputable def At(X:cS)(cJ:bB)(a:aa)(Y:List L)(C:aI)(l:St):ao (dg×aI):=
 (((JM X cJ a Y C l).bind λx ak=>(((ao.ok (L.int 0) ak).bind λy a2=>(ao.ok ([]:List L) a2).bind λjr f9=>.ok (y::jr) f9)).bind λbH a2=>.ok (x::bH) a2).bind λY=>rX (.cj (([("cells":I),("shakes":I)].zip Y).foldl (λd q=>e6 q.1 q.2 d) []))).bind λa ak=>.ok (.next,C.set 2 (some a)) ak
def yV(c:ew)(names:List (I×b4))(U:List (I×Nat))(st:ey)(cJ:bB):Prop:=gJ U->∀R:fX c,∀(a:aa)(Y:List L)(T:Array ab),R.B.heap.IsList a T->T.size<=e7->(∀B J h,br B J h Y T.toList)->kB R.B c.D names U R.d st (At R.bp cJ a Y)
section
variable{c:ew}{names:List (I×b4)}{U:List (I×Nat)}
theorem yV.mk{n hs cF cz:I}{qb bg:Expr}{j z:Int}{scope:fa}{i bk b2 fo:Nat}{cJ:bB}{cK el ic lx hk hb hc hW b0 bO eJ:bu}
 (h:((U.lookup n=some 2∧m1 names n=true)∧U.lookup hs=some 0∧(hs==("__classdict__":I))=false∧(hs==("__debug__":I))=false∧j=60)∧(cF="cells"∧cz="shakes"∧z=0)∧lD scope.names bg=true)
 (aM:h3 (d' names scope.names) (ng (.one 1) bg++nZ U scope) (.one 1) bg) (Q:qW names U scope (ng (.one 1) bg++nZ U scope) (e3.one 1).slots)
 (bw:ce c false (d' names scope.names) (ng (.one 1) bg++nZ U scope) qb cJ):
 yV c names U (.Assign [.Name n cK] (.Dict [some (.Constant (.str cF) bk b0),some (.Constant (.str cz) b2 bO)] [.ListComp qb [⟨bg,.Subscript (.Name hs el) (.Slice none (some (.Constant (.int j) i ic)) none lx) hk,[],0⟩] scope hb,.Constant (.int z) fo eJ] hc) hW) cJ:=λbn R a Y T ag aP fT=>by
 refine ge λdT cD=>?_
 obtain⟨⟨b0,bO,eJ,gH,rfl⟩,⟨rfl,rfl,rfl⟩,aO⟩:=h
 refine cD ?_
 clear cD dT
 refine P1 Hb.m5 bn b0.1 b0.2 λC=>KA (Cp _ _) (by decide) (by decide +kernel) (Eg (by decide +kernel) ?_ (Eg (by decide +kernel) (ce.const .int R C) KD))
 exact Ef (JY (t:=.one 1) (pure:=false) (e5:=kJ R.bp .nil) Hd.jT (λq=>by cases q) Q.of aM aO (js.g' (KG R.Z (Xm (j:=60) bO eJ gH ag aP (fT R.B)))) (λbb=>KE) λbb=>bw R bb) λo o o=>zV
end
section
variable(c:ew)(ns:List (I×b4))(be:List (I×Nat))(hint:bB)
abbrev mG(st:ey):Type:={cJ:bB // yV c ns be st cJ}
noncomputable def Op{P:Expr->Type}(no:(a:Expr)->P a)(k:(i:Int)->(n:Nat)->(p:bu)->P (.Constant (.int i) n p)):(a:Expr)->P a:=xU no (λc n p=>match c with
 |.int i=>k i n p
 |_=>no _)
noncomputable def Oq{P:Expr->Type}(no:(a:Expr)->P a)(k:(x:I)->(n:Nat)->(p:bu)->P (.Constant (.str x) n p)):(a:Expr)->P a:=xU no (λc n p=>match c with
 |.str i=>k i n p
 |_=>no _)
noncomputable def ac6{P:Expr->Type}(no:(a:Expr)->P a)(k:(lo aR:Expr)->(p:bu)->P (.Slice none (some aR) none p)):(a:Expr)->P a:=Ou no (λlo aR st p=>match lo,aR,st with
 |none,some aR,none=>k aR aR p
 |_,_,_=>no _)
noncomputable def aaG(n:I)(cK hc hW:bu)(rN qu k4 bZ bg m s:Expr)(hk hb:bu)(scope:fa):Option (mG c ns be (.Assign [.Name n cK] (.Dict [some rN,some qu] [.ListComp bZ [⟨bg,.Subscript m s hk,[],0⟩] scope hb,k4] hc) hW)):=
 Oq (P:=λrN=>Option (mG c ns be (.Assign [.Name n cK] (.Dict [some rN,some qu] [.ListComp bZ [⟨bg,.Subscript m s hk,[],0⟩] scope hb,k4] hc) hW))) (λo=>none) (λcF bk b0=>Oq (P:=λqu=>Option (mG c ns be (.Assign [.Name n cK] (.Dict [some (.Constant (.str cF) bk b0),some qu] [.ListComp bZ [⟨bg,.Subscript m s hk,[],0⟩] scope hb,k4] hc) hW))) (λo=>none) (λcz b2 bO=>Op (P:=λk4=>Option (mG c ns be (.Assign [.Name n cK] (.Dict [some (.Constant (.str cF) bk b0),some (.Constant (.str cz) b2 bO)] [.ListComp bZ [⟨bg,.Subscript m s hk,[],0⟩] scope hb,k4] hc) hW))) (λo=>none) (λz fo eJ=>m8 (P:=λm=>Option (mG c ns be (.Assign [.Name n cK] (.Dict [some (.Constant (.str cF) bk b0),some (.Constant (.str cz) b2 bO)] [.ListComp bZ [⟨bg,.Subscript m s hk,[],0⟩] scope hb,.Constant (.int z) fo eJ] hc) hW))) (λo=>none) (λhs el=>ac6 (P:=λs=>Option (mG c ns be (.Assign [.Name n cK] (.Dict [some (.Constant (.str cF) bk b0),some (.Constant (.str cz) b2 bO)] [.ListComp bZ [⟨bg,.Subscript (.Name hs el) s hk,[],0⟩] scope hb,.Constant (.int z) fo eJ] hc) hW))) (λo=>none) (λo aR lx=>Op (P:=λaR=>Option (mG c ns be (.Assign [.Name n cK] (.Dict [some (.Constant (.str cF) bk b0),some (.Constant (.str cz) b2 bO)] [.ListComp bZ [⟨bg,.Subscript (.Name hs el) (.Slice none (some aR) none lx) hk,[],0⟩] scope hb,.Constant (.int z) fo eJ] hc) hW))) (λo=>none) (λj i ic=>fD (((be.lookup n=some 2∧m1 ns n=true)∧be.lookup hs=some 0∧(hs==("__classdict__":I))=false∧(hs==("__debug__":I))=false∧j=60)∧(cF="cells"∧cz="shakes"∧z=0)∧lD scope.names bg=true) λq=>(yq (d' ns scope.names) (ng (.one 1) bg++nZ be scope) (.one 1) bg).opt λb0=>(DS ns be scope (ng (.one 1) bg++nZ be scope) (e3.one 1).slots).opt λbO=>(xx 40 c (d' ns scope.names) (ng (.one 1) bg++nZ be scope) hint bZ).map λx=>⟨x.e,.mk q b0 bO (x.ok _)⟩) aR) s) m) k4) qu) rN
noncomputable def aaF(n:I)(cK hW:bu):(v:Expr)->Option (mG c ns be (.Assign [.Name n cK] v hW)):=ac3 (λo=>none) λaY T hc=>match aY,T with
 |[some rN,some qu],[a,k4]=>Ot (P:=λa=>Option (mG c ns be (.Assign [.Name n cK] (.Dict [some rN,some qu] [a,k4] hc) hW))) (λo=>none) (λbZ kL scope hb=>match kL with
  |[⟨bg,it,[],.ofNat 0⟩]=>Ov (P:=λit=>Option (mG c ns be (.Assign [.Name n cK] (.Dict [some rN,some qu] [.ListComp bZ [⟨bg,it,[],0⟩] scope hb,k4] hc) hW))) (λo=>none) (λm s hk=>aaG c ns be hint n cK hc hW rN qu k4 bZ bg m s hk hb scope) it
  |_=>none) a
 |_,_=>none
noncomputable def aaH:(st:ey)->Option (mG c ns be st)
 |.Assign [t] v hW=>m8 (P:=λt=>Option (mG c ns be (.Assign [t] v hW))) (λo=>none) (λn cK=>aaF c ns be hint n cK hW v) t
 |_=>none
end
noncomputable def M8(X:cS)(n:Nat)(cJ:bB)(cu:ec)(a:aa)(Y:List L)(C:aI)(l:St):ao (dg×aI):=(At X cJ a Y C l).bind λp ak=>p.1.go (ff X cu p.2 ak) λv=>.ok (.ret v,p.2) ak
noncomputable def M7(X:cS)(n:Nat)(cJ:bB)(cu:ec)(a:aa)(Y:List L):ao L:=
 (M8 X n cJ cu a Y ([some (.val (.ref a))]++ ku (n-1) none) []).bind λp ak=>.ok (p.1.go .none id) ak
def wj(K:cb)(df:List aa)(f:aa)(n:Nat)(cJ:bB)(cu:ec):Prop:=∀R:fX ⟨K,false,df⟩,zn R->∀(a:aa)(Y:List L)(T:Array ab),R.B.heap.IsList a T->T.size<=e7->(∀B J h,br B J h Y T.toList)->i5 R.B false (R.d+1) f [.val (.ref a)] [] (M7 R.bp n cJ cu a Y)
theorem wj.mk{K:cb}{df:List aa}{f:aa}{n:Nat}{cJ:bB}{cu:ec}{aX:fV}{U:List (I×Nat)}{as:List hY}{st:ey}{body:List ey}{f7:ab}{cc:Option aa}{f8:Array (Option ab)}(iy:K.lookup f=some ⟨f7,cc,.func aX,f8⟩)(aL:aX.params=⟨[],as,none,[],[],none,[]⟩)(ag:aX.body=.stmts (st::body))
 (ai:q1 K aX as U) (am:as.length=1∧1<=n) (a6:yV ⟨K,false,df⟩ aX.scope.names U st cJ) (c2:j0 ⟨K,false,df⟩ aX.scope.names U body cu):wj K df f n cJ cu:=λR q a Y T aN aP fT=>by
 have aW:=q1.of iy aL ag ai
 have lu:=JC (n:=n) R.Z aW (bU:=M8 R.bp n cJ cu a Y) (P2 (a6 aW.table R a Y T aN aP fT) (c2 aW.table R q)).at [.val (.ref a)] [] (am.1▸am.2)
 rw[am.1] at lu
 exact lu
noncomputable def M6(K:cb)(df:List aa)(f:aa)(n:Nat)(hint:bB)(cu:ec)(U:List (I×Nat)):Option {x:bB×ec // wj K df f n x.1 x.2}:=D4 K f λf7 cc aX f8 h as aL body ag=>match body,ag with
 |st::body,ag=>(KX K aX as U).opt λq=>fD (as.length=1∧1<=n) λbO=>(aaH ⟨K,false,df⟩ aX.scope.names U hint st).bind λx=>(u6 ⟨K,false,df⟩ aX.scope.names U 60 cu body).map λy=>⟨(x.1,y.1),.mk h aL ag q bO x.2 y.2⟩
 |[],_=>none
def nA(K:cb)(eh:I->Bool)(f:aa)(names:List I)(nm:I)(Q dS:aa):Prop:=(∀s,eh s=true->((aH.main.file:I)== s)=true)->(aH.main.scope.names.lookup ("super":I)).isSome=false->∃aX as,as.map (·.arg)=names∧we K f aX as nm Q dS
theorem nA.mk{K:cb}{eh:I->Bool}{f:aa}{cu:List I}{nm:I}{Q dS:aa}{aX:fV}{as:List hY}{f7:ab}{cc:Option aa}{f8:Array (Option ab)}{f1 bk he qH d9 eb:I}{hV cK el ic lx hk hb e4 pos qc:bu}(iy:K.lookup f=some ⟨f7,cc,.func aX,f8⟩)(aL:aX.params=⟨[],as,none,[],[],none,[]⟩)
 (ag:aX.body=.stmts [.Expr (.Call (.Attribute (.Call (.Name f1 hV) [] [] cK) bk e4) [.Name he el] [] pos) qc,.Assign [.Attribute (.Name qH ic) d9 lx] (.Name eb hk) hb])
 (h:f1="super"∧bk="__init__"∧he="what"∧qH="self"∧d9=nm∧eb=nm∧e4.endLine=pos.line) (ar:as.map (·.arg)=("self":I):: ("what":I):: cu) (ai:v' K eh aX.code) (am:v4 K aX.closure Q dS)
 (d:yW K aX as nm):nA K eh f (("self":I):: ("what":I):: cu) nm Q dS:=λaG bn=>by
 refine ge λdT cD=>?_
 obtain⟨rfl,rfl,rfl,rfl,rfl,rfl,jc⟩:=h
 refine cD ?_
 clear cD dT
 exact⟨aX,as,ar,Qf iy aG bn ai am d.2.2.2.2.2.2.2.2.2.2.2.2.2.1,aL,⟨cu,ar⟩,.mk (beq_iff_eq.mpr jc) ag,d⟩
noncomputable def ac5{P:List ey->Type}(no:(b:List ey)->P b)(k:(e:Expr)->(p:bu)->(t v:Expr)->(q:bu)->P [.Expr e p,.Assign [t] v q]):(b:List ey)->P b
 |[.Expr e p,.Assign [t] v q]=>k e p t v q
 |b=>no b
noncomputable def Fu(K:cb)(eh:I->Bool)(f:aa)(cu:List I)(nm:I)(Q dS:aa):Option (PLift (nA K eh f (("self":I):: ("what":I):: cu) nm Q dS)):=D4 K f λf7 cc aX f8 h as aL body ag=>ac5 (P:=λb=>aX.body=.stmts b->Option (PLift (nA K eh f (("self":I):: ("what":I):: cu) nm Q dS))) (λo o=>none) (λe p t v q=>Gf (P:=λe=>aX.body=.stmts [.Expr e p,.Assign [t] v q]->Option (PLift (nA K eh f (("self":I):: ("what":I):: cu) nm Q dS))) (λo o=>none) (λg args pos=>vn (P:=λg=>aX.body=.stmts [.Expr (.Call g args [] pos) p,.Assign [t] v q]->Option (PLift (nA K eh f (("self":I):: ("what":I):: cu) nm Q dS))) (λo o=>none) (λA bk e4=>vo (P:=λA=>aX.body=.stmts [.Expr (.Call (.Attribute A bk e4) args [] pos) p,.Assign [t] v q]->Option (PLift (nA K eh f (("self":I):: ("what":I):: cu) nm Q dS))) (λo o=>none) (λf1 hV TY cK=>match TY,args with
   |[],[w]=>m8 (P:=λw=>aX.body=.stmts [.Expr (.Call (.Attribute (.Call (.Name f1 hV) [] [] cK) bk e4) [w] [] pos) p,.Assign [t] v q]->Option (PLift (nA K eh f (("self":I):: ("what":I):: cu) nm Q dS))) (λo o=>none) (λhe el=>vn (P:=λt=>aX.body=.stmts [.Expr (.Call (.Attribute (.Call (.Name f1 hV) [] [] cK) bk e4) [.Name he el] [] pos) p,.Assign [t] v q]->Option (PLift (nA K eh f (("self":I):: ("what":I):: cu) nm Q dS))) (λo o=>none) (λqH d9 lx=>m8 (P:=λqH=>aX.body=.stmts [.Expr (.Call (.Attribute (.Call (.Name f1 hV) [] [] cK) bk e4) [.Name he el] [] pos) p,.Assign [.Attribute qH d9 lx] v q]->Option (PLift (nA K eh f (("self":I):: ("what":I):: cu) nm Q dS))) (λo o=>none) (λqH ic=>m8 (P:=λv=>aX.body=.stmts [.Expr (.Call (.Attribute (.Call (.Name f1 hV) [] [] cK) bk e4) [.Name he el] [] pos) p,.Assign [.Attribute (.Name qH ic) d9 lx] v q]->Option (PLift (nA K eh f (("self":I):: ("what":I):: cu) nm Q dS))) (λo o=>none) (λeb hk ag=>fD (f1="super"∧bk="__init__"∧he="what"∧qH="self"∧d9=nm∧eb=nm∧e4.endLine=pos.line) λb0=>fD (as.map (·.arg)=("self":I):: ("what":I):: cu) λbO=>(KP K eh aX.code).opt λeJ=>(JJ K aX.closure Q dS).opt λgH=>(@Pf.dec (yW K aX as nm) (by unfold yW;infer_instance)).opt λkl=>some ⟨.mk h aL ag b0 bO eJ gH kl⟩) v) qH) t) w
   |_,_=>λo=>none) A) g) e) body ag
set_option tactic.hygienic true in
theorem Oh{K:cb}{h:aV}{a:aa}{N:I->Option ab}{x:I}{r:Option ab}(X:K.In h)(n:h.Ns a N)(e:ha K a x=some r):N x=r:=by
 refine py n λA af a0 az hd aM aG=>?_
 unfold ha at e
 split at e
 ·rename_i c eg kI eY e8 iy
  have:=X _ _ iy
  replace this:=az▸this;(obtain rfl:=dq this)
  (injection hd with hd;subst hd)
  refine(aG x)▸?_
  dsimp only[nsFind,findBy]
  refine(Array.find?_toList)▸?_
  split at e
  ·rename_i cW bw
   (obtain rfl:=dq e);refine bw▸?_;rfl
  ·rename_i bw
   refine bw▸?_
   split at e
   ·(exact absurd e (λq=>by cases q))
   ·(obtain rfl:=dq e);rfl
 ·(exact absurd e (λq=>by cases q))
end Mine.Internal
namespace Mine.Internal.L2
section
open Mine.Internal
noncomputable def Vk:ed:=⟨1,1,(.cons (.ret (.ji (.cmp .Eq (.idx (.var 0) (.const (.int 0))) (.const (.str "set"))) (.mS (.cons (.const (.str "a set of arity ")) (.cons (.idx (.var 0) (.const (.int 1))) .nil))) (.bin .Add (.const (.str "a ")) (.idx (.var 0) (.const (.int 0)))))) .nil)⟩
noncomputable def UX:ed:=⟨2,2,(.cons (.setAttr (.var 0) "signatures" 413 (.var 1)) (.cons (.setAttr (.var 0) "known_columns" 413 (.km [] .nil)) .nil))⟩
noncomputable def UY:ed:=⟨3,3,(.cons (.ret (.fm .Or (.cons (.cmp .Eq (.var 1) (.var 2)) (.cons (.c5 (.cmp .In (.var 2) (.d2 (.attr (.var 0) "signatures" 413) "above" 582 530 (.cons (.var 1) .nil)))) .nil)))) .nil)⟩
noncomputable def U0:ed:=⟨3,3,(.cons (.iff (.d2 (.var 0) "is_under" 413 130 (.cons (.var 1) (.cons (.var 2) .nil))) (.cons (.ret (.var 1)) .nil) .nil) (.cons (.ret (.ji (.d2 (.var 0) "is_under" 413 130 (.cons (.var 2) (.cons (.var 1) .nil))) (.var 2) (.const (.str "")))) .nil))⟩
noncomputable def UW:ed:=⟨3,6,(.cons (.assign 5 (.c5 (.bi "tuple" (.comp true (.d2 (.var 0) "narrower" 413 137 (.cons (.var 3) (.cons (.var 4) .nil))) (.many [3,4]) (.zip (.var 1) (.var 2)) .nil)))) (.cons (.ret (.ji (.cmp .In (.const (.str "")) (.var 5)) (.const .none) (.var 5))) .nil))⟩
noncomputable def U3:ed:=⟨2,2,(.cons (.iff (.cmp .Gt (.var 1) (.glob "MOST_COLUMNS" (L.int 300))) .any .nil) .nil)⟩
noncomputable def U1:ed:=⟨2,5,(.cons (.assign 2 (.qI (.var 1))) (.cons (.expr (.d2 (.var 0) "want_few" 413 149 (.cons (.bi "len" (.var 2)) .nil))) (.cons (.ret (.c5 (.bi "tuple" (.comp true (.var 3) (.one 3) (.ex (.var 2)) (.cons (.c5 (.cmp .Eq (.comp true (.var 4) (.one 4) (.ex (.var 2)) (.cons (.fm .And (.cons (.cmp .NotEq (.var 4) (.var 3)) (.cons (.cmp .Eq (.d2 (.var 0) "common" 413 142 (.cons (.var 3) (.cons (.var 4) .nil))) (.var 3)) .nil))) .nil)) (.list .nil))) .nil))))) .nil)))⟩
noncomputable def UZ:ed:=⟨3,7,(.cons (.assign 5 (.l0 true (.d2 (.var 0) "common" 413 142 (.cons (.var 3) (.cons (.var 4) .nil))) (.one 3) (.ex (.var 1)) (.one 4) (.ex (.var 2)) .nil)) (.cons (.ret (.c5 (.d2 (.var 0) "plain" 413 161 (.cons (.comp true (.var 6) (.one 6) (.ex (.var 5)) (.cons (.cmp .IsNot (.var 6) (.const .none)) .nil)) .nil)))) .nil))⟩
noncomputable def U2:ed:=⟨3,5,(.cons (.ret (.c5 (.cmp .NotEq (.l0 true (.var 3) (.one 3) (.ex (.var 1)) (.one 4) (.ex (.var 2)) (.cons (.cmp .IsNot (.d2 (.var 0) "common" 413 142 (.cons (.var 3) (.cons (.var 4) .nil))) (.const .none)) .nil)) (.list .nil)))) .nil)⟩
noncomputable def U4:ed:=⟨2,2,(.cons (.expr (.super "__init__" 413 123 (.cons (.var 1) .nil))) (.cons (.setAttr (.var 0) "known_fields" 413 (.km [] .nil)) (.cons (.setAttr (.var 0) "begun_fields" 413 (.km [] .nil)) (.cons (.setAttr (.var 0) "warnings" 413 .hX) (.cons (.setAttr (.var 0) "height" 413 (.const (.int 0))) .nil)))))⟩
noncomputable def U5:ed:=⟨3,3,(.cons (.setItem (.attr (.var 0) "warnings" 413) (.tuple (.cons (.var 1) (.cons (.var 2) .nil))) (.const (.bool true))) .nil)⟩
noncomputable def U8:ed:=⟨4,5,(.cons (.iff (.fm .And (.cons (.cmp .Eq (.idx (.var 1) (.const (.int 2))) (.tuple .nil)) (.cons (.c5 (.cmp .Eq (.comp false (.var 4) (.one 4) (.ex (.var 2)) (.cons (.cmp .Eq (.idx (.var 4) (.const (.int 2))) (.tuple .nil)) .nil)) (.list .nil))) .nil))) (.cons (.expr (.d2 (.var 0) "warn" 413 262 (.cons (.var 3) (.cons (.const (.str "this is surely empty")) .nil)))) .nil) .nil) (.cons (.ret (.var 1)) .nil))⟩
noncomputable def U6:ed:=⟨5,6,(.cons (.for true (.one 5) (.ex (.tuple (.cons (.var 2) (.cons (.var 3) .nil)))) (.cons (.iff (.cmp .NotEq (.idx (.var 5) (.const (.int 0))) (.const (.str "set"))) (.cons (.raise (.mS (.cons (.var 1) (.cons (.const (.str ": a set is wanted, not ")) (.cons (.call "kind_text" 109 (.cons (.var 5) .nil)) .nil)))) (.var 4)) .nil) .nil) .nil)) (.cons (.iff (.cmp .NotEq (.idx (.var 2) (.const (.int 1))) (.idx (.var 3) (.const (.int 1)))) (.cons (.raise (.mS (.cons (.var 1) (.cons (.const (.str ": arities ")) (.cons (.idx (.var 2) (.const (.int 1))) (.cons (.const (.str " and ")) (.cons (.idx (.var 3) (.const (.int 1))) .nil)))))) (.var 4)) .nil) .nil) .nil))⟩
noncomputable def U7:ed:=⟨5,6,(.cons (.expr (.d2 (.var 0) "alike" 413 375 (.cons (.var 1) (.cons (.var 2) (.cons (.var 3) (.cons (.var 4) .nil)))))) (.cons (.assign 5 (.idx (.var 2) (.const (.int 1)))) (.cons (.iff (.cmp .Eq (.var 1) (.const (.str "&"))) (.cons (.ret (.d2 (.var 0) "surely" 413 361 (.cons (.tuple (.cons (.const (.str "set")) (.cons (.var 5) (.cons (.c5 (.d2 (.var 0) "meet" 413 187 (.cons (.idx (.var 2) (.const (.int 2))) (.cons (.idx (.var 3) (.const (.int 2))) .nil)))) .nil)))) (.cons (.tuple (.cons (.var 2) (.cons (.var 3) .nil))) (.cons (.var 4) .nil))))) .nil) .nil) (.cons (.iff (.cmp .Eq (.var 1) (.const (.str "-"))) (.cons (.iff (.fm .And (.cons (.cmp .NotEq (.idx (.var 2) (.const (.int 2))) (.tuple .nil)) (.cons (.cmp .NotEq (.idx (.var 3) (.const (.int 2))) (.tuple .nil)) (.cons (.not (.d2 (.var 0) "shares" 413 192 (.cons (.idx (.var 2) (.const (.int 2))) (.cons (.idx (.var 3) (.const (.int 2))) .nil)))) .nil)))) (.cons (.expr (.d2 (.var 0) "warn" 413 262 (.cons (.var 4) (.cons (.const (.str "nothing is taken off")) .nil)))) .nil) .nil) (.cons (.ret (.tuple (.cons (.const (.str "set")) (.cons (.var 5) (.cons (.idx (.var 2) (.const (.int 2))) .nil))))) .nil)) .nil) (.cons (.iff (.fm .And (.cons (.cmp .Eq (.var 1) (.const (.str "++"))) (.cons (.cmp .Lt (.var 5) (.const (.int 2))) .nil))) (.cons (.raise (.const (.str "++: a set of arity 2 or more is wanted")) (.var 4)) .nil) .nil) (.cons (.iff (.cmp .NotEq (.cmp .Eq (.idx (.var 2) (.const (.int 2))) (.tuple .nil)) (.cmp .Eq (.idx (.var 3) (.const (.int 2))) (.tuple .nil))) (.cons (.expr (.d2 (.var 0) "warn" 413 262 (.cons (.var 4) (.cons (.mS (.cons (.var 1) (.cons (.const (.str ": one side is surely empty")) .nil))) .nil)))) .nil) .nil) (.cons (.ret (.tuple (.cons (.const (.str "set")) (.cons (.var 5) (.cons (.c5 (.d2 (.var 0) "plain" 413 161 (.cons (.bin .Add (.bi "list" (.idx (.var 2) (.const (.int 2)))) (.bi "list" (.idx (.var 3) (.const (.int 2))))) .nil))) .nil))))) .nil)))))))⟩
noncomputable def Vb:ed:=⟨2,4,(.cons (.setAttr (.var 0) "entries" 582 (.km [] .nil)) (.cons (.setAttr (.var 0) "stands" 582 (.list .nil)) (.cons (.setAttr (.var 0) "opened" 582 (.list .nil)) (.cons (.for false (.one 2) (.ex (.var 1)) (.cons (.iff (.cmp .Eq (.idx (.var 2) (.const (.int 0))) (.const (.str "sig"))) (.cons (.expr (.d2 (.var 0) "take_sig" 582 436 (.cons (.var 2) .nil))) .nil) .nil) .nil)) (.cons (.for false (.one 3) (.ex (.attr (.var 0) "stands" 582)) (.cons (.expr (.d2 (.var 0) "look_above" 582 443 (.cons (.var 3) .nil))) .nil)) (.cons (.setAttr (.var 0) "ordered" 582 (.d2 (.var 0) "parents_first" 582 455 .nil)) (.cons (.setAttr (.var 0) "own_fields" 582 (.d2 (.var 0) "all_fields" 582 462 .nil)) (.cons (.expr (.d2 (.var 0) "look_fields" 582 469 .nil)) (.cons (.for false (.one 2) (.ex (.var 1)) (.cons (.iff (.cmp .Eq (.idx (.var 2) (.const (.int 0))) (.const (.str "open"))) .any .nil) .nil)) .nil)))))))))⟩
noncomputable def Vj:ed:=⟨2,3,(.cons (.for false (.one 2) (.ex (.idx (.var 1) (.const (.int 2)))) (.cons (.iff (.cmp .In (.var 2) (.attr (.var 0) "entries" 582)) .any .nil) (.cons (.setItem (.attr (.var 0) "entries" 582) (.var 2) (.var 1)) (.cons (.expr (.jQ (.attr (.var 0) "stands" 582) (.var 2))) .nil)))) (.cons (.iff (.fm .And (.cons (.cmp .Gt (.bi "len" (.idx (.var 1) (.const (.int 6)))) (.const (.int 0))) (.cons (.idx (.var 1) (.const (.int 3))) .nil))) .any .nil) .nil))⟩
noncomputable def Vd:ed:=⟨2,3,(.cons (.for true (.one 2) (.ex (.d2 (.var 0) "direct" 582 450 (.cons (.var 1) .nil))) (.cons (.iff (.cmp .NotIn (.var 2) (.attr (.var 0) "entries" 582)) .any .nil) .nil)) (.cons (.iff (.fm .And (.cons (.cmp .NotEq (.d2 (.var 0) "parent" 582 502 (.cons (.var 1) .nil)) (.const (.str ""))) (.cons (.d2 (.var 0) "is_subset" 582 516 (.cons (.d2 (.var 0) "parent" 582 502 (.cons (.var 1) .nil)) .nil)) .nil))) .any .nil) .nil))⟩
noncomputable def Va:ed:=⟨2,2,(.cons (.ret (.bin .Add (.ji (.cmp .NotEq (.d2 (.var 0) "parent" 582 502 (.cons (.var 1) .nil)) (.const (.str ""))) (.tuple (.cons (.d2 (.var 0) "parent" 582 502 (.cons (.var 1) .nil)) .nil)) (.tuple .nil)) (.d2 (.var 0) "supers" 582 509 (.cons (.var 1) .nil)))) .nil)⟩
noncomputable def Vg:ed:=⟨1,6,(.cons (.jV [1,2] (.cons (.list .nil) (.cons (.bi "list" (.attr (.var 0) "stands" 582)) .nil))) (.cons (.while (.cmp .Gt (.bi "len" (.var 2)) (.const (.int 0))) (.cons (.assign 5 (.comp true (.var 3) (.one 3) (.ex (.var 2)) (.cons (.c5 (.cmp .Eq (.comp true (.var 4) (.one 4) (.ex (.d2 (.var 0) "direct" 582 450 (.cons (.var 3) .nil))) (.cons (.cmp .NotIn (.var 4) (.var 1)) .nil)) (.list .nil))) .nil))) (.cons (.iff (.cmp .Eq (.bi "len" (.var 5)) (.const (.int 0))) .any .nil) (.cons (.expr (.jQ (.var 1) (.idx (.var 5) (.const (.int 0))))) (.cons (.expr (.vf (.var 2) (.idx (.var 5) (.const (.int 0))))) .nil))))) (.cons (.ret (.var 1)) .nil)))⟩
noncomputable def U':ed:=⟨1,9,(.cons (.jV [1,2] (.cons (.list .nil) (.cons (.const (.int 0)) .nil))) (.cons (.for true (.one 3) (.ex (.attr (.var 0) "ordered" 582)) (.cons (.for true (.many [4,5,6,7,8]) (.ex (.idx (.idx (.attr (.var 0) "entries" 582) (.var 3)) (.const (.int 7)))) .any) .nil)) (.cons (.ret (.var 1)) .nil)))⟩
noncomputable def Ve:ed:=⟨1,8,(.cons (.assign 1 .hX) (.cons (.for false (.many [2,3,4,5,6,7]) (.ex (.attr (.var 0) "own_fields" 582)) .any) .nil))⟩
noncomputable def Vh:ed:=⟨2,2,(.cons (.ret (.idx (.idx (.attr (.var 0) "entries" 582) (.var 1)) (.const (.int 1)))) .nil)⟩
noncomputable def Vf:ed:=⟨2,2,(.cons (.ret (.idx (.idx (.attr (.var 0) "entries" 582) (.var 1)) (.const (.int 5)))) .nil)⟩
noncomputable def Vi:ed:=⟨2,2,(.cons (.ret (.bi "tuple" (.idx (.idx (.attr (.var 0) "entries" 582) (.var 1)) (.const (.int 6))))) .nil)⟩
noncomputable def Vc:ed:=⟨2,2,(.cons (.ret (.cmp .Gt (.bi "len" (.idx (.idx (.attr (.var 0) "entries" 582) (.var 1)) (.const (.int 6)))) (.const (.int 0)))) .nil)⟩
noncomputable def U9:ed:=⟨2,3,(.cons (.assign 2 (.list .nil)) (.cons (.while (.cmp .NotEq (.d2 (.var 0) "parent" 582 502 (.cons (.var 1) .nil)) (.const (.str ""))) (.cons (.assign 1 (.d2 (.var 0) "parent" 582 502 (.cons (.var 1) .nil))) (.cons (.expr (.jQ (.var 2) (.var 1))) .nil))) (.cons (.ret (.var 2)) .nil)))⟩
noncomputable def Vq:ed:=⟨2,2,(.cons (.setItem (.var 0) (.const (.str "shakes")) (.bin .Add (.idx (.var 0) (.const (.str "shakes"))) (.const (.int 1)))) (.cons (.iff (.cmp .LtE (.idx (.var 0) (.const (.str "shakes"))) (.bi "len" (.idx (.var 0) (.const (.str "cells"))))) (.cons (.ret (.bin .Mod (.idx (.idx (.var 0) (.const (.str "cells"))) (.bin .Sub (.idx (.var 0) (.const (.str "shakes"))) (.const (.int 1)))) (.var 1))) .nil) .nil) (.cons (.ret (.bin .Mod (.bin .Mod (.bin .Add (.bin .Add (.bin .Mult (.bin .Mult (.idx (.var 0) (.const (.str "shakes"))) (.idx (.var 0) (.const (.str "shakes")))) (.const (.int 7))) (.bin .Mult (.idx (.var 0) (.const (.str "shakes"))) (.const (.int 3)))) (.const (.int 4))) (.const (.int 97))) (.var 1))) .nil)))⟩
noncomputable def Vp:ed:=⟨1,3,(.cons (.assign 1 (.km ["A","B"] (.cons (.const (.str "")) (.cons (.const (.str "")) .nil)))) (.cons (.for false (.one 2) (.ex (.slice (.const (.str "CDE")) (.const .none) (.bin .Add (.const (.int 1)) (.call "_law_shake" 593 (.cons (.var 0) (.cons (.const (.int 3)) .nil)))))) (.cons (.setItem (.var 1) (.var 2) (.c5 (.idx (.bi "sorted" (.var 1)) (.call "_law_shake" 593 (.cons (.var 0) (.cons (.bi "len" (.var 1)) .nil)))))) .nil)) (.cons (.ret (.var 1)) .nil)))⟩
noncomputable def Vo:ed:=⟨1,5,(.cons (.assign 2 (.bi "dictS" (.comp true (.tuple (.cons (.var 1) (.cons (.list (.cons (.var 1) .nil)) .nil))) (.one 1) (.ex (.var 0)) .nil))) (.cons (.for true (.one 3) (.ex (.bi "sorted" (.var 0))) (.cons (.for true (.one 4) (.ex (.var 0)) (.cons (.iff (.cmp .In (.idx (.var 0) (.var 3)) (.idx (.var 2) (.var 4))) (.cons (.expr (.jQ (.idx (.var 2) (.var 4)) (.var 3))) .nil) .nil) .nil)) .nil)) (.cons (.ret (.var 2)) .nil)))⟩
noncomputable def Vr:ed:=⟨2,9,(.cons (.assign 2 .hX) (.cons (.for false (.one 3) (.ex (.var 1)) (.cons (.assign 4 (.list (.cons (.tuple .nil) .nil))) (.cons (.for false (.one 5) (.ex (.var 3)) (.cons (.assign 4 (.l0 false (.bin .Add (.var 6) (.tuple (.cons (.var 7) .nil))) (.one 6) (.ex (.var 4)) (.one 7) (.ex (.idx (.var 0) (.var 5))) .nil)) .nil)) (.cons (.for false (.one 8) (.ex (.var 4)) (.cons (.setItem (.var 2) (.var 8) (.const (.bool true))) .nil)) .nil)))) (.cons (.ret (.var 2)) .nil)))⟩
noncomputable def Vs:ed:=⟨2,9,(.cons (.assign 2 (.list .nil)) (.cons (.for true (.one 3) (.ex (.bi "sorted" (.var 1))) (.cons (.assign 7 (.comp true (.var 4) (.one 4) (.ex (.var 1)) (.cons (.fm .And (.cons (.cmp .NotEq (.var 4) (.var 3)) (.cons (.c5 (.cmp .Eq (.comp true (.const (.int 1)) (.many [5,6]) (.zip (.var 3) (.var 4)) (.cons (.cmp .NotIn (.var 5) (.idx (.var 0) (.var 6))) .nil)) (.list .nil))) .nil))) .nil))) (.cons (.assign 2 (.bin .Add (.var 2) (.comp true (.var 3) (.one 8) (.range (.bi "int" (.c5 (.cmp .Eq (.var 7) (.list .nil))))) .nil))) .nil))) (.cons (.ret (.bi "tuple" (.var 2))) .nil)))⟩
noncomputable def Vn:ed:=⟨2,8,(.cons (.assign 2 (.call "_law_shake" 593 (.cons (.var 0) (.cons (.const (.int 8)) .nil)))) (.cons (.iff (.cmp .Gt (.var 2) (.const (.int 5))) (.cons (.ret (.c5 (.idx (.list (.cons (.tuple (.cons (.const (.str "truth")) .nil)) (.cons (.tuple (.cons (.const (.str "number")) .nil)) .nil))) (.bin .Sub (.var 2) (.const (.int 6)))))) .nil) .nil) (.cons (.jV [3,4,5] (.cons (.bi "sorted" (.var 1)) (.cons (.bin .Add (.const (.int 1)) (.bin .FloorDiv (.var 2) (.const (.int 4)))) (.cons (.list .nil) .nil)))) (.cons (.for false (.one 6) (.range (.call "_law_shake" 593 (.cons (.var 0) (.cons (.const (.int 3)) .nil)))) (.cons (.expr (.jQ (.var 5) (.c5 (.bi "tuple" (.comp false (.idx (.var 3) (.call "_law_shake" 593 (.cons (.var 0) (.cons (.bi "len" (.var 3)) .nil)))) (.one 7) (.range (.var 4)) .nil))))) .nil)) (.cons (.ret (.tuple (.cons (.const (.str "set")) (.cons (.var 4) (.cons (.c5 (.call "_law_widest" 615 (.cons (.var 1) (.cons (.call "_law_spread" 610 (.cons (.var 1) (.cons (.var 5) .nil))) .nil)))) .nil))))) .nil)))))⟩
noncomputable def Vm:ed:=⟨4,10,(.cons (.iff (.fm .Or (.cons (.cmp .NotEq (.idx (.var 2) (.const (.int 0))) (.const (.str "set"))) (.cons (.cmp .NotEq (.idx (.var 3) (.const (.int 0))) (.const (.str "set"))) (.cons (.cmp .NotEq (.idx (.var 2) (.const (.int 1))) (.idx (.var 3) (.const (.int 1)))) (.cons (.fm .And (.cons (.cmp .Eq (.var 1) (.const (.str "++"))) (.cons (.cmp .Eq (.idx (.var 2) (.const (.int 1))) (.const (.int 1))) .nil))) .nil))))) (.cons (.ret (.const .none)) .nil) .nil) (.cons (.jV [4,5] (.cons (.call "_law_spread" 610 (.cons (.var 0) (.cons (.idx (.var 2) (.const (.int 2))) .nil))) (.cons (.call "_law_spread" 610 (.cons (.var 0) (.cons (.idx (.var 3) (.const (.int 2))) .nil))) .nil))) (.cons (.assign 7 (.comp true (.var 6) (.one 6) (.ex (.var 4)) (.cons (.cmp .In (.var 6) (.var 5)) .nil))) (.cons (.iff (.cmp .Eq (.var 1) (.const (.str "&"))) (.cons (.ret (.tuple (.cons (.tuple (.cons (.const (.str "set")) (.cons (.idx (.var 2) (.const (.int 1))) (.cons (.c5 (.call "_law_widest" 615 (.cons (.var 0) (.cons (.var 7) .nil)))) .nil)))) (.cons (.ji (.fm .And (.cons (.c5 (.cmp .Eq (.var 7) (.list .nil))) (.cons (.c5 (.cmp .NotEq (.var 4) .hX)) (.cons (.c5 (.cmp .NotEq (.var 5) .hX)) .nil)))) (.const (.str "this is surely empty")) (.const (.str ""))) .nil)))) .nil) .nil) (.cons (.iff (.cmp .Eq (.var 1) (.const (.str "-"))) (.cons (.ret (.tuple (.cons (.var 2) (.cons (.ji (.fm .And (.cons (.c5 (.cmp .Eq (.var 7) (.list .nil))) (.cons (.c5 (.cmp .NotEq (.var 4) .hX)) (.cons (.c5 (.cmp .NotEq (.var 5) .hX)) .nil)))) (.const (.str "nothing is taken off")) (.const (.str ""))) .nil)))) .nil) .nil) (.cons (.assign 9 (.bin .Add (.bi "list" (.var 4)) (.comp true (.var 8) (.one 8) (.ex (.var 5)) (.cons (.cmp .NotIn (.var 8) (.var 4)) .nil)))) (.cons (.ret (.tuple (.cons (.tuple (.cons (.const (.str "set")) (.cons (.idx (.var 2) (.const (.int 1))) (.cons (.c5 (.call "_law_widest" 615 (.cons (.var 0) (.cons (.var 9) .nil)))) .nil)))) (.cons (.ji (.cmp .NotEq (.c5 (.cmp .Eq (.var 4) .hX)) (.c5 (.cmp .Eq (.var 5) .hX))) (.bin .Add (.var 1) (.const (.str ": one side is surely empty"))) (.const (.str ""))) .nil)))) .nil)))))))⟩
noncomputable def Vl:ed:=⟨2,7,(.cons (.unpack [2,3,4,5] (.var 1)) (.cons (.r7 (.d2 (.var 0) "of_two_sets" 413 382 (.cons (.var 2) (.cons (.var 3) (.cons (.var 4) (.cons (.var 5) .nil))))) .none) .nil))⟩
noncomputable def Jx:ed:=⟨1,20,(.cons (.assign 2 (.km ["cells","shakes"] (.cons (.comp false (.bin .Mod (.bi "int" (.var 1)) (.const (.int 1000003))) (.one 1) (.ex (.slice (.var 0) (.const .none) (.const (.int 60)))) .nil) (.cons (.const (.int 0)) .nil)))) (.cons (.assign 3 (.call "_law_parents" 600 (.cons (.var 2) .nil))) (.cons (.assign 4 (.call "_law_lines" 605 (.cons (.var 3) .nil))) (.cons (.assign 6 (.comp false (.tuple (.cons (.const (.str "sig")) (.cons (.const (.int 0)) (.cons (.tuple (.cons (.var 5) .nil)) (.cons (.const (.bool false)) (.cons (.const (.str "")) (.cons (.idx (.var 3) (.var 5)) (.cons (.tuple .nil) (.cons (.tuple .nil) (.cons (.tuple .nil) .nil)))))))))) (.one 5) (.ex (.bi "sorted" (.var 3))) .nil)) (.cons (.jV [7,8,9] (.cons (.list .nil) (.cons (.list .nil) (.cons .hX .nil)))) (.cons (.for false (.one 10) (.range (.bin .Add (.const (.int 1)) (.call "_law_shake" 593 (.cons (.var 2) (.cons (.const (.int 4)) .nil))))) (.cons (.assign 11 (.c5 (.idx (.list (.cons (.const (.str "+")) (.cons (.const (.str "-")) (.cons (.const (.str "&")) (.cons (.const (.str "++")) .nil))))) (.call "_law_shake" 593 (.cons (.var 2) (.cons (.const (.int 4)) .nil)))))) (.cons (.jV [12,13,14] (.cons (.c5 (.call "_law_kind" 620 (.cons (.var 2) (.cons (.var 4) .nil)))) (.cons (.c5 (.call "_law_kind" 620 (.cons (.var 2) (.cons (.var 4) .nil)))) (.cons (.bin .Add (.const (.int 10)) (.bin .Mult (.const (.int 3)) (.var 10))) .nil)))) (.cons (.assign 15 (.c5 (.call "_law_due" 625 (.cons (.var 4) (.cons (.var 11) (.cons (.var 12) (.cons (.var 13) .nil))))))) (.cons (.expr (.jQ (.var 7) (.tuple (.cons (.var 11) (.cons (.var 12) (.cons (.var 13) (.cons (.var 14) .nil))))))) (.cons (.expr (.jQ (.var 8) (.ji (.cmp .Is (.var 15) (.const .none)) (.tuple (.cons (.const .none) (.cons (.var 14) .nil))) (.idx (.var 15) (.const (.int 0)))))) (.cons (.iff (.fm .And (.cons (.cmp .IsNot (.var 15) (.const .none)) (.cons (.cmp .NotEq (.idx (.var 15) (.const (.int 1))) (.const (.str ""))) .nil))) (.cons (.setItem (.var 9) (.tuple (.cons (.var 14) (.cons (.idx (.var 15) (.const (.int 1))) .nil))) (.const (.bool true))) .nil) .nil) .nil))))))) (.cons (.for false (.one 16) (.range (.const (.int 2))) (.cons (.assign 17 (.new "SetKinds" 413 248 (.cons (.new "Signatures" 582 429 (.cons (.var 6) .nil)) .nil))) (.cons (.iff (.fm .Or (.cons (.c5 (.cmp .NotEq (.comp false (.c5 (.call "_law_answer" 632 (.cons (.var 17) (.cons (.var 18) .nil)))) (.one 18) (.ex (.var 7)) .nil) (.var 8))) (.cons (.c5 (.cmp .NotEq (.bi "list" (.attr (.var 17) "warnings" 413)) (.bi "list" (.var 9)))) .nil))) (.cons (.ret (.const (.bool false))) .nil) .nil) (.cons (.iff (.fm .Or (.cons (.c5 (.cmp .NotEq (.comp false (.c5 (.call "_law_answer" 632 (.cons (.var 17) (.cons (.var 19) .nil)))) (.one 19) (.ex (.var 7)) .nil) (.var 8))) (.cons (.c5 (.cmp .NotEq (.bi "list" (.attr (.var 17) "warnings" 413)) (.bi "list" (.var 9)))) .nil))) (.cons (.ret (.const (.bool false))) .nil) .nil) .nil)))) (.cons (.ret (.const (.bool true))) .nil))))))))⟩
noncomputable def df:List aa:=[109,130,137,142,149,161,187,192,375,443,450,455,462,495,502,509,516,530,605,615]
noncomputable def table:List (aa×ed):=[(109,Vk),(123,UX),(130,UY),(137,U0),(142,UW),(149,U3),(161,U1),(187,UZ),(192,U2),(248,U4),(262,U5),(361,U8),(375,U6),(382,U7),(429,Vb),(436,Vj),(443,Vd),(450,Va),(455,Vg),(462,U'),(469,Ve),(495,Vh),(502,Vf),(509,Vi),(516,Vc),(530,U9),(593,Vq),(600,Vp),(605,Vo),(610,Vr),(615,Vs),(620,Vn),(625,Vm),(632,Vl),(637,Jx)]
noncomputable def af5:List (aa×List (I×Nat)):=[(109,[(("kind":I),0)]),(123,[(("self":I),0),(("signatures":I),1)]),(130,[(("self":I),0),(("one":I),1),(("other":I),2)]),(137,[(("self":I),0),(("one":I),1),(("other":I),2)]),(142,[(("self":I),0),(("one":I),1),(("other":I),2),(("found":I),5)]),(149,[(("self":I),0),(("many":I),1)]),(161,[(("self":I),0),(("some":I),1),(("kept":I),2)]),(187,[(("self":I),0),(("some":I),1),(("others":I),2),(("found":I),5)]),(192,[(("self":I),0),(("some":I),1),(("others":I),2)]),(248,[(("self":I),0),(("signatures":I),1)]),(262,[(("self":I),0),(("spot":I),1),(("text":I),2)]),(361,[(("self":I),0),(("kind":I),1),(("parts":I),2),(("spot":I),3)]),(375,[(("self":I),0),(("sign":I),1),(("one":I),2),(("other":I),3),(("spot":I),4),(("kind":I),5)]),(382,[(("self":I),0),(("sign":I),1),(("one":I),2),(("other":I),3),(("spot":I),4),(("arity":I),5)]),(429,[(("self":I),0),(("items":I),1),(("item":I),2),(("name":I),3)]),(436,[(("self":I),0),(("item":I),1),(("name":I),2)]),(443,[(("self":I),0),(("name":I),1),(("other":I),2)]),(450,[(("self":I),0),(("name":I),1)]),(455,[(("self":I),0),(("found":I),1),(("rest":I),2),(("able":I),5)]),(462,[(("self":I),0),(("found":I),1),(("group":I),2),(("name":I),3),(("spot":I),4),(("is_disj":I),5),(("fields":I),6),(("mult":I),7),(("node":I),8)]),(469,[(("self":I),0),(("seen":I),1),(("field":I),2),(("name":I),3),(("mult":I),4),(("node":I),5),(("spot":I),6),(("group":I),7)]),(495,[(("self":I),0),(("name":I),1)]),(502,[(("self":I),0),(("name":I),1)]),(509,[(("self":I),0),(("name":I),1)]),(516,[(("self":I),0),(("name":I),1)]),(530,[(("self":I),0),(("name":I),1),(("found":I),2)]),(593,[(("cup":I),0),(("many":I),1)]),(600,[(("cup":I),0),(("found":I),1),(("name":I),2)]),(605,[(("parents":I),0),(("found":I),2),(("late":I),3),(("name":I),4)]),(610,[(("lines":I),0),(("columns":I),1),(("found":I),2),(("column":I),3),(("rows":I),4),(("name":I),5),(("row":I),8)]),(615,[(("lines":I),0),(("spread":I),1),(("found":I),2),(("row":I),3),(("wider":I),7)]),(620,[(("cup":I),0),(("lines":I),1),(("way":I),2),(("names":I),3),(("arity":I),4),(("columns":I),5),(("turn":I),6)]),(625,[(("lines":I),0),(("sign":I),1),(("one":I),2),(("other":I),3),(("left":I),4),(("right":I),5),(("both":I),7),(("either":I),9)]),(632,[(("kinds":I),0),(("asked":I),1),(("sign":I),2),(("one":I),3),(("other":I),4),(("spot":I),5),(("fault":I),6)]),(637,[(("script":I),0),(("cup":I),2),(("parents":I),3),(("lines":I),4),(("items":I),6),(("questions":I),7),(("due":I),8),(("warned":I),9),(("turn":I),10),(("sign":I),11),(("one":I),12),(("other":I),13),(("spot":I),14),(("told":I),15),(("lap":I),16),(("kinds":I),17)])]
noncomputable def Qn(a:aa):List (I×Nat):=(af5.lookup a).getD []
end
end Mine.Internal.L2
namespace Mine.Internal
structure hI(ap:List I)(le:I->I->Bool):Prop where
 GH:∀a∈ap,le a a=true
 Uc:∀a∈ap,∀b∈ap,le a b=true->le b a=true->a=b
 cd:∀a∈ap,∀b∈ap,∀c∈ap,le a b=true->le b c=true->le a c=true
 X9:∀a∈ap,∀b∈ap,∀c∈ap,le c a=true->le c b=true->le a b=true∨le b a=true
 ne:("":I)∉ap
noncomputable def eD(le:I->I->Bool):List I->List I->Bool
 |[],[]=>true
 |a::r,b::t=>le a b&&eD le r t
 |_,_=>false
noncomputable def hE(le:I->I->Bool)(a b:I):I:=if le a b=true then a else if le b a=true then b else("":I)
noncomputable def hi(le:I->I->Bool)(x y:List I):Option (List I):=
 if ("":I)∈pM (hE le) x y then none else some (pM (hE le) x y)
def nH(ap:List I)(n:Nat)(aB:List (List I)):Prop:=∀r∈aB,r.length=n∧∀a∈r,a∈ap
section
variable{ap:List I}{le:I->I->Bool}
theorem qF(c8:hI ap le):∀{x:List I},(∀a∈x,a∈ap)->eD le x x=true
 |[],_=>rfl
 |a::r,h=>by simp[eD,c8.GH a (h a (.head _)),qF c8 λb ag=>h b (.tail _ ag)]
theorem Bn:∀{x y:List I},eD le x y=true->x.length=y.length
 |[],[],_=>rfl
 |a::r,b::t,h=>by simp[eD] at h;simp[Bn h.2]
theorem GJ(c8:hI ap le):∀{x y z:List I},(∀a∈x,a∈ap)->(∀a∈y,a∈ap)->(∀a∈z,a∈ap)->eD le x y=true->eD le y z=true->eD le x z=true
 |[],[],[],_,_,_,_,_=>rfl
 |a::r,b::t,c::u,ai,am,a6,p,q=>by
  simp only[eD,gW] at p q |-
  exact⟨c8.cd a (ai a (.head _)) b (am b (.head _)) c (a6 c (.head _)) p.1 q.1,GJ c8 (λb ag=>ai b (.tail _ ag)) (λb ag=>am b (.tail _ ag)) (λb ag=>a6 b (.tail _ ag)) p.2 q.2⟩
theorem GI(c8:hI ap le):∀{x y:List I},(∀a∈x,a∈ap)->(∀a∈y,a∈ap)->eD le x y=true->eD le y x=true->x=y
 |[],[],_,_,_,_=>rfl
 |a::r,b::t,ai,am,p,q=>by
  simp only[eD,gW] at p q
  rw[c8.Uc a (ai a (.head _)) b (am b (.head _)) p.1 q.1,GI c8 (λb ag=>ai b (.tail _ ag)) (λb ag=>am b (.tail _ ag)) p.2 q.2]
theorem acn(c8:hI ap le){a b:I}(ar:a∈ap)(ag:b∈ap):hE le a b=("":I)↔le a b=false∧le b a=false:=by
 unfold hE
 split
 ·rename_i h;simp only[h,Rw,false_and,iff_false];exact λe=>c8.ne (e▸ar)
 ·rename_i h
  split
  ·rename_i k;simp only[k,Rw,and_false,iff_false];exact λe=>c8.ne (e▸ag)
  ·rename_i k;exact iff_of_true rfl ⟨t3.mpr h,t3.mpr k⟩
theorem aco(c8:hI ap le){a b:I}(ar:a∈ap)(ag:b∈ap):hE le a b=a↔le a b=true:=by
 unfold hE
 split
 ·rename_i h;simp[h]
 ·rename_i h
  split
  ·rename_i k
   exact iff_of_false (λe=>h (e▸k)) h
  ·exact iff_of_false (λe=>c8.ne (e▸ar)) h
theorem JT(c8:hI ap le):∀{x y:List I},x.length=y.length->(∀a∈x,a∈ap)->(∀a∈y,a∈ap)->(hi le x y=some x↔eD le x y=true):=by
 have gR:∀{x y:List I},x.length=y.length->(∀a∈x,a∈ap)->(∀a∈y,a∈ap)->(pM (hE le) x y=x↔eD le x y=true):=by
  intro x
  induction x with
  |nil=>intro y h _ _;cases y with
   |nil=>simp[eD]
   |cons=>simp at h
  |cons a r aJ=>
   intro y h ai am
   cases y with
   |nil=>simp at h
   |cons b t=>
    simp only[If,sq,eD,gW]
    rw[aco c8 (ai a (.head _)) (am b (.head _)),aJ (by simpa using h) (λc aK=>ai c (.tail _ aK)) (λc aK=>am c (.tail _ aK))]
 intro x y h ai am
 rw[<-gR h ai am]
 unfold hi
 split
 ·rename_i q
  simp only[reduceCtorEq,false_iff]
  intro e;rw[e] at q;exact c8.ne (ai _ q)
 ·simp
theorem JU(c8:hI ap le):∀{x y z:List I},x.length=y.length->(∀a∈x,a∈ap)->(∀a∈y,a∈ap)->hi le x y=some z->(∀a∈z,a∈ap)∧eD le z x=true∧eD le z y=true:=by
 intro x
 induction x with
 |nil=>
  intro y z h _ _ e
  cases y with
  |nil=>simp[hi] at e;subst e;trivial
  |cons=>simp at h
 |cons a r aJ=>
  intro y z h ai am e
  cases y with
  |nil=>simp at h
  |cons b t=>
   unfold hi at e
   simp only[If,dU,not_or] at e
   split at e
   ·cases e
   ·rename_i q
    simp only[not_or] at q
    cases e
    obtain⟨bk,b2,fo⟩:=aJ (y:=t) (by simpa using h) (λc aK=>ai c (.tail _ aK)) (λc aK=>am c (.tail _ aK)) (z:=pM (hE le) r t) (by unfold hi;rw[if_neg q.2])
    have ar:=ai a (.head _)
    have ag:=am b (.head _)
    have aO:hE le a b∈ap∧le (hE le a b) a=true∧le (hE le a b) b=true:=by
     have a7:=q.1
     unfold hE at a7 |-
     split
     ·rename_i w;exact⟨ar,c8.GH a ar,w⟩
     ·rename_i w
      rw[if_neg w] at a7
      split
      ·rename_i pw;exact⟨ag,pw,c8.GH b ag⟩
      ·rename_i pw;rw[if_neg pw] at a7;exact absurd rfl a7
    refine⟨λc aK=>?_,by simp[eD,aO.2.1,b2],by simp[eD,aO.2.2,fo]⟩
    rcases dU.mp aK with rfl |aK
    ·exact aO.1
    ·exact bk c aK
theorem VR(c8:hI ap le):∀{x y w:List I},(∀a∈x,a∈ap)->(∀a∈y,a∈ap)->(∀a∈w,a∈ap)->eD le w x=true->eD le w y=true->∃z,hi le x y=some z∧eD le w z=true:=by
 intro x
 induction x with
 |nil=>
  intro y w ai am a6 p q
  have:=Bn p
  cases w with
  |nil=>cases y with
   |nil=>exact⟨[],rfl,rfl⟩
   |cons=>cases q
  |cons=>cases p
 |cons a r aJ=>
  intro y w ai am a6 p q
  cases w with
  |nil=>cases p
  |cons c u=>
   cases y with
   |nil=>cases q
   |cons b t=>
    simp only[eD,gW] at p q
    obtain⟨z,e,i⟩:=aJ (λc aK=>ai c (.tail _ aK)) (λc aK=>am c (.tail _ aK)) (λc aK=>a6 c (.tail _ aK)) p.2 q.2
    unfold hi at e
    split at e
    ·cases e
    ·rename_i ne
     cases e
     have ar:=ai a (.head _)
     have ag:=am b (.head _)
     have aK:=a6 c (.head _)
     have aG:=c8.X9 a ar b ag c aK p.1 q.1
     have d5:¬(("":I)=hE le a b):=λe=>by
      have:=(acn c8 ar ag).mp e.symm
      rcases aG with w |w
      ·rw[this.1] at w;nomatch w
      ·rw[this.2] at w;nomatch w
     refine⟨hE le a b::pM (hE le) r t,?_,?_⟩
     ·unfold hi
      rw[if_neg]
      ·rfl
      ·simp only[If,dU,not_or];exact⟨d5,ne⟩
     ·simp only[eD,gW]
      refine⟨?_,i⟩
      unfold hE
      split
      ·exact p.1
      ·split
       ·exact q.1
       ·rename_i he jX;rcases aG with w |w
        ·exact absurd w he
        ·exact absurd w jX
noncomputable def jR(le:I->I->Bool)(aB:List (List I)):List (List I):=(eE e0 (eU aB)).filter λa=>decide (∀b∈aB,eD le a b=true->b=a)
theorem FU{aB:List (List I)}{x:List I}:x∈jR le aB↔x∈aB∧∀y∈aB,eD le x y=true->y=x:=by
 unfold jR
 rw[q3,(i0 _).mem_iff,p9,decide_eq_true_iff]
theorem T7{α:Type}{lt:α->α->Bool}{m:List α}{p:α->Bool}(h:lL lt m):lL lt (m.filter p):=Co Cr h
theorem afh{aB S:List (List I)}(ai:lL e0 aB)(am:lL e0 S)(d9:aB.Nodup)(eb:S.Nodup)(h:∀x,x∈aB↔x∈S):aB=S:=
 zD tJ (OG d9 eb h) ai am
theorem afb{aB:List (List I)}:(eE e0 (eU aB)).Nodup:=(i0 _).nodup_iff.mpr (J8 aB)
theorem NE{aB:List (List I)}:(jR le aB).Nodup:=Co Cr afb
theorem ND{aB:List (List I)}:lL e0 (jR le aB):=T7 (yj tJ _)
theorem FT(c8:hI ap le){n N:Nat}{aB S:List (List I)}(gg:nH ap n aB)(fv:nH ap N S)(ai:∀x∈aB,∃s∈S,eD le x s=true)(am:∀s∈S,∃x∈aB,eD le s x=true):jR le aB=jR le S:=by
 have gR:∀{n N:Nat}{aB S:List (List I)},nH ap n aB->nH ap N S->(∀x∈aB,∃s∈S,eD le x s=true)->(∀s∈S,∃x∈aB,eD le s x=true)->∀x,x∈jR le aB->x∈jR le S:=by
  intro n N aB S gg fv ai am x aD
  rw[FU] at aD |-
  obtain⟨Fj,hm⟩:=aD
  have up:∀s∈S,eD le x s=true->s=x:=by
   intro s aP q
   obtain⟨m,aN,dZ⟩:=am s aP
   have e:=hm m aN (GJ c8 (gg x Fj).2 (fv s aP).2 (gg m aN).2 q dZ)
   subst e
   exact GI c8 (fv s aP).2 (gg m Fj).2 dZ q
  refine ge λdT cD=>?_
  obtain⟨s,aP,q⟩:=ai x Fj
  refine cD ?_
  clear cD dT
  have:=up s aP q
  subst this
  exact⟨aP,up⟩
 exact afh ND ND NE NE λx=>⟨gR gg fv ai am x,gR fv gg am ai x⟩
theorem alp{n:Nat}{aB:List (List I)}(h:nH ap n aB):nH ap n (jR le aB):=λr ba=>h r (FU.mp ba).1
theorem z0{α:Type} [DecidableEq α]:∀m:List α,(eU m).length<=m.length
 |[]=>eN _
 |x::r=>by
  have:=z0 r
  dsimp only[eU]
  split
  ·exact wv this
  ·simp;omega
theorem J7{α:Type} [DecidableEq α]:∀{m:List α},m.Nodup->eU m=m
 |[],_=>rfl
 |x::r,h=>by
  obtain⟨ai,am⟩:=mC.mp h
  dsimp only[eU]
  rw[if_neg ai,J7 am]
theorem ab4{aB:List (List I)}:(jR le aB).length<=aB.length:=by
 unfold jR
 refine da (sr _ _) ?_
 rw[(i0 _).length_eq]
 exact z0 aB
noncomputable def iD(le:I->I->Bool)(aB:List (List I)):List (List I):=
 (eE e0 (eU aB)).filter λa=>decide (((eE e0 (eU aB)).filter λb=>decide (b≠a)&& decide (hi le a b=some a))=[])
theorem Gr(c8:hI ap le){n:Nat}{aB:List (List I)}(h:nH ap n aB):iD le aB=jR le aB:=by
 refine y2 λa ar=>?_
 have Ao:a∈aB:=p9.mp ((i0 _).mem_iff.mp ar)
 rw[decide_eq_decide,y3]
 refine⟨λq b ag r=>?_,λq b ag r=>?_⟩
 ·have:=q b ((i0 _).mem_iff.mpr (p9.mpr ag))
  simp only[gW,decide_eq_true_eq,not_and] at this
  refine lM λe=>this e ?_
  exact(JT c8 ((h a Ao).1.trans (h b ag).1.symm) (h a Ao).2 (h b ag).2).mpr r
 ·have EG:b∈aB:=p9.mp ((i0 _).mem_iff.mp ag)
  simp only[gW,decide_eq_true_eq] at r
  exact r.1 (q b EG ((JT c8 ((h a Ao).1.trans (h b EG).1.symm) (h a Ao).2 (h b EG).2).mp r.2))
noncomputable def QR(le:I->I->Bool)(S:List (List I)):List (List I):=
 (eE e0 S).filter λa=>decide ((S.filter λb=>decide (b≠a)&& eD le a b)=[])
theorem ahl{S:List (List I)}(h:S.Nodup):QR le S=jR le S:=by
 dsimp only[QR,jR]
 rw[J7 h]
 refine y2 λa ar=>?_
 rw[decide_eq_decide,y3]
 refine⟨λq b ag r=>?_,λq b ag r=>?_⟩
 ·have:=q b ag
  simp only[gW,decide_eq_true_eq,not_and] at this
  exact lM λe=>this e r
 ·simp only[gW,decide_eq_true_eq] at r
  exact r.1 (q b ag r.2)
noncomputable def rowsOf(iC:I->List I)(f5:List I):List (List I):=f5.foldl (λrows name=>rows.flatMap λrow=>(iC name).map λone=>row++[one]) [[]]
theorem Pb{iC:I->List I}(aN:∀b∈ap,∀a,a∈iC b↔a∈ap∧le a b=true):∀(f5:List I),(∀b∈f5,b∈ap)->∀(bc:List (List I))(r:List I),
 r∈f5.foldl (λrows name=>rows.flatMap λrow=>(iC name).map λone=>row++[one]) bc↔∃p∈bc,∃q,r=p++q∧(∀a∈q,a∈ap)∧eD le q f5=true
 |[],_,bc,r=>by
  simp only[List.foldl_nil]
  refine⟨λh=>⟨r,h,[],by simp[eD]⟩,fun⟨p,aL,q,e,_,h⟩=>?_⟩
  cases q with
  |nil=>simpa[e] using aL
  |cons=>cases h
 |b::t,aK,bc,r=>by
  rw[Cs,Pb aN t (λc h=>aK c (.tail _ h))]
  refine⟨fun⟨p,aL,q,e,a7,h⟩=>?_,fun⟨p,aL,q,e,a7,h⟩=>?_⟩
  ·obtain⟨bN,n5,ai⟩:=q4.mp aL
   obtain⟨a,ar,rfl⟩:=gY.mp ai
   obtain⟨YJ,jK⟩:=(aN b (aK b (.head _)) a).mp ar
   refine⟨bN,n5,a::q,by simp[e],λc xh=>?_,by simp[eD,jK,h]⟩
   rcases dU.mp xh with rfl |xh
   ·exact YJ
   ·exact a7 c xh
  ·cases q with
   |nil=>cases h
   |cons a q=>
    simp only[eD,gW] at h
    refine⟨p++[a],q4.mpr ⟨p,aL,gY.mpr ⟨a,(aN b (aK b (.head _)) a).mpr ⟨a7 a (.head _),h.1⟩,rfl⟩⟩,q,by simp[e],λc xh=>a7 c (.tail _ xh),h.2⟩
theorem Pc{iC:I->List I}(aN:∀b∈ap,∀a,a∈iC b↔a∈ap∧le a b=true){f5 r:List I}(aK:∀b∈f5,b∈ap):r∈rowsOf iC f5↔(∀a∈r,a∈ap)∧eD le r f5=true:=by
 unfold rowsOf
 rw[Pb aN f5 aK]
 simp
noncomputable def fH{cp:Type} [DecidableEq cp](k:cp)(m:List cp):List cp:=if k∈m then m else m++[k]
theorem C7{cp:Type} [DecidableEq cp]{k x:cp}{m:List cp}:x∈fH k m↔x=k∨x∈m:=by
 unfold fH
 split
 ·rename_i h;exact⟨.inr,λq=>q.elim (λe=>e▸h) id⟩
 ·simp[or_comm]
theorem TE{cp:Type} [DecidableEq cp]{k:cp}{m:List cp}(h:m.Nodup):(fH k m).Nodup:=by
 unfold fH
 split
 ·exact h
 ·rename_i q;rw[y9];simp[h];exact λa ar e=>q (e▸ar)
noncomputable def mO{cp:Type} [DecidableEq cp](m:List cp)(aY:List cp):List cp:=aY.foldl (λm k=>fH k m) m
theorem I5{cp:Type} [DecidableEq cp]{x:cp}:∀{aY m:List cp},x∈mO m aY↔x∈m∨x∈aY
 |[],m=>by simp[mO]
 |k::r,m=>by
  have:=I5 (x:=x) (aY:=r) (m:=fH k m)
  unfold mO at this |-
  rw[Cs,this,C7,dU]
  constructor
  ·rintro((h |h)| h)
   ·exact .inr (.inl h)
   ·exact .inl h
   ·exact .inr (.inr h)
  ·rintro(h |h |h)
   ·exact .inl (.inr h)
   ·exact .inl (.inl h)
   ·exact .inr h
theorem I6{cp:Type} [DecidableEq cp]:∀{aY m:List cp},m.Nodup->(mO m aY).Nodup
 |[],m,h=>h
 |k::r,m,h=>I6 (aY:=r) (TE h)
noncomputable def ei(iC:I->List I)(gO:List (List I)):List (List I):=gO.foldl (λf c=>mO f (rowsOf iC c)) []
theorem PX{iC:I->List I}{x:List I}:∀{gO f:List (List I)},x∈gO.foldl (λf c=>mO f (rowsOf iC c)) f↔x∈f∨∃c∈gO,x∈rowsOf iC c
 |[],f=>by simp
 |c::r,f=>by
  rw[Cs,PX,I5]
  simp[or_assoc]
theorem PY{iC:I->List I}(aN:∀b∈ap,∀a,a∈iC b↔a∈ap∧le a b=true){n:Nat}{gO:List (List I)}(aK:nH ap n gO){x:List I}:x∈ei iC gO↔(∀a∈x,a∈ap)∧∃c∈gO,eD le x c=true:=by
 unfold ei
 rw[PX]
 simp only[hK,false_or]
 refine⟨fun⟨c,h,q⟩=>?_,fun⟨ai,c,h,q⟩=>⟨c,h,(Pc aN (aK c h).2).mpr ⟨ai,q⟩⟩⟩
 have:=(Pc aN (aK c h).2).mp q
 exact⟨this.1,c,h,this.2⟩
theorem PZ{iC:I->List I}:∀{gO f:List (List I)},f.Nodup->(gO.foldl (λf c=>mO f (rowsOf iC c)) f).Nodup
 |[],f,h=>h
 |c::r,f,h=>PZ (gO:=r) (I6 h)
theorem afo{iC:I->List I}(aN:∀b∈ap,∀a,a∈iC b↔a∈ap∧le a b=true){n:Nat}{gO:List (List I)}(aK:nH ap n gO):nH ap n (ei iC gO):=λr ba=>by
 obtain⟨ai,c,h,q⟩:=(PY aN aK).mp ba
 exact⟨(Bn q).trans (aK c h).1,ai⟩
end
end Mine.Internal
namespace Mine.Internal.L2
section
variable{α bq:Type}
theorem B{r:ao α}{f:α->St->ao bq}{a:α}{l:St}{R:ao bq}(h:r=.ok a l)(k:f a l=R):r.bind f=R:=h▸k
theorem iG{r:ao α}{f:α->St->ao bq}{a:α}{l:St}{R:ao bq}(h:r=.ok a l)(k:f a l=R):r.g'.bind f=R:=h▸k
theorem fl{A:Option α}{f:α->St->ao bq}{a:α}{l:St}{R:ao bq}(h:A=some a)(k:f a l=R):(opt A l).bind f=R:=h▸k
end
theorem ST{X:cS}{s:mu}{r:ec}{C bb:aI}{l av:St}{R:ao (dg×aI)}(h:gz X s C l=.ok (.next,bb) av)(k:ff X r bb av=R):ff X (.cons s r) C l=R:=B h k
theorem kG{f:L->St->ao (List L)}{g:Option (Nat×aQ)}{l:St}{bq:Type}(dR:gP l g=true)(e:bq->L)(h:bq->List L)(Y:List bq)(aG:∀a∈Y,f (e a) l=.ok (h a) l):j9 f g (Y.map e) l=.ok (Y.flatMap h) l:=by
 induction Y with
 |nil=>exact if_pos dR
 |cons a r aJ=>exact(if_pos dR).trans (iG (aG a (.head _)) (iG (aJ λb ag=>aG b (.tail _ ag)) rfl))
theorem rr{X:cS}{e:bB}{C:aI}{l av:St}{a:L}{m:List L}(h:aS X e C l=.ok a av)(k:[a]=m):iS (kJ X .nil) (aS X e) C l=.ok m av:=B rfl ((if_pos rfl).trans (B h (k▸rfl)))
theorem here{l:St}{n:Nat}{A:aQ}(h:l[n]? =some A):gP l (some (n,A))=true:=decide_eq_true h
theorem AQ{l:St}{N:Nat}{m:List L}(h:l[N]? =some (.list m)):dm l (.loc N)=some (m,some (N,.list m)):=by rw[dm,h]
theorem rt{X:cS}{e:bB}{C:aI}{l av:St}{n:Nat}{m:List L}(h:aS X e C l=.ok (.loc n) av)(k:av[n]? =some (.list m)):l1 X (.ex e) C l=.ok (m,some (n,.list m)) av:=
 B h (congrArg (opt · av) (AQ k))
theorem u3{X:cS}{a i:bB}{C:aI}{l:St}{n:Nat}{d:List (I×L)}{x:I}{v:L}(ai:aS X a C l=.ok (.loc n) l)(am:aS X i C l=.ok (.str x) l)(k:l[n]? =some (.cj d))(q:d.lookup x=some v):aS X (.idx a i) C l=.ok v l:=
 B ai (B am (by show opt ((l[n]?).bind (te (.str x))) l=_;rw[k];show opt (d.lookup x) l=_;rw[q];rfl))
theorem FS{α bq:Type}(f:α->bq)(m:List α):m.flatMap (λa=>[f a])=m.map f:=by
 induction m with
 |nil=>rfl
 |cons a r aJ=>exact congrArg (f a :: ·) aJ
noncomputable def row(r:List I):L:=.tup (r.map .str)
noncomputable def rows(m:List (List I)):List L:=m.map row
structure f2(ap:List I)(au:I->List I)(n:Nat)(l:St):Prop where
 cj:∃d,l[n]? =some (.cj d)∧∀a∈ap,∃j,d.lookup a=some (.loc j)∧l[j]? =some (.list ((au a).map .str))
section
variable{ap:List I}{au:I->List I}{n:Nat}{l bm:St}
theorem es{N:Nat}{A:aQ}(h:l[N]? =some A):(l++bm)[N]? =some A:=(jv (gt.mp h).1).trans h
theorem f2.more(h:f2 ap au n l):f2 ap au n (l++bm):=⟨aU h.cj λd ai am=>bx d (es ai) λa ar=>aU (am a ar) λj p q=>bx j p (es q)⟩
theorem f2.set{N:Nat}{A ch:aQ}(h:f2 ap au n l)(hm:l[N]? =some A)(ai:∀d,A≠.cj d)(am:∀d,A≠.list d):f2 ap au n (l.set N ch):=
 have ne:∀{k:Nat}{x:aQ},l[k]? =some x->x≠A->(l.set N ch)[k]? =some x:=λe q=>(k' λz=>q (dq (e.symm.trans ((congrArg (l[·]?) z.symm).trans hm)))).trans e
 ⟨aU h.cj λd p q=>bx d (ne p λz=>ai _ z.symm) λa ar=>aU (q a ar) λj u v=>bx j u (ne v λz=>am _ z.symm)⟩
end
section
variable{ap:List I}{au:I->List I}{X:cS}
noncomputable def lq(au:I->List I)(bc:List (List I))(b:I):List (List I):=bc.flatMap λr=>(au b).map λa=>r++[a]
theorem aek{bc:List (List I)}{b:I}:bc.flatMap (λr=>(au b).flatMap λa=>[row (r++[a])])=rows (lq au bc b):=by
 unfold rows lq
 rw[Cu]
 exact congrArg (bc.flatMap ·) (funext λr=>(FS _ _).trans (by rw[lO];rfl))
theorem afq{n N:Nat}{aq aF bh c7 eo fh:Option L}{l:St}{bc:List (List I)}{b:I}(aB:f2 ap au n l)(ag:b∈ap)
 (hm:l[N]? =some (.list (rows bc))) (aZ:(rows (lq au bc b)).length<b8) (bS:∀r∈bc,r.length+1<b8):
 aS X (.l0 false (.bin .Add (.var 6) (.tuple (.cons (.var 7) .nil))) (.one 6) (.ex (.var 4)) (.one 7) (.ex (.idx (.var 0) (.var 5))) .nil) [some (.loc n),aq,aF,bh,some (.loc N),some (.str b),c7,eo,fh] l=.ok (.loc l.length) (l++[.list (rows (lq au bc b))]):=by
 refine aU aB.cj λd hd q=>aU (q b ag) λj cy aN=>?_
 refine B (a:=rows (lq au bc b)) (iG (rt rfl hm) ((kG (here hm) row (λr=>(au b).flatMap λa=>[row (r++[a])]) bc λr ba=>?_).trans (congrArg (ao.ok · l) aek))) (if_pos aZ)
 refine fl rfl (B (rt (u3 (a:=.var 0) (i:=.var 5) rfl rfl hd cy) aN) (kG (here aN) L.str (λa=>[row (r++[a])]) (au b) λa ar=>?_))
 refine fl rfl (rr (B rfl (B rfl (congrArg eC (if_pos (by exact dC (as:=r) _▸bS r ba))))) ?_)
 rw[row,oH];rfl
theorem K'{b:I}(h:(au b).length<=5)(bc:List (List I)):(lq au bc b).length<=bc.length*5:=by
 induction bc with
 |nil=>exact eN 0
 |cons r t aJ=>exact da (dI fN) (cf [_,_,_] 1 (.add al ax) (.mulR (Ns aT) 5) 1 al (.num 5) 1 ax (.mulR aT 5) rfl (da (dI (dC ..)) h) aJ)
theorem Yu{bc:List (List I)}{b:I}{n:Nat}(h:∀r∈bc,r.length+1+n<10):∀r∈lq au bc b,r.length+n<10:=λr ba=>aU (q4.mp ba) λp aL q=>aU (gY.mp q) λa o e=>e▸fN (as:=p) (bs:=[a])▸h p aL
theorem afr{n:Nat}{aq aF bh c7 eo fh:Option L}(aP:∀b∈ap,(au b).length<=5)(f5:List I)(aK:∀b∈f5,b∈ap):∀{N:Nat}{c6:Option L}{l:St}{bc:List (List I)},f2 ap au n l->l[N]? =some (.list (rows bc))->bc.length*5^f5.length<b8->(∀r∈bc,r.length+f5.length<10)->
 ∃de sd bm,jG (kK (.one 5) (ff X (.cons (.assign 4 (.l0 false (.bin .Add (.var 6) (.tuple (.cons (.var 7) .nil))) (.one 6) (.ex (.var 4)) (.one 7) (.ex (.idx (.var 0) (.var 5))) .nil)) .nil))) none (f5.map .str) [some (.loc n),aq,aF,bh,some (.loc N),c6,c7,eo,fh] l
  =.ok (.next,[some (.loc n),aq,aF,bh,some (.loc de),sd,c7,eo,fh]) (l++bm)∧(l++bm)[de]? =some (.list (rows (f5.foldl (lq au) bc))):=by
 induction f5 with
 |nil=>exact λaB hm o o=>tq _ _ [] ((if_pos rfl).trans (congrArg _ (iK _).symm)) (es hm)
 |cons b t aJ=>
  intro N c6 l bc aB hm aZ bS
  have ag:=aK b (.head _)
  have dR:=K' (aP b ag) bc
  have kg:(lq au bc b).length*5^t.length<b8:=e2 (ze _ dR) (by rw[Ir,<-SU];exact aZ)
  have mZ:∀r∈bc,r.length+1+t.length<10:=λr h=>SK r.length 1 t.length▸bS r h
  refine k7 (aJ (λc h=>aK c (.tail _ h)) (N:=l.length) (c6:=some (.str b)) (bc:=lq au bc b) (aB.more (bm:=[.list (rows (lq au bc b))])) (eM ..) kg (Yu mZ)) λde sd bm a3 a4=>?_
  refine tq de sd ([.list (rows (lq au bc b))]++ bm) ((if_pos rfl).trans (B (fl rfl (ST (B (afq aB ag hm ?_ ?_) rfl) rfl)) (a3.trans ?_))) ?_
  ·exact dC (as:=lq au bc b) row▸e2 (Nat.le_mul_of_pos_right _ (Nat.pow_pos (by decide))) kg
  ·exact λr h=>lP (e2 (pQ _ t.length) (mZ r h)) (by decide)
  ·rw[fF]
  ·rw[<-fF];exact a4
end
noncomputable def eQ(f:List (List I)):List (List L×L):=f.map λr=>(r.map L.str,L.bool true)
theorem G7:∀{x y:List I},x.map L.str=y.map L.str->x=y:=λe=>List.map_inj_right (λa b h=>by cases h;rfl)|>.mp e
theorem Pn(r:List I):tL (r.map .str)=true:=by
 induction r with
 |nil=>rfl
 |cons a t aJ=>exact aJ
theorem TD{p r:List I}{f:List (List I)}(h:p≠r):fH r (p::f)=p::fH r f:=by
 unfold fH
 by_cases q:r∈f
 ·rw[if_pos q,if_pos (.tail _ q)]
 ·rw[if_neg q,if_neg λz=>(dU.mp z).elim (λe=>h e.symm) q];rfl
theorem adQ(r:List I)(f:List (List I)):e6 (r.map .str) (.bool true) (eQ f)=eQ (fH r f):=by
 induction f with
 |nil=>rfl
 |cons p f aJ=>
  by_cases q:p=r
  ·subst q
   exact(if_pos rfl).trans (show eQ (p::f)=eQ (fH p (p::f)) from congrArg eQ (if_pos y8).symm)
  ·exact(if_neg λe=>q (G7 e)).trans ((congrArg (_ :: ·) aJ).trans (congrArg eQ (TD q).symm))
theorem I8{r:List I}{f:List (List I)}:(fH r f).length<=f.length+1:=by
 unfold fH
 by_cases q:r∈f
 ·rw[if_pos q];exact pR _
 ·rw[if_neg q];exact dI fN
theorem TC{aB:List (List I)}:∀f:List (List I),(mO f aB).length<=f.length+aB.length:=by
 induction aB with
 |nil=>exact λf=>eN _
 |cons r aB aJ=>exact λf=>da (aJ _) (b6 [_,_,_] 1 (.add al ax) (.add aT (Ns ax)) 1 al (Ns aT) rfl (I8 (r:=r) (f:=f)))
theorem aeh{ap:List I}{au:I->List I}(aP:∀b∈ap,(au b).length<=5)(c:List I)(aK:∀b∈c,b∈ap):∀bc:List (List I),(c.foldl (lq au) bc).length<=bc.length*5^c.length:=by
 induction c with
 |nil=>exact λbc=>dI (Nat.mul_one _).symm
 |cons b t aJ=>exact λbc=>da (aJ (λc h=>aK c (.tail _ h)) _) (da (ze _ (K' (aP b (aK b (.head _))) bc)) (dI (by rw[Ir,<-SU];rfl)))
theorem r1{b bm:St}{A ch:aQ}:(b++A::bm).set b.length ch=b++ch::bm:=by
 induction b with
 |nil=>rfl
 |cons a t aJ=>exact congrArg (a :: ·) aJ
theorem qe{b bm:St}{A:aQ}:(b++A::bm)[b.length]? =some A:=by
 induction b with
 |nil=>rfl
 |cons a t aJ=>exact aJ
theorem sX{b bm:St}{g:Option (Nat×aQ)}(h:gP b g=true):gP (b++bm) g=true:=match g,h with
 |none,_=>rfl
 |some (n,A),h=>decide_eq_true (es (of_decide_eq_true h))
section
variable{X:cS}
theorem GX{A k v:bB}{C:aI}{l av:St}{x y z:L}(ai:aS X v C l=.ok x l)(am:aS X A C l=.ok y l)(a6:aS X k C l=.ok z l)(c2:lA X.aC l y z x=some av):gz X (.setItem A k v) C l=.ok (.next,C) av:=B ai (B am (B a6 (congrArg (optN C) c2)))
theorem afs{b bm:St}{f:List (List I)}{r:List I}(aZ:f.length<b8):lA X.aC (b ++ .b5 (eQ f):: bm) (.loc b.length) (row r) (.bool true)=some (b ++ .b5 (eQ (fH r f)):: bm):=by
 show(if hP X.aC b.length (.bool true)=false then none else((b ++ .b5 (eQ f):: bm)[b.length]?).bind λc3=>(putIn c3 (row r) (.bool true)).map ((b ++ .b5 (eQ f):: bm).set b.length))=_
 rw[if_neg (by rw[hP,show f0 (.bool true)=true from rfl,pE];exact pC),qe]
 show(putIn (.b5 (eQ f)) (row r) (.bool true)).map _=_
 rw[show putIn (.b5 (eQ f)) (row r) (.bool true)=some (.b5 (eQ (fH r f))) from(if_pos ⟨Pn r,(dC (as:=f) _).symm▸aZ⟩).trans (congrArg (λm=>some (aQ.b5 m)) (adQ r f))]
 exact congrArg some r1
theorem aft{b:St}{aj aq bh cO c6 c7 eo:Option L}{g:Option (Nat×aQ)}{bm:St}(dR:∀m,gP (b ++ .b5 m::bm) g=true)(aB:List (List I)):∀{f:List (List I)}{fh:Option L},f.length+aB.length<b8->
 ∃vZ,jG (kK (.one 8) (ff X (.cons (.setItem (.var 2) (.var 8) (.const (.bool true))) .nil))) g (rows aB) [aj,aq,some (.loc b.length),bh,cO,c6,c7,eo,fh] (b ++ .b5 (eQ f):: bm)
  =.ok (.next,[aj,aq,some (.loc b.length),bh,cO,c6,c7,eo,vZ]) (b ++ .b5 (eQ (mO f aB)):: bm):=by
 induction aB with
 |nil=>exact λo=>bk _ (if_pos (dR _))
 |cons r aB aJ=>
  intro f fh aZ
  refine bz (aJ (f:=fH r f) (fh:=some (row r)) (cf [_,_,_,_] 1 (Ns (.add al ax)) aT 1 (Ns (.add cs (Ns ax))) aT 1 al (Ns cs) rfl aZ I8)) λy e=>?_
  exact bk y ((if_pos (dR _)).trans (B (fl rfl (ST (GX rfl rfl rfl (afs (b6 [_,_,_] 1 (Ns al) ax 1 (Ns (.add al (Ns aT))) ax rfl aZ))) rfl)) e))
theorem rv{t:e3}{it:iH}{p:Bool}{body:ec}{C:aI}{l av:St}{m:List L}{g:Option (Nat×aQ)}{R:ao (dg×aI)}(h:l1 X it C l=.ok (m,g) av)(dR:jP g=true)(k:jG (kK t (ff X body)) g m C av=R):gz X (.for p t it body) C l=R:=
 B h ((if_neg (by rw[dR];exact pC)).trans k)
theorem af8{b bm:St}{f z':List (List L×L)}{N:Nat}{m:List L}(h:(b ++ .b5 f::bm)[N]? =some (.list m)):(b ++ .b5 z'::bm)[N]? =some (.list m):=
 (congrArg (·[N]?) (r1 (b:=b) (bm:=bm) (A:=.b5 f) (ch:=.b5 z')).symm).trans ((k' λe=>by cases (qe (b:=b) (bm:=bm)).symm.trans ((congrArg ((b ++ .b5 f::bm)[·]?) e).trans h)).trans h)
noncomputable abbrev acm:ec:=.cons (.assign 4 (.l0 false (.bin .Add (.var 6) (.tuple (.cons (.var 7) .nil))) (.one 6) (.ex (.var 4)) (.one 7) (.ex (.idx (.var 0) (.var 5))) .nil)) .nil
noncomputable abbrev adO:ec:=.cons (.setItem (.var 2) (.var 8) (.const (.bool true))) .nil
noncomputable abbrev VN:ec:=.cons (.assign 4 (.list (.cons (.tuple .nil) .nil))) (.cons (.for false (.one 5) (.ex (.var 3)) acm) (.cons (.for false (.one 8) (.ex (.var 4)) adO) .nil))
theorem afp{ap:List I}{au:I->List I}{n:Nat}{b:St}{aq c7 eo:Option L}{g:Option (Nat×aQ)}(aP:∀b∈ap,(au b).length<=5)(aB:f2 ap au n b)(dR:gP b g=true)(gO:List (List I))(aK:∀c∈gO,c.length<=2∧∀a∈c,a∈ap):
 ∀{f:List (List I)}{bm:St}{bh cO c6 fh:Option L},f.length+gO.length*25<b8->∃oq B2 sd vZ ot,jG (kK (.one 3) (ff X VN)) g (rows gO) [some (.loc n),aq,some (.loc b.length),bh,cO,c6,c7,eo,fh] (b ++ .b5 (eQ f):: bm)
  =.ok (.next,[some (.loc n),aq,some (.loc b.length),oq,B2,sd,c7,eo,vZ]) (b ++ .b5 (eQ (gO.foldl (λf c=>mO f (rowsOf au c)) f)):: ot):=by
 induction gO with
 |nil=>exact λo=>⟨_,_,_,_,_,if_pos (sX dR)⟩
 |cons c cA aJ=>
  intro f bm bh cO c6 fh aZ
  have h:=aK c (.head _)
  have ba:(rowsOf au c).length<=25:=da (aeh aP c h.2 [[]]) (da (dI (Iu _)) (Iv (by decide) h.1))
  have ju:f2 ap au n (b ++ .b5 (eQ f):: bm++[.list (rows [[]])]):=aB.more.more
  refine k7 (afr (X:=X) (aq:=aq) (aF:=some (.loc b.length)) (bh:=some (row c)) (c6:=c6) (c7:=c7) (eo:=eo) (fh:=fh) aP c h.2 (N:=(b ++ .b5 (eQ f):: bm).length) (bc:=[[]]) ju (eM ..) ?_ ?_) λde Re ou a3 a4=>?_
  ·exact e2 (da (dI (Iu _)) (Iv (by decide) h.1)) (by decide)
  ·exact λr ba=>gu.mp ba▸e2 (dI (nD _)) (e2 h.1 (by decide))
  have af:b ++ .b5 (eQ f):: bm++[.list (rows [[]])]++ ou=b ++ .b5 (eQ f):: (bm++[.list (rows [[]])]++ ou):=by simp only[fF,Sf]
  rw[af] at a3 a4
  refine bz (aft (X:=X) (aj:=some (.loc n)) (aq:=aq) (bh:=some (row c)) (cO:=some (.loc de)) (c6:=Re) (c7:=c7) (eo:=eo) (g:=some (de,.list (rows (rowsOf au c)))) (λm=>here (af8 a4)) (rowsOf au c) (f:=f) (fh:=fh) ?_) λvZ cI=>?_
  ·exact cf [_,_,_,_] 1 (Ns (.add al ax)) aT 1 (Ns (.add al (.mulR (Ns cs) 25))) aT 1 ax (.num 25) rfl aZ ba
  have kg:(mO f (rowsOf au c)).length+cA.length*25<b8:=gl [_,_,_,_,_] 1 (Ns (.add al (.mulR ax 25))) aT 1 (Ns (.add cs (.mulR (Ns ax) 25))) aT 1 fA (.num 25) 1 al (.add cs fA) rfl aZ ba (TC f)
  obtain⟨oq,B2,sd,ah2,ot,e⟩:=aJ (λc h=>aK c (.tail _ h)) (f:=mO f (rowsOf au c)) (bm:=bm++[.list (rows [[]])]++ ou) (bh:=some (row c)) (cO:=some (.loc de)) (c6:=Re) (fh:=vZ) kg
  exact⟨oq,B2,sd,ah2,ot,(if_pos (sX dR)).trans (B (fl rfl (ST (B rfl rfl) (ST (rv (B rfl rfl) rfl a3) (ST (rv (rt rfl a4) rfl cI) rfl)))) e)⟩
end
section
variable{X:cS}{C bb:aI}{l av bm:St}{v:L}
theorem iu{e:bB}{r:ec}(h:aS X e C l=.ok v av):ff X (.cons (.ret e) r) C l=.ok (.ret v,C) av:=B (B h rfl) rfl
theorem hh{d aC:Nat}{f:aa}{dQ:ed}{args:List L}(aN:table.lookup f=some dQ)(aO:args.length=dQ.params)(h:ff ⟨bX table d,aC⟩ dQ.body (args.map some++ku (dQ.slots-dQ.params) none) l=.ok (.ret v,C) av):bX table (d+1) aC f args l=.ok v av:=
 fl aN ((if_pos aO).trans (B h rfl))
theorem Ed{e:bB}{m:List L}{g:Option (Nat×aQ)}(h:aS X e C l=.ok v l)(k:ob l v=some (m,g)):l1 X (.ex e) C l=.ok (m,g) l:=B h (congrArg (opt · l) k)
theorem sU{e:bB}(h:aS (X.up l.length) e C l=.ok v (av++bm))(aN:av.length=l.length)(ck:f0 v=true):aS X (.c5 e) C l=.ok v av:=
 (congrArg (ao.cut l.length) h).trans ((if_pos ck).trans (congrArg (ao.ok v) (aN▸SA)))
theorem jH{e:bB}(h:aS (X.up l.length) e C l=.ok v (l++bm))(ck:f0 v=true):aS X (.c5 e) C l=.ok v l:=
 (congrArg (ao.cut l.length) h).trans ((if_pos ck).trans (congrArg (ao.ok v) SA))
end
section
variable{ap:List I}{au:I->List I}{n:Nat}{b:St}{d aC:Nat}{g:Option (Nat×aQ)}{v:L}{gO S:List (List I)}
theorem G3(aP:∀b∈ap,(au b).length<=5)(aB:f2 ap au n b)(aR:∀bm,ob (b++bm) v=some (rows gO,g))(aN:jP g=true)(dR:gP b g=true)(aK:∀c∈gO,c.length<=2∧∀a∈c,a∈ap)(aZ:gO.length*25<b8):
 ∃bm,bX table (d+1) aC 610 [.loc n,v] b=.ok (.loc b.length) (b ++ .b5 (eQ (ei au gO)):: bm):=by
 obtain⟨oq,B2,sd,vZ,ot,e⟩:=afp (X:=⟨bX table d,aC⟩) (aq:=some v) (c7:=none) (eo:=none) aP aB dR gO aK (f:=[]) (bm:=[]) (bh:=none) (cO:=none) (c6:=none) (fh:=none) ((nD _).symm▸aZ)
 exact bk ot (hh rfl rfl (ST (B rfl rfl) (ST (rv (Ed rfl (aR [.b5 []])) aN e) (iu rfl))))
theorem Gs(m:List I):iY (m.map .str)=true:=by
 induction m with
 |nil=>rfl
 |cons x t aJ=>exact aJ
theorem abf{a:I}(m:List I):(m.map L.str).all (λy=>kS y (.str a))=true:=by
 induction m with
 |nil=>rfl
 |cons x t aJ=>exact aJ
theorem Ms{a:I}{m:List I}:Fs (.str a) (m.map .str)=some (decide (a∈m)):=by
 refine(if_pos (by rw[Gs,abf];rfl)).trans (congrArg some (decide_eq_decide.mpr ?_))
 rw[gY]
 exact⟨fun⟨x,aD,e⟩=>by cases e;exact aD,λh=>⟨a,h,rfl⟩⟩
theorem D'{x y:List I}{l:St}:h9 l (row x) (row y)=some (decide (x=y)):=by
 have ai:∀x:List I,na (row x)=true:=Gs
 have am:∀x y:List I,rO (x.map .str) (y.map .str)=true:=λx=>by
  induction x with
  |nil=>exact λy=>by cases y <;> rfl
  |cons a t aJ=>exact λy=>by cases y with |nil=>rfl |cons c u=>exact aJ u
 refine(if_pos (by rw[ai,ai,show kS (row x) (row y)=true from am x y];rfl)).trans (congrArg some (decide_eq_decide.mpr ⟨λe=>?_,λe=>e▸rfl⟩))
 exact G7 (by injection e)
noncomputable def tB(au:I->List I)(p:I×I):List L:=cond (!decide (p.1∈au p.2)) [.int 1] []
noncomputable def xT(au:I->List I)(x y:List I):List L:=(x.zip y).flatMap (tB au)
theorem zip_rows{x y:List I}(h:x.length=y.length)(am:x.length=1∨x.length=2):B6 (row x) (row y)=some ((x.zip y).map λp=>.tup [.str p.1,.str p.2],none):=by
 refine(if_pos ?_).trans (congrArg (λm=>some (m,none)) ?_)
 ·rw[dC,dC];exact⟨h,am⟩
 ·rw[List.zip_map,lO];rfl
theorem adC(m:List (I×I)):iY (m.flatMap (tB au))=true:=by
 induction m with
 |nil=>rfl
 |cons p t aJ=>
  refine(List.all_append (xs:=tB au p)).trans (gk.mpr ⟨?_,aJ⟩)
  unfold tB
  cases !decide (p.1∈au p.2)<;> rfl
theorem wU{α:Type}{c:Bool}{a:α}:(cond c [a] []).length<=1:=by cases c;exact iq 1;exact eN 1
theorem KR{α bq:Type}{f:α->List bq}(h:∀a,(f a).length<=1)(m:List α):(m.flatMap f).length<=m.length:=by
 induction m with
 |nil=>exact eN 0
 |cons a t aJ=>rw[ua,fN,ks,za];exact pO aJ (h a)
theorem x0(m:List (List I)):iY (rows m)=true:=by
 induction m with
 |nil=>rfl
 |cons r t aJ=>exact gk.mpr ⟨by induction r with |nil=>rfl |cons a u aJ=>exact aJ,aJ⟩
theorem w0{α bq:Type}(p:α->Bool)(f:α->bq)(m:List α):m.flatMap (λa=>cond (p a) [f a] [])=(m.filter p).map f:=by
 induction m with
 |nil=>rfl
 |cons a t aJ=>
  rw[ua,Sj,aJ]
  cases p a <;> rfl
theorem z5{l:St}{i j:Nat}{W:List L}(ai:l[i]? =some (.list W))(am:l[j]? =some (.list []))(aL:iY W=true):h9 l (.loc i) (.loc j)=some (decide (W=[])):=by
 show((l[i]?).bind λx=>(l[j]?).bind λy=>sQ x y)=_
 rw[ai,am]
 exact if_pos (by rw[aL];cases W <;> rfl)
theorem Mr{l:St}{a:I}{j:Nat}{m:List I}(h:l[j]? =some (.list (m.map .str))):o9 l (.str a) (.loc j)=some (decide (a∈m)):=(congrArg (λA=>A.bind (AN (.str a))) h).trans Ms
section
variable{X:cS}{C:aI}{l:St}
theorem rs{e5:aI->St->ao Bool}{ds:aI->St->ao L}{c:Bool}{a:L}(h:e5 C l=.ok c l)(k:c=true->ds C l=.ok a l):iS e5 ds C l=.ok (cond c [a] []) l:=B h (by
 cases c with
 |true=>exact(if_pos rfl).trans (B (k rfl) rfl)
 |false=>exact if_neg pC)
theorem I'{M G:bB}{dO d3:Bool}(ai:aS X M C l=.ok (.bool dO) l)(am:dO=true->aS X G C l=.ok (.bool d3) l):kJ X (.cons (.fm .And (.cons M (.cons G .nil))) .nil) C l=.ok (dO&&d3) l:=
 B (a:=.bool (dO&&d3)) (B ai (by
  cases dO with
  |true=>exact B (am rfl) (by cases d3 <;> rfl)
  |false=>rfl)) (by cases dO&&d3 <;> rfl)
theorem p6{p:Bool}{t:e3}{it:iH}{dK:dH}{bZ:bB}{m W:List L}{g:Option (Nat×aQ)}(h:l1 X it C l=.ok (m,g) l)(aL:(jP g||p)=true)(k:j9 (jn t (kb t.slots C) (iS (kJ X dK) (aS X bZ))) g m l=.ok W l)(aZ:W.length<b8):
 aS X (.comp p bZ t it dK) C l=.ok (.loc l.length) (l++[.list W]):=B (iG h ((if_neg (by rw[aL];exact pC)).trans k)) (if_pos aZ)
theorem DU{p:Bool}{t:e3}{it:iH}{dK:dH}{bZ:bB}{m W:List L}{g:Option (Nat×aQ)}{av:St}(h:l1 X it C l=.ok (m,g) l)(aL:(jP g||p)=true)(k:j9 (jn t (kb t.slots C) (iS (kJ X dK) (aS X bZ))) g m l=.ok W av)(aZ:W.length<b8):
 aS X (.comp p bZ t it dK) C l=.ok (.loc av.length) (av++[.list W]):=B (iG h ((if_neg (by rw[aL];exact pC)).trans k)) (if_pos aZ)
theorem acE{e:bB}{W:List L}(h:∀X:cS,aS X e C l=.ok (.loc l.length) (l++[.list W]))(aL:iY W=true):aS X (.c5 (.cmp .Eq e (.list .nil))) C l=.ok (.bool (decide (W=[]))) l:=
 jH (bm:=[.list W]++ [.list []]) (B (h _) (B rfl (by
  show opt ((h9 _ _ _).map _) _=_
  rw[z5 (W:=W) (es (eM ..)) (eM ..) aL,fF];rfl))) rfl
theorem NZ{e:bB}{N:Nat}{W:List L}(h:∀X:cS,aS X e C l=.ok (.loc N) l)(hm:l[N]? =some (.list W))(aL:iY W=true):aS X (.c5 (.cmp .Eq e (.list .nil))) C l=.ok (.bool (decide (W=[]))) l:=
 jH (bm:=[.list []]) (B (h _) (B rfl (by
  show opt ((h9 _ _ _).map _) _=_
  rw[z5 (W:=W) (es hm) (eM ..) aL];rfl))) rfl
theorem Us{aq aF c6 c7 eo fh:Option L}{r A:List I}(aB:f2 ap au n l)(az:∀a∈A,a∈ap)(h:r.length=A.length)(am:r.length=1∨r.length=2):
 aS X (.c5 (.cmp .Eq (.comp true (.const (.int 1)) (.many [5,6]) (.zip (.var 3) (.var 4)) (.cons (.cmp .NotIn (.var 5) (.idx (.var 0) (.var 6))) .nil)) (.list .nil))) [some (.loc n),aq,aF,some (row r),some (row A),c6,c7,eo,fh] l=.ok (.bool (decide (xT au r A=[]))) l:=by
 refine acE (λX=>p6 (B rfl (B rfl (congrArg (opt · l) (zip_rows h am)))) rfl (kG rfl (λp=>.tup [.str p.1,.str p.2]) (tB au) _ λp aL=>?_) ?_) (adC _)
 ·refine aU aB.cj λd hd q=>aU (q p.2 (az _ (Cw (a:=p.1) (b:=p.2) aL).2)) λj cy aN=>?_
  refine fl rfl (rs (B (B rfl (B (u3 (a:=.var 0) (i:=.var 6) rfl rfl hd cy) (congrArg (λA=>opt (A.map λr=>L.bool (!r)) l) (Mr aN)))) ?_) λo=>rfl)
  cases decide (p.1∈au p.2)<;> rfl
 ·exact e2 (KR (λp=>wU) _) (e2 (da (dI Ib) (CE ..)) (am.elim (λe=>e▸by decide) λe=>e▸by decide))
noncomputable def qP(au:I->List I)(r A:List I):Bool:= !decide (A=r)&& decide (xT au r A=[])
noncomputable abbrev QQ:bB:=.comp true (.var 4) (.one 4) (.ex (.var 1)) (.cons (.fm .And (.cons (.cmp .NotEq (.var 4) (.var 3)) (.cons (.c5 (.cmp .Eq (.comp true (.const (.int 1)) (.many [5,6]) (.zip (.var 3) (.var 4)) (.cons (.cmp .NotIn (.var 5) (.idx (.var 0) (.var 6))) .nil)) (.list .nil))) .nil))) .nil)
noncomputable abbrev I7:bB:=.bin .Add (.var 2) (.comp true (.var 3) (.one 8) (.range (.bi "int" (.c5 (.cmp .Eq (.var 7) (.list .nil))))) .nil)
theorem ahk{aF cO c6 c7 eo fh:Option L}{r:List I}(aB:f2 ap au n l)(aR:ob l v=some (rows S,g))(dR:gP l g=true)(fv:∀A∈S,r.length=A.length∧∀a∈A,a∈ap)(am:r.length=1∨r.length=2)(aZ:S.length<b8):
 aS X QQ [some (.loc n),some v,aF,some (row r),cO,c6,c7,eo,fh] l=.ok (.loc l.length) (l++[.list (rows (S.filter (qP au r)))]):=by
 refine p6 (Ed rfl aR) (pE _) ((kG dR row (λA=>cond (qP au r A) [row A] []) S λA az=>?_).trans (congrArg (ao.ok · l) (w0 ..))) ?_
 ·exact fl rfl (rs (I' (B rfl (B rfl (congrArg (λA=>opt (A.map λr=>L.bool (!r)) l) D'))) λo=>Us aB (fv A az).2 (fv A az).1 am) λo=>rfl)
 ·exact e2 (da (dI (dC ..)) (sr ..)) aZ
theorem Uv{c:Bool}:hA l ("int":I) (.bool c)=some (.int (cond c 1 0),l):=rfl
theorem ad4{c:Bool}:x7 (.int (cond c 1 0))=some (cond c [.int 0] [],none):=by cases c <;> rfl
theorem qv{N:Nat}{m:List L}(h:l[N]? =some (.list m)):h5 l (.loc N)=some m:=by
 show(match l[N]? with |some (.list m)=>some m |_=>none)=_
 rw[h]
theorem add_lists{N k:Nat}{m gS:List L}(h:l[N]? =some (.list m))(ae:l[k]? =some (.list gS))(aZ:m.length+gS.length<b8):zy l (.loc N) (.loc k)=some (.loc l.length,l++[.list (m++gS)]):=by
 show((h5 l (.loc N)).bind λx=>(h5 l (.loc k)).bind λy=>if x.length+y.length<b8 then some (kW l (.list (x++y))) else none)=_
 rw[qv h,qv ae]
 exact if_pos aZ
theorem TG{aq cO c6 c7 fh:Option L}{aj:Option L}{N k:Nat}{bc F:List (List I)}{r:List I}(hm:l[N]? =some (.list (rows bc)))(aM:l[k]? =some (.list (rows F)))(aZ:bc.length+1<b8):
 ∃bm,aS X I7 [aj,aq,some (.loc N),some (row r),cO,c6,c7,some (.loc k),fh] l=.ok (.loc (l++bm).length) (l++bm++[.list (rows (bc++cond (decide (F=[])) [r] []))]):=by
 rw[show decide (F=[])=decide (rows F=[]) from decide_eq_decide.mpr wm.symm]
 refine bk [.list (cond (decide (rows F=[])) [row r] [])] (B rfl (B (p6 (B (B (NZ (λX=>rfl) aM (x0 F)) (congrArg eC Uv)) (congrArg (opt · l) ad4)) rfl (W:=cond (decide (rows F=[])) [row r] []) ?_ ?_) ?_))
 ·cases decide (rows F=[])<;> rfl
 ·exact e2 wU (by decide)
 ·refine(congrArg eC (add_lists (es hm) (eM ..) ?_)).trans ?_
  ·exact e2 (pO (dI (dC ..)) wU) aZ
  ·unfold rows;rw[oH];cases decide (Ic row F=[])<;> rfl
noncomputable abbrev ahj:ec:=.cons (.assign 7 QQ) (.cons (.assign 2 I7) .nil)
theorem X2{α:Type}{p:α->Bool}{r:α}{R bc:List α}:bc++cond (p r) [r] []++ R.filter p=bc++(r::R).filter p:=by
 rw[fF,Sj]
 cases p r <;> rfl
theorem ahn{X:cS}{b:St}{cO c6 c7 fh:Option L}{Eu:Option (Nat×aQ)}(aB:f2 ap au n b)(aR:∀bm,ob (b++bm) v=some (rows S,g))(dR:gP b g=true)(gB:gP b Eu=true)(fv:∀A∈S,∀a∈A,a∈ap){len:Nat}(sZ:∀A∈S,A.length=len)(am:len=1∨len=2)(aZ:S.length<b8)
 (R:List (List I)) (Ll:∀r∈R,r∈S):∀{N:Nat}{bh eo:Option L}{bm:St}{bc:List (List I)},(b++bm)[N]? =some (.list (rows bc))->bc.length+R.length<b8->
 ∃de oq B4 ot,jG (kK (.one 3) (ff X ahj)) Eu (rows R) [some (.loc n),some v,some (.loc N),bh,cO,c6,c7,eo,fh] (b++bm)=.ok (.next,[some (.loc n),some v,some (.loc de),oq,cO,c6,c7,B4,fh]) (b++ot)
  ∧(b++ot)[de]? =some (.list (rows (bc++R.filter λr=>decide (S.filter (qP au r)=[])))):=by
 induction R with
 |nil=>exact λhm o=>⟨_,_,_,_,if_pos (sX gB),by rw[List.filter_nil,iK];exact hm⟩
 |cons r R aJ=>
  intro N bh eo bm bc hm kg
  have ba:=Ll r (.head _)
  have w:=ahk (X:=X) (aF:=some (.loc N)) (cO:=cO) (c6:=c6) (c7:=c7) (eo:=eo) (fh:=fh) (r:=r) (aB.more (bm:=bm)) (aR bm) (sX dR) (λA az=>⟨(sZ r ba).trans (sZ A az).symm,fv A az⟩) ((sZ r ba).symm▸am) aZ
  refine bz (TG (X:=X) (l:=b++bm++[.list (rows (S.filter (qP au r)))]) (aj:=some (.loc n)) (aq:=some v) (cO:=cO) (c6:=c6) (c7:=c7) (fh:=fh) (bc:=bc) (F:=S.filter (qP au r)) (r:=r) (es hm) (eM ..) (e2 (Nat.add_le_add_left (Iy (iq _)) _) kg)) λou a=>?_
  have af:∀W V:St,b++bm++W++ou++V=b++(bm++W++ou++V):=λW V=>by simp only[fF]
  rw[af] at a
  obtain⟨de,oq,B4,ot,a3,a4⟩:=aJ (λr h=>Ll r (.tail _ h)) (N:=_) (bh:=some (row r)) (eo:=some (.loc (b++bm).length)) (bc:=bc++cond (decide (S.filter (qP au r)=[])) [r] []) (af _ _▸eM ..) (by
   rw[fN];exact cf [_,_,_,_] 1 (Ns (.add (.add al ax) aT)) cs 1 (Ns (.add al (Ns aT))) cs 1 ax ek rfl kg wU)
  exact⟨de,oq,B4,ot,(if_pos (sX gB)).trans (B (fl rfl (ST (B w rfl) (ST (B a rfl) rfl))) a3),X2 (p:=λr=>decide (S.filter (qP au r)=[]))▸a4⟩
end
theorem MC(m:List (List I)):tg (rows m)=some m:=by
 have h:∀r:List I,kQ (r.map .str)=some r:=λr=>by
  induction r with
  |nil=>rfl
  |cons a t aJ=>exact(congrArg (λA=>A.map (a :: ·)) aJ)
 induction m with
 |nil=>rfl
 |cons r t aJ=>
  show((kQ (r.map .str)).bind λx=>(tg (rows t)).map (x :: ·))=_
  rw[h,aJ];rfl
theorem G2(aZ:S.length<=63)(d5:∀r∈S,r≠[]):nd (rows S)=some (rows (eE e0 S)):=by
 have h:S.all (λr=> !r.isEmpty)=true:=i8.mpr λr ba=>by cases r with |nil=>exact absurd rfl (d5 _ ba)| cons=>rfl
 cases S with
 |nil=>rfl
 |cons r t=>
  unfold nd
  rw[if_neg (lQ.mpr (dC (as:=r::t) row▸aZ)),show kQ (rows (r::t))=none from rfl,MC]
  exact if_pos h
theorem Du{l:St}{a:L}:hA l ("sorted":I) a=(dm l a).bind λp=>(nd p.1).map λr=>kW l (.list r):=rfl
theorem Uy{l:St}{a:L}:hA l ("tuple":I) a=(dm l a).bind λp=>if jP p.2 then some (.tup p.1,l) else none:=rfl
theorem yu{l:St}{N:Nat}{m:List L}(h:l[N]? =some (.list m)):hA l ("tuple":I) (.loc N)=some (.tup m,l):=by rw[Uy,AQ h];rfl
noncomputable def lG(au:I->List I)(S:List (List I)):List (List I):=(eE e0 S).filter λr=>decide (S.filter (qP au r)=[])
theorem QS(aB:f2 ap au n b)(aR:∀bm,dm (b++bm) v=some (rows S,g))(ck:∀l,ob l v=dm l v)(dR:gP b g=true)(fv:∀A∈S,∀a∈A,a∈ap){len:Nat}(sZ:∀A∈S,A.length=len)(am:len=1∨len=2)(aZ:S.length<=63):
 ∃bm,bX table (d+1) aC 615 [.loc n,v] b=.ok (.tup (rows (lG au S))) (b++bm):=by
 have d5:∀r∈S,r≠[]:=λr ba e=>am.elim (λh=>by cases (congrArg kr e).symm.trans ((sZ r ba).trans h)) λh=>by cases (congrArg kr e).symm.trans ((sZ r ba).trans h)
 have ag:S.length<b8:=e2 aZ (by decide)
 have af:∀o V bm:St,b++o++V++bm=b++(o++V++bm):=λo V bm=>by simp only[fF]
 obtain⟨de,oq,B4,ot,a3,a4⟩:=ahn (X:=⟨bX table d,aC⟩) (b:=b++[aQ.list []]++ [aQ.list (rows (eE e0 S))]) (cO:=none) (c6:=none) (c7:=none) (fh:=none) (Eu:=some ((b++[aQ.list []]).length,.list (rows (eE e0 S)))) aB.more.more (λbm=>(ck _).trans ((congrArg (dm · v) (af [.list []] [.list (rows (eE e0 S))] bm)).trans (aR _))) (sX (sX dR)) (here (eM ..)) fv sZ am ag (eE e0 S) (λr ba=>(i0 S).mem_iff.mp ba)
  (N:=b.length) (bh:=none) (eo:=none) (bm:=[]) (bc:=[]) (by rw[iK];exact es (eM ..)) (by rw[(i0 S).length_eq];exact(nD _).symm▸ag)
 rw[iK] at a3
 rw[af] at a3 a4
 have b0:hA (b++[.list []]) ("sorted":I) v=some (kW (b++[.list []]) (.list (rows (eE e0 S)))):=by rw[Du,aR,IC,G2 aZ d5];rfl
 exact bk _ (hh rfl rfl (ST (B rfl rfl) (ST (rv (rt (B rfl (congrArg eC b0)) (eM ..)) rfl a3) (iu (B rfl (congrArg eC (yu a4)))))))
end
section
variable{l:St}{k N:Nat}{f M Q:List (List I)}
theorem af9(f:List (List I)):(eQ f).map (λp=>L.tup p.1)=rows f:=lO
theorem FD(h:l[k]? =some (.b5 (eQ f))):dm l (.loc k)=some (rows f,some (k,.b5 (eQ f))):=by rw[dm,h,<-af9]
theorem Mt{r:List I}(h:l[k]? =some (.b5 (eQ f))):o9 l (row r) (.loc k)=some (decide (r∈f)):=
 (congrArg (λA=>A.bind (AN (row r))) h).trans ((if_pos (Pn r)).trans (congrArg some (decide_eq_decide.mpr (by
  rw[eQ,lO,gY]
  exact⟨fun⟨x,aD,e⟩=>G7 e▸aD,λh=>⟨r,h,rfl⟩⟩))))
theorem Ks(ai:l[k]? =some (.b5 (eQ f)))(am:l[N]? =some (.b5 [])):h9 l (.loc k) (.loc N)=some (decide (f=[])):=by
 show((l[k]?).bind λx=>(l[N]?).bind λy=>sQ x y)=_
 rw[ai,am]
 show some (decide (eQ f=[]))=_
 exact congrArg some (decide_eq_decide.mpr wm)
variable{X:cS}{C:aI}
theorem Qq{e:bB}(h:∀X:cS,aS X e C l=.ok (.loc k) l)(aM:l[k]? =some (.b5 (eQ f))):aS X (.c5 (.cmp .Eq e .hX)) C l=.ok (.bool (decide (f=[]))) l:=
 jH (bm:=[.b5 []]) (B (h _) (B rfl (congrArg (λA=>opt (A.map L.bool) (l++[aQ.b5 []])) (Ks (es aM) (eM ..))))) rfl
theorem Qr{e:bB}(h:∀X:cS,aS X e C l=.ok (.loc k) l)(aM:l[k]? =some (.b5 (eQ f))):aS X (.c5 (.cmp .NotEq e .hX)) C l=.ok (.bool (!decide (f=[]))) l:=
 jH (bm:=[.b5 []]) (B (h _) (B rfl (congrArg (λA=>opt (A.map λr=>L.bool (!r)) (l++[aQ.b5 []])) (Ks (es aM) (eM ..))))) rfl
theorem Mp{c:Bool}{p:Bool}{i a j7:Nat}{op:nu}(s':∀r,wT l op (row r) (.loc N)=some (.bool (cond c (!decide (r∈Q)) (decide (r∈Q)))))(e:aS X (.var a) C l=.ok (.loc k) l)(cX:l[k]? =some (.b5 (eQ M)))(aR:∀v,aS X (.var i) ((C.set i none).set i (some v)) l=.ok v l)(ag:∀v,aS X (.var j7) ((C.set i none).set i (some v)) l=.ok (.loc N) l)(aZ:M.length<b8):
 aS X (.comp true (.var i) (.one i) (.ex (.var a)) (.cons (.cmp op (.var i) (.var j7)) .nil)) C l=.ok (.loc l.length) (l++[.list (rows (M.filter λr=>cond c (!decide (r∈Q)) (decide (r∈Q))))]):=by
 refine p6 (Ed e (FD cX)) (pE _) ((kG (here cX) row (λr=>cond (cond c (!decide (r∈Q)) (decide (r∈Q))) [row r] []) M λr ba=>?_).trans (congrArg (ao.ok · l) (w0 ..))) ?_
 ·exact fl rfl (rs (B (B (aR _) (B (ag _) (congrArg (opt · l) (s' r)))) (by cases cond c (!decide (r∈Q)) (decide (r∈Q))<;> rfl)) λo=>aR _)
 ·exact e2 (da (dI (dC ..)) (sr ..)) aZ
end
inductive bY where
 |truth
 |number
 |set (two:Bool) (gO:List (List I))
noncomputable def lh(two:Bool):Int:=cond two 2 1
noncomputable def bY.bJ:bY->L
 |.truth=>.tup [.str "truth"]
 |.number=>.tup [.str "number"]
 |.set t c=>.tup [.str "set",.int (lh t),.tup (rows c)]
def dr(ap:List I)(two:Bool)(m:List (List I)):Prop:=∀c∈m,c.length=cond two 2 1∧∀a∈c,a∈ap
inductive gx where
 |plus |minus |meet |pp
noncomputable def gx.str:gx->I
 |.plus=>"+" |.minus=>"-" |.meet=>"&" |.pp=>"++"
section
variable{ap:List I}{au:I->List I}
noncomputable def hB(au:I->List I)(X fY:List (List I)):List (List I):=(ei au X).filter λr=>decide (r∈ei au fY)
noncomputable def rq(au:I->List I)(X fY:List (List I)):List (List I):=ei au X++(ei au fY).filter λr=> !decide (r∈ei au X)
noncomputable def rT(au:I->List I)(X fY:List (List I)):Bool:=decide (hB au X fY=[])&& (!decide (ei au X=[])&& !decide (ei au fY=[]))
noncomputable def yp(t u:Bool)(s:gx)(X cw aA:List (List I))(d9 eb qz:Bool):Option (bY×I):=match t==u,s with
 |false,_=>none
 |true,.meet=>some (.set t cw,cond d9 "this is surely empty" "")
 |true,.minus=>some (.set t X,cond eb "nothing is taken off" "")
 |true,s=>match t,s with
  |false,.pp=>none
  |t,s=>some (.set t aA,cond qz (s.str ++ ": one side is surely empty") "")
noncomputable def p'(au:I->List I)(s:gx):bY->bY->Option (bY×I)
 |.set t X,.set u fY=>yp t u s X (lG au (hB au X fY)) (lG au (rq au X fY)) (rT au X fY) (rT au X fY) (decide (ei au X=[])!=decide (ei au fY=[]))
 |_,_=>none
noncomputable def qa:Option (bY×I)->L
 |none=>.none
 |some (k,t)=>.tup [k.bJ,.str t]
end
theorem acJ{α:Type} [DecidableEq α]{m:List α}:∀{o:List α},m.Nodup->(∀x∈m,x∈o)->m.length<=o.length:=by
 induction m with
 |nil=>exact λo o=>iq _
 |cons x r aJ=>
  intro o h s
  have h:=mC.mp h
  have aD:=s x (.head _)
  have i:=aJ (o:=o.erase x) h.2 λy bD=>(List.mem_erase_of_ne (λe=>h.1 (by rw[<-e];exact bD))).mpr (s y (.tail _ bD))
  rw[List.length_erase_of_mem aD] at i
  exact da (Iy i) (dI (Nat.succ_pred_eq_of_pos (List.length_pos_of_mem aD)))
noncomputable def QM(ap:List I)(two:Bool):List (List I):=cond two (ap.flatMap λa=>ap.map λb=>[a,b]) (ap.map λa=>[a])
theorem ag1{ap:List I}{two:Bool}(h:ap.length<=5):(QM ap two).length<=25:=by
 have ai:∀cw:List I,(cw.flatMap λa=>ap.map λb=>[a,b]).length=cw.length*ap.length:=λcw=>by
  induction cw with
  |nil=>exact(CH _).symm
  |cons a t aJ=>rw[ua,fN,aJ,dC,ks,SY,za]
 cases two with
 |true=>exact ai ap▸SQ h h
 |false=>exact dC (as:=ap) _▸da h (by decide)
theorem ag2{ap:List I}{two:Bool}{r:List I}(h:r.length=cond two 2 1)(k:∀a∈r,a∈ap):r∈QM ap two:=by
 cases two with
 |true=>
  match r,h with
  |[a,b],_=>exact q4.mpr ⟨a,k a (.head _),gY.mpr ⟨b,k b (.tail _ (.head _)),rfl⟩⟩
 |false=>
  match r,h with
  |[a],_=>exact gY.mpr ⟨a,k a (.head _),rfl⟩
noncomputable def dn(au:I->List I)(a b:I):Bool:=decide (a∈au b)
structure gX(ap:List I)(au:I->List I):Prop where
 ord:hI ap (dn au)
 mem:∀b∈ap,∀a∈au b,a∈ap
 En:ap.length<=5
 FL:∀b∈ap,(au b).length<=5
section
variable{ap:List I}{au:I->List I}{two:Bool}{M Q:List (List I)}
theorem gX.aN(F:gX ap au):∀b∈ap,∀a,a∈au b↔a∈ap∧dn au a b=true:=λb ag a=>⟨λh=>⟨F.mem b ag a h,decide_eq_true h⟩,λh=>of_decide_eq_true h.2⟩
theorem dr.rows(h:dr ap two M):nH ap (cond two 2 1) M:=h
theorem qJ:(ei au M).Nodup:=PZ (f:=[]) .nil
theorem om(F:gX ap au)(h:dr ap two M):dr ap two (ei au M):=afo F.aN h
theorem ol(F:gX ap au)(h:dr ap two M){x:List I}:x∈ei au M↔(∀a∈x,a∈ap)∧∃c∈M,eD (dn au) x c=true:=PY F.aN h
theorem vD(F:gX ap au)(h:dr ap two M)(n:M.Nodup):M.length<=25:=da (acJ n λx aD=>ag2 (h x aD).1 (h x aD).2) (ag1 F.En)
theorem Jw:(hB au M Q).Nodup:=Co Cr qJ
theorem both_rows(F:gX ap au)(h:dr ap two M):dr ap two (hB au M Q):=λr ba=>om F h r (q3.mp ba).1
theorem Kk:(rq au M Q).Nodup:=
 y9.mpr ⟨qJ,Co Cr qJ,λa ar b ag e=>by
  have q:=(q3.mp ag).2
  rw[<-e,decide_eq_true ar] at q
  cases q⟩
theorem D7(F:gX ap au)(h:dr ap two M)(k:dr ap two Q):dr ap two (rq au M Q):=λr ba=>(ip.mp ba).elim (om F h r) λq=>om F k r (q3.mp q).1
theorem ac1:∀{x y:List I},x.length=y.length->(xT au x y=[]↔eD (dn au) x y=true):=fun{x}=>by
 induction x with
 |nil=>exact fun{y}h=>by cases y with |nil=>exact⟨λo=>rfl,λo=>rfl⟩| cons=>cases h
 |cons a r aJ=>
  exact fun{y}h=>by
   cases y with
   |nil=>cases h
   |cons c t=>
    have i:=aJ (y:=t) (zf h)
    show tB au (a,c)++ xT au r t=[]↔(dn au a c&&eD (dn au) r t)=true
    rw[List.append_eq_nil_iff,gk,i]
    unfold tB dn
    cases decide (a∈au c) with
    |true=>exact⟨λh=>⟨rfl,h.2⟩,λh=>⟨rfl,h.2⟩⟩
    |false=>exact⟨λh=>(by cases h.1),λh=>(by cases h.1)⟩
theorem Hm{S:List (List I)}(h:dr ap two S)(n:S.Nodup):lG au S=jR (dn au) S:=by
 rw[<-ahl n]
 refine y2 λr ba=>?_
 have Z4:=(i0 S).mem_iff.mp ba
 refine congrArg (λm:List (List I)=>decide (m=[])) (y2 λA az=>?_)
 unfold qP
 rw[show decide (xT au r A=[])=eD (dn au) r A from yO.mpr (decide_eq_true_iff.trans (ac1 ((h r Z4).1.trans (h A az).1.symm)))]
 refine congrArg (· && _) ?_
 by_cases q:A=r
 ·rw[decide_eq_true q,decide_eq_false λz=>z q];rfl
 ·rw[decide_eq_false q,decide_eq_true q];rfl
end
section
variable{X:cS}{t:bB}{a e r:ec}{C:aI}{l av:St}{R:ao (dg×aI)}
theorem AK(h:aS X t C l=.ok (.bool true) av)(k:ff X a C av=R):gz X (.iff t a e) C l=R:=B h k
theorem AJ(h:aS X t C l=.ok (.bool false) av)(k:ff X e C av=R):gz X (.iff t a e) C l=R:=B h k
theorem t7{c:bB}{v:L}{a2:St}(h:aS X t C l=.ok (.bool true) av)(k:aS X c C av=.ok v a2):ff X (.cons (.iff t (.cons (.ret c) .nil) e) r) C l=.ok (.ret v,C) a2:=B (AK h (iu k)) rfl
theorem i6(h:aS X t C l=.ok (.bool false) av)(k:ff X r C av=R):ff X (.cons (.iff t a .nil) r) C l=R:=ST (AJ h rfl) k
theorem eW:fn X .nil C l=.ok [] l:=rfl
theorem b9{e:bB}{r:dH}{v:L}{T:List L}{a2:St}(h:aS X e C l=.ok v av)(k:fn X r C av=.ok T a2):fn X (.cons e r) C l=.ok (v::T) a2:=B h (B k rfl)
theorem yw{is:List Nat}{af:dH}{T:List L}(h:fn X af C l=.ok T av){bb:aI}(k:ht is T C=some bb):gz X (.jV is af) C l=.ok (.next,bb) av:=B h (fl k rfl)
theorem mq{af:dH}{T:List L}(h:fn X af C l=.ok T av):aS X (.tuple af) C l=.ok (.tup T) av:=B h rfl
theorem jA{f:aa}{as:dH}{Y:List L}{x:I}{v:L}(h:fn X as C l=.ok Y av){a2:St}(k:X.bp X.aC f Y av=.ok v a2):aS X (.call x f as) C l=.ok v a2:=B h k
end
theorem qA(m:List (List I)):f0 (.tup (rows m))=true:=by
 induction m with
 |nil=>rfl
 |cons r t aJ=>
  refine gk.mpr ⟨?_,aJ⟩
  show xR (r.map .str)=true
  induction r with
  |nil=>rfl
  |cons a u aJ=>exact aJ
section
variable{ap:List I}{au:I->List I}{n:Nat}{b:St}{d aC:Nat}{M Q:List (List I)}
theorem WD{s k:L}:bX table (d+1) aC 625 [.loc n,s,bY.bJ .truth,k] b=.ok .none b:=by kernel_rfl
theorem WE{s k:L}:bX table (d+1) aC 625 [.loc n,s,bY.bJ .number,k] b=.ok .none b:=by kernel_rfl
theorem WF{s:L}{t:Bool}:bX table (d+1) aC 625 [.loc n,s,bY.bJ (.set t M),bY.bJ .truth] b=.ok .none b:=by kernel_rfl
theorem WG{s:L}{t:Bool}:bX table (d+1) aC 625 [.loc n,s,bY.bJ (.set t M),bY.bJ .number] b=.ok .none b:=by kernel_rfl
theorem WH{s:L}:bX table (d+1) aC 625 [.loc n,s,bY.bJ (.set true M),bY.bJ (.set false Q)] b=.ok .none b:=by kernel_rfl
theorem WI{s:L}:bX table (d+1) aC 625 [.loc n,s,bY.bJ (.set false M),bY.bJ (.set true Q)] b=.ok .none b:=by kernel_rfl
theorem WJ:bX table (d+1) aC 625 [.loc n,.str gx.pp.str,bY.bJ (.set false M),bY.bJ (.set false Q)] b=.ok .none b:=by kernel_rfl
theorem D6{X:cS}{t:Bool}{s:gx}{cO c6 c7 eo fh pz:Option L}(h:∀p,p=(t,s)->p≠(false,gx.pp)):
 aS X (.fm .Or (.cons (.cmp .NotEq (.idx (.var 2) (.const (.int 0))) (.const (.str "set"))) (.cons (.cmp .NotEq (.idx (.var 3) (.const (.int 0))) (.const (.str "set"))) (.cons (.cmp .NotEq (.idx (.var 2) (.const (.int 1))) (.idx (.var 3) (.const (.int 1)))) (.cons (.fm .And (.cons (.cmp .Eq (.var 1) (.const (.str "++"))) (.cons (.cmp .Eq (.idx (.var 2) (.const (.int 1))) (.const (.int 1))) .nil))) .nil)))))
  [some (.loc n),some (.str s.str),some (bY.bJ (.set t M)),some (bY.bJ (.set t Q)),cO,c6,c7,eo,fh,pz] b=.ok (.bool false) b:=by
 cases t with
 |true=>cases s <;> kernel_rfl
 |false=>cases s with
  |pp=>exact absurd rfl (h _ rfl)
  |_=>kernel_rfl
noncomputable abbrev Bv(i:Nat):bB:=.call "_law_spread" 610 (.cons (.var 0) (.cons (.idx (.var i) (.const (.int 2))) .nil))
theorem WK{t:Bool}{aq cO c6 c7 eo fh pz:Option L}(F:gX ap au)(aB:f2 ap au n b)(cX:dr ap t M)(cB:dr ap t Q)(kT:M.length<=25)(kU:Q.length<=25):∃bm cF cz,
 fn ⟨bX table (d+1),aC⟩ (.cons (Bv 2) (.cons (Bv 3) .nil)) [some (.loc n),aq,some (bY.bJ (.set t M)),some (bY.bJ (.set t Q)),cO,c6,c7,eo,fh,pz] b=.ok [.loc cF,.loc cz] (b++bm)∧(b++bm)[cF]? =some (.b5 (eQ (ei au M)))∧(b++bm)[cz]? =some (.b5 (eQ (ei au Q))):=by
 have two:∀{M:List (List I)},dr ap t M->∀c∈M,c.length<=2∧∀a∈c,a∈ap:=λh c aK=>⟨by rw[(h c aK).1];cases t <;> decide,(h c aK).2⟩
 have ih:∀{m:Nat},m<=25->m*25<b8:=λh=>e2 (ze 25 h) (by decide)
 refine bz (G3 (d:=d) (aC:=aC) (v:=.tup (rows M)) (g:=none) F.FL aB (λbm=>rfl) rfl rfl (two cX) (ih kT)) λou a3=>?_
 refine bz (G3 (d:=d) (aC:=aC) (b:=b ++ .b5 (eQ (ei au M)):: ou) (v:=.tup (rows Q)) (g:=none) F.FL aB.more (λbm=>rfl) rfl rfl (two cB) (ih kU)) λaj5 a4=>?_
 have ai:fn ⟨bX table (d+1),aC⟩ (.cons (.var 0) (.cons (.idx (.var 2) (.const (.int 2))) .nil)) [some (.loc n),aq,some (bY.bJ (.set t M)),some (bY.bJ (.set t Q)),cO,c6,c7,eo,fh,pz] b=.ok [.loc n,.tup (rows M)] b:=by kernel_rfl
 have am:∀l,fn ⟨bX table (d+1),aC⟩ (.cons (.var 0) (.cons (.idx (.var 3) (.const (.int 2))) .nil)) [some (.loc n),aq,some (bY.bJ (.set t M)),some (bY.bJ (.set t Q)),cO,c6,c7,eo,fh,pz] l=.ok [.loc n,.tup (rows Q)] l:=λl=>by kernel_rfl
 exact⟨.b5 (eQ (ei au M)):: ou ++ .b5 (eQ (ei au Q)):: aj5,_,_,(b9 (jA ai a3) (b9 (jA (am _) a4) eW)).trans (congrArg (ao.ok _) (fF ..)),fF ..▸es qe,fF ..▸qe⟩
end
section
variable{X:cS}{C:aI}{l:St}
theorem sF{a b c:bB}{x y z:Bool}(ai:aS X a C l=.ok (.bool x) l)(am:aS X b C l=.ok (.bool y) l)(a6:aS X c C l=.ok (.bool z) l):aS X (.fm .And (.cons a (.cons b (.cons c .nil)))) C l=.ok (.bool (x&&(y&&z))) l:=B ai (by
 cases x with
 |false=>rfl
 |true=>exact B am (by
  cases y with
  |false=>rfl
  |true=>exact B a6 (by cases z <;> rfl)))
theorem Fq{t a b:bB}{c:Bool}{u v:I}(h:aS X t C l=.ok (.bool c) l)(ar:aS X a C l=.ok (.str u) l)(ag:aS X b C l=.ok (.str v) l):aS X (.ji t a b) C l=.ok (.str (cond c u v)) l:=B h (by cases c;exact ag;exact ar)
variable{ap:List I}{au:I->List I}{n d aC:Nat}{t:Bool}{S M Q:List (List I)}
theorem MV{i N:Nat}(F:gX ap au)(aB:f2 ap au n l)(fv:dr ap t S)(aO:S.Nodup)(bQ:∀X:cS,aS X (.var 0) C l=.ok (.loc n) l)(am:aS ⟨bX table (d+1),aC⟩ (.idx (.var 2) (.const (.int 1))) C l=.ok (.int (lh t)) l)(aR:∀X:cS,aS X (.var i) C l=.ok (.loc N) l)(hm:l[N]? =some (.list (rows S))):
 aS ⟨bX table (d+1),aC⟩ (.tuple (.cons (.const (.str "set")) (.cons (.idx (.var 2) (.const (.int 1))) (.cons (.c5 (.call "_law_widest" 615 (.cons (.var 0) (.cons (.var i) .nil)))) .nil)))) C l=.ok (bY.bJ (.set t (lG au S))) l:=by
 refine bz (QS (d:=d) (aC:=l.length) (v:=.loc N) aB (λbm=>AQ (es hm)) (λl=>rfl) (here hm) (λA az=>(fv A az).2) (λA az=>(fv A az).1) (by cases t;exact .inl rfl;exact .inr rfl) (da (vD F fv aO) (by decide))) λbm e=>?_
 exact mq (b9 rfl (b9 am (b9 (jH (jA (b9 (bQ _) (b9 (aR _) eW)) e) (qA _)) eW)))
end
noncomputable def q2(ap:List I):bY->Prop
 |.set t c=>dr ap t c∧c.length<=2
 |_=>True
section
variable{ap:List I}{au:I->List I}{n:Nat}{b:St}{d aC:Nat}{M Q:List (List I)}
theorem ne_bool{X:cS}{u v:bB}{C:aI}{l:St}{x y:Bool}(h:aS X u C l=.ok (.bool x) l)(k:aS X v C l=.ok (.bool y) l):aS X (.cmp .NotEq u v) C l=.ok (.bool (x !=y)) l:=B h (B k (by cases x <;> cases y <;> kernel_rfl))
theorem alE{c:Bool}{x y:I}:L.str (cond c x y)=cond c (.str x) (.str y):=by cases c <;> rfl
noncomputable abbrev TZ:mu:=.assign 7 (.comp true (.var 6) (.one 6) (.ex (.var 4)) (.cons (.cmp .In (.var 6) (.var 5)) .nil))
theorem Ux{l:St}{k:Nat}{M:List (List I)}(h:l[k]? =some (.b5 (eQ M))):hA l ("list":I) (.loc k)=some (.loc l.length,l++[.list (rows M)]):=(show hA l ("list":I) (.loc k)=(dm l (.loc k)).map λp=>kW l (.list p.1) from rfl).trans (by rw[FD h];rfl)
theorem Ki{t:Bool}{s:gx}{bm:St}{cF cz:Nat}(d5:∀p,p=(t,s)->p≠(false,gx.pp))(F:gX ap au)(aB:f2 ap au n b)(cX:dr ap t M)(cB:dr ap t Q)
 (a3:fn ⟨bX table (d+1),aC⟩ (.cons (Bv 2) (.cons (Bv 3) .nil)) [some (.loc n),some (.str s.str),some (bY.bJ (.set t M)),some (bY.bJ (.set t Q)),none,none,none,none,none,none] b=.ok [.loc cF,.loc cz] (b++bm)) (g1:(b++bm)[cF]? =some (.b5 (eQ (ei au M)))) (g2:(b++bm)[cz]? =some (.b5 (eQ (ei au Q))))
 (bS:gz ⟨bX table (d+1),aC⟩ TZ [some (.loc n),some (.str s.str),some (bY.bJ (.set t M)),some (bY.bJ (.set t Q)),some (.loc cF),some (.loc cz),none,none,none,none] (b++bm)=.ok (.next,[some (.loc n),some (.str s.str),some (bY.bJ (.set t M)),some (bY.bJ (.set t Q)),some (.loc cF),some (.loc cz),none,some (.loc (b++bm).length),none,none]) (b++bm++[.list (rows (hB au M Q))]))
 (hd:p' au s (.set t M) (.set t Q)=some (bY.set t (lG au (rq au M Q)),cond (decide (ei au M=[])!=decide (ei au Q=[])) (s.str ++ ": one side is surely empty") ""))
 (b0:∀{X:cS}{C:aI}{l:St},aS X (.cmp .Eq (.const (.str s.str)) (.const (.str "&"))) C l=.ok (.bool false) l) (bO:∀{X:cS}{C:aI}{l:St},aS X (.cmp .Eq (.const (.str s.str)) (.const (.str "-"))) C l=.ok (.bool false) l)
 (eJ:∀{X:cS}{C:aI}{l:St},aS X (.bin .Add (.const (.str s.str)) (.const (.str ": one side is surely empty"))) C l=.ok (.str (s.str ++ ": one side is surely empty")) l):
 ∃bm,bX table (d+2) aC 625 [.loc n,.str s.str,bY.bJ (.set t M),bY.bJ (.set t Q)] b=.ok (qa (p' au s (.set t M) (.set t Q))) (b++bm):=by
 rw[hd]
 have Dt:∀{M:List (List I)},dr ap t M->(ei au M).length<b8:=λh=>e2 (vD F (om F h) qJ) (by decide)
 have yS:(b++bm++[.list (rows (hB au M Q))])[cF]? =some (.b5 (eQ (ei au M))):=es g1
 have Ci:(b++bm++[.list (rows (hB au M Q))])[cz]? =some (.b5 (eQ (ei au Q))):=es g2
 generalize u1:b++bm++[.list (rows (hB au M Q))]=l at bS yS Ci
 have Cx:f2 ap au n l:=u1▸aB.more.more
 obtain⟨sg,u2⟩:∃s,l++[aQ.list (rows (ei au M))]++ [aQ.list (rows ((ei au Q).filter λr=> !decide (r∈ei au M)))]=s:=bk _ rfl
 have c:aS ⟨bX table (d+1),aC⟩ (.comp true (.var 8) (.one 8) (.ex (.var 5)) (.cons (.cmp .NotIn (.var 8) (.var 4)) .nil)) [some (.loc n),some (.str s.str),some (bY.bJ (.set t M)),some (bY.bJ (.set t Q)),some (.loc cF),some (.loc cz),none,some (.loc (b++bm).length),none,none] (l++[aQ.list (rows (ei au M))])=.ok (.loc (l++[aQ.list (rows (ei au M))]).length) sg:=
  (Mp (op:=.NotIn) (c:=true) (p:=true) (k:=cz) (N:=cF) (M:=ei au Q) (Q:=ei au M) (λr=>congrArg (CK λr=>L.bool (!r)) (Mt (es yS))) rfl (es Ci) (λv=>rfl) (λv=>rfl) (Dt cB)).trans (congrArg _ u2)
 have W3:zy sg (.loc l.length) (.loc (l++[aQ.list (rows (ei au M))]).length)=some (.loc sg.length,sg++[aQ.list (rows (rq au M Q))]):=by
  rw[<-u2]
  exact(add_lists (es (eM ..)) (eM ..) (e2 (pO (da (dI (dC ..)) (vD F (om F cX) qJ)) (da (dI (dC ..)) (da (sr ..) (vD F (om F cB) qJ)))) (by decide))).trans (congrArg (λm=>some (L.loc _,_++[aQ.list m])) oH.symm)
 have yU:sg[cF]? =some (.b5 (eQ (ei au M))):=u2▸es (es yS)
 have RT:sg[cz]? =some (.b5 (eQ (ei au Q))):=u2▸es (es Ci)
 have af:∃V,sg++[aQ.list (rows (rq au M Q))]=b++V:=bk (bm++([aQ.list (rows (hB au M Q))]++ ([aQ.list (rows (ei au M))]++ ([aQ.list (rows ((ei au Q).filter λr=> !decide (r∈ei au M)))]++ [aQ.list (rows (rq au M Q))])))) (by rw[<-u2,<-u1];simp only[fF])
 have Sc:f2 ap au n sg:=u2▸Cx.more.more
 refine bz af λV af=>bk V (t4 (hh rfl rfl (i6 (D6 d5) (ST (yw a3 rfl) (ST bS (i6 (av:=l) b0 (i6 (av:=l) bO (ST (B (B (B rfl (congrArg eC (Ux yS))) (B c (congrArg eC W3))) rfl) (iu (mq (b9 (MV F Sc.more (D7 F cX cB) Kk (λX=>rfl) (by kernel_rfl) (λX=>rfl) (eM ..)) (b9 (Fq (ne_bool (Qq (λX=>rfl) (es yU)) (Qq (λX=>rfl) (es RT))) eJ rfl) eW)))))))))))  (congrArg (ao.ok _) af))
theorem Kj{t:Bool}{s:gx}(d5:∀p,p=(t,s)->p≠(false,gx.pp))(F:gX ap au)(aB:f2 ap au n b)(cX:dr ap t M)(cB:dr ap t Q)(kT:M.length<=25)(kU:Q.length<=25):
 ∃bm,bX table (d+2) aC 625 [.loc n,.str s.str,bY.bJ (.set t M),bY.bJ (.set t Q)] b=.ok (qa (p' au s (.set t M) (.set t Q))) (b++bm):=by
 obtain⟨bm,cF,cz,a3,g1,g2⟩:=WK (d:=d) (aC:=aC) (aq:=some (.str s.str)) (cO:=none) (c6:=none) (c7:=none) (eo:=none) (fh:=none) (pz:=none) F aB cX cB kT kU
 have Dt:∀{M:List (List I)},dr ap t M->(ei au M).length<b8:=λh=>e2 (vD F (om F h) qJ) (by decide)
 have bS:gz ⟨bX table (d+1),aC⟩ (.assign 7 (.comp true (.var 6) (.one 6) (.ex (.var 4)) (.cons (.cmp .In (.var 6) (.var 5)) .nil))) [some (.loc n),some (.str s.str),some (bY.bJ (.set t M)),some (bY.bJ (.set t Q)),some (.loc cF),some (.loc cz),none,none,none,none] (b++bm)=_:=
  B (Mp (X:=⟨bX table (d+1),aC⟩) (c:=false) (p:=true) (k:=cF) (N:=cz) (M:=ei au M) (Q:=ei au Q) (λr=>congrArg (CK L.bool) (Mt g2)) rfl g1 (λv=>rfl) (λv=>rfl) (Dt cX)) rfl
 have w4:(b++bm++[.list (rows (hB au M Q))])[(b++bm).length]? =some (.list (rows (hB au M Q))):=eM ..
 have ag:decide (rows (hB au M Q)=[])=decide (hB au M Q=[]):=decide_eq_decide.mpr wm
 have Ju:∀{X:cS},aS X (.fm .And (.cons (.c5 (.cmp .Eq (.var 7) (.list .nil))) (.cons (.c5 (.cmp .NotEq (.var 4) .hX)) (.cons (.c5 (.cmp .NotEq (.var 5) .hX)) .nil)))) [some (.loc n),some (.str s.str),some (bY.bJ (.set t M)),some (bY.bJ (.set t Q)),some (.loc cF),some (.loc cz),none,some (.loc (b++bm).length),none,none] (b++bm++[.list (rows (hB au M Q))])=.ok (.bool (rT au M Q)) (b++bm++[.list (rows (hB au M Q))]):=fun{X}=>
  sF (ag▸NZ (λX=>rfl) w4 (x0 _)) (Qr (λX=>rfl) (es g1)) (Qr (λX=>rfl) (es g2))
 have af:∀W:St,b++bm++W=b++(bm++W):=λW=>fF ..
 have ba:=both_rows (M:=M) (Q:=Q) F cX
 have two:∀{l:St}{cO c6 eo pz:Option L},aS ⟨bX table (d+1),aC⟩ (.idx (.var 2) (.const (.int 1))) [some (.loc n),some (.str s.str),some (bY.bJ (.set t M)),some (bY.bJ (.set t Q)),cO,c6,none,eo,none,pz] l=.ok (.int (lh t)) l:=by intros;kernel_rfl
 cases s with
 |meet=>
  have hd:p' au .meet (.set t M) (.set t Q)=some (bY.set t (lG au (hB au M Q)),cond (rT au M Q) ("this is surely empty":I) ("":I)):=by cases t <;> rfl
  rw[hd]
  exact bk _ (t4 (hh rfl rfl (i6 (D6 d5) (ST (yw a3 rfl) (ST bS (t7 (by kernel_rfl) (mq (b9 (MV F aB.more.more ba Jw (λX=>rfl) two (λX=>rfl) w4) (b9 (Fq Ju rfl rfl) eW)))))))) (congrArg (ao.ok _) (af _)))
 |minus=>
  have hd:p' au .minus (.set t M) (.set t Q)=some (bY.set t M,cond (rT au M Q) ("nothing is taken off":I) ("":I)):=by cases t <;> rfl
  rw[hd]
  exact bk _ (t4 (hh rfl rfl (i6 (D6 d5) (ST (yw a3 rfl) (ST bS (i6 (av:=b++bm++[aQ.list (rows (hB au M Q))]) (by kernel_rfl) (t7 (av:=b++bm++[aQ.list (rows (hB au M Q))]) (by kernel_rfl) (mq (b9 rfl (b9 (Fq Ju rfl rfl) eW))))))))) (congrArg (ao.ok _) (af _)))
 |plus=>exact Ki d5 F aB cX cB a3 g1 g2 bS (by cases t <;> rfl) (by intros;kernel_rfl) (by intros;kernel_rfl) (by intros;kernel_rfl)
 |pp=>exact Ki d5 F aB cX cB a3 g1 g2 bS (by cases t;exact absurd rfl (d5 _ rfl);rfl) (by intros;kernel_rfl) (by intros;kernel_rfl) (by intros;kernel_rfl)
theorem WB{s:gx}{one other:bY}(F:gX ap au)(aB:f2 ap au n b)(ai:q2 ap one)(am:q2 ap other):
 ∃bm,bX table (d+2) aC 625 [.loc n,.str s.str,one.bJ,other.bJ] b=.ok (qa (p' au s one other)) (b++bm):=by
 have z:∀{r:ao L}{v:L},r=.ok v b->∃bm,r=.ok v (b++bm):=λe=>bk [] (e.trans (congrArg _ (iK _).symm))
 cases one with
 |truth=>exact z WD
 |number=>exact z WE
 |set t M=>cases other with
  |truth=>exact z WF
  |number=>exact z WG
  |set u Q=>cases t with
   |true=>cases u with
    |true=>exact Kj (λp e=>by cases e;exact λq=>by cases q) F aB ai.1 am.1 (da ai.2 (by decide)) (da am.2 (by decide))
    |false=>exact z WH
   |false=>cases u with
    |true=>exact z WI
    |false=>cases s with
     |pp=>exact z WJ
     |_=>exact Kj (λp e=>by cases e;exact λq=>by cases q) F aB ai.1 am.1 (da ai.2 (by decide)) (da am.2 (by decide))
end
noncomputable def dX(N k:Nat):aQ:=.cj [("cells",.loc N),("shakes",.int k)]
structure hH(l:St)(c N:Nat)(cA:List Int)(k:Nat):Prop where
 ix:l[c]? =some (dX N k)
 cells:l[N]? =some (.list (cA.map .int))
 room:k<1000
section
variable{l:St}{c N d aC k:Nat}{cA:List Int}{j:Int}
theorem pq{A ch:aQ}(h:l[c]? =some A):(l.set c ch)[c]? =some ch:=H7 (gt.mp h).1
theorem mp{n:Nat}{A ch x:aQ}(h:l[c]? =some A)(k:l[n]? =some x)(ne:x≠A):(l.set c ch)[n]? =some x:=(k' λe=>ne (dq (k.symm.trans ((congrArg (l[·]?) e.symm).trans h)))).trans k
theorem abK{x:List Int}{i:Int}(bQ:0<=i)(ai:i<x.length):∃y,j6 (x.map L.int) i=some (.int y):=by
 have aN:i.toNat<x.length:=(R8 bQ).mpr ai
 exact bk x[i.toNat] ((if_pos bQ).trans (by rw[h1,lN aN];rfl))
theorem FX{a j:Int}(h:0<j∧j<1000000):intOp .Mod a j=some (a.emod j):=if_pos ⟨h.1,yX h.2 (by decide)⟩
theorem A5{a b:Int}(bQ:0<=a)(ai:a<=1000000):intOp .Mult a b=some (a*b):=if_pos (e2 (Cj.mp (Int.natAbs_of_nonneg bQ▸ai)) (by decide))
theorem oR{X:cS}{C:aI}{op:nE}{a b:bB}{i j r:Int}(ar:aS X a C l=.ok (.int i) l)(ag:aS X b C l=.ok (.int j) l)(h:intOp op i j=some r)(s':wR l op (.int i) (.int j)=(intOp op i j).map λk=>(L.int k,l)):aS X (.bin op a b) C l=.ok (.int r) l:=
 B ar (B ag (congrArg eC (s'.trans (congrArg (CK λk=>(L.int k,l)) h))))
theorem len_list{N:Nat}{m:List L}(h:l[N]? =some (.list m)):hA l ("len":I) (.loc N)=some (.int m.length,l):=(show hA l ("len":I) (.loc N)=(tn l (.loc N)).map λn=>(L.int n,l) from rfl).trans (by rw[tn,h];rfl)
theorem aao{X:cS}{a i:bB}{C:aI}{n:Nat}{m:List L}{j:Int}{v:L}(ai:aS X a C l=.ok (.loc n) l)(am:aS X i C l=.ok (.int j) l)(k:l[n]? =some (.list m))(q:j6 m j=some v):aS X (.idx a i) C l=.ok v l:=
 B ai (B am (by show opt ((l[n]?).bind (te (.int j))) l=_;rw[k];show opt (j6 m j) l=_;rw[q];rfl))
theorem afu{x:Int}(bQ:0<=x)(ai:x<=1000):x*x<=1000000:=Int.mul_le_mul ai ai bQ (by decide)
theorem tO(Q:hH l c N cA k)(cy:0<j∧j<1000000):∃r,bX table (d+1) aC 593 [.loc c,.int j] l=.ok (.int r) (l.set c (dX N (k+1)))∧0<=r∧r<j:=by
 have ai:=pq (ch:=dX N (k+1)) Q.ix
 have am:=mp (ch:=dX N (k+1)) Q.ix Q.cells (by intro e;cases e)
 have aL:lA aC l (.loc c) (.str "shakes") (.int (k+1:Nat))=some (l.set c (dX N (k+1))):=by
  show(if hP aC c (.int (k+1:Nat))=false then none else(l[c]?).bind λc3=>(putIn c3 (.str "shakes") (.int (k+1:Nat))).map (l.set c))=_
  rw[if_neg (by rw[hP,show f0 (.int (k+1:Nat))=true from rfl,pE];exact pC),Q.ix]
  rfl
 generalize u1:l.set c (dX N (k+1))=av at ai am aL
 have aP:∀X:cS,aS X (.idx (.var 0) (.const (.str "shakes"))) [some (.loc c),some (.int j)] av=.ok (.int (k+1:Nat)) av:=λX=>u3 rfl rfl ai rfl
 have aK:∀X:cS,aS X (.idx (.var 0) (.const (.str "cells"))) [some (.loc c),some (.int j)] av=.ok (.loc N) av:=λX=>u3 rfl rfl ai rfl
 have test:∀X:cS,aS X (.cmp .LtE (.idx (.var 0) (.const (.str "shakes"))) (.bi "len" (.idx (.var 0) (.const (.str "cells"))))) [some (.loc c),some (.int j)] av=.ok (.bool (decide (((k+1:Nat):Int)<=((cA.map L.int).length:Nat)))) av:=λX=>B (aP X) (B (B (aK X) (congrArg eC (len_list am))) rfl)
 have out:∀a:Int,0<=a.emod j∧a.emod j<j:=λa=>⟨R3 a (Int.ne_of_gt cy.1),R2 a cy.1⟩
 have first:∀X:cS,gz X (.setItem (.var 0) (.const (.str "shakes")) (.bin .Add (.idx (.var 0) (.const (.str "shakes"))) (.const (.int 1)))) [some (.loc c),some (.int j)] l=(optN _ (lA X.aC l (.loc c) (.str "shakes") (.int (k+1:Nat)))):=λX=>B (B (u3 (a:=.var 0) (i:=.const (.str "shakes")) rfl rfl Q.ix rfl) (B rfl rfl)) (B rfl (B rfl rfl))
 by_cases q:((k+1:Nat):Int)<=((cA.map L.int).length:Nat)
 ·have aM:k<cA.length:=dC (as:=cA) L.int▸Cj.mp q
  refine bz (abK (R5 k) (HT.mpr aM)) λy bD=>bx (y.emod j) (hh rfl rfl (ST ((first _).trans (congrArg _ aL)) (t7 ((test _).trans (by rw[decide_eq_true q])) (oR (aao (aK _) (oR (aP _) rfl rfl rfl) am ?_) rfl (FX cy) rfl)))) (out y)
  exact(congrArg (j6 (cA.map L.int)) (show((k+1:Nat):Int)- 1=k from Int.add_sub_cancel k 1)).trans bD
 ·have bQ:(0:Int)<=(k+1:Nat):=R5 _
  have aM:((k+1:Nat):Int)<=1000:=Cj.mpr Q.room
  exact bx _ (hh rfl rfl (ST ((first _).trans (congrArg _ aL)) (i6 ((test _).trans (by rw[decide_eq_false q])) (iu (oR (oR (B (B (oR (oR (aP _) (aP _) (A5 bQ (R4 aM (by decide))) rfl) rfl (A5 (Int.mul_nonneg bQ bQ) (afu bQ aM)) rfl) (B (oR (aP _) rfl (A5 bQ (R4 aM (by decide))) rfl) rfl)) (B rfl rfl)) rfl (FX ⟨by decide,by decide⟩) rfl) rfl (FX cy) rfl))))) (out _)
end
section
variable{ap:List I}{b:St}{c N d aC s:Nat}{cA:List Int}{k:Nat}{X:cS}
theorem Nc{x:List I}{i:Int}(bQ:0<=i)(ai:i<x.length):∃a,a∈x∧j6 (x.map L.str) i=some (.str a):=by
 have aN:i.toNat<x.length:=by omega
 exact bx x[i.toNat] (H9 aN) ((if_pos bQ).trans (by rw[h1,lN aN];rfl))
theorem hH.on{l:St}{A:aQ}(Q:hH l c N cA k)(h:k+1<1000):hH (l.set c (dX N (k+1))) c N cA (k+1):=⟨pq Q.ix,mp Q.ix Q.cells (by intro e;cases e),h⟩
theorem hH.more{l bm:St}(Q:hH l c N cA k):hH (l++bm) c N cA k:=⟨es Q.ix,es Q.cells,Q.room⟩
theorem FJ{m:List L}{k:Nat}:aQ.list m≠dX N k:=λe=>by cases e
theorem nO{e:bB}{x:I}{C:aI}{l av a2:St}{v r:L}(h:aS X e C l=.ok v av)(k:hA av x v=some (r,a2)):aS X (.bi x e) C l=.ok r a2:=B h (congrArg eC k)
noncomputable abbrev Kf:bB:=.idx (.var 3) (.call "_law_shake" 593 (.cons (.var 0) (.cons (.bi "len" (.var 3)) .nil)))
theorem Ke{l:St}{aq aF cO c6 c7 eo:Option L}(Q:hH l c N cA k)(aP:l[s]? =some (.list (ap.map .str)))(fu:0<ap.length∧ap.length<=5):∃a,a∈ap∧
 aS ⟨bX table (d+1),aC⟩ Kf [some (.loc c),aq,aF,some (.loc s),cO,c6,c7,eo] l=.ok (.str a) (l.set c (dX N (k+1))):=by
 refine cr (tO (d:=d) (aC:=aC) (j:=((ap.map L.str).length:Nat)) Q (by rw[dC];omega)) λr e ai am=>?_
 refine aU (Nc (x:=ap) ai (dC (as:=ap) L.str▸am)) λa ar q=>bx a ar ?_
 exact B rfl (B (jA (b9 rfl (b9 (nO rfl (len_list aP)) eW)) e) (by
  show opt (((l.set c (dX N (k+1)))[s]?).bind (te (.int r))) _=_
  rw[mp Q.ix aP FJ]
  show opt (j6 (ap.map L.str) r) _=_
  rw[q];rfl))
noncomputable abbrev JQ:bB:=.c5 (.bi "tuple" (.comp false Kf (.one 7) (.range (.var 4)) .nil))
theorem Wv{l:St}{t:Bool}{aq aF c6 c7:Option L}(Q:hH l c N cA k)(aM:k+2<1000)(aP:l[s]? =some (.list (ap.map .str)))(fu:0<ap.length∧ap.length<=5):∃r cg,(r.length=cond t 2 1∧∀a∈r,a∈ap)∧(k<=cg∧cg<=k+2)∧
 aS ⟨bX table (d+1),aC⟩ JQ [some (.loc c),aq,aF,some (.loc s),some (.int (lh t)),c6,c7,none] l=.ok (row r) (l.set c (dX N cg)):=by
 refine aU (Ke (d:=d) (aC:=l.length) (aq:=aq) (aF:=aF) (cO:=some (.int (lh t))) (c6:=c6) (c7:=c7) (eo:=some (.int 0)) Q aP fu) λa ar a3=>?_
 have sh:=Q.on (A:=dX N k) (b6 [_] 1 (Ns (Ns al)) (.num 1000) 1 (Ns (.add al (.num 2))) (.num 1000) rfl aM)
 refine aU (Ke (d:=d) (aC:=l.length) (aq:=aq) (aF:=aF) (cO:=some (.int (lh t))) (c6:=c6) (c7:=c7) (eo:=some (.int 1)) sh (mp Q.ix aP FJ) fu) λiv YI a4=>?_
 rw[su] at a4
 cases t with
 |false=>
  refine kV [a] (k+1) ⟨rfl,λx h=>gu.mp h▸ar⟩ ⟨hJ [_] al (Ns al) rfl,hJ [_] (Ns al) (.add al (.num 2)) rfl⟩ (sU (B (DU (m:=[.int 0]) (W:=[.str a]) (B rfl rfl) rfl ((if_pos rfl).trans (iG (fl rfl (rr a3 rfl)) (iG (if_pos rfl) rfl))) (show 1<b8 by decide)) (congrArg eC (yu (eM ..)))) (la ..) rfl)
 |true=>
  refine kV [a,iv] (k+1+1) ⟨rfl,λx h=>(dU.mp h).elim (λe=>e▸ar) λh=>gu.mp h▸YI⟩ ⟨hJ [_] al (Ns (Ns al)) rfl,hJ [_] (Ns (Ns al)) (.add al (.num 2)) rfl⟩ (sU (B (DU (m:=[.int 0,.int 1]) (W:=[.str a,.str iv]) (B rfl rfl) rfl ((if_pos rfl).trans (iG (fl rfl (rr a3 rfl)) (iG ((if_pos rfl).trans (iG (fl rfl (rr a4 rfl)) (iG (if_pos rfl) rfl))) rfl))) (show 2<b8 by decide)) (congrArg eC (yu (eM ..)))) (la ..) rfl)
theorem Db{l:St}{q:Nat}{m:List L}{v:L}(h:l[q]? =some (.list m))(aZ:m.length<b8)(ck:f0 v=true):oQ aC (.loc q) v l=.ok .none (l.set q (.list (m++[v]))):=by
 show(match l[q]? with |some (.list m)=>if m.length<b8∧hP aC q v=true then ao.ok L.none (l.set q (.list (m++[v]))) else .fail |_=>.fail)=_
 rw[h]
 exact if_pos ⟨aZ,by rw[hP,ck,pE]⟩
theorem tN{l:St}{A:aQ}(h:l[c]? =some A):l.set c A=l:=bz (gt.mp h) λh e=>e▸List.set_getElem_self h
theorem hH.lt{l:St}(Q:hH l c N cA k):c<l.length:=(gt.mp Q.ix).1
noncomputable abbrev abg:ec:=.cons (.expr (.jQ (.var 5) JQ)) .nil
theorem N7(r:List I):f0 (row r)=true:=(gk.mp (show f0 (row r)&& xR []=true from qA [r])).1
theorem abl{t:Bool}{aq aF:Option L}(fu:0<ap.length∧ap.length<=5)(m:List L):∀{b:St}{k:Nat}{aB:List (List I)}{c7:Option L},hH b c N cA k->aB.length+m.length<b8->k+2*m.length<998->dr ap t aB->
 ∃ju cg B3,(dr ap t ju∧ju.length=aB.length+m.length∧k<=cg∧cg<=k+2*m.length)∧
  jG (kK (.one 6) (ff ⟨bX table (d+1),aC⟩ abg)) none m [some (.loc c),aq,aF,some (.loc b.length),some (.int (lh t)),some (.loc (b.length+1)),c7,none] (b++[.list (ap.map .str)]++ [.list (rows aB)])
   =.ok (.next,[some (.loc c),aq,aF,some (.loc b.length),some (.int (lh t)),some (.loc (b.length+1)),B3,none]) (b.set c (dX N cg)++ [.list (ap.map .str)]++ [.list (rows ju)]):=by
 induction m with
 |nil=>exact fun{b k aB c7}Q aZ aM gg=>tq aB k c7 ⟨gg,rfl,eN k,eN k⟩ (by rw[tN Q.ix];exact if_pos rfl)
 |cons a m aJ=>
  intro b k aB c7 Q aZ aM gg
  rw[ks] at aZ aM
  refine eL (Wv (d:=d) (aC:=aC) (t:=t) (aq:=aq) (aF:=aF) (c6:=some (.loc (b.length+1))) (c7:=some a) (Q.more (bm:=[.list (ap.map .str)]).more (bm:=[.list (rows aB)])) (b6 [_,_] 1 (Ns (.add al (.num 2))) (.num 1000) 1 (Ns (.add al (.mulL 2 (Ns ax)))) (.num 998) rfl aM) (es (eM ..)) fu) λr cF ba lr a3=>?_
  rw[show(b++[aQ.list (ap.map L.str)]++ [aQ.list (rows aB)]).set c (dX N cF)=b.set c (dX N cF)++ [aQ.list (ap.map L.str)]++ [aQ.list (rows aB)] by rw[fF,y' _ _ Q.lt,fF]] at a3
  have Ud:(b++[aQ.list (ap.map L.str)]++ [aQ.list (rows aB)])[b.length+1]? =some (.list (rows aB)):=(show(b++[aQ.list (ap.map L.str)]).length=b.length+1 from fN)▸eM ..
  have kq:hH (b.set c (dX N cF)) c N cA cF:=⟨pq Q.ix,mp Q.ix Q.cells (by intro e;cases e),cf [_,_,_] 1 (Ns al) (.num 1000) 1 (Ns (.add ax (.mulL 2 (Ns aT)))) (.num 998) 1 al (.add ax (.num 2)) rfl aM lr.2⟩
  have aN:(b.set c (dX N cF)).length=b.length:=la ..
  have a4:oQ aC (.loc (b.length+1)) (row r) (b.set c (dX N cF)++ [aQ.list (ap.map .str)]++ [aQ.list (rows aB)])=.ok .none (b.set c (dX N cF)++ [aQ.list (ap.map .str)]++ [aQ.list (rows (aB++[r]))]):=by
   have a7:(b.set c (dX N cF)++ [aQ.list (ap.map L.str)]).length=b.length+1:=fN.trans (congrArg (· + 1) aN)
   rw[<-a7,Db (eM ..) (dC (as:=aB) row▸(b6 [_,_,_] 1 (Ns al) ax 1 (Ns (.add al (Ns aT))) ax rfl aZ)) (N7 r),r1 (bm:=[])]
   unfold rows;rw[oH];rfl
  have YB:dr ap t (aB++[r]):=λx aD=>(ip.mp aD).elim (gg x) λh=>gu.mp h▸ba
  refine k7 (aJ (c7:=some a) kq (aB:=aB++[r]) (by rw[fN];show aB.length+1+m.length<b8;exact b6 [_,_,_] 1 (Ns (.add (Ns al) ax)) aT 1 (Ns (.add al (Ns ax))) aT rfl aZ) (cf [_,_,_] 1 (Ns (.add al (.mulL 2 ax))) (.num 998) 1 (Ns (.add aT (.mulL 2 (Ns ax)))) (.num 998) 1 al (.add aT (.num 2)) rfl aM lr.2) YB) λju cg B3 a8 cI=>?_
  rw[aN,su] at cI
  refine tq ju cg B3 ⟨a8.1,by rw[a8.2.1,fN];show aB.length+1+m.length=_;rw[ks];exact h2 (hJ [_,_] (.add (Ns al) ax) (.add al (Ns ax)) rfl) (hJ [_,_] (.add al (Ns ax)) (.add (Ns al) ax) rfl),cf [_,_,_] 1 al ax 1 al aT 1 aT ax rfl lr.1 a8.2.2.1,by rw[ks];exact cf [_,_,_,_] 1 al (.add ax (.mulL 2 (Ns aT))) 1 cs (.add ax (.num 2)) 1 al (.add cs (.mulL 2 aT)) rfl lr.2 a8.2.2.2⟩ ((if_pos rfl).trans (B (fl rfl (ST (B (a:=.none) (B rfl (fl (qv Ud) (B a3 a4))) rfl) rfl)) cI))
end
section
variable{ap:List I}{au:I->List I}{b:St}{c N n d aC:Nat}{cA:List Int}{k:Nat}{X:cS}
theorem f2.ix{l:St}{cg:Nat}(aB:f2 ap au n l)(Q:hH l c N cA k)(aO:n≠c):f2 ap au n (l.set c (dX N cg)):=
 ⟨aU aB.cj λeg p q=>bx eg ((k' aO.symm).trans p) λa ar=>aU (q a ar) λj u v=>bx j u (mp Q.ix v FJ)⟩
theorem aa5(m:List I):kQ (m.map .str)=some m:=by
 induction m with
 |nil=>rfl
 |cons a t aJ=>exact congrArg (λA=>A.map (a :: ·)) aJ
theorem Bt{m:List I}(h:m.length<=63):nd (m.map .str)=some ((eE ig m).map .str):=by
 unfold nd
 rw[if_neg (lQ.mpr (dC (as:=m) L.str▸h)),aa5]
theorem MI{l:St}{m:List (I×L)}(h:l[n]? =some (.cj m)):dm l (.loc n)=some ((m.map (·.1)).map .str,some (n,.cj m)):=by rw[dm,h,lO];rfl
structure q6(ap:List I)(n:Nat)(l:St):Prop where
 cj:∃eg,l[n]? =some (.cj eg)∧eg.map (·.1)=ap
 By:eE ig ap=ap
theorem q6.sorted{l:St}(h:q6 ap n l)(fu:ap.length<=5):hA l ("sorted":I) (.loc n)=some (.loc l.length,l++[.list (ap.map .str)]):=
 aU h.cj λeg p q=>Du.trans (by rw[MI p,IC,q,Bt (da fu (by decide)),h.By];rfl)
theorem q6.ix{l:St}{A:aQ}(h:q6 ap n l)(aO:n≠c):q6 ap n (l.set c A):=⟨aU h.cj λeg p q=>bx eg ((k' aO.symm).trans p) q,h.By⟩
theorem O2{e:bB}{C:aI}{l av:St}{r:Int}(h:aS X e C l=.ok (.int r) av)(bQ:0<=r)(ai:r<10):l1 X (.range e) C l=.ok ((iM r.toNat).map λk=>L.int (k:Nat),none) av:=B h (congrArg (opt · av) (if_pos ⟨bQ,yX ai (by decide)⟩))
theorem Ws{a j:Int}(h:0<j∧j<1000000):intOp .FloorDiv a j=some (a.ediv j):=if_pos ⟨h.1,yX h.2 (by decide)⟩
theorem ahf{r:Int}(bQ:0<=r)(ai:r<=5):∃t,∀{X:cS}{aj aq bh cO c6 c7 eo:Option L}{l:St},aS X (.bin .Add (.const (.int 1)) (.bin .FloorDiv (.var 2) (.const (.int 4)))) [aj,aq,some (.int r),bh,cO,c6,c7,eo] l=.ok (.int (lh t)) l∧aS X (.cmp .Gt (.var 2) (.const (.int 5))) [aj,aq,some (.int r),bh,cO,c6,c7,eo] l=.ok (.bool false) l:=by
 have e:∃t,1+r.ediv 4=lh t:=by
  by_cases h:r<4
  ·exact bk false (by rw[show r.ediv 4=0 from Int.ediv_eq_zero_of_lt bQ h];rfl)
  ·exact bk true (by rw[show r.ediv 4=1 from(show r/4=1 by omega)];rfl)
 exact bz e λt bn=>bk t fun{X aj aq bh cO c6 c7 eo l}=>⟨B rfl (B (oR rfl rfl (Ws (j:=4) ⟨by decide,by decide⟩) rfl) (congrArg (λi=>ao.ok (L.int i) l) bn)),B rfl (B rfl (congrArg (λb=>ao.ok (L.bool b) l) (decide_eq_false (R6.mpr ai))))⟩
theorem ahm{t:Bool}{S:List (List I)}(h:dr ap t S):dr ap t (lG au S):=λr ba=>h r ((i0 S).mem_iff.mp (q3.mp ba).1)
theorem alM{S:List (List I)}:(lG au S).length<=S.length:=da (sr ..) (dI (i0 S).length_eq)
theorem kd_len{t:Bool}{aB:List (List I)}(F:gX ap au)(h:dr ap t aB):(lG au (ei au aB)).length<=aB.length:=by
 rw[Hm (om F h) qJ,FT F.ord (om F h).rows h.rows (λx aD=>aU ((ol F h).mp aD).2 λc aK r=>bx c aK r) λs aP=>bx s ((ol F h).mpr ⟨(h s aP).2,bx s aP (qF F.ord (h s aP).2)⟩) (qF F.ord (h s aP).2)]
 exact ab4
theorem abm{t:Bool}{C:aI}{l:St}{q:Nat}{aB:List (List I)}(F:gX ap au)(H:f2 ap au n l)(gg:dr ap t aB)(aZ:aB.length<=25)(a7:l[q]? =some (.list (rows aB)))(ai:∀X l,aS X (.var 1) C l=.ok (.loc n) l)(fc:∀X l,aS X (.var 5) C l=.ok (.loc q) l):
 aS ⟨bX table (d+1),aC⟩ (.c5 (.call "_law_widest" 615 (.cons (.var 1) (.cons (.call "_law_spread" 610 (.cons (.var 1) (.cons (.var 5) .nil))) .nil)))) C l=.ok (.tup (rows (lG au (ei au aB)))) l:=by
 refine bz (G3 (d:=d) (aC:=l.length) (v:=.loc q) F.FL H (λbm=>AQ (es a7)) rfl (here a7) (λc aK=>⟨by rw[(gg c aK).1];cases t <;> decide,(gg c aK).2⟩) (e2 (ze 25 aZ) (by decide))) λou a3=>?_
 have aP:=om (au:=au) F gg
 refine bz (QS (d:=d) (aC:=l.length) (b:=l ++ .b5 (eQ (ei au aB)):: ou) (v:=.loc l.length) H.more (λbm=>FD (es qe)) (λl=>rfl) (here qe) (λA az=>(aP A az).2) (λA az=>(aP A az).1) (by cases t;exact .inl rfl;exact .inr rfl) (da (vD F aP qJ) (by decide))) λbm e=>?_
 exact jH (jA (b9 (ai _ _) (b9 (jA (b9 (ai _ _) (b9 (fc _ _) eW)) a3) eW)) (e.trans (congrArg (ao.ok _) (fF ..)))) (qA _)
theorem abo{aj aq bh cO c6 c7 eo:Option L}{l:St}{r:Int}(h:r=6∨r=7):∃eX,q2 ap eX∧aS X (.cmp .Gt (.var 2) (.const (.int 5))) [aj,aq,some (.int r),bh,cO,c6,c7,eo] l=.ok (.bool true) l∧
 aS X (.c5 (.idx (.list (.cons (.tuple (.cons (.const (.str "truth")) .nil)) (.cons (.tuple (.cons (.const (.str "number")) .nil)) .nil))) (.bin .Sub (.var 2) (.const (.int 6))))) [aj,aq,some (.int r),bh,cO,c6,c7,eo] l=.ok eX.bJ l:=by
 have g:∀{i:Int}{eX:bY},aS (X.up l.length) (.bin .Sub (.var 2) (.const (.int 6))) [aj,aq,some (.int r),bh,cO,c6,c7,eo] (l++[.list [bY.bJ .truth,bY.bJ .number]])=.ok (.int i) (l++[.list [bY.bJ .truth,bY.bJ .number]])->j6 [bY.bJ .truth,bY.bJ .number] i=some eX.bJ->f0 eX.bJ=true->aS X (.c5 (.idx (.list (.cons (.tuple (.cons (.const (.str "truth")) .nil)) (.cons (.tuple (.cons (.const (.str "number")) .nil)) .nil))) (.bin .Sub (.var 2) (.const (.int 6))))) [aj,aq,some (.int r),bh,cO,c6,c7,eo] l=.ok eX.bJ l:=fun{i eX}e q ck=>
  jH (B (a:=.loc l.length) (l:=l++[.list [bY.bJ .truth,bY.bJ .number]]) rfl (B e (by
   show opt (((l++[aQ.list [bY.bJ .truth,bY.bJ .number]])[l.length]?).bind (te (.int i))) _=_
   rw[eM]
   show opt (j6 _ i) _=_
   rw[q];rfl))) ck
 rcases h with e |e
 ·subst e;exact fK .truth trivial (by kernel_rfl) (g (i:=0) (eX:=.truth) (by kernel_rfl) rfl rfl)
 ·subst e;exact fK .number trivial (by kernel_rfl) (g (i:=1) (eX:=.number) (by kernel_rfl) rfl rfl)
theorem agg{r:Int}(h:r<3):0+r.toNat<=2:=by omega
theorem abk(F:gX ap au)(am:0<ap.length)(H:f2 ap au n b)(cw:q6 ap n b)(Q:hH b c N cA k)(aO:n≠c)(aM:k<980):
 ∃eX cg bm,q2 ap eX∧(k<=cg∧cg<=k+6)∧bX table (d+2) aC 620 [.loc c,.loc n] b=.ok eX.bJ (b.set c (dX N cg)++ bm):=by
 refine cr (tO (d:=d) (aC:=aC) (j:=8) Q ⟨by decide,by decide⟩) λr a3 oi alD=>?_
 have sh:=Q.on (A:=dX N k) (b6 [_] 1 (Ns (Ns al)) (.num 1000) 1 (Ns al) (.num 980) rfl aM)
 have bW:gz ⟨bX table (d+1),aC⟩ (.assign 2 (.call "_law_shake" 593 (.cons (.var 0) (.cons (.const (.int 8)) .nil)))) [some (.loc c),some (.loc n),none,none,none,none,none,none] b=.ok (.next,[some (.loc c),some (.loc n),some (.int r),none,none,none,none,none]) (b.set c (dX N (k+1))):=B (jA (b9 rfl (b9 rfl eW)) a3) rfl
 by_cases q:r<=5
 ·refine bz (ahf oi q) λt bS=>?_
  have yU:=H.ix (cg:=k+1) Q aO
  have Ik:=cw.ix (A:=dX N (k+1)) aO
  generalize ag:b.set c (dX N (k+1))=ez at sh yU Ik bW
  have cX:(ez++[aQ.list (ap.map L.str)]).length=ez.length+1:=fN
  have u:=yw (X:=⟨bX table (d+1),aC⟩) (is:=[3,4,5]) (af:=.cons (.bi "sorted" (.var 1)) (.cons (.bin .Add (.const (.int 1)) (.bin .FloorDiv (.var 2) (.const (.int 4)))) (.cons (.list .nil) .nil))) (C:=[some (.loc c),some (.loc n),some (.int r),none,none,none,none,none]) (b9 (nO rfl (Ik.sorted F.En)) (b9 bS.1 (b9 (e:=.list .nil) rfl eW))) rfl
  refine cr (tO (d:=d) (aC:=aC) (j:=3) (sh.more (bm:=[.list (ap.map .str)]).more (bm:=[.list []])) ⟨by decide,by decide⟩) λeK a4 adT eJ=>?_
  have bO:=agg eJ
  have RC:=sh.on (A:=dX N k) (b6 [_] 1 (Ns (Ns (Ns al))) (.num 1000) 1 (Ns al) (.num 980) rfl aM)
  rw[show(ez++[aQ.list (ap.map L.str)]++ [aQ.list []]).set c (dX N (k+1+1))=ez.set c (dX N (k+1+1))++ [aQ.list (ap.map L.str)]++ [aQ.list (rows [])] by rw[fF,y' _ _ sh.lt,fF];rfl] at a4
  refine k7 (abl (d:=d) (aC:=aC) (t:=t) (aq:=some (.loc n)) (aF:=some (.int r)) ⟨am,F.En⟩ ((iM eK.toNat).map λk=>L.int (k:Nat)) RC (aB:=[]) (c7:=none) (by rw[dC,wl];exact e2 bO (by decide)) (by rw[dC,wl];exact cf [_,_] 1 (Ns (.add (Ns (Ns al)) (.mulL 2 ax))) (.num 998) 1 (Ns al) (.num 980) 2 (.add en ax) (.num 2) rfl aM bO) (λr h=>absurd h hK)) λaB cg B3 a8 cI=>?_
  rw[dC,wl] at a8
  rw[la,<-cX,su] at cI
  have RU:f2 ap au n (ez.set c (dX N cg)++ [aQ.list (ap.map L.str)]++ [aQ.list (rows aB)]):=(yU.ix sh aO).more.more
  refine rR (.set t (lG au (ei au aB))) cg ([aQ.list (ap.map L.str)]++ [aQ.list (rows aB)]) ⟨ahm (om F a8.1),da (kd_len F a8.1) (da (dI a8.2.1) bO)⟩ ⟨b6 [_,_] 1 al ax 1 (Ns (Ns al)) ax rfl a8.2.2.1,cf [_,_,_] 1 al (.add ax (.num 6)) 2 (.add en aT) (.num 2) 1 al (.add (Ns (Ns ax)) (.mulL 2 aT)) rfl bO a8.2.2.2⟩ (t4 (hh rfl rfl (ST bW (i6 bS.2 (ST u (ST (rv (O2 (jA (b9 rfl (b9 rfl eW)) a4) adT (yX eJ (by decide))) rfl cI) (iu (mq (b9 rfl (b9 rfl (b9 (abm F RU a8.1 (da (dI a8.2.1) (da bO (by decide))) ?_ (λX l=>rfl) (λX l=>rfl)) eW)))))))))) (congrArg (ao.ok _) ?_))
  ·rw[cX]
   exact(show(ez.set c (dX N cg)++ [aQ.list (ap.map L.str)]).length=ez.length+1 from fN.trans (congrArg (· + 1) (la ..)))▸eM ..
  ·rw[<-ag,su,fF]
 ·refine cr (abo (ap:=ap) (X:=⟨bX table (d+1),aC⟩) (aj:=some (.loc c)) (aq:=some (.loc n)) (bh:=none) (cO:=none) (c6:=none) (c7:=none) (eo:=none) (l:=b.set c (dX N (k+1))) (show r=6∨r=7 by omega)) λeX Zz gi lC=>?_
  exact rR eX (k+1) [] Zz ⟨hJ [_] al (Ns al) rfl,hJ [_] (Ns al) (.add al (.num 6)) rfl⟩ (t4 (hh rfl rfl (ST bW (t7 gi lC))) (congrArg (ao.ok _) (iK _).symm))
end
noncomputable abbrev e':=List (I×I)
noncomputable def bl(F:e'):List I:=F.map (·.1)
noncomputable def gens(names:List I):List e':=names.foldl (λd6 name=>d6.flatMap λcl=>(bl cl).map λp=>cl++[(name,p)]) [[("A",""),("B","")]]
noncomputable def mP:List I:=["C","D","E"]
noncomputable def hj:List e':=[1,2,3].flatMap λn=>gens (mP.take n)
noncomputable def abM(cl:e')(f:I->List I)(M5:I):I->List I:=λn=>if (cl.lookup M5).getD ""∈f n then f n++[M5] else f n
noncomputable def gs(cl:e'):I->List I:=(bl cl).foldl (abM cl) (λn=>[n])
noncomputable def fL(F:e'):aQ:=.cj (F.map λp=>(p.1,.str p.2))
noncomputable def AX(F:e'):St:=((bl F).map λa=>aQ.list ((gs F a).map .str))++ [.list ((bl F).zipIdx.map λp=>.tup [.str p.1,.loc (4+p.2)]),.cj ((bl F).zipIdx.map λp=>(p.1,.loc (4+p.2))),.list ((bl F).map .str)]
noncomputable def qq(F:e')(a:I):L:=.tup [.str "sig",.int 0,.tup [.str a],.bool false,.str "",.str ((F.lookup a).getD ""),.tup [],.tup [],.tup []]
noncomputable def aeG(r:ec):ec:=.cons (.assign 4 (.call "_law_lines" 605 (.cons (.var 3) .nil))) (.cons (.assign 6 (.comp false (.tuple (.cons (.const (.str "sig")) (.cons (.const (.int 0)) (.cons (.tuple (.cons (.var 5) .nil)) (.cons (.const (.bool false)) (.cons (.const (.str "")) (.cons (.idx (.var 3) (.var 5)) (.cons (.tuple .nil) (.cons (.tuple .nil) (.cons (.tuple .nil) .nil)))))))))) (.one 5) (.ex (.bi "sorted" (.var 3))) .nil)) (.cons (.jV [7,8,9] (.cons (.list .nil) (.cons (.list .nil) (.cons .hX .nil)))) r))
noncomputable def aed(F:e')(aj:Option L):aI:=[aj,none,some (.loc 2),some (.loc 3),some (.loc ((bl F).length+5)),none,some (.loc ((bl F).length+8)),some (.loc ((bl F).length+9)),some (.loc ((bl F).length+10)),some (.loc ((bl F).length+11)),none,none,none,none,none,none,none,none,none,none]
noncomputable def base(F:e')(c4:aQ×aQ)(bW ct cH dc:aQ):St:=[c4.1,c4.2,bW,fL F]++ AX F++[.list ((bl F).map .str),.list ((bl F).map (qq F)),ct,cH,dc]
theorem aeQ{c4:aQ×aQ}{bW:aQ}{aj:Option L}{r:ec}:hj.map (λF=>ff ⟨bX table 14,0⟩ (aeG r) [aj,none,some (.loc 2),some (.loc 3),none,none,none,none,none,none,none,none,none,none,none,none,none,none,none,none] [c4.1,c4.2,bW,fL F])
 =hj.map λF=>ff ⟨bX table 14,0⟩ r (aed F aj) (base F c4 bW (.list []) (.list []) (.b5 [])):=by kernel_rfl
noncomputable abbrev m6:bB:=.new "SetKinds" 413 248 (.cons (.new "Signatures" 582 429 (.cons (.var 6) .nil)) .nil)
noncomputable def Tx(F:e')(i:Nat):aQ:=.list ((((bl F).drop i).filter λa=>decide ((F.lookup a).getD ""∈("":I):: (bl F).take i)).map .str)
noncomputable def objs(F:e')(aB k:Nat)(ej:aQ):St:=
 [.cj [("entries",.loc (aB+2)),("stands",.loc (aB+3)),("opened",.loc (aB+4)),("ordered",.loc (aB+5)),("own_fields",.loc (aB+7+k))],.inst 582 aB,.cj ((bl F).map λa=>(a,qq F a)),.list ((bl F).map .str),.list [],.list ((bl F).map .str),.list []]
  ++ (iM k).map (Tx F)++ [.list [],.b5 [],.cj [("signatures",.loc (aB+1)),("known_columns",.loc (aB+11+k)),("known_fields",.loc (aB+12+k)),("begun_fields",.loc (aB+13+k)),("warnings",.loc (aB+14+k)),("height",.int 0)],.inst 413 (aB+9+k),.cj [],.cj [],.cj [],ej]
noncomputable def z7(F:e')(l:St):ao L:=aS ⟨bX table 14,0⟩ m6 [none,none,none,none,none,none,some (.loc ((bl F).length+8))] l
theorem abY{c4:aQ×aQ}{bW ct cH dc:aQ}:hj.map (λF=>z7 F (base F c4 bW ct cH dc))=hj.map λF=>.ok (.loc ((bl F).length+12+10+(bl F).length)) (base F c4 bW ct cH dc++objs F ((bl F).length+12) (bl F).length (.b5 [])):=by kernel_rfl
structure mz(l:St)(n:Nat)(Q:aa)(m:List (I×L)):Prop where
 at_:∃eg,l[n]? =some (.inst Q eg)∧l[eg]? =some (.cj m)
structure rc(ap:List I)(cl:I->I)(l:St)(s:Nat):Prop where
 own:∃m,mz l s 582 m∧("parent":I)∉m.map (·.1)∧("above":I)∉m.map (·.1)∧∃e af,m.lookup ("entries":I)=some (.loc e)∧l[e]? =some (.cj af)∧∀a∈ap,∃t,af.lookup a=some (.tup t)∧t[5]? =some (.str (cl a))
section
variable{ap:List I}{cl:I->I}{l bm:St}{n s d aC:Nat}{Q:aa}{m:List (I×L)}{X:cS}{C:aI}{a:I}
theorem mz.more(h:mz l n Q m):mz (l++bm) n Q m:=⟨aU h.at_ λeg p q=>bx eg (es p) (es q)⟩
theorem rc.more(h:rc ap cl l s):rc ap cl (l++bm) s:=⟨bz h.own λm q=>bk m ⟨q.1.more,q.2.1,q.2.2.1,ik q.2.2.2 λe af r=>⟨e,af,r.1,es r.2.1,r.2.2⟩⟩⟩
theorem mz.of(h:mz l n Q m):∃eg,rK l Q (.loc n)=some (n,eg)∧nc l eg=some m:=aU h.at_ λeg p q=>bx eg (by
 show(match l[n]? with |some (.inst kq d)=>if kq=Q then some (n,d) else none |_=>none)=_
 rw[p];exact if_pos rfl) (by rw[nc,q])
theorem zE{e:bB}{x:I}{v:L}(h:aS X e C l=.ok (.loc n) l)(k:mz l n Q m)(q:m.lookup x=some v)(ck:v.isVal=false):aS X (.attr e x Q) C l=.ok v l:=by
 refine B h (aU k.of λeg p r=>congrArg (opt · l) (show wO l (.loc n) x Q=some v from ?_))
 show((rK l Q (.loc n)).bind λp=>(nc l p.2).bind λm=>(m.lookup x).bind λv=>cond v.isVal none (some v))=_
 rw[p];show((nc l eg).bind _)=_;rw[r];show((m.lookup x).bind _)=_;rw[q];show cond v.isVal none (some v)=_;rw[ck];rfl
theorem FV{A:bB}{x:I}{f:aa}{as:dH}{T:List L}{v:L}{av:St}(h:aS X A C l=.ok (.loc n) l)(k:mz l n Q m)(q:x∉m.map (·.1))(ar:fn X as C l=.ok T l)(aK:X.bp X.aC f (.loc n::T) l=.ok v av):aS X (.d2 A x Q f as) C l=.ok v av:=
 B h (fl (aU k.of λeg p r=>by
  rw[xO,p];show((nc l eg).bind _)=_;rw[r]
  exact if_pos (Su.mpr λp aL=>by rw[bne_iff_ne];exact λe=>q (gY.mpr ⟨p,aL,e.symm⟩))) (B ar aK))
theorem Ug{t:List L}{v:L}(h:t[5]? =some v):j6 t 5=some v:=by
 show(if (0:Int)<=5 then t[5]? else none)=_
 rw[if_pos (by decide)];exact h
theorem adp(S:rc ap cl l s)(ar:a∈ap):bX table (d+1) aC 502 [.loc s,.str a] l=.ok (.str (cl a)) l:=by
 refine bz S.own λm q=>ik q.2.2.2 λe af r=>aU (r.2.2 a ar) λt u v=>?_
 exact hh rfl rfl (iu (B (u3 (zE rfl q.1 r.1 rfl) rfl r.2.1 u) (B rfl (congrArg (opt · l) (show AI l (.tup t) (.int 5)=some (.str (cl a)) from Ug v)))))
inductive pU(cl:I->I):I->List I->Prop
 |top {a:I} (h:cl a=""):pU cl a []
 |step {a:I} {m:List I} (h:cl a≠"") (k:pU cl (cl a) m):pU cl a (cl a::m)
theorem eq_str{x y:I}:h9 l (.str x) (.str y)=some (decide (x=y)):=(if_pos rfl).trans (congrArg some (decide_eq_decide.mpr ⟨λe=>by injection e,λe=>e▸rfl⟩))
theorem ne_str{e cm:bB}{x y:I}(h:aS X e C l=.ok (.str x) l)(k:aS X cm C l=.ok (.str y) l):aS X (.cmp .NotEq e cm) C l=.ok (.bool (!decide (x=y))) l:=B h (B k (congrArg (λA=>opt (A.map λr=>L.bool (!r)) l) (eq_str (l:=l))))
theorem aa7{e cm:bB}{x y:I}(h:aS X e C l=.ok (.str x) l)(k:aS X cm C l=.ok (.str y) l):aS X (.cmp .Eq e cm) C l=.ok (.bool (decide (x=y))) l:=B h (B k (congrArg (λA=>opt (A.map L.bool) l) (eq_str (l:=l))))
theorem Gn{aF:Option L}(S:rc ap cl l s)(ar:a∈ap):aS ⟨bX table (d+1),aC⟩ (.d2 (.var 0) "parent" 582 502 (.cons (.var 1) .nil)) [some (.loc s),some (.str a),aF] l=.ok (.str (cl a)) l:=
 bz S.own λm q=>FV rfl q.1 q.2.1 rfl (adp S ar)
theorem TA{up:List I}(u:pU cl a up):∀{l:St}{bc:List I}{n:Nat},rc ap cl l s->(∀b,b=a∨b∈up->b∈ap)->up.length<n->bc.length+up.length<b8->
 ∃iv,px (λC l=>aS ⟨bX table (d+1),aC⟩ (.cmp .NotEq (.d2 (.var 0) "parent" 582 502 (.cons (.var 1) .nil)) (.const (.str ""))) C l) (λC l=>ff ⟨bX table (d+1),aC⟩ (.cons (.assign 1 (.d2 (.var 0) "parent" 582 502 (.cons (.var 1) .nil))) (.cons (.expr (.jQ (.var 2) (.var 1))) .nil)) C l) n [some (.loc s),some (.str a),some (.loc l.length)] (l++[.list (bc.map .str)])
  =.ok (.next,[some (.loc s),iv,some (.loc l.length)]) (l++[.list ((bc++up).map .str)]):=by
 induction u with
 |top h=>
  intro l bc n S fu aO aZ
  cases n with
  |zero=>exact absurd aO (q8 _)
  |succ n=>exact bk _ ((iG (ne_str (Gn S.more (fu _ (.inl rfl))) rfl) (by rw[h,iK];rfl)))
 | @step a m h k aJ=>
  intro l bc n S fu aO aZ
  cases n with
  |zero=>exact absurd aO (q8 _)
  |succ n=>
   have aL:=fu _ (.inr (.head _))
   refine bz (aJ (bc:=bc++[cl a]) (n:=n) S (λb ag=>fu b (.inr (ag.elim (λe=>e▸.head _) (.tail _)))) (Nat.lt_of_succ_lt_succ aO) (by rw[fN];exact Il bc.length 1 m.length▸za m.length 1▸aZ)) λiv e=>?_
   have ri:oQ aC (.loc l.length) (.str (cl a)) (l++[.list (bc.map .str)])=.ok .none (l++[.list ((bc++[cl a]).map .str)]):=by
    rw[Db (eM ..) (dC (as:=bc) L.str▸e2 (pQ ..) aZ) rfl,r1 (bm:=[]),oH];rfl
   rw[fF] at e
   refine bk iv (iG (ne_str (Gn S.more (fu _ (.inl rfl))) rfl) ?_)
   rw[decide_eq_false h]
   exact iG (ST (B (Gn S.more (fu _ (.inl rfl))) rfl) (ST (B (a:=.none) (B rfl (fl (qv (eM ..)) (B rfl ri))) rfl) rfl)) e
theorem Tz{up:List I}(u:pU cl a up)(S:rc ap cl l s)(fu:∀b,b=a∨b∈up->b∈ap)(aZ:up.length<100):bX table (d+2) aC 530 [.loc s,.str a] l=.ok (.loc l.length) (l++[.list (up.map .str)]):=
 bz (TA (d:=d) (aC:=aC) u (bc:=[]) (n:=100) S fu aZ (by rw[y7,nD];exact lP aZ (by decide))) λiv e=>hh rfl rfl (ST (B rfl rfl) (ST e (iu rfl)))
structure fi(ap:List I)(cl:I->I)(l:St)(k s w:Nat):Prop where
 sig:rc ap cl l s
 own:∃m,mz l k 413 m∧m.lookup ("signatures":I)=some (.loc s)∧m.lookup ("warnings":I)=some (.loc w)∧m.map (·.1)=(["signatures","known_columns","known_fields","begun_fields","warnings","height"]:List I)
theorem fi.more{k w:Nat}(h:fi ap cl l k s w):fi ap cl (l++bm) k s w:=⟨h.sig.more,bz h.own λm q=>bk m ⟨q.1.more,q.2⟩⟩
theorem adb{a b:bB}{x y:Bool}(ai:aS X a C l=.ok (.bool x) l)(am:aS X b C l=.ok (.bool y) l):aS X (.fm .Or (.cons a (.cons b .nil))) C l=.ok (.bool (x||y)) l:=B ai (by
 cases x with
 |true=>rfl
 |false=>exact B am (by cases y <;> rfl))
theorem ag0{k w:Nat}{b:I}{up:List I}(K:fi ap cl l k s w)(u:pU cl a up)(fu:∀b,b=a∨b∈up->b∈ap)(aZ:up.length<100):
 bX table (d+3) aC 130 [.loc k,.str a,.str b] l=.ok (.bool (decide (a=b)|| decide (b∈up))) l:=by
 exact bz K.own λm q=>bz K.sig.own λgS dZ=>hh rfl rfl (iu (adb (aa7 rfl rfl) (jH (B rfl (B (FV (zE (m:=m) rfl q.1 q.2.1 rfl) dZ.1 dZ.2.2.1 rfl (Tz u K.sig fu aZ)) (congrArg (λA=>opt (A.map L.bool) (l++[aQ.list (up.map .str)])) (Mr (eM ..))))) rfl)))
end
def j4(ap:List I)(cl:I->I)(au:I->List I):Prop:=∀a∈ap,∃up,pU cl a up∧(∀b,b=a∨b∈up->b∈ap)∧up.length<100∧∀b∈ap,(decide (a=b)|| decide (b∈up))=dn au a b
noncomputable def zF:List I:=["signatures","known_columns","known_fields","begun_fields","warnings","height"]
section
variable{ap:List I}{cl:I->I}{au:I->List I}{l bm:St}{k s w d aC:Nat}{X:cS}{C:aI}{a b:I}{x y:List I}
theorem tM{A:bB}{x:I}{f:aa}{as:dH}{T:List L}{v:L}{av:St}(K:fi ap cl l k s w)(q:x∉zF)(h:aS X A C l=.ok (.loc k) l)(ar:fn X as C l=.ok T l)(aK:X.bp X.aC f (.loc k::T) l=.ok v av):aS X (.d2 A x 413 f as) C l=.ok v av:=
 bz K.own λm r=>FV h r.1 (r.2.2.2.symm▸q) ar aK
theorem QL(K:fi ap cl l k s w)(o:j4 ap cl au)(ar:a∈ap)(ag:b∈ap):bX table (d+3) aC 130 [.loc k,.str a,.str b] l=.ok (.bool (dn au a b)) l:=
 bz (o a ar) λup q=>(ag0 K q.1 q.2.1 q.2.2.1).trans (congrArg (λc=>ao.ok (L.bool c) l) (q.2.2.2 b ag))
theorem acp(K:fi ap cl l k s w)(o:j4 ap cl au)(ar:a∈ap)(ag:b∈ap):bX table (d+4) aC 137 [.loc k,.str a,.str b] l=.ok (.str (hE (dn au) a b)) l:=by
 have ai:=tM (X:=⟨bX table (d+3),aC⟩) (x:="is_under") (f:=130) (A:=.var 0) (as:=.cons (.var 1) (.cons (.var 2) .nil)) (C:=[some (.loc k),some (.str a),some (.str b)]) (T:=[.str a,.str b]) K (by decide) rfl rfl (QL (d:=d) (aC:=aC) K o ar ag)
 have am:=tM (X:=⟨bX table (d+3),aC⟩) (x:="is_under") (f:=130) (A:=.var 0) (as:=.cons (.var 2) (.cons (.var 1) .nil)) (C:=[some (.loc k),some (.str a),some (.str b)]) (T:=[.str b,.str a]) K (by decide) rfl rfl (QL (d:=d) (aC:=aC) K o ag ar)
 unfold hE
 cases a3:dn au a b with
 |true=>rw[a3] at ai;exact hh rfl rfl (t7 ai rfl)
 |false=>
  rw[a3] at ai
  cases a4:dn au b a with
  |true=>rw[a4] at am;exact hh rfl rfl (i6 ai (iu (B am rfl)))
  |false=>rw[a4] at am;exact hh rfl rfl (i6 ai (iu (B am rfl)))
noncomputable def kj:Option (List I)->L
 |none=>.none
 |some z=>row z
theorem ajT{f:I->I->I}(x:List I):∀y:List I,(x.zip y).flatMap (λp=>[L.str (f p.1 p.2)])=(pM f x y).map .str:=by
 induction x with
 |nil=>exact λy=>rfl
 |cons a t aJ=>
  intro y
  cases y with
  |nil=>rfl
  |cons b u=>exact congrArg (L.str (f a b):: ·) (aJ u)
theorem DR(K:fi ap cl l k s w)(o:j4 ap cl au)(aD:∀a∈x,a∈ap)(bD:∀a∈y,a∈ap)(h:x.length=y.length)(am:x.length=1∨x.length=2):bX table (d+5) aC 142 [.loc k,row x,row y] l=.ok (kj (hi (dn au) x y)) l:=by
 have dO:aS ⟨bX table (d+4),aC⟩ (.c5 (.bi "tuple" (.comp true (.d2 (.var 0) "narrower" 413 137 (.cons (.var 3) (.cons (.var 4) .nil))) (.many [3,4]) (.zip (.var 1) (.var 2)) .nil))) [some (.loc k),some (row x),some (row y),none,none,none] l=.ok (row (pM (hE (dn au)) x y)) l:=by
  refine jH (B (p6 (B rfl (B rfl (congrArg (opt · l) (zip_rows h am)))) rfl ((kG rfl (λp=>.tup [.str p.1,.str p.2]) (λp=>[L.str (hE (dn au) p.1 p.2)]) (x.zip y) λp aL=>?_).trans (congrArg (ao.ok · l) (ajT x y))) ?_) (congrArg eC (yu (eM ..)))) (N7 _)
  ·have aL:=Cw (a:=p.1) (b:=p.2) aL
   exact fl rfl (rr (tM K (by decide) rfl rfl (acp (d:=d) K o (aD _ aL.1) (bD _ aL.2))) rfl)
  ·rw[dC,List.length_zipWith];exact e2 (CE ..) (am.elim (λe=>e▸by decide) λe=>e▸by decide)
 have d3:aS ⟨bX table (d+4),aC⟩ (.cmp .In (.const (.str "")) (.var 5)) [some (.loc k),some (row x),some (row y),none,none,some (row (pM (hE (dn au)) x y))] l=.ok (.bool (decide (("":I)∈pM (hE (dn au)) x y))) l:=B rfl (B rfl (congrArg (λA=>opt (A.map L.bool) l) Ms))
 refine hh rfl rfl (ST (B dO rfl) (iu (B d3 ?_)))
 unfold hi
 by_cases q:("":I)∈pM (hE (dn au)) x y
 ·rw[decide_eq_true q,if_pos q];rfl
 ·rw[decide_eq_false q,if_neg q];rfl
theorem JA{d aC:Nat}{f:aa}{dQ:ed}{args:List L}{C:aI}{l av:St}(aN:table.lookup f=some dQ)(aO:args.length=dQ.params)(h:ff ⟨bX table d,aC⟩ dQ.body (args.map some++ku (dQ.slots-dQ.params) none) l=.ok (.next,C) av):bX table (d+1) aC f args l=.ok .none av:=
 fl aN ((if_pos aO).trans (B h rfl))
theorem X1{i:Int}(h:i<=300):bX table (d+1) aC 149 [.loc k,.int i] l=.ok .none l:=
 JA rfl rfl (i6 (B rfl (B rfl (congrArg (λc=>ao.ok (L.bool c) l) (decide_eq_false (R6.mpr h))))) rfl)
theorem aeP{aB:List (List I)}(h:(eU aB).length<=4)(d5:∀r∈aB,r≠[]):vy (rows aB)=some (rows (eE e0 (eU aB))):=by
 have e:aB.all (λr=> !r.isEmpty)=true:=i8.mpr λr ba=>by cases r with |nil=>exact absurd rfl (d5 _ ba)| cons=>rfl
 show((tg (rows aB)).bind λcE=>if (eU cE).length<=Bq∧cE.all (λr=> !r.isEmpty) then some ((eE e0 (eU cE)).map λr=>L.tup (r.map .str)) else none)=_
 rw[MC]
 exact if_pos ⟨h,e⟩
theorem W6{z:Option (List I)}:h9 l (kj z) (row x)=some (decide (z=some x)):=by
 cases z with
 |none=>exact(if_pos (by rw[show na (row x)=true from Gs x];rfl)).trans (congrArg some (decide_eq_decide.mpr ⟨λe=>(by cases e),λe=>(by cases e)⟩))
 |some z=>exact D'.trans (congrArg some (decide_eq_decide.mpr ⟨λe=>e▸rfl,λe=>dq e⟩))
theorem NY{e:bB}{W:List L}(h:aS (X.up l.length) e C l=.ok (.loc l.length) (l++[.list W]))(aL:iY W=true):aS X (.c5 (.cmp .Eq e (.list .nil))) C l=.ok (.bool (decide (W=[]))) l:=
 jH (bm:=[.list W]++ [.list []]) (B h (B rfl (by
  show opt ((h9 _ _ _).map _) _=_
  rw[z5 (W:=W) (es (eM ..)) (eM ..) aL,fF];rfl))) rfl
theorem AL{e:bB}{c:Bool}(h:aS X e C l=.ok (.bool c) l):kJ X (.cons e .nil) C l=.ok c l:=B h (by cases c <;> rfl)
noncomputable def vd(au:I->List I)(a b:List I):Bool:= !decide (b=a)&& decide (hi (dn au) a b=some a)
noncomputable abbrev abQ:bB:=.comp true (.var 4) (.one 4) (.ex (.var 2)) (.cons (.fm .And (.cons (.cmp .NotEq (.var 4) (.var 3)) (.cons (.cmp .Eq (.d2 (.var 0) "common" 413 142 (.cons (.var 3) (.cons (.var 4) .nil))) (.var 3)) .nil))) .nil)
theorem abR{t:Bool}{S:List (List I)}{a:List I}{q:Nat}{aq cO:Option L}(K:fi ap cl l k s w)(o:j4 ap cl au)(fv:dr ap t S)(ar:a∈S)(aZ:S.length<=4)(a7:l[q]? =some (.list (rows S))):
 aS ⟨bX table (d+5),aC⟩ abQ [some (.loc k),aq,some (.loc q),some (row a),cO] l=.ok (.loc l.length) (l++[.list (rows (S.filter (vd au a)))]):=by
 refine p6 (rt rfl a7) rfl ((kG (here a7) row (λb=>cond (vd au a b) [row b] []) S λb ag=>?_).trans (congrArg (ao.ok · l) (w0 ..))) ?_
 ·refine fl rfl (rs (I' (B rfl (B rfl (congrArg (λA=>opt (A.map λr=>L.bool (!r)) l) D'))) λfY=>B (tM (T:=[row a,row b]) (f:=142) (x:="common") K (by decide) rfl rfl (DR (d:=d) K o (fv a ar).2 (fv b ag).2 ((fv a ar).1.trans (fv b ag).1.symm) ?_)) (B rfl (congrArg (λA=>opt (A.map L.bool) l) W6))) λfY=>rfl)
  rw[(fv a ar).1];cases t;exact .inl rfl;exact .inr rfl
 ·exact e2 (da (dI (dC ..)) (da (sr ..) aZ)) (by decide)
theorem OO{t:Bool}{aB:List (List I)}{v:L}(K:fi ap cl l k s w)(o:j4 ap cl au)(gg:dr ap t aB)(aZ:(eU aB).length<=4)(ck:h5 l v=some (rows aB)):∃bm,bX table (d+6) aC 161 [.loc k,v] l=.ok (.tup (rows (iD (dn au) aB))) (l++bm):=by
 have two:∀r∈aB,r.length=1∨r.length=2:=λr ba=>by rw[(gg r ba).1];cases t;exact .inl rfl;exact .inr rfl
 have fv:∀r∈eE e0 (eU aB),r∈aB:=λr ba=>p9.mp ((i0 _).mem_iff.mp ba)
 have bW:gz ⟨bX table (d+5),aC⟩ (.assign 2 (.qI (.var 1))) [some (.loc k),some v,none,none,none] l=.ok (.next,[some (.loc k),some v,some (.loc l.length),none,none]) (l++[.list (rows (eE e0 (eU aB)))]):=
  B (B rfl (B (congrArg (opt · l) ((congrArg (·.bind vy) ck).trans (aeP aZ λr ba e=>(two r ba).elim (λh=>by cases (congrArg kr e).symm.trans h) λh=>by cases (congrArg kr e).symm.trans h))) rfl)) rfl
 have Am:(eE e0 (eU aB)).length<=4:=da (dI (i0 _).length_eq) aZ
 have Lo:dr ap t (eE e0 (eU aB)):=λr ba=>gg r (fv r ba)
 have aL:iD (dn au) aB=(eE e0 (eU aB)).filter λa=>decide (rows ((eE e0 (eU aB)).filter (vd au a))=[]):=y2 λa ar=>decide_eq_decide.mpr (by
  unfold rows vd;rw[wm];simp only[decide_not])
 rw[aL]
 generalize eE e0 (eU aB)=S at bW Am Lo
 have a7:(l++[.list (rows S)])[l.length]? =some (.list (rows S)):=eM ..
 have pJ:fi ap cl (l++[.list (rows S)]) k s w:=K.more
 refine bk [.list (rows S)] ?_
 generalize l++[aQ.list (rows S)]=gU at bW a7 pJ
 have mR:aS ⟨bX table (d+5),aC⟩ (.d2 (.var 0) "want_few" 413 149 (.cons (.bi "len" (.var 2)) .nil)) [some (.loc k),some v,some (.loc l.length),none,none] gU=.ok .none gU:=
  tM (T:=[.int (rows S).length]) (f:=149) (x:="want_few") pJ (by decide) rfl (b9 (nO rfl (len_list a7)) eW) (X1 (d:=d+4) (Cj.mpr (da (dI (dC ..)) (da Am (by decide)))))
 refine hh rfl rfl (ST bW (ST (B mR rfl) (iu (jH (nO (p6 (W:=rows (S.filter λa=>decide (rows (S.filter (vd au a))=[]))) (rt rfl a7) rfl ((kG (here a7) row (λa=>cond (decide (rows (S.filter (vd au a))=[])) [row a] []) S λa ar=>?_).trans (congrArg (ao.ok · gU) (w0 ..))) ?_) (yu (eM ..))) (qA _)))))
 ·exact fl rfl (rs (AL (NY (abR (d:=d) pJ o Lo ar Am a7) (x0 _))) λfY=>rfl)
 ·exact e2 (da (dI (dC ..)) (da (sr ..) Am)) (by decide)
end
section
variable{ap:List I}{cl:I->I}{au:I->List I}{l bm:St}{k s w d aC:Nat}{X:cS}{C:aI}{M Q:List (List I)}{t:Bool}
noncomputable def lm(au:I->List I)(M Q:List (List I)):List (Option (List I)):=M.flatMap λa=>Q.map λb=>hi (dn au) a b
noncomputable def gG(au:I->List I)(M Q:List (List I)):List (List I):=(lm au M Q).filterMap id
theorem xN{z:List I}:z∈gG au M Q↔∃a∈M,∃b∈Q,hi (dn au) a b=some z:=by
 unfold gG lm
 simp only[wq,q4,gY,id]
 exact⟨fun⟨A,⟨a,ar,b,ag,e⟩,q⟩=>⟨a,ar,b,ag,e.trans q⟩,fun⟨a,ar,b,ag,e⟩=>⟨_,⟨a,ar,b,ag,rfl⟩,e⟩⟩
theorem JV(h:M.length<=2)(k:Q.length<=2):(lm au M Q).length<=4:=by
 have q:(lm au M Q).length=M.length*Q.length:=by
  unfold lm
  induction M with
  |nil=>exact(CH _).symm
  |cons a r aJ=>rw[ua,fN,dC,aJ (da (pR _) h),ks,SY,za]
 exact q▸SQ h k
theorem A3(c8:hI ap (dn au))(cX:dr ap t M)(cB:dr ap t Q):dr ap t (gG au M Q):=λz aZ=>by
 obtain⟨a,ar,b,ag,e⟩:=xN.mp aZ
 have q:=JU c8 ((cX a ar).1.trans (cB b ag).1.symm) (cX a ar).2 (cB b ag).2 e
 exact⟨(Bn q.2.1).trans (cX a ar).1,q.1⟩
theorem Oz(cX:dr ap t M):∀a∈M,a.length=1∨a.length=2:=λa ar=>by rw[(cX a ar).1];cases t;exact .inl rfl;exact .inr rfl
theorem ME{e:bB}{z:Option (List I)}(h:aS X e C l=.ok (kj z) l):aS X (.cmp .IsNot e (.const .none)) C l=.ok (.bool z.isSome) l:=B h (B rfl (by
 cases z with
 |none=>kernel_rfl
 |some z=>kernel_rfl))
theorem GV{A:bB}{x:I}{f:aa}{as:dH}{T:List L}{R:ao L}{ak:St}(K:fi ap cl l k s w)(q:x∉zF)(h:aS X A C l=.ok (.loc k) l)(ar:fn X as C l=.ok T ak)(aK:X.bp X.aC f (.loc k::T) ak=R):aS X (.d2 A x 413 f as) C l=R:=
 bz K.own λm r=>B h (fl (aU r.1.of λeg p z=>by
  rw[xO,p];show((nc l eg).bind _)=_;rw[z]
  exact if_pos (Su.mpr λp aL=>by rw[bne_iff_ne];exact λe=>q ((show zF=m.map (·.1) from r.2.2.2.symm)▸gY.mpr ⟨p,aL,e.symm⟩))) (B ar aK))
theorem po{A:bB}{x:I}{f:aa}{as:dH}{T:List L}{v:L}{ak av:St}(K:fi ap cl l k s w)(q:x∉zF)(h:aS X A C l=.ok (.loc k) l)(ar:fn X as C l=.ok T ak)(aK:X.bp X.aC f (.loc k::T) ak=.ok v av):aS X (.d2 A x 413 f as) C l=.ok v av:=GV K q h ar aK
theorem Yd(Z:List (Option (List I))):Z.flatMap (λz=>cond z.isSome [kj z] [])=rows (Z.filterMap id):=by
 induction Z with
 |nil=>rfl
 |cons z r aJ=>
  rw[ua,aJ]
  cases z <;> rfl
theorem ab7(c8:hI ap (dn au))(K:fi ap cl l k s w)(o:j4 ap cl au)(cX:dr ap t M)(cB:dr ap t Q)(kT:M.length<=2)(kU:Q.length<=2):∃bm,bX table (d+7) aC 187 [.loc k,.tup (rows M),.tup (rows Q)] l=.ok (.tup (rows (iD (dn au) (gG au M Q)))) (l++bm):=by
 have s0:M.flatMap (λa=>Q.flatMap λb=>[kj (hi (dn au) a b)])=(lm au M Q).map kj:=by
  unfold lm;rw[Cu];exact congrArg (M.flatMap ·) (funext λa=>(FS _ _).trans (by rw[lO];rfl))
 have dO:aS ⟨bX table (d+6),aC⟩ (.l0 true (.d2 (.var 0) "common" 413 142 (.cons (.var 3) (.cons (.var 4) .nil))) (.one 3) (.ex (.var 1)) (.one 4) (.ex (.var 2)) .nil) [some (.loc k),some (.tup (rows M)),some (.tup (rows Q)),none,none,none,none] l=.ok (.loc l.length) (l++[.list ((lm au M Q).map kj)]):=by
  refine B (iG rfl ((kG rfl row (λa=>Q.flatMap λb=>[kj (hi (dn au) a b)]) M λa ar=>?_).trans (congrArg (ao.ok · l) s0))) (if_pos (e2 (da (dI (dC ..)) (JV kT kU)) (by decide)))
  exact fl rfl (B rfl (kG rfl row (λb=>[kj (hi (dn au) a b)]) Q λb ag=>fl rfl (rr (tM (T:=[row a,row b]) (f:=142) (x:="common") K (by decide) rfl rfl (DR (d:=d+1) K o (cX a ar).2 (cB b ag).2 ((cX a ar).1.trans (cB b ag).1.symm) (Oz cX a ar))) rfl)))
 have a7:(l++[.list ((lm au M Q).map kj)])[l.length]? =some (.list ((lm au M Q).map kj)):=eM ..
 have pJ:fi ap cl (l++[.list ((lm au M Q).map kj)]) k s w:=K.more
 refine bk [.list ((lm au M Q).map kj)] ?_
 generalize l++[aQ.list ((lm au M Q).map kj)]=gU at dO a7 pJ
 have NJ:(gG au M Q).length<=4:=da (Ia ..) (JV kT kU)
 have d3:aS ⟨bX table (d+6),gU.length⟩ (.comp true (.var 6) (.one 6) (.ex (.var 5)) (.cons (.cmp .IsNot (.var 6) (.const .none)) .nil)) [some (.loc k),some (.tup (rows M)),some (.tup (rows Q)),none,none,some (.loc l.length),none] gU=.ok (.loc gU.length) (gU++[.list (rows (gG au M Q))]):=
  p6 (rt rfl a7) rfl ((kG (here a7) kj (λz=>cond z.isSome [kj z] []) (lm au M Q) λz aZ=>fl rfl (rs (AL (ME rfl)) λfY=>rfl)).trans (congrArg (ao.ok · gU) (Yd _))) (e2 (da (dI (dC ..)) NJ) (by decide))
 refine bz (OO (d:=d) (aC:=gU.length) (v:=.loc gU.length) (pJ.more (bm:=[.list (rows (gG au M Q))])) o (A3 c8 cX cB) (da (z0 _) NJ) (qv (eM ..))) λbm e=>?_
 exact hh rfl rfl (ST (B dO rfl) (iu (jH (po (f:=161) (x:="plain") pJ (by decide) rfl (b9 d3 eW) (e.trans (congrArg (ao.ok _) (fF ..)))) (qA _))))
end
section
variable{ap:List I}{cl:I->I}{au:I->List I}{l bm:St}{k s w d aC:Nat}{X:cS}{C:aI}{M Q:List (List I)}{t:Bool}
theorem acF{e:bB}{W:List L}(h:aS (X.up l.length) e C l=.ok (.loc l.length) (l++[.list W]))(aL:iY W=true):aS X (.c5 (.cmp .NotEq e (.list .nil))) C l=.ok (.bool (!decide (W=[]))) l:=
 jH (bm:=[.list W]++ [.list []]) (B h (B rfl (by
  show opt ((h9 _ _ _).map _) _=_
  rw[z5 (W:=W) (es (eM ..)) (eM ..) aL,fF];rfl))) rfl
noncomputable def vA(au:I->List I)(M Q:List (List I)):List (List I):=M.flatMap λa=>Q.flatMap λb=>cond (hi (dn au) a b).isSome [a] []
theorem PG:M.flatMap (λa=>Q.flatMap λb=>cond (hi (dn au) a b).isSome [row a] [])=rows (vA au M Q):=by
 unfold vA rows
 rw[Cu]
 refine congrArg (M.flatMap ·) (funext λa=>?_)
 rw[Cu]
 exact congrArg (Q.flatMap ·) (funext λb=>by cases hi (dn au) a b <;> rfl)
theorem aeY:rows (vA au M Q)=[]↔gG au M Q=[]:=by
 unfold rows vA
 rw[wm,H6,List.eq_nil_iff_forall_not_mem]
 refine⟨λh z aZ=>?_,λh a ar=>H6.mpr λb ag=>?_⟩
 ·obtain⟨a,ar,b,ag,e⟩:=xN.mp aZ
  have q:=H6.mp (h a ar) b ag
  rw[e] at q;cases q
 ·cases e:hi (dn au) a b with
  |none=>rfl
  |some z=>exact absurd (xN.mpr ⟨a,ar,b,ag,e⟩) (h z)
theorem aeX(K:fi ap cl l k s w)(o:j4 ap cl au)(cX:dr ap t M)(cB:dr ap t Q)(kT:M.length<=2)(kU:Q.length<=2):bX table (d+6) aC 192 [.loc k,.tup (rows M),.tup (rows Q)] l=.ok (.bool (!decide (gG au M Q=[]))) l:=by
 have e8:(rows (vA au M Q)).length<b8:=by
  have ai:∀a,(Q.flatMap λb=>cond (hi (dn au) a b).isSome [row a] []).length<=2:=λa=>da (KR (λb=>wU) Q) kU
  rw[<-PG]
  refine e2 (show _<=4 from ?_) (by decide)
  match M,kT with
  |[],_=>exact iq _
  |[a],_=>exact da (dI (congrArg kr (iK _))) (da (ai a) (by decide))
  |[a,b],_=>
   rw[ua,ua,fN,fN]
   exact pO (ai a) (pO (ai b) (eN 0))
 have dO:aS ⟨bX table (d+5),l.length⟩ (.l0 true (.var 3) (.one 3) (.ex (.var 1)) (.one 4) (.ex (.var 2)) (.cons (.cmp .IsNot (.d2 (.var 0) "common" 413 142 (.cons (.var 3) (.cons (.var 4) .nil))) (.const .none)) .nil)) [some (.loc k),some (.tup (rows M)),some (.tup (rows Q)),none,none] l=.ok (.loc l.length) (l++[.list (rows (vA au M Q))]):=by
  refine B (iG rfl ((kG rfl row (λa=>Q.flatMap λb=>cond (hi (dn au) a b).isSome [row a] []) M λa ar=>?_).trans (congrArg (ao.ok · l) PG))) (if_pos e8)
  exact fl rfl (B rfl (kG rfl row (λb=>cond (hi (dn au) a b).isSome [row a] []) Q λb ag=>fl rfl (rs (AL (ME (tM (T:=[row a,row b]) (f:=142) (x:="common") K (by decide) rfl rfl (DR (d:=d) K o (cX a ar).2 (cB b ag).2 ((cX a ar).1.trans (cB b ag).1.symm) (Oz cX a ar))))) λfY=>rfl)))
 exact hh rfl rfl (iu ((acF (X:=⟨bX table (d+5),aC⟩) dO (x0 _)).trans (congrArg (λc=>ao.ok (L.bool (!c)) l) (decide_eq_decide.mpr aeY))))
noncomputable abbrev gd:=List (Int×I)
noncomputable def d7(W:gd):aQ:=.b5 (W.map λp=>([.int p.1,.str p.2],.bool true))
theorem QV(p:Int×I)(W:gd):e6 [L.int p.1,.str p.2] (.bool true) (W.map λp=>([L.int p.1,.str p.2],L.bool true))=(fH p W).map λp=>([L.int p.1,.str p.2],L.bool true):=by
 induction W with
 |nil=>rfl
 |cons q W aJ=>
  by_cases e:q=p
  ·subst e
   rw[show fH q (q::W)=q::W from if_pos y8]
   exact if_pos rfl
  ·have ne:fH p (q::W)=q::fH p W:=by
    unfold fH
    by_cases h:p∈W
    ·rw[if_pos h,if_pos (.tail _ h)]
    ·rw[if_neg h,if_neg λz=>(dU.mp z).elim (λx=>e x.symm) h];rfl
   rw[ne]
   exact(if_neg λz=>e (by injection z with qR i3;injection i3 with i3 _;injection qR with qR;injection i3 with i3;exact S7 qR i3)).trans (congrArg (_ :: ·) aJ)
theorem ahd{W:gd}{cq:Int}{x:I}(K:fi ap cl l k s w)(bS:l[w]? =some (d7 W))(aZ:W.length<b8):bX table (d+1) aC 262 [.loc k,.int cq,.str x] l=.ok .none (l.set w (d7 (fH (cq,x) W))):=by
 have aP:lA aC l (.loc w) (.tup [.int cq,.str x]) (.bool true)=some (l.set w (d7 (fH (cq,x) W))):=by
  show(if hP aC w (.bool true)=false then none else(l[w]?).bind λc3=>(putIn c3 (.tup [.int cq,.str x]) (.bool true)).map (l.set w))=_
  rw[if_neg (by rw[hP,show f0 (.bool true)=true from rfl,pE];exact pC),bS]
  show(putIn (d7 W) (.tup [.int cq,.str x]) (.bool true)).map _=_
  rw[show putIn (d7 W) (.tup [.int cq,.str x]) (.bool true)=some (d7 (fH (cq,x) W)) from(if_pos ⟨rfl,(dC (as:=W) _).symm▸aZ⟩).trans (congrArg (λm=>some (aQ.b5 m)) (QV (cq,x) W))]
  rfl
 exact bz K.own λm r=>JA rfl rfl (ST (GX rfl (zE rfl r.1 r.2.2.1 rfl) (mq (b9 rfl (b9 rfl eW))) aP) rfl)
end
section
variable{ap:List I}{cl:I->I}{au:I->List I}{l bm:St}{k s w d aC:Nat}{X:cS}{C:aI}{M Q cw:List (List I)}{t:Bool}
theorem Ko:h9 l (.tup (rows cw)) (.tup [])=some (decide (cw=[])):=
 (if_pos (by rw[show na (.tup (rows cw))=true from x0 cw,show kS (.tup (rows cw)) (.tup [])=true from by cases cw <;> rfl];rfl)).trans (congrArg some (decide_eq_decide.mpr ⟨λe=>by injection e with e;exact wm.mp e,λe=>by rw[e];rfl⟩))
theorem zS{e:bB}(h:aS X e C l=.ok (.tup (rows cw)) l):aS X (.cmp .Eq e (.tuple .nil)) C l=.ok (.bool (decide (cw=[]))) l:=B h (B (a:=.tup []) rfl (congrArg (λA=>opt (A.map L.bool) l) Ko))
theorem JS{e:bB}(h:aS X e C l=.ok (.tup (rows cw)) l):aS X (.cmp .NotEq e (.tuple .nil)) C l=.ok (.bool (!decide (cw=[]))) l:=B h (B (a:=.tup []) rfl (congrArg (λA=>opt (A.map λr=>L.bool (!r)) l) Ko))
theorem mb{e:bB}(h:aS X e C l=.ok (bY.bJ (.set t M)) l):aS X (.idx e (.const (.int 2))) C l=.ok (.tup (rows M)) l:=B h rfl
theorem OP(m:List (List (List I))):iY (m.map λM=>bY.bJ (.set t M))=true:=by
 induction m with
 |nil=>rfl
 |cons M r aJ=>
  refine gk.mpr ⟨?_,aJ⟩
  show(true&&(true&&((rows M).all (oh 3)&& true)))=true
  rw[HK,Rv,Rv]
  induction M with
  |nil=>rfl
  |cons r M aJ=>
   refine gk.mpr ⟨?_,aJ⟩
   show(r.map L.str).all (oh 2)=true
   induction r with
   |nil=>rfl
   |cons a u aJ=>exact aJ
noncomputable def vE(cw M Q:List (List I)):Bool:=decide (cw=[])&& (!decide (M=[])&& !decide (Q=[]))
noncomputable def sE(c:Bool)(p:Int×I)(W:gd):gd:=cond c (fH p W) W
theorem Ja{a b:bB}{x y:Bool}(ai:aS X a C l=.ok (.bool x) l)(am:aS X b C l=.ok (.bool y) l):aS X (.fm .And (.cons a (.cons b .nil))) C l=.ok (.bool (x&&y)) l:=B ai (by
 cases x with
 |true=>exact B am (by cases y <;> rfl)
 |false=>rfl)
theorem Hl{e text PV:bB}{c:Bool}{W:gd}{cq:Int}{x:I}{R:ao (dg×aI)}{cu:ec}(K:fi ap cl l k s w)(bS:l[w]? =some (d7 W))(aZ:W.length<b8)(bw:aS ⟨bX table (d+1),aC⟩ e C l=.ok (.bool c) l)(bQ:aS ⟨bX table (d+1),aC⟩ (.var 0) C l=.ok (.loc k) l)(aP:aS ⟨bX table (d+1),aC⟩ PV C l=.ok (.int cq) l)(bn:aS ⟨bX table (d+1),aC⟩ text C l=.ok (.str x) l)
 (cz:ff ⟨bX table (d+1),aC⟩ cu C (l.set w (d7 (sE c (cq,x) W)))=R):ff ⟨bX table (d+1),aC⟩ (.cons (.iff e (.cons (.expr (.d2 (.var 0) "warn" 413 262 (.cons PV (.cons text .nil)))) .nil) .nil) cu) C l=R:=by
 cases c with
 |true=>exact ST (AK bw (ST (B (po (T:=[.int cq,.str x]) (f:=262) (x:="warn") K (by decide) bQ (b9 aP (b9 bn eW)) (ahd (d:=d) K bS aZ)) rfl) rfl)) cz
 |false=>exact i6 bw ((congrArg (ff _ cu C) (tN bS)).symm.trans cz)
theorem afZ{W:gd}{cq:Int}(K:fi ap cl l k s w)(bS:l[w]? =some (d7 W))(aZ:W.length<b8):
 bX table (d+2) aC 361 [.loc k,bY.bJ (.set t cw),.tup [bY.bJ (.set t M),bY.bJ (.set t Q)],.int cq] l=.ok (bY.bJ (.set t cw)) (l.set w (d7 (sE (vE cw M Q) (cq,"this is surely empty") W))):=by
 have aG:aS ⟨bX table (d+1),l.length⟩ (.comp false (.var 4) (.one 4) (.ex (.var 2)) (.cons (.cmp .Eq (.idx (.var 4) (.const (.int 2))) (.tuple .nil)) .nil)) [some (.loc k),some (bY.bJ (.set t cw)),some (.tup [bY.bJ (.set t M),bY.bJ (.set t Q)]),some (.int cq),none] l=.ok (.loc l.length) (l++[.list (([M,Q].filter λM=>decide (M=[])).map λM=>bY.bJ (.set t M))]):=
  p6 (m:=[M,Q].map λM=>bY.bJ (.set t M)) (B rfl rfl) rfl ((kG rfl (λM=>bY.bJ (.set t M)) (λM=>cond (decide (M=[])) [bY.bJ (.set t M)] []) [M,Q] λM cX=>fl rfl (rs (AL (zS (mb rfl))) λfY=>rfl)).trans (congrArg (ao.ok · l) (w0 ..))) (e2 (da (dI (dC ..)) (sr ..)) (show 2<b8 by decide))
 have aO:decide ((([M,Q].filter λM=>decide (M=[])).map λM=>bY.bJ (.set t M))=[])=(!decide (M=[])&& !decide (Q=[])):=by
  cases M <;> cases Q <;> rfl
 exact hh rfl rfl (Hl (d:=d) K bS aZ (Ja (zS (mb rfl)) ((NY (X:=⟨bX table (d+1),aC⟩) aG (OP _)).trans (congrArg (λc=>ao.ok (L.bool c) l) aO))) rfl rfl rfl (iu rfl))
theorem zz{dF:L}{cq:Int}:bX table (d+2) aC 375 [.loc k,dF,bY.bJ (.set t M),bY.bJ (.set t Q),.int cq] l=.ok .none l:=by cases t <;> kernel_rfl
end
section
variable{ap:List I}{cl:I->I}{au:I->List I}{l bm:St}{k s w d aC:Nat}{X:cS}{C:aI}{M Q cw:List (List I)}{t:Bool}{W:gd}{cq:Int}
theorem acM{e:bB}{x:Bool}(h:aS X e C l=.ok (.bool x) l):aS X (.not e) C l=.ok (.bool (!x)) l:=B h (by cases x <;> rfl)
theorem mz.set{n:Nat}{D:aa}{m:List (I×L)}{A:aQ}(h:mz l n D m)(bS:l[w]? =some (d7 W)):mz (l.set w A) n D m:=⟨aU h.at_ λeg p q=>bx eg (mp bS p λe=>by cases e) (mp bS q λe=>by cases e)⟩
theorem fi.set{A:aQ}(h:fi ap cl l k s w)(bS:l[w]? =some (d7 W)):fi ap cl (l.set w A) k s w:=
 ⟨⟨bz h.sig.own λm q=>bk m ⟨q.1.set bS,q.2.1,q.2.2.1,ik q.2.2.2 λe af r=>⟨e,af,r.1,mp bS r.2.1 λe=>(by cases e),r.2.2⟩⟩⟩,bz h.own λm q=>bk m ⟨q.1.set bS,q.2⟩⟩
noncomputable def nb(k:Nat)(dF:gx)(t:Bool)(M Q:List (List I))(cq:Int)(x:Option L):aI:=[some (.loc k),some (.str dF.str),some (bY.bJ (.set t M)),some (bY.bJ (.set t Q)),some (.int cq),x]
theorem agV(c8:hI ap (dn au))(K:fi ap cl l k s w)(o:j4 ap cl au)(cX:dr ap t M)(cB:dr ap t Q)(kT:M.length<=2)(kU:Q.length<=2)(bS:l[w]? =some (d7 W))(aZ:W.length<b8):
 bX table (d+8) aC 382 [.loc k,.str gx.meet.str,bY.bJ (.set t M),bY.bJ (.set t Q),.int cq] l=.ok (bY.bJ (.set t (iD (dn au) (gG au M Q)))) (l.set w (d7 (sE (vE (iD (dn au) (gG au M Q)) M Q) (cq,"this is surely empty") W))):=by
 refine bz (ab7 (d:=d) (aC:=l.length) c8 K o cX cB kT kU) λbm e=>?_
 have N:aS ⟨bX table (d+7),aC⟩ (.c5 (.d2 (.var 0) "meet" 413 187 (.cons (.idx (.var 2) (.const (.int 2))) (.cons (.idx (.var 3) (.const (.int 2))) .nil)))) (nb k .meet t M Q cq (some (.int (lh t)))) l=.ok (.tup (rows (iD (dn au) (gG au M Q)))) l:=
  jH (po (f:=187) (x:="meet") K (by decide) rfl (b9 (mb rfl) (b9 (mb rfl) eW)) e) (qA _)
 exact hh rfl rfl (ST (B (po (f:=375) (x:="alike") K (by decide) rfl (b9 rfl (b9 rfl (b9 rfl (b9 rfl eW)))) zz) rfl) (ST (B (B rfl rfl) rfl) (t7 (by kernel_rfl) (po (f:=361) (x:="surely") K (by decide) rfl (b9 (mq (b9 rfl (b9 rfl (b9 N eW)))) (b9 (mq (b9 rfl (b9 rfl eW))) (b9 rfl eW))) (afZ (d:=d+5) K bS aZ)))))
theorem agW(K:fi ap cl l k s w)(o:j4 ap cl au)(cX:dr ap t M)(cB:dr ap t Q)(kT:M.length<=2)(kU:Q.length<=2)(bS:l[w]? =some (d7 W))(aZ:W.length<b8):
 bX table (d+8) aC 382 [.loc k,.str gx.minus.str,bY.bJ (.set t M),bY.bJ (.set t Q),.int cq] l=.ok (bY.bJ (.set t M)) (l.set w (d7 (sE (!decide (M=[])&& (!decide (Q=[])&& !!decide (gG au M Q=[]))) (cq,"nothing is taken off") W))):=by
 have aeR:aS ⟨bX table (d+7),aC⟩ (.not (.d2 (.var 0) "shares" 413 192 (.cons (.idx (.var 2) (.const (.int 2))) (.cons (.idx (.var 3) (.const (.int 2))) .nil)))) (nb k .minus t M Q cq (some (.int (lh t)))) l=.ok (.bool (!!decide (gG au M Q=[]))) l:=
  acM (po (f:=192) (x:="shares") K (by decide) rfl (b9 (mb rfl) (b9 (mb rfl) eW)) (aeX (d:=d+1) K o cX cB kT kU))
 exact hh rfl rfl (ST (B (po (f:=375) (x:="alike") K (by decide) rfl (b9 rfl (b9 rfl (b9 rfl (b9 rfl eW)))) zz) rfl) (ST (B (B rfl rfl) rfl) (i6 (av:=l) (by kernel_rfl) (B (AK (av:=l) (by kernel_rfl) (Hl (d:=d+6) K bS aZ (sF (JS (mb rfl)) (JS (mb rfl)) aeR) rfl rfl rfl (iu (mq (b9 rfl (b9 rfl (b9 (mb rfl) eW))))))) rfl))))
theorem Nd{l:St}{m:List L}:hA l ("list":I) (.tup m)=some (.loc l.length,l++[.list m]):=rfl
theorem QI{dF:gx}(K:fi ap cl l k s w)(o:j4 ap cl au)(cX:dr ap t M)(cB:dr ap t Q)(kT:M.length<=2)(kU:Q.length<=2)(bS:l[w]? =some (d7 W))(aZ:W.length<b8)
 (b0:∀{X:cS}{l:St}{x:Option L},aS X (.cmp .Eq (.var 1) (.const (.str "&"))) (nb k dF t M Q cq x) l=.ok (.bool false) l) (bO:∀{X:cS}{l:St}{x:Option L},aS X (.cmp .Eq (.var 1) (.const (.str "-"))) (nb k dF t M Q cq x) l=.ok (.bool false) l)
 (eJ:∀{X:cS}{l:St},aS X (.fm .And (.cons (.cmp .Eq (.var 1) (.const (.str "++"))) (.cons (.cmp .Lt (.var 5) (.const (.int 2))) .nil))) (nb k dF t M Q cq (some (.int (lh t)))) l=.ok (.bool false) l)
 (gH:∀{X:cS}{l:St}{x:Option L},aS X (.mS (.cons (.var 1) (.cons (.const (.str ": one side is surely empty")) .nil))) (nb k dF t M Q cq x) l=.ok (.str (dF.str ++ ": one side is surely empty")) l):
 bX table (d+8) aC 382 [.loc k,.str dF.str,bY.bJ (.set t M),bY.bJ (.set t Q),.int cq] l=.ok (bY.bJ (.set t (iD (dn au) (M++Q)))) (l.set w (d7 (sE (decide (M=[])!=decide (Q=[])) (cq,dF.str ++ ": one side is surely empty") W))):=by
 have pJ:∀{mN:gd},fi ap cl (l.set w (d7 mN)) k s w:=K.set bS
 generalize u1:l.set w (d7 (sE (decide (M=[])!=decide (Q=[])) (cq,dF.str ++ ": one side is surely empty") W))=gU
 have dP:fi ap cl gU k s w:=u1▸pJ
 have ad:zy (gU++[aQ.list (rows M)]++ [aQ.list (rows Q)]) (.loc gU.length) (.loc (gU++[aQ.list (rows M)]).length)=some (.loc (gU++[aQ.list (rows M)]++ [aQ.list (rows Q)]).length,gU++[aQ.list (rows M)]++ [aQ.list (rows Q)]++ [aQ.list (rows (M++Q))]):=
  (add_lists (es (eM ..)) (eM ..) (e2 (pO (da (dI (dC ..)) kT) (da (dI (dC ..)) kU)) (by decide))).trans (by unfold rows;rw[oH])
 have dl:(eU (M++Q)).length<=4:=da (z0 _) (da (dI fN) (pO kT kU))
 refine bz (OO (d:=d+1) (aC:=gU.length) (t:=t) (v:=.loc (gU++[aQ.list (rows M)]++ [aQ.list (rows Q)]).length) (dP.more.more.more (bm:=[aQ.list (rows (M++Q))])) o (λr h=>(ip.mp h).elim (cX r) (cB r)) dl (qv (eM ..))) λbm e=>?_
 have af:∀bm:St,gU++[aQ.list (rows M)]++ [aQ.list (rows Q)]++ [aQ.list (rows (M++Q))]++ bm=gU++([aQ.list (rows M)]++ [aQ.list (rows Q)]++ [aQ.list (rows (M++Q))]++ bm):=λbm=>by simp only[fF]
 have cZ:aS ⟨bX table (d+7),aC⟩ (.c5 (.d2 (.var 0) "plain" 413 161 (.cons (.bin .Add (.bi "list" (.idx (.var 2) (.const (.int 2)))) (.bi "list" (.idx (.var 3) (.const (.int 2))))) .nil))) (nb k dF t M Q cq (some (.int (lh t)))) gU=.ok (.tup (rows (iD (dn au) (M++Q)))) gU:=
  jH (po (f:=161) (x:="plain") dP (by decide) rfl (b9 (B (nO (mb rfl) Nd) (B (nO (mb rfl) Nd) (congrArg eC ad))) eW) (e.trans (congrArg (ao.ok _) (af bm)))) (qA _)
 exact hh rfl rfl (ST (B (po (f:=375) (x:="alike") K (by decide) rfl (b9 rfl (b9 rfl (b9 rfl (b9 rfl eW)))) zz) rfl) (ST (B (B rfl rfl) rfl) (i6 b0 (i6 bO (i6 eJ (Hl (d:=d+6) K bS aZ (ne_bool (zS (mb rfl)) (zS (mb rfl))) rfl rfl gH (by rw[u1];exact iu (mq (b9 rfl (b9 rfl (b9 cZ eW)))))))))))
end
section
variable{ap:List I}{cl:I->I}{au:I->List I}{l bm:St}{k s w d aC:Nat}{X:cS}{C:aI}{M Q cw:List (List I)}{t:Bool}{W:gd}{cq:Int}{dF:gx}
theorem Jz{d aC:Nat}{f:aa}{dQ:ed}{args:List L}{v:L}{l av:St}(aN:table.lookup f=some dQ)(aO:args.length=dQ.params)(h:ff ⟨bX table d,aC⟩ dQ.body (args.map some++ku (dQ.slots-dQ.params) none) l=.exc v av):bX table (d+1) aC f args l=.exc v av:=
 fl aN ((if_pos aO).trans (by rw[h];rfl))
theorem IK{st:mu}{r:ec}{v:L}{av:St}(h:gz X st C l=.exc v av):ff X (.cons st r) C l=.exc v av:=(congrArg (λq:ao (dg×aI)=>q.bind λp ak=>p.1.go (ff X r p.2 ak) λv=>.ok (.ret v,p.2) ak) h)
theorem RF{e:bB}{v:L}{av:St}(h:aS X e C l=.exc v av):gz X (.expr e) C l=.exc v av:=(congrArg (λq:ao L=>q.bind λx ak=>L.mc (ao.ok (dg.next,C) ak) x) h)
noncomputable def akU(dF:gx):bY->bY->Bool
 |.set t _,.set u _=> !(t==u)|| (match dF,t with |.pp,false=>true |_,_=>false)
 |_,_=>true
theorem TJ{one other:bY}(h:∀t M Q,one=.set t M->other≠.set t Q):bX table (d+3) aC 375 [.loc k,.str dF.str,one.bJ,other.bJ,.int cq] l=.exc (.int cq) l:=by
 cases one with
 |truth=>cases dF <;> kernel_rfl
 |number=>cases dF <;> kernel_rfl
 |set t M=>cases other with
  |truth=>cases dF <;> kernel_rfl
  |number=>cases dF <;> kernel_rfl
  |set u Q=>cases t with
   |true=>cases u with
    |true=>exact absurd rfl (h _ _ _ rfl)
    |false=>cases dF <;> kernel_rfl
   |false=>cases u with
    |false=>exact absurd rfl (h _ _ _ rfl)
    |true=>cases dF <;> kernel_rfl
theorem agR{one other:bY}(K:fi ap cl l k s w)(h:∀t M Q,one=.set t M->other≠.set t Q):bX table (d+8) aC 382 [.loc k,.str dF.str,one.bJ,other.bJ,.int cq] l=.exc (.int cq) l:=
 Jz rfl rfl (IK (RF (GV (f:=375) (x:="alike") K (by decide) rfl (b9 rfl (b9 rfl (b9 rfl (b9 rfl eW)))) (TJ (d:=d+4) h))))
theorem agS(K:fi ap cl l k s w):bX table (d+8) aC 382 [.loc k,.str gx.pp.str,bY.bJ (.set false M),bY.bJ (.set false Q),.int cq] l=.exc (.int cq) l:=by
 have lW:gz ⟨bX table (d+7),aC⟩ (.assign 5 (.idx (.var 2) (.const (.int 1)))) (nb k .pp false M Q cq none) l=.ok (.next,nb k .pp false M Q cq (some (.int 1))) l:=by kernel_rfl
 have r:gz ⟨bX table (d+7),aC⟩ (.iff (.fm .And (.cons (.cmp .Eq (.var 1) (.const (.str "++"))) (.cons (.cmp .Lt (.var 5) (.const (.int 2))) .nil))) (.cons (.raise (.const (.str "++: a set of arity 2 or more is wanted")) (.var 4)) .nil) .nil) (nb k .pp false M Q cq (some (.int 1))) l=.exc (.int cq) l:=by kernel_rfl
 have bW:gz ⟨bX table (d+7),aC⟩ (.expr (.d2 (.var 0) "alike" 413 375 (.cons (.var 1) (.cons (.var 2) (.cons (.var 3) (.cons (.var 4) .nil)))))) (nb k .pp false M Q cq none) l=.ok (.next,nb k .pp false M Q cq none) l:=B (a:=.none) (l:=l) (po (T:=[.str gx.pp.str,bY.bJ (.set false M),bY.bJ (.set false Q),.int cq]) (f:=375) (x:="alike") K (by decide) rfl (b9 rfl (b9 rfl (b9 rfl (b9 rfl eW)))) (zz (d:=d+5) (aC:=aC) (t:=false))) rfl
 exact Jz rfl rfl (ST bW (ST lW (i6 (av:=l) (by kernel_rfl) (i6 (av:=l) (by kernel_rfl) (IK r)))))
noncomputable def j5(au:I->List I)(s:gx):bY->bY->Option (bY×I)
 |.set t M,.set u Q=>yp t u s M (iD (dn au) (gG au M Q)) (iD (dn au) (M++Q)) (vE (iD (dn au) (gG au M Q)) M Q) (!decide (M=[])&& (!decide (Q=[])&& !!decide (gG au M Q=[]))) (decide (M=[])!=decide (Q=[]))
 |_,_=>none
noncomputable def uo(cq:Int):Option (bY×I)->L
 |none=>.tup [.none,.int cq]
 |some p=>p.1.bJ
noncomputable def pW(cq:Int)(W:gd):Option (bY×I)->gd
 |none=>W
 |some p=>if p.2="" then W else fH (cq,p.2) W
theorem agT{one other:bY}(c8:hI ap (dn au))(K:fi ap cl l k s w)(o:j4 ap cl au)(ai:∀t M,one=.set t M->dr ap t M∧M.length<=2)(am:∀t M,other=.set t M->dr ap t M∧M.length<=2)(bS:l[w]? =some (d7 W))(aZ:W.length<b8):
 (bX table (d+8) aC 382 [.loc k,.str dF.str,one.bJ,other.bJ,.int cq] l).oT .none=.ok (.ret (uo cq (j5 au dF one other)),[]) (l.set w (d7 (pW cq W (j5 au dF one other)))):=by
 have same:l.set w (d7 W)=l:=tN bS
 have no:∀{r:ao L},r=.exc (.int cq) l->r.oT .none=.ok (.ret (uo cq none),[]) (l.set w (d7 W)):=fun{r}e=>by rw[e,same];rfl
 have wn:∀{c:Bool}{x:I}{eX:bY},x≠""->sE c (cq,x) W=pW cq W (some (eX,cond c x "")):=fun{c x eX}h=>by
  cases c with
  |true=>exact(if_neg h).symm
  |false=>rfl
 have wP:∀{r:Option (bY×I)},r=none->(∀t M Q,one=.set t M->other≠.set t Q)->(bX table (d+8) aC 382 [.loc k,.str dF.str,one.bJ,other.bJ,.int cq] l).oT .none=.ok (.ret (uo cq r),[]) (l.set w (d7 (pW cq W r))):=fun{r}e h=>by rw[e];exact no (agR K h)
 cases one with
 |truth=>exact wP rfl λt M Q e=>by cases e
 |number=>exact wP rfl λt M Q e=>by cases e
 |set t M=>cases other with
  |truth=>exact wP rfl λt M Q e q=>by cases q
  |number=>exact wP rfl λt M Q e q=>by cases q
  |set u Q=>
   by_cases q:t=u
   ·subst q
    have a:=ai _ _ rfl
    have c:=am _ _ rfl
    cases dF with
    |meet=>rw[show j5 au .meet (.set t M) (.set t Q)=some (bY.set t (iD (dn au) (gG au M Q)),cond (vE (iD (dn au) (gG au M Q)) M Q) ("this is surely empty":I) ("":I)) by cases t <;> rfl,agV c8 K o a.1 c.1 a.2 c.2 bS aZ,wn (by decide)];rfl
    |minus=>rw[show j5 au .minus (.set t M) (.set t Q)=some (bY.set t M,cond (!decide (M=[])&& (!decide (Q=[])&& !!decide (gG au M Q=[]))) ("nothing is taken off":I) ("":I)) by cases t <;> rfl,agW K o a.1 c.1 a.2 c.2 bS aZ,wn (by decide)];rfl
    |plus=>
     rw[show j5 au .plus (.set t M) (.set t Q)=some (bY.set t (iD (dn au) (M++Q)),cond (decide (M=[])!=decide (Q=[])) (gx.plus.str ++ ": one side is surely empty":I) ("":I)) by cases t <;> rfl,
      QI K o a.1 c.1 a.2 c.2 bS aZ (by intros;kernel_rfl) (by intros;kernel_rfl) (by intros;cases t <;> kernel_rfl) (by intros;kernel_rfl),wn (by decide)];rfl
    |pp=>cases t with
     |false=>exact no (agS K)
     |true=>
      rw[show j5 au .pp (.set true M) (.set true Q)=some (bY.set true (iD (dn au) (M++Q)),cond (decide (M=[])!=decide (Q=[])) (gx.pp.str ++ ": one side is surely empty":I) ("":I)) from rfl,
       QI K o a.1 c.1 a.2 c.2 bS aZ (by intros;kernel_rfl) (by intros;kernel_rfl) (by intros;kernel_rfl) (by intros;kernel_rfl),wn (by decide)];rfl
   ·exact wP (by cases t <;> cases u <;> first |rfl |exact absurd rfl q) λc9 hG kq e cm=>by cases e;cases cm;exact q rfl
end
section
variable{ap:List I}{au:I->List I}{M Q aB:List (List I)}{t:Bool}
theorem ab5(c8:hI ap (dn au))(gg:dr ap t aB):jR (dn au) aB=[]↔aB=[]:=by
 refine⟨λh=>?_,λh=>by rw[h];rfl⟩
 have lu:∀n,∀x∈aB,aB.countP (λy=>eD (dn au) x y && !decide (y=x))< n->∃y,y∈jR (dn au) aB:=by
  intro n
  induction n with
  |zero=>exact λx aD h=>absurd h (q8 _)
  |succ n aJ=>
   intro x aD aO
   by_cases q:∀y∈aB,eD (dn au) x y=true->y=x
   ·exact⟨x,FU.mpr ⟨aD,q⟩⟩
   ·have⟨y,bD,b0,bO⟩:∃y∈aB,eD (dn au) x y=true∧y≠x:=lM λz=>q λy bD e=>lM λcm=>z ⟨y,bD,e,cm⟩
    refine aJ y bD (oK (DW (q:=λz=>eD (dn au) x z && !decide (z=x)) (λz aZ e=>?_) ⟨y,bD,by simp,by simp[b0,bO]⟩) (CB aO))
    simp only[gW,pD,decide_eq_false_iff_not] at e |-
    refine⟨GJ c8 (gg x aD).2 (gg y bD).2 (gg z aZ).2 b0 e.1,λcm=>?_⟩
    subst cm
    exact bO (GI c8 (gg y bD).2 (gg z aD).2 e.1 b0)
 cases aB with
 |nil=>rfl
 |cons x r=>
  obtain⟨y,bD⟩:=lu _ x (.head _) (ud _)
  rw[h] at bD;cases bD
theorem PW(F:gX ap au)(cX:dr ap t M):ei au M=[]↔M=[]:=by
 refine⟨λh=>?_,λh=>by rw[h];rfl⟩
 cases M with
 |nil=>rfl
 |cons a r=>
  have q:a∈ei au (a::r):=(ol F cX).mpr ⟨(cX a (.head _)).2,a,.head _,qF F.ord (cX a (.head _)).2⟩
  rw[h] at q;cases q
theorem NG(F:gX ap au)(cX:dr ap t M)(cB:dr ap t Q):∀x∈gG au M Q,∃s∈hB au M Q,eD (dn au) x s=true:=λx aD=>by
 obtain⟨a,ar,b,ag,e⟩:=xN.mp aD
 obtain⟨ai,am,a6⟩:=JU F.ord ((cX a ar).1.trans (cB b ag).1.symm) (cX a ar).2 (cB b ag).2 e
 exact⟨x,q3.mpr ⟨(ol F cX).mpr ⟨ai,a,ar,am⟩,decide_eq_true ((ol F cB).mpr ⟨ai,b,ag,a6⟩)⟩,qF F.ord ai⟩
theorem NH(F:gX ap au)(cX:dr ap t M)(cB:dr ap t Q):∀s∈hB au M Q,∃x∈gG au M Q,eD (dn au) s x=true:=λs aP=>by
 have h:=q3.mp aP
 obtain⟨q,a,ar,c0⟩:=(ol F cX).mp h.1
 obtain⟨_,b,ag,fT⟩:=(ol F cB).mp (of_decide_eq_true h.2)
 obtain⟨z,e,r⟩:=VR F.ord (cX a ar).2 (cB b ag).2 q c0 fT
 exact⟨z,xN.mpr ⟨a,ar,b,ag,e⟩,r⟩
theorem ab6(F:gX ap au)(cX:dr ap t M)(cB:dr ap t Q):lG au (hB au M Q)=iD (dn au) (gG au M Q):=
 (Hm (both_rows F cX) Jw).trans ((FT F.ord (A3 F.ord cX cB).rows (both_rows F cX).rows (NG F cX cB) (NH F cX cB)).symm.trans (Gr F.ord (A3 F.ord cX cB).rows).symm)
theorem UG(F:gX ap au)(cX:dr ap t M)(cB:dr ap t Q):hB au M Q=[]↔gG au M Q=[]:=by
 refine⟨λh=>?_,λh=>?_⟩
 ·cases e:gG au M Q with
  |nil=>rfl
  |cons x r=>obtain⟨s,aP,_⟩:=NG F cX cB x (by rw[e];exact .head _);rw[h] at aP;cases aP
 ·cases e:hB au M Q with
  |nil=>rfl
  |cons x r=>obtain⟨s,aP,_⟩:=NH F cX cB x (by rw[e];exact .head _);rw[h] at aP;cases aP
theorem WQ(F:gX ap au)(cX:dr ap t M)(cB:dr ap t Q):lG au (rq au M Q)=iD (dn au) (M++Q):=by
 have ba:dr ap t (M++Q):=λx aD=>(ip.mp aD).elim (cX x) (cB x)
 refine(Hm (D7 F cX cB) Kk).trans ((FT F.ord (D7 F cX cB).rows ba.rows (λx aD=>?_) λs aP=>?_).trans (Gr F.ord ba.rows).symm)
 ·rcases ip.mp aD with h |h
  ·obtain⟨_,c,aK,r⟩:=(ol F cX).mp h;exact⟨c,pL _ aK,r⟩
  ·obtain⟨_,c,aK,r⟩:=(ol F cB).mp (q3.mp h).1;exact⟨c,wo _ aK,r⟩
 ·rcases ip.mp aP with h |h
  ·exact⟨s,pL _ ((ol F cX).mpr ⟨(cX s h).2,s,h,qF F.ord (cX s h).2⟩),qF F.ord (cX s h).2⟩
  ·refine⟨s,?_,qF F.ord (cB s h).2⟩
   by_cases q:s∈ei au M
   ·exact pL _ q
   ·exact wo _ (q3.mpr ⟨(ol F cB).mpr ⟨(cB s h).2,s,h,qF F.ord (cB s h).2⟩,by rw[decide_eq_false q];rfl⟩)
theorem adG(c8:hI ap (dn au))(gg:dr ap t aB):iD (dn au) aB=[]↔aB=[]:=Gr c8 gg.rows▸ab5 c8 gg
theorem acK(F:gX ap au)(a:dr ap t M)(c:dr ap t Q):(rT au M Q=vE (iD (dn au) (gG au M Q)) M Q∧rT au M Q=(!decide (M=[])&& (!decide (Q=[])&& !!decide (gG au M Q=[]))))∧(decide (ei au M=[])!=decide (ei au Q=[]))=(decide (M=[])!=decide (Q=[])):=by
 unfold rT vE
 rw[decide_eq_decide.mpr (UG F a c),decide_eq_decide.mpr (adG F.ord (A3 F.ord a c)),decide_eq_decide.mpr (PW F a),decide_eq_decide.mpr (PW F c)]
 cases decide (M=[])<;> cases decide (Q=[])<;> cases decide (gG au M Q=[])<;> exact⟨⟨rfl,rfl⟩,rfl⟩
theorem WA{s:gx}{one other:bY}(F:gX ap au)(ai:∀t M,one=.set t M->dr ap t M)(am:∀t M,other=.set t M->dr ap t M):p' au s one other=j5 au s one other:=by
 cases one with
 |truth=>rfl
 |number=>rfl
 |set t M=>cases other with
  |truth=>rfl
  |number=>rfl
  |set u Q=>
   show yp t u s M _ _ _ _ _=yp t u s M _ _ _ _ _
   by_cases q:t=u
   ·subst q
    have a:=ai _ _ rfl
    have c:=am _ _ rfl
    have n:=acK F a c
    rw[ab6 F a c,WQ F a c,n.2,<-n.1.1,<-n.1.2]
   ·unfold yp
    rw[beq_eq_false_iff_ne.mpr q]
end
structure ee where
 dF:gx
 one:bY
 other:bY
 cq:Int
noncomputable def ee.bJ(q:ee):L:=.tup [.str q.dF.str,q.one.bJ,q.other.bJ,.int q.cq]
def KdS(ap:List I)(eX:bY):Prop:=∀t M,eX=.set t M->dr ap t M∧M.length<=2
section
variable{ap:List I}{cl:I->I}{au:I->List I}{l bm:St}{k s w d aC:Nat}{X:cS}{C:aI}{W:gd}
noncomputable def ee.ja(au:I->List I)(q:ee):L:=uo q.cq (j5 au q.dF q.one q.other)
noncomputable def ee.wn(au:I->List I)(q:ee)(W:gd):gd:=pW q.cq W (j5 au q.dF q.one q.other)
theorem TO{q:ee}(c8:hI ap (dn au))(K:fi ap cl l k s w)(o:j4 ap cl au)(ai:KdS ap q.one)(am:KdS ap q.other)(bS:l[w]? =some (d7 W))(aZ:W.length<b8):
 bX table (d+9) aC 632 [.loc k,q.bJ] l=.ok (q.ja au) (l.set w (d7 (q.wn au W))):=by
 have u:gz ⟨bX table (d+8),aC⟩ (.unpack [2,3,4,5] (.var 1)) [some (.loc k),some q.bJ,none,none,none,none,none] l=.ok (.next,[some (.loc k),some q.bJ,some (.str q.dF.str),some q.one.bJ,some q.other.bJ,some (.int q.cq),none]) l:=B rfl (fl rfl rfl)
 exact hh rfl rfl (ST u (B ((congrArg (ao.oT .none) (GV (f:=382) (x:="of_two_sets") K (by decide) rfl (b9 rfl (b9 rfl (b9 rfl (b9 rfl eW)))) rfl)).trans (agT (d:=d) c8 K o ai am bS aZ)) rfl))
theorem N6(q:ee):f0 (q.ja au)=true:=by
 have h:∀eX:bY,f0 eX.bJ=true:=λeX=>by
  cases eX with
  |truth=>rfl
  |number=>rfl
  |set t M=>exact(show(true&&(true&&(f0 (.tup (rows M))&& true)))=true by rw[qA];rfl)
 unfold ee.ja
 cases j5 au q.dF q.one q.other with
 |none=>rfl
 |some p=>exact h p.1
noncomputable def hr(au:I->List I)(bR:List ee)(W:gd):gd:=bR.foldl (λW q=>q.wn au W) W
theorem TF{cp:Type} [DecidableEq cp]{p:cp}{W:List cp}:(fH p W).length<=W.length+1:=by
 unfold fH
 by_cases q:p∈W
 ·rw[if_pos q];exact pR _
 ·rw[if_neg q];exact dI fN
theorem QU{q:ee}:(q.wn au W).length<=W.length+1:=by
 unfold ee.wn
 cases j5 au q.dF q.one q.other with
 |none=>exact pR _
 |some p=>
  show(if p.2="" then W else fH (q.cq,p.2) W).length<=_
  by_cases e:p.2=""
  ·rw[if_pos e];exact pR _
  ·rw[if_neg e];exact TF
theorem T9{N:Nat}{m:List L}{f:L->St->ao (List L)}(c8:hI ap (dn au))(o:j4 ap cl au)(bR:List ee)(a7:∀q∈bR,KdS ap q.one∧KdS ap q.other)
 (aG:∀(q:ee)(l av:St),aS ⟨bX table (d+9),l.length⟩ (.call "_law_answer" 632 (.cons (.const (.loc k)) (.cons (.const q.bJ) .nil))) [] l=.ok (q.ja au) av->av.length=l.length->f q.bJ l=.ok [q.ja au] av):
 ∀{l:St}{W:gd},fi ap cl l k s w->l[w]? =some (d7 W)->l[N]? =some (.list m)->W.length+bR.length<b8->j9 f (some (N,.list m)) (bR.map ee.bJ) l=.ok (bR.map (ee.ja au)) (l.set w (d7 (hr au bR W))):=by
 induction bR with
 |nil=>exact fun{l W}K bS hm aZ=>(if_pos (here hm)).trans (congrArg (ao.ok []) (tN bS).symm)
 |cons q bR aJ=>
  intro l W K bS hm aZ
  have a:=a7 q (.head _)
  have e:=TO (d:=d) (aC:=l.length) c8 K o a.1 a.2 bS (e2 (pQ ..) aZ)
  have mZ:(l.set w (d7 (q.wn au W)))[w]? =some (d7 (q.wn au W)):=pq bS
  have i:=aJ (λq h=>a7 q (.tail _ h)) (K.set bS) mZ (mp bS hm λe=>by cases e) (cf [_,_,_,_] 1 (Ns (.add al ax)) aT 1 (Ns (.add cs (Ns ax))) aT 1 al (Ns cs) rfl aZ QU)
  rw[su] at i
  exact(if_pos (here hm)).trans (iG (aG q l _ (jA (b9 rfl (b9 rfl eW)) e) (la ..)) (iG i rfl))
end
noncomputable def qC(F:e')(a:I):I:=(F.lookup a).getD ""
noncomputable def vN(p:I->I):Nat->I->List I
 |0,_=>[]
 |n+1,a=>if p a="" then[] else p a::vN p n (p a)
noncomputable def D9(p:I->I):Nat->I->Bool
 |0,_=>false
 |n+1,a=>decide (p a="")|| D9 p n (p a)
theorem ag6{p:I->I}:∀{n:Nat}{a:I},D9 p n a=true->pU p a (vN p n a):=fun{n}=>by
 induction n with
 |zero=>exact fun{a}h=>by cases h
 |succ n aJ=>
  intro a h
  show pU p a (if p a="" then[] else p a::vN p n (p a))
  by_cases q:p a=""
  ·rw[if_pos q];exact .top q
  ·rw[if_neg q]
   exact .step q (aJ ((Rt.mp h).resolve_left λz=>q (of_decide_eq_true z)))
noncomputable def Ei(ap:List I)(le:I->I->Bool):Bool:=
 ap.all (λa=>le a a && !decide (a=("":I))&& ap.all λb=>(!le a b || !le b a||decide (a=b))&& ap.all λc=>(!le a b || !le b c||le a c)&& (!le c a || !le c b||le a b||le b a))
theorem XN{ap:List I}{le:I->I->Bool}(h:Ei ap le=true):hI ap le:=by
 simp only[Ei,i8,gW,Cb,pD,decide_eq_true_eq,decide_eq_false_iff_not] at h
 refine⟨λa ar=>(h a ar).1.1,λa ar b ag x y=>?_,λa ar b ag c aK x y=>?_,λa ar b ag c aK x y=>?_,λar=>(h _ ar).1.2 rfl⟩
 ·have:=((h a ar).2 b ag).1
  simpa[x,y] using this
 ·have:=(((h a ar).2 b ag).2 c aK).1
  simpa[x,y] using this
 ·have:=(((h a ar).2 b ag).2 c aK).2
  simpa[x,y] using this
noncomputable def K5(F:e'):Bool:=
 Ei (bl F) (dn (gs F))&& decide (eE ig (bl F)=bl F)&& pP (bl F).length 5&&pP 1 (bl F).length &&
 (bl F).all λa=>D9 (qC F) 6 a&&(vN (qC F) 6 a).all (λb=>decide (b∈bl F))&& pP (gs F a).length 5&&(gs F a).all (λb=>decide (b∈bl F))&& pP (vN (qC F) 6 a).length 99 &&
  (bl F).all λb=>(decide (a=b)|| decide (b∈vN (qC F) 6 a))== dn (gs F) a b
theorem Yc:hj.all K5=true:=by kernel_rfl
structure RI(F:e'):Prop where
 fst:gX (bl F) (gs F)
 up:j4 (bl F) (qC F) (gs F)
 By:eE ig (bl F)=bl F
 pos:0<(bl F).length
theorem Ep{F:e'}(h:F∈hj):RI F:=by
 have h:=i8.mp Yc F h
 simp only[K5,gW] at h
 obtain⟨⟨⟨⟨ai,am⟩,a6⟩,c2⟩,fc⟩:=h
 have g:=i8.mp fc
 simp only[gW] at g
 exact⟨⟨XN ai,λb ag a ar=>of_decide_eq_true (i8.mp (g b ag).1.1.2 a ar),q7 a6,λb ag=>q7 (g b ag).1.1.1.2⟩,
  λa ar=>⟨_,ag6 (g a ar).1.1.1.1.1,λb ag=>ag.elim (λe=>e▸ar) λag=>of_decide_eq_true (i8.mp (g a ar).1.1.1.1.2 b ag),zd (q7 (g a ar).1.2),λb ag=>eq_of_beq (i8.mp (g a ar).2 b ag)⟩,
  of_decide_eq_true am,q7 c2⟩
section
variable{F:e'}{c4:aQ×aQ}{bW ct cH dc ej:aQ}
noncomputable def FI(F:e'):List (I×L):=(bl F).zipIdx.map λp=>(p.1,.loc (4+p.2))
theorem abH:hj.map (λF=>((base F c4 bW ct cH dc)[(bl F).length+5]?,(FI F).map (·.1),(bl F).map λa=>((FI F).lookup a).bind λv=>(rj v).bind λj=>(base F c4 bW ct cH dc)[j]?))
 =hj.map λF=>(some (.cj (FI F)),bl F,(bl F).map λa=>some (.list ((gs F a).map .str))):=by kernel_rfl
theorem xH(h:F∈hj):f2 (bl F) (gs F) ((bl F).length+5) (base F c4 bW ct cH dc)∧q6 (bl F) ((bl F).length+5) (base F c4 bW ct cH dc):=by
 have e:=mB.mp (abH (c4:=c4) (bW:=bW) (ct:=ct) (cH:=cH) (dc:=dc)) F h
 have a3:=congrArg S8 e
 have a4:=congrArg (λp=>p.2.1) e
 have cI:=mB.mp (congrArg (λp=>p.2.2) e)
 refine⟨⟨bx _ a3 λa ar=>?_⟩,⟨bx _ a3 a4,(Ep h).By⟩⟩
 obtain⟨v,ai,am⟩:=mF.mp (cI a ar)
 obtain⟨j,a6,c2⟩:=mF.mp am
 exact bx j (wL a6▸ai) c2
noncomputable def tP(F:e')(c4:aQ×aQ)(bW ct cH dc ej:aQ):St:=base F c4 bW ct cH dc++objs F ((bl F).length+12) (bl F).length ej
noncomputable def PI(aB k:Nat):List (I×L):=[("entries",.loc (aB+2)),("stands",.loc (aB+3)),("opened",.loc (aB+4)),("ordered",.loc (aB+5)),("own_fields",.loc (aB+7+k))]
noncomputable def MU(aB k:Nat):List (I×L):=[("signatures",.loc (aB+1)),("known_columns",.loc (aB+11+k)),("known_fields",.loc (aB+12+k)),("begun_fields",.loc (aB+13+k)),("warnings",.loc (aB+14+k)),("height",.int 0)]
noncomputable def FM(l:St)(aB k:Nat):List (Option aQ):=[l[aB+1]?,l[aB]?,l[aB+2]?,l[aB+10+k]?,l[aB+9+k]?,l[aB+14+k]?]
noncomputable def shown(F:e')(aB k:Nat)(ej:aQ):List (Option aQ):=[some (.inst 582 aB),some (.cj (PI aB k)),some (.cj ((bl F).map λa=>(a,qq F a))),some (.inst 413 (aB+9+k)),some (.cj (MU aB k)),some ej]
theorem Ol:hj.map (λF=>(FM (tP F c4 bW ct cH dc ej) ((bl F).length+12) (bl F).length,(bl F).map λa=>((bl F).map λa=>(a,qq F a)).lookup a))
 =hj.map λF=>(shown F ((bl F).length+12) (bl F).length ej,(bl F).map λa=>some (qq F a)):=by kernel_rfl
theorem MX{l:St}{aB k:Nat}(ai:FM l aB k=shown F aB k ej)(am:∀a∈bl F,((bl F).map λa=>(a,qq F a)).lookup a=some (qq F a)):fi (bl F) (qC F) l (aB+10+k) (aB+1) (aB+14+k)∧l[aB+14+k]? =some ej:=by
 injection ai with g1 ai
 injection ai with g2 ai
 injection ai with g3 ai
 injection ai with Yj ai
 injection ai with Yk ai
 injection ai with Yl ai
 exact⟨⟨⟨bk (PI aB k) ⟨⟨bx aB g1 g2⟩,(show("parent":I)∉(["entries","stands","opened","ordered","own_fields"]:List I) by decide),(show("above":I)∉(["entries","stands","opened","ordered","own_fields"]:List I) by decide),aB+2,_,rfl,g3,λa ar=>bx _ (am a ar) rfl⟩⟩,bk (MU aB k) ⟨⟨bx _ Yj Yk⟩,rfl,rfl,rfl⟩⟩,Yl⟩
theorem abh(h:F∈hj):fi (bl F) (qC F) (tP F c4 bW ct cH dc ej) ((bl F).length+12+10+(bl F).length) ((bl F).length+12+1) ((bl F).length+12+14+(bl F).length)∧(tP F c4 bW ct cH dc ej)[(bl F).length+12+14+(bl F).length]? =some ej:=by
 have e:=mB.mp (Ol (c4:=c4) (bW:=bW) (ct:=ct) (cH:=cH) (dc:=dc) (ej:=ej)) F h
 exact MX (congrArg S8 e) (mB.mp (congrArg S9 e))
end
section
variable{b:St}{c N d aC:Nat}{cA:List Int}{k:Nat}{F:e'}{X:cS}
theorem adR{x:I}{v:L}{m:List (I×L)}(h:x∉m.map (·.1)):e6 x v m=m++[(x,v)]:=by
 induction m with
 |nil=>rfl
 |cons p r aJ=>exact(if_neg λe=>h (by rw[<-e];exact .head _)).trans (congrArg (p :: ·) (aJ λq=>h (.tail _ q)))
theorem OF(F:e'):((F.map λp=>(p.1,L.str p.2)).map (·.1))=bl F:=lO
theorem adn{x p:I}(h:x∉bl F)(aZ:F.length<b8):lA aC (b++[fL F]) (.loc b.length) (.str x) (.str p)=some (b++[fL (F++[(x,p)])]):=by
 show(if hP aC b.length (.str p)=false then none else((b++[fL F])[b.length]?).bind λc3=>(putIn c3 (.str x) (.str p)).map ((b++[fL F]).set b.length))=_
 rw[if_neg (by rw[hP,show f0 (.str p)=true from rfl,pE];exact pC),eM]
 show(putIn (fL F) (.str x) (.str p)).map _=_
 rw[show putIn (fL F) (.str x) (.str p)=some (fL (F++[(x,p)])) from(if_pos (dC (as:=F) _▸aZ)).trans (by rw[adR (OF F▸h),fL,oH];rfl)]
 exact congrArg some (r1 (bm:=[]))
theorem afi{l:St}{n:Nat}{m:List (I×L)}(h:l[n]? =some (.cj m))(aZ:m.length<=63):hA l ("sorted":I) (.loc n)=some (.loc l.length,l++[.list ((eE ig (m.map (·.1))).map .str)]):=
 Du.trans (by rw[MI h,IC,Bt (da (dI (dC ..)) aZ)];rfl)
theorem abE{l:St}{n:Nat}{m:List (I×L)}(h:l[n]? =some (.cj m)):hA l ("len":I) (.loc n)=some (.int m.length,l):=(show hA l ("len":I) (.loc n)=(tn l (.loc n)).map λn=>(L.int n,l) from rfl).trans (by rw[tn,h];rfl)
noncomputable abbrev Kg:bB:=.c5 (.idx (.bi "sorted" (.var 1)) (.call "_law_shake" 593 (.cons (.var 0) (.cons (.bi "len" (.var 1)) .nil))))
theorem Ww{aF:Option L}(Q:hH b c N cA k)(bQ:0<F.length)(aZ:F.length<=60):∃p,p∈bl F∧aS ⟨bX table (d+1),aC⟩ Kg [some (.loc c),some (.loc b.length),aF] (b++[fL F])=.ok (.str p) (b.set c (dX N (k+1))++ [fL F]):=by
 have a7:(b++[fL F])[b.length]? =some (fL F):=eM ..
 have aN:(F.map λp=>(p.1,L.str p.2)).length=F.length:=dC ..
 have b0:=afi (m:=F.map λp=>(p.1,L.str p.2)) a7 (aN.symm▸da aZ (by decide))
 rw[OF] at b0
 refine cr (tO (d:=d) (aC:=(b++[fL F]).length) (j:=F.length) ((Q.more (bm:=[fL F])).more (bm:=[.list ((eE ig (bl F)).map .str)])) ⟨HT.mpr bQ,(show((F.length:Nat):Int)< ((1000000:Nat):Int) from HT.mpr (e2 aZ (by decide)))⟩) λr e oi eu=>?_
 have e8:(eE ig (bl F)).length=F.length:=(i0 _).length_eq.trans (dC ..)
 refine aU (Nc (x:=eE ig (bl F)) oi (e8.symm▸eu)) λp aL q=>bx p ((i0 _).mem_iff.mp aL) ?_
 rw[show(b++[fL F]++ [aQ.list ((eE ig (bl F)).map L.str)]).set c (dX N (k+1))=b.set c (dX N (k+1))++ [fL F]++ [aQ.list ((eE ig (bl F)).map L.str)] by rw[fF,y' _ _ Q.lt,fF]] at e
 have Ni:(b.set c (dX N (k+1))++ [fL F]).length=(b++[fL F]).length:=by rw[fN,fN,la]
 have bO:hA (b++[fL F]++ [aQ.list ((eE ig (bl F)).map L.str)]) ("len":I) (.loc b.length)=some (.int F.length,b++[fL F]++ [aQ.list ((eE ig (bl F)).map L.str)]):=(abE (es a7)).trans (by rw[aN])
 exact sU (B (nO rfl b0) (B (jA (b9 rfl (b9 (nO rfl bO) eW)) e) (by
  show opt (((b.set c (dX N (k+1))++ [fL F]++ [aQ.list ((eE ig (bl F)).map L.str)])[(b++[fL F]).length]?).bind (te (.int r))) _=_
  rw[<-Ni,eM]
  show opt (j6 ((eE ig (bl F)).map L.str) r) _=_
  rw[q];rfl))) Ni rfl
theorem aeI{A k v:bB}{C:aI}{l ak av:St}{x y z:L}(ai:aS X v C l=.ok x ak)(am:aS X A C ak=.ok y ak)(a6:aS X k C ak=.ok z ak)(c2:lA X.aC ak y z x=some av):gz X (.setItem A k v) C l=.ok (.next,C) av:=B ai (B am (B a6 (congrArg (optN C) c2)))
noncomputable def Aj(d6:List e')(name:I):List e':=d6.flatMap λcl=>(bl cl).map λp=>cl++[(name,p)]
theorem Ym(m:List I):∀{S b1:List e'},(∀x∈S,x∈b1)->∀x∈m.foldl Aj S,x∈m.foldl Aj b1:=by
 induction m with
 |nil=>exact λh=>h
 |cons a m aJ=>exact λh=>aJ λx aD=>aU (q4.mp aD) λy bD q=>q4.mpr (bx y (h y bD) q)
theorem adm(m:List I):∀{b:St}{k:Nat}{F:e'}{aF:Option L},hH b c N cA k->0<F.length->F.length+m.length<=60->k+m.length<998->(∀x∈m,x∉bl F)->m.Nodup->
 ∃qY vY,qY∈m.foldl Aj [F]∧
  jG (kK (.one 2) (ff ⟨bX table (d+1),aC⟩ (.cons (.setItem (.var 1) (.var 2) Kg) .nil))) none (m.map .str) [some (.loc c),some (.loc b.length),aF] (b++[fL F])=.ok (.next,[some (.loc c),some (.loc b.length),vY]) (b.set c (dX N (k+m.length))++ [fL qY]):=by
 induction m with
 |nil=>exact fun{b k F aF}Q bQ aZ aM aO pe=>qx F aF (.head _) ((if_pos rfl).trans (congrArg (λs=>ao.ok _ (s++[fL F])) (tN Q.ix).symm))
 |cons x m aJ=>
  intro b k F aF Q bQ aZ aM aO pe
  refine aU (Ww (d:=d) (aC:=aC) (aF:=some (.str x)) Q bQ (by rw[ks] at aZ;exact b6 [_,_] 1 al (.num 60) 1 (.add al (Ns ax)) (.num 60) rfl aZ)) λp aL e=>?_
  have kq:=Q.on (A:=dX N k) (by rw[ks] at aM;exact b6 [_,_] 1 (Ns (Ns al)) (.num 1000) 1 (Ns (.add al (Ns ax))) (.num 998) rfl aM)
  have aN:(b.set c (dX N (k+1))).length=b.length:=la ..
  have s:=adn (b:=b.set c (dX N (k+1))) (aC:=aC) (p:=p) (aO x (.head _)) (e2 (da (pQ ..) aZ) (by decide))
  rw[aN] at s
  have dz:bl (F++[(x,p)])=bl F++[x]:=oH
  have pe:=mC.mp pe
  rw[ks] at aZ aM
  refine k5 (aJ (F:=F++[(x,p)]) (aF:=some (.str x)) kq (by rw[fN];exact S1 _) (by rw[fN];show F.length+1+m.length<=60;exact b6 [_,_] 1 (.add (Ns al) ax) (.num 60) 1 (.add al (Ns ax)) (.num 60) rfl aZ) (b6 [_,_] 1 (Ns (.add (Ns al) ax)) (.num 998) 1 (Ns (.add al (Ns ax))) (.num 998) rfl aM) (λy bD q=>by
   rw[dz] at q
   exact(ip.mp q).elim (aO y (.tail _ bD)) λz=>pe.1 (gu.mp z▸bD)) pe.2) λqY vY ai am=>?_
  rw[aN,su] at am
  refine qx qY vY (Ym m (λz aZ=>gu.mp aZ▸q4.mpr (bx F (.head _) (gY.mpr (bx p aL rfl)))) qY ai) ((if_pos rfl).trans (B (fl rfl (ST (aeI e rfl rfl s) rfl)) (am.trans ?_)))
  rw[show k+1+m.length=k+(x::m).length from(Il k 1 _).trans (congrArg (k + ·) (za 1 _))]
end
section
variable{b:St}{c N d aC:Nat}{cA:List Int}{k:Nat}{F:e'}{X:cS}
noncomputable def qZ:e':=[("A",""),("B","")]
theorem V8{r:Int}(bQ:0<=r)(a6:r<3):∃n x,(n=1∨n=2∨n=3)∧(∀l,yg l (.str "CDE") .none (.int (1+r))=some (.str x,l))∧∀l,ob l (.str x)=some ((mP.take n).map .str,none):=by
 obtain e |e |e:r=0∨r=1∨r=2:=by omega
 ·subst e;exact kV 1 "C" (.inl rfl) (λl=>by kernel_rfl) λl=>by kernel_rfl
 ·subst e;exact kV 2 "CD" (.inr (.inl rfl)) (λl=>by kernel_rfl) λl=>by kernel_rfl
 ·subst e;exact kV 3 "CDE" (.inr (.inr rfl)) (λl=>by kernel_rfl) λl=>by kernel_rfl
theorem VE:∀n,(mP.take n).Nodup:=λn=>akr (List.take_sublist n mP) (by decide)
theorem VD:∀n,∀x∈mP.take n,x∉bl qZ:=λn x h=>(show ∀x∈mP,x∉bl qZ by decide) x (Ie h)
theorem aaw{n:Nat}(aO:n=1∨n=2∨n=3)(h:F∈(mP.take n).foldl Aj [qZ]):F∈hj:=
 q4.mpr (bx n (by rcases aO with e |e |e <;> subst e <;> decide) h)
theorem adq(Q:hH b c N cA k)(aM:k<990):∃F cg,F∈hj∧(k<=cg∧cg<=k+4)∧bX table (d+2) aC 600 [.loc c] b=.ok (.loc b.length) (b.set c (dX N cg)++ [fL F]):=by
 refine cr (tO (d:=d) (aC:=aC) (j:=3) (Q.more (bm:=[fL qZ])) ⟨by decide,by decide⟩) λr e oi qE=>?_
 rw[y' _ _ Q.lt] at e
 refine eL (V8 oi qE) λn x aO f1 iZ=>?_
 have kq:=Q.on (A:=dX N k) (b6 [_] 1 (Ns (Ns al)) (.num 1000) 1 (Ns al) (.num 990) rfl aM)
 have aN:(b.set c (dX N (k+1))).length=b.length:=la ..
 have qz:(mP.take n).length<=3:=da (List.length_take_le' ..) (eN 3)
 refine k5 (adm (d:=d) (aC:=aC) (k:=k+1) (mP.take n) (F:=qZ) (aF:=none) kq (by decide) (show 2+(mP.take n).length<=60 by exact b6 [_] 1 (.add (.num 2) al) (.num 60) 1 al (.num 3) rfl qz) (cf [_,_] 1 (Ns (.add (Ns al) ax)) (.num 998) 1 (Ns al) (.num 990) 1 ax (.num 3) rfl aM qz) (VD n) (VE n)) λF vY ai am=>?_
 rw[aN,su] at am
 have bW:gz ⟨bX table (d+1),aC⟩ (.assign 1 (.km ["A","B"] (.cons (.const (.str "")) (.cons (.const (.str "")) .nil)))) [some (.loc c),none,none] b=.ok (.next,[some (.loc c),some (.loc b.length),none]) (b++[fL qZ]):=by kernel_rfl
 have it:l1 ⟨bX table (d+1),aC⟩ (.ex (.slice (.const (.str "CDE")) (.const .none) (.bin .Add (.const (.int 1)) (.call "_law_shake" 593 (.cons (.var 0) (.cons (.const (.int 3)) .nil)))))) [some (.loc c),some (.loc b.length),none] (b++[fL qZ])=.ok ((mP.take n).map .str,none) (b.set c (dX N (k+1))++ [fL qZ]):=
  B (B rfl (B rfl (B (a:=.int (1+r)) (B rfl (B (jA (b9 rfl (b9 rfl eW)) e) rfl)) (congrArg eC (f1 _))))) (congrArg (opt · _) (iZ _))
 exact kV F (k+1+(mP.take n).length) (aaw aO ai) ⟨hJ [_,_] al (.add (Ns al) ax) rfl,b6 [_,_] 1 (.add (Ns al) ax) (.add al (.num 4)) 1 ax (.num 3) rfl qz⟩ (hh rfl rfl (ST bW (ST (rv it rfl am) (iu rfl))))
end
section
variable{F:e'}{c4:aQ×aQ}{bW ct cH dc ej nq:aQ}
noncomputable def Bz(F:e')(c4:aQ×aQ)(bW ct cH dc ej nq:aQ):St:=tP F c4 bW ct cH dc ej++objs F (2*(bl F).length+27) (bl F).length nq
theorem abZ:hj.map (λF=>z7 F (tP F c4 bW ct cH dc ej))=hj.map λF=>.ok (.loc (2*(bl F).length+27+10+(bl F).length)) (Bz F c4 bW ct cH dc ej (.b5 [])):=by kernel_rfl
theorem acX:hj.map (λF=>FM (Bz F c4 bW ct cH dc ej nq) (2*(bl F).length+27) (bl F).length)=hj.map λF=>shown F (2*(bl F).length+27) (bl F).length nq:=by kernel_rfl
theorem abi(h:F∈hj):fi (bl F) (qC F) (Bz F c4 bW ct cH dc ej nq) (2*(bl F).length+27+10+(bl F).length) (2*(bl F).length+27+1) (2*(bl F).length+27+14+(bl F).length)∧(Bz F c4 bW ct cH dc ej nq)[2*(bl F).length+27+14+(bl F).length]? =some nq:=
 MX (mB.mp (acX (c4:=c4) (bW:=bW) (ct:=ct) (cH:=cH) (dc:=dc) (ej:=ej) (nq:=nq)) F h) (mB.mp (congrArg S9 (mB.mp (Ol (c4:=c4) (bW:=bW) (ct:=ct) (cH:=cH) (dc:=dc) (ej:=ej)) F h)))
end
section
variable{F:e'}{c4:aQ×aQ}{bW ct cH dc x:aQ}
noncomputable def pre(F:e')(c4:aQ×aQ)(bW:aQ):St:=[c4.1,c4.2,bW,fL F]++ AX F++[.list ((bl F).map .str),.list ((bl F).map (qq F))]
theorem pZ:base F c4 bW ct cH dc=pre F c4 bW++ct::[cH,dc]:=(fF ([c4.1,c4.2,bW,fL F]++ AX F) [.list ((bl F).map .str),.list ((bl F).map (qq F))] (ct::[cH,dc])).symm
theorem vt:(pre F c4 bW).length=(bl F).length+9:=by
 unfold pre AX
 simp only[fN,dC,ks,y7]
 exact h2 (hJ [_] (.add (.add (Ns (Ns (Ns (Ns en)))) (.add al (Ns (Ns (Ns en))))) (Ns (Ns en))) (.add al (.num 9)) rfl) (hJ [_] (.add al (.num 9)) (.add (.add (Ns (Ns (Ns (Ns en)))) (.add al (Ns (Ns (Ns en))))) (Ns (Ns en))) rfl)
theorem Dl:(base F c4 bW ct cH dc)[(bl F).length+9]? =some ct:=pZ▸vt (F:=F) (c4:=c4) (bW:=bW)▸qe
theorem Up:(base F c4 bW ct cH dc).set ((bl F).length+9) x=base F c4 bW x cH dc:=by rw[pZ,pZ,<-vt (c4:=c4) (bW:=bW),r1]
theorem Gu:pre F c4 bW++ct::[cH,dc]=(pre F c4 bW++[ct])++ cH::[dc]:=(fF (pre F c4 bW) [ct] (cH::[dc])).symm
theorem Dm:(base F c4 bW ct cH dc)[(bl F).length+10]? =some cH:=by
 rw[pZ,Gu,show(bl F).length+10=(pre F c4 bW++[ct]).length from(fN.trans (congrArg (· + 1) vt)).symm];exact qe
theorem Uq:(base F c4 bW ct cH dc).set ((bl F).length+10) x=base F c4 bW ct x dc:=by
 rw[pZ,pZ,Gu,Gu,show(bl F).length+10=(pre F c4 bW++[ct]).length from(fN.trans (congrArg (· + 1) vt)).symm,r1]
theorem Dn:(base F c4 bW ct cH dc)[(bl F).length+11]? =some dc:=by
 rw[pZ,show pre F c4 bW++ct::[cH,dc]=(pre F c4 bW++[ct,cH])++ dc::[] from(fF (pre F c4 bW) [ct,cH] (dc::[])).symm,show(bl F).length+11=(pre F c4 bW++[ct,cH]).length from(fN.trans (congrArg (· + 2) vt)).symm];exact qe
theorem Ur:(base F c4 bW ct cH dc).set ((bl F).length+11) x=base F c4 bW ct cH x:=by
 rw[pZ,pZ,show ∀y,pre F c4 bW++ct::[cH,y]=(pre F c4 bW++[ct,cH])++ y::[] from λy=>(fF (pre F c4 bW) [ct,cH] (y::[])).symm,show(bl F).length+11=(pre F c4 bW++[ct,cH]).length from(fN.trans (congrArg (· + 2) vt)).symm,r1];exact fF (pre F c4 bW) [ct,cH] [x]
theorem Uo:(base F c4 bW ct cH dc).set 2 x=base F c4 x ct cH dc:=rfl
theorem Un{z:aQ}{cA:List Int}{k:Nat}(ai:k<1000):hH (base F (z,.list (cA.map .int)) (dX 1 k) ct cH dc) 2 1 cA k:=⟨rfl,rfl,ai⟩
end
section
variable{ap:List I}{au:I->List I}{b:St}{c N n d aC:Nat}{cA:List Int}{k:Nat}{C:aI}
noncomputable abbrev PJ:bB:=.c5 (.idx (.list (.cons (.const (.str "+")) (.cons (.const (.str "-")) (.cons (.const (.str "&")) (.cons (.const (.str "++")) .nil))))) (.call "_law_shake" 593 (.cons (.var 2) (.cons (.const (.int 4)) .nil))))
theorem Ye{r:Int}(bQ:0<=r)(c2:r<4):∃dF:gx,j6 [L.str "+",.str "-",.str "&",.str "++"] r=some (.str dF.str):=by
 obtain e |e |e |e:r=0∨r=1∨r=2∨r=3:=by omega
 ·subst e;exact bk .plus (by kernel_rfl)
 ·subst e;exact bk .minus (by kernel_rfl)
 ·subst e;exact bk .meet (by kernel_rfl)
 ·subst e;exact bk .pp (by kernel_rfl)
theorem ae1(Q:hH b c N cA k)(am:∀X l,aS X (.var 2) C l=.ok (.loc c) l):∃dF:gx,aS ⟨bX table (d+1),aC⟩ PJ C b=.ok (.str dF.str) (b.set c (dX N (k+1))):=by
 obtain⟨r,e,oi,tG⟩:=tO (d:=d) (aC:=b.length) (j:=4) (Q.more (bm:=[.list [L.str "+",.str "-",.str "&",.str "++"]])) ⟨by decide,by decide⟩
 rw[y' _ _ Q.lt] at e
 refine bz (Ye oi tG) λdF q=>bk dF (sU (B (a:=.loc b.length) (l:=b++[aQ.list [L.str "+",.str "-",.str "&",.str "++"]]) rfl (B (jA (b9 (am _ _) (b9 rfl eW)) e) (by
  show opt (((b.set c (dX N (k+1))++ [aQ.list [L.str "+",.str "-",.str "&",.str "++"]])[b.length]?).bind (te (.int r))) _=_
  rw[show b.length=(b.set c (dX N (k+1))).length from(la ..).symm,eM]
  show opt (j6 [L.str "+",.str "-",.str "&",.str "++"] r) _=_
  rw[q];rfl))) (la ..) rfl)
theorem Ba(eX:bY):f0 eX.bJ=true:=by
 cases eX with
 |truth=>rfl
 |number=>rfl
 |set t M=>exact(show(true&&(true&&(f0 (.tup (rows M))&& true)))=true by rw[qA];rfl)
theorem MW(F:gX ap au)(h:0<ap.length)(H:f2 ap au n b)(cw:q6 ap n b)(Q:hH b c N cA k)(aO:n≠c)(aM:k<980)(am:∀X l,aS X (.var 2) C l=.ok (.loc c) l)(c2:∀X l,aS X (.var 4) C l=.ok (.loc n) l):
 ∃eX cg,q2 ap eX∧(k<=cg∧cg<=k+6)∧aS ⟨bX table (d+2),aC⟩ (.c5 (.call "_law_kind" 620 (.cons (.var 2) (.cons (.var 4) .nil)))) C b=.ok eX.bJ (b.set c (dX N cg)):=by
 obtain⟨eX,cg,bm,g1,g2,e⟩:=abk (d:=d) (aC:=b.length) F h H cw Q aO aM
 exact⟨eX,cg,g1,g2,sU (jA (b9 (am _ _) (b9 (c2 _ _) eW)) e) (la ..) (Ba eX)⟩
theorem WC{dF:gx}{one other:bY}(F:gX ap au)(H:f2 ap au n b)(g1:q2 ap one)(g2:q2 ap other)(c2:∀X l,aS X (.var 4) C l=.ok (.loc n) l)(w8:∀X l,aS X (.var 11) C l=.ok (.str dF.str) l)(Al:∀X l,aS X (.var 12) C l=.ok one.bJ l)(Yw:∀X l,aS X (.var 13) C l=.ok other.bJ l):
 aS ⟨bX table (d+2),aC⟩ (.c5 (.call "_law_due" 625 (.cons (.var 4) (.cons (.var 11) (.cons (.var 12) (.cons (.var 13) .nil)))))) C b=.ok (qa (p' au dF one other)) b:=by
 refine bz (WB (d:=d) (aC:=b.length) (s:=dF) F H g1 g2) λbm e=>jH (jA (b9 (c2 _ _) (b9 (w8 _ _) (b9 (Al _ _) (b9 (Yw _ _) eW)))) e) ?_
 cases p' au dF one other with
 |none=>rfl
 |some p=>exact(show(f0 p.1.bJ&&(true&&true))=true by rw[Ba];rfl)
end
section
variable{X:cS}{C:aI}{l:St}{r:Option (bY×I)}{cq:Int}{W:gd}
theorem aa0{e:bB}(h:aS X e C l=.ok (qa r) l):aS X (.cmp .Is e (.const .none)) C l=.ok (.bool r.isNone) l:=B h (B rfl (by
 cases r with
 |none=>kernel_rfl
 |some p=>kernel_rfl))
theorem MF{e:bB}(h:aS X e C l=.ok (qa r) l):aS X (.cmp .IsNot e (.const .none)) C l=.ok (.bool r.isSome) l:=B h (B rfl (by
 cases r with
 |none=>kernel_rfl
 |some p=>kernel_rfl))
theorem Wy{e s:bB}(h:aS X e C l=.ok (qa r) l)(aP:aS X s C l=.ok (.int cq) l):aS X (.ji (.cmp .Is e (.const .none)) (.tuple (.cons (.const .none) (.cons s .nil))) (.idx e (.const (.int 0)))) C l=.ok (uo cq r) l:=B (aa0 h) (by
 cases r with
 |none=>exact mq (b9 rfl (b9 aP eW))
 |some p=>exact B h rfl)
theorem TN{a b:bB}(h:aS X a C l=.ok (.bool false) l):aS X (.fm .And (.cons a (.cons b .nil))) C l=.ok (.bool false) l:=B h rfl
theorem Wz{e s A:bB}{N:Nat}(h:aS X e C l=.ok (qa r) l)(aP:aS X s C l=.ok (.int cq) l)(az:aS X A C l=.ok (.loc N) l)(hm:l[N]? =some (d7 W))(aZ:W.length<b8):
 gz X (.iff (.fm .And (.cons (.cmp .IsNot e (.const .none)) (.cons (.cmp .NotEq (.idx e (.const (.int 1))) (.const (.str ""))) .nil))) (.cons (.setItem A (.tuple (.cons s (.cons (.idx e (.const (.int 1))) .nil))) (.const (.bool true))) .nil) .nil) C l=.ok (.next,C) (l.set N (d7 (pW cq W r))):=by
 cases r with
 |none=>exact(AJ (TN (MF h)) rfl).trans (congrArg (ao.ok _) (tN hm).symm)
 |some p=>
  have ai:aS X (.idx e (.const (.int 1))) C l=.ok (.str p.2) l:=B h rfl
  have t:=Ja (MF h) (ne_str ai (cm:=.const (.str "")) rfl)
  by_cases q:p.2=""
  ·rw[decide_eq_true q] at t
   exact(AJ t rfl).trans (congrArg (ao.ok _) ((tN hm).symm.trans (congrArg (λw=>l.set N (d7 w)) (show W=pW cq W (some p) from(if_pos q).symm))))
  ·rw[decide_eq_false q] at t
   have aL:lA X.aC l (.loc N) (.tup [.int cq,.str p.2]) (.bool true)=some (l.set N (d7 (pW cq W (some p)))):=by
    show(if hP X.aC N (.bool true)=false then none else(l[N]?).bind λc3=>(putIn c3 (.tup [.int cq,.str p.2]) (.bool true)).map (l.set N))=_
    rw[if_neg (by rw[hP,show f0 (.bool true)=true from rfl,pE];exact pC),hm]
    show(putIn (d7 W) (.tup [.int cq,.str p.2]) (.bool true)).map _=_
    rw[show putIn (d7 W) (.tup [.int cq,.str p.2]) (.bool true)=some (d7 (fH (cq,p.2) W)) from(if_pos ⟨rfl,(dC (as:=W) _).symm▸aZ⟩).trans (congrArg (λm=>some (aQ.b5 m)) (QV (cq,p.2) W)),show pW cq W (some p)=fH (cq,p.2) W from if_neg q]
    rfl
   exact AK t (ST (GX rfl az (mq (b9 aP (b9 ai eW))) aL) rfl)
end
noncomputable abbrev MP:bB:=.c5 (.call "_law_kind" 620 (.cons (.var 2) (.cons (.var 4) .nil)))
noncomputable abbrev QG:ec:=.cons (.assign 11 PJ) (.cons (.jV [12,13,14] (.cons MP (.cons MP (.cons (.bin .Add (.const (.int 10)) (.bin .Mult (.const (.int 3)) (.var 10))) .nil)))) (.cons (.assign 15 (.c5 (.call "_law_due" 625 (.cons (.var 4) (.cons (.var 11) (.cons (.var 12) (.cons (.var 13) .nil))))))) (.cons (.expr (.jQ (.var 7) (.tuple (.cons (.var 11) (.cons (.var 12) (.cons (.var 13) (.cons (.var 14) .nil))))))) (.cons (.expr (.jQ (.var 8) (.ji (.cmp .Is (.var 15) (.const .none)) (.tuple (.cons (.const .none) (.cons (.var 14) .nil))) (.idx (.var 15) (.const (.int 0)))))) (.cons (.iff (.fm .And (.cons (.cmp .IsNot (.var 15) (.const .none)) (.cons (.cmp .NotEq (.idx (.var 15) (.const (.int 1))) (.const (.str ""))) .nil))) (.cons (.setItem (.var 9) (.tuple (.cons (.var 14) (.cons (.idx (.var 15) (.const (.int 1))) .nil))) (.const (.bool true))) .nil) .nil) .nil)))))
section
variable{F:e'}{cA:aQ×List Int}{k:Nat}{bR:List ee}
noncomputable def mn(F:e')(cA:aQ×List Int)(k:Nat)(bR:List ee):St:=base F (cA.1,.list (cA.2.map .int)) (dX 1 k) (.list (bR.map ee.bJ)) (.list (bR.map (ee.ja (gs F)))) (d7 (hr (gs F) bR []))
theorem AT{ap:List I}{eX:bY}(h:q2 ap eX):KdS ap eX:=λt M e=>by subst e;exact h
theorem NB{X:cS}{C:aI}{l av:St}{A a:bB}{n:Nat}{m:List L}{v:L}(h:aS X A C l=.ok (.loc n) l)(aO:l[n]? =some (.list m))(ar:aS X a C l=.ok v l)(aZ:m.length<b8)(ck:f0 v=true)(aP:l.set n (.list (m++[v]))=av):gz X (.expr (.jQ A a)) C l=.ok (.next,C) av:=
 B (a:=.none) (l:=av) (B h (fl (qv aO) (B ar (aP▸Db aO aZ ck)))) rfl
theorem afl{X:cS}{C:aI}{l:St}{e:bB}{ko:Int}(h:aS X e C l=.ok (.int ko) l):aS X (.bin .Add (.const (.int 10)) (.bin .Mult (.const (.int 3)) e)) C l=.ok (.int (10+3*ko)) l:=B (a:=.int 10) (l:=l) rfl (B (oR (i:=3) rfl h (A5 (a:=3) (by decide) (by decide)) rfl) rfl)
theorem KY{au:I->List I}(bR:List ee):∀W:gd,(hr au bR W).length<=W.length+bR.length:=by
 induction bR with
 |nil=>exact λW=>eN _
 |cons q bR aJ=>exact λW=>da (aJ _) (b6 [_,_,_] 1 (.add al ax) (.add aT (Ns ax)) 1 al (Ns aT) rfl (QU (au:=au) (q:=q) (W:=W)))
theorem acH(q:ee):f0 q.bJ=true:=(show(true&&(f0 q.one.bJ&&(f0 q.other.bJ&&(true&&true))))=true by rw[Ba,Ba];rfl)
abbrev wy:Type:=Option L×Option L×Option L×Option L×Option L×Option L×Option L×Option L
noncomputable def ml(F:e')(aj:Option L)(p:wy):aI:=[aj,none,some (.loc 2),some (.loc 3),some (.loc ((bl F).length+5)),none,some (.loc ((bl F).length+8)),some (.loc ((bl F).length+9)),some (.loc ((bl F).length+10)),some (.loc ((bl F).length+11)),p.1,p.2.1,p.2.2.1,p.2.2.2.1,p.2.2.2.2.1,p.2.2.2.2.2.1,p.2.2.2.2.2.2.1,p.2.2.2.2.2.2.2,none,none]
theorem Bw(ai:k<1000):hH (mn F cA k bR) 2 1 cA.2 k:=Un ai
theorem Bx{cg:Nat}:(mn F cA k bR).set 2 (dX 1 cg)=mn F cA cg bR:=Uo
theorem afv{q:ee}:base F (cA.1,.list (cA.2.map .int)) (dX 1 k) (.list (bR.map ee.bJ++[q.bJ])) (.list (bR.map (ee.ja (gs F))++ [q.ja (gs F)])) (d7 (q.wn (gs F) (hr (gs F) bR [])))=mn F cA k (bR++[q]):=by
 unfold mn
 rw[oH,oH,show hr (gs F) (bR++[q]) []=q.wn (gs F) (hr (gs F) bR []) from List.foldl_append]
 rfl
theorem QJ:(2:Nat)≠(bl F).length+5:=λe=>Nat.noConfusion (zf (zf e))
theorem agP(et:F∈hj)(aM:k<960)(a7:bR.length<100){aj:Option L}{p:wy}{ko:Int}:
 ∃q cg bN,(KdS (bl F) q.one∧KdS (bl F) q.other)∧(k<=cg∧cg<=k+13)∧ff ⟨bX table 14,0⟩ QG (ml F aj (some (.int ko),p.2)) (mn F cA k bR)=.ok (.next,ml F aj bN) (mn F cA cg (bR++[q])):=by
 have f:=Ep et
 have Dv:∀{m:List ee},m.length<100->m.length<b8:=λh=>lP h (by decide)
 refine bz (ae1 (d:=13) (aC:=0) (C:=ml F aj (some (.int ko),p.2)) (Bw (F:=F) (cA:=cA) (k:=k) (bR:=bR) (b6 [_] 1 (Ns al) (.num 1000) 1 (Ns al) (.num 960) rfl aM)) (λX l=>rfl)) λdF a3=>?_
 rw[Bx] at a3
 refine eL (MW (d:=12) (aC:=0) (b:=mn F cA (k+1) bR) (C:=ml F aj (some (.int ko),some (.str dF.str),p.2.2)) f.fst f.pos (xH et).1 (xH et).2 (Bw (F:=F) (cA:=cA) (k:=k+1) (bR:=bR) (b6 [_] 1 (Ns (Ns al)) (.num 1000) 1 (Ns al) (.num 960) rfl aM)) QJ.symm (b6 [_] 1 (Ns (Ns al)) (.num 980) 1 (Ns al) (.num 960) rfl aM) (λX l=>rfl) (λX l=>rfl)) λqs cF g1 lr a4=>?_
 rw[Bx] at a4
 refine eL (MW (d:=12) (aC:=0) (b:=mn F cA cF bR) (C:=ml F aj (some (.int ko),some (.str dF.str),p.2.2)) f.fst f.pos (xH et).1 (xH et).2 (Bw (F:=F) (cA:=cA) (k:=cF) (bR:=bR) (cf [_,_] 1 (Ns al) (.num 1000) 1 (Ns ax) (.num 960) 1 al (.add (Ns ax) (.num 6)) rfl aM lr.2)) QJ.symm (cf [_,_] 1 (Ns al) (.num 980) 1 (Ns ax) (.num 960) 1 al (.add (Ns ax) (.num 6)) rfl aM lr.2) (λX l=>rfl) (λX l=>rfl)) λqt cz g2 uW cI=>?_
 rw[Bx] at cI
 have eV:=WC (b:=mn F cA cz bR) (d:=12) (aC:=0) (dF:=dF) (one:=qs) (other:=qt) (C:=ml F aj (some (.int ko),some (.str dF.str),some qs.bJ,some qt.bJ,some (.int (10+3*ko)),p.2.2.2.2.2)) f.fst (xH (c4:=(cA.1,.list (cA.2.map .int))) (bW:=dX 1 cz) (ct:=.list (bR.map ee.bJ)) (cH:=.list (bR.map (ee.ja (gs F)))) (dc:=d7 (hr (gs F) bR [])) et).1 g1 g2 (λX l=>rfl) (λX l=>rfl) (λX l=>rfl) (λX l=>rfl)
 rw[WA (s:=dF) (one:=qs) (other:=qt) f.fst (λt M e=>(AT g1 t M e).1) (λt M e=>(AT g2 t M e).1)] at eV
 exact rR ⟨dF,qs,qt,10+3*ko⟩ cz (some (.int ko),some (.str dF.str),some qs.bJ,some qt.bJ,some (.int (10+3*ko)),some (qa (j5 (gs F) dF qs qt)),p.2.2.2.2.2.2) ⟨AT g1,AT g2⟩ ⟨cf [_,_,_] 1 al ax 1 (Ns al) aT 1 aT ax rfl lr.1 uW.1,cf [_,_,_] 1 al (.add ax (.num 13)) 1 aT (.add (Ns ax) (.num 6)) 1 al (.add aT (.num 6)) rfl lr.2 uW.2⟩ (ST (B a3 rfl) (ST (yw (b9 a4 (b9 cI (b9 (afl rfl) eW))) rfl) (ST (B eV rfl) (ST (NB rfl Dl (mq (b9 rfl (b9 rfl (b9 rfl (b9 rfl eW))))) (dC ee.bJ▸Dv a7) (acH ⟨dF,qs,qt,10+3*ko⟩) Up) (ST (NB rfl Dm (Wy rfl rfl) (dC (ee.ja (gs F))▸Dv a7) (N6 (au:=gs F) ⟨dF,qs,qt,10+3*ko⟩) Uq) (ST (Wz rfl rfl rfl Dn (e2 (KY bR []) ((nD bR.length).symm▸Dv a7))) (congrArg (ao.ok _) (Ur.trans (afv (F:=F) (cA:=cA) (k:=cz) (bR:=bR) (q:=⟨dF,qs,qt,10+3*ko⟩))))))))))
end
section
variable{F:e'}{cA:aQ×List Int}
def yT(F:e')(bR:List ee):Prop:=∀q∈bR,KdS (bl F) q.one∧KdS (bl F) q.other
theorem agQ(et:F∈hj){aj:Option L}(m:List Int):∀{k:Nat}{bR:List ee}{p:wy},yT F bR->k+13*m.length<960->bR.length+m.length<100->
 ∃x4 cg bN,yT F x4∧x4.length=bR.length+m.length∧jG (kK (.one 10) (ff ⟨bX table 14,0⟩ QG)) none (m.map .int) (ml F aj p) (mn F cA k bR)=.ok (.next,ml F aj bN) (mn F cA cg x4):=by
 induction m with
 |nil=>exact fun{k bR p}g aM a7=>rR bR k p g rfl (if_pos rfl)
 |cons i m aJ=>
  intro k bR p g aM a7
  rw[ks] at aM a7
  refine jq (agP (aj:=aj) (p:=p) (ko:=i) (cA:=cA) (k:=k) (bR:=bR) et (b6 [_,_] 1 (Ns al) (.num 960) 1 (Ns (.add al (.mulL 13 (Ns ax)))) (.num 960) rfl aM) (b6 [_,_] 1 (Ns al) (.num 100) 1 (Ns (.add al (Ns ax))) (.num 100) rfl a7)) λq cF cK Ys lr e=>?_
  have aN:(bR++[q]).length=bR.length+1:=fN
  refine jq (aJ (k:=cF) (bR:=bR++[q]) (p:=cK) (λx aD=>(ip.mp aD).elim (g x) λh=>gu.mp h▸Ys) (cf [_,_,_] 1 (Ns (.add al (.mulL 13 ax))) (.num 960) 1 (Ns (.add aT (.mulL 13 (Ns ax)))) (.num 960) 1 al (.add aT (.num 13)) rfl aM lr.2) (cf [_,_,_] 1 (Ns (.add al ax)) (.num 100) 1 (Ns (.add aT (Ns ax))) (.num 100) 1 al (Ns aT) rfl a7 (dI aN))) λx4 cg bN fB Ay cm=>?_
  exact rR x4 cg bN fB (by rw[Ay,aN,ks];exact h2 (hJ [_,_] (.add (Ns al) ax) (.add al (Ns ax)) rfl) (hJ [_,_] (.add al (Ns ax)) (.add (Ns al) ax) rfl)) ((if_pos rfl).trans (B (fl rfl e) cm))
end
section
variable{au:I->List I}{l:St}{i j:Nat}{m:List L}
theorem abe(a:L):kS a a=true:=
 @L.rec (λa=>kS a a=true) (λm=>rO m m=true) rfl (λo=>rfl) (λo=>rfl) (λo=>rfl) (λm h=>h) (λo=>rfl) (λo=>rfl) rfl (λa r h k=>gk.mpr ⟨h,k⟩) a
theorem abp(m:List L):rO m m=true:=abe (.tup m)
theorem Kq(ai:l[i]? =some (.list m))(am:l[j]? =some (.list m))(aL:iY m=true):h9 l (.loc i) (.loc j)=some true:=by
 show((l[i]?).bind λx=>(l[j]?).bind λy=>sQ x y)=_
 rw[ai,am]
 exact(if_pos (by rw[aL,abp];rfl)).trans (congrArg some (decide_eq_true rfl))
theorem adE(eX:bY):oh 5 eX.bJ=true:=by
 cases eX with
 |truth=>rfl
 |number=>rfl
 |set t M=>exact(gk.mp (OP (t:=t) [M])).1
theorem adB(bR:List ee):iY (bR.map (ee.ja au))=true:=by
 induction bR with
 |nil=>rfl
 |cons q bR aJ=>
  refine gk.mpr ⟨?_,aJ⟩
  show oh 5 (uo q.cq (j5 au q.dF q.one q.other))=true
  cases j5 au q.dF q.one q.other with
  |none=>rfl
  |some p=>exact adE p.1
end
section
variable{ap:List I}{cl:I->I}{au:I->List I}{l:St}{k s w N de i d aC:Nat}{W:gd}{C:aI}
noncomputable abbrev Jk(i:Nat):bB:=.c5 (.cmp .NotEq (.comp false (.c5 (.call "_law_answer" 632 (.cons (.var 17) (.cons (.var i) .nil)))) (.one i) (.ex (.var 7)) .nil) (.var 8))
theorem T8(c8:hI ap (dn au))(o:j4 ap cl au)(bR:List ee)(a7:∀q∈bR,KdS ap q.one∧KdS ap q.other)(K:fi ap cl l k s w)(bS:l[w]? =some (d7 W))(hm:l[N]? =some (.list (bR.map ee.bJ)))(gE:l[de]? =some (.list (bR.map (ee.ja au))))(aZ:W.length+bR.length<b8)
 (jc:∀X l,aS X (.var 7) C l=.ok (.loc N) l) (jd:∀X l,aS X (.var 8) C l=.ok (.loc de) l) (w9:∀X l v,aS X (.var 17) ((C.set i none).set i v) l=.ok (.loc k) l) (aR:∀X l v,aS X (.var i) ((C.set i none).set i (some v)) l=.ok v l):
 aS ⟨bX table (d+9),aC⟩ (Jk i) C l=.ok (.bool false) (l.set w (d7 (hr au bR W))):=by
 have c:=T9 (d:=d) (f:=jn (.one i) (C.set i none) (iS (kJ ⟨bX table (d+9),l.length⟩ .nil) (aS ⟨bX table (d+9),l.length⟩ (.c5 (.call "_law_answer" 632 (.cons (.var 17) (.cons (.var i) .nil))))))) c8 o bR a7
  (λq gU av e aN=>fl rfl (rr (sU (bm:=[]) (jA (b9 (w9 _ _ _) (b9 (aR _ _ _) eW)) (show bX table (d+9) gU.length 632 [.loc k,q.bJ] gU=.ok (q.ja au) (av++[]) from e.trans (congrArg _ (iK _).symm))) aN (N6 q)) rfl)) K bS hm aZ
 have aN:(l.set w (d7 (hr au bR W))).length=l.length:=la ..
 have WM:=es (bm:=[aQ.list (bR.map (ee.ja au))]) (mp (ch:=d7 (hr au bR W)) bS gE λe=>by cases e)
 refine sU (bm:=[aQ.list (bR.map (ee.ja au))]) (B (DU (rt (jc _ _) hm) rfl c ?_) (B (jd _ _) (congrArg (λA=>opt (A.map λr=>L.bool (!r)) _) (Kq (eM ..) WM (adB bR))))) aN rfl
 exact e2 (da (dI (dC ..)) (Nat.le_add_left ..)) aZ
end
section
variable{au:I->List I}
theorem aho(q:ee)(W:gd):∀x∈W,x∈q.wn au W:=λx aD=>by
 unfold ee.wn
 cases j5 au q.dF q.one q.other with
 |none=>exact aD
 |some p=>
  show x∈(if p.2="" then W else fH (q.cq,p.2) W)
  by_cases e:p.2=""
  ·rw[if_pos e];exact aD
  ·rw[if_neg e];exact C7.mpr (.inr aD)
theorem ahp(q:ee)(W V:gd)(h:∀x∈q.wn au W,x∈V):q.wn au V=V:=by
 unfold ee.wn at h |-
 cases e:j5 au q.dF q.one q.other with
 |none=>rfl
 |some p=>
  rw[e] at h
  show(if p.2="" then V else fH (q.cq,p.2) V)=V
  by_cases c:p.2=""
  ·exact if_pos c
  ·exact(if_neg c).trans (if_pos (h _ ((show pW q.cq W (some p)=fH (q.cq,p.2) W from if_neg c)▸C7.mpr (.inl rfl))))
theorem X'(bR:List ee):∀W:gd,∀x∈W,x∈hr au bR W:=by
 induction bR with
 |nil=>exact λW x h=>h
 |cons q bR aJ=>exact λW x h=>aJ _ x (aho q W x h)
theorem fold_same(bR:List ee):∀W V:gd,(∀x∈hr au bR W,x∈V)->hr au bR V=V:=by
 induction bR with
 |nil=>exact λW V h=>rfl
 |cons q bR aJ=>
  intro W V h
  have e:=ahp q W V λx aD=>h x (X' bR _ x aD)
  exact(congrArg (hr au bR) e).trans (aJ _ V h)
theorem KZ(bR:List ee)(W:gd):hr au bR (hr au bR W)=hr au bR W:=fold_same bR W _ λx h=>h
end
section
variable{ap:List I}{cl:I->I}{l:St}{k s w j d aC:Nat}{W:gd}{C:aI}{X:cS}
noncomputable def vR(W:gd):List L:=W.map λp=>.tup [.int p.1,.str p.2]
theorem QT{n:Nat}(h:l[n]? =some (d7 W)):hA l ("list":I) (.loc n)=some (.loc l.length,l++[.list (vR W)]):=(show hA l ("list":I) (.loc n)=(dm l (.loc n)).map λp=>kW l (.list p.1) from rfl).trans (by rw[dm,h,show d7 W=.b5 (W.map λp=>([L.int p.1,.str p.2],L.bool true)) from rfl];show some (kW l (.list ((W.map λp=>([L.int p.1,.str p.2],L.bool true)).map λp=>L.tup p.1)))=_;rw[lO];rfl)
theorem adJ(W:gd):iY (vR W)=true:=by
 induction W with
 |nil=>rfl
 |cons p r aJ=>exact gk.mpr ⟨rfl,aJ⟩
theorem ahe(K:fi ap cl l k s w)(bS:l[w]? =some (d7 W))(cy:l[j]? =some (d7 W))(w9:∀X,aS X (.var 17) C l=.ok (.loc k) l)(je:∀X l,aS X (.var 9) C l=.ok (.loc j) l):
 aS X (.c5 (.cmp .NotEq (.bi "list" (.attr (.var 17) "warnings" 413)) (.bi "list" (.var 9)))) C l=.ok (.bool false) l:=
 bz K.own λm r=>jH (bm:=[aQ.list (vR W)]++ [aQ.list (vR W)]) (B (nO (zE (w9 _) r.1 r.2.2.1 rfl) (QT bS)) (B (nO (je _ _) (QT (es cy))) ((congrArg (λA=>opt (CK (λr=>L.bool (!r)) A) (l++[aQ.list (vR W)]++ [aQ.list (vR W)])) (Kq (es (eM ..)) (eM ..) (adJ W))).trans (congrArg (ao.ok (L.bool false)) (fF ..))))) rfl
end
section
variable{ap:List I}{cl:I->I}{au:I->List I}{l:St}{k s w N de j d aC:Nat}{C:aI}{X:cS}
theorem adc{a b:bB}{av B7:St}(ai:aS X a C l=.ok (.bool false) av)(am:aS X b C av=.ok (.bool false) B7):aS X (.fm .Or (.cons a (.cons b .nil))) C l=.ok (.bool false) B7:=B ai (B am rfl)
noncomputable abbrev ahc:bB:=.c5 (.cmp .NotEq (.bi "list" (.attr (.var 17) "warnings" 413)) (.bi "list" (.var 9)))
noncomputable abbrev DO(i:Nat):mu:=.iff (.fm .Or (.cons (Jk i) (.cons ahc .nil))) (.cons (.ret (.const (.bool false))) .nil) .nil
theorem O'{W:gd}{i:Nat}(c8:hI ap (dn au))(o:j4 ap cl au)(bR:List ee)(a7:∀q∈bR,KdS ap q.one∧KdS ap q.other)(K:fi ap cl l k s w)(bS:l[w]? =some (d7 W))(hm:l[N]? =some (.list (bR.map ee.bJ)))(gE:l[de]? =some (.list (bR.map (ee.ja au))))(cy:l[j]? =some (d7 (hr au bR W)))(Zv:j≠w)(aZ:W.length+bR.length<b8)
 (jc:∀X l,aS X (.var 7) C l=.ok (.loc N) l) (jd:∀X l,aS X (.var 8) C l=.ok (.loc de) l) (je:∀X l,aS X (.var 9) C l=.ok (.loc j) l) (w9:∀X l,aS X (.var 17) C l=.ok (.loc k) l) (Yx:∀X l v,aS X (.var 17) ((C.set i none).set i v) l=.ok (.loc k) l) (aR:∀X l v,aS X (.var i) ((C.set i none).set i (some v)) l=.ok v l):
 gz ⟨bX table (d+9),aC⟩ (DO i) C l=.ok (.next,C) (l.set w (d7 (hr au bR W))):=
 AJ (adc (T8 (d:=d) c8 o bR a7 K bS hm gE aZ jc jd Yx aR) (ahe (K.set bS) (pq bS) ((k' Zv.symm).trans cy) (λX=>w9 X _) je)) rfl
end
section
variable{F:e'}{l:St}
theorem acA{aj aq aF bh cO c6 eo fh pz ahR bz aU cr ij lH sb ahS ahT ahU:Option L}:aS ⟨bX table 14,0⟩ m6 [aj,aq,aF,bh,cO,c6,some (.loc ((bl F).length+8)),eo,fh,pz,ahR,bz,aU,cr,ij,lH,sb,ahS,ahT,ahU] l=z7 F l:=rfl
theorem alw{aB k:Nat}{ej:aQ}:(objs F aB k ej).length=k+15:=by
 unfold objs
 simp only[fN,dC,wl,ks,y7]
 exact h2 (hJ [_] (.add (.add (Ns (Ns (Ns (Ns (Ns (Ns (Ns en))))))) al) (Ns (Ns (Ns (Ns (Ns (Ns (Ns (Ns en))))))))) (.add al (.num 15)) rfl) (hJ [_] (.add al (.num 15)) (.add (.add (Ns (Ns (Ns (Ns (Ns (Ns (Ns en))))))) al) (Ns (Ns (Ns (Ns (Ns (Ns (Ns (Ns en))))))))) rfl)
end
section
variable{F:e'}{cA:aQ×List Int}{k:Nat}{bR:List ee}{S cG:St}{dz s w:Nat}
noncomputable abbrev M3:ec:=.cons (.assign 17 m6) (.cons (DO 18) (.cons (DO 19) .nil))
theorem M4(et:F∈hj)(g:yT F bR)(aZ:bR.length<100)(e:z7 F S=.ok (.loc dz) cG)(K:fi (bl F) (qC F) cG dz s w∧cG[w]? =some (d7 []))(jc:cG[(bl F).length+9]? =some (.list (bR.map ee.bJ)))(jd:cG[(bl F).length+10]? =some (.list (bR.map (ee.ja (gs F)))))(je:cG[(bl F).length+11]? =some (d7 (hr (gs F) bR [])))(ne:(bl F).length+11≠w)
 {aj:Option L} {p:wy}:∃bN,ff ⟨bX table 14,0⟩ M3 (ml F aj p) S=.ok (.next,ml F aj bN) (cG.set w (d7 (hr (gs F) bR []))):=by
 have f:=Ep et
 have Mn:(hr (gs F) bR []).length+bR.length<b8:=lP (show _<200 from e2 (Cz (KY bR []) _) (show 0+bR.length+bR.length<200 by exact b6 [_] 1 (Ns (.add (.add en al) al)) (.num 200) 2 (Ns al) (.num 100) rfl aZ)) (by decide)
 have eK:=O' (d:=5) (aC:=0) (i:=19) (W:=hr (gs F) bR []) (C:=(ml F aj p).set 17 (some (.loc dz))) f.fst.ord f.up bR g (K.1.set (A:=d7 (hr (gs F) bR [])) K.2) (pq K.2) (mp K.2 jc λe=>by cases e) (mp K.2 jd λe=>by cases e) (((k' ne.symm).trans je).trans (by rw[KZ])) ne Mn (λX l=>rfl) (λX l=>rfl) (λX l=>rfl) (λX l=>rfl) (λX l v=>rfl) (λX l v=>rfl)
 rw[KZ,su] at eK
 exact bk (p.1,p.2.1,p.2.2.1,p.2.2.2.1,p.2.2.2.2.1,p.2.2.2.2.2.1,p.2.2.2.2.2.2.1,some (.loc dz)) (ST (B (acA.trans e) rfl) (ST (O' (d:=5) (aC:=0) (i:=18) (W:=[]) (C:=(ml F aj p).set 17 (some (.loc dz))) f.fst.ord f.up bR g K.1 K.2 jc jd je ne (e2 (Cz (iq _) _) Mn) (λX l=>rfl) (λX l=>rfl) (λX l=>rfl) (λX l=>rfl) (λX l v=>rfl) (λX l v=>rfl)) (ST eK rfl)))
end
section
variable{F:e'}{cA:aQ×List Int}{k:Nat}{bR:List ee}
theorem afz{c4:aQ×aQ}{bW ct cH dc ej nq:aQ}:hj.map (λF=>(tP F c4 bW ct cH dc ej).set ((bl F).length+12+14+(bl F).length) nq)=hj.map λF=>tP F c4 bW ct cH dc nq:=by kernel_rfl
theorem K2{f:L->aI->St->ao (dg×aI)}{a:L}{m:List L}{C bb:aI}{l av:St}{R:ao (dg×aI)}(h:f a C l=.ok (.next,bb) av)(k:jG f none m bb av=R):jG f none (a::m) C l=R:=(if_pos rfl).trans (B h k)
theorem aby(et:F∈hj)(g:yT F bR)(aZ:bR.length<100){aj:Option L}{p:wy}:∃bb av,gz ⟨bX table 14,0⟩ (.for false (.one 16) (.range (.const (.int 2))) M3) (ml F aj p) (mn F cA k bR)=.ok (.next,bb) av:=
 bz (M4 (aj:=aj) (p:=(p.1,p.2.1,p.2.2.1,p.2.2.2.1,p.2.2.2.2.1,p.2.2.2.2.2.1,some (.int 0),p.2.2.2.2.2.2.2)) et g aZ (mB.mp abY F et) (abh et) (es Dl) (es Dm) (es Dn) (λkp=>nB (b6 [_] 0 ek en 1 (.add (.add (.add al (.num 12)) (.num 14)) al) (.add al (.num 11)) rfl (i7 kp)))) λcK cQ=>bz (M4 (aj:=aj) (p:=(cK.1,cK.2.1,cK.2.2.1,cK.2.2.2.1,cK.2.2.2.2.1,cK.2.2.2.2.2.1,some (.int 1),cK.2.2.2.2.2.2.2)) et g aZ (mB.mp abZ F et) (abi et) (es (es Dl)) (es (es Dm)) (es (es Dn)) (λkp=>nB (b6 [_] 0 ek en 1 (.add (.add (.add (.mulL 2 al) (.num 27)) (.num 14)) al) (.add al (.num 11)) rfl (i7 kp)))) λel cM=>b2 _ _ (rv (m:=[.int 0,.int 1]) (g:=none) rfl rfl (K2 (fl rfl (cQ.trans (congrArg (ao.ok _) (mB.mp afz F et)))) (K2 (fl rfl cM) (if_pos rfl))))
end
noncomputable def uF:bB:=.bin .Mod (.bi "int" (.var 1)) (.const (.int 1000003))
theorem adv{α bq:Type}(f:α->bq)(j:Int)(Y:List α):kk j (Y.map f)=(kk j Y).map f:=by
 unfold kk
 rw[dC,List.map_filterMap]
 exact congrArg (H2 · _) (funext λi=>h1)
theorem adu:∀n,n<64->(sliceRange (yh none (some 60) none n).1 (yh none (some 60) none n).2.1 (yh none (some 60) none n).2.2).length<100:=by decide +kernel
theorem aci{a j:Int}(h:0<j∧j<2000000):intOp .Mod a j=some (a.emod j):=if_pos ⟨h.1,yX h.2 (by decide)⟩
theorem Zc{X:cS}(a:Nat)(ns:List Int)(h:ns.length<=63):At X uF a (ns.map .int) ([some (.val (.ref a))]++ ku 19 none) []
 =.ok (.next,[some (.val (.ref a)),none,some (.loc 2)]++ ku 17 none) [.list ((kk 60 ns).map .int),.list (((kk 60 ns).map λn=>n.emod 1000003).map .int),dX 1 0]:=by
 unfold At JM Bp
 rw[adv]
 have c:=kG (g:=some (0,.list ((kk 60 ns).map .int))) (l:=[.list ((kk 60 ns).map .int)]) (f:=jn (.one 1) (kb (e3.one 1).slots ([some (.val (.ref a))]++ ku 19 none)) (iS (kJ X .nil) (aS X uF))) (decide_eq_true rfl) L.int (λn=>[.int (n.emod 1000003)]) (kk 60 ns) λn o=>fl rfl (rr (oR (i:=n) (j:=1000003) (nO rfl rfl) rfl (aci ⟨by decide,by decide⟩) rfl) rfl)
 rw[FS,show(kk 60 ns).map (λn=>L.int (n.emod 1000003))=((kk 60 ns).map λn=>n.emod 1000003).map L.int by rw[lO];rfl] at c
 exact B (a:=.loc 2) (B (a:=[.loc 1,.int 0]) (B (a:=.loc 1) (B (iG (B (if_pos rfl) rfl) ((if_neg pC).trans c)) ((if_pos (by rw[dC,dC];exact e2 (Ia ..) (lP (adu _ (zd h)) (by decide)))).trans rfl)) rfl) rfl) rfl
noncomputable def x':ec:= @ec.casesOn (λo=>ec) Jx.body .nil (λo r=>r) .any
theorem aeb{z:aQ}{cA:List Int}{aj:Option L}:∃bb av,ff ⟨bX table 14,0⟩ x' ([aj,none,some (.loc 2)]++ ku 17 none) [z,.list (cA.map .int),dX 1 0]=.ok (.ret (.bool true),bb) av:=by
 refine eL (adq (d:=12) (aC:=0) (N:=1) (c:=2) (cA:=cA) (b:=[z,.list (cA.map .int),dX 1 0]) ⟨rfl,rfl,by decide⟩ (by decide)) λF k et aM e=>?_
 refine cr (tO (d:=13) (aC:=0) (j:=4) (Bw (F:=F) (cA:=(z,cA)) (k:=k) (bR:=[]) (b6 [_] 1 (Ns al) (.num 1000) 1 al (.add en (.num 4)) rfl aM.2)) ⟨by decide,by decide⟩) λr eV oi tG=>?_
 rw[Bx] at eV
 have aN:((iM (1+r).toNat).map λk=>((k:Nat):Int)).length<=4:=by rw[dC,wl];omega
 refine jq (agQ (cA:=(z,cA)) (aj:=aj) et ((iM (1+r).toNat).map λk=>((k:Nat):Int)) (k:=k+1) (bR:=[]) (p:=(none,none,none,none,none,none,none,none)) (λq h=>by cases h) (cf [_,_] 1 (Ns (.add (Ns al) (.mulL 13 ax))) (.num 960) 1 al (.add en (.num 4)) 13 ax (.num 4) rfl aM.2 aN) ((nD _).symm▸e2 aN (by decide))) λbR cg bN g adW oV=>?_
 rw[lO] at oV
 refine ik (aby (cA:=(z,cA)) (k:=cg) (aj:=aj) (p:=bN) et g (adW▸(nD _).symm▸e2 aN (by decide))) λbb av cJ=>?_
 exact b2 bb av (ST (B (jA (b9 rfl eW) e) rfl) ((mB.mp (aeQ (c4:=(z,.list (cA.map .int))) (bW:=dX 1 k) (aj:=aj)) F et).trans (ST (rv (O2 (B (a:=.int 1) rfl (B (jA (b9 rfl (b9 rfl eW)) eV) rfl)) (by omega) (by omega)) rfl oV) (ST cJ (iu rfl)))))
theorem adF(a:Nat)(ns:List Int)(h:ns.length<=63):∃av,M7 ⟨bX table 14,0⟩ 20 uF x' a (ns.map .int)=.ok (.bool true) av:=by
 obtain⟨bb,av,e⟩:=aeb (z:=.list ((kk 60 ns).map .int)) (cA:=(kk 60 ns).map λn=>n.emod 1000003) (aj:=some (.val (.ref a)))
 exact⟨av,B (B (Zc a ns h) e) rfl⟩
noncomputable abbrev tK:OpenRow:=PySem.Challenge.rw_rr0099_02.row
noncomputable def bO:mI:=view aH [0,2,3,4,5,7,8,9,10,11,13,14,16,17,18,19,20,21,22,23,24]
noncomputable def sS(s:I):Bool:=(aH.main.file:I)== s
noncomputable def Ej(K:cb):List (Option ed)×Option (bB×ec)×Bool×Option cV×Option (List ab)×List (Option (Option ab)):=
 (table.map λq=>(Pa K df sS q.1 q.2.slots q.2.body (Qn q.1)).map (·.1),(M6 K df 637 20 uF x' (Qn 637)).map (·.1),
  (Fu K sS 37 [] "what" 88 47).isSome&&(Fu K sS 66 ["spot"] "spot" 88 76).isSome&&u9 K (.ref 88)&& s1 K 88&&w2 K 37,K.lookup 88,(ro K 88).map (·.mro),
  [ha K gh "law",ha K gh "KindFault",jE K (.ref 88) "__getattribute__",jE K (.ref 88) "__getattr__",jE K (.ref 88) "spot",r3 K 88 "what",r3 K 88 "spot",
   jE K (.ref 88) "__setattr__",jE K (.ref 88) "__init__",(pv K (.ref 37)).map some,(pv K (.ref 66)).map some,pc K 88 47 "__init__",pc K 88 76 "__init__",ha K ux "thirdparty.any",
   (m4 K 88 (.type "Exception")).map λb=>some (.bool b),(m4 K 88 (.type "BaseException")).map λb=>some (.bool b)])
noncomputable def Ew:List (Option ed)×Option (bB×ec)×Bool×Option cV×Option (List ab)×List (Option (Option ab)):=
 (table.map λq=>some q.2,some (uF,x'),true,some (KL "KindFault" "KindFault" 88 87 [.ref 76] [.ref 76,.ref 47,.type "Exception",.type "BaseException",.type "object"] true [] [] false none none (some (.ref 79)) none (some (.str "KindFault" 269)) (some (.str "KindFault" 277)) (some (.bool true)) "Exception.__new__"),some (El 88 76 47),
  [some (some (.ref 637)),some (some (.ref 88)),some (some (.builtin "BaseException.__getattribute__")),some none,some none,some none,some none,
   some (some (.builtin "object.__setattr__")),some (some (.ref 66)),some (some (.type "function")),some (some (.type "function")),some (some (.builtin "Exception.__init__")),some (some (.ref 37)),some none,some (some (.bool true)),some (some (.bool true))])
theorem Jv(w:i9)(os:kx):(pm aH w 11 (sK w) 4400 (ra w os) (vH aH)).map (λs=>(((P5 (AM aH.main.body) (j8 w.params) s.abs.heap&&NO aH s.abs.heap&&K7 s.abs&&M2 (j8 w.params) s.abs.heap),
 RO bO [] (AM aH.main.body) (λs=>xlAt bO [] s&&recOk (Tg tK.toRowW) s) true s.abs),(pP 638 s.n&&C9 s.tree 638,Ej (oY s.tree 638))))=some ((true,openGood bO []),(true,Ew)):=by kernel_rfl
theorem NC{α bq im:Type}{A:Option α}{f:α->bq}{g:α->im}{b:bq}{c:im}(h:A.map (λs=>(f s,g s))=some (b,c)):A.map f=some b∧A.map g=some c:=by
 cases A with
 |none=>cases h
 |some s=>injection h with h;injection h with ai am;exact⟨congrArg some ai,congrArg some am⟩
theorem PH:C1 aH 4400 638 Ej Ew:=λw os=>(NC (Jv w os)).2
theorem aex:PySem.Challenge.rw_rr0099_02.wellSaid=true:=by rw[Fast.te9446332074065402090];kernel_rfl
theorem Wx:(defOf bO "law").isSome=true:=by kernel_rfl
noncomputable def fP:DefRec:=((defOf bO "law").get Wx).1
theorem Y9:defOf bO tK.name=some (fP,[]):=by kernel_rfl
theorem ZX:aH.theDef tK.name=some (fP.params,fP.body,fP.scope):=by kernel_rfl
theorem uW:kwWritten? fP.params.kwonlyargs fP.params.kw_defaults=some []:=by kernel_rfl
theorem vm:(chainsOk bO&&opensWell aH&&(frees tK.toRowW&&tK.within.isEmpty))=true:=by kernel_rfl
theorem ada:opening aH=plainProg aH.main.scope.names:=by kernel_rfl
theorem XZ(s:ay):X0 aH s=some s:=by kernel_rfl
theorem Um:aH.bare:=⟨rfl,rfl,rfl,rfl,rfl,by decide +kernel⟩
theorem adL:tK.toRowW.promised:=⟨[.list []],by decide +kernel,by decide +kernel⟩
theorem Wt:fP.name="law":=by kernel_rfl
theorem aat:importsNone aH=true:=by kernel_rfl
theorem Qw:(aH.main.scope.names.lookup ("super":I)).isSome=false:=by kernel_rfl
noncomputable def AC:Hook:=aey λK=>∃w os s,pm aH w 11 (sK w) 4400 (ra w os) (vH aH)=some s∧K=oY s.tree 638
theorem abD:LeftO aH bO [] (λs=>xlAt bO [] s&&recOk (Tg tK.toRowW) s) AC.obs AC.val 8800:=
 LeftO.acZ ada XZ rfl rfl (λw os=>(NC (Jv w os)).1) λw os s e=>eq_true ⟨_,(PH.of e).1,w,os,s,e,rfl⟩
section
open PySem PySem.W PySem.Calls PyProof.Rows Mine Mine.Internal.L2
structure RK(K:cb):Prop where
 rows:∀f dQ,table.lookup f=some dQ->uf K df sS f dQ
 abA:wj K df 637 20 uF x'
 ns:ha K gh "law"=some (some (.ref 637))
 e5:ha K gh "KindFault"=some (some (.ref 88))
 keep:u9 K (.ref 88)=true
 G:yR K 88
 K:t6 K 88 37 66 47 76
theorem Nl{f:aa}{dQ:ed}:∀{m:List (aa×ed)},m.lookup f=some dQ->(f,dQ)∈m
 |(a,b):: r,e=>by
  rw[kt] at e
  split at e
  ·rename_i q
   cases e
   rw[beq_iff_eq.mp q];exact .head _
  ·exact .tail _ (Nl e)
theorem aeg{K:cb}{f:aa}{dQ:ed}{n:Nat}{s:ec}{t:List (I×Nat)}(h:(Pa K df sS f n s t).map (·.1)=some dQ):uf K df sS f dQ:=by
 obtain⟨x,-,rfl⟩:=hL.mp h
 exact x.2
theorem Mw{K:cb}{f Q D:aa}{r:List I}{nm:I}(h:(Fu K sS f r nm Q D).isSome=true):∃aX as,as.map (·.arg)=("self":I):: ("what":I):: r∧we K f aX as nm Q D:=by
 obtain⟨x,-⟩:=zh.mp h
 exact x.down (λ_ h=>h) Qw
theorem abB{K:cb}{f:aa}{n:Nat}{e cm:bB}{r eP:ec}{t:List (I×Nat)}(h:(M6 K df f n e r t).map (·.1)=some (cm,eP)):wj K df f n cm eP:=by
 obtain⟨⟨x,aD⟩,-,rfl⟩:=hL.mp h
 exact aD
theorem Oo{x:Option ab}{v:ab}(h:x.map some=some (some v)):x=some v:=by cases x <;> cases h;rfl
theorem c3{x:Option Bool}(h:(x.map λb=>some (IW b))=some (some (.bool true))):x=some true:=by cases x <;> cases h;rfl
theorem XO{K:cb}(e:Ej K=Ew):RK K:=by
 injection e with a3 e
 injection e with a4 e
 injection e with cI e
 injection e with eV e
 injection e with g4 e
 injection e with dO e
 injection e with d3 e
 injection e with h7 e
 injection e with nT e
 injection e with UR e
 injection e with US e
 injection e with UT e
 injection e with UU e
 injection e with UV e
 injection e with UK e
 injection e with UL e
 injection e with UM e
 injection e with UN e
 injection e with UO e
 injection e with UP e
 injection e with UQ e
 obtain⟨b,zG⟩:=gk.mp cI
 obtain⟨b,rm⟩:=gk.mp b
 obtain⟨b,lZ⟩:=gk.mp b
 obtain⟨ft,gf⟩:=gk.mp b
 exact⟨λf dQ aG=>aeg (mB.mp a3 _ (Nl aG)),abB a4,dO,d3,lZ,⟨h7,nT,c3 UQ,UR,rm⟩,⟨⟨eV⟩,g4,US,UT,rm,UU,UV,Oo UK,Oo UL,zG,UM,UN,UO,c3 UP,Mw ft,Mw gf⟩⟩
theorem aea{B:bM}{J:List aa}{h:aV}{T:List ab}{ns:List Int}(x:IntsAre T ns):br B J h (ns.map .int) T:=by
 induction x with
 |nil=>exact .nil
 |cons _ _ _ aJ=>exact .cons ⟨_,rfl⟩ aJ
theorem X5:wa w:=by
 intro pw os s run bd tt jj uL a T ns vc NF view an aA wi b1 Fc AA gg du dW a7
 have F:=XO (PH.of run).2
 have e:=Oh wi b1.g F.ns
 rw[AA] at e
 cases e
 let B:bM:=⟨bd.heap,λ_=>False⟩
 have Z:∀B:bM,B.heap=bd.heap->ef (oY s.tree 638) B:=λB gA=>⟨gA▸wi,⟨jj,gA▸b1.b,b1.builtins⟩,gA▸b1.nolimit,by obtain⟨alq,⟨A,_,_,az,_⟩,_⟩:=Fc.mods;rw[gA,az];exact λe=>by cases e⟩
 have hm:∃N,bd.heap.Ns gh N∧N "KindFault"=some (.ref 88):=⟨tt,b1.g,Oh wi b1.g F.e5⟩
 have ba:=λD d=>ad2 (d:=d) (c:=⟨oY s.tree 638,D,df⟩) Z F.K F.keep F.e5 hm
 have bD:=λD d=>agL (d:=d) (c:=⟨oY s.tree 638,D,df⟩) Z F.K F.G F.e5 hm
 have lu:=F.abA ⟨14,⟨bX table 14,0⟩,bd.heap,⟨Z,DC 14,JB Z (λ_ h=>h) Qw F.rows ba bD 14⟩,B,rfl⟩ ⟨ba _ _,bD _ _⟩ a (ns.map .int) T.toArray gg (by rw[jU,oI,du.length];omega) (λB J h=>aea du)
 obtain⟨av,aL⟩:=adF a ns dW
 have S:a' B [] [] bd.heap:=⟨rfl,.nil,λ_ h=>(by cases h),λ_ _ e=>e,λn a A e=>(by cases e),λ_ e=>e.elim⟩
 refine r9 (nU (lu DF [] [] bd [.ref a] ⟨rfl,(show DF.depth+5*15<600 by decide),(show DF.units+40*15+400<hO by decide),rfl⟩ S ⟨λe h=>by cases h⟩ (.cons rfl .nil) λz=>by cases aL.symm.trans z) λr ah z=>?_)
 cases r with
 |error e=>cases z with |mk bW f1 q=>cases aL.symm.trans q
 |ok aC=>
  cases aC with
  |ret v=>
   cases z with |mk bW f1 q FQ cG eP g=>?_
   cases aL.symm.trans q
   subst eP
   exact a7 ah (λb A e=>(g.keep b A (by simp) (by simp) e).resolve_right λz=>by simp[ci] at z) g.same.2 g.same.1
  |_=>exact z.elim
end
end Mine.Internal.L2
section
open Mine.Internal Mine.Internal.L2
theorem PySem.Challenge.cw_rr0099_02_holds : PySem.Challenge.rw_rr0099_02.Holds := by
 w_on
 refine holds_law aex λaew=>W.holds_open abD (Hook.of AC) (Hook.keeps AC) (λs e=>xl_of s (gk.mp e).1) XL.keeps Y9 ZX uW (λs e=>recFacts_of (gk.mp e).2) rfl aew vm Um adL ?_
 intro w nf bd tt jj G fY uL A alB jB akX akW alm az hd ak7 dy AA dR args eR as ZZ ZG Z5 aag E2
 obtain⟨K,wi,pw,os,s,e,rfl⟩:=fY
 have b1:=G.T
 have Fc:=b1.seer aat
 rw[Wt] at AA
 wrow_args ZZ ZG Z5 aag E2
 rename_i gg _ _ _ du _ dW _
 refine TM X5 w pw os s e bd tt jj _ _ _ _ _ _ _ _ _ wi b1 Fc AA gg du (by omega) λah aM ZV xm=>?_
 exact⟨.inl ⟨_,.bool true,[],rfl,λ_=>rfl,.bool true,by kernel_rfl,λ_=>⟨.nil,by simp⟩⟩,.of_keep aM,ZV,.of_eq (xm.trans dR)⟩
end
